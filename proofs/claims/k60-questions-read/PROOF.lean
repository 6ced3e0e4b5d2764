import PyProof.Rows.All
import Wide.All
import OpenK.AllK
import Wide.FinOn
import KE.KStateDown
import HandS.Text
import HandS.ForMost
import HandS.ForExc
import HandS.Wide
import HandS.Style
import HandS.Flow
import HandS.Zip
import HandS.Rev
import HandS.IsInst
import HandS.Deep
import HandS.TupAny
import KE.KDictKeyed
import KE.KDictLaw
import HandS.SetKeys
import HandS.Comp
import HandS.Exc
import HandS.ExcOwn
import HandS.ExcInit
import HandS.TryOnly
import HandS.Iter
import HandS.RaiseMore
import HandS.More
import HandS.CallRecv
import KE.KDictDisplayH
import KE.SortData
import HandS.SetTxt0
import HandS.SetFor
import HandS.Strs
import KE.KRevIter
import HandS.RevTup
import KE.GoesEnumKw
import KE.GoesMore
import KE.GoesZip
import HandS.TupMul
import HandS.Conv
import HandS.Defaults
import HandS.Head0
import HandS.Head1
import HandS.Head2
import HandS.HeadEnd
import HandS.HeadHook1
import HandS.HeadHook2
import HandS.HeadHook4
import HandS.EndBits
import PySem.Challenge.RW_quoteweave_k60_questions_read
set_option Elab.async false
set_option linter.all false
set_option maxRecDepth 100000
set_option maxHeartbeats 0
/-! VIa: an evaluator for a part of Python, over plain data. D: data (trees that never change; `ref n`: the object n of a store).
IE, IS: expressions, statements. ev, exec, run: what they give. Plain Lean, no program in sight. -/
namespace VI

/-- a text by its code points -/
abbrev Tx := List Nat
def S (s : String) : Tx := s.toList.map Char.toNat

inductive D where
  | non | bl (b : Bool) | int (i : Int) | str (x : Tx)
  | tup (xs : List D) | lst (xs : List D) | dct (t : Nat) (kvs : List (D × D))
  | ref (n : Nat)
  | exn (c : String) (p : D)
  deriving Repr, Inhabited
mutual
def D.beq : D → D → Bool
  | .non, .non => true
  | .bl a, .bl b => decide (a = b)
  | .int a, .int b => decide (a = b)
  | .str a, .str b => decide (a = b)
  | .tup a, .tup b => D.beqL a b
  | .lst a, .lst b => D.beqL a b
  | .dct t a, .dct u b => decide (t = u) && D.beqP a b
  | .ref a, .ref b => decide (a = b)
  | .exn c a, .exn d b => decide (c = d) && D.beq a b
  | _, _ => false
def D.beqL : List D → List D → Bool
  | [], [] => true
  | a :: r, b :: s => D.beq a b && D.beqL r s
  | _, _ => false
def D.beqP : List (D × D) → List (D × D) → Bool
  | [], [] => true
  | (a, x) :: r, (b, y) :: s => D.beq a b && D.beq x y && D.beqP r s
  | _, _ => false
end
mutual
theorem D.beq_iff : ∀ (a b : D), D.beq a b = true ↔ a = b
  | .non, b => by cases b <;> simp [D.beq]
  | .bl a, b => by cases b <;> simp [D.beq]
  | .int a, b => by cases b <;> simp [D.beq]
  | .str a, b => by cases b <;> simp [D.beq]
  | .ref a, b => by cases b <;> simp [D.beq]
  | .tup a, b => by cases b <;> simp [D.beq, D.beqL_iff a]
  | .lst a, b => by cases b <;> simp [D.beq, D.beqL_iff a]
  | .dct t a, b => by cases b <;> simp [D.beq, D.beqP_iff a]
  | .exn c a, b => by cases b <;> simp [D.beq, D.beq_iff a]
theorem D.beqL_iff : ∀ (a b : List D), D.beqL a b = true ↔ a = b
  | [], b => by cases b <;> simp [D.beqL]
  | a :: r, b => by cases b <;> simp [D.beqL, D.beq_iff a, D.beqL_iff r]
theorem D.beqP_iff : ∀ (a b : List (D × D)), D.beqP a b = true ↔ a = b
  | [], b => by cases b <;> simp [D.beqP]
  | (a, x) :: r, b => by
    match b with
    | [] => simp [D.beqP]
    | (c, y) :: s => simp [D.beqP, D.beq_iff a, D.beq_iff x, D.beqP_iff r, and_assoc]
end
instance : DecidableEq D := fun a b => if h : D.beq a b = true then isTrue ((D.beq_iff a b).mp h) else isFalse fun e => h ((D.beq_iff a b).mpr e)

/-- an object that may change: a list, a dict, an instance of the class c -/
inductive MO where
  | lst (xs : List D) | dct (t : Nat) (kvs : List (D × D)) | ins (c : String) (fs : List (String × D))
  deriving DecidableEq, Repr, Inhabited
abbrev Store := List MO

/-- an exception on its way: its class, its place -/
structure Ex where
  c : String
  p : D
  deriving DecidableEq, Repr, Inhabited
inductive R (α : Type) where
  | ok (a : α) (U : Store) | ex (x : Ex) (U : Store)
  deriving Repr
/-- none: no rule, or no end -/
abbrev M (α : Type) := Store → Option (R α)
def bnd {α β : Type} (r : Option (R α)) (f : α → M β) : Option (R β) :=
  match r with
  | some (.ok a U) => f a U
  | some (.ex x U) => some (.ex x U)
  | none => none
@[simp] theorem bnd_ok {α β : Type} (a : α) (U : Store) (f : α → M β) : bnd (some (.ok a U)) f = f a U := rfl
@[simp] theorem bnd_ex {α β : Type} (x : Ex) (U : Store) (f : α → M β) : bnd (some (.ex x U)) f = some (.ex x U) := rfl
@[simp] theorem bnd_none {α β : Type} (f : α → M β) : bnd none f = none := rfl
def ret {α : Type} (a : α) : M α := fun U => some (.ok a U)
@[simp] theorem ret_eq {α : Type} (a : α) (U : Store) : ret a U = some (.ok a U) := rfl

/-- the longest list or text -/
def SZ : Nat := 16777216

/-! ### places in the store -/
def asL (U : Store) : D → Option (List D)
  | .lst xs => some xs
  | .ref n => (match U[n]? with | some (.lst xs) => some xs | _ => none)
  | _ => none
/-- a list or a tuple -/
def asQ (U : Store) : D → Option (List D)
  | .tup xs => some xs
  | d => asL U d
/-- a dict: what sort of keys it has, its pairs -/
def asD (U : Store) : D → Option (Nat × List (D × D))
  | .dct t kvs => some (t, kvs)
  | .ref n => (match U[n]? with | some (.dct t kvs) => some (t, kvs) | _ => none)
  | _ => none
def mkL (m : Bool) (xs : List D) : M D := fun U => if m then some (.ok (.ref U.length) (U ++ [.lst xs])) else some (.ok (.lst xs) U)
def mkD (m : Bool) (t : Nat) (kvs : List (D × D)) : M D := fun U => if m then some (.ok (.ref U.length) (U ++ [.dct t kvs])) else some (.ok (.dct t kvs) U)

/-! ### the tree behind a datum; objects from n₀ on are taken, others stand as they are -/
mutual
def rsv (U : Store) (n₀ : Nat) (sub : D → Option D) : D → Option D
  | .tup xs => (rsvL U n₀ sub xs).map .tup
  | .lst xs => (rsvL U n₀ sub xs).map .lst
  | .dct t kvs => (rsvP U n₀ sub kvs).map (.dct t)
  | .ref n => sub (.ref n)
  | d => some d
def rsvL (U : Store) (n₀ : Nat) (sub : D → Option D) : List D → Option (List D)
  | [] => some []
  | x :: r => (match rsv U n₀ sub x, rsvL U n₀ sub r with | some y, some s => some (y :: s) | _, _ => none)
def rsvP (U : Store) (n₀ : Nat) (sub : D → Option D) : List (D × D) → Option (List (D × D))
  | [] => some []
  | (k, x) :: r => (match rsv U n₀ sub k, rsv U n₀ sub x, rsvP U n₀ sub r with | some j, some y, some s => some ((j, y) :: s) | _, _, _ => none)
end
def subAt (U : Store) (n₀ : Nat) : Nat → D → Option D
  | 0, _ => none
  | f + 1, .ref n => if n < n₀ then some (.ref n) else (match U[n]? with
    | some (.lst xs) => (rsvL U n₀ (subAt U n₀ f) xs).map .lst
    | some (.dct t kvs) => (rsvP U n₀ (subAt U n₀ f) kvs).map (.dct t)
    | _ => none)
  | _, _ => none
def rs (U : Store) (n₀ : Nat) (d : D) : Option D := rsv U n₀ (subAt U n₀ 8) d
def snap (U : Store) (d : D) : Option D := rs U 0 d

/-! ### equality and order of trees, as Python has them -/
mutual
def pyeq : D → D → Bool
  | .tup a, .tup b => pyeqL a b
  | .lst a, .lst b => pyeqL a b
  | .bl a, .int j => decide ((if a then 1 else 0 : Int) = j)
  | .int i, .bl b => decide (i = (if b then 1 else 0 : Int))
  | .non, .non => true
  | .bl a, .bl b => decide (a = b)
  | .int a, .int b => decide (a = b)
  | .str a, .str b => decide (a = b)
  | _, _ => false
def pyeqL : List D → List D → Bool
  | [], [] => true
  | a :: r, b :: s => pyeq a b && pyeqL r s
  | _, _ => false
end
mutual
/-- None, bools, ints, texts, lists and tuples of these, at most n deep -/
def plain : D → Nat → Bool
  | .tup _, 0 => false
  | .lst _, 0 => false
  | .tup xs, n + 1 => plainL xs n
  | .lst xs, n + 1 => plainL xs n
  | .str x, _ => x.all fun c => decide (c < 1114112)
  | .dct _ _, _ => false
  | .ref _, _ => false
  | .exn _ _, _ => false
  | _, _ => true
def plainL : List D → Nat → Bool
  | [], _ => true
  | x :: r, n => plain x n && plainL r n
end
/-- two data without parts, not a bool beside an int -/
def scalS : D → D → Bool
  | .non, .non => true
  | .non, .int _ => true
  | .int _, .non => true
  | .non, .bl _ => true
  | .bl _, .non => true
  | .non, .str _ => true
  | .str _, .non => true
  | .int _, .int _ => true
  | .bl _, .bl _ => true
  | .str _, .str _ => true
  | .int _, .str _ => true
  | .str _, .int _ => true
  | .bl _, .str _ => true
  | .str _, .bl _ => true
  | _, _ => false
/-- == of two data -/
def eqv (U : Store) (a b : D) : Option Bool :=
  if scalS a b then some (pyeq a b) else
  match snap U a, snap U b with
  | some x, some y => if plain x 40 && plain y 40 then some (pyeq x y) else none
  | _, _ => none
def flat : D → Bool
  | .non => true
  | .bl _ => true
  | .int _ => true
  | .str _ => true
  | _ => false
def snapL (U : Store) : List D → Option (List D)
  | [] => some []
  | x :: r => (match snap U x, snapL U r with | some y, some s => some (y :: s) | _, _ => none)
/-- a and the items of a list (or tuple) d as trees; of a tuple flat ones alone -/
def snaps (U : Store) (a d : D) (xs : List D) : Option (D × List D) :=
  if flat a && xs.all flat then some (a, xs) else
  match asL U d, snap U a, snapL U xs with
  | some _, some x, some ys => if plain x 40 && plainL ys 39 then some (x, ys) else none
  | _, _, _ => none
def inL (U : Store) (a d : D) (xs : List D) : Option Bool :=
  match snaps U a d xs with
  | some (x, ys) => some (ys.any fun y => pyeq y x)
  | none => none
/-- the first place of a in a list -/
def ixOf (U : Store) (a d : D) (xs : List D) : Option Nat :=
  match snaps U a d xs with
  | some (x, ys) => ys.findIdx? fun y => pyeq y x
  | none => none
mutual
/-- a < b, for data of one shape -/
def pylt : D → D → Option Bool
  | .int a, .int b => some (decide (a < b))
  | .str a, .str b => some (decide (a < b))
  | .tup a, .tup b => pyltL a b
  | .lst a, .lst b => pyltL a b
  | _, _ => none
def pyltL : List D → List D → Option Bool
  | [], [] => some false
  | [], _ :: _ => some true
  | _ :: _, [] => some false
  | a :: r, b :: s => if pyeq a b then pyltL r s else pylt a b
end
/-- what sort of key: an int or a text, a tuple of such, a tuple of such tuples -/
def flatK : D → Bool
  | .int _ => true
  | .str _ => true
  | _ => false
def tupK : D → Bool
  | .tup xs => xs.all flatK
  | _ => false
def pairK : D → Bool
  | .tup [a, b] => tupK a && tupK b
  | _ => false
/-- a key of a dict of the sort t: 0 ints and texts, 1 tuples -/
def keyFor (t : Nat) (k : D) : Bool :=
  match t with
  | 0 => flatK k
  | 1 => tupK k || pairK k
  | _ => false
def lookD (kvs : List (D × D)) (k : D) : Option D :=
  match kvs with
  | [] => none
  | (j, x) :: r => if j = k then some x else lookD r k
def putD (kvs : List (D × D)) (k v : D) : List (D × D) :=
  match kvs with
  | [] => [(k, v)]
  | (j, x) :: r => if j = k then (j, v) :: r else (j, x) :: putD r k v
def dropD (kvs : List (D × D)) (k : D) : List (D × D) :=
  match kvs with
  | [] => []
  | (j, x) :: r => if j = k then r else (j, x) :: dropD r k

/-! ### indices, slices -/
def sIx (n d : Nat) : Option Int → Nat
  | none => d
  | some v => if v < 0 then (v + (n : Int)).toNat else min v.toNat n
def cut {α : Type} (xs : List α) (lo hi : Option Int) : List α := (xs.drop (sIx xs.length 0 lo)).take (sIx xs.length xs.length hi - sIx xs.length 0 lo)
def ixN (n : Nat) (i : Int) : Option Nat := if 0 ≤ i then (if i < n then some i.toNat else none) else if -(n : Int) ≤ i then some (i + n).toNat else none
def atI {α : Type} (xs : List α) (i : Int) : Option α := (ixN xs.length i).bind fun j => xs[j]?

/-! ### texts -/
/-- split at a sign -/
def splitC (c : Nat) : Tx → List Tx
  | [] => [[]]
  | x :: r => if x = c then [] :: splitC c r else (match splitC c r with
    | [] => [[x]]
    | w :: ws => (x :: w) :: ws)
def joinT (sep : Tx) : List Tx → Tx
  | [] => []
  | [x] => x
  | x :: y :: r => x ++ (sep ++ joinT sep (y :: r))
def isPre : Tx → Tx → Bool
  | [], _ => true
  | _ :: _, [] => false
  | a :: r, b :: s => decide (a = b) && isPre r s
def showI (i : Int) : Tx := (toString i).toList.map Char.toNat
/-- the number that a text of figures writes -/
def readN (x : Tx) : Nat := x.foldl (fun n c => n * 10 + (c - 48)) 0
def isFig (c : Nat) : Bool := 48 ≤ c && c ≤ 57
/-- signs from the blank to ~ -/
def isSign (c : Nat) : Bool := 32 ≤ c && c ≤ 126
def rstripT (x : Tx) : Tx := (x.reverse.dropWhile fun c => decide (c = 32)).reverse
def findC (c : Nat) : Tx → Nat → Int
  | [], _ => -1
  | x :: r, i => if x = c then (i : Int) else findC c r (i + 1)
/-- all are texts -/
def texts : List D → Option (List Tx)
  | [] => some []
  | .str x :: r => (match texts r with | some s => some (x :: s) | none => none)
  | _ :: _ => none

/-! ### the syntax -/
inductive BOp | add | sub | mul | fdiv | mod | pow
  deriving DecidableEq, Repr
inductive COp | eq | ne | lt | le | gt | ge | isIn | notIn | is | isNot
  deriving DecidableEq, Repr
/-- functions and methods that the language gives; the receiver is the first argument. m: the list made may change -/
inductive P where
  | len | str1 | int1 | abs | max2 | min2
  | list1 | listRange | tuple1 | dict1 | sorted1 | sortedSet | lenSet | any1 | all1 | divmod2
  | join | split | startswith | rstrip | find | index | count | isdigit
  | get1 | get2 | repr1 | rev1 | listRev | tindex
  | append | extend | insert | pop0 | pop1 | popD | clear | reverse | setdefault
  deriving DecidableEq, Repr
/-- a target: a name, or names -/
inductive Tg where
  | var (i : Nat) | tup (ts : List Nat) | tup2 (a : Nat) (bs : List Nat)
  deriving DecidableEq, Repr
mutual
inductive IE where
  | cst (d : D)
  | glo (x : String) (d : D)
  | var (i : Nat)
  | bin (op : BOp) (m : Bool) (a b : IE)
  | neg (a : IE)
  | cmp (op : COp) (a b : IE)
  | cmp2 (op1 op2 : COp) (a b c : IE)
  | andE (a b : IE)
  | orE (a b : IE)
  | notE (a : IE)
  | ite (t a b : IE)
  | tup (es : IEs)
  | lst (m : Bool) (es : IEs)
  | dnil (m : Bool) (t : Nat)
  | done (m : Bool) (t : Nat) (k v : IE)
  | repL (m : Bool) (es : IEs) (k : IE)
  | idx (a i : IE)
  | slc (m : Bool) (a lo hi : IE)
  | fld (a : IE) (f : String)
  | call (fz : Bool) (f : String) (es : IEs)
  | meth (fz : Bool) (c f : String) (a : IE) (es : IEs)
  | make (c : String) (es : IEs)
  | prim (p : P) (m : Bool) (es : IEs)
  | lc (m : Bool) (own : List Nat) (tg : Tg) (it : It) (cond : IE) (el : IE)
  | isin (a : IE) (cs : List String)
  | sortK (m : Bool) (a : IE) (caps : List Nat) (key : IE)
  | minK (a : IE) (caps : List Nat) (key : IE)
inductive IEs where
  | nil | cons (e : IE) (r : IEs)
inductive It where
  | seq (e : IE)
  | range1 (a : IE) | range2 (a b : IE) | range3 (a b : IE) (c : Int)
  | enum (e : IE) (k : Int)
  | zip (a b : IE)
  | rev (e : IE)
  | keys (i : Nat)
end
mutual
inductive IS where
  | asg (tg : Tg) (e : IE)
  | asgI (o i e : IE)
  | asgF (o : IE) (f : String) (e : IE)
  | asgIV (o i : IE) (v : Nat) (e : IE)
  | aug (i : Nat) (op : BOp) (e : IE)
  | expr (e : IE)
  | ret (e : IE)
  | retN
  | ifS (t : IE) (a b : ISs)
  | forS (tg : Tg) (it : It) (b : ISs)
  | whileS (t : IE) (b : ISs)
  | brk
  | pass
  | raise (c : String) (w p : IE)
  | tryS (b : ISs) (c : String) (i : Option Nat) (h : ISs)
  | never
inductive ISs where
  | nil | cons (s : IS) (r : ISs)
end
/-- a comprehension without a test -/
def yes : IE := .cst (.bl true)
structure Fn where
  np : Nat
  ns : Nat
  body : ISs
abbrev Tab := String → Option Fn

/-! ### operators -/
/-- bits of a whole number -/
def bits (i : Int) : Nat := if i = 0 then 0 else i.natAbs.log2 + 1
def mulOk (i j : Int) : Bool := decide (bits i ≤ 64) || decide (bits j ≤ 64) || decide (bits i + bits j ≤ 100000000)
def divOk (j : Int) : Bool := decide (0 < j) && decide (j.natAbs.log2 < 9000)
def addOp (m : Bool) (a b : D) : M D := fun U =>
  match a, b with
  | .int i, .int j => some (.ok (.int (i + j)) U)
  | .str x, .str y => if x.length + y.length ≤ SZ then some (.ok (.str (x ++ y)) U) else none
  | .tup x, .tup y => if x.length + y.length ≤ SZ then some (.ok (.tup (x ++ y)) U) else none
  | x, y => (match asL U x, asL U y with
    | some xs, some ys => if xs.length + ys.length ≤ SZ then mkL m (xs ++ ys) U else none
    | _, _ => none)
def mulOp (_ : Bool) (a b : D) : M D := fun U =>
  match a, b with
  | .int i, .int j => if mulOk i j then some (.ok (.int (i * j)) U) else none
  | .str x, .int k => if -1000000 ≤ k ∧ k ≤ 1000000 ∧ x.length * k.toNat ≤ SZ then some (.ok (.str (List.replicate k.toNat x).flatten) U) else none
  | _, _ => none
def binop (op : BOp) (m : Bool) (a b : D) : M D := fun U =>
  match op with
  | .add => addOp m a b U
  | .sub => (match a, b with | .int i, .int j => some (.ok (.int (i - j)) U) | _, _ => none)
  | .mul => mulOp m a b U
  | .fdiv => (match a, b with | .int i, .int j => if divOk j then some (.ok (.int (i / j)) U) else none | _, _ => none)
  | .mod => (match a, b with | .int i, .int j => if 0 < j then some (.ok (.int (i % j)) U) else none | _, _ => none)
  | .pow => (match a, b with | .int i, .int j => if 0 ≤ j ∧ j ≤ 1000 ∧ i.natAbs < 18446744073709551616 then some (.ok (.int (i ^ j.toNat)) U) else none | _, _ => none)
def hasD (U : Store) (k d : D) : Option Bool :=
  match asD U d with
  | some (t, kvs) => if keyFor t k then some (lookD kvs k).isSome else none
  | none => none
def member (U : Store) (a b : D) : Option Bool :=
  match a, b with
  | .str x, .str y => (match x with
    | [c] => some (decide (c ∈ y))
    | _ => none)
  | _, _ => (match asQ U b with
    | some xs => inL U a b xs
    | none => hasD U a b)
def cmpop (op : COp) (U : Store) (a b : D) : Option Bool :=
  match op with
  | .eq => eqv U a b
  | .ne => (eqv U a b).map (! ·)
  | .isIn => member U a b
  | .notIn => (member U a b).map (! ·)
  | .is => (match a, b with
    | x, .non => (match x with | .non => some true | _ => some false)
    | .bl x, .bl y => some (decide (x = y))
    | _, _ => none)
  | .isNot => (match a, b with
    | x, .non => (match x with | .non => some false | _ => some true)
    | .bl x, .bl y => some (!decide (x = y))
    | _, _ => none)
  | .lt => (match a, b with
    | .int i, .int j => some (decide (i < j))
    | .str x, .str y => some (decide (x < y))
    | _, _ => none)
  | .le => (match a, b with
    | .int i, .int j => some (decide (i ≤ j))
    | _, _ => none)
  | .gt => (match a, b with
    | .int i, .int j => some (decide (j < i))
    | _, _ => none)
  | .ge => (match a, b with
    | .int i, .int j => some (decide (j ≤ i))
    | _, _ => none)
def truth (U : Store) : D → Option Bool
  | .non => some false
  | .bl b => some b
  | .int i => some (decide (i ≠ 0))
  | .str x => if x.length ≤ SZ then some (!x.isEmpty) else none
  | .tup xs => some (!xs.isEmpty)
  | .lst xs => some (!xs.isEmpty)
  | .dct t kvs => if t = 0 then some (!kvs.isEmpty) else none
  | .ref n => (match U[n]? with
    | some (.lst xs) => some (!xs.isEmpty)
    | some (.dct t kvs) => if t = 0 then some (!kvs.isEmpty) else none
    | _ => none)
  | .exn _ _ => none
def tru (x : D) : M Bool := fun U => match truth U x with
  | some k => some (.ok k U)
  | none => none
/-- the classes of the errors: each, and those above it -/
def above (c : String) : List String := [c, "WorldError", "ValueError"]
/-- the built-in type of a datum -/
def tyN (U : Store) (d : D) : Option String :=
  match d with
  | .non => some "NoneType"
  | .bl _ => some "bool"
  | .int _ => some "int"
  | .str _ => some "str"
  | .tup _ => some "tuple"
  | .lst _ => some "list"
  | .dct t _ => if t = 0 then some "dict" else none
  | .ref n => (match U[n]? with
    | some (.lst _) => some "list"
    | some (.dct t _) => if t = 0 then some "dict" else none
    | _ => none)
  | .exn _ _ => none
def someTypes : List String := ["bool", "int", "str", "tuple", "list", "dict"]
def isInst1 (U : Store) (d : D) (c : String) : Option Bool :=
  match d with
  | .exn e _ => some ((above e).contains c)
  | d => (match tyN U d with
    | some t => if someTypes.contains c then some (t == c || (t == "bool" && c == "int")) else none
    | none => none)
def isInst (U : Store) (d : D) : List String → Option Bool
  | [] => some false
  | c :: r => (match isInst1 U d c with
    | some true => some true
    | some false => isInst U d r
    | none => none)

/-! ### sorting -/
def ltD (a b : D) : Bool := (pylt a b).getD false
mutual
/-- two data of one shape, that can be put in order -/
def alike : D → D → Bool
  | .int _, .int _ => true
  | .str _, .str _ => true
  | .tup a, .tup b => alikeT a b
  | .lst a, .lst b => alikeA a b
  | _, _ => false
def alikeT : List D → List D → Bool
  | [], [] => true
  | a :: r, b :: s => alike a b && alikeT r s
  | _, _ => false
def alikeA : List D → List D → Bool
  | [], _ => true
  | _, [] => true
  | a :: r, b :: s => alike a b && alikeA r s
end
/-- all are tuples with an item at least, or none is a tuple -/
def isT1 : D → Bool
  | .tup (_ :: _) => true
  | _ => false
def noTu : D → Bool
  | .tup _ => false
  | _ => true
def canSort (ks : List D) : Bool := (ks.all fun a => ks.all fun b => alike a b) && (ks.all isT1 || ks.all noTu)
/-- xs sorted by the keys ks (trees, one for each): stable, the least first -/
def sortBy (ks xs : List D) : Option (List D) :=
  if ks.length = xs.length ∧ canSort ks then some (((ks.zip xs).mergeSort fun p q => !ltD q.1 p.1).map (·.2)) else none
/-- texts, each once -/
def dedupT : List Tx → List Tx
  | [] => []
  | x :: r => if r.contains x then dedupT r else x :: dedupT r

/-! ### what the language gives -/
def updS (U : Store) (n : Nat) (o : MO) : Store := U.set n o
def intOf : D → Option Int
  | .int i => some i
  | _ => none
def rangeL (a b : Int) : List D := (List.range (b - a).toNat).map fun (k : Nat) => .int (a + (k : Int))
def pairsOf : List D → Option (List (D × D))
  | [] => some []
  | .tup [k, v] :: r => (match pairsOf r with | some s => if flatK k then some ((k, v) :: s) else none | none => none)
  | _ :: _ => none
def mergeD (acc : List (D × D)) : List (D × D) → List (D × D)
  | [] => acc
  | (k, v) :: r => mergeD (putD acc k v) r
def bools : List D → Option (List Bool)
  | [] => some []
  | .bl b :: r => (match bools r with | some s => some (b :: s) | none => none)
  | _ :: _ => none
def lenOf (d : D) : M D := fun U => match d with
  | .str x => if x.length ≤ SZ then some (.ok (.int x.length) U) else none
  | d => (match asQ U d with
    | some xs => some (.ok (.int xs.length) U)
    | none => (match asD U d with
      | some (t, kvs) => if t = 0 then some (.ok (.int kvs.length) U) else none
      | none => none))
def listOf (m : Bool) (d : D) : M D := fun U => match asQ U d with
  | some xs => mkL m xs U
  | none => (match asD U d with
    | some (t, kvs) => if t = 0 then mkL m (kvs.map (·.1)) U else none
    | none => none)
def prim (p : P) (m : Bool) (ds : List D) : M D := fun U =>
  match p, ds with
  | .len, [d] => lenOf d U
  | .str1, [.int i] => if bits i ≤ 1900 then some (.ok (.str (showI i)) U) else none
  | .str1, [.str x] => some (.ok (.str x) U)
  | .int1, [.int i] => some (.ok (.int i) U)
  | .int1, [.bl b] => some (.ok (.int (if b then 1 else 0)) U)
  | .int1, [.str x] => if x ≠ [] ∧ x.all isFig ∧ x.length ≤ 600 then some (.ok (.int (readN x)) U) else none
  | .abs, [.int i] => some (.ok (.int (if i < 0 then -i else i)) U)
  | .max2, [.int i, .int j] => some (.ok (.int (if j > i then j else i)) U)
  | .min2, [.int i, .int j] => some (.ok (.int (if j < i then j else i)) U)
  | .list1, [d] => listOf m d U
  | .listRange, [.int n] => if -1000000 ≤ n ∧ n ≤ 1000000 then mkL m (rangeL 0 n) U else none
  | .tuple1, [d] => (match asQ U d with
    | some xs => some (.ok (.tup xs) U)
    | none => none)
  | .dict1, [d] => (match asL U d with
    | some xs => (match pairsOf xs with
      | some kvs => mkD m 0 (mergeD [] kvs) U
      | none => none)
    | none => none)
  | .sorted1, [d] => (match asL U d with
    | some xs => (match snapL U xs with
      | some ks => if plainL ks 39 then (match sortBy ks xs with
        | some ys => mkL m ys U
        | none => none) else none
      | none => none)
    | none => none)
  | .sortedSet, [d] => (match asL U d with
    | some xs => (match texts xs with
      | some ts => if ts.length ≤ 4000 then (match sortBy ((dedupT ts).map .str) ((dedupT ts).map .str) with
        | some ys => mkL m ys U
        | none => none) else none
      | none => none)
    | none => none)
  | .lenSet, [d] => (match asL U d with
    | some xs => (match texts xs with
      | some ts => if ts.length ≤ 4000 then some (.ok (.int (dedupT ts).length) U) else none
      | none => none)
    | none => none)
  | .any1, [d] => (match asL U d with
    | some xs => (match bools xs with | some bs => some (.ok (.bl (bs.any id)) U) | none => none)
    | none => none)
  | .all1, [d] => (match asL U d with
    | some xs => (match bools xs with | some bs => some (.ok (.bl (bs.all id)) U) | none => none)
    | none => none)
  | .divmod2, [.int i, .int j] => if 0 < j ∧ j < 1073741824 then some (.ok (.tup [.int (i / j), .int (i % j)]) U) else none
  | .join, [.str sep, d] => (match asQ U d with
    | some xs => (match texts xs with
      | some ts => if (ts.map (·.length)).sum + ts.length * sep.length ≤ SZ then some (.ok (.str (joinT sep ts)) U) else none
      | none => none)
    | none => none)
  | .split, [.str x, .str [c]] => if x.length + 2 ≤ SZ ∧ c < 128 then mkL m ((splitC c x).map .str) U else none
  | .rev1, [d] => (match d with
    | .tup xs => some (.ok (.tup xs.reverse) U)
    | d => (match asL U d with
      | some xs => mkL m xs.reverse U
      | none => none))
  | .listRev, [d] => (match asL U d with
    | some xs => mkL m xs.reverse U
    | none => none)
  | .startswith, [.str x, .str y] => if y = [] then none else some (.ok (.bl (isPre y x)) U)
  | .rstrip, [.str x] => if x.all isSign ∧ x.length ≤ SZ then some (.ok (.str (rstripT x)) U) else none
  | .find, [.str x, .str [c]] => some (.ok (.int (findC c x 0)) U)
  | .tindex, [.tup xs, .str z] => (match texts xs with
    | some ts => if z ∈ ts then some (.ok (.int (ts.idxOf z)) U) else none
    | none => none)
  | .index, [d, a] => (match asL U d with
    | some xs => (match ixOf U a d xs with
      | some i => some (.ok (.int i) U)
      | none => none)
    | none => none)
  | .count, [d, a] => (match asL U d with
    | some xs => (match bools xs, a with
      | some bs, .bl b => some (.ok (.int (bs.countP fun x => x == b)) U)
      | _, _ => none)
    | none => none)
  | .isdigit, [.str x] => if x.all (fun c => decide (c < 128)) then some (.ok (.bl (!x.isEmpty && x.all isFig)) U) else none
  | .get1, [d, k] => (match asD U d with
    | some (t, kvs) => if keyFor t k then some (.ok ((lookD kvs k).getD .non) U) else none
    | none => none)
  | .get2, [d, k, x] => (match asD U d with
    | some (t, kvs) => if keyFor t k then some (.ok ((lookD kvs k).getD x) U) else none
    | none => none)
  | .append, [.ref n, x] => (match U[n]? with
    | some (.lst xs) => if xs.length < SZ then some (.ok .non (updS U n (.lst (xs ++ [x])))) else none
    | _ => none)
  | .extend, [.ref n, .ref k] => (match U[n]?, U[k]? with
    | some (.lst xs), some (.lst ys) => if xs.length + ys.length ≤ SZ then some (.ok .non (updS U n (.lst (xs ++ ys)))) else none
    | _, _ => none)
  | .insert, [.ref n, .int i, x] => (match U[n]? with
    | some (.lst xs) => if 0 ≤ i ∧ i ≤ xs.length ∧ xs.length < SZ then some (.ok .non (updS U n (.lst (xs.take i.toNat ++ x :: xs.drop i.toNat)))) else none
    | _ => none)
  | .pop0, [.ref n] => (match U[n]? with
    | some (.lst xs) => (match xs.getLast? with
      | some x => some (.ok x (updS U n (.lst xs.dropLast)))
      | none => none)
    | _ => none)
  | .pop1, [.ref n, k] => (match U[n]? with
    | some (.lst xs) => (match k with
      | .int i => if 0 ≤ i ∧ i < xs.length ∧ i < 1000000000 then (match xs[i.toNat]? with
        | some x => some (.ok x (updS U n (.lst (xs.eraseIdx i.toNat))))
        | none => none) else none
      | _ => none)
    | _ => none)
  | .popD, [.ref n, k] => (match U[n]? with
    | some (.dct t kvs) => if keyFor t k then (match lookD kvs k with
      | some x => some (.ok x (updS U n (.dct t (dropD kvs k))))
      | none => none) else none
    | _ => none)
  | .clear, [.ref n] => (match U[n]? with
    | some (.lst _) => some (.ok .non (updS U n (.lst [])))
    | _ => none)
  | .reverse, [.ref n] => (match U[n]? with
    | some (.lst xs) => some (.ok .non (updS U n (.lst xs.reverse)))
    | _ => none)
  | .setdefault, [.ref n, k, x] => (match U[n]? with
    | some (.dct t kvs) => if keyFor t k ∧ kvs.length < SZ then (match lookD kvs k with
      | some y => some (.ok y U)
      | none => some (.ok x (updS U n (.dct t (putD kvs k x))))) else none
    | _ => none)
  | _, _ => none
def index1 (o i : D) : M D := fun U =>
  match o, i with
  | .str x, .int i => if x.length ≤ SZ then (match atI x i with | some c => some (.ok (.str [c]) U) | none => none) else none
  | o, i => (match asQ U o with
    | some xs => (match i with
      | .int i => (match atI xs i with | some v => some (.ok v U) | none => none)
      | _ => none)
    | none => (match asD U o with
      | some (t, kvs) => if keyFor t i then (match lookD kvs i with | some v => some (.ok v U) | none => none) else none
      | none => none))
def bnd? : D → Option (Option Int)
  | .non => some none
  | .int i => some (some i)
  | _ => none
def sliceB (m : Bool) (o : D) (l h : Option Int) : M D := fun U => match o with
  | .str x => if x.length ≤ SZ then some (.ok (.str (cut x l h)) U) else none
  | .tup xs => some (.ok (.tup (cut xs l h)) U)
  | o => (match asL U o with
    | some xs => mkL m (cut xs l h) U
    | none => none)
def slice1 (m : Bool) (o lo hi : D) : M D := fun U =>
  match bnd? lo, bnd? hi with
  | some l, some h => sliceB m o l h U
  | _, _ => none
def putFld (f : String) (v : D) : List (String × D) → List (String × D)
  | [] => [(f, v)]
  | (g, x) :: r => if g = f then (g, v) :: r else (g, x) :: putFld f v r
def setIx (o i v : D) : M Unit := fun U =>
  match o with
  | .ref n => (match U[n]? with
    | some (.lst xs) => (match i with
      | .int k => (match ixN xs.length k with
        | some j => some (.ok () (updS U n (.lst (xs.set j v))))
        | none => none)
      | _ => none)
    | some (.dct t kvs) => if keyFor t i ∧ kvs.length < SZ then some (.ok () (updS U n (.dct t (putD kvs i v)))) else none
    | _ => none)
  | _ => none
def setFld (o : D) (f : String) (v : D) : M Unit := fun U =>
  match o with
  | .ref n => (match U[n]? with
    | some (.ins c fs) => if fs.length < 900 then some (.ok () (updS U n (.ins c (putFld f v fs)))) else none
    | _ => none)
  | _ => none
def getFld (o : D) (f : String) : M D := fun U =>
  match o with
  | .ref n => (match U[n]? with
    | some (.ins _ fs) => (match fs.lookup f with | some v => some (.ok v U) | none => none)
    | _ => none)
  | .exn _ p => if f = "place" then some (.ok p U) else none
  | _ => none

/-- what a method is asked of -/
def recvOk (p : P) (U : Store) (x : D) : Bool :=
  match p with
  | .join | .split | .startswith | .rstrip | .find | .isdigit => (match x with | .str _ => true | _ => false)
  | .index | .count | .append | .extend | .insert | .pop0 | .pop1 | .clear | .reverse => (asL U x).isSome
  | .get1 | .get2 | .setdefault | .popD => (asD U x).isSome
  | _ => true
/-! ### the evaluator -/
abbrev Rho := List (Option D)
/-- calls: a def's name, its arguments -/
abbrev Cal := String → List D → M D
def wipe (ρ : Rho) : List Nat → Rho
  | [] => ρ
  | v :: vs => (wipe ρ vs).set v none
def setAll (ρ : Rho) : List Nat → List D → Option Rho
  | [], [] => some ρ
  | i :: is, d :: ds => setAll (ρ.set i (some d)) is ds
  | _, _ => none
def asgT (U : Store) (tg : Tg) (d : D) (ρ : Rho) : Option Rho :=
  match tg with
  | .var i => some (ρ.set i (some d))
  | .tup is => (match asQ U d with
    | some ds => setAll ρ is ds
    | none => none)
  | .tup2 a bs => (match d with
    | .tup [x, y] => (match asQ U y with
      | some ds => setAll (ρ.set a (some x)) bs ds
      | none => none)
    | _ => none)
/-- what a call gives: where fz, everything that it made is taken as a tree and the store must be as it was -/
def frz (fz : Bool) (U : Store) (r : Option (R D)) : Option (R D) :=
  if fz then (match r with
    | some (.ok d V) => if V.take U.length = U then (match rs V U.length d with
      | some d' => some (.ok d' U)
      | none => none) else none
    | some (.ex x V) => if V.take U.length = U ∧ flat x.p then some (.ex x U) else none
    | none => none) else r
/-- what is walked: at each turn an item, by the store; behind the last whether that is the end -/
structure Src where
  get : List (Store → Option D)
  fin : Store → Bool
def fixS (xs : List D) : Src := ⟨xs.map fun x _ => some x, fun _ => true⟩
def liveS (n k : Nat) : Src := ⟨(List.range k).map fun i U => (match U[n]? with
  | some (.lst ys) => if ys.length = k then ys[i]? else none
  | _ => none), fun U => (match U[n]? with
  | some (.lst ys) => decide (ys.length = k)
  | _ => false)⟩
def srcOf (U : Store) (d : D) : Option Src :=
  match d with
  | .lst xs => some (fixS xs)
  | .tup xs => some (fixS xs)
  | .str x => some (fixS (x.map fun c => .str [c]))
  | .ref n => (match U[n]? with
    | some (.lst xs) => some (liveS n xs.length)
    | _ => none)
  | _ => none
/-- a list alone -/
def srcL (U : Store) (d : D) : Option Src :=
  match d with
  | .lst xs => some (fixS xs)
  | .ref n => (match U[n]? with
    | some (.lst xs) => some (liveS n xs.length)
    | _ => none)
  | _ => none
def enumS (k : Int) : Nat → List (Store → Option D) → List (Store → Option D)
  | _, [] => []
  | i, g :: r => (fun U => (g U).map fun x => .tup [.int (k + i), x]) :: enumS k (i + 1) r
def zipS : List (Store → Option D) → List (Store → Option D) → List (Store → Option D)
  | g :: r, h :: s => (fun U => (match g U, h U with | some x, some y => some (.tup [x, y]) | _, _ => none)) :: zipS r s
  | _, _ => []
/-- two tuples, or two lists -/
def zipOf (U : Store) (x y : D) : Option (Src × Src) :=
  match x, y with
  | .tup xs, .tup ys => some (fixS xs, fixS ys)
  | .str x, y => (match srcL U y with
    | some t => some (fixS (x.map fun c => .str [c]), t)
    | none => none)
  | .tup xs, y => (match srcL U y with
    | some t => some (fixS xs, t)
    | none => none)
  | x, y => (match srcL U x, srcL U y with
    | some s, some t => some (s, t)
    | _, _ => none)
def small (i : Int) : Bool := decide (-1000000000 ≤ i) && decide (i ≤ 1000000000)
/-- nothing raised -/
def noEx {α : Type} (r : Option (R α)) : Option (R α) :=
  match r with
  | some (.ok a U) => some (.ok a U)
  | _ => none
@[simp] theorem noEx_ok {α : Type} (a : α) (U : Store) : noEx (some (.ok a U)) = some (.ok a U) := rfl
/-- one turn of a comprehension -/
def turnL (tg : Tg) (cond : Rho → M Bool) (el : Rho → M D) (ρ : Rho) (x : D) (V : Store) : Option (R (Option D)) := noEx (match asgT V tg x ρ with
  | some ρ2 => bnd (cond ρ2 V) fun k V1 => if k then bnd (el ρ2 V1) fun d V2 => ret (some d) V2 else ret none V1
  | none => none)
/-- a comprehension's items -/
def lcGo (turn : D → M (Option D)) : List (Store → Option D) → M (List D)
  | [] => ret []
  | g :: r => fun U => (match g U with
    | some x => bnd (turn x U) fun o U1 => bnd (lcGo turn r U1) fun ds U2 => ret (match o with | some d => d :: ds | none => ds) U2
    | none => none)
mutual
def ev (C : Cal) : IE → Rho → M D
  | .cst d, _, U => some (.ok d U)
  | .glo _ d, _, U => some (.ok d U)
  | .var i, ρ, U => (match ρ[i]? with
    | some (some d) => some (.ok d U)
    | _ => none)
  | .bin op m a b, ρ, U => bnd (ev C a ρ U) fun x U1 => bnd (ev C b ρ U1) fun y U2 => binop op m x y U2
  | .neg a, ρ, U => bnd (ev C a ρ U) fun x U1 => (match x with
    | .int i => some (.ok (.int (-i)) U1)
    | _ => none)
  | .cmp op a b, ρ, U => bnd (ev C a ρ U) fun x U1 => bnd (ev C b ρ U1) fun y U2 => (match cmpop op U2 x y with
    | some k => some (.ok (.bl k) U2)
    | none => none)
  | .cmp2 op1 op2 a b c, ρ, U => bnd (ev C a ρ U) fun x U1 => bnd (ev C b ρ U1) fun y U2 => (match cmpop op1 U2 x y with
    | some k => if k then bnd (ev C c ρ U2) fun z U3 => (match cmpop op2 U3 y z with
      | some j => some (.ok (.bl j) U3)
      | none => none) else some (.ok (.bl false) U2)
    | none => none)
  | .andE a b, ρ, U => bnd (ev C a ρ U) fun x U1 => (match x with
    | .bl k => if k then ev C b ρ U1 else some (.ok (.bl false) U1)
    | _ => none)
  | .orE a b, ρ, U => bnd (ev C a ρ U) fun x U1 => (match x with
    | .bl k => if k then some (.ok (.bl true) U1) else ev C b ρ U1
    | _ => none)
  | .notE a, ρ, U => bnd (ev C a ρ U) fun x U1 => (match x with
    | .bl k => some (.ok (.bl (!k)) U1)
    | _ => none)
  | .ite t a b, ρ, U => bnd (evB C t ρ U) fun k U1 => if k then ev C a ρ U1 else ev C b ρ U1
  | .tup es, ρ, U => bnd (evs C es ρ U) fun ds U1 => some (.ok (.tup ds) U1)
  | .lst m es, ρ, U => bnd (evs C es ρ U) fun ds U1 => mkL m ds U1
  | .dnil m t, _, U => mkD m t [] U
  | .done m t a b, ρ, U => bnd (ev C a ρ U) fun k U1 => bnd (ev C b ρ U1) fun v U2 => if keyFor t k then mkD m t [(k, v)] U2 else none
  | .repL m es a, ρ, U => bnd (evs C es ρ U) fun ds U1 => bnd (ev C a ρ U1) fun k U2 => (match k with
    | .int k => if -1000000 ≤ k ∧ k ≤ 1000000 ∧ ds.length * k.toNat ≤ SZ then mkL m (List.replicate k.toNat ds).flatten U2 else none
    | _ => none)
  | .idx a i, ρ, U => bnd (ev C a ρ U) fun x U1 => bnd (ev C i ρ U1) fun y U2 => index1 x y U2
  | .slc m a lo hi, ρ, U => bnd (ev C a ρ U) fun x U1 => bnd (ev C lo ρ U1) fun l U2 => if (bnd? l).isSome then bnd (ev C hi ρ U2) fun h U3 => slice1 m x l h U3 else none
  | .fld a f, ρ, U => bnd (ev C a ρ U) fun x U1 => getFld x f U1
  | .call fz f es, ρ, U => bnd (evs C es ρ U) fun ds U1 => frz fz U1 (C f ds U1)
  | .meth fz c f a es, ρ, U => bnd (ev C a ρ U) fun x U1 => (match x with
    | .ref n => (match U1[n]? with
      | some (.ins c' _) => if c' = c then bnd (evs C es ρ U1) fun ds U2 => frz fz U2 (C (c ++ "." ++ f) (.ref n :: ds) U2) else none
      | _ => none)
    | _ => none)
  | .make c es, ρ, U => bnd (evs C es ρ U) fun ds U1 => bnd (C (c ++ ".__init__") (.ref U1.length :: ds) (U1 ++ [.ins c []])) fun d U2 => (match d with
    | .non => some (.ok (.ref U1.length) U2)
    | _ => none)
  | .prim p m es, ρ, U => (match es with
    | .cons a r => bnd (ev C a ρ U) fun x U1 => if recvOk p U1 x then bnd (evs C r ρ U1) fun ds U2 => prim p m (x :: ds) U2 else none
    | .nil => none)
  | .lc m own tg it cond el, ρ, U => bnd (evIt C it ρ U) fun src U1 => if SZ < src.get.length then none else
      bnd (lcGo (turnL tg (evB C cond) (ev C el) (wipe ρ own)) src.get U1) fun ds U2 => if src.fin U2 then mkL m ds U2 else none
  | .isin a cs, ρ, U => bnd (ev C a ρ U) fun x U1 => (match isInst U1 x cs with
    | some k => some (.ok (.bl k) U1)
    | none => none)
  | .sortK m a caps key, ρ, U => bnd (ev C a ρ U) fun x U1 => (match x with
    | .lst xs => bnd (lcGo (fun x V => bnd (ev C key (some x :: caps.map fun i => (ρ[i]?).join) V) fun d V1 => if V1 = V then ret (some d) V1 else none) (fixS xs).get U1) fun ks U2 => (match sortBy ks xs with
      | some ys => mkL m ys U2
      | none => none)
    | _ => none)
  | .minK a caps key, ρ, U => bnd (ev C a ρ U) fun x U1 => (match x with
    | .lst xs => bnd (lcGo (fun x V => bnd (ev C key (some x :: caps.map fun i => (ρ[i]?).join) V) fun d V1 => if V1 = V then ret (some d) V1 else none) (fixS xs).get U1) fun ks U2 => (match sortBy ks xs with
      | some (y :: _) => some (.ok y U2)
      | _ => none)
    | _ => none)
/-- a test -/
def evB (C : Cal) : IE → Rho → M Bool
  | .andE a b, ρ, U => bnd (evB C a ρ U) fun k U1 => if k then evB C b ρ U1 else some (.ok false U1)
  | .orE a b, ρ, U => bnd (evB C a ρ U) fun k U1 => if k then some (.ok true U1) else evB C b ρ U1
  | .notE a, ρ, U => bnd (evB C a ρ U) fun k U1 => some (.ok (!k) U1)
  | .cst (.bl b), _, U => some (.ok b U)
  | e, ρ, U => bnd (ev C e ρ U) fun x U1 => tru x U1
def evs (C : Cal) : IEs → Rho → M (List D)
  | .nil, _, U => some (.ok [] U)
  | .cons e r, ρ, U => bnd (ev C e ρ U) fun x U1 => bnd (evs C r ρ U1) fun xs U2 => some (.ok (x :: xs) U2)
def evIt (C : Cal) : It → Rho → M Src
  | .seq e, ρ, U => bnd (ev C e ρ U) fun x U1 => (match srcOf U1 x with
    | some s => some (.ok s U1)
    | none => none)
  | .range1 a, ρ, U => bnd (ev C a ρ U) fun x U1 => (match x with
    | .int i => if small i then some (.ok (fixS (rangeL 0 i)) U1) else none
    | _ => none)
  | .range2 a b, ρ, U => bnd (ev C a ρ U) fun x U1 => bnd (ev C b ρ U1) fun y U2 => (match x, y with
    | .int i, .int j => if small i && small j then some (.ok (fixS (rangeL i j)) U2) else none
    | _, _ => none)
  | .range3 a b c, ρ, U => bnd (ev C a ρ U) fun x U1 => bnd (ev C b ρ U1) fun y U2 => (match x, y with
    | .int i, .int j => if small i && small j && decide (0 < c) && decide (c ≤ 1000) then some (.ok (fixS ((List.range ((j - i + c - 1) / c).toNat).map fun (k : Nat) => .int (i + (k : Int) * c))) U2) else none
    | _, _ => none)
  | .enum e k, ρ, U => bnd (ev C e ρ U) fun x U1 => (match srcL U1 x with
    | some s => if k = 0 ∨ k = 1 then some (.ok ⟨enumS k 0 s.get, s.fin⟩ U1) else none
    | none => (match x with
      | .tup xs => if k = 0 then some (.ok ⟨enumS 0 0 (fixS xs).get, (fixS xs).fin⟩ U1) else none
      | _ => none))
  | .zip a b, ρ, U => bnd (ev C a ρ U) fun x U1 => bnd (ev C b ρ U1) fun y U2 => (match zipOf U2 x y with
    | some (s, t) => some (.ok ⟨zipS s.get t.get, fun V => s.fin V && t.fin V⟩ U2)
    | none => none)
  | .rev e, ρ, U => bnd (ev C e ρ U) fun x U1 => (match x with
    | .lst xs => some (.ok (fixS xs.reverse) U1)
    | .tup xs => some (.ok (fixS xs.reverse) U1)
    | _ => none)
  | .keys i, ρ, U => (match ρ[i]? with
    | some (some (.dct t kvs)) => if t = 1 then some (.ok (fixS (kvs.map (·.1))) U) else none
    | _ => none)
end

/-! ### statements -/
inductive RS where
  | nx (ρ : Rho) (U : Store) | rt (d : D) (U : Store) | bk (ρ : Rho) (U : Store) | ex (x : Ex) (ρ : Rho) (U : Store)
  deriving Repr
def bndS {α : Type} (r : Option (R α)) (ρ : Rho) (f : α → Store → Option RS) : Option RS :=
  match r with
  | some (.ok a U) => f a U
  | some (.ex x U) => some (.ex x ρ U)
  | none => none
@[simp] theorem bndS_ok {α : Type} (a : α) (U : Store) (ρ : Rho) (f : α → Store → Option RS) : bndS (some (.ok a U)) ρ f = f a U := rfl
@[simp] theorem bndS_ex {α : Type} (x : Ex) (U : Store) (ρ : Rho) (f : α → Store → Option RS) : bndS (some (.ex x U)) ρ f = some (.ex x ρ U) := rfl
@[simp] theorem bndS_none {α : Type} (ρ : Rho) (f : α → Store → Option RS) : bndS none ρ f = none := rfl
/-- then -/
def thn (r : Option RS) (f : Rho → Store → Option RS) : Option RS :=
  match r with
  | some (.nx ρ U) => f ρ U
  | r => r
@[simp] theorem thn_nx (ρ : Rho) (U : Store) (f : Rho → Store → Option RS) : thn (some (.nx ρ U)) f = f ρ U := rfl
@[simp] theorem thn_rt (d : D) (U : Store) (f : Rho → Store → Option RS) : thn (some (.rt d U)) f = some (.rt d U) := rfl
@[simp] theorem thn_bk (ρ : Rho) (U : Store) (f : Rho → Store → Option RS) : thn (some (.bk ρ U)) f = some (.bk ρ U) := rfl
@[simp] theorem thn_ex (x : Ex) (ρ : Rho) (U : Store) (f : Rho → Store → Option RS) : thn (some (.ex x ρ U)) f = some (.ex x ρ U) := rfl
@[simp] theorem thn_none (f : Rho → Store → Option RS) : thn none f = none := rfl
/-- a loop's body is done: on to the next turn, or out of the loop -/
def turnEnd (r : Option RS) (next : Rho → Store → Option RS) : Option RS :=
  match r with
  | some (.nx ρ U) => next ρ U
  | some (.bk ρ U) => some (.nx ρ U)
  | r => r
@[simp] theorem turnEnd_nx (ρ : Rho) (U : Store) (f : Rho → Store → Option RS) : turnEnd (some (.nx ρ U)) f = f ρ U := rfl
@[simp] theorem turnEnd_rt (d : D) (U : Store) (f : Rho → Store → Option RS) : turnEnd (some (.rt d U)) f = some (.rt d U) := rfl
@[simp] theorem turnEnd_bk (ρ : Rho) (U : Store) (f : Rho → Store → Option RS) : turnEnd (some (.bk ρ U)) f = some (.nx ρ U) := rfl
@[simp] theorem turnEnd_ex (x : Ex) (ρ : Rho) (U : Store) (f : Rho → Store → Option RS) : turnEnd (some (.ex x ρ U)) f = some (.ex x ρ U) := rfl
@[simp] theorem turnEnd_none (f : Rho → Store → Option RS) : turnEnd none f = none := rfl
def forGo (fin : Store → Bool) (turn : D → Rho → Store → Option RS) : List (Store → Option D) → Rho → Store → Option RS
  | [], ρ, U => if fin U then some (.nx ρ U) else none
  | g :: r, ρ, U => (match g U with
    | some x => turnEnd (turn x ρ U) fun ρ' U' => forGo fin turn r ρ' U'
    | none => none)
/-- one turn of a for -/
def turnF (tg : Tg) (b : Rho → Store → Option RS) (x : D) (ρ : Rho) (V : Store) : Option RS := match asgT V tg x ρ with
  | some ρ2 => b ρ2 V
  | none => none
/-- while, with at most n tests -/
def whileGo (test : Rho → M Bool) (body : Rho → Store → Option RS) : Nat → Rho → Store → Option RS
  | 0, _, _ => none
  | n + 1, ρ, U => bndS (test ρ U) ρ fun k U1 => if k then turnEnd (body ρ U1) fun ρ' U' => whileGo test body n ρ' U' else some (.nx ρ U1)
def WN : Nat := 1000000
mutual
def exec (C : Cal) : IS → Rho → Store → Option RS
  | .asg tg e, ρ, U => bndS (ev C e ρ U) ρ fun d U1 => (match asgT U1 tg d ρ with
    | some ρ' => some (.nx ρ' U1)
    | none => none)
  | .asgI o i e, ρ, U => bndS (ev C e ρ U) ρ fun d U1 => bndS (ev C o ρ U1) ρ fun x U2 => bndS (ev C i ρ U2) ρ fun k U3 => bndS (setIx x k d U3) ρ fun _ U4 => some (.nx ρ U4)
  | .asgF o f e, ρ, U => bndS (ev C e ρ U) ρ fun d U1 => bndS (ev C o ρ U1) ρ fun x U2 => bndS (setFld x f d U2) ρ fun _ U3 => some (.nx ρ U3)
  | .asgIV o i v e, ρ, U => bndS (ev C e ρ U) ρ fun d U1 => (match d with
    | .tup [x, y] => bndS (ev C o ρ U1) ρ fun a U2 => bndS (ev C i ρ U2) ρ fun k U3 => bndS (setIx a k x U3) ρ fun _ U4 => some (.nx (ρ.set v (some y)) U4)
    | _ => none)
  | .aug i op e, ρ, U => (match ρ[i]? with
    | some (some x) => bndS (ev C e ρ U) ρ fun d U1 => (match x, d with
      | .int a, .int b => (match op with
        | .add => some (.nx (ρ.set i (some (.int (a + b)))) U1)
        | .sub => some (.nx (ρ.set i (some (.int (a - b)))) U1)
        | _ => none)
      | _, _ => none)
    | _ => none)
  | .expr e, ρ, U => bndS (ev C e ρ U) ρ fun _ U1 => some (.nx ρ U1)
  | .ret e, ρ, U => bndS (ev C e ρ U) ρ fun d U1 => some (.rt d U1)
  | .retN, _, U => some (.rt .non U)
  | .ifS t a b, ρ, U => bndS (evB C t ρ U) ρ fun k U1 => if k then execs C a ρ U1 else execs C b ρ U1
  | .forS tg it b, ρ, U => bndS (evIt C it ρ U) ρ fun src U1 => forGo src.fin (turnF tg (execs C b)) src.get ρ U1
  | .whileS t b, ρ, U => whileGo (evB C t) (execs C b) WN ρ U
  | .brk, ρ, U => some (.bk ρ U)
  | .pass, ρ, U => some (.nx ρ U)
  | .raise c w p, ρ, U => bndS (ev C w ρ U) ρ fun _ U1 => bndS (ev C p ρ U1) ρ fun d U2 => some (.ex ⟨c, d⟩ ρ U2)
  | .tryS b c i h, ρ, U => (match execs C b ρ U with
    | some (.ex x ρ1 U1) => if (above x.c).contains c then (match i with
      | some j => (match execs C h (ρ1.set j (some (.exn x.c x.p))) U1 with
        | some (.nx ρ2 U2) => some (.nx (ρ2.set j none) U2)
        | some (.rt d U2) => some (.rt d U2)
        | _ => none)
      | none => execs C h ρ1 U1) else some (.ex x ρ1 U1)
    | r => r)
  | .never, _, _ => none
def execs (C : Cal) : ISs → Rho → Store → Option RS
  | .nil, ρ, U => some (.nx ρ U)
  | .cons s r, ρ, U => thn (exec C s ρ U) fun ρ' U' => execs C r ρ' U'
end
/-- a def's end -/
def fin : Option RS → Option (R D)
  | some (.nx _ U) => some (.ok .non U)
  | some (.rt d U) => some (.ok d U)
  | some (.ex x _ U) => some (.ex x U)
  | _ => none
@[simp] theorem fin_nx (ρ : Rho) (U : Store) : fin (some (.nx ρ U)) = some (.ok .non U) := rfl
@[simp] theorem fin_rt (d : D) (U : Store) : fin (some (.rt d U)) = some (.ok d U) := rfl
@[simp] theorem fin_ex (x : Ex) (ρ : Rho) (U : Store) : fin (some (.ex x ρ U)) = some (.ex x U) := rfl
def startR (fn : Fn) (ds : List D) : Rho := ds.map some ++ List.replicate (fn.ns - fn.np) none
/-- a call, at most k deep -/
def run (Γ : Tab) : Nat → Cal
  | 0, _, _, _ => none
  | k + 1, f, ds, U => (match Γ f with
    | some fn => if ds.length = fn.np then fin (execs (run Γ k) fn.body (startR fn ds) U) else none
    | none => none)
end VI

/-! VIp: plain lemmas about the evaluator. -/
namespace VI
/-! ### trees without references -/
mutual
def closed : D → Bool
  | .tup xs => closedL xs
  | .lst xs => closedL xs
  | .dct _ kvs => closedP kvs
  | .ref _ => false
  | _ => true
def closedL : List D → Bool
  | [] => true
  | x :: r => closed x && closedL r
def closedP : List (D × D) → Bool
  | [] => true
  | (k, x) :: r => closed k && (closed x && closedP r)
end
mutual
theorem rsv_closed {U : Store} {n : Nat} {sub : D → Option D} : ∀ (d : D), closed d = true → rsv U n sub d = some d
  | .non, _ => by simp [rsv]
  | .bl _, _ => by simp [rsv]
  | .int _, _ => by simp [rsv]
  | .str _, _ => by simp [rsv]
  | .exn _ _, _ => by simp [rsv]
  | .ref _, h => by simp [closed] at h
  | .tup xs, h => by simp [rsv, rsvL_closed xs (by simpa [closed] using h)]
  | .lst xs, h => by simp [rsv, rsvL_closed xs (by simpa [closed] using h)]
  | .dct t kvs, h => by simp [rsv, rsvP_closed kvs (by simpa [closed] using h)]
theorem rsvL_closed {U : Store} {n : Nat} {sub : D → Option D} : ∀ (ds : List D), closedL ds = true → rsvL U n sub ds = some ds
  | [], _ => by simp [rsvL]
  | x :: r, h => by
    simp only [closedL, Bool.and_eq_true] at h
    simp [rsvL, rsv_closed x h.1, rsvL_closed r h.2]
theorem rsvP_closed {U : Store} {n : Nat} {sub : D → Option D} : ∀ (ds : List (D × D)), closedP ds = true → rsvP U n sub ds = some ds
  | [], _ => by simp [rsvP]
  | (k, x) :: r, h => by
    simp only [closedP, Bool.and_eq_true] at h
    simp [rsvP, rsv_closed k h.1, rsv_closed x h.2.1, rsvP_closed r h.2.2]
end
theorem rs_closed {U : Store} {n : Nat} {d : D} (h : closed d = true) : rs U n d = some d := rsv_closed d h
theorem snap_closed {U : Store} {d : D} (h : closed d = true) : snap U d = some d := rsv_closed d h
theorem snapL_closed {U : Store} : ∀ {ds : List D}, closedL ds = true → snapL U ds = some ds
  | [], _ => rfl
  | x :: r, h => by
    simp only [closedL, Bool.and_eq_true] at h
    simp [snapL, snap_closed h.1, snapL_closed h.2]
/-- a call that leaves the store as it is and gives a tree -/
theorem frz_closed {fz : Bool} {U : Store} {d : D} (h : closed d = true) : frz fz U (some (.ok d U)) = some (.ok d U) := by
  unfold frz
  cases fz
  · rfl
  · simp [rs_closed h]
@[simp] theorem frz_bl {fz : Bool} {U : Store} {b : Bool} : frz fz U (some (.ok (.bl b) U)) = some (.ok (.bl b) U) := frz_closed rfl
@[simp] theorem frz_int {fz : Bool} {U : Store} {b : Int} : frz fz U (some (.ok (.int b) U)) = some (.ok (.int b) U) := frz_closed rfl
@[simp] theorem frz_str {fz : Bool} {U : Store} {b : Tx} : frz fz U (some (.ok (.str b) U)) = some (.ok (.str b) U) := frz_closed rfl
@[simp] theorem frz_non {fz : Bool} {U : Store} : frz fz U (some (.ok .non U)) = some (.ok .non U) := frz_closed rfl
/-! ### loops over what stays -/
def forL (turn : D → Rho → Store → Option RS) : List D → Rho → Store → Option RS
  | [], ρ, U => some (.nx ρ U)
  | x :: r, ρ, U => turnEnd (turn x ρ U) fun ρ' U' => forL turn r ρ' U'
theorem forGo_fix (turn : D → Rho → Store → Option RS) : ∀ (xs : List D) (ρ : Rho) (U : Store), forGo (fixS xs).fin turn (fixS xs).get ρ U = forL turn xs ρ U
  | [], ρ, U => rfl
  | x :: r, ρ, U => by
    show turnEnd (turn x ρ U) (fun ρ' U' => forGo (fixS r).fin turn (fixS r).get ρ' U') = turnEnd (turn x ρ U) fun ρ' U' => forL turn r ρ' U'
    congr 1
    funext ρ' U'
    exact forGo_fix turn r ρ' U'
/-- a loop that goes through, with an invariant by what is behind -/
theorem forL_inv {turn : D → Rho → Store → Option RS} {U : Store} (I : List D → Rho → Prop) : ∀ (xs done : List D) (ρ : Rho), I done ρ → (∀ (d : List D) (x : D) (r : List D) (ρ : Rho), done ++ xs = d ++ x :: r → I d ρ → ∃ ρ', turn x ρ U = some (.nx ρ' U) ∧ I (d ++ [x]) ρ') → ∃ ρ', forL turn xs ρ U = some (.nx ρ' U) ∧ I (done ++ xs) ρ'
  | [], done, ρ, h, _ => ⟨ρ, rfl, by rw [List.append_nil]; exact h⟩
  | x :: r, done, ρ, h, st => by
    obtain ⟨ρ', e, h'⟩ := st done x r ρ rfl h
    obtain ⟨ρ2, e2, h2⟩ := forL_inv I r (done ++ [x]) ρ' h' fun d y s ρ1 e1 hd => st d y s ρ1 (by rw [← e1]; simp) hd
    refine ⟨ρ2, ?_, by simpa using h2⟩
    rw [forL, e, turnEnd_nx]
    exact e2
theorem run_at {Γ : Tab} {k : Nat} {f : String} {fn : Fn} {ds : List D} {U : Store} (h : Γ f = some fn) (hd : ds.length = fn.np) : run Γ (k + 1) f ds U = fin (execs (run Γ k) fn.body (startR fn ds) U) := by
  rw [run, h]
  simp [hd]
@[simp] theorem evB_yes (C : Cal) (ρ : Rho) (U : Store) : evB C yes ρ U = some (.ok true U) := by simp [yes, evB]
/-! ### loops with the store -/
/-- a loop that goes through, with an invariant by what is behind -/
theorem forL_all {turn : D → Rho → Store → Option RS} (I : List D → Rho → Store → Prop) : ∀ (xs done : List D) (ρ : Rho) (U : Store), I done ρ U → (∀ (d : List D) (x : D) (r : List D) (ρ : Rho) (U : Store), done ++ xs = d ++ x :: r → I d ρ U → ∃ ρ' U', turn x ρ U = some (.nx ρ' U') ∧ I (d ++ [x]) ρ' U') → ∃ ρ' U', forL turn xs ρ U = some (.nx ρ' U') ∧ I (done ++ xs) ρ' U'
  | [], done, ρ, U, h, _ => ⟨ρ, U, rfl, by rw [List.append_nil]; exact h⟩
  | x :: r, done, ρ, U, h, st => by
    obtain ⟨ρ', U', e, h'⟩ := st done x r ρ U rfl h
    obtain ⟨ρ2, U2, e2, h2⟩ := forL_all I r (done ++ [x]) ρ' U' h' fun d y s ρ1 U1 e1 hd => st d y s ρ1 U1 (by rw [← e1]; simp) hd
    refine ⟨ρ2, U2, ?_, by simpa using h2⟩
    rw [forL, e, turnEnd_nx]
    exact e2
/-- .. or ends early by a return -/
theorem forL_any {turn : D → Rho → Store → Option RS} (I : List D → Rho → Store → Prop) (E : RS → Prop) : ∀ (xs done : List D) (ρ : Rho) (U : Store), I done ρ U →
    (∀ (d : List D) (x : D) (r : List D) (ρ : Rho) (U : Store), done ++ xs = d ++ x :: r → I d ρ U → (∃ ρ' U', turn x ρ U = some (.nx ρ' U') ∧ I (d ++ [x]) ρ' U') ∨ ∃ v U', turn x ρ U = some (.rt v U') ∧ E (.rt v U')) →
    (∃ ρ' U', forL turn xs ρ U = some (.nx ρ' U') ∧ I (done ++ xs) ρ' U') ∨ ∃ v U', forL turn xs ρ U = some (.rt v U') ∧ E (.rt v U')
  | [], done, ρ, U, h, _ => .inl ⟨ρ, U, rfl, by rw [List.append_nil]; exact h⟩
  | x :: r, done, ρ, U, h, st => by
    rcases st done x r ρ U rfl h with ⟨ρ', U', e, h'⟩ | ⟨v, U', e, h'⟩
    · rw [forL, e, turnEnd_nx]
      rcases forL_any I E r (done ++ [x]) ρ' U' h' fun d y s ρ1 U1 e1 hd => st d y s ρ1 U1 (by rw [← e1]; simp) hd with ⟨ρ2, U2, e2, h2⟩ | q
      · exact .inl ⟨ρ2, U2, e2, by simpa using h2⟩
      · exact .inr q
    · exact .inr ⟨v, U', by rw [forL, e, turnEnd_rt], h'⟩
/-- the pairs that enumerate gives -/
def enumD : Nat → List D → List D
  | _, [] => []
  | i, x :: r => .tup [.int i, x] :: enumD (i + 1) r
theorem forGo_enum (turn : D → Rho → Store → Option RS) : ∀ (xs : List D) (i : Nat) (ρ : Rho) (U : Store), forGo (fixS xs).fin turn (enumS 0 i (fixS xs).get) ρ U = forL turn (enumD i xs) ρ U
  | [], i, ρ, U => rfl
  | x :: r, i, ρ, U => by
    show (match ((fun _ : Store => some x) U).map (fun x => D.tup [.int (0 + (i : Int)), x]) with
      | some y => turnEnd (turn y ρ U) fun ρ' U' => forGo (fixS r).fin turn (enumS 0 (i + 1) (fixS r).get) ρ' U'
      | none => none) = turnEnd (turn (.tup [.int i, x]) ρ U) fun ρ' U' => forL turn (enumD (i + 1) r) ρ' U'
    simp only [Option.map_some, Int.zero_add]
    congr 1
    funext ρ' U'
    exact forGo_enum turn r (i + 1) ρ' U'
/-- a while that comes to its end: by a measure -/
theorem while_ends {test : Rho → M Bool} {body : Rho → Store → Option RS} (I : Nat → Rho → Store → Prop) (Q : RS → Prop)
    (st : ∀ m ρ U, I m ρ U → (test ρ U = some (.ok false U) ∧ Q (.nx ρ U)) ∨ (test ρ U = some (.ok true U) ∧ ((∃ m' ρ' U', m' < m ∧ body ρ U = some (.nx ρ' U') ∧ I m' ρ' U') ∨ ∃ v U', body ρ U = some (.rt v U') ∧ Q (.rt v U')))) :
    ∀ (n m : Nat) (ρ : Rho) (U : Store), m < n → I m ρ U → ∃ r, whileGo test body n ρ U = some r ∧ Q r
  | 0, m, ρ, U, h, _ => by omega
  | n + 1, m, ρ, U, h, hI => by
    rw [whileGo]
    rcases st m ρ U hI with ⟨e, q⟩ | ⟨e, ⟨m', ρ', U', hm, e2, h2⟩ | ⟨v, U', e2, q⟩⟩
    · exact ⟨_, by rw [e]; simp, q⟩
    · obtain ⟨r, e3, q⟩ := while_ends I Q st n m' ρ' U' (by omega) h2
      exact ⟨r, by rw [e]; simp [e2, e3], q⟩
    · exact ⟨_, by rw [e]; simp [e2], q⟩
/-- a comprehension over what stays, each turn leaving the store -/
def lcL (turn : D → M (Option D)) : List D → M (List D)
  | [] => ret []
  | x :: r => fun U => bnd (turn x U) fun o U1 => bnd (lcL turn r U1) fun ds U2 => ret (match o with | some d => d :: ds | none => ds) U2
theorem lcGo_fix (turn : D → M (Option D)) : ∀ (xs : List D) (U : Store), lcGo turn (fixS xs).get U = lcL turn xs U
  | [], U => rfl
  | x :: r, U => by
    show bnd (turn x U) (fun o U1 => bnd (lcGo turn (fixS r).get U1) _) = bnd (turn x U) fun o U1 => bnd (lcL turn r U1) _
    congr 1
    funext o U1
    exact congrArg (fun z => bnd z fun ds U2 => ret (match o with | some d => d :: ds | none => ds) U2) (lcGo_fix turn r U1)
theorem lcL_map {turn : D → M (Option D)} {U : Store} (f : D → Option D) : ∀ (xs : List D), (∀ x ∈ xs, turn x U = some (.ok (f x) U)) → lcL turn xs U = some (.ok (xs.filterMap f) U)
  | [], _ => rfl
  | x :: r, h => by
    show bnd (turn x U) (fun o U1 => bnd (lcL turn r U1) fun ds U2 => ret (match o with | some d => d :: ds | none => ds) U2) = _
    rw [h x (by simp)]
    simp only [bnd_ok]
    rw [lcL_map f r fun y hy => h y (by simp [hy])]
    simp only [bnd_ok, ret_eq, List.filterMap_cons]
    cases f x <;> rfl
theorem lcL_maps {α : Type} {turn : D → M (Option D)} {U : Store} (g h : α → D) : ∀ (xs : List α), (∀ x ∈ xs, turn (g x) U = some (.ok (some (h x)) U)) → lcL turn (xs.map g) U = some (.ok (xs.map h) U)
  | [], _ => rfl
  | x :: r, q => by
    show bnd (turn (g x) U) (fun o U1 => bnd (lcL turn (r.map g) U1) fun ds U2 => ret (match o with | some d => d :: ds | none => ds) U2) = _
    rw [q x (by simp)]
    simp only [bnd_ok]
    rw [lcL_maps g h r fun y hy => q y (by simp [hy])]
    rfl
theorem frz_drop {U V : Store} {d : D} (h : closed d = true) : frz true U (some (.ok d (U ++ V))) = some (.ok d U) := by
  unfold frz
  simp [rs_closed h]
theorem bools_map {α : Type} (f : α → Bool) : ∀ xs : List α, bools (xs.map fun x => .bl (f x)) = some (xs.map f)
  | [] => rfl
  | x :: r => by
    simp only [List.map_cons, bools]
    rw [bools_map f r]
@[simp] theorem fixS_fin (xs : List D) (U : Store) : (fixS xs).fin U = true := rfl
@[simp] theorem fixS_len (xs : List D) : (fixS xs).get.length = xs.length := by simp [fixS]
/-! ### comparisons, by their sorts -/
theorem cmp_eq_str {U : Store} {a b : Tx} : cmpop .eq U (.str a) (.str b) = some (decide (a = b)) := by simp [cmpop, eqv, scalS, pyeq]
theorem cmp_ne_str {U : Store} {a b : Tx} : cmpop .ne U (.str a) (.str b) = some (!decide (a = b)) := by simp [cmpop, eqv, scalS, pyeq]
theorem cmp_eq_int {U : Store} {a b : Int} : cmpop .eq U (.int a) (.int b) = some (decide (a = b)) := by simp [cmpop, eqv, scalS, pyeq]
theorem cmp_ne_int {U : Store} {a b : Int} : cmpop .ne U (.int a) (.int b) = some (!decide (a = b)) := by simp [cmpop, eqv, scalS, pyeq]
theorem cmp_eq_bl {U : Store} {a b : Bool} : cmpop .eq U (.bl a) (.bl b) = some (decide (a = b)) := by simp [cmpop, eqv, scalS, pyeq]
theorem cmp_ne_bl {U : Store} {a b : Bool} : cmpop .ne U (.bl a) (.bl b) = some (!decide (a = b)) := by simp [cmpop, eqv, scalS, pyeq]
theorem cmp_lt_int {U : Store} {a b : Int} : cmpop .lt U (.int a) (.int b) = some (decide (a < b)) := rfl
theorem cmp_le_int {U : Store} {a b : Int} : cmpop .le U (.int a) (.int b) = some (decide (a ≤ b)) := rfl
theorem cmp_gt_int {U : Store} {a b : Int} : cmpop .gt U (.int a) (.int b) = some (decide (b < a)) := rfl
theorem cmp_ge_int {U : Store} {a b : Int} : cmpop .ge U (.int a) (.int b) = some (decide (b ≤ a)) := rfl
theorem cmp_in {U : Store} {a b : D} : cmpop .isIn U a b = member U a b := rfl
theorem cmp_notIn {U : Store} {a b : D} : cmpop .notIn U a b = (member U a b).map (! ·) := rfl
theorem tru_bl {U : Store} {b : Bool} : tru (.bl b) U = some (.ok b U) := rfl
end VI

/-! VIq: figures. -/
namespace VI
theorem showI_nat (n : Nat) : showI (n : Int) = TL.numL n := by
  rw [← TL.tl_num, TL.tl_ofString]
  rfl
theorem showI_len {i : Int} {k : Nat} (hk : 0 < k) (h0 : 0 ≤ i) (h : i < 10 ^ k) : (showI i).length ≤ k := by
  obtain ⟨n, rfl⟩ := Int.eq_ofNat_of_zero_le h0
  rw [showI_nat]
  exact TL.numL_len hk (by exact_mod_cast h)
end VI

/-! Tw: the program's words, names, numbers (for any table that has these defs). -/
namespace VI
def W_made_of_1 : ISs := (.cons (.ifS (.cmp .notIn (.var 2) (.var 1))
 (.cons (.ret (.cst (.bl false)))
 .nil)
 .nil)
 .nil)
def W_made_of : Fn := ⟨2, 3,
 (.cons (.forS (.var 2) (.seq (.var 0)) W_made_of_1)
 (.cons (.ret (.cst (.bl true)))
 .nil))⟩
def W_is_word : Fn := ⟨1, 1,
 (.cons (.ret (.andE (.cmp2 .le .le (.cst (.int 1)) (.prim .len false (.cons (.var 0) .nil)) (.glo "MOST_LETTERS" (.int 8))) (.call true "made_of" (.cons (.var 0) (.cons (.cst (.str [97, 98, 99, 100, 101, 102, 103, 104, 105, 106, 107, 108, 109, 110, 111, 112, 113, 114, 115, 116, 117, 118, 119, 120, 121, 122])) .nil)))))
 .nil)⟩
def W_is_keyword : Fn := ⟨1, 3,
 (.cons (.asg (.var 1) (.cst (.str [112, 101, 114, 115, 111, 110, 32, 109, 97, 116, 116, 101, 114, 32, 97, 103, 97, 105, 110, 115, 116, 32, 115, 101, 101, 32, 116, 101, 108, 108, 32, 98, 121])))
 (.cons (.asg (.var 2) (.cst (.str [97, 116, 32, 119, 104, 111, 32, 119, 104, 97, 116, 32, 115, 105, 110, 99, 101, 32, 116, 101, 108, 108, 101, 114, 115, 32, 119, 111, 114, 100, 105, 110, 103, 115, 32, 97, 112, 97, 114, 116, 32, 108, 101, 97, 110, 115, 32, 104, 105, 100, 100, 101, 110, 32, 115, 116, 114, 105, 107, 101, 32, 113, 117, 111, 116, 101, 32, 103, 114, 111, 117, 110, 100, 32, 99, 117, 116])))
 (.cons (.ret (.orE (.cmp .isIn (.var 0) (.prim .split false (.cons (.var 1) (.cons (.cst (.str [32])) .nil)))) (.cmp .isIn (.var 0) (.prim .split false (.cons (.var 2) (.cons (.cst (.str [32])) .nil))))))
 .nil)))⟩
def W_is_name : Fn := ⟨1, 1,
 (.cons (.ret (.andE (.call true "is_word" (.cons (.var 0) .nil)) (.notE (.call true "is_keyword" (.cons (.var 0) .nil)))))
 .nil)⟩
def W_number_in : Fn := ⟨1, 1,
 (.cons (.ifS (.orE (.notE (.cmp2 .le .le (.cst (.int 1)) (.prim .len false (.cons (.var 0) .nil)) (.glo "MOST_FIGURES" (.int 9)))) (.notE (.call true "made_of" (.cons (.var 0) (.cons (.cst (.str [48, 49, 50, 51, 52, 53, 54, 55, 56, 57])) .nil)))))
 (.cons (.ret (.cst .non))
 .nil)
 .nil)
 (.cons (.ifS (.andE (.prim .startswith false (.cons (.var 0) (.cons (.cst (.str [48])) .nil))) (.cmp .ne (.var 0) (.cst (.str [48]))))
 (.cons (.ret (.cst .non))
 .nil)
 .nil)
 (.cons (.ret (.prim .int1 false (.cons (.var 0) .nil)))
 .nil)))⟩
structure HasWords (Γ : Tab) : Prop where
  made : Γ "made_of" = some W_made_of
  word : Γ "is_word" = some W_is_word
  key : Γ "is_keyword" = some W_is_keyword
  name : Γ "is_name" = some W_is_name
  num : Γ "number_in" = some W_number_in
section
variable {Γ : Tab}
theorem inL_strs {U : Store} (w : Tx) (ts : List Tx) (d : D) : inL U (.str w) d (ts.map .str) = some (decide (w ∈ ts)) := by
  have h : snaps U (.str w) d (ts.map .str) = some (.str w, ts.map .str) := by
    unfold snaps
    rw [if_pos]
    simp [flat]
  unfold inL
  rw [h]
  simp only [List.any_map]
  congr 1
  induction ts with
  | nil => simp
  | cons t ts ih =>
    rw [List.any_cons, ih (by unfold snaps; rw [if_pos]; simp [flat])]
    by_cases e : t = w
    · subst e; simp [pyeq]
    · have e' : ¬ w = t := fun z => e z.symm
      simp [pyeq, e, e']
theorem made_step {C : Cal} {s : Tx} {U : Store} {a : D} (c : Nat) (o : Option D) : turnF (.var 2) (execs C W_made_of_1) (.str [c]) [some a, some (.str s), o] U =
    if c ∈ s then some (.nx [some a, some (.str s), some (.str [c])] U) else some (.rt (.bl false) U) := by
  by_cases hc : c ∈ s <;> simp [turnF, asgT, W_made_of_1, execs, exec, evB, ev, cmpop, member, tru, truth, hc]
theorem made_loop {C : Cal} {s : Tx} {U : Store} {a : D} : ∀ (w : Tx) (o : Option D), ∃ o', forL (turnF (.var 2) (execs C W_made_of_1)) (w.map fun c => .str [c]) [some a, some (.str s), o] U =
    if w.all (fun c => decide (c ∈ s)) then some (.nx [some a, some (.str s), o'] U) else some (.rt (.bl false) U)
  | [], o => ⟨o, by simp [forL]⟩
  | c :: w, o => by
    obtain ⟨o', h⟩ := made_loop (C := C) (s := s) (U := U) (a := a) w (some (.str [c]))
    refine ⟨o', ?_⟩
    rw [List.map_cons, forL, made_step]
    by_cases hc : c ∈ s <;> simp [hc, h]
theorem r_made_of (T : HasWords Γ) (k : Nat) (w s : Tx) (U : Store) : run Γ (k + 1) "made_of" [.str w, .str s] U = some (.ok (.bl (w.all fun c => decide (c ∈ s))) U) := by
  rw [run_at T.made rfl]
  obtain ⟨o', h⟩ := made_loop (C := run Γ k) (s := s) (U := U) (a := .str w) w none
  generalize (w.all fun c => decide (c ∈ s)) = b at h ⊢
  simp only [W_made_of, startR, execs, exec, evIt, ev]
  cases b <;> simp [srcOf, forGo_fix, h, execs, exec, ev]
def letters : Tx := [97, 98, 99, 100, 101, 102, 103, 104, 105, 106, 107, 108, 109, 110, 111, 112, 113, 114, 115, 116, 117, 118, 119, 120, 121, 122]
def isWord (w : Tx) : Bool := decide (1 ≤ w.length) && (decide (w.length ≤ 8) && w.all fun c => decide (c ∈ letters))
theorem r_is_word (T : HasWords Γ) (k : Nat) (w : Tx) (U : Store) (hw : w.length ≤ SZ) : run Γ (k + 2) "is_word" [.str w] U = some (.ok (.bl (isWord w)) U) := by
  rw [run_at T.word rfl]
  have h := r_made_of T k w letters U
  have e : ([97, 98, 99, 100, 101, 102, 103, 104, 105, 106, 107, 108, 109, 110, 111, 112, 113, 114, 115, 116, 117, 118, 119, 120, 121, 122] : Tx) = letters := rfl
  simp only [W_is_word, startR, execs, exec, ev, evs, e]
  by_cases h1 : (1 : Int) ≤ w.length
  · by_cases h2 : (w.length : Int) ≤ 8
    · simp [recvOk, prim, lenOf, hw, cmpop, h1, h2, h, isWord, Int.ofNat_le.mp h1, Int.ofNat_le.mp h2]
    · simp [recvOk, prim, lenOf, hw, cmpop, h1, h2, isWord]
      omega
  · simp [recvOk, prim, lenOf, hw, cmpop, h1, isWord]
    omega

def heads : List Tx := [S "person", S "matter", S "against", S "see", S "tell", S "by"]
def asked : List Tx := [S "at", S "who", S "what", S "since", S "tellers", S "wordings", S "apart", S "leans", S "hidden", S "strike", S "quote", S "ground", S "cut"]
def isKey (w : Tx) : Bool := decide (w ∈ heads) || decide (w ∈ asked)
theorem split_heads : splitC 32 [112, 101, 114, 115, 111, 110, 32, 109, 97, 116, 116, 101, 114, 32, 97, 103, 97, 105, 110, 115, 116, 32, 115, 101, 101, 32, 116, 101, 108, 108, 32, 98, 121] = heads := by decide +kernel
theorem split_asked : splitC 32 [97, 116, 32, 119, 104, 111, 32, 119, 104, 97, 116, 32, 115, 105, 110, 99, 101, 32, 116, 101, 108, 108, 101, 114, 115, 32, 119, 111, 114, 100, 105, 110, 103, 115, 32, 97, 112, 97, 114, 116, 32, 108, 101, 97, 110, 115, 32, 104, 105, 100, 100, 101, 110, 32, 115, 116, 114, 105, 107, 101, 32, 113, 117, 111, 116, 101, 32, 103, 114, 111, 117, 110, 100, 32, 99, 117, 116] = asked := by decide +kernel
theorem r_is_keyword (T : HasWords Γ) (k : Nat) (w : Tx) (U : Store) : run Γ (k + 1) "is_keyword" [.str w] U = some (.ok (.bl (isKey w)) U) := by
  rw [run_at T.key rfl]
  simp only [W_is_keyword, startR, execs, exec, ev, evs]
  simp [asgT, recvOk, prim, SZ, split_heads, split_asked, mkL, cmpop, member, asQ, asL, isKey, inL_strs]
  by_cases h1 : w ∈ heads <;> by_cases h2 : w ∈ asked <;> simp [h1, h2]
theorem r_is_name (T : HasWords Γ) (k : Nat) (w : Tx) (U : Store) (hw : w.length ≤ SZ) : run Γ (k + 3) "is_name" [.str w] U = some (.ok (.bl (isWord w && !isKey w)) U) := by
  rw [run_at T.name rfl]
  have h1 := r_is_word T k w U hw
  have h2 := r_is_keyword T (k + 1) w U
  simp only [W_is_name, startR, execs, exec, ev, evs]
  cases q : isWord w <;> simp [h1, h2, q]
def figs : Tx := [48, 49, 50, 51, 52, 53, 54, 55, 56, 57]
def allFig (w : Tx) : Bool := w.all fun c => decide (c ∈ figs)
theorem figs_isFig (c : Nat) : decide (c ∈ figs) = isFig c := by
  unfold isFig figs
  by_cases h : 48 ≤ c ∧ c ≤ 57
  · have : c = 48 ∨ c = 49 ∨ c = 50 ∨ c = 51 ∨ c = 52 ∨ c = 53 ∨ c = 54 ∨ c = 55 ∨ c = 56 ∨ c = 57 := by omega
    rcases this with rfl | rfl | rfl | rfl | rfl | rfl | rfl | rfl | rfl | rfl <;> decide
  · have h1 : c ∉ ([48, 49, 50, 51, 52, 53, 54, 55, 56, 57] : List Nat) := by
      intro hm
      simp only [List.mem_cons, List.not_mem_nil, or_false] at hm
      omega
    simp only [h1, decide_false]
    simp only [Bool.false_eq, Bool.and_eq_false_iff, decide_eq_false_iff_not]
    omega
/-- a number in words: one to nine figures, no 0 ahead -/
def isNum (w : Tx) : Bool := decide (1 ≤ w.length) && (decide (w.length ≤ 9) && (allFig w && !(isPre [48] w && !decide (w = [48]))))
def numD (w : Tx) : D := if isNum w then .int (readN w) else .non
theorem r_number_in (T : HasWords Γ) (k : Nat) (w : Tx) (U : Store) (hw : w.length ≤ SZ) : run Γ (k + 2) "number_in" [.str w] U = some (.ok (numD w) U) := by
  rw [run_at T.num rfl]
  have h := r_made_of T k w figs U
  have e : ([48, 49, 50, 51, 52, 53, 54, 55, 56, 57] : Tx) = figs := rfl
  have ha : (w.all fun c => decide (c ∈ figs)) = allFig w := rfl
  rw [ha] at h
  simp only [W_number_in, startR, execs, exec, ev, evs, evB, e]
  unfold numD isNum
  by_cases h1 : (1 : Int) ≤ w.length
  · have h1' : 1 ≤ w.length := by omega
    by_cases h2 : (w.length : Int) ≤ 9
    · have h2' : w.length ≤ 9 := by omega
      cases hf : allFig w
      · simp [recvOk, prim, lenOf, hw, cmpop, tru, truth, h1, h2, h1', h2', h, hf, execs, exec, ev]
      · have hall : w.all isFig = true := by
          rw [← hf]
          unfold allFig
          congr 1
          funext c
          exact (figs_isFig c).symm
        have hall' : ∀ x ∈ w, isFig x = true := List.all_eq_true.mp hall
        have hz1 : (1 : Nat) ≤ SZ := by decide
        have hf48 : isFig 48 = true := by decide
        have hne : w ≠ [] := fun z => by rw [z] at h1'; simp at h1'
        have h600 : w.length ≤ 600 := by omega
        cases hp : isPre [48] w
        · simp [recvOk, prim, lenOf, hw, cmpop, tru, truth, h1, h2, h1', h2', h, hf, execs, exec, ev, evs, evB, hp, eqv, scalS, pyeq, -List.all_eq_true, hall, hne, h600]
        · by_cases h0 : w = [48]
          · subst h0
            simp [recvOk, prim, lenOf, hw, cmpop, tru, truth, h, hf, execs, exec, ev, evs, evB, eqv, scalS, pyeq, hall, hz1, hf48]
          · simp [recvOk, prim, lenOf, hw, cmpop, tru, truth, h1, h2, h1', h2', h, hf, execs, exec, ev, evs, evB, hp, eqv, scalS, pyeq, -List.all_eq_true, hall, hne, h600, h0]
    · have h2' : ¬ w.length ≤ 9 := by omega
      simp [recvOk, prim, lenOf, hw, cmpop, tru, truth, h1, h2, h1', h2', execs, exec, ev]
  · have h1' : ¬ 1 ≤ w.length := by omega
    simp [recvOk, prim, lenOf, hw, cmpop, tru, truth, h1, h1', execs, exec, ev]
/-! ### a number as a text, read back -/
theorem numL_fig : ∀ n : Nat, (TL.numL n).all isFig = true := by
  intro n
  induction n using Nat.strongRecOn with
  | ind n ih =>
    by_cases h : n < 10
    · rw [TL.numL_lt h]
      simp only [List.all_cons, List.all_nil, Bool.and_true, isFig, Bool.and_eq_true, decide_eq_true_eq]
      omega
    · rw [TL.numL_step (by omega), List.all_append, ih (n / 10) (by omega)]
      simp only [List.all_cons, List.all_nil, Bool.and_true, Bool.true_and, isFig, Bool.and_eq_true, decide_eq_true_eq]
      omega
theorem numL_read (n : Nat) : readN (TL.numL n) = n := by
  induction n using Nat.strongRecOn with
  | ind n ih =>
    by_cases h : n < 10
    · rw [TL.numL_lt h]
      simp only [readN, List.foldl_cons, List.foldl_nil]
      omega
    · have := ih (n / 10) (by omega)
      rw [TL.numL_step (by omega)]
      unfold readN at this ⊢
      rw [List.foldl_append, this]
      simp only [List.foldl_cons, List.foldl_nil]
      omega
theorem numL_head : ∀ n : Nat, 0 < n → ∃ c r, TL.numL n = c :: r ∧ c ≠ 48 := by
  intro n
  induction n using Nat.strongRecOn with
  | ind n ih =>
    intro h0
    by_cases h : n < 10
    · exact ⟨48 + n, [], TL.numL_lt h, by omega⟩
    · obtain ⟨c, r, e, hc⟩ := ih (n / 10) (by omega) (by omega)
      exact ⟨c, r ++ [48 + n % 10], by rw [TL.numL_step (by omega), e]; rfl, hc⟩
theorem numD_show {i : Int} (h0 : 0 ≤ i) (h1 : i ≤ 999999999) : numD (showI i) = .int i := by
  obtain ⟨n, rfl⟩ := Int.eq_ofNat_of_zero_le h0
  rw [showI_nat]
  have l1 : 1 ≤ (TL.numL n).length := by
    have := TL.numL_ne n
    cases h : TL.numL n with
    | nil => exact absurd h this
    | cons c r => simp
  have l2 : (TL.numL n).length ≤ 9 := TL.numL_len (k := 9) (by decide) (by omega)
  have fg : allFig (TL.numL n) = true := by
    rw [← numL_fig n]
    unfold allFig
    congr 1
    funext c
    exact figs_isFig c
  have pr : (isPre [48] (TL.numL n) && !decide (TL.numL n = [48])) = false := by
    by_cases hn : 0 < n
    · obtain ⟨c, r, e, hc⟩ := numL_head n hn
      rw [e]
      have : ¬ (48 : Nat) = c := fun q => hc q.symm
      simp [isPre, this]
    · have : n = 0 := by omega
      subst this
      rw [TL.numL_lt (by decide)]
      decide
  have : isNum (TL.numL n) = true := by
    unfold isNum
    simp only [l1, l2, fg, pr, decide_true, Bool.not_false, Bool.and_self]
  unfold numD
  rw [this, numL_read]
  rfl
theorem show_free {i : Int} (h0 : 0 ≤ i) {c : Nat} (h : c < 48 ∨ 57 < c) : c ∉ showI i := by
  obtain ⟨n, rfl⟩ := Int.eq_ofNat_of_zero_le h0
  rw [showI_nat]
  exact TL.numL_free h
theorem show_ne {i : Int} (h0 : 0 ≤ i) : showI i ≠ [] := by
  obtain ⟨n, rfl⟩ := Int.eq_ofNat_of_zero_le h0
  rw [showI_nat]
  exact TL.numL_ne n
end
end VI

/-! Tr: the words of a text; rows read (for any table that has these defs). -/
namespace VI
def W_row_shape : Fn := ⟨1, 2,
 (.cons (.ifS (.cmp .eq (.idx (.var 0) (.cst (.int 0))) (.cst (.str [112, 101, 114, 115, 111, 110])))
 (.cons (.ret (.cst (.str [78, 82, 82, 69])))
 .nil)
 .nil)
 (.cons (.ifS (.cmp .eq (.idx (.var 0) (.cst (.int 0))) (.cst (.str [109, 97, 116, 116, 101, 114])))
 (.cons (.ret (.cst (.str [78])))
 .nil)
 .nil)
 (.cons (.ifS (.cmp .eq (.idx (.var 0) (.cst (.int 0))) (.cst (.str [97, 103, 97, 105, 110, 115, 116])))
 (.cons (.ret (.cst (.str [78, 78])))
 .nil)
 .nil)
 (.cons (.ifS (.cmp .eq (.idx (.var 0) (.cst (.int 0))) (.cst (.str [115, 101, 101])))
 (.cons (.ret (.cst (.str [84, 78, 78, 87])))
 .nil)
 .nil)
 (.cons (.ifS (.cmp .eq (.idx (.var 0) (.cst (.int 0))) (.cst (.str [116, 101, 108, 108])))
 (.cons (.asg (.var 1) (.bin .sub false (.bin .sub false (.prim .len false (.cons (.var 0) .nil)) (.glo "WORDS_OF_TELLING" (.int 6))) (.cst (.int 1))))
 (.cons (.ifS (.cmp2 .le .le (.cst (.int 1)) (.var 1) (.glo "MOST_QUOTED" (.int 6)))
 (.cons (.ret (.bin .add false (.cst (.str [84, 78, 78, 78, 87, 66])) (.bin .mul false (.cst (.str [78])) (.var 1))))
 .nil)
 .nil)
 (.cons (.ret (.cst (.str [84, 78, 78, 78, 87])))
 .nil)))
 .nil)
 (.cons (.ret (.cst (.str [])))
 .nil))))))⟩
def W_number_up_to : Fn := ⟨3, 4,
 (.cons (.asg (.var 3) (.call true "number_in" (.cons (.var 0) .nil)))
 (.cons (.ifS (.orE (.cmp .is (.var 3) (.cst .non)) (.orE (.cmp .lt (.var 3) (.var 1)) (.cmp .gt (.var 3) (.var 2))))
 (.cons (.ret (.cst .non))
 .nil)
 .nil)
 (.cons (.ret (.var 3))
 .nil)))⟩
def W_word_meant : Fn := ⟨2, 3,
 (.cons (.ifS (.cmp .eq (.var 0) (.cst (.str [82])))
 (.cons (.ret (.call true "number_up_to" (.cons (.var 1) (.cons (.cst (.int 0)) (.cons (.glo "MOST_RANK" (.int 99)) .nil)))))
 .nil)
 .nil)
 (.cons (.ifS (.cmp .eq (.var 0) (.cst (.str [69])))
 (.cons (.ret (.call true "number_up_to" (.cons (.var 1) (.cons (.cst (.int 1)) (.cons (.glo "MOST_NEEDS" (.int 4)) .nil)))))
 .nil)
 .nil)
 (.cons (.ifS (.cmp .eq (.var 0) (.cst (.str [84])))
 (.cons (.ret (.call true "number_in" (.cons (.var 1) .nil)))
 .nil)
 .nil)
 (.cons (.asg (.var 2) (.call true "is_name" (.cons (.var 1) .nil)))
 (.cons (.ifS (.cmp .eq (.var 0) (.cst (.str [87])))
 (.cons (.asg (.var 2) (.call true "is_word" (.cons (.var 1) .nil)))
 .nil)
 .nil)
 (.cons (.ifS (.cmp .eq (.var 0) (.cst (.str [66])))
 (.cons (.asg (.var 2) (.cmp .eq (.var 1) (.cst (.str [98, 121]))))
 .nil)
 .nil)
 (.cons (.ifS (.var 2)
 (.cons (.ret (.var 1))
 .nil)
 .nil)
 (.cons (.ret (.cst .non))
 .nil))))))))⟩
def W_names_unlike : Fn := ⟨1, 1,
 (.cons (.ifS (.cmp .eq (.idx (.var 0) (.cst (.int 0))) (.cst (.str [97, 103, 97, 105, 110, 115, 116])))
 (.cons (.ret (.cmp .ne (.idx (.var 0) (.cst (.int 1))) (.idx (.var 0) (.cst (.int 2)))))
 .nil)
 .nil)
 (.cons (.ret (.orE (.cmp .ne (.idx (.var 0) (.cst (.int 0))) (.cst (.str [116, 101, 108, 108]))) (.cmp .ne (.idx (.var 0) (.cst (.int 2))) (.idx (.var 0) (.cst (.int 3))))))
 .nil))⟩
def W_row_of_1 : IE := (.cmp .ne (.var 3) (.cst (.str [])))
def W_row_of_2 : IE := (.var 3)
def W_row_of_3 : ISs := (.cons (.asg (.var 7) (.call true "word_meant" (.cons (.var 6) (.cons (.var 3) .nil))))
 (.cons (.ifS (.cmp .is (.var 7) (.cst .non))
 (.cons .never
 .nil)
 .nil)
 (.cons (.expr (.prim .append false (.cons (.var 5) (.cons (.var 7) .nil))))
 .nil)))
def W_row_of : Fn := ⟨2, 8,
 (.cons (.asg (.var 2) (.lc false [3] (.var 3) (.seq (.prim .split false (.cons (.var 0) (.cons (.cst (.str [32])) .nil)))) W_row_of_1 W_row_of_2))
 (.cons (.ifS (.cmp .eq (.prim .len false (.cons (.var 2) .nil)) (.cst (.int 0)))
 (.cons (.ret (.cst .non))
 .nil)
 .nil)
 (.cons (.asg (.var 4) (.call true "row_shape" (.cons (.var 2) .nil)))
 (.cons (.ifS (.orE (.cmp .eq (.var 4) (.cst (.str []))) (.cmp .ne (.prim .len false (.cons (.var 2) .nil)) (.bin .add false (.cst (.int 1)) (.prim .len false (.cons (.var 4) .nil)))))
 (.cons .never
 .nil)
 .nil)
 (.cons (.asg (.var 5) (.lst true (.cons (.idx (.var 2) (.cst (.int 0))) .nil)))
 (.cons (.forS (.tup [6, 3]) (.zip (.var 4) (.slc false (.var 2) (.cst (.int 1)) (.cst .non))) W_row_of_3)
 (.cons (.ifS (.notE (.call true "names_unlike" (.cons (.var 5) .nil)))
 (.cons .never
 .nil)
 .nil)
 (.cons (.ret (.var 5))
 .nil))))))))⟩
/-! ### the words of a text -/
def wordsOf (x : Tx) : List Tx := (splitC 32 x).filter fun w => decide (w ≠ [])
theorem splitC_ne (c : Nat) : ∀ x : Tx, splitC c x ≠ []
  | [] => by simp [splitC]
  | x :: r => by
    unfold splitC
    split
    · simp
    · split <;> simp
theorem splitC_cons (c x : Nat) (r : Tx) : splitC c (x :: r) = if x = c then [] :: splitC c r else (match splitC c r with
    | [] => [[x]]
    | w :: ws => (x :: w) :: ws) := rfl
theorem splitC_mid (c : Nat) : ∀ a r : Tx, splitC c (a ++ c :: r) = splitC c a ++ splitC c r
  | [], r => by
    rw [List.nil_append, splitC_cons, if_pos rfl]
    rfl
  | x :: a, r => by
    have ih := splitC_mid c a r
    rw [List.cons_append, splitC_cons, splitC_cons]
    by_cases h : x = c
    · rw [if_pos h, if_pos h, ih, List.cons_append]
    · rw [if_neg h, if_neg h, ih]
      cases q : splitC c a with
      | nil => exact absurd q (splitC_ne c a)
      | cons w ws => rfl
theorem splitC_free {c : Nat} : ∀ {w : Tx}, c ∉ w → splitC c w = [w]
  | [], _ => rfl
  | x :: w, h => by
    simp only [List.mem_cons, not_or] at h
    have e : ¬ x = c := fun q => h.1 q.symm
    rw [splitC_cons, if_neg e, splitC_free h.2]
theorem wordsOf_mid (a r : Tx) : wordsOf (a ++ 32 :: r) = wordsOf a ++ wordsOf r := by
  unfold wordsOf
  rw [splitC_mid, List.filter_append]
theorem wordsOf_nil : wordsOf [] = [] := rfl
theorem wordsOf_one {w : Tx} (h : 32 ∉ w) (hn : w ≠ []) : wordsOf w = [w] := by
  unfold wordsOf
  rw [splitC_free h]
  simp [hn]
theorem wordsOf_ahead (k : Nat) (r : Tx) : wordsOf (List.replicate k 32 ++ r) = wordsOf r := by
  induction k with
  | zero => rfl
  | succ k ih =>
    have := wordsOf_mid [] (List.replicate k 32 ++ r)
    rw [List.nil_append, wordsOf_nil, List.nil_append] at this
    rw [List.replicate_succ, List.cons_append, this, ih]
theorem wordsOf_behind (a : Tx) (k : Nat) : wordsOf (a ++ List.replicate k 32) = wordsOf a := by
  cases k with
  | zero => simp
  | succ k =>
    rw [List.replicate_succ, wordsOf_mid]
    have := wordsOf_ahead k []
    rw [List.append_nil, wordsOf_nil] at this
    rw [this, List.append_nil]
theorem wordsOf_word {w : Tx} (h : 32 ∉ w) (hn : w ≠ []) (k : Nat) (r : Tx) : wordsOf (w ++ (List.replicate (k + 1) 32 ++ r)) = w :: wordsOf r := by
  rw [List.replicate_succ, List.cons_append, wordsOf_mid, wordsOf_ahead, wordsOf_one h hn]
  rfl
theorem rstrip_words (x : Tx) : wordsOf (rstripT x) = wordsOf x := by
  have e : x = rstripT x ++ (x.reverse.takeWhile fun c => decide (c = 32)).reverse := by
    unfold rstripT
    rw [← List.reverse_append, List.takeWhile_append_dropWhile, List.reverse_reverse]
  have r : (x.reverse.takeWhile fun c => decide (c = 32)).reverse = List.replicate (x.reverse.takeWhile fun c => decide (c = 32)).length 32 := by
    rw [List.eq_replicate_iff]
    refine ⟨by simp, fun c hc => ?_⟩
    have : ∀ l : List Nat, ∀ c ∈ l.takeWhile (fun c => decide (c = 32)), c = 32 := fun l => by
      induction l with
      | nil => intro c hc; simp at hc
      | cons a l ih =>
        intro c hc
        rw [List.takeWhile_cons] at hc
        split at hc
        · rename_i h
          rcases List.mem_cons.mp hc with rfl | hc
          · simpa using h
          · exact ih c hc
        · cases hc
    exact this _ c (by simpa using hc)
  rw [r] at e
  conv => rhs; rw [e]
  rw [wordsOf_behind]
/-! ### rows -/
def tPerson : Tx := [112, 101, 114, 115, 111, 110]
def tMatter : Tx := [109, 97, 116, 116, 101, 114]
def tAgainst : Tx := [97, 103, 97, 105, 110, 115, 116]
def tSee : Tx := [115, 101, 101]
def tTell : Tx := [116, 101, 108, 108]
def tBy : Tx := [98, 121]
def isName (w : Tx) : Bool := isWord w && !isKey w
/-- what a word says, by its letter -/
def Part (c : Nat) (w : Tx) (d : D) : Prop :=
  (c = 78 ∧ isName w = true ∧ d = .str w) ∨ (c = 82 ∧ ∃ i : Int, 0 ≤ i ∧ i ≤ 99 ∧ w = showI i ∧ d = .int i) ∨ (c = 69 ∧ ∃ i : Int, 1 ≤ i ∧ i ≤ 4 ∧ w = showI i ∧ d = .int i) ∨
  (c = 84 ∧ ∃ i : Int, 0 ≤ i ∧ i ≤ 999999999 ∧ w = showI i ∧ d = .int i) ∨ (c = 87 ∧ isWord w = true ∧ d = .str w) ∨ (c = 66 ∧ w = tBy ∧ d = .str w)
def shapeOf (ws : List Tx) : Tx :=
  match ws with
  | [] => []
  | h :: _ => if h = tPerson then [78, 82, 82, 69] else if h = tMatter then [78] else if h = tAgainst then [78, 78] else if h = tSee then [84, 78, 78, 87] else if h = tTell then
      (if 8 ≤ ws.length ∧ ws.length ≤ 13 then [84, 78, 78, 78, 87, 66] ++ List.replicate (ws.length - 7) 78 else [84, 78, 78, 78, 87]) else []
structure HasRows (Γ : Tab) : Prop where
  w : HasWords Γ
  shape : Γ "row_shape" = some W_row_shape
  upto : Γ "number_up_to" = some W_number_up_to
  meant : Γ "word_meant" = some W_word_meant
  unlike : Γ "names_unlike" = some W_names_unlike
  row : Γ "row_of" = some W_row_of
section
variable {Γ : Tab}
theorem word_len {w : Tx} (h : isWord w = true) : 1 ≤ w.length ∧ w.length ≤ 8 ∧ ∀ c ∈ w, c ∈ letters := by
  unfold isWord at h
  simp only [Bool.and_eq_true, decide_eq_true_eq, List.all_eq_true] at h
  exact h
theorem word_free {w : Tx} (h : isWord w = true) : 32 ∉ w ∧ w ≠ [] := by
  obtain ⟨h1, _, h3⟩ := word_len h
  refine ⟨fun q => absurd (h3 32 q) (by decide), fun q => ?_⟩
  subst q
  simp at h1
theorem name_word {w : Tx} (h : isName w = true) : isWord w = true := by
  unfold isName at h
  simp only [Bool.and_eq_true] at h
  exact h.1
theorem part_free {c : Nat} {w : Tx} {d : D} (h : Part c w d) : 32 ∉ w ∧ w ≠ [] ∧ w.length ≤ 9 := by
  rcases h with ⟨_, h, _⟩ | ⟨_, i, h0, h1, rfl, _⟩ | ⟨_, i, h0, h1, rfl, _⟩ | ⟨_, i, h0, h1, rfl, _⟩ | ⟨_, h, _⟩ | ⟨_, rfl, _⟩
  · have := word_free (name_word h)
    have l := word_len (name_word h)
    exact ⟨this.1, this.2, by omega⟩
  · exact ⟨show_free h0 (.inl (by decide)), show_ne h0, showI_len (k := 9) (by decide) h0 (by omega)⟩
  · exact ⟨show_free (by omega) (.inl (by decide)), show_ne (by omega), showI_len (k := 9) (by decide) (by omega) (by omega)⟩
  · exact ⟨show_free h0 (.inl (by decide)), show_ne h0, showI_len (k := 9) (by decide) h0 (by omega)⟩
  · have := word_free h
    have l := word_len h
    exact ⟨this.1, this.2, by omega⟩
  · exact ⟨by decide, by decide, by decide⟩
theorem numD_closed (w : Tx) : closed (numD w) = true := by unfold numD; split <;> rfl
theorem r_number_up_to (T : HasRows Γ) (k : Nat) {w : Tx} {i lo hi : Int} (U : Store) (hw : w = showI i) (h0 : 0 ≤ i) (h1 : lo ≤ i) (h2 : i ≤ hi) (h3 : hi ≤ 999999999) :
    run Γ (k + 3) "number_up_to" [.str w, .int lo, .int hi] U = some (.ok (.int i) U) := by
  have hn : numD w = .int i := by rw [hw]; exact numD_show h0 (by omega)
  have hl : w.length ≤ SZ := by
    have : (showI i).length ≤ 9 := showI_len (k := 9) (by decide) h0 (by omega)
    rw [hw]
    exact Nat.le_trans this (by decide)
  have e1 := r_number_in T.w k w U hl
  rw [hn] at e1
  have f1 : frz true U (run Γ (k + 2) "number_in" [.str w] U) = some (.ok (.int i) U) := by rw [e1, frz_int]
  have d1 : decide (i < lo) = false := by rw [decide_eq_false_iff_not]; omega
  have d2 : decide (hi < i) = false := by rw [decide_eq_false_iff_not]; omega
  have c1 : cmpop .is U (.int i) .non = some false := rfl
  have c3 : cmpop .gt U (.int i) (.int hi) = some (decide (hi < i)) := rfl
  rw [run_at T.upto rfl]
  simp only [W_number_up_to, startR, List.map_cons, List.map_nil, List.replicate, List.cons_append, List.nil_append, Nat.reduceSub]
  simp only [execs, exec, evB, ev, evs, List.getElem?_cons_zero, List.getElem?_cons_succ, bnd_ok, f1, bndS_ok, asgT, List.set_cons_zero, List.set_cons_succ, thn_nx, c1, tru_bl, Bool.false_eq_true, if_false, cmp_lt_int, d1, c3, d2, thn_rt, fin_rt]
theorem r_word_meant (T : HasRows Γ) (k : Nat) {c : Nat} {w : Tx} {d : D} (U : Store) (h : Part c w d) : frz true U (run Γ (k + 4) "word_meant" [.str [c], .str w] U) = some (.ok d U) := by
  have cl : closed d = true := by
    rcases h with ⟨_, _, rfl⟩ | ⟨_, i, _, _, _, rfl⟩ | ⟨_, i, _, _, _, rfl⟩ | ⟨_, i, _, _, _, rfl⟩ | ⟨_, _, rfl⟩ | ⟨_, _, rfl⟩ <;> rfl
  suffices e : run Γ (k + 4) "word_meant" [.str [c], .str w] U = some (.ok d U) by
    rw [e]
    exact frz_closed cl
  have hl : w.length ≤ SZ := Nat.le_trans (part_free h).2.2 (by decide)
  have ce : ∀ x : Nat, cmpop .eq U (.str [c]) (.str [x]) = some (decide (c = x)) := fun x => by
    rw [cmp_eq_str]
    congr 1
    by_cases q : c = x <;> simp [q]
  have eN := r_is_name T.w k w U hl
  have fN : frz true U (run Γ (k + 3) "is_name" [.str w] U) = some (.ok (.bl (isName w)) U) := by rw [eN, frz_bl]; rfl
  rw [run_at T.meant rfl]
  simp only [W_word_meant, startR, List.map_cons, List.map_nil, List.replicate, List.cons_append, List.nil_append, Nat.reduceSub]
  rcases h with ⟨rfl, h, rfl⟩ | ⟨rfl, i, h0, h1, hw, rfl⟩ | ⟨rfl, i, h0, h1, hw, rfl⟩ | ⟨rfl, i, h0, h1, hw, rfl⟩ | ⟨rfl, h, rfl⟩ | ⟨rfl, hw, rfl⟩
  · rw [h] at fN
    simp only [execs, exec, evB, ev, evs, List.getElem?_cons_zero, List.getElem?_cons_succ, bnd_ok, ce, show decide ((78 : Nat) = 82) = false from rfl, show decide ((78 : Nat) = 69) = false from rfl, show decide ((78 : Nat) = 84) = false from rfl, show decide ((78 : Nat) = 87) = false from rfl, show decide ((78 : Nat) = 66) = false from rfl, tru_bl, bndS_ok, Bool.false_eq_true, if_false, thn_nx, fN, asgT, List.set_cons_zero, List.set_cons_succ, if_true, thn_rt, fin_rt]
  · have e1 := r_number_up_to T k (lo := 0) (hi := 99) U hw h0 h0 h1 (by decide)
    have f1 : frz true U (run Γ (k + 3) "number_up_to" [.str w, .int 0, .int 99] U) = some (.ok (.int i) U) := by rw [e1, frz_int]
    simp only [execs, exec, evB, ev, evs, List.getElem?_cons_zero, List.getElem?_cons_succ, bnd_ok, ce, decide_true, tru_bl, bndS_ok, if_true, f1, thn_rt, fin_rt]
  · have e1 := r_number_up_to T k (lo := 1) (hi := 4) U hw (by omega) h0 h1 (by decide)
    have f1 : frz true U (run Γ (k + 3) "number_up_to" [.str w, .int 1, .int 4] U) = some (.ok (.int i) U) := by rw [e1, frz_int]
    simp only [execs, exec, evB, ev, evs, List.getElem?_cons_zero, List.getElem?_cons_succ, bnd_ok, ce, show decide ((69 : Nat) = 82) = false from rfl, decide_true, tru_bl, bndS_ok, Bool.false_eq_true, if_false, thn_nx, if_true, f1, thn_rt, fin_rt]
  · have e1 := r_number_in T.w (k + 1) w U hl
    have hn : numD w = .int i := by rw [hw]; exact numD_show h0 h1
    rw [hn] at e1
    have f1 : frz true U (run Γ (k + 3) "number_in" [.str w] U) = some (.ok (.int i) U) := by rw [e1, frz_int]
    simp only [execs, exec, evB, ev, evs, List.getElem?_cons_zero, List.getElem?_cons_succ, bnd_ok, ce, show decide ((84 : Nat) = 82) = false from rfl, show decide ((84 : Nat) = 69) = false from rfl, decide_true, tru_bl, bndS_ok, Bool.false_eq_true, if_false, thn_nx, if_true, f1, thn_rt, fin_rt]
  · have e1 := r_is_word T.w (k + 1) w U hl
    rw [h] at e1
    have f1 : frz true U (run Γ (k + 3) "is_word" [.str w] U) = some (.ok (.bl true) U) := by rw [e1, frz_bl]
    simp only [execs, exec, evB, ev, evs, List.getElem?_cons_zero, List.getElem?_cons_succ, bnd_ok, ce, show decide ((87 : Nat) = 82) = false from rfl, show decide ((87 : Nat) = 69) = false from rfl, show decide ((87 : Nat) = 84) = false from rfl, show decide ((87 : Nat) = 66) = false from rfl, decide_true, tru_bl, bndS_ok, Bool.false_eq_true, if_false, thn_nx, fN, f1, asgT, List.set_cons_zero, List.set_cons_succ, if_true, thn_rt, fin_rt]
  · have cb : cmpop .eq U (.str w) (.str [98, 121]) = some true := by rw [cmp_eq_str, hw]; rfl
    simp only [execs, exec, evB, ev, evs, List.getElem?_cons_zero, List.getElem?_cons_succ, bnd_ok, ce, show decide ((66 : Nat) = 82) = false from rfl, show decide ((66 : Nat) = 69) = false from rfl, show decide ((66 : Nat) = 84) = false from rfl, show decide ((66 : Nat) = 87) = false from rfl, decide_true, tru_bl, bndS_ok, Bool.false_eq_true, if_false, thn_nx, fN, cb, asgT, List.set_cons_zero, List.set_cons_succ, if_true, thn_rt, fin_rt]
theorem r_row_shape (T : HasRows Γ) (k : Nat) {w : Tx} {ws : List Tx} (U : Store) (hl : ws.length ≤ 100) : run Γ (k + 1) "row_shape" [.lst ((w :: ws).map .str)] U = some (.ok (.str (shapeOf (w :: ws))) U) := by
  have i0 : index1 (.lst ((w :: ws).map .str)) (.int 0) U = some (.ok (.str w) U) := by
    simp [index1, asQ, asL, atI, ixN]
  have c1 : cmpop .eq U (.str w) (.str [112, 101, 114, 115, 111, 110]) = some (decide (w = tPerson)) := cmp_eq_str
  have c2 : cmpop .eq U (.str w) (.str [109, 97, 116, 116, 101, 114]) = some (decide (w = tMatter)) := cmp_eq_str
  have c3 : cmpop .eq U (.str w) (.str [97, 103, 97, 105, 110, 115, 116]) = some (decide (w = tAgainst)) := cmp_eq_str
  have c4 : cmpop .eq U (.str w) (.str [115, 101, 101]) = some (decide (w = tSee)) := cmp_eq_str
  have c5 : cmpop .eq U (.str w) (.str [116, 101, 108, 108]) = some (decide (w = tTell)) := cmp_eq_str
  have pl : prim .len false [.lst ((w :: ws).map .str)] U = some (.ok (.int ((ws.length : Int) + 1)) U) := by
    simp [prim, lenOf, asQ, asL]
  have sz : (6 : Nat) + 100 ≤ SZ := by decide
  rw [run_at T.shape rfl]
  obtain ⟨d, hd⟩ : ∃ d, d = D.lst ((w :: ws).map .str) := ⟨_, rfl⟩
  rw [← hd] at i0 pl ⊢
  simp only [W_row_shape, startR, List.map_cons, List.map_nil, List.replicate, List.cons_append, List.nil_append, Nat.reduceSub]
  unfold shapeOf
  simp only
  by_cases h1 : w = tPerson
  · rw [if_pos h1]
    have k1 := decide_eq_true h1
    simp only [execs, exec, evB, ev, List.getElem?_cons_zero, bnd_ok, i0, c1, k1, tru_bl, bndS_ok, if_true, thn_rt, fin_rt]
  rw [if_neg h1]
  have k1 := decide_eq_false h1
  by_cases h2 : w = tMatter
  · rw [if_pos h2]
    have k2 := decide_eq_true h2
    simp only [execs, exec, evB, ev, List.getElem?_cons_zero, bnd_ok, i0, c1, c2, k1, k2, tru_bl, bndS_ok, if_true, Bool.false_eq_true, if_false, thn_nx, thn_rt, fin_rt]
  rw [if_neg h2]
  have k2 := decide_eq_false h2
  by_cases h3 : w = tAgainst
  · rw [if_pos h3]
    have k3 := decide_eq_true h3
    simp only [execs, exec, evB, ev, List.getElem?_cons_zero, bnd_ok, i0, c1, c2, c3, k1, k2, k3, tru_bl, bndS_ok, if_true, Bool.false_eq_true, if_false, thn_nx, thn_rt, fin_rt]
  rw [if_neg h3]
  have k3 := decide_eq_false h3
  by_cases h4 : w = tSee
  · rw [if_pos h4]
    have k4 := decide_eq_true h4
    simp only [execs, exec, evB, ev, List.getElem?_cons_zero, bnd_ok, i0, c1, c2, c3, c4, k1, k2, k3, k4, tru_bl, bndS_ok, if_true, Bool.false_eq_true, if_false, thn_nx, thn_rt, fin_rt]
  rw [if_neg h4]
  have k4 := decide_eq_false h4
  by_cases h5 : w = tTell
  · rw [if_pos h5]
    have k5 := decide_eq_true h5
    have le1 : cmpop .le U (.int 1) (.int ((ws.length : Int) + 1 - 6 - 1)) = some (decide ((1 : Int) ≤ (ws.length : Int) + 1 - 6 - 1)) := rfl
    have le2 : cmpop .le U (.int ((ws.length : Int) + 1 - 6 - 1)) (.int 6) = some (decide ((ws.length : Int) + 1 - 6 - 1 ≤ 6)) := rfl
    by_cases h6 : 8 ≤ (w :: ws).length ∧ (w :: ws).length ≤ 13
    · rw [if_pos h6]
      simp only [List.length_cons] at h6
      have q1 : decide ((1 : Int) ≤ (ws.length : Int) + 1 - 6 - 1) = true := by rw [decide_eq_true_eq]; omega
      have q2 : decide ((ws.length : Int) + 1 - 6 - 1 ≤ 6) = true := by rw [decide_eq_true_eq]; omega
      have mu : ∀ m V, mulOp m (.str [78]) (.int ((ws.length : Int) + 1 - 6 - 1)) V = some (.ok (.str (List.replicate ((w :: ws).length - 7) 78)) V) := fun m V => by
        have e1 : ((ws.length : Int) + 1 - 6 - 1).toNat = (w :: ws).length - 7 := by simp only [List.length_cons]; omega
        have e2 : -1000000 ≤ (ws.length : Int) + 1 - 6 - 1 ∧ (ws.length : Int) + 1 - 6 - 1 ≤ 1000000 ∧ ([78] : Tx).length * ((ws.length : Int) + 1 - 6 - 1).toNat ≤ SZ := by
          refine ⟨by omega, by omega, ?_⟩
          rw [e1]
          simp only [List.length_cons, List.length_nil]
          omega
        have e3 : ∀ n : Nat, (List.replicate n ([78] : Tx)).flatten = List.replicate n 78 := fun n => by
          induction n with
          | zero => rfl
          | succ n ih => rw [List.replicate_succ, List.flatten_cons, ih, List.replicate_succ]; rfl
        simp only [mulOp]
        rw [if_pos e2, e3, e1]
      have ad : ∀ m V, addOp m (.str [84, 78, 78, 78, 87, 66]) (.str (List.replicate ((w :: ws).length - 7) 78)) V = some (.ok (.str ([84, 78, 78, 78, 87, 66] ++ List.replicate ((w :: ws).length - 7) 78)) V) := fun m V => by
        have : ([84, 78, 78, 78, 87, 66] : Tx).length + (List.replicate ((w :: ws).length - 7) 78).length ≤ SZ := by
          simp only [List.length_replicate, List.length_cons, List.length_nil]
          omega
        simp only [addOp, this, if_true]
      simp only [execs, exec, evB, ev, evs, List.getElem?_cons_zero, List.getElem?_cons_succ, bnd_ok, i0, c1, c2, c3, c4, c5, k1, k2, k3, k4, k5, tru_bl, bndS_ok, if_true, Bool.false_eq_true, if_false, thn_nx, recvOk, pl, binop, asgT, List.set_cons_zero, List.set_cons_succ, le1, le2, q1, q2, mu, ad, thn_rt, fin_rt]
    · rw [if_neg h6]
      simp only [List.length_cons] at h6
      by_cases q1 : (1 : Int) ≤ (ws.length : Int) + 1 - 6 - 1
      · have q1' := decide_eq_true q1
        have q2 : decide ((ws.length : Int) + 1 - 6 - 1 ≤ 6) = false := by rw [decide_eq_false_iff_not]; omega
        simp only [execs, exec, evB, ev, evs, List.getElem?_cons_zero, List.getElem?_cons_succ, bnd_ok, i0, c1, c2, c3, c4, c5, k1, k2, k3, k4, k5, tru_bl, bndS_ok, if_true, Bool.false_eq_true, if_false, thn_nx, recvOk, pl, binop, asgT, List.set_cons_zero, List.set_cons_succ, le1, le2, q1', q2, thn_rt, fin_rt]
      · have q1' := decide_eq_false q1
        simp only [execs, exec, evB, ev, evs, List.getElem?_cons_zero, List.getElem?_cons_succ, bnd_ok, i0, c1, c2, c3, c4, c5, k1, k2, k3, k4, k5, tru_bl, bndS_ok, if_true, Bool.false_eq_true, if_false, thn_nx, recvOk, pl, binop, asgT, List.set_cons_zero, List.set_cons_succ, le1, q1', thn_rt, fin_rt]
  rw [if_neg h5]
  have k5 := decide_eq_false h5
  simp only [execs, exec, evB, ev, List.getElem?_cons_zero, bnd_ok, i0, c1, c2, c3, c4, c5, k1, k2, k3, k4, k5, tru_bl, bndS_ok, Bool.false_eq_true, if_false, thn_nx, thn_rt, fin_rt]
/-- unlike where they have to be -/
structure Unlike (w0 : Tx) (ds : List D) : Prop where
  against : w0 = tAgainst → ∃ x y r, ds = .str x :: .str y :: r ∧ x ≠ y
  tell : w0 = tTell → ∃ t x y r, ds = t :: .str x :: .str y :: r ∧ x ≠ y
theorem r_names_unlike (T : HasRows Γ) (k : Nat) {w0 : Tx} {ds : List D} {d : D} (U : Store) (h : asL U d = some (.str w0 :: ds)) (u : Unlike w0 ds) : frz true U (run Γ (k + 1) "names_unlike" [d] U) = some (.ok (.bl true) U) := by
  have ix : ∀ (j : Nat) v, (D.str w0 :: ds)[j]? = some v → index1 d (.int j) U = some (.ok v U) := fun j v hv => by
    have hq : asQ U d = some (.str w0 :: ds) := by cases d <;> simp_all [asQ, asL]
    have ha : atI (D.str w0 :: ds) (j : Int) = some v := by
      have hi := (List.getElem?_eq_some_iff.mp hv).1
      unfold atI ixN
      rw [if_pos (by omega), if_pos (by omega)]
      simpa using hv
    cases d with
    | str y => simp [asL] at h
    | _ => simp only [index1, hq, ha]
  have i0 : index1 d (.int 0) U = some (.ok (.str w0) U) := ix 0 (.str w0) rfl
  have c3 : cmpop .eq U (.str w0) (.str [97, 103, 97, 105, 110, 115, 116]) = some (decide (w0 = tAgainst)) := cmp_eq_str
  have c5 : cmpop .ne U (.str w0) (.str [116, 101, 108, 108]) = some (!decide (w0 = tTell)) := cmp_ne_str
  suffices e : run Γ (k + 1) "names_unlike" [d] U = some (.ok (.bl true) U) by rw [e, frz_bl]
  rw [run_at T.unlike rfl]
  simp only [W_names_unlike, startR, List.map_cons, List.map_nil, List.replicate, List.cons_append, List.nil_append, Nat.reduceSub, List.append_nil]
  by_cases h3 : w0 = tAgainst
  · obtain ⟨x, y, r, e, ne⟩ := u.against h3
    have i1 := ix 1 (.str x) (by rw [e]; rfl)
    have i2 := ix 2 (.str y) (by rw [e]; rfl)
    have cn : cmpop .ne U (.str x) (.str y) = some true := by rw [cmp_ne_str, decide_eq_false ne]; rfl
    have k3 := decide_eq_true h3
    have i1' : index1 d (.int 1) U = some (.ok (.str x) U) := i1
    have i2' : index1 d (.int 2) U = some (.ok (.str y) U) := i2
    simp only [execs, exec, evB, ev, List.getElem?_cons_zero, bnd_ok, i0, c3, k3, tru_bl, bndS_ok, if_true, i1', i2', cn, thn_rt, fin_rt]
  · have k3 := decide_eq_false h3
    by_cases h5 : w0 = tTell
    · obtain ⟨t, x, y, r, e, ne⟩ := u.tell h5
      have i1 := ix 2 (.str x) (by rw [e]; rfl)
      have i2 := ix 3 (.str y) (by rw [e]; rfl)
      have cn : cmpop .ne U (.str x) (.str y) = some true := by rw [cmp_ne_str, decide_eq_false ne]; rfl
      have k5 := decide_eq_true h5
      have i1' : index1 d (.int 2) U = some (.ok (.str x) U) := i1
      have i2' : index1 d (.int 3) U = some (.ok (.str y) U) := i2
      simp only [execs, exec, evB, ev, List.getElem?_cons_zero, bnd_ok, i0, c3, k3, tru_bl, bndS_ok, Bool.false_eq_true, if_false, thn_nx, c5, k5, Bool.not_true, i1', i2', cn, thn_rt, fin_rt]
    · have k5 := decide_eq_false h5
      simp only [execs, exec, evB, ev, List.getElem?_cons_zero, bnd_ok, i0, c3, k3, tru_bl, bndS_ok, Bool.false_eq_true, if_false, thn_nx, c5, k5, Bool.not_false, if_true, thn_rt, fin_rt]
/-- a walk over two lists at once -/
theorem forGo_zipfix (turn : D → Rho → Store → Option RS) : ∀ (xs ys : List D) (ρ : Rho) (U : Store), forGo (fun V => (fixS xs).fin V && (fixS ys).fin V) turn (zipS (fixS xs).get (fixS ys).get) ρ U = forL turn (List.zipWith (fun x y => D.tup [x, y]) xs ys) ρ U
  | [], ys, ρ, U => by cases ys <;> rfl
  | _ :: _, [], ρ, U => rfl
  | x :: r, y :: s, ρ, U => by
    show turnEnd (turn (.tup [x, y]) ρ U) (fun ρ' U' => forGo (fun V => (fixS r).fin V && (fixS s).fin V) turn (zipS (fixS r).get (fixS s).get) ρ' U') = turnEnd (turn (.tup [x, y]) ρ U) fun ρ' U' => forL turn (List.zipWith (fun x y => D.tup [x, y]) r s) ρ' U'
    congr 1
    funext ρ' U'
    exact forGo_zipfix turn r s ρ' U'
theorem parts_loop (T : HasRows Γ) (k : Nat) (a0 a1 a2 a4 : Option D) (U : Store) : ∀ (zs : List (Nat × Tx × D)) (acc : List D) (o6 o3 o7 : Option D), (∀ z ∈ zs, Part z.1 z.2.1 z.2.2) → acc.length + zs.length < 1000 →
    ∃ o6' o3' o7', forL (turnF (.tup [6, 3]) (execs (run Γ (k + 4)) W_row_of_3)) (zs.map fun z => D.tup [.str [z.1], .str z.2.1]) [a0, a1, a2, o3, a4, some (.ref U.length), o6, o7] (U ++ [.lst acc]) =
      some (.nx [a0, a1, a2, o3', a4, some (.ref U.length), o6', o7'] (U ++ [.lst (acc ++ zs.map (·.2.2))]))
  | [], acc, o6, o3, o7, _, _ => ⟨o6, o3, o7, by simp [forL]⟩
  | z :: r, acc, o6, o3, o7, hp, hl => by
    have z0 : (1000 : Nat) < SZ := by decide
    simp only [List.length_cons] at hl
    obtain ⟨o6', o3', o7', e⟩ := parts_loop T k a0 a1 a2 a4 U r (acc ++ [z.2.2]) (some (.str [z.1])) (some (.str z.2.1)) (some z.2.2) (fun y hy => hp y (by simp [hy])) (by simp only [List.length_append, List.length_singleton]; omega)
    refine ⟨o6', o3', o7', ?_⟩
    have hz := hp z (by simp)
    have f1 := r_word_meant T k (U ++ [.lst acc]) hz
    have nn : cmpop .is (U ++ [.lst acc]) z.2.2 .non = some false := by
      rcases hz with ⟨_, _, e⟩ | ⟨_, i, _, _, _, e⟩ | ⟨_, i, _, _, _, e⟩ | ⟨_, i, _, _, _, e⟩ | ⟨_, _, e⟩ | ⟨_, _, e⟩ <;> rw [e] <;> rfl
    have gl : (U ++ [MO.lst acc])[U.length]? = some (.lst acc) := by simp
    have hacc : acc.length < SZ := by omega
    have up : updS (U ++ [MO.lst acc]) U.length (.lst (acc ++ [z.2.2])) = U ++ [.lst (acc ++ [z.2.2])] := by simp [updS]
    have pa : prim .append false [.ref U.length, z.2.2] (U ++ [.lst acc]) = some (.ok .non (U ++ [.lst (acc ++ [z.2.2])])) := by
      simp only [prim, gl, hacc, if_true, up]
    have ro : recvOk .append (U ++ [.lst acc]) (.ref U.length) = true := by simp only [recvOk, asL, gl, Option.isSome_some]
    have turn : turnF (.tup [6, 3]) (execs (run Γ (k + 4)) W_row_of_3) (.tup [.str [z.1], .str z.2.1]) [a0, a1, a2, o3, a4, some (.ref U.length), o6, o7] (U ++ [.lst acc]) =
        some (.nx [a0, a1, a2, some (.str z.2.1), a4, some (.ref U.length), some (.str [z.1]), some z.2.2] (U ++ [.lst (acc ++ [z.2.2])])) := by
      simp only [turnF, asgT, asQ, setAll, List.set_cons_zero, List.set_cons_succ, W_row_of_3, execs, exec, evB, ev, evs, List.getElem?_cons_zero, List.getElem?_cons_succ, bnd_ok, f1, bndS_ok, thn_nx, nn, tru_bl, Bool.false_eq_true, if_false, ro, if_true, pa]
    rw [List.map_cons, forL, turn, turnEnd_nx, e]
    simp
theorem lc_words {C : Cal} {U : Store} {a0 a1 : D} (x : Tx) : lcL (turnL (.var 3) (evB C W_row_of_1) (ev C W_row_of_2) (wipe [some a0, some a1, none, none, none, none, none, none] [3])) ((splitC 32 x).map .str) U = some (.ok ((wordsOf x).map .str) U) := by
  have turn : ∀ w ∈ splitC 32 x, turnL (.var 3) (evB C W_row_of_1) (ev C W_row_of_2) (wipe [some a0, some a1, none, none, none, none, none, none] [3]) (.str w) U = some (.ok ((if decide (w ≠ []) then some w else none).map .str) U) := fun w _ => by
    have w0 : (wipe [some a0, some a1, none, none, none, none, none, none] [3]).set 3 (some (.str w)) = [some a0, some a1, none, some (.str w), none, none, none, none] := rfl
    by_cases q : w = []
    · subst q
      simp only [turnL, asgT, w0, W_row_of_1, W_row_of_2, evB, ev, List.getElem?_cons_zero, List.getElem?_cons_succ, bnd_ok, cmp_ne_str, decide_true, Bool.not_true, tru_bl, Bool.false_eq_true, if_false, ne_eq, not_true_eq_false, decide_false, Option.map_none, ret_eq, noEx_ok]
    · simp only [turnL, asgT, w0, W_row_of_1, W_row_of_2, evB, ev, List.getElem?_cons_zero, List.getElem?_cons_succ, bnd_ok, cmp_ne_str, q, decide_false, Bool.not_false, tru_bl, if_true, ne_eq, not_false_eq_true, decide_true, Option.map_some, ret_eq, noEx_ok]
  have key : ∀ l : List Tx, (∀ w ∈ l, turnL (.var 3) (evB C W_row_of_1) (ev C W_row_of_2) (wipe [some a0, some a1, none, none, none, none, none, none] [3]) (.str w) U = some (.ok ((if decide (w ≠ []) then some w else none).map .str) U)) → lcL (turnL (.var 3) (evB C W_row_of_1) (ev C W_row_of_2) (wipe [some a0, some a1, none, none, none, none, none, none] [3])) (l.map .str) U = some (.ok ((l.filter fun w => decide (w ≠ [])).map .str) U) := fun l => by
    induction l with
    | nil => intro _; rfl
    | cons w r ih =>
      intro h
      have h1 := h w (by simp)
      have h2 := ih fun y hy => h y (by simp [hy])
      simp only [List.map_cons, lcL, h1, bnd_ok, h2, ret_eq, List.filter_cons]
      by_cases q : w = []
      · simp [q]
      · simp [q]
  exact key _ turn
theorem splitC_len (c : Nat) : ∀ x : Tx, (splitC c x).length ≤ x.length + 1
  | [] => by simp [splitC]
  | x :: r => by
    have ih := splitC_len c r
    rw [splitC_cons]
    split
    · simp only [List.length_cons]; omega
    · split
      · simp
      · rename_i w ws q
        rw [q] at ih
        simp only [List.length_cons] at ih ⊢
        omega
theorem row_words (k : Nat) {row : Tx} {place : D} (U : Store) (hz : row.length + 2 ≤ SZ) : exec (run Γ k) (.asg (.var 2) (.lc false [3] (.var 3) (.seq (.prim .split false (.cons (.var 0) (.cons (.cst (.str [32])) .nil)))) W_row_of_1 W_row_of_2)) [some (.str row), some place, none, none, none, none, none, none] U = some (.nx [some (.str row), some place, some (.lst ((wordsOf row).map .str)), none, none, none, none, none] U) := by
  have sp : prim .split false [.str row, .str [32]] U = some (.ok (.lst ((splitC 32 row).map .str)) U) := by
    have : row.length + 2 ≤ SZ ∧ 32 < 128 := ⟨hz, by decide⟩
    simp only [prim, this, and_self, if_true, mkL, Bool.false_eq_true, if_false]
  have ro : recvOk .split U (.str row) = true := rfl
  have lw := lc_words (C := run Γ k) (U := U) (a0 := .str row) (a1 := place) row
  have nz : ¬ SZ < (fixS ((splitC 32 row).map D.str)).get.length := by
    rw [fixS_len, List.length_map]
    have := splitC_len 32 row
    omega
  simp only [exec, ev, evs, evIt, List.getElem?_cons_zero, bnd_ok, ro, if_true, ret_eq, sp, srcOf, if_neg nz, lcGo_fix, lw, fixS_fin, mkL, Bool.false_eq_true, if_false, bndS_ok, asgT, List.set_cons_zero, List.set_cons_succ]
theorem r_row_none (T : HasRows Γ) (k : Nat) {row : Tx} {place : D} (U : Store) (hz : row.length + 2 ≤ SZ) (h : wordsOf row = []) : run Γ (k + 1) "row_of" [.str row, place] U = some (.ok .non U) := by
  have x1 := row_words (Γ := Γ) k (place := place) U hz
  rw [h] at x1
  have pl : prim .len false [.lst []] U = some (.ok (.int 0) U) := rfl
  have x2 : exec (run Γ k) (.ifS (.cmp .eq (.prim .len false (.cons (.var 2) .nil)) (.cst (.int 0))) (.cons (.ret (.cst .non)) .nil) .nil) [some (.str row), some place, some (.lst ([].map .str)), none, none, none, none, none] U = some (.rt .non U) := by
    simp only [exec, execs, evB, ev, evs, List.map_nil, List.getElem?_cons_zero, List.getElem?_cons_succ, bnd_ok, recvOk, if_true, ret_eq, pl, cmp_eq_int, decide_true, tru_bl, bndS_ok, thn_rt]
  rw [run_at T.row rfl]
  simp only [W_row_of, startR, List.map_cons, List.map_nil, List.replicate, List.cons_append, List.nil_append, Nat.reduceSub]
  rw [execs, x1, thn_nx, execs, x2, thn_rt, fin_rt]
theorem r_row_of (T : HasRows Γ) (k : Nat) {row : Tx} {place : D} {w0 : Tx} {zs : List (Nat × Tx × D)} (U : Store) (hz : row.length + 2 ≤ SZ) (h : wordsOf row = w0 :: zs.map (·.2.1)) (hs : shapeOf (w0 :: zs.map (·.2.1)) = zs.map (·.1)) (hn : zs ≠ []) (hl : zs.length ≤ 50) (hp : ∀ z ∈ zs, Part z.1 z.2.1 z.2.2) (u : Unlike w0 (zs.map (·.2.2))) :
    run Γ (k + 5) "row_of" [.str row, place] U = some (.ok (.ref U.length) (U ++ [.lst (.str w0 :: zs.map (·.2.2))])) := by
  have z0 : (1000 : Nat) < SZ := by decide
  have x1 := row_words (Γ := Γ) (k + 4) (place := place) U hz
  rw [h] at x1
  obtain ⟨dw, hdw⟩ : ∃ d, d = D.lst ((w0 :: zs.map (·.2.1)).map .str) := ⟨_, rfl⟩
  have pl : prim .len false [dw] U = some (.ok (.int ((zs.length : Int) + 1)) U) := by
    rw [hdw]
    simp [prim, lenOf, asQ, asL]
  have i0 : index1 dw (.int 0) U = some (.ok (.str w0) U) := by
    rw [hdw]
    simp [index1, asQ, asL, atI, ixN]
  have e4 := r_row_shape T (k + 3) (w := w0) (ws := zs.map (·.2.1)) U (by rw [List.length_map]; omega)
  have e4f : frz true U (run Γ (k + 4) "row_shape" [dw] U) = some (.ok (.str (zs.map (·.1))) U) := by
    rw [hdw, e4, hs, frz_str]
  rw [← hdw] at x1
  have zl : 0 < zs.length := List.length_pos_iff.mpr hn
  have x2 : exec (run Γ (k + 4)) (.ifS (.cmp .eq (.prim .len false (.cons (.var 2) .nil)) (.cst (.int 0))) (.cons (.ret (.cst .non)) .nil) .nil) [some (.str row), some place, some dw, none, none, none, none, none] U = some (.nx [some (.str row), some place, some dw, none, none, none, none, none] U) := by
    have q : decide (((zs.length : Int) + 1) = 0) = false := by rw [decide_eq_false_iff_not]; omega
    simp only [exec, execs, evB, ev, evs, List.getElem?_cons_zero, List.getElem?_cons_succ, bnd_ok, recvOk, if_true, ret_eq, pl, cmp_eq_int, q, tru_bl, bndS_ok, Bool.false_eq_true, if_false]
  have x3 : exec (run Γ (k + 4)) (.asg (.var 4) (.call true "row_shape" (.cons (.var 2) .nil))) [some (.str row), some place, some dw, none, none, none, none, none] U = some (.nx [some (.str row), some place, some dw, none, some (.str (zs.map (·.1))), none, none, none] U) := by
    simp only [exec, ev, evs, List.getElem?_cons_zero, List.getElem?_cons_succ, bnd_ok, ret_eq, e4f, bndS_ok, asgT, List.set_cons_zero, List.set_cons_succ]
  have x4 : exec (run Γ (k + 4)) (.ifS (.orE (.cmp .eq (.var 4) (.cst (.str []))) (.cmp .ne (.prim .len false (.cons (.var 2) .nil)) (.bin .add false (.cst (.int 1)) (.prim .len false (.cons (.var 4) .nil))))) (.cons .never .nil) .nil) [some (.str row), some place, some dw, none, some (.str (zs.map (·.1))), none, none, none] U = some (.nx [some (.str row), some place, some dw, none, some (.str (zs.map (·.1))), none, none, none] U) := by
    have ne : zs.map (·.1) ≠ [] := fun q => hn (List.map_eq_nil_iff.mp q)
    have c1 : cmpop .eq U (.str (zs.map (·.1))) (.str []) = some false := by rw [cmp_eq_str, decide_eq_false ne]
    have pl2 : prim .len false [.str (zs.map (·.1))] U = some (.ok (.int zs.length) U) := by
      have : zs.length ≤ SZ := by omega
      simp only [prim, lenOf, List.length_map, this, if_true]
    have q : ((zs.length : Int) + 1) = 1 + (zs.length : Int) := by omega
    simp only [exec, execs, evB, ev, evs, List.getElem?_cons_zero, List.getElem?_cons_succ, bnd_ok, c1, tru_bl, Bool.false_eq_true, if_false, recvOk, if_true, ret_eq, pl, pl2, binop, addOp, q, cmp_ne_int, decide_true, Bool.not_true, bndS_ok]
  have x5 : exec (run Γ (k + 4)) (.asg (.var 5) (.lst true (.cons (.idx (.var 2) (.cst (.int 0))) .nil))) [some (.str row), some place, some dw, none, some (.str (zs.map (·.1))), none, none, none] U = some (.nx [some (.str row), some place, some dw, none, some (.str (zs.map (·.1))), some (.ref U.length), none, none] (U ++ [.lst [.str w0]])) := by
    simp only [exec, ev, evs, List.getElem?_cons_zero, List.getElem?_cons_succ, bnd_ok, i0, ret_eq, mkL, if_true, bndS_ok, asgT, List.set_cons_zero, List.set_cons_succ]
  obtain ⟨o6, o3, o7, e6⟩ := parts_loop T k (some (.str row)) (some place) (some dw) (some (.str (zs.map (·.1)))) U zs [.str w0] none none none hp (by simp only [List.length_cons, List.length_nil]; omega)
  have zw : List.zipWith (fun x y => D.tup [x, y]) ((zs.map (·.1)).map fun c => D.str [c]) ((zs.map (·.2.1)).map D.str) = zs.map fun z => D.tup [.str [z.1], .str z.2.1] := by
    have : ∀ l : List (Nat × Tx × D), List.zipWith (fun x y => D.tup [x, y]) ((l.map (·.1)).map fun c => D.str [c]) ((l.map (·.2.1)).map D.str) = l.map fun z => D.tup [.str [z.1], .str z.2.1] := fun l => by
      induction l with
      | nil => rfl
      | cons z r ih => simp only [List.map_cons, List.zipWith_cons_cons, ih]
    exact this zs
  have x6 : exec (run Γ (k + 4)) (.forS (.tup [6, 3]) (.zip (.var 4) (.slc false (.var 2) (.cst (.int 1)) (.cst .non))) W_row_of_3) [some (.str row), some place, some dw, none, some (.str (zs.map (·.1))), some (.ref U.length), none, none] (U ++ [.lst [.str w0]]) = some (.nx [some (.str row), some place, some dw, o3, some (.str (zs.map (·.1))), some (.ref U.length), o6, o7] (U ++ [.lst (.str w0 :: zs.map (·.2.2))])) := by
    have sl : ∀ V, sliceB false dw (some 1) none V = some (.ok (.lst ((zs.map (·.2.1)).map .str)) V) := fun V => by
      rw [hdw]
      have hc : cut ((w0 :: zs.map (·.2.1)).map D.str) (some 1) none = (zs.map (·.2.1)).map .str := by
        unfold cut sIx
        simp only [List.map_cons, List.length_cons, List.length_map]
        simp [List.take_of_length_le]
      simp only [sliceB, asL, hc, mkL, Bool.false_eq_true, if_false]
    have s1 : bnd? (.int 1) = some (some 1) := rfl
    have s2 : bnd? .non = some none := rfl
    simp only [exec, evIt, ev, List.getElem?_cons_zero, List.getElem?_cons_succ, bnd_ok, slice1, s1, s2, Option.isSome_some, if_true, sl, zipOf, srcL, bndS_ok, forGo_zipfix, zw, e6, List.cons_append, List.nil_append]
  have hV : asL (U ++ [MO.lst (.str w0 :: zs.map (·.2.2))]) (.ref U.length) = some (.str w0 :: zs.map (·.2.2)) := by simp [asL]
  have f7 := r_names_unlike T (k + 3) _ hV u
  have f7' : frz true (U ++ [MO.lst (.str w0 :: zs.map (·.2.2))]) (run Γ (k + 4) "names_unlike" [.ref U.length] (U ++ [MO.lst (.str w0 :: zs.map (·.2.2))])) = some (.ok (.bl true) (U ++ [MO.lst (.str w0 :: zs.map (·.2.2))])) := f7
  have x7 : exec (run Γ (k + 4)) (.ifS (.notE (.call true "names_unlike" (.cons (.var 5) .nil))) (.cons .never .nil) .nil) [some (.str row), some place, some dw, o3, some (.str (zs.map (·.1))), some (.ref U.length), o6, o7] (U ++ [.lst (.str w0 :: zs.map (·.2.2))]) = some (.nx [some (.str row), some place, some dw, o3, some (.str (zs.map (·.1))), some (.ref U.length), o6, o7] (U ++ [.lst (.str w0 :: zs.map (·.2.2))])) := by
    simp only [exec, execs, evB, ev, evs, List.getElem?_cons_zero, List.getElem?_cons_succ, bnd_ok, ret_eq, f7', tru_bl, Bool.not_true, Bool.false_eq_true, if_false, bndS_ok]
  have x8 : exec (run Γ (k + 4)) (.ret (.var 5)) [some (.str row), some place, some dw, o3, some (.str (zs.map (·.1))), some (.ref U.length), o6, o7] (U ++ [.lst (.str w0 :: zs.map (·.2.2))]) = some (.rt (.ref U.length) (U ++ [.lst (.str w0 :: zs.map (·.2.2))])) := by
    simp only [exec, ev, List.getElem?_cons_zero, List.getElem?_cons_succ, bndS_ok]
  rw [run_at T.row rfl]
  simp only [W_row_of, startR, List.map_cons, List.map_nil, List.replicate, List.cons_append, List.nil_append, Nat.reduceSub]
  rw [execs, x1, thn_nx, execs, x2, thn_nx, execs, x3, thn_nx, execs, x4, thn_nx, execs, x5, thn_nx, execs, x6, thn_nx, execs, x7, thn_nx, execs, x8, thn_rt, fin_rt]
end
end VI

/-! Tq: rows due, walks over what stays, words that may stand in a text. -/
namespace VI
theorem bits_le {i : Int} (h0 : 0 ≤ i) (h : i < 1152921504606846976) : bits i ≤ 1900 := by
  unfold bits
  split
  · omega
  · have : i.natAbs.log2 < 60 := (Nat.log2_lt (by omega)).mpr (by omega)
    omega
theorem str_ok {m : Bool} {i : Int} {U : Store} (h0 : 0 ≤ i) (h : i < 1152921504606846976) : prim .str1 m [.int i] U = some (.ok (.str (showI i)) U) := by
  rw [prim, if_pos (bits_le h0 h)]
theorem emodp (a : Int) {n : Int} (h : 0 < n) : 0 ≤ a % n ∧ a % n < n := ⟨Int.emod_nonneg _ (by omega), Int.emod_lt_of_pos _ h⟩
theorem divOk_small {j : Int} (h0 : 0 < j) (h1 : j < 1000000000000000000) : divOk j = true := by
  unfold divOk
  have h3 : j.natAbs.log2 < 61 := (Nat.log2_lt (by omega)).mpr (by omega)
  simp only [Bool.and_eq_true, decide_eq_true_eq]
  exact ⟨h0, by omega⟩
theorem bits_lt {i : Int} {n : Nat} (h0 : 0 ≤ i) (h : i < 2 ^ n) : bits i ≤ n := by
  unfold bits
  split
  · omega
  · rename_i hi
    have : i.natAbs.log2 < n := (Nat.log2_lt (by omega)).mpr (by
      have h2 : ((i.natAbs : Int)) < 2 ^ n := by omega
      exact_mod_cast h2)
    omega
theorem atI_has {α : Type} {xs : List α} {i : Int} (h0 : 0 ≤ i) (h1 : i < xs.length) : ∃ c ∈ xs, atI xs i = some c := by
  unfold atI ixN
  rw [if_pos h0, if_pos h1]
  have : i.toNat < xs.length := by omega
  exact ⟨xs[i.toNat], List.getElem_mem _, by simp [this]⟩
def kws : List Tx := heads ++ asked
def kw17 : List Tx := kws.take 17
theorem split_kws : splitC 32 [112, 101, 114, 115, 111, 110, 32, 109, 97, 116, 116, 101, 114, 32, 97, 103, 97, 105, 110, 115, 116, 32, 115, 101, 101, 32, 116, 101, 108, 108, 32, 98, 121, 32, 97, 116, 32, 119, 104, 111, 32, 119, 104, 97, 116, 32, 115, 105, 110, 99, 101, 32, 116, 101, 108, 108, 101, 114, 115, 32, 119, 111, 114, 100, 105, 110, 103, 115, 32, 97, 112, 97, 114, 116, 32, 108, 101, 97, 110, 115, 32, 104, 105, 100, 100, 101, 110, 32, 115, 116, 114, 105, 107, 101, 32, 113, 117, 111, 116, 101] = kw17 := by decide +kernel
theorem closed_strs (ts : List Tx) : closedL (ts.map D.str) = true := by
  induction ts with
  | nil => rfl
  | cons x r ih => simp [closedL, closed, ih]
theorem mem_kws (w : Tx) : decide (w ∈ kws) = isKey w := by
  unfold isKey kws
  by_cases h1 : w ∈ heads <;> by_cases h2 : w ∈ asked <;> simp [h1, h2]
theorem kws_word : ∀ w ∈ kws, isWord w = true := by decide +kernel
theorem word_of {w : Tx} (h1 : 1 ≤ w.length) (h2 : w.length ≤ 8) (h3 : ∀ c ∈ w, c ∈ letters) : isWord w = true := by
  unfold isWord
  simp only [Bool.and_eq_true, decide_eq_true_eq, List.all_eq_true]
  exact ⟨h1, h2, h3⟩
theorem cut_take {α : Type} (l : List α) (n : Nat) : cut l none (some (n : Int)) = l.take n := by
  unfold cut sIx
  have h1 : ¬ ((n : Int) < 0) := by omega
  simp only [h1, if_false, List.drop_zero, Nat.sub_zero, Int.toNat_natCast]
  by_cases q : n ≤ l.length
  · rw [Nat.min_eq_left q]
  · rw [Nat.min_eq_right (by omega), List.take_of_length_le (Nat.le_refl _), List.take_of_length_le (by omega)]
theorem rep_flat (n : Nat) (c : Nat) : (List.replicate n ([c] : Tx)).flatten = List.replicate n c := by
  induction n with
  | zero => rfl
  | succ n ih => rw [List.replicate_succ, List.flatten_cons, ih, List.replicate_succ]; rfl
theorem mul_sign (c : Nat) {j : Int} (h0 : 0 ≤ j) (h1 : j ≤ 1000) (m : Bool) (U : Store) : mulOp m (.str [c]) (.int j) U = some (.ok (.str (List.replicate j.toNat c)) U) := by
  have z0 : (1000 : Nat) ≤ SZ := by decide
  simp only [mulOp]
  rw [if_pos ⟨by omega, by omega, by simp only [List.length_cons, List.length_nil]; omega⟩, rep_flat]
/-! ### a row drawn -/
structure Row (w0 : Tx) (zs : List (Nat × Tx × D)) : Prop where
  shape : shapeOf (w0 :: zs.map (·.2.1)) = zs.map (·.1)
  ne : zs ≠ []
  len : zs.length ≤ 20
  parts : ∀ z ∈ zs, Part z.1 z.2.1 z.2.2
  unlike : Unlike w0 (zs.map (·.2.2))
  free : 32 ∉ w0 ∧ w0 ≠ [] ∧ w0.length ≤ 9
  sign : w0.all isSign = true
def dueD (w0 : Tx) (zs : List (Nat × Tx × D)) : List D := .str w0 :: zs.map (·.2.2)
def pN (w : Tx) : Nat × Tx × D := (78, w, .str w)
def pI (c : Nat) (i : Int) : Nat × Tx × D := (c, showI i, .int i)
theorem part_N {w : Tx} (h : isName w = true) : Part 78 w (.str w) := .inl ⟨rfl, h, rfl⟩
theorem part_R {i : Int} (h0 : 0 ≤ i) (h1 : i ≤ 99) : Part 82 (showI i) (.int i) := .inr (.inl ⟨rfl, i, h0, h1, rfl, rfl⟩)
theorem part_E {i : Int} (h0 : 1 ≤ i) (h1 : i ≤ 4) : Part 69 (showI i) (.int i) := .inr (.inr (.inl ⟨rfl, i, h0, h1, rfl, rfl⟩))
theorem part_T {i : Int} (h0 : 0 ≤ i) (h1 : i ≤ 999999999) : Part 84 (showI i) (.int i) := .inr (.inr (.inr (.inl ⟨rfl, i, h0, h1, rfl, rfl⟩)))
theorem part_W {w : Tx} (h : isWord w = true) : Part 87 w (.str w) := .inr (.inr (.inr (.inr (.inl ⟨rfl, h, rfl⟩))))
theorem part_B : Part 66 tBy (.str tBy) := .inr (.inr (.inr (.inr (.inr ⟨rfl, rfl, rfl⟩))))
theorem row_tell (t x y m v : Tx) (ti : Int) (ht : 0 ≤ ti ∧ ti ≤ 999999999) (hx : isName x = true) (hy : isName y = true) (hm : isName m = true) (hv : isWord v = true) (ne : x ≠ y) (ns : List Tx) (hn : ∀ w ∈ ns, isName w = true) (hl : ns.length ≤ 6) :
    Row tTell ([pI 84 ti, pN x, pN y, pN m, (87, v, .str v)] ++ (if ns = [] then [] else (66, tBy, .str tBy) :: ns.map pN)) := by
  have hun : Unlike tTell (([pI 84 ti, pN x, pN y, pN m, (87, v, .str v)] ++ (if ns = [] then [] else (66, tBy, .str tBy) :: ns.map pN)).map (·.2.2)) := ⟨fun h => absurd h (by decide), fun _ => ⟨_, x, y, _, rfl, ne⟩⟩
  have hpa : ∀ z ∈ [pI 84 ti, pN x, pN y, pN m, (87, v, .str v)] ++ (if ns = [] then [] else (66, tBy, .str tBy) :: ns.map pN), Part z.1 z.2.1 z.2.2 := by
    intro z hz
    rcases List.mem_append.mp hz with hz | hz
    · simp only [List.mem_cons, List.not_mem_nil, or_false] at hz
      rcases hz with rfl | rfl | rfl | rfl | rfl
      · exact part_T ht.1 ht.2
      · exact part_N hx
      · exact part_N hy
      · exact part_N hm
      · exact part_W hv
    · split at hz
      · cases hz
      · rcases List.mem_cons.mp hz with rfl | hz
        · exact part_B
        · obtain ⟨w, hw, rfl⟩ := List.mem_map.mp hz
          exact part_N (hn w hw)
  have hfr : 32 ∉ tTell ∧ tTell ≠ [] ∧ tTell.length ≤ 9 := by decide
  refine ⟨?_, by simp, ?_, hpa, hun, hfr, by decide⟩
  · have a1 : ¬ tTell = tPerson := by decide
    have a2 : ¬ tTell = tMatter := by decide
    have a3 : ¬ tTell = tAgainst := by decide
    have a4 : ¬ tTell = tSee := by decide
    by_cases q : ns = []
    · subst q
      simp only [if_true, List.append_nil]
      unfold shapeOf
      simp only [a1, a2, a3, a4, if_false, if_true]
      rfl
    · have l1 : 0 < ns.length := List.length_pos_iff.mpr q
      simp only [q, if_false]
      unfold shapeOf
      simp only [a1, a2, a3, a4, if_false, if_true]
      have ll : (tTell :: ([pI 84 ti, pN x, pN y, pN m, (87, v, D.str v)] ++ (66, tBy, D.str tBy) :: ns.map pN).map (·.2.1)).length = 7 + ns.length := by simp; omega
      rw [ll, if_pos (by omega)]
      have : (ns.map pN).map (·.1) = List.replicate ns.length 78 := by
        rw [List.map_map]
        exact List.map_const' ..
      simp only [List.map_append, List.map_cons, List.map_nil, this, pI, pN, show 7 + ns.length - 7 = ns.length by omega]
      simp
  · by_cases q : ns = []
    · simp [q]
    · simp [q]; omega
theorem row_person {x : Tx} {a b e : Int} (hx : isName x = true) (ha : 0 ≤ a ∧ a ≤ 99) (hb : 0 ≤ b ∧ b ≤ 99) (he : 1 ≤ e ∧ e ≤ 4) : Row tPerson [pN x, pI 82 a, pI 82 b, pI 69 e] := by
  refine ⟨by unfold shapeOf; simp [pN, pI], by simp, by simp, ?_, ⟨fun h => absurd h (by decide), fun h => absurd h (by decide)⟩, by decide, by decide⟩
  intro z hz
  simp only [List.mem_cons, List.not_mem_nil, or_false] at hz
  rcases hz with rfl | rfl | rfl | rfl
  · exact part_N hx
  · exact part_R ha.1 ha.2
  · exact part_R hb.1 hb.2
  · exact part_E he.1 he.2
theorem row_matter {x : Tx} (hx : isName x = true) : Row tMatter [pN x] := by
  have a1 : ¬ tMatter = tPerson := by decide
  refine ⟨by unfold shapeOf; simp [pN, a1], by simp, by simp, ?_, ⟨fun h => absurd h (by decide), fun h => absurd h (by decide)⟩, by decide, by decide⟩
  intro z hz
  simp only [List.mem_cons, List.not_mem_nil, or_false] at hz
  rcases hz with rfl
  exact part_N hx
theorem row_against {x y : Tx} (hx : isName x = true) (hy : isName y = true) (ne : x ≠ y) : Row tAgainst [pN x, pN y] := by
  have a1 : ¬ tAgainst = tPerson := by decide
  have a2 : ¬ tAgainst = tMatter := by decide
  refine ⟨by unfold shapeOf; simp [pN, a1, a2], by simp, by simp, ?_, ⟨fun _ => ⟨x, y, _, rfl, ne⟩, fun h => absurd h (by decide)⟩, by decide, by decide⟩
  intro z hz
  simp only [List.mem_cons, List.not_mem_nil, or_false] at hz
  rcases hz with rfl | rfl
  · exact part_N hx
  · exact part_N hy
theorem row_see {x y v : Tx} {t : Int} (ht : 0 ≤ t ∧ t ≤ 999999999) (hx : isName x = true) (hy : isName y = true) (hv : isWord v = true) : Row tSee [pI 84 t, pN x, pN y, (87, v, .str v)] := by
  have a1 : ¬ tSee = tPerson := by decide
  have a2 : ¬ tSee = tMatter := by decide
  have a3 : ¬ tSee = tAgainst := by decide
  refine ⟨by unfold shapeOf; simp [pN, pI, a1, a2, a3], by simp, by simp, ?_, ⟨fun h => absurd h (by decide), fun h => absurd h (by decide)⟩, by decide, by decide⟩
  intro z hz
  simp only [List.mem_cons, List.not_mem_nil, or_false] at hz
  rcases hz with rfl | rfl | rfl | rfl
  · exact part_T ht.1 ht.2
  · exact part_N hx
  · exact part_N hy
  · exact part_W hv
theorem forGo_enum1 (turn : D → Rho → Store → Option RS) : ∀ (xs : List D) (i : Nat) (ρ : Rho) (U : Store), forGo (fixS xs).fin turn (enumS 1 i (fixS xs).get) ρ U = forL turn (enumD (i + 1) xs) ρ U
  | [], i, ρ, U => rfl
  | x :: r, i, ρ, U => by
    have e : (1 : Int) + (i : Int) = ((i + 1 : Nat) : Int) := by omega
    show (match ((fun _ : Store => some x) U).map (fun x => D.tup [.int (1 + (i : Int)), x]) with
      | some y => turnEnd (turn y ρ U) fun ρ' U' => forGo (fixS r).fin turn (enumS 1 (i + 1) (fixS r).get) ρ' U'
      | none => none) = turnEnd (turn (.tup [.int ((i + 1 : Nat)), x]) ρ U) fun ρ' U' => forL turn (enumD (i + 1 + 1) r) ρ' U'
    simp only [Option.map_some, e]
    congr 1
    funext ρ' U'
    exact forGo_enum1 turn r (i + 1) ρ' U'
def Wd (w : Tx) : Prop := 32 ∉ w ∧ w ≠ [] ∧ w.length ≤ 9 ∧ w.all isSign = true
theorem letters_sign : ∀ c ∈ letters, isSign c = true := by decide
theorem word_Wd {w : Tx} (h : isWord w = true) : Wd w := by
  obtain ⟨a, b, c⟩ := word_len h
  exact ⟨(word_free h).1, (word_free h).2, by omega, List.all_eq_true.mpr fun x hx => letters_sign x (c x hx)⟩
theorem show_Wd {i : Int} (h0 : 0 ≤ i) (h1 : i ≤ 999999999) : Wd (showI i) := by
  refine ⟨show_free h0 (.inl (by decide)), show_ne h0, ?_, List.all_eq_true.mpr fun c hc => ?_⟩
  · obtain ⟨n, rfl⟩ := Int.eq_ofNat_of_zero_le h0
    rw [showI_nat]
    exact TL.numL_len (k := 9) (by decide) (by omega)
  · have a : ¬ (c < 48 ∨ 57 < c) := fun q => show_free h0 q hc
    unfold isSign
    simp only [Bool.and_eq_true, decide_eq_true_eq]
    omega
theorem part_Wd {c : Nat} {w : Tx} {d : D} (h : Part c w d) : Wd w := by
  rcases h with ⟨_, h, _⟩ | ⟨_, i, h0, h1, rfl, _⟩ | ⟨_, i, h0, h1, rfl, _⟩ | ⟨_, i, h0, h1, rfl, _⟩ | ⟨_, h, _⟩ | ⟨_, rfl, _⟩
  · exact word_Wd (name_word h)
  · exact show_Wd h0 (by omega)
  · exact show_Wd (by omega) (by omega)
  · exact show_Wd h0 h1
  · exact word_Wd h
  · exact ⟨by decide, by decide, by decide, by decide⟩
theorem mulOk_small {a b : Int} (h0 : 0 ≤ b) (h1 : b ≤ 1000) : mulOk a b = true := by
  have b2 : bits b ≤ 64 := bits_lt h0 (by omega)
  unfold mulOk
  simp [b2]
theorem mul_bit {v : Int} (h0 : 0 ≤ v) (h1 : v ≤ 40) (p : Bool) (U : Store) : ∃ j : Int, 0 ≤ j ∧ j ≤ 40 ∧ mulOp false (.int v) (.int (if p then 1 else 0)) U = some (.ok (.int j) U) := by
  refine ⟨v * (if p then 1 else 0), ?_, ?_, ?_⟩
  · cases p <;> simp [h0]
  · cases p <;> simp [h1]
  · have : mulOk v (if p then 1 else 0) = true := mulOk_small (by cases p <;> decide) (by cases p <;> decide)
    simp only [mulOp, this, if_true]
theorem rep_sign (n : Nat) : (List.replicate n 32).all isSign = true := by
  rw [List.all_eq_true]
  intro c hc
  rw [List.eq_of_mem_replicate hc]
  decide
theorem rstrip_len (x : Tx) : (rstripT x).length ≤ x.length := by
  unfold rstripT
  rw [List.length_reverse]
  have := (List.dropWhile_sublist (fun c => decide (c = 32)) (l := x.reverse)).length_le
  rwa [List.length_reverse] at this
/-! ### what is the same -/
def isSame (d : D) : Prop := (∃ w, d = .str w) ∨ ∃ i, d = .int i
theorem forGo_walk {turn : D → Rho → Store → Option RS} {fin : Store → Bool} {U : Store} (hf : fin U = true) (I : Rho → Prop) : ∀ (gs : List (Store → Option D)) (xs : List D) (ρ : Rho), gs.map (fun g => g U) = xs.map some → I ρ →
    (∀ (x : D) (ρ : Rho), x ∈ xs → I ρ → ∃ ρ', turn x ρ U = some (.nx ρ' U) ∧ I ρ') → ∃ ρ', forGo fin turn gs ρ U = some (.nx ρ' U) ∧ I ρ'
  | [], xs, ρ, e, h, st => ⟨ρ, by simp only [forGo, hf, if_true], h⟩
  | g :: gs, xs, ρ, e, h, st => by
    cases xs with
    | nil => simp at e
    | cons x r =>
      simp only [List.map_cons, List.cons.injEq] at e
      obtain ⟨ρ', e1, h1⟩ := st x ρ (by simp) h
      obtain ⟨ρ2, e2, h2⟩ := forGo_walk hf I gs r ρ' e.2 h1 fun y ρ1 hy hd => st y ρ1 (by simp [hy]) hd
      refine ⟨ρ2, ?_, h2⟩
      simp only [forGo, e.1, e1, turnEnd_nx]
      exact e2
theorem src_walk {d : D} {U : Store} {xs : List D} (h : asL U d = some xs) : ∃ s, srcL U d = some s ∧ s.fin U = true ∧ s.get.map (fun g => g U) = xs.map some := by
  cases d with
  | lst ys =>
    cases h
    refine ⟨fixS xs, rfl, rfl, ?_⟩
    simp only [fixS, List.map_map]
    rfl
  | ref n =>
    simp only [asL] at h
    split at h
    · rename_i ys hn
      cases h
      refine ⟨liveS n xs.length, by simp only [srcL, hn], by simp [liveS, hn], ?_⟩
      simp only [liveS, List.map_map]
      apply List.ext_getElem?
      intro i
      simp only [List.getElem?_map]
      by_cases hi : i < xs.length
      · rw [List.getElem?_range hi]
        simp only [Option.map_some, Function.comp, hn, if_true, List.getElem?_eq_getElem hi]
      · rw [List.getElem?_eq_none (by simpa using hi), List.getElem?_eq_none (by simpa using hi)]
        rfl
    · cases h
  | _ => cases h
theorem due_closed {w0 : Tx} {zs : List (Nat × Tx × D)} (hr : Row w0 zs) : closedL (dueD w0 zs) = true := by
  have : ∀ l : List (Nat × Tx × D), (∀ z ∈ l, Part z.1 z.2.1 z.2.2) → closedL (l.map (·.2.2)) = true := fun l => by
    induction l with
    | nil => intro _; rfl
    | cons z r ih =>
      intro h
      have hz : closed z.2.2 = true := by
        rcases h z (by simp) with ⟨_, _, e⟩ | ⟨_, i, _, _, _, e⟩ | ⟨_, i, _, _, _, e⟩ | ⟨_, i, _, _, _, e⟩ | ⟨_, _, e⟩ | ⟨_, _, e⟩ <;> rw [e] <;> rfl
      simp only [List.map_cons, closedL, hz, ih fun y hy => h y (by simp [hy]), Bool.and_self]
  simp only [closed, dueD, closedL, this zs hr.parts, Bool.and_self]
theorem frz_new {U : Store} {xs : List D} (hc : closedL xs = true) : frz true U (some (.ok (.ref U.length) (U ++ [.lst xs]))) = some (.ok (.lst xs) U) := by
  have hr : rs (U ++ [.lst xs]) U.length (.ref U.length) = some (.lst xs) := by
    have hn : ¬ U.length < U.length := by omega
    have hV : (U ++ [MO.lst xs])[U.length]? = some (.lst xs) := by simp
    show rsv (U ++ [.lst xs]) U.length (subAt (U ++ [.lst xs]) U.length 8) (.ref U.length) = _
    simp only [rsv, subAt, hn, if_false, hV, rsvL_closed xs hc, Option.map_some]
  unfold frz
  simp only [if_true, List.take_left, hr]
theorem frz_false (U : Store) (r : Option (R D)) : frz false U r = r := rfl
theorem part_same {c : Nat} {w : Tx} {d : D} (h : Part c w d) : isSame d := by
  rcases h with ⟨_, _, e⟩ | ⟨_, i, _, _, _, e⟩ | ⟨_, i, _, _, _, e⟩ | ⟨_, i, _, _, _, e⟩ | ⟨_, _, e⟩ | ⟨_, _, e⟩ <;> rw [e]
  · exact .inl ⟨_, rfl⟩
  · exact .inr ⟨_, rfl⟩
  · exact .inr ⟨_, rfl⟩
  · exact .inr ⟨_, rfl⟩
  · exact .inl ⟨_, rfl⟩
  · exact .inl ⟨_, rfl⟩
theorem part_str {c : Nat} {w : Tx} {d : D} (U : Store) (h : Part c w d) : prim .str1 false [d] U = some (.ok (.str w) U) := by
  rcases h with ⟨_, _, e⟩ | ⟨_, i, _, _, hw, e⟩ | ⟨_, i, _, _, hw, e⟩ | ⟨_, i, _, _, hw, e⟩ | ⟨_, _, e⟩ | ⟨_, _, e⟩ <;> rw [e]
  · rfl
  · rw [hw]; exact str_ok (by omega) (by omega)
  · rw [hw]; exact str_ok (by omega) (by omega)
  · rw [hw]; exact str_ok (by omega) (by omega)
  · rfl
  · rfl
theorem due_same {w0 : Tx} {zs : List (Nat × Tx × D)} (hr : Row w0 zs) : ∀ x ∈ dueD w0 zs, isSame x := by
  intro x hx
  rcases List.mem_cons.mp hx with rfl | hx
  · exact .inl ⟨_, rfl⟩
  · obtain ⟨z, hz, rfl⟩ := List.mem_map.mp hx
    exact part_same (hr.parts z hz)
theorem zip_items : ∀ {U : Store} (gs hs : List (Store → Option D)) (xs ys : List D), gs.map (fun g => g U) = xs.map some → hs.map (fun g => g U) = ys.map some → (zipS gs hs).map (fun g => g U) = (List.zipWith (fun x y => D.tup [x, y]) xs ys).map some
  | U, [], hs, xs, ys, e1, e2 => by
    have : xs = [] := by cases xs with
      | nil => rfl
      | cons x r => simp at e1
    subst this
    simp [zipS]
  | U, g :: gs, [], xs, ys, e1, e2 => by
    have : ys = [] := by cases ys with
      | nil => rfl
      | cons x r => simp at e2
    subst this
    simp [zipS]
  | U, g :: gs, h :: hs, xs, ys, e1, e2 => by
    cases xs with
    | nil => simp at e1
    | cons x r =>
      cases ys with
      | nil => simp at e2
      | cons y s =>
        simp only [List.map_cons, List.cons.injEq] at e1 e2
        simp only [zipS, List.map_cons, e1.1, e2.1, List.zipWith_cons_cons, zip_items gs hs r s e1.2 e2.2]
theorem asL_kinds {U : Store} {d : D} {xs : List D} (h : asL U d = some xs) : (isInst U d ["list"] = some true ∧ isInst U d ["tuple"] = some false) ∧ prim .len false [d] U = some (.ok (.int xs.length) U) ∧ ∀ ys s, srcL U d = some s → zipOf U d (.lst ys) = some (s, fixS ys) := by
  cases d with
  | lst ys =>
    cases h
    refine ⟨⟨rfl, rfl⟩, by simp [prim, lenOf, asQ, asL], fun ys s e => ?_⟩
    cases e
    rfl
  | ref n =>
    simp only [asL] at h
    split at h
    · rename_i ys hn
      cases h
      refine ⟨⟨?_, ?_⟩, by simp [prim, lenOf, asQ, asL, hn], fun ys s e => ?_⟩
      · simp [isInst, isInst1, tyN, hn, someTypes]
      · simp [isInst, isInst1, tyN, hn, someTypes]
      · simp only [srcL, hn, Option.some.injEq] at e
        subst e
        simp only [zipOf, srcL, hn]
    · cases h
  | _ => cases h
end VI

/-! Qn: questions read (for any table that has these defs). -/
namespace VI
def W_form_of : Fn := ⟨1, 1,
 (.cons (.ifS (.cmp .isIn (.var 0) (.glo "PAIRED" (.tup [(.str [115, 105, 110, 99, 101]), (.str [116, 101, 108, 108, 101, 114, 115]), (.str [119, 111, 114, 100, 105, 110, 103, 115]), (.str [97, 112, 97, 114, 116]), (.str [108, 101, 97, 110, 115]), (.str [104, 105, 100, 100, 101, 110]), (.str [99, 117, 116])])))
 (.cons (.ret (.tup (.cons (.cst (.str [112, 101, 114, 115, 111, 110])) (.cons (.cst (.str [109, 97, 116, 116, 101, 114])) .nil))))
 .nil)
 .nil)
 (.cons (.ifS (.cmp .isIn (.var 0) (.tup (.cons (.cst (.str [97, 116])) (.cons (.cst (.str [113, 117, 111, 116, 101])) .nil))))
 (.cons (.ret (.tup (.cons (.cst (.str [110, 117, 109, 98, 101, 114])) .nil)))
 .nil)
 .nil)
 (.cons (.ifS (.cmp .isIn (.var 0) (.tup (.cons (.cst (.str [119, 104, 111])) (.cons (.cst (.str [103, 114, 111, 117, 110, 100])) .nil))))
 (.cons (.ret (.tup (.cons (.cst (.str [109, 97, 116, 116, 101, 114])) .nil)))
 .nil)
 .nil)
 (.cons (.ifS (.cmp .isIn (.var 0) (.tup (.cons (.cst (.str [119, 104, 97, 116])) (.cons (.cst (.str [115, 116, 114, 105, 107, 101])) .nil))))
 (.cons (.ret (.tup (.cons (.cst (.str [112, 101, 114, 115, 111, 110])) .nil)))
 .nil)
 .nil)
 (.cons (.ret (.cst .non))
 .nil)))))⟩
def W_question_of_1 : ISs := (.cons (.ifS (.cmp .eq (.var 4) (.cst (.str [110, 117, 109, 98, 101, 114])))
 (.cons (.asg (.var 6) (.call true "number_in" (.cons (.var 5) .nil)))
 (.cons (.ifS (.cmp .is (.var 6) (.cst .non))
 (.cons .never
 .nil)
 .nil)
 (.cons (.expr (.prim .append false (.cons (.var 3) (.cons (.var 6) .nil))))
 .nil)))
 (.cons (.ifS (.notE (.call true "is_name" (.cons (.var 5) .nil)))
 (.cons .never
 .nil)
 .nil)
 (.cons (.expr (.prim .append false (.cons (.var 3) (.cons (.var 5) .nil))))
 .nil)))
 .nil)
def W_question_of : Fn := ⟨2, 7,
 (.cons (.asg (.var 2) (.call true "form_of" (.cons (.idx (.var 0) (.cst (.int 0))) .nil)))
 (.cons (.ifS (.orE (.cmp .is (.var 2) (.cst .non)) (.cmp .ne (.prim .len false (.cons (.var 0) .nil)) (.bin .add false (.cst (.int 1)) (.prim .len false (.cons (.var 2) .nil)))))
 (.cons .never
 .nil)
 .nil)
 (.cons (.asg (.var 3) (.lst true (.cons (.idx (.var 0) (.cst (.int 0))) .nil)))
 (.cons (.forS (.tup [4, 5]) (.zip (.var 2) (.slc false (.var 0) (.cst (.int 1)) (.cst .non))) W_question_of_1)
 (.cons (.ret (.prim .tuple1 false (.cons (.var 3) .nil)))
 .nil)))))⟩
def W_placed_questions_1 : IE := (.cmp .ne (.var 5) (.cst (.str [])))
def W_placed_questions_2 : IE := (.var 5)
def W_placed_questions_3 : ISs := (.cons (.asg (.var 4) (.lc false [5] (.var 5) (.seq (.prim .split false (.cons (.var 3) (.cons (.cst (.str [32])) .nil)))) W_placed_questions_1 W_placed_questions_2))
 (.cons (.ifS (.cmp .gt (.prim .len false (.cons (.var 4) .nil)) (.cst (.int 0)))
 (.cons (.expr (.prim .append false (.cons (.var 1) (.cons (.tup (.cons (.bin .add false (.var 2) (.cst (.int 1))) (.cons (.call true "question_of" (.cons (.var 4) (.cons (.bin .add false (.var 2) (.cst (.int 1))) .nil))) .nil))) .nil))))
 .nil)
 .nil)
 .nil))
def W_placed_questions : Fn := ⟨1, 6,
 (.cons (.asg (.var 1) (.lst true .nil))
 (.cons (.forS (.tup [2, 3]) (.enum (.prim .split false (.cons (.var 0) (.cons (.cst (.str [10])) .nil))) 0) W_placed_questions_3)
 (.cons (.ret (.var 1))
 .nil)))⟩
def W_read_questions_1 : IE := (.var 2)
def W_read_questions : Fn := ⟨1, 3,
 (.cons (.ret (.lc true [1, 2] (.tup [1, 2]) (.seq (.call true "placed_questions" (.cons (.var 0) .nil))) yes W_read_questions_1))
 .nil)⟩
theorem hd_eqQ (U : Store) (w c : Tx) (b : Bool) (h : decide (w = c) = b) : cmpop .eq U (.str w) (.str c) = some b := by rw [cmp_eq_str, h]
theorem idx_atQ {xs : List D} {x : D} {U : Store} (j : Int) (h0 : 0 ≤ j) (h : xs[j.toNat]? = some x) : index1 (.lst xs) (.int j) U = some (.ok x U) := by
  have hl := (List.getElem?_eq_some_iff.mp h).1
  have : atI xs j = some x := by
    unfold atI ixN
    rw [if_pos h0, if_pos (by omega)]
    exact h
  simp only [index1, asQ, asL, this]
theorem cut_fromQ {α : Type} (l : List α) (j : Nat) : cut l (some (j : Int)) none = l.drop j := by
  unfold cut sIx
  have h1 : ¬ ((j : Int) < 0) := by omega
  simp only [h1, if_false, Int.toNat_natCast]
  by_cases q : j ≤ l.length
  · rw [Nat.min_eq_left q, List.take_of_length_le (by rw [List.length_drop]; omega)]
  · rw [Nat.min_eq_right (by omega), List.drop_eq_nil_of_le (Nat.le_refl _), List.drop_eq_nil_of_le (by omega)]
    simp
structure HasAsk (Γ : Tab) : Prop where
  w : HasWords Γ
  form : Γ "form_of" = some W_form_of
  one : Γ "question_of" = some W_question_of
  placed : Γ "placed_questions" = some W_placed_questions
  read : Γ "read_questions" = some W_read_questions
def tNumber : Tx := [110, 117, 109, 98, 101, 114]
def paired : List Tx := [[115, 105, 110, 99, 101], [116, 101, 108, 108, 101, 114, 115], [119, 111, 114, 100, 105, 110, 103, 115], [97, 112, 97, 114, 116], [108, 101, 97, 110, 115], [104, 105, 100, 100, 101, 110], [99, 117, 116]]
def tAt : Tx := [97, 116]
def tQuote : Tx := [113, 117, 111, 116, 101]
def tWho : Tx := [119, 104, 111]
def tGround : Tx := [103, 114, 111, 117, 110, 100]
def tWhat : Tx := [119, 104, 97, 116]
def tStrike : Tx := [115, 116, 114, 105, 107, 101]
def formOf (w : Tx) : Option (List Tx) :=
  if w ∈ paired then some [tPerson, tMatter] else if w ∈ [tAt, tQuote] then some [tNumber] else if w ∈ [tWho, tGround] then some [tMatter] else if w ∈ [tWhat, tStrike] then some [tPerson] else none
/-- a question: its first word, and each other word with its kind and what it says -/
structure Qn where
  w : Tx
  ps : List (Tx × Tx × D)
def Qn.words (q : Qn) : List Tx := q.w :: q.ps.map (·.2.1)
def Qn.d (q : Qn) : D := .tup (.str q.w :: q.ps.map (·.2.2))
def QPart (p : Tx × Tx × D) : Prop := (p.1 = tNumber ∧ ∃ n : Int, 0 ≤ n ∧ n ≤ 999999999 ∧ p.2.1 = showI n ∧ p.2.2 = .int n) ∨ (p.1 ≠ tNumber ∧ isName p.2.1 = true ∧ p.2.2 = .str p.2.1)
structure Qn.ok (q : Qn) : Prop where
  form : formOf q.w = some (q.ps.map (·.1))
  len : q.ps.length ≤ 2
  parts : ∀ p ∈ q.ps, QPart p
  head : Wd q.w
theorem qpart_Wd {p : Tx × Tx × D} (h : QPart p) : Wd p.2.1 := by
  rcases h with ⟨_, n, h0, h1, e, _⟩ | ⟨_, h, _⟩
  · rw [e]
    exact show_Wd h0 h1
  · exact word_Wd (name_word h)
theorem qpart_closed {p : Tx × Tx × D} (h : QPart p) : closed p.2.2 = true := by
  rcases h with ⟨_, n, _, _, _, e⟩ | ⟨_, _, e⟩ <;> rw [e] <;> rfl
theorem closedL_of {l : List D} (h : ∀ d ∈ l, closed d = true) : closedL l = true := by
  induction l with
  | nil => rfl
  | cons x r ih => simp only [closedL, h x (by simp), ih fun y hy => h y (by simp [hy]), Bool.and_self]
theorem Qn.ok.closed {q : Qn} (h : q.ok) : closed q.d = true := by
  have : closedL (q.ps.map (·.2.2)) = true := closedL_of fun d hd => by
    obtain ⟨p, hp, rfl⟩ := List.mem_map.mp hd
    exact qpart_closed (h.parts p hp)
  simp only [Qn.d, VI.closed, closedL, this, Bool.and_self]
abbrev lsS (U : Store) (L : List D) : Store := U ++ [.lst L]
theorem ls_at {U : Store} {L : List D} : (lsS U L)[U.length]? = some (.lst L) := by simp
theorem ls_up {U : Store} {L L' : List D} : updS (lsS U L) U.length (.lst L') = lsS U L' := by simp [updS]
section
variable {Γ : Tab}
theorem mem_tupT {U : Store} {ts : List Tx} (x : Tx) : member U (.str x) (.tup (ts.map .str)) = some (decide (x ∈ ts)) := by
  unfold member
  simp only [asQ, inL_strs]
theorem r_form (T : HasAsk Γ) (k : Nat) {w : Tx} {fs : List Tx} (h : formOf w = some fs) (U : Store) : frz true U (run Γ (k + 1) "form_of" [.str w] U) = some (.ok (.tup (fs.map .str)) U) := by
  have m1 := mem_tupT (U := U) (ts := paired) w
  have m2 := mem_tupT (U := U) (ts := [tAt, tQuote]) w
  have m3 := mem_tupT (U := U) (ts := [tWho, tGround]) w
  have m4 := mem_tupT (U := U) (ts := [tWhat, tStrike]) w
  have c : closed (.tup (fs.map .str)) = true := by simp only [closed, closed_strs]
  have e : run Γ (k + 1) "form_of" [.str w] U = some (.ok (.tup (fs.map .str)) U) := by
    rw [run_at T.form rfl]
    simp only [W_form_of, startR, List.map_cons, List.map_nil, List.replicate, List.append_nil, Nat.reduceSub]
    have e1 : D.tup [(.str [115, 105, 110, 99, 101]), (.str [116, 101, 108, 108, 101, 114, 115]), (.str [119, 111, 114, 100, 105, 110, 103, 115]), (.str [97, 112, 97, 114, 116]), (.str [108, 101, 97, 110, 115]), (.str [104, 105, 100, 100, 101, 110]), (.str [99, 117, 116])] = .tup (paired.map .str) := rfl
    have e2 : D.tup [.str [97, 116], .str [113, 117, 111, 116, 101]] = .tup ([tAt, tQuote].map .str) := rfl
    have e3 : D.tup [.str [119, 104, 111], .str [103, 114, 111, 117, 110, 100]] = .tup ([tWho, tGround].map .str) := rfl
    have e4 : D.tup [.str [119, 104, 97, 116], .str [115, 116, 114, 105, 107, 101]] = .tup ([tWhat, tStrike].map .str) := rfl
    unfold formOf at h
    by_cases h1 : w ∈ paired
    · rw [if_pos h1] at h
      cases h
      simp only [execs, exec, evB, ev, evs, List.getElem?_cons_zero, bnd_ok, ret_eq, cmp_in, e1, m1, decide_eq_true h1, tru_bl, bndS_ok, if_true, thn_rt, fin_rt]
      rfl
    · rw [if_neg h1] at h
      by_cases h2 : w ∈ [tAt, tQuote]
      · rw [if_pos h2] at h
        cases h
        simp only [execs, exec, evB, ev, evs, List.getElem?_cons_zero, bnd_ok, ret_eq, cmp_in, e1, m1, decide_eq_false h1, e2, m2, decide_eq_true h2, tru_bl, bndS_ok, Bool.false_eq_true, if_false, if_true, thn_nx, thn_rt, fin_rt]
        rfl
      · rw [if_neg h2] at h
        by_cases h3 : w ∈ [tWho, tGround]
        · rw [if_pos h3] at h
          cases h
          simp only [execs, exec, evB, ev, evs, List.getElem?_cons_zero, bnd_ok, ret_eq, cmp_in, e1, m1, decide_eq_false h1, e2, m2, decide_eq_false h2, e3, m3, decide_eq_true h3, tru_bl, bndS_ok, Bool.false_eq_true, if_false, if_true, thn_nx, thn_rt, fin_rt]
          rfl
        · rw [if_neg h3] at h
          by_cases h4 : w ∈ [tWhat, tStrike]
          · rw [if_pos h4] at h
            cases h
            simp only [execs, exec, evB, ev, evs, List.getElem?_cons_zero, bnd_ok, ret_eq, cmp_in, e1, m1, decide_eq_false h1, e2, m2, decide_eq_false h2, e3, m3, decide_eq_false h3, e4, m4, decide_eq_true h4, tru_bl, bndS_ok, Bool.false_eq_true, if_false, if_true, thn_nx, thn_rt, fin_rt]
            rfl
          · rw [if_neg h4] at h
            cases h
  rw [e]
  exact frz_closed c
theorem q_loop (T : HasAsk Γ) (k : Nat) (a0 a1 a2 : Option D) (U : Store) : ∀ (ps : List (Tx × Tx × D)) (acc : List D) (o4 o5 o6 : Option D), (∀ p ∈ ps, QPart p) → acc.length + ps.length < 1000 →
    ∃ o4' o5' o6', forL (turnF (.tup [4, 5]) (execs (run Γ (k + 3)) W_question_of_1)) (List.zipWith (fun x y => D.tup [x, y]) ((ps.map (·.1)).map .str) ((ps.map (·.2.1)).map .str)) [a0, a1, a2, some (.ref U.length), o4, o5, o6] (lsS U acc) =
      some (.nx [a0, a1, a2, some (.ref U.length), o4', o5', o6'] (lsS U (acc ++ ps.map (·.2.2))))
  | [], acc, o4, o5, o6, _, _ => ⟨o4, o5, o6, by simp [forL]⟩
  | p :: r, acc, o4, o5, o6, hp, hl => by
    have z0 : (1000 : Nat) < SZ := by decide
    simp only [List.length_cons] at hl
    have ro : recvOk .append (lsS U acc) (.ref U.length) = true := by simp only [recvOk, asL, ls_at, Option.isSome_some]
    have pa : ∀ d, prim .append false [.ref U.length, d] (lsS U acc) = some (.ok .non (lsS U (acc ++ [d]))) := fun d => by
      simp only [prim, ls_at, show acc.length < SZ by omega, if_true, ls_up]
    have wl : p.2.1.length ≤ SZ := by have := (qpart_Wd (hp p (by simp))).2.2.1; omega
    have turn : ∃ o6', turnF (.tup [4, 5]) (execs (run Γ (k + 3)) W_question_of_1) (.tup [.str p.1, .str p.2.1]) [a0, a1, a2, some (.ref U.length), o4, o5, o6] (lsS U acc) = some (.nx [a0, a1, a2, some (.ref U.length), some (.str p.1), some (.str p.2.1), o6'] (lsS U (acc ++ [p.2.2]))) := by
      rcases hp p (by simp) with ⟨e, n, h0, h1, es, ed⟩ | ⟨e, hn, ed⟩
      · have q : cmpop .eq (lsS U acc) (.str p.1) (.str [110, 117, 109, 98, 101, 114]) = some true := hd_eqQ _ _ _ true (by rw [e]; decide)
        have f := r_number_in T.w (k + 1) p.2.1 (lsS U acc) wl
        rw [es, numD_show h0 h1] at f
        rw [es, ed]
        refine ⟨some (.int n), ?_⟩
        have nn : cmpop .is (lsS U acc) (.int n) .non = some false := rfl
        generalize hV : lsS U acc = V at ro pa q f nn ⊢
        simp only [turnF, asgT, asQ, setAll, List.set_cons_zero, List.set_cons_succ, W_question_of_1, execs, exec, evB, ev, evs, List.getElem?_cons_zero, List.getElem?_cons_succ, bnd_ok, q, tru_bl, bndS_ok, if_true, ret_eq, f, frz_int, thn_nx, nn, Bool.false_eq_true, if_false, ro, pa]
      · have q : cmpop .eq (lsS U acc) (.str p.1) (.str [110, 117, 109, 98, 101, 114]) = some false := hd_eqQ _ _ _ false (decide_eq_false e)
        have f := r_is_name T.w k p.2.1 (lsS U acc) wl
        have hn' : (isWord p.2.1 && !isKey p.2.1) = true := hn
        rw [hn'] at f
        rw [ed]
        refine ⟨o6, ?_⟩
        generalize hV : lsS U acc = V at ro pa q f ⊢
        simp only [turnF, asgT, asQ, setAll, List.set_cons_zero, List.set_cons_succ, W_question_of_1, execs, exec, evB, ev, evs, List.getElem?_cons_zero, List.getElem?_cons_succ, bnd_ok, q, tru_bl, bndS_ok, Bool.false_eq_true, if_false, ret_eq, f, frz_bl, Bool.not_true, thn_nx, ro, if_true, pa]
    obtain ⟨p6, t⟩ := turn
    obtain ⟨q4, q5, q6, g⟩ := q_loop T k a0 a1 a2 U r (acc ++ [p.2.2]) (some (.str p.1)) (some (.str p.2.1)) p6 (fun y hy => hp y (by simp [hy])) (by simp only [List.length_append, List.length_singleton]; omega)
    refine ⟨q4, q5, q6, ?_⟩
    simp only [List.map_cons, List.zipWith_cons_cons]
    rw [forL, t, turnEnd_nx, g]
    simp
theorem r_question (T : HasAsk Γ) (k : Nat) (q : Qn) (h : q.ok) (place : D) (U : Store) : frz true U (run Γ (k + 4) "question_of" [.lst (q.words.map .str), place] U) = some (.ok q.d U) := by
  have hlen := h.len
  obtain ⟨wd, hwd⟩ : ∃ d, d = D.lst (q.words.map .str) := ⟨_, rfl⟩
  have i0 : ∀ V, index1 wd (.int 0) V = some (.ok (.str q.w) V) := fun V => by rw [hwd]; exact idx_atQ 0 (by decide) rfl
  have f1 := r_form T (k + 2) h.form U
  have nn : cmpop .is U (.tup ((q.ps.map (·.1)).map .str)) .non = some false := rfl
  have pl : prim .len false [wd] U = some (.ok (.int ((q.ps.length : Int) + 1)) U) := by
    rw [hwd]
    simp [prim, lenOf, asQ, asL, Qn.words]
  have pl2 : prim .len false [.tup ((q.ps.map (·.1)).map .str)] U = some (.ok (.int q.ps.length) U) := by simp [prim, lenOf, asQ]
  have ad : addOp false (.int 1) (.int q.ps.length) U = some (.ok (.int (1 + q.ps.length)) U) := rfl
  have ne : cmpop .ne U (.int ((q.ps.length : Int) + 1)) (.int (1 + q.ps.length)) = some false := by
    rw [cmp_ne_int, decide_eq_true (by omega)]
    rfl
  have sl : ∀ V, slice1 false wd (.int 1) .non V = some (.ok (.lst ((q.ps.map (·.2.1)).map .str)) V) := fun V => by
    have b1 : bnd? (.int 1) = some (some 1) := rfl
    have b2 : bnd? .non = some none := rfl
    have c : cut (q.words.map D.str) (some 1) none = (q.ps.map (·.2.1)).map .str := by
      have := cut_fromQ (q.words.map D.str) 1
      exact this
    rw [hwd]
    simp only [slice1, b1, b2, sliceB, asL, c, mkL, Bool.false_eq_true, if_false]
  obtain ⟨o4, o5, o6, gl⟩ := q_loop T k (some wd) (some place) (some (.tup ((q.ps.map (·.1)).map .str))) U q.ps [.str q.w] none none none h.parts (by simp only [List.length_singleton]; omega)
  have s1 : (bnd? (.int 1)).isSome = true := rfl
  have zo : ∀ V, zipOf V (.tup ((q.ps.map (·.1)).map .str)) (.lst ((q.ps.map (·.2.1)).map .str)) = some (fixS ((q.ps.map (·.1)).map .str), fixS ((q.ps.map (·.2.1)).map .str)) := fun V => rfl
  have tp : prim .tuple1 false [.ref U.length] (lsS U ([.str q.w] ++ q.ps.map (·.2.2))) = some (.ok q.d (lsS U ([.str q.w] ++ q.ps.map (·.2.2)))) := by
    simp only [prim, asQ, asL, ls_at]
    rfl
  have e : run Γ (k + 4) "question_of" [wd, place] U = some (.ok q.d (lsS U ([.str q.w] ++ q.ps.map (·.2.2)))) := by
    rw [run_at T.one rfl]
    simp only [W_question_of, startR, List.map_cons, List.map_nil, List.replicate, List.cons_append, List.nil_append, Nat.reduceSub]
    have x1 : exec (run Γ (k + 3)) (.asg (.var 2) (.call true "form_of" (.cons (.idx (.var 0) (.cst (.int 0))) .nil))) [some wd, some place, none, none, none, none, none] U = some (.nx [some wd, some place, some (.tup ((q.ps.map (·.1)).map .str)), none, none, none, none] U) := by
      simp only [exec, ev, evs, List.getElem?_cons_zero, bnd_ok, i0, ret_eq, f1, bndS_ok, asgT, List.set_cons_zero, List.set_cons_succ]
    have x2 : exec (run Γ (k + 3)) (.ifS (.orE (.cmp .is (.var 2) (.cst .non)) (.cmp .ne (.prim .len false (.cons (.var 0) .nil)) (.bin .add false (.cst (.int 1)) (.prim .len false (.cons (.var 2) .nil))))) (.cons .never .nil) .nil) [some wd, some place, some (.tup ((q.ps.map (·.1)).map .str)), none, none, none, none] U = some (.nx [some wd, some place, some (.tup ((q.ps.map (·.1)).map .str)), none, none, none, none] U) := by
      simp only [exec, execs, evB, ev, evs, List.getElem?_cons_zero, List.getElem?_cons_succ, bnd_ok, nn, tru_bl, Bool.false_eq_true, if_false, recvOk, if_true, ret_eq, pl, pl2, binop, ad, ne, bndS_ok]
    have x3 : exec (run Γ (k + 3)) (.asg (.var 3) (.lst true (.cons (.idx (.var 0) (.cst (.int 0))) .nil))) [some wd, some place, some (.tup ((q.ps.map (·.1)).map .str)), none, none, none, none] U = some (.nx [some wd, some place, some (.tup ((q.ps.map (·.1)).map .str)), some (.ref U.length), none, none, none] (lsS U [.str q.w])) := by
      simp only [exec, ev, evs, List.getElem?_cons_zero, bnd_ok, i0, ret_eq, mkL, if_true, bndS_ok, asgT, List.set_cons_zero, List.set_cons_succ]
    have x4 : exec (run Γ (k + 3)) (.forS (.tup [4, 5]) (.zip (.var 2) (.slc false (.var 0) (.cst (.int 1)) (.cst .non))) W_question_of_1) [some wd, some place, some (.tup ((q.ps.map (·.1)).map .str)), some (.ref U.length), none, none, none] (lsS U [.str q.w]) = some (.nx [some wd, some place, some (.tup ((q.ps.map (·.1)).map .str)), some (.ref U.length), o4, o5, o6] (lsS U ([.str q.w] ++ q.ps.map (·.2.2)))) := by
      simp only [exec, evIt, ev, List.getElem?_cons_zero, List.getElem?_cons_succ, bnd_ok, s1, if_true, sl, zo, bndS_ok, forGo_zipfix, gl]
    rw [execs, x1, thn_nx, execs, x2, thn_nx, execs, x3, thn_nx, execs, x4, thn_nx]
    simp only [execs, exec, ev, evs, List.getElem?_cons_zero, List.getElem?_cons_succ, bnd_ok, recvOk, if_true, ret_eq, tp, bndS_ok, thn_rt, fin_rt]
    rfl
  rw [← hwd, e]
  have tk : (lsS U ([.str q.w] ++ q.ps.map (·.2.2))).take U.length = U := by simp
  unfold frz
  simp only [if_true, tk, rs_closed h.closed]
end
end VI

/-! Qn2: a text of questions read. -/
namespace VI
section
variable {Γ : Tab}
theorem lc_wordsG {C : Cal} {U : Store} {ρ : Rho} {i : Nat} (hi : i < ρ.length) (x : Tx) : lcL (turnL (.var i) (evB C (.cmp .ne (.var i) (.cst (.str [])))) (ev C (.var i)) (wipe ρ [i])) ((splitC 32 x).map .str) U = some (.ok ((wordsOf x).map .str) U) := by
  have g : ∀ w : D, ((wipe ρ [i]).set i (some w))[i]? = some (some w) := fun w => by simp [wipe, hi]
  have turn : ∀ w : Tx, turnL (.var i) (evB C (.cmp .ne (.var i) (.cst (.str [])))) (ev C (.var i)) (wipe ρ [i]) (.str w) U = some (.ok ((if decide (w ≠ []) then some w else none).map .str) U) := fun w => by
    by_cases q : w = []
    · subst q
      simp only [turnL, asgT, evB, ev, g, bnd_ok, cmp_ne_str, decide_true, Bool.not_true, tru_bl, Bool.false_eq_true, if_false, ne_eq, not_true_eq_false, decide_false, Option.map_none, ret_eq, noEx_ok]
    · simp only [turnL, asgT, evB, ev, g, bnd_ok, cmp_ne_str, q, decide_false, Bool.not_false, tru_bl, if_true, ne_eq, not_false_eq_true, decide_true, Option.map_some, ret_eq, noEx_ok]
  have key : ∀ l : List Tx, lcL (turnL (.var i) (evB C (.cmp .ne (.var i) (.cst (.str [])))) (ev C (.var i)) (wipe ρ [i])) (l.map .str) U = some (.ok ((l.filter fun w => decide (w ≠ [])).map .str) U) := fun l => by
    induction l with
    | nil => rfl
    | cons w r ih =>
      simp only [List.map_cons, lcL, turn w, bnd_ok, ih, ret_eq, List.filter_cons]
      by_cases q : w = []
      · simp [q]
      · simp [q]
  exact key _
/-- a line, and the question in it -/
def QLine (l : Tx × Option Qn) : Prop := l.1.length + 2 ≤ SZ ∧ match l.2 with
  | none => wordsOf l.1 = []
  | some q => wordsOf l.1 = q.words ∧ q.ok
/-- the questions with their places -/
def placedD : Nat → List (Tx × Option Qn) → List D
  | _, [] => []
  | i, (_, none) :: r => placedD (i + 1) r
  | i, (_, some q) :: r => .tup [.int ((i + 1 : Nat) : Int), q.d] :: placedD (i + 1) r
theorem placed_len : ∀ (i : Nat) (ls : List (Tx × Option Qn)), (placedD i ls).length ≤ ls.length
  | _, [] => Nat.le_refl _
  | i, (_, none) :: r => by
    have := placed_len (i + 1) r
    simp only [placedD, List.length_cons]
    omega
  | i, (_, some q) :: r => by
    have := placed_len (i + 1) r
    simp only [placedD, List.length_cons]
    omega
theorem placed_loop (T : HasAsk Γ) (k : Nat) (a0 : Option D) (U : Store) : ∀ (ls : List (Tx × Option Qn)) (i : Nat) (acc : List D) (o2 o3 o4 o5 : Option D), (∀ l ∈ ls, QLine l) → acc.length + ls.length < 10000 →
    ∃ o2' o3' o4' o5', forL (turnF (.tup [2, 3]) (execs (run Γ (k + 4)) W_placed_questions_3)) (enumD i ((ls.map (·.1)).map .str)) [a0, some (.ref U.length), o2, o3, o4, o5] (lsS U acc) =
      some (.nx [a0, some (.ref U.length), o2', o3', o4', o5'] (lsS U (acc ++ placedD i ls)))
  | [], i, acc, o2, o3, o4, o5, _, _ => ⟨o2, o3, o4, o5, by simp [forL, enumD, placedD]⟩
  | (x, oq) :: r, i, acc, o2, o3, o4, o5, hq, hl => by
    have z0 : (10000 : Nat) < SZ := by decide
    simp only [List.length_cons] at hl
    obtain ⟨hz, hx⟩ := hq (x, oq) (by simp)
    have hz : x.length + 2 ≤ SZ := hz
    have sp : ∀ V, prim .split false [.str x, .str [32]] V = some (.ok (.lst ((splitC 32 x).map .str)) V) := fun V => by
      have : x.length + 2 ≤ SZ ∧ 32 < 128 := ⟨hz, by decide⟩
      simp only [prim, this, and_self, if_true, mkL, Bool.false_eq_true, if_false]
    have nz : ¬ SZ < (fixS ((splitC 32 x).map D.str)).get.length := by
      rw [fixS_len, List.length_map]
      have := splitC_len 32 x
      omega
    have ad : ∀ V, addOp false (.int i) (.int 1) V = some (.ok (.int ((i + 1 : Nat) : Int)) V) := fun V => rfl
    have x1 : ∀ V, exec (run Γ (k + 4)) (.asg (.var 4) (.lc false [5] (.var 5) (.seq (.prim .split false (.cons (.var 3) (.cons (.cst (.str [32])) .nil)))) W_placed_questions_1 W_placed_questions_2)) [a0, some (.ref U.length), some (.int i), some (.str x), o4, o5] V = some (.nx [a0, some (.ref U.length), some (.int i), some (.str x), some (.lst ((wordsOf x).map .str)), o5] V) := fun V => by
      have lw := lc_wordsG (C := run Γ (k + 4)) (U := V) (ρ := [a0, some (.ref U.length), some (.int i), some (.str x), o4, o5]) (i := 5) (by simp) x
      have e1 : W_placed_questions_1 = (.cmp .ne (.var 5) (.cst (.str []))) := rfl
      have e2 : W_placed_questions_2 = .var 5 := rfl
      rw [e1, e2]
      have ro : recvOk .split V (.str x) = true := rfl
      rw [exec]
      simp only [ev, evIt, evs] at lw ⊢
      simp only [List.getElem?_cons_zero, List.getElem?_cons_succ, bnd_ok, ro, if_true, ret_eq, sp, srcOf, if_neg nz, lcGo_fix, lw, fixS_fin, mkL, Bool.false_eq_true, if_false, bndS_ok, asgT, List.set_cons_zero, List.set_cons_succ]
    cases oq with
    | none =>
      have hw : wordsOf x = [] := hx
      obtain ⟨p2, p3, p4, p5, g⟩ := placed_loop T k a0 U r (i + 1) acc (some (.int i)) (some (.str x)) (some (.lst [])) o5 (fun l h => hq l (by simp [h])) (by omega)
      refine ⟨p2, p3, p4, p5, ?_⟩
      have pl : prim .len false [.lst []] (lsS U acc) = some (.ok (.int 0) (lsS U acc)) := rfl
      have gt : cmpop .gt (lsS U acc) (.int 0) (.int 0) = some false := rfl
      have turn : turnF (.tup [2, 3]) (execs (run Γ (k + 4)) W_placed_questions_3) (.tup [.int i, .str x]) [a0, some (.ref U.length), o2, o3, o4, o5] (lsS U acc) = some (.nx [a0, some (.ref U.length), some (.int i), some (.str x), some (.lst []), o5] (lsS U acc)) := by
        have y1 := x1 (lsS U acc)
        rw [hw, List.map_nil] at y1
        simp only [turnF, asgT, asQ, setAll, List.set_cons_zero, List.set_cons_succ]
        unfold W_placed_questions_3
        rw [execs, y1, thn_nx]
        simp only [execs, exec, evB, ev, evs, List.getElem?_cons_zero, List.getElem?_cons_succ, bnd_ok, recvOk, if_true, ret_eq, pl, gt, tru_bl, bndS_ok, Bool.false_eq_true, if_false, thn_nx]
      show forL _ (enumD i (.str x :: (r.map (·.1)).map .str)) _ _ = some (.nx _ (lsS U (acc ++ placedD (i + 1) r)))
      rw [enumD, forL, turn, turnEnd_nx, g]
    | some q =>
      obtain ⟨hw, hok⟩ : wordsOf x = q.words ∧ q.ok := hx
      have f := r_question T k q hok (.int ((i + 1 : Nat) : Int)) (lsS U acc)
      obtain ⟨p2, p3, p4, p5, g⟩ := placed_loop T k a0 U r (i + 1) (acc ++ [.tup [.int ((i + 1 : Nat) : Int), q.d]]) (some (.int i)) (some (.str x)) (some (.lst (q.words.map .str))) o5 (fun l h => hq l (by simp [h])) (by simp only [List.length_append, List.length_singleton]; omega)
      refine ⟨p2, p3, p4, p5, ?_⟩
      have pl : prim .len false [.lst (q.words.map .str)] (lsS U acc) = some (.ok (.int ((q.ps.length + 1 : Nat) : Int)) (lsS U acc)) := by
        simp [prim, lenOf, asQ, asL, Qn.words]
      have gt : cmpop .gt (lsS U acc) (.int ((q.ps.length + 1 : Nat) : Int)) (.int 0) = some true := by rw [cmp_gt_int, decide_eq_true (by omega)]
      have ro : recvOk .append (lsS U acc) (.ref U.length) = true := by simp only [recvOk, asL, ls_at, Option.isSome_some]
      have pa : ∀ d, prim .append false [.ref U.length, d] (lsS U acc) = some (.ok .non (lsS U (acc ++ [d]))) := fun d => by
        simp only [prim, ls_at, show acc.length < SZ by omega, if_true, ls_up]
      have turn : turnF (.tup [2, 3]) (execs (run Γ (k + 4)) W_placed_questions_3) (.tup [.int i, .str x]) [a0, some (.ref U.length), o2, o3, o4, o5] (lsS U acc) = some (.nx [a0, some (.ref U.length), some (.int i), some (.str x), some (.lst (q.words.map .str)), o5] (lsS U (acc ++ [.tup [.int ((i + 1 : Nat) : Int), q.d]]))) := by
        have y1 := x1 (lsS U acc)
        rw [hw] at y1
        simp only [turnF, asgT, asQ, setAll, List.set_cons_zero, List.set_cons_succ]
        unfold W_placed_questions_3
        rw [execs, y1, thn_nx]
        have rl : recvOk .len (lsS U acc) (.lst (q.words.map .str)) = true := rfl
        generalize hV : lsS U acc = V at f pl gt ro pa rl ⊢
        simp only [execs, exec, evB, ev, evs, List.getElem?_cons_zero, List.getElem?_cons_succ, bnd_ok, rl, if_true, ret_eq, pl, gt, tru_bl, bndS_ok, ro, binop, ad, f, pa, thn_nx]
      show forL _ (enumD i (.str x :: (r.map (·.1)).map .str)) _ _ = some (.nx _ (lsS U (acc ++ (.tup [.int ((i + 1 : Nat) : Int), q.d] :: placedD (i + 1) r))))
      rw [enumD, forL, turn, turnEnd_nx, g]
      simp
theorem placed_closed : ∀ (i : Nat) (ls : List (Tx × Option Qn)), (∀ l ∈ ls, QLine l) → closedL (placedD i ls) = true
  | _, [], _ => rfl
  | i, (_, none) :: r, h => placed_closed (i + 1) r fun l hl => h l (by simp [hl])
  | i, (x, some q) :: r, h => by
    have hq : wordsOf x = q.words ∧ q.ok := (h (x, some q) (by simp)).2
    simp only [placedD, closedL, closed, hq.2.closed, placed_closed (i + 1) r fun l hl => h l (by simp [hl]), Bool.and_self]
theorem r_placed (T : HasAsk Γ) (k : Nat) (text : Tx) (ls : List (Tx × Option Qn)) (hs : splitC 10 text = ls.map (·.1)) (hz : text.length + 2 ≤ SZ) (hq : ∀ l ∈ ls, QLine l) (hl : ls.length < 10000) (U : Store) : frz true U (run Γ (k + 5) "placed_questions" [.str text] U) = some (.ok (.lst (placedD 0 ls)) U) := by
  obtain ⟨o2, o3, o4, o5, g⟩ := placed_loop T k (some (.str text)) U ls 0 [] none none none none hq (by simpa using hl)
  have sp : ∀ V, prim .split false [.str text, .str [10]] V = some (.ok (.lst ((ls.map (·.1)).map .str)) V) := fun V => by
    have : text.length + 2 ≤ SZ ∧ 10 < 128 := ⟨hz, by decide⟩
    simp only [prim, this, and_self, if_true, hs, mkL, Bool.false_eq_true, if_false]
  have ro : ∀ V, recvOk .split V (.str text) = true := fun V => rfl
  have e : run Γ (k + 5) "placed_questions" [.str text] U = some (.ok (.ref U.length) (lsS U (placedD 0 ls))) := by
    rw [run_at T.placed rfl]
    simp only [W_placed_questions, startR, List.map_cons, List.map_nil, List.replicate, List.cons_append, List.nil_append, Nat.reduceSub]
    have x1 : exec (run Γ (k + 4)) (.asg (.var 1) (.lst true .nil)) [some (.str text), none, none, none, none, none] U = some (.nx [some (.str text), some (.ref U.length), none, none, none, none] (lsS U [])) := by
      simp only [exec, ev, evs, ret_eq, bnd_ok, mkL, if_true, bndS_ok, asgT, List.set_cons_zero, List.set_cons_succ]
    have x2 : exec (run Γ (k + 4)) (.forS (.tup [2, 3]) (.enum (.prim .split false (.cons (.var 0) (.cons (.cst (.str [10])) .nil))) 0) W_placed_questions_3) [some (.str text), some (.ref U.length), none, none, none, none] (lsS U []) = some (.nx [some (.str text), some (.ref U.length), o2, o3, o4, o5] (lsS U (placedD 0 ls))) := by
      rw [List.nil_append] at g
      simp only [exec, evIt, ev, evs, List.getElem?_cons_zero, bnd_ok, ro, if_true, ret_eq, sp, srcL, true_or, bndS_ok, forGo_enum, g]
    rw [execs, x1, thn_nx, execs, x2, thn_nx]
    simp only [execs, exec, ev, List.getElem?_cons_zero, List.getElem?_cons_succ, bndS_ok, thn_rt, fin_rt]
  rw [e]
  exact frz_new (placed_closed 0 ls hq)
def secondD : D → D
  | .tup [_, q] => q
  | d => d
theorem placed_second : ∀ (i : Nat) (ls : List (Tx × Option Qn)), (placedD i ls).map secondD = (ls.filterMap (·.2)).map Qn.d
  | _, [] => rfl
  | i, (_, none) :: r => placed_second (i + 1) r
  | i, (_, some q) :: r => by
    show q.d :: (placedD (i + 1) r).map secondD = q.d :: (r.filterMap (·.2)).map Qn.d
    rw [placed_second (i + 1) r]
theorem placed_form : ∀ (i : Nat) (ls : List (Tx × Option Qn)), ∀ d ∈ placedD i ls, ∃ a b, d = .tup [a, b]
  | _, [], d, h => by cases h
  | i, (_, none) :: r, d, h => placed_form (i + 1) r d h
  | i, (_, some q) :: r, d, h => by
    rcases List.mem_cons.mp h with rfl | h
    · exact ⟨_, _, rfl⟩
    · exact placed_form (i + 1) r d h
theorem r_readq (T : HasAsk Γ) (k : Nat) (text : Tx) (ls : List (Tx × Option Qn)) (hs : splitC 10 text = ls.map (·.1)) (hz : text.length + 2 ≤ SZ) (hq : ∀ l ∈ ls, QLine l) (hl : ls.length < 10000) (U : Store) : run Γ (k + 6) "read_questions" [.str text] U = some (.ok (.ref U.length) (lsS U ((ls.filterMap (·.2)).map Qn.d))) := by
  have z0 : (10000 : Nat) < SZ := by decide
  have f := r_placed T k text ls hs hz hq hl U
  have turn : ∀ d ∈ placedD 0 ls, turnL (.tup [1, 2]) (evB (run Γ (k + 5)) yes) (ev (run Γ (k + 5)) W_read_questions_1) (wipe [some (.str text), none, none] [1, 2]) d U = some (.ok (some (secondD d)) U) := fun d hd => by
    obtain ⟨a, b, rfl⟩ := placed_form 0 ls d hd
    have w0 : wipe [some (.str text), none, none] [1, 2] = [some (.str text), none, none] := rfl
    simp only [turnL, asgT, asQ, w0, setAll, List.set_cons_zero, List.set_cons_succ, evB_yes, bnd_ok, if_true, W_read_questions_1, ev, List.getElem?_cons_zero, List.getElem?_cons_succ, ret_eq, noEx_ok, secondD]
  have e2 : lcL (turnL (.tup [1, 2]) (evB (run Γ (k + 5)) yes) (ev (run Γ (k + 5)) W_read_questions_1) (wipe [some (.str text), none, none] [1, 2])) (placedD 0 ls) U = some (.ok ((ls.filterMap (·.2)).map Qn.d) U) := by
    have := lcL_maps (turn := turnL (.tup [1, 2]) (evB (run Γ (k + 5)) yes) (ev (run Γ (k + 5)) W_read_questions_1) (wipe [some (.str text), none, none] [1, 2])) (U := U) (fun x : D => x) secondD (placedD 0 ls) turn
    rw [List.map_id'] at this
    rw [this, ← placed_second 0 ls]
  have nz : ¬ SZ < (fixS (placedD 0 ls)).get.length := by
    rw [fixS_len]
    have := placed_len 0 ls
    omega
  rw [run_at T.read rfl]
  simp only [W_read_questions, startR, List.map_cons, List.map_nil, List.replicate, List.cons_append, List.nil_append, Nat.reduceSub]
  simp only [execs, exec, ev, evs, evIt, List.getElem?_cons_zero, bnd_ok, ret_eq, f, srcOf, if_neg nz, lcGo_fix, e2, fixS_fin, if_true, mkL, bndS_ok, thn_rt, fin_rt]
end
end VI

/-! K60a: the law in plain Lean (IR printed by glink.py). -/
namespace VI
def fn_made_of_1 : ISs := (.cons (.ifS (.cmp .notIn (.var 2) (.var 1))
 (.cons (.ret (.cst (.bl false)))
 .nil)
 .nil)
 .nil)
def fn_made_of : Fn := ⟨2, 3,
 (.cons (.forS (.var 2) (.seq (.var 0)) fn_made_of_1)
 (.cons (.ret (.cst (.bl true)))
 .nil))⟩
def fn_is_word : Fn := ⟨1, 1,
 (.cons (.ret (.andE (.cmp2 .le .le (.cst (.int 1)) (.prim .len false (.cons (.var 0) .nil)) (.glo "MOST_LETTERS" (.int 8))) (.call true "made_of" (.cons (.var 0) (.cons (.cst (.str [97, 98, 99, 100, 101, 102, 103, 104, 105, 106, 107, 108, 109, 110, 111, 112, 113, 114, 115, 116, 117, 118, 119, 120, 121, 122])) .nil)))))
 .nil)⟩
def fn_is_keyword : Fn := ⟨1, 3,
 (.cons (.asg (.var 1) (.cst (.str [112, 101, 114, 115, 111, 110, 32, 109, 97, 116, 116, 101, 114, 32, 97, 103, 97, 105, 110, 115, 116, 32, 115, 101, 101, 32, 116, 101, 108, 108, 32, 98, 121])))
 (.cons (.asg (.var 2) (.cst (.str [97, 116, 32, 119, 104, 111, 32, 119, 104, 97, 116, 32, 115, 105, 110, 99, 101, 32, 116, 101, 108, 108, 101, 114, 115, 32, 119, 111, 114, 100, 105, 110, 103, 115, 32, 97, 112, 97, 114, 116, 32, 108, 101, 97, 110, 115, 32, 104, 105, 100, 100, 101, 110, 32, 115, 116, 114, 105, 107, 101, 32, 113, 117, 111, 116, 101, 32, 103, 114, 111, 117, 110, 100, 32, 99, 117, 116])))
 (.cons (.ret (.orE (.cmp .isIn (.var 0) (.prim .split false (.cons (.var 1) (.cons (.cst (.str [32])) .nil)))) (.cmp .isIn (.var 0) (.prim .split false (.cons (.var 2) (.cons (.cst (.str [32])) .nil))))))
 .nil)))⟩
def fn_is_name : Fn := ⟨1, 1,
 (.cons (.ret (.andE (.call true "is_word" (.cons (.var 0) .nil)) (.notE (.call true "is_keyword" (.cons (.var 0) .nil)))))
 .nil)⟩
def fn_number_in : Fn := ⟨1, 1,
 (.cons (.ifS (.orE (.notE (.cmp2 .le .le (.cst (.int 1)) (.prim .len false (.cons (.var 0) .nil)) (.glo "MOST_FIGURES" (.int 9)))) (.notE (.call true "made_of" (.cons (.var 0) (.cons (.cst (.str [48, 49, 50, 51, 52, 53, 54, 55, 56, 57])) .nil)))))
 (.cons (.ret (.cst .non))
 .nil)
 .nil)
 (.cons (.ifS (.andE (.prim .startswith false (.cons (.var 0) (.cons (.cst (.str [48])) .nil))) (.cmp .ne (.var 0) (.cst (.str [48]))))
 (.cons (.ret (.cst .non))
 .nil)
 .nil)
 (.cons (.ret (.prim .int1 false (.cons (.var 0) .nil)))
 .nil)))⟩
def fn_form_of : Fn := ⟨1, 1,
 (.cons (.ifS (.cmp .isIn (.var 0) (.glo "PAIRED" (.tup [(.str [115, 105, 110, 99, 101]), (.str [116, 101, 108, 108, 101, 114, 115]), (.str [119, 111, 114, 100, 105, 110, 103, 115]), (.str [97, 112, 97, 114, 116]), (.str [108, 101, 97, 110, 115]), (.str [104, 105, 100, 100, 101, 110]), (.str [99, 117, 116])])))
 (.cons (.ret (.tup (.cons (.cst (.str [112, 101, 114, 115, 111, 110])) (.cons (.cst (.str [109, 97, 116, 116, 101, 114])) .nil))))
 .nil)
 .nil)
 (.cons (.ifS (.cmp .isIn (.var 0) (.tup (.cons (.cst (.str [97, 116])) (.cons (.cst (.str [113, 117, 111, 116, 101])) .nil))))
 (.cons (.ret (.tup (.cons (.cst (.str [110, 117, 109, 98, 101, 114])) .nil)))
 .nil)
 .nil)
 (.cons (.ifS (.cmp .isIn (.var 0) (.tup (.cons (.cst (.str [119, 104, 111])) (.cons (.cst (.str [103, 114, 111, 117, 110, 100])) .nil))))
 (.cons (.ret (.tup (.cons (.cst (.str [109, 97, 116, 116, 101, 114])) .nil)))
 .nil)
 .nil)
 (.cons (.ifS (.cmp .isIn (.var 0) (.tup (.cons (.cst (.str [119, 104, 97, 116])) (.cons (.cst (.str [115, 116, 114, 105, 107, 101])) .nil))))
 (.cons (.ret (.tup (.cons (.cst (.str [112, 101, 114, 115, 111, 110])) .nil)))
 .nil)
 .nil)
 (.cons (.ret (.cst .non))
 .nil)))))⟩
def fn_question_of_1 : ISs := (.cons (.ifS (.cmp .eq (.var 4) (.cst (.str [110, 117, 109, 98, 101, 114])))
 (.cons (.asg (.var 6) (.call true "number_in" (.cons (.var 5) .nil)))
 (.cons (.ifS (.cmp .is (.var 6) (.cst .non))
 (.cons .never
 .nil)
 .nil)
 (.cons (.expr (.prim .append false (.cons (.var 3) (.cons (.var 6) .nil))))
 .nil)))
 (.cons (.ifS (.notE (.call true "is_name" (.cons (.var 5) .nil)))
 (.cons .never
 .nil)
 .nil)
 (.cons (.expr (.prim .append false (.cons (.var 3) (.cons (.var 5) .nil))))
 .nil)))
 .nil)
def fn_question_of : Fn := ⟨2, 7,
 (.cons (.asg (.var 2) (.call true "form_of" (.cons (.idx (.var 0) (.cst (.int 0))) .nil)))
 (.cons (.ifS (.orE (.cmp .is (.var 2) (.cst .non)) (.cmp .ne (.prim .len false (.cons (.var 0) .nil)) (.bin .add false (.cst (.int 1)) (.prim .len false (.cons (.var 2) .nil)))))
 (.cons .never
 .nil)
 .nil)
 (.cons (.asg (.var 3) (.lst true (.cons (.idx (.var 0) (.cst (.int 0))) .nil)))
 (.cons (.forS (.tup [4, 5]) (.zip (.var 2) (.slc false (.var 0) (.cst (.int 1)) (.cst .non))) fn_question_of_1)
 (.cons (.ret (.prim .tuple1 false (.cons (.var 3) .nil)))
 .nil)))))⟩
def fn_placed_questions_1 : IE := (.cmp .ne (.var 5) (.cst (.str [])))
def fn_placed_questions_2 : IE := (.var 5)
def fn_placed_questions_3 : ISs := (.cons (.asg (.var 4) (.lc false [5] (.var 5) (.seq (.prim .split false (.cons (.var 3) (.cons (.cst (.str [32])) .nil)))) fn_placed_questions_1 fn_placed_questions_2))
 (.cons (.ifS (.cmp .gt (.prim .len false (.cons (.var 4) .nil)) (.cst (.int 0)))
 (.cons (.expr (.prim .append false (.cons (.var 1) (.cons (.tup (.cons (.bin .add false (.var 2) (.cst (.int 1))) (.cons (.call true "question_of" (.cons (.var 4) (.cons (.bin .add false (.var 2) (.cst (.int 1))) .nil))) .nil))) .nil))))
 .nil)
 .nil)
 .nil))
def fn_placed_questions : Fn := ⟨1, 6,
 (.cons (.asg (.var 1) (.lst true .nil))
 (.cons (.forS (.tup [2, 3]) (.enum (.prim .split false (.cons (.var 0) (.cons (.cst (.str [10])) .nil))) 0) fn_placed_questions_3)
 (.cons (.ret (.var 1))
 .nil)))⟩
def fn_read_questions_1 : IE := (.var 2)
def fn_read_questions : Fn := ⟨1, 3,
 (.cons (.ret (.lc true [1, 2] (.tup [1, 2]) (.seq (.call true "placed_questions" (.cons (.var 0) .nil))) yes fn_read_questions_1))
 .nil)⟩
def fn__law_draw : Fn := ⟨3, 5,
 (.cons (.asg (.var 3) (.cst (.int 0)))
 (.cons (.ifS (.cmp .gt (.prim .len false (.cons (.var 0) .nil)) (.cst (.int 0)))
 (.cons (.asg (.var 3) (.idx (.var 0) (.bin .mod false (.var 1) (.prim .len false (.cons (.var 0) .nil)))))
 .nil)
 .nil)
 (.cons (.asg (.var 4) (.bin .mod false (.bin .mul false (.bin .add false (.bin .add false (.bin .mod false (.var 3) (.cst (.int 2147483647))) (.bin .mul false (.cst (.int 7)) (.var 1))) (.cst (.int 3))) (.bin .add false (.cst (.int 48271)) (.bin .mul false (.bin .mul false (.cst (.int 1103)) (.var 1)) (.var 1)))) (.cst (.int 2147483629))))
 (.cons (.ret (.bin .mod false (.bin .fdiv false (.var 4) (.cst (.int 64))) (.var 2)))
 .nil))))⟩
def fn__law_name_1 : ISs := (.cons (.asg (.var 3) (.bin .add false (.bin .add false (.slc false (.var 3) (.cst .non) (.bin .fdiv false (.var 4) (.cst (.int 2)))) (.idx (.var 2) (.call true "_law_draw" (.cons (.var 0) (.cons (.bin .add false (.bin .add false (.var 1) (.cst (.int 1))) (.var 4)) (.cons (.cst (.int 26)) .nil)))))) (.slc false (.var 3) (.bin .fdiv false (.var 4) (.cst (.int 2))) (.cst .non))))
 .nil)
def fn__law_name : Fn := ⟨2, 5,
 (.cons (.asg (.var 2) (.cst (.str [97, 98, 99, 100, 101, 102, 103, 104, 105, 106, 107, 108, 109, 110, 111, 112, 113, 114, 115, 116, 117, 118, 119, 120, 121, 122])))
 (.cons (.asg (.var 3) (.cst (.str [122])))
 (.cons (.forS (.var 4) (.range1 (.call true "_law_draw" (.cons (.var 0) (.cons (.var 1) (.cons (.cst (.int 8)) .nil))))) fn__law_name_1)
 (.cons (.ret (.var 3))
 .nil))))⟩
def fn__law_question : Fn := ⟨2, 5,
 (.cons (.asg (.var 2) (.lst false (.cons (.cst (.str [115, 105, 110, 99, 101])) (.cons (.cst (.str [116, 101, 108, 108, 101, 114, 115])) (.cons (.cst (.str [119, 111, 114, 100, 105, 110, 103, 115])) (.cons (.cst (.str [97, 112, 97, 114, 116])) (.cons (.cst (.str [108, 101, 97, 110, 115])) (.cons (.cst (.str [104, 105, 100, 100, 101, 110])) (.cons (.cst (.str [99, 117, 116])) .nil)))))))))
 (.cons (.asg (.var 3) (.call true "_law_draw" (.cons (.var 0) (.cons (.var 1) (.cons (.cst (.int 13)) .nil)))))
 (.cons (.ifS (.cmp .lt (.var 3) (.cst (.int 7)))
 (.cons (.ret (.tup (.cons (.idx (.var 2) (.var 3)) (.cons (.call true "_law_name" (.cons (.var 0) (.cons (.bin .add false (.var 1) (.cst (.int 1))) .nil))) (.cons (.call true "_law_name" (.cons (.var 0) (.cons (.bin .add false (.var 1) (.cst (.int 11))) .nil))) .nil)))))
 .nil)
 .nil)
 (.cons (.ifS (.cmp .lt (.var 3) (.cst (.int 9)))
 (.cons (.asg (.var 4) (.call true "_law_draw" (.cons (.var 0) (.cons (.bin .add false (.var 1) (.cst (.int 1))) (.cons (.cst (.int 12)) .nil)))))
 (.cons (.ifS (.cmp .eq (.call true "_law_draw" (.cons (.var 0) (.cons (.bin .add false (.var 1) (.cst (.int 2))) (.cons (.cst (.int 2)) .nil)))) (.cst (.int 0)))
 (.cons (.asg (.var 4) (.bin .mod false (.bin .mul false (.call true "_law_draw" (.cons (.var 0) (.cons (.bin .add false (.var 1) (.cst (.int 3))) (.cons (.cst (.int 2147483647)) .nil)))) (.cst (.int 64))) (.bin .pow false (.cst (.int 10)) (.cst (.int 9)))))
 .nil)
 .nil)
 (.cons (.ret (.tup (.cons (.idx (.lst false (.cons (.cst (.str [97, 116])) (.cons (.cst (.str [113, 117, 111, 116, 101])) .nil))) (.bin .sub false (.var 3) (.cst (.int 7)))) (.cons (.var 4) .nil))))
 .nil)))
 .nil)
 (.cons (.ret (.tup (.cons (.idx (.lst false (.cons (.cst (.str [119, 104, 111])) (.cons (.cst (.str [103, 114, 111, 117, 110, 100])) (.cons (.cst (.str [119, 104, 97, 116])) (.cons (.cst (.str [115, 116, 114, 105, 107, 101])) .nil))))) (.bin .sub false (.var 3) (.cst (.int 9)))) (.cons (.call true "_law_name" (.cons (.var 0) (.cons (.bin .add false (.var 1) (.cst (.int 1))) .nil))) .nil))))
 .nil)))))⟩
def fn__law_row_1 : ISs := (.cons (.asg (.var 3) (.bin .add false (.bin .add false (.var 3) (.prim .str1 false (.cons (.var 5) .nil))) (.bin .mul false (.cst (.str [32])) (.bin .add false (.cst (.int 1)) (.call true "_law_draw" (.cons (.var 0) (.cons (.bin .add false (.bin .add false (.var 1) (.cst (.int 1))) (.var 4)) (.cons (.cst (.int 3)) .nil))))))))
 .nil)
def fn__law_row : Fn := ⟨3, 6,
 (.cons (.asg (.var 3) (.bin .mul false (.cst (.str [32])) (.call true "_law_draw" (.cons (.var 0) (.cons (.var 1) (.cons (.cst (.int 3)) .nil))))))
 (.cons (.forS (.tup [4, 5]) (.enum (.var 2) 0) fn__law_row_1)
 (.cons (.ret (.slc false (.var 3) (.cst .non) (.bin .sub false (.prim .len false (.cons (.var 3) .nil)) (.call true "_law_draw" (.cons (.var 0) (.cons (.bin .add false (.var 1) (.cst (.int 5))) (.cons (.cst (.int 2)) .nil)))))))
 .nil)))⟩
def fn_law_1 : ISs := (.cons (.asg (.var 4) (.call true "_law_question" (.cons (.var 0) (.cons (.bin .mul false (.cst (.int 30)) (.var 3)) .nil))))
 (.cons (.expr (.prim .append false (.cons (.var 1) (.cons (.var 4) .nil))))
 (.cons (.asg (.var 2) (.bin .add true (.var 2) (.repL false (.cons (.bin .mul false (.cst (.str [32])) (.call true "_law_draw" (.cons (.var 0) (.cons (.bin .add false (.bin .mul false (.cst (.int 30)) (.var 3)) (.cst (.int 21))) (.cons (.cst (.int 4)) .nil))))) .nil) (.call true "_law_draw" (.cons (.var 0) (.cons (.bin .add false (.bin .mul false (.cst (.int 30)) (.var 3)) (.cst (.int 22))) (.cons (.cst (.int 3)) .nil)))))))
 (.cons (.expr (.prim .append false (.cons (.var 2) (.cons (.call true "_law_row" (.cons (.var 0) (.cons (.bin .add false (.bin .mul false (.cst (.int 30)) (.var 3)) (.cst (.int 23))) (.cons (.var 4) .nil)))) .nil))))
 .nil))))
def fn_law_2 : IE := (.isin (.var 7) ["tuple"])
def fn_law : Fn := ⟨1, 8,
 (.cons (.asg (.var 1) (.lst true .nil))
 (.cons (.asg (.var 2) (.lst true .nil))
 (.cons (.forS (.var 3) (.range1 (.prim .min2 false (.cons (.prim .len false (.cons (.var 0) .nil)) (.cons (.cst (.int 60)) .nil)))) fn_law_1)
 (.cons (.asg (.var 2) (.bin .add true (.var 2) (.repL false (.cons (.cst (.str [])) .nil) (.call true "_law_draw" (.cons (.var 0) (.cons (.cst (.int 2000)) (.cons (.cst (.int 3)) .nil)))))))
 (.cons (.asg (.var 5) (.prim .join false (.cons (.cst (.str [10])) (.cons (.var 2) .nil))))
 (.cons (.asg (.var 6) (.call false "read_questions" (.cons (.var 5) .nil)))
 (.cons (.ifS (.orE (.notE (.isin (.var 6) ["list"])) (.orE (.notE (.prim .all1 false (.cons (.lc false [7] (.var 7) (.seq (.var 6)) yes fn_law_2) .nil))) (.cmp .ne (.var 6) (.var 1))))
 (.cons (.ret (.cst (.bl false)))
 .nil)
 .nil)
 (.cons (.expr (.prim .append false (.cons (.var 6) (.cons (.tup (.cons (.cst (.str [119, 104, 111])) (.cons (.cst (.str [120])) .nil))) .nil))))
 (.cons (.ret (.cmp .eq (.call true "read_questions" (.cons (.var 5) .nil)) (.var 1)))
 .nil)))))))))⟩
def tab : Tab := fun f => match f with
  | "made_of" => some fn_made_of
  | "is_word" => some fn_is_word
  | "is_keyword" => some fn_is_keyword
  | "is_name" => some fn_is_name
  | "number_in" => some fn_number_in
  | "form_of" => some fn_form_of
  | "question_of" => some fn_question_of
  | "placed_questions" => some fn_placed_questions
  | "read_questions" => some fn_read_questions
  | "_law_draw" => some fn__law_draw
  | "_law_name" => some fn__law_name
  | "_law_question" => some fn__law_question
  | "_law_row" => some fn__law_row
  | "law" => some fn_law
  | _ => none
theorem tab_made_of : tab "made_of" = some fn_made_of := rfl
theorem tab_is_word : tab "is_word" = some fn_is_word := rfl
theorem tab_is_keyword : tab "is_keyword" = some fn_is_keyword := rfl
theorem tab_is_name : tab "is_name" = some fn_is_name := rfl
theorem tab_number_in : tab "number_in" = some fn_number_in := rfl
theorem tab_form_of : tab "form_of" = some fn_form_of := rfl
theorem tab_question_of : tab "question_of" = some fn_question_of := rfl
theorem tab_placed_questions : tab "placed_questions" = some fn_placed_questions := rfl
theorem tab_read_questions : tab "read_questions" = some fn_read_questions := rfl
theorem tab__law_draw : tab "_law_draw" = some fn__law_draw := rfl
theorem tab__law_name : tab "_law_name" = some fn__law_name := rfl
theorem tab__law_question : tab "_law_question" = some fn__law_question := rfl
theorem tab__law_row : tab "_law_row" = some fn__law_row := rfl
theorem tab_law : tab "law" = some fn_law := rfl
theorem hasWordsQ : HasWords tab := ⟨rfl, rfl, rfl, rfl, rfl⟩
theorem hasAsk : HasAsk tab := ⟨hasWordsQ, rfl, rfl, rfl, rfl⟩
def cellQ (ns : List Int) (k : Int) : Int := if ns = [] then 0 else (ns[(k % (ns.length : Int)).toNat]?).getD 0
def drawQ (ns : List Int) (k m : Int) : Int := (cellQ ns k % 2147483647 + 7 * k + 3) * (48271 + 1103 * k * k) % 2147483629 / 64 % m
theorem drawQ_range (ns : List Int) (k : Int) {m : Int} (h : 0 < m) : 0 ≤ drawQ ns k m ∧ drawQ ns k m < m := emodp _ h
theorem r_drawq (d : Nat) (ns : List Int) (k m : Int) (U : Store) (h0 : 0 ≤ k) (h1 : k ≤ 3000) (hm : 0 < m) : frz true U (run tab (d + 1) "_law_draw" [.lst (ns.map .int), .int k, .int m] U) = some (.ok (.int (drawQ ns k m)) U) := by
  have pl : prim .len false [.lst (ns.map .int)] U = some (.ok (.int ns.length) U) := by simp [prim, lenOf, asQ, asL]
  have x2 : exec (run tab d) (.ifS (.cmp .gt (.prim .len false (.cons (.var 0) .nil)) (.cst (.int 0))) (.cons (.asg (.var 3) (.idx (.var 0) (.bin .mod false (.var 1) (.prim .len false (.cons (.var 0) .nil))))) .nil) .nil) [some (.lst (ns.map .int)), some (.int k), some (.int m), some (.int 0), none] U = some (.nx [some (.lst (ns.map .int)), some (.int k), some (.int m), some (.int (cellQ ns k)), none] U) := by
    by_cases q : ns = []
    · have gt : cmpop .gt U (.int ns.length) (.int 0) = some false := by rw [q]; rfl
      have ec : cellQ ns k = 0 := if_pos q
      simp only [exec, execs, evB, ev, evs, List.getElem?_cons_zero, List.getElem?_cons_succ, bnd_ok, recvOk, if_true, ret_eq, pl, gt, tru_bl, bndS_ok, Bool.false_eq_true, if_false, ec]
    · have hl := List.length_pos_iff.mpr q
      have gt : cmpop .gt U (.int ns.length) (.int 0) = some true := by
        rw [cmp_gt_int, decide_eq_true (by omega)]
      have pz : (0 : Int) < (ns.length : Int) := by omega
      have em := emodp k pz
      have hj : (k % (ns.length : Int)).toNat < ns.length := by omega
      have ix : index1 (.lst (ns.map .int)) (.int (k % (ns.length : Int))) U = some (.ok (.int (cellQ ns k)) U) := by
        refine idx_atQ _ em.1 ?_
        rw [List.getElem?_map, List.getElem?_eq_getElem hj]
        unfold cellQ
        rw [if_neg q, List.getElem?_eq_getElem hj]
        rfl
      simp only [exec, execs, evB, ev, evs, List.getElem?_cons_zero, List.getElem?_cons_succ, bnd_ok, recvOk, if_true, ret_eq, pl, gt, tru_bl, bndS_ok, binop, pz, ix, asgT, List.set_cons_zero, List.set_cons_succ, thn_nx]
  have c := emodp (cellQ ns k) (n := 2147483647) (by decide)
  have q1 : 0 ≤ 1103 * k * k := Int.mul_nonneg (by omega) h0
  have b2 : bits k ≤ 64 := bits_lt h0 (by omega)
  have m1 : mulOk 7 k = true := by unfold mulOk; simp [b2]
  have m2 : mulOk 1103 k = true := by unfold mulOk; simp [b2]
  have m3 : mulOk (1103 * k) k = true := by unfold mulOk; simp [b2]
  have b4 : bits (cellQ ns k % 2147483647 + 7 * k + 3) ≤ 64 := bits_lt (by omega) (by omega)
  have m4 : mulOk (cellQ ns k % 2147483647 + 7 * k + 3) (48271 + 1103 * k * k) = true := by unfold mulOk; simp [b4]
  have d64 : divOk 64 = true := divOk_small (by decide) (by decide)
  have e : run tab (d + 1) "_law_draw" [.lst (ns.map .int), .int k, .int m] U = some (.ok (.int (drawQ ns k m)) U) := by
    rw [run_at tab__law_draw rfl]
    simp only [fn__law_draw, startR, List.map_cons, List.map_nil, List.replicate, List.cons_append, List.nil_append, Nat.reduceSub]
    have x1 : exec (run tab d) (.asg (.var 3) (.cst (.int 0))) [some (.lst (ns.map .int)), some (.int k), some (.int m), none, none] U = some (.nx [some (.lst (ns.map .int)), some (.int k), some (.int m), some (.int 0), none] U) := by
      simp only [exec, ev, bndS_ok, asgT, List.set_cons_zero, List.set_cons_succ]
    rw [execs, x1, thn_nx, execs, x2, thn_nx]
    simp only [execs, exec, ev, List.getElem?_cons_zero, List.getElem?_cons_succ, bnd_ok, binop, addOp, mulOp, m1, m2, m3, m4, if_true, show (0 : Int) < 2147483647 by decide, show (0 : Int) < 2147483629 by decide, d64, hm, bndS_ok, asgT, List.set_cons_zero, List.set_cons_succ, thn_nx, thn_rt, fin_rt]
    rfl
  rw [e, frz_int]
/-! ### names -/
theorem kws_noz : ∀ w ∈ kws, 122 ∉ w := by decide +kernel
theorem letq_at (i : Int) (h0 : 0 ≤ i) (h1 : i < 26) : ∃ c ∈ letters, ∀ U, index1 (.str letters) (.int i) U = some (.ok (.str [c]) U) := by
  have hl : letters.length = 26 := rfl
  have hz : letters.length ≤ SZ := by decide
  obtain ⟨c, hc, e⟩ := atI_has (xs := letters) h0 (by rw [hl]; exact h1)
  exact ⟨c, hc, fun U => by simp only [index1, hz, if_true, e]⟩
theorem nameq_loop (d : Nat) (ns : List Int) (k : Int) (h0 : 0 ≤ k) (h1 : k ≤ 2500) : ∀ (m j : Nat) (w : Tx), j + m ≤ 7 → w.length = j + 1 → (∀ c ∈ w, c ∈ letters) → 122 ∈ w →
    ∃ w', w'.length = j + m + 1 ∧ (∀ c ∈ w', c ∈ letters) ∧ 122 ∈ w' ∧ ∀ (U : Store) (o4 : Option D), ∃ o4', forL (turnF (.var 4) (execs (run tab (d + 1)) fn__law_name_1)) ((List.range' j m).map fun (i : Nat) => D.int i) [some (.lst (ns.map .int)), some (.int k), some (.str letters), some (.str w), o4] U = some (.nx [some (.lst (ns.map .int)), some (.int k), some (.str letters), some (.str w'), o4'] U)
  | 0, j, w, _, hl, hw, hz => ⟨w, hl, hw, hz, fun U o4 => ⟨o4, by simp [forL]⟩⟩
  | m + 1, j, w, hj, hl, hw, hz => by
    have z0 : (100 : Nat) ≤ SZ := by decide
    have dr := drawQ_range ns (k + 1 + j) (m := 26) (by decide)
    obtain ⟨c, hc, ix⟩ := letq_at _ dr.1 dr.2
    have hjl : j / 2 ≤ w.length := by omega
    obtain ⟨w', l', a', z', f⟩ := nameq_loop d ns k h0 h1 m (j + 1) (w.take (j / 2) ++ [c] ++ w.drop (j / 2)) (by omega) (by simp only [List.length_append, List.length_take, List.length_drop, List.length_singleton]; omega) (fun x hx => by
      rcases List.mem_append.mp hx with hx | hx
      · rcases List.mem_append.mp hx with hx | hx
        · exact hw x (List.mem_of_mem_take hx)
        · rw [List.mem_singleton.mp hx]; exact hc
      · exact hw x (List.mem_of_mem_drop hx)) (by
      have : 122 ∈ w.take (j / 2) ++ w.drop (j / 2) := by rw [List.take_append_drop]; exact hz
      rcases List.mem_append.mp this with h | h
      · exact List.mem_append_left _ (List.mem_append_left _ h)
      · exact List.mem_append_right _ h)
    refine ⟨w', by omega, a', z', fun U o4 => ?_⟩
    obtain ⟨o4', g⟩ := f U (some (.int j))
    refine ⟨o4', ?_⟩
    have fd := r_drawq d ns (k + 1 + j) 26 U (by omega) (by omega) (by decide)
    have d2 : divOk 2 = true := divOk_small (by decide) (by decide)
    have e2 : ((j : Int) / 2) = ((j / 2 : Nat) : Int) := by omega
    have ad : ∀ a b : Int, addOp false (.int a) (.int b) U = some (.ok (.int (a + b)) U) := fun a b => rfl
    have b1 : bnd? .non = some none := rfl
    have b2 : ∀ i : Int, bnd? (.int i) = some (some i) := fun _ => rfl
    have wz : w.length ≤ SZ := by omega
    have sl1 : slice1 false (.str w) .non (.int ((j : Int) / 2)) U = some (.ok (.str (w.take (j / 2))) U) := by
      rw [e2]
      simp only [slice1, b1, b2, sliceB, wz, if_true, cut_take]
    have sl2 : slice1 false (.str w) (.int ((j : Int) / 2)) .non U = some (.ok (.str (w.drop (j / 2))) U) := by
      rw [e2]
      simp only [slice1, b1, b2, sliceB, wz, if_true, cut_fromQ]
    have n1 : (bnd? .non).isSome = true := rfl
    have n2 : (bnd? (.int ((j : Int) / 2))).isSome = true := rfl
    have c1 : addOp false (.str (w.take (j / 2))) (.str [c]) U = some (.ok (.str (w.take (j / 2) ++ [c])) U) := by
      have : (w.take (j / 2)).length + [c].length ≤ SZ := by rw [List.length_take, List.length_singleton]; omega
      simp only [addOp, this, if_true]
    have c2 : addOp false (.str (w.take (j / 2) ++ [c])) (.str (w.drop (j / 2))) U = some (.ok (.str (w.take (j / 2) ++ [c] ++ w.drop (j / 2))) U) := by
      have : (w.take (j / 2) ++ [c]).length + (w.drop (j / 2)).length ≤ SZ := by simp only [List.length_append, List.length_take, List.length_drop, List.length_singleton]; omega
      simp only [addOp, this, if_true]
    have t : turnF (.var 4) (execs (run tab (d + 1)) fn__law_name_1) (.int j) [some (.lst (ns.map .int)), some (.int k), some (.str letters), some (.str w), o4] U = some (.nx [some (.lst (ns.map .int)), some (.int k), some (.str letters), some (.str (w.take (j / 2) ++ [c] ++ w.drop (j / 2))), some (.int j)] U) := by
      simp only [turnF, asgT, List.set_cons_zero, List.set_cons_succ, fn__law_name_1, execs, exec, ev, evs, List.getElem?_cons_zero, List.getElem?_cons_succ, bnd_ok, n1, n2, if_true, binop, d2, sl1, ad, ret_eq, fd, ix, c1, sl2, c2, bndS_ok, thn_nx]
    rw [List.range'_succ, List.map_cons, forL, t, turnEnd_nx, g]
theorem r_nameq (d : Nat) (ns : List Int) (k : Int) (h0 : 0 ≤ k) (h1 : k ≤ 2500) : ∃ w, isName w = true ∧ ∀ U, frz true U (run tab (d + 2) "_law_name" [.lst (ns.map .int), .int k] U) = some (.ok (.str w) U) := by
  have dr := drawQ_range ns k (m := 8) (by decide)
  obtain ⟨m, hm⟩ : ∃ m : Nat, (m : Int) = drawQ ns k 8 := ⟨(drawQ ns k 8).toNat, by omega⟩
  obtain ⟨w, l, a, z, f⟩ := nameq_loop d ns k h0 h1 m 0 [122] (by omega) rfl (fun c hc => by rw [List.mem_singleton.mp hc]; decide) (by simp)
  refine ⟨w, ?_, fun U => ?_⟩
  · unfold isName
    have w1 : isWord w = true := by
      unfold isWord
      simp only [Bool.and_eq_true, decide_eq_true_eq, List.all_eq_true]
      exact ⟨by omega, by omega, a⟩
    have nk : isKey w = false := by
      rw [← mem_kws]
      exact decide_eq_false fun h => kws_noz w h z
    rw [w1, nk]
    rfl
  · obtain ⟨o4, g⟩ := f U none
    have fd := r_drawq d ns k 8 U h0 (by omega) (by decide)
    rw [← hm] at fd
    have sm : small (m : Int) = true := by
      unfold small
      simp only [Bool.and_eq_true, decide_eq_true_eq]
      omega
    have rg : rangeL 0 (m : Int) = (List.range' 0 m).map fun (i : Nat) => D.int i := by
      unfold rangeL
      rw [List.range_eq_range']
      simp
    have e0 : ([97, 98, 99, 100, 101, 102, 103, 104, 105, 106, 107, 108, 109, 110, 111, 112, 113, 114, 115, 116, 117, 118, 119, 120, 121, 122] : Tx) = letters := rfl
    have e : run tab (d + 2) "_law_name" [.lst (ns.map .int), .int k] U = some (.ok (.str w) U) := by
      rw [run_at tab__law_name rfl]
      simp only [fn__law_name, startR, List.map_cons, List.map_nil, List.replicate, List.cons_append, List.nil_append, Nat.reduceSub, e0]
      simp only [execs, exec, ev, evs, evIt, List.getElem?_cons_zero, List.getElem?_cons_succ, bnd_ok, bndS_ok, asgT, List.set_cons_zero, List.set_cons_succ, thn_nx, ret_eq, fd, sm, if_true, forGo_fix, rg, g, thn_rt, fin_rt]
    rw [e, frz_str]
/-! ### questions -/
theorem pickQ {xs : List D} {i : Int} (h0 : 0 ≤ i) (h1 : i < xs.length) : ∃ x ∈ xs, ∀ U, index1 (.lst xs) (.int i) U = some (.ok x U) := by
  obtain ⟨x, hx, e⟩ := atI_has h0 h1
  exact ⟨x, hx, fun U => by simp only [index1, asQ, asL, e]⟩
theorem heads_Wd : ∀ w ∈ paired ++ [tAt, tQuote, tWho, tGround, tWhat, tStrike], Wd w := by
  intro w hw
  have : 32 ∉ w ∧ w ≠ [] ∧ w.length ≤ 9 ∧ w.all isSign = true := by
    have key : ∀ w ∈ paired ++ [tAt, tQuote, tWho, tGround, tWhat, tStrike], (decide (32 ∉ w) && decide (w ≠ []) && decide (w.length ≤ 9) && w.all isSign) = true := by decide +kernel
    have := key w hw
    simp only [Bool.and_eq_true, decide_eq_true_eq] at this
    exact ⟨this.1.1.1, this.1.1.2, this.1.2, this.2⟩
  exact this
theorem form_two : ∀ w ∈ paired, formOf w = some [tPerson, tMatter] := by decide +kernel
theorem form_num : ∀ w ∈ [tAt, tQuote], formOf w = some [tNumber] := by decide +kernel
theorem form_one : ∀ w ∈ [tWho, tGround, tWhat, tStrike], ∃ f, formOf w = some [f] ∧ f ≠ tNumber := by
  intro w hw
  simp only [List.mem_cons, List.not_mem_nil, or_false] at hw
  rcases hw with rfl | rfl | rfl | rfl
  · exact ⟨tMatter, by decide +kernel, by decide⟩
  · exact ⟨tMatter, by decide +kernel, by decide⟩
  · exact ⟨tPerson, by decide +kernel, by decide⟩
  · exact ⟨tPerson, by decide +kernel, by decide⟩
theorem r_questionq (d : Nat) (ns : List Int) (k : Int) (h0 : 0 ≤ k) (h1 : k ≤ 2400) : ∃ q : Qn, q.ok ∧ ∀ U, frz true U (run tab (d + 3) "_law_question" [.lst (ns.map .int), .int k] U) = some (.ok q.d U) := by
  have dr := drawQ_range ns k (m := 13) (by decide)
  have fd : ∀ U, frz true U (run tab (d + 2) "_law_draw" [.lst (ns.map .int), .int k, .int 13] U) = some (.ok (.int (drawQ ns k 13)) U) := fun U => r_drawq (d + 1) ns k 13 U h0 (by omega) (by decide)
  generalize drawQ ns k 13 = K at dr fd
  have ad : ∀ (a b : Int) U, addOp false (.int a) (.int b) U = some (.ok (.int (a + b)) U) := fun a b U => rfl
  have e7 : D.lst [.str [115, 105, 110, 99, 101], .str [116, 101, 108, 108, 101, 114, 115], .str [119, 111, 114, 100, 105, 110, 103, 115], .str [97, 112, 97, 114, 116], .str [108, 101, 97, 110, 115], .str [104, 105, 100, 100, 101, 110], .str [99, 117, 116]] = .lst (paired.map .str) := rfl
  have x1 : ∀ U, exec (run tab (d + 2)) (.asg (.var 2) (.lst false (.cons (.cst (.str [115, 105, 110, 99, 101])) (.cons (.cst (.str [116, 101, 108, 108, 101, 114, 115])) (.cons (.cst (.str [119, 111, 114, 100, 105, 110, 103, 115])) (.cons (.cst (.str [97, 112, 97, 114, 116])) (.cons (.cst (.str [108, 101, 97, 110, 115])) (.cons (.cst (.str [104, 105, 100, 100, 101, 110])) (.cons (.cst (.str [99, 117, 116])) .nil))))))))) [some (.lst (ns.map .int)), some (.int k), none, none, none] U = some (.nx [some (.lst (ns.map .int)), some (.int k), some (.lst (paired.map .str)), none, none] U) := fun U => by
    simp only [exec, ev, evs, bnd_ok, ret_eq, mkL, Bool.false_eq_true, if_false, e7, bndS_ok, asgT, List.set_cons_zero, List.set_cons_succ]
  have x2 : ∀ U, exec (run tab (d + 2)) (.asg (.var 3) (.call true "_law_draw" (.cons (.var 0) (.cons (.var 1) (.cons (.cst (.int 13)) .nil))))) [some (.lst (ns.map .int)), some (.int k), some (.lst (paired.map .str)), none, none] U = some (.nx [some (.lst (ns.map .int)), some (.int k), some (.lst (paired.map .str)), some (.int K), none] U) := fun U => by
    simp only [exec, ev, evs, List.getElem?_cons_zero, List.getElem?_cons_succ, bnd_ok, ret_eq, fd, bndS_ok, asgT, List.set_cons_zero, List.set_cons_succ]
  by_cases k7 : K < 7
  · obtain ⟨xw, hxw, ixw⟩ := pickQ (xs := paired.map D.str) dr.1 (by rw [List.length_map]; exact k7)
    obtain ⟨w, hw, rfl⟩ := List.mem_map.mp hxw
    obtain ⟨x, hx, fx⟩ := r_nameq d ns (k + 1) (by omega) (by omega)
    obtain ⟨y, hy, fy⟩ := r_nameq d ns (k + 11) (by omega) (by omega)
    refine ⟨⟨w, [(tPerson, x, .str x), (tMatter, y, .str y)]⟩, ⟨form_two w hw, by simp, fun p hp => ?_, heads_Wd w (List.mem_append_left _ hw)⟩, fun U => ?_⟩
    · simp only [List.mem_cons, List.not_mem_nil, or_false] at hp
      rcases hp with rfl | rfl
      · exact .inr ⟨by show tPerson ≠ tNumber; decide, hx, rfl⟩
      · exact .inr ⟨by show tMatter ≠ tNumber; decide, hy, rfl⟩
    · have lt : cmpop .lt U (.int K) (.int 7) = some true := by rw [cmp_lt_int, decide_eq_true k7]
      have e : run tab (d + 3) "_law_question" [.lst (ns.map .int), .int k] U = some (.ok (.tup [.str w, .str x, .str y]) U) := by
        rw [run_at tab__law_question rfl]
        simp only [fn__law_question, startR, List.map_cons, List.map_nil, List.replicate, List.cons_append, List.nil_append, Nat.reduceSub]
        rw [execs, x1, thn_nx, execs, x2, thn_nx]
        simp only [execs, exec, evB, ev, evs, List.getElem?_cons_zero, List.getElem?_cons_succ, bnd_ok, lt, tru_bl, bndS_ok, if_true, ixw, ret_eq, binop, ad, fx, fy, thn_rt, fin_rt]
      rw [e]
      exact frz_closed rfl
  · have lt7 : ∀ U, cmpop .lt U (.int K) (.int 7) = some false := fun U => by rw [cmp_lt_int, decide_eq_false k7]
    have x3 : ∀ U b, exec (run tab (d + 2)) (.ifS (.cmp .lt (.var 3) (.cst (.int 7))) b .nil) [some (.lst (ns.map .int)), some (.int k), some (.lst (paired.map .str)), some (.int K), none] U = some (.nx [some (.lst (ns.map .int)), some (.int k), some (.lst (paired.map .str)), some (.int K), none] U) := fun U b => by
      simp only [exec, execs, evB, ev, List.getElem?_cons_zero, List.getElem?_cons_succ, bnd_ok, lt7, tru_bl, bndS_ok, Bool.false_eq_true, if_false]
    by_cases k9 : K < 9
    · obtain ⟨xw, hxw, ixw⟩ := pickQ (xs := [.str tAt, .str tQuote]) (i := K - 7) (by omega) (by simp; omega)
      obtain ⟨w, hw, rfl⟩ : ∃ w, w ∈ [tAt, tQuote] ∧ xw = .str w := by
        simp only [List.mem_cons, List.not_mem_nil, or_false] at hxw
        rcases hxw with rfl | rfl
        · exact ⟨_, by simp, rfl⟩
        · exact ⟨_, by simp, rfl⟩
      have f1 : ∀ U, frz true U (run tab (d + 2) "_law_draw" [.lst (ns.map .int), .int (k + 1), .int 12] U) = _ := fun U => r_drawq (d + 1) ns (k + 1) 12 U (by omega) (by omega) (by decide)
      have f2 : ∀ U, frz true U (run tab (d + 2) "_law_draw" [.lst (ns.map .int), .int (k + 2), .int 2] U) = _ := fun U => r_drawq (d + 1) ns (k + 2) 2 U (by omega) (by omega) (by decide)
      have f3 : ∀ U, frz true U (run tab (d + 2) "_law_draw" [.lst (ns.map .int), .int (k + 3), .int 2147483647] U) = _ := fun U => r_drawq (d + 1) ns (k + 3) 2147483647 U (by omega) (by omega) (by decide)
      have r1 := drawQ_range ns (k + 1) (m := 12) (by decide)
      have r3 := drawQ_range ns (k + 3) (m := 2147483647) (by decide)
      have b9 := emodp (drawQ ns (k + 3) 2147483647 * 64) (n := 1000000000) (by decide)
      have lt9 : ∀ U, cmpop .lt U (.int K) (.int 9) = some true := fun U => by rw [cmp_lt_int, decide_eq_true k9]
      have m64 : mulOk (drawQ ns (k + 3) 2147483647) 64 = true := mulOk_small (by decide) (by decide)
      have pw : ∀ V, (if (0 : Int) ≤ 9 ∧ (9 : Int) ≤ 1000 ∧ (10 : Int).natAbs < 18446744073709551616 then some (R.ok (D.int ((10 : Int) ^ (9 : Int).toNat)) V) else none) = some (R.ok (D.int 1000000000) V) := fun V => rfl
      obtain ⟨n, n0, n1, fn⟩ : ∃ n : Int, 0 ≤ n ∧ n ≤ 999999999 ∧ ∀ U, thn (exec (run tab (d + 2)) (.asg (.var 4) (.call true "_law_draw" (.cons (.var 0) (.cons (.bin .add false (.var 1) (.cst (.int 1))) (.cons (.cst (.int 12)) .nil))))) [some (.lst (ns.map .int)), some (.int k), some (.lst (paired.map .str)), some (.int K), none] U) (fun ρ V => exec (run tab (d + 2)) (.ifS (.cmp .eq (.call true "_law_draw" (.cons (.var 0) (.cons (.bin .add false (.var 1) (.cst (.int 2))) (.cons (.cst (.int 2)) .nil)))) (.cst (.int 0))) (.cons (.asg (.var 4) (.bin .mod false (.bin .mul false (.call true "_law_draw" (.cons (.var 0) (.cons (.bin .add false (.var 1) (.cst (.int 3))) (.cons (.cst (.int 2147483647)) .nil)))) (.cst (.int 64))) (.bin .pow false (.cst (.int 10)) (.cst (.int 9))))) .nil) .nil) ρ V) = some (.nx [some (.lst (ns.map .int)), some (.int k), some (.lst (paired.map .str)), some (.int K), some (.int n)] U) := by
        by_cases q : drawQ ns (k + 2) 2 = 0
        · refine ⟨drawQ ns (k + 3) 2147483647 * 64 % 1000000000, b9.1, by omega, fun U => ?_⟩
          simp only [exec, execs, evB, ev, evs, List.getElem?_cons_zero, List.getElem?_cons_succ, bnd_ok, binop, ad, ret_eq, f1, bndS_ok, asgT, List.set_cons_zero, List.set_cons_succ, thn_nx, f2, cmp_eq_int, decide_eq_true q, tru_bl, if_true, f3, mulOp, m64, pw, show (0 : Int) < 1000000000 by decide]
        · refine ⟨drawQ ns (k + 1) 12, r1.1, by omega, fun U => ?_⟩
          simp only [exec, execs, evB, ev, evs, List.getElem?_cons_zero, List.getElem?_cons_succ, bnd_ok, binop, ad, ret_eq, f1, bndS_ok, asgT, List.set_cons_zero, List.set_cons_succ, thn_nx, f2, cmp_eq_int, decide_eq_false q, tru_bl, Bool.false_eq_true, if_false]
      refine ⟨⟨w, [(tNumber, showI n, .int n)]⟩, ⟨form_num w hw, by simp, fun p hp => ?_, heads_Wd w (List.mem_append_right _ (by
        simp only [List.mem_cons, List.not_mem_nil, or_false] at hw ⊢
        rcases hw with h | h
        · exact .inl h
        · exact .inr (.inl h)))⟩, fun U => ?_⟩
      · rw [List.mem_singleton.mp hp]
        exact .inl ⟨rfl, n, n0, n1, rfl, rfl⟩
      · have e : run tab (d + 3) "_law_question" [.lst (ns.map .int), .int k] U = some (.ok (.tup [.str w, .int n]) U) := by
          rw [run_at tab__law_question rfl]
          simp only [fn__law_question, startR, List.map_cons, List.map_nil, List.replicate, List.cons_append, List.nil_append, Nat.reduceSub]
          rw [execs, x1, thn_nx, execs, x2, thn_nx, execs, x3, thn_nx, execs]
          have tail : ∀ {r : Option RS} {s : IS} {t : ISs} {C : Cal}, (thn r fun ρ V => execs C (.cons s t) ρ V) = thn (thn r fun ρ V => exec C s ρ V) fun ρ V => execs C t ρ V := fun {r s t C} => by
            cases r with
            | none => rfl
            | some r => cases r with
              | nx ρ V => simp only [thn_nx, execs]
              | _ => rfl
          have inner : exec (run tab (d + 2)) (.ifS (.cmp .lt (.var 3) (.cst (.int 9))) (.cons (.asg (.var 4) (.call true "_law_draw" (.cons (.var 0) (.cons (.bin .add false (.var 1) (.cst (.int 1))) (.cons (.cst (.int 12)) .nil))))) (.cons (.ifS (.cmp .eq (.call true "_law_draw" (.cons (.var 0) (.cons (.bin .add false (.var 1) (.cst (.int 2))) (.cons (.cst (.int 2)) .nil)))) (.cst (.int 0))) (.cons (.asg (.var 4) (.bin .mod false (.bin .mul false (.call true "_law_draw" (.cons (.var 0) (.cons (.bin .add false (.var 1) (.cst (.int 3))) (.cons (.cst (.int 2147483647)) .nil)))) (.cst (.int 64))) (.bin .pow false (.cst (.int 10)) (.cst (.int 9))))) .nil) .nil) (.cons (.ret (.tup (.cons (.idx (.lst false (.cons (.cst (.str [97, 116])) (.cons (.cst (.str [113, 117, 111, 116, 101])) .nil))) (.bin .sub false (.var 3) (.cst (.int 7)))) (.cons (.var 4) .nil)))) .nil))) .nil) [some (.lst (ns.map .int)), some (.int k), some (.lst (paired.map .str)), some (.int K), none] U = some (.rt (.tup [.str w, .int n]) U) := by
            rw [exec]
            simp only [evB, ev, List.getElem?_cons_zero, List.getElem?_cons_succ, bnd_ok, lt9, tru_bl, bndS_ok, if_true]
            rw [execs, tail, fn U, thn_nx]
            have el : D.lst [.str [97, 116], .str [113, 117, 111, 116, 101]] = .lst [.str tAt, .str tQuote] := rfl
            simp only [execs, exec, ev, evs, List.getElem?_cons_zero, List.getElem?_cons_succ, bnd_ok, ret_eq, mkL, Bool.false_eq_true, if_false, binop, el, ixw, bndS_ok, thn_rt]
          rw [inner, thn_rt, fin_rt]
        rw [e]
        exact frz_closed rfl
    · obtain ⟨xw, hxw, ixw⟩ := pickQ (xs := [.str tWho, .str tGround, .str tWhat, .str tStrike]) (i := K - 9) (by omega) (by simp; omega)
      obtain ⟨w, hw, rfl⟩ : ∃ w, w ∈ [tWho, tGround, tWhat, tStrike] ∧ xw = .str w := by
        simp only [List.mem_cons, List.not_mem_nil, or_false] at hxw
        rcases hxw with rfl | rfl | rfl | rfl
        · exact ⟨_, by simp, rfl⟩
        · exact ⟨_, by simp, rfl⟩
        · exact ⟨_, by simp, rfl⟩
        · exact ⟨_, by simp, rfl⟩
      obtain ⟨x, hx, fx⟩ := r_nameq d ns (k + 1) (by omega) (by omega)
      obtain ⟨f, hf, hfn⟩ := form_one w hw
      refine ⟨⟨w, [(f, x, .str x)]⟩, ⟨hf, by simp, fun p hp => ?_, heads_Wd w (List.mem_append_right _ (by
        simp only [List.mem_cons, List.not_mem_nil, or_false] at hw ⊢
        rcases hw with h | h | h | h
        · exact .inr (.inr (.inl h))
        · exact .inr (.inr (.inr (.inl h)))
        · exact .inr (.inr (.inr (.inr (.inl h))))
        · exact .inr (.inr (.inr (.inr (.inr h))))))⟩, fun U => ?_⟩
      · rw [List.mem_singleton.mp hp]
        exact .inr ⟨hfn, hx, rfl⟩
      · have lt9 : ∀ U, cmpop .lt U (.int K) (.int 9) = some false := fun U => by rw [cmp_lt_int, decide_eq_false k9]
        have el : D.lst [.str [119, 104, 111], .str [103, 114, 111, 117, 110, 100], .str [119, 104, 97, 116], .str [115, 116, 114, 105, 107, 101]] = .lst [.str tWho, .str tGround, .str tWhat, .str tStrike] := rfl
        have x4 : ∀ b, exec (run tab (d + 2)) (.ifS (.cmp .lt (.var 3) (.cst (.int 9))) b .nil) [some (.lst (ns.map .int)), some (.int k), some (.lst (paired.map .str)), some (.int K), none] U = some (.nx [some (.lst (ns.map .int)), some (.int k), some (.lst (paired.map .str)), some (.int K), none] U) := fun b => by
          simp only [exec, execs, evB, ev, List.getElem?_cons_zero, List.getElem?_cons_succ, bnd_ok, lt9, tru_bl, bndS_ok, Bool.false_eq_true, if_false]
        have e : run tab (d + 3) "_law_question" [.lst (ns.map .int), .int k] U = some (.ok (.tup [.str w, .str x]) U) := by
          rw [run_at tab__law_question rfl]
          simp only [fn__law_question, startR, List.map_cons, List.map_nil, List.replicate, List.cons_append, List.nil_append, Nat.reduceSub]
          rw [execs, x1, thn_nx, execs, x2, thn_nx, execs, x3, thn_nx, execs, x4, thn_nx]
          simp only [execs, exec, ev, evs, List.getElem?_cons_zero, List.getElem?_cons_succ, bnd_ok, ret_eq, mkL, Bool.false_eq_true, if_false, binop, el, ixw, ad, fx, bndS_ok, thn_rt, fin_rt]
        rw [e]
        exact frz_closed rfl
end VI

/-! K60p: rows of questions, their text, and the law. -/
namespace VI
theorem rep_signsQ (n : Nat) : (List.replicate n 32).all isSign = true := by
  rw [List.all_eq_true]
  intro c hc
  rw [List.eq_of_mem_replicate hc]
  decide
theorem split_joinQ : ∀ rows : List Tx, rows ≠ [] → (∀ r ∈ rows, 10 ∉ r) → splitC 10 (joinT [10] rows) = rows
  | [], h, _ => absurd rfl h
  | [x], _, h => by
    show splitC 10 x = [x]
    exact splitC_free (h x (by simp))
  | x :: y :: r, _, h => by
    have ih := split_joinQ (y :: r) (by simp) fun z hz => h z (by simp [List.mem_cons.mp hz])
    show splitC 10 (x ++ 10 :: joinT [10] (y :: r)) = _
    rw [splitC_mid, splitC_free (h x (by simp)), ih]
    rfl
theorem join_lenQ : ∀ rows : List Tx, (joinT [10] rows).length ≤ (rows.map (·.length)).sum + rows.length
  | [] => by simp [joinT]
  | [x] => by simp [joinT]
  | x :: y :: r => by
    have ih := join_lenQ (y :: r)
    show (x ++ 10 :: joinT [10] (y :: r)).length ≤ _
    simp only [List.length_append, List.length_cons, List.map_cons, List.sum_cons] at ih ⊢
    omega
theorem sum_leQ {B : Nat} : ∀ l : List Tx, (∀ x ∈ l, x.length ≤ B) → (l.map (·.length)).sum ≤ B * l.length
  | [], _ => by simp
  | x :: r, h => by
    have ih := sum_leQ r fun y hy => h y (by simp [hy])
    have := h x (by simp)
    simp only [List.map_cons, List.sum_cons, List.length_cons, Nat.mul_succ]
    omega
theorem texts_strsQ : ∀ ts : List Tx, texts (ts.map D.str) = some ts
  | [] => rfl
  | x :: r => by simp only [List.map_cons, texts, texts_strsQ r]
/-- a part of a row: the datum and its text -/
def PartQ (z : D × Tx) : Prop := Wd z.2 ∧ ∀ U, prim .str1 false [z.1] U = some (.ok (.str z.2) U)
theorem row_loopQ (d : Nat) (ns : List Int) (k : Int) (h0 : 0 ≤ k) (h1 : k ≤ 2500) (a2 : Option D) (U : Store) : ∀ (zs : List (D × Tx)) (j : Nat) (acc : Tx) (o4 o5 : Option D), (∀ z ∈ zs, PartQ z) → j + zs.length ≤ 3 → acc.length + 12 * zs.length ≤ 4000 →
    ∃ s o4' o5', wordsOf s = zs.map (·.2) ∧ s.length ≤ 12 * zs.length ∧ s.all isSign = true ∧ (zs ≠ [] → ∃ x, s = x ++ [32]) ∧
      forL (turnF (.tup [4, 5]) (execs (run tab (d + 1)) fn__law_row_1)) (enumD j (zs.map (·.1))) [some (.lst (ns.map .int)), some (.int k), a2, some (.str acc), o4, o5] U = some (.nx [some (.lst (ns.map .int)), some (.int k), a2, some (.str (acc ++ s)), o4', o5'] U)
  | [], j, acc, o4, o5, _, _, _ => ⟨[], o4, o5, rfl, by simp, rfl, fun h => absurd rfl h, by simp [enumD, forL]⟩
  | z :: r, j, acc, o4, o5, hz, hj, hl => by
    have z0 : (4000 : Nat) ≤ SZ := by decide
    obtain ⟨⟨w1, w2, w3, w4⟩, hs⟩ := hz z (by simp)
    simp only [List.length_cons] at hl hj
    have dr := drawQ_range ns (k + 1 + j) (m := 3) (by decide)
    have fd := r_drawq d ns (k + 1 + j) 3 U (by omega) (by omega) (by decide)
    generalize drawQ ns (k + 1 + j) 3 = N at dr fd
    have ad : ∀ (a b : Int), addOp false (.int a) (.int b) U = some (.ok (.int (a + b)) U) := fun a b => rfl
    obtain ⟨g, hg⟩ : ∃ g : Nat, (1 + N) = ((g + 1 : Nat) : Int) := ⟨N.toNat, by omega⟩
    have g3 : g + 1 ≤ 3 := by omega
    have ms : mulOp false (.str [32]) (.int (1 + N)) U = some (.ok (.str (List.replicate (g + 1) 32)) U) := by
      rw [hg]
      exact mul_sign 32 (by omega) (by omega) false U
    have a1 : addOp false (.str acc) (.str z.2) U = some (.ok (.str (acc ++ z.2)) U) := by
      simp only [addOp, show acc.length + z.2.length ≤ SZ by omega, if_true]
    have a2' : addOp false (.str (acc ++ z.2)) (.str (List.replicate (g + 1) 32)) U = some (.ok (.str (acc ++ z.2 ++ List.replicate (g + 1) 32)) U) := by
      simp only [addOp]
      rw [if_pos (by simp only [List.length_append, List.length_replicate]; omega)]
    have turn : turnF (.tup [4, 5]) (execs (run tab (d + 1)) fn__law_row_1) (.tup [.int j, z.1]) [some (.lst (ns.map .int)), some (.int k), a2, some (.str acc), o4, o5] U = some (.nx [some (.lst (ns.map .int)), some (.int k), a2, some (.str (acc ++ z.2 ++ List.replicate (g + 1) 32)), some (.int j), some z.1] U) := by
      simp only [turnF, asgT, asQ, setAll, List.set_cons_zero, List.set_cons_succ, fn__law_row_1, execs, exec, ev, evs, List.getElem?_cons_zero, List.getElem?_cons_succ, bnd_ok, recvOk, if_true, ret_eq, hs, binop, ad, a1, fd, ms, a2', bndS_ok, thn_nx]
    obtain ⟨s, o4', o5', ws', sl, sa, sx, e⟩ := row_loopQ d ns k h0 h1 a2 U r (j + 1) (acc ++ z.2 ++ List.replicate (g + 1) 32) (some (.int j)) (some z.1) (fun y hy => hz y (by simp [hy])) (by omega) (by simp only [List.length_append, List.length_replicate]; omega)
    refine ⟨z.2 ++ (List.replicate (g + 1) 32 ++ s), o4', o5', ?_, ?_, ?_, fun _ => ?_, ?_⟩
    · rw [wordsOf_word w1 w2, ws']
      rfl
    · simp only [List.length_append, List.length_replicate, List.length_cons]
      omega
    · simp only [List.all_append, w4, rep_signsQ, sa, Bool.and_self]
    · by_cases q : r = []
      · subst q
        have s0 : s = [] := by simpa using sl
        rw [s0]
        exact ⟨z.2 ++ List.replicate g 32, by rw [List.append_nil, List.replicate_succ', List.append_assoc]⟩
      · obtain ⟨x, hx⟩ := sx q
        exact ⟨z.2 ++ (List.replicate (g + 1) 32 ++ x), by rw [hx]; simp only [List.append_assoc]⟩
    · rw [List.map_cons, enumD, forL, turn, turnEnd_nx, e]
      simp only [List.append_assoc]
/-- the parts of a question's row -/
def Qn.zs (q : Qn) : List (D × Tx) := (.str q.w, q.w) :: q.ps.map fun p => (p.2.2, p.2.1)
theorem Qn.zs_d (q : Qn) : q.d = .tup (q.zs.map (·.1)) := by
  simp [Qn.d, Qn.zs, Function.comp_def]
theorem Qn.zs_w (q : Qn) : q.words = q.zs.map (·.2) := by
  simp [Qn.words, Qn.zs, Function.comp_def]
theorem Qn.zs_ok {q : Qn} (h : q.ok) : ∀ z ∈ q.zs, PartQ z := by
  intro z hz
  rcases List.mem_cons.mp hz with rfl | hz
  · exact ⟨h.head, fun U => rfl⟩
  · obtain ⟨p, hp, rfl⟩ := List.mem_map.mp hz
    refine ⟨qpart_Wd (h.parts p hp), fun U => ?_⟩
    rcases h.parts p hp with ⟨_, n, n0, n1, e1, e2⟩ | ⟨_, _, e2⟩
    · show prim .str1 false [p.2.2] U = some (.ok (.str p.2.1) U)
      rw [e1, e2]
      have b : bits n ≤ 64 := bits_lt n0 (by omega)
      exact if_pos (Nat.le_trans b (by decide))
    · show prim .str1 false [p.2.2] U = some (.ok (.str p.2.1) U)
      rw [e2]
      rfl
/-- a row of a text -/
def RowQ (l : Tx × Option Qn) : Prop := QLine l ∧ l.1.all isSign = true ∧ l.1.length ≤ 100
theorem r_rowq (d : Nat) (ns : List Int) (k : Int) (h0 : 0 ≤ k) (h1 : k ≤ 2500) (q : Qn) (hq : q.ok) (U : Store) : ∃ row : Tx, RowQ (row, some q) ∧ frz true U (run tab (d + 2) "_law_row" [.lst (ns.map .int), .int k, q.d] U) = some (.ok (.str row) U) := by
  have z0 : (4000 : Nat) ≤ SZ := by decide
  have dr := drawQ_range ns k (m := 3) (by decide)
  have fd := r_drawq d ns k 3 U (by omega) (by omega) (by decide)
  generalize drawQ ns k 3 = N at dr fd
  have dr2 := drawQ_range ns (k + 5) (m := 2) (by decide)
  have fd2 := r_drawq d ns (k + 5) 2 U (by omega) (by omega) (by decide)
  generalize drawQ ns (k + 5) 2 = B at dr2 fd2
  have zl : q.zs.length ≤ 3 := by
    have := hq.len
    simp only [Qn.zs, List.length_cons, List.length_map]
    omega
  have ms : mulOp false (.str [32]) (.int N) U = some (.ok (.str (List.replicate N.toNat 32)) U) := mul_sign 32 (by omega) (by omega) false U
  obtain ⟨s, o4, o5, sw, sl, sa, sx, e⟩ := row_loopQ d ns k h0 h1 (some q.d) U q.zs 0 (List.replicate N.toNat 32) none none (Qn.zs_ok hq) (by omega) (by rw [List.length_replicate]; omega)
  obtain ⟨x, rfl⟩ := sx (by simp [Qn.zs])
  have ad : ∀ (a b : Int), addOp false (.int a) (.int b) U = some (.ok (.int (a + b)) U) := fun a b => rfl
  obtain ⟨r, hr⟩ : ∃ r : Tx, r = List.replicate N.toNat 32 ++ (x ++ [32]) := ⟨_, rfl⟩
  rw [← hr] at e
  have rl : r.length ≤ 60 := by rw [hr, List.length_append, List.length_replicate]; omega
  have r1 : 1 ≤ r.length := by rw [hr]; simp only [List.length_append, List.length_singleton]; omega
  have ra : r.all isSign = true := by rw [hr, List.all_append, rep_signsQ, sa]; rfl
  have rw1 : wordsOf r = q.words := by rw [hr, wordsOf_ahead, sw, Qn.zs_w]
  have rx : ∃ y, r = y ++ [32] := ⟨List.replicate N.toNat 32 ++ x, by rw [hr, List.append_assoc]⟩
  have ct : wordsOf (r.take (r.length - B.toNat)) = wordsOf r := by
    obtain ⟨y, hy⟩ := rx
    by_cases b : B = 0
    · rw [b]
      simp
    · have b1 : B.toNat = 1 := by omega
      rw [b1, hy, List.length_append, List.length_singleton, Nat.add_sub_cancel, List.take_left]
      exact (wordsOf_behind y 1).symm
  have pl : prim .len false [.str r] U = some (.ok (.int r.length) U) := by
    simp only [prim, lenOf, show r.length ≤ SZ by omega, if_true, asQ]
  have b1 : bnd? .non = some none := rfl
  have b2 : ∀ i : Int, bnd? (.int i) = some (some i) := fun _ => rfl
  have sl1 : slice1 false (.str r) .non (.int ((r.length : Int) - B)) U = some (.ok (.str (r.take (r.length - B.toNat))) U) := by
    have e2 : (r.length : Int) - B = ((r.length - B.toNat : Nat) : Int) := by omega
    rw [e2]
    simp only [slice1, b1, b2, sliceB, show r.length ≤ SZ by omega, if_true, cut_take]
  have n1 : (bnd? .non).isSome = true := rfl
  refine ⟨r.take (r.length - B.toNat), ⟨⟨?_, ?_, hq⟩, ?_, ?_⟩, ?_⟩
  · show (r.take _).length + 2 ≤ SZ
    rw [List.length_take]
    omega
  · show wordsOf (r.take _) = _
    rw [ct, rw1]
  · rw [List.all_eq_true] at ra ⊢
    exact fun c hc => ra c (List.mem_of_mem_take hc)
  · show (r.take _).length ≤ _
    rw [List.length_take]
    omega
  · have x1 : exec (run tab (d + 1)) (.asg (.var 3) (.bin .mul false (.cst (.str [32])) (.call true "_law_draw" (.cons (.var 0) (.cons (.var 1) (.cons (.cst (.int 3)) .nil)))))) [some (.lst (ns.map .int)), some (.int k), some q.d, none, none, none] U = some (.nx [some (.lst (ns.map .int)), some (.int k), some q.d, some (.str (List.replicate N.toNat 32)), none, none] U) := by
      simp only [exec, ev, evs, List.getElem?_cons_zero, List.getElem?_cons_succ, bnd_ok, ret_eq, fd, binop, ms, bndS_ok, asgT, List.set_cons_zero, List.set_cons_succ]
    have sq : srcL U q.d = none := rfl
    have x2 : exec (run tab (d + 1)) (.forS (.tup [4, 5]) (.enum (.var 2) 0) fn__law_row_1) [some (.lst (ns.map .int)), some (.int k), some q.d, some (.str (List.replicate N.toNat 32)), none, none] U = some (.nx [some (.lst (ns.map .int)), some (.int k), some q.d, some (.str r), o4, o5] U) := by
      have qd := Qn.zs_d q
      simp only [exec, evIt, ev, List.getElem?_cons_zero, List.getElem?_cons_succ, bnd_ok, sq]
      rw [qd] at e ⊢
      simp only [if_true, bndS_ok, forGo_enum, e]
    have e : run tab (d + 2) "_law_row" [.lst (ns.map .int), .int k, q.d] U = some (.ok (.str (r.take (r.length - B.toNat))) U) := by
      rw [run_at tab__law_row rfl]
      simp only [fn__law_row, startR, List.map_cons, List.map_nil, List.replicate, List.cons_append, List.nil_append, Nat.reduceSub]
      rw [execs, x1, thn_nx, execs, x2, thn_nx]
      simp only [execs, exec, ev, evs, List.getElem?_cons_zero, List.getElem?_cons_succ, bnd_ok, n1, recvOk, if_true, ret_eq, pl, fd2, binop, ad, sl1, bndS_ok, thn_rt, fin_rt]
    rw [e, frz_str]
/-! ### the law -/
theorem pyeq_reflQ : ∀ d : D, ∀ n, plain d n = true → pyeq d d = true
  | .non, n, h => rfl
  | .bl b, n, h => by simp [pyeq]
  | .int i, n, h => by simp [pyeq]
  | .str x, n, h => by simp [pyeq]
  | .tup xs, n, h => by
    cases n with
    | zero => simp [plain] at h
    | succ n => simp only [plain] at h; simp only [pyeq]; exact pyeqL_reflQ xs n h
  | .lst xs, n, h => by
    cases n with
    | zero => simp [plain] at h
    | succ n => simp only [plain] at h; simp only [pyeq]; exact pyeqL_reflQ xs n h
  | .dct _ _, n, h => by simp [plain] at h
  | .ref _, n, h => by simp [plain] at h
  | .exn _ _, n, h => by simp [plain] at h
where pyeqL_reflQ : ∀ ds : List D, ∀ n, plainL ds n = true → pyeqL ds ds = true
  | [], n, h => rfl
  | x :: r, n, h => by
    simp only [plainL, Bool.and_eq_true] at h
    simp only [pyeqL, Bool.and_eq_true]
    exact ⟨pyeq_reflQ x n h.1, pyeqL_reflQ r n h.2⟩
theorem cmp_sameQ {U : Store} {a b t : D} (ha : snap U a = some t) (hb : snap U b = some t) (hp : plain t 40 = true) (hs : scalS a b = false) : cmpop .ne U a b = some false ∧ cmpop .eq U a b = some true := by
  have r := pyeq_reflQ t 40 hp
  have e : eqv U a b = some true := by
    unfold eqv
    rw [hs, if_neg (by decide), ha, hb]
    simp only [hp, Bool.and_self, if_true, r]
  constructor
  · show (eqv U a b).map (! ·) = _
    rw [e]
    rfl
  · exact e
theorem snap_refQ {U : Store} {r : Nat} {xs : List D} (h : U[r]? = some (.lst xs)) (hc : closedL xs = true) : snap U (.ref r) = some (.lst xs) := by
  have hn : ¬ r < 0 := by omega
  show rsv U 0 (subAt U 0 8) (.ref r) = _
  simp only [rsv, subAt, hn, if_false, h, rsvL_closed xs hc, Option.map_some]
theorem plainL_memQ {n : Nat} : ∀ l : List D, (∀ x ∈ l, plain x n = true) → plainL l n = true
  | [], _ => rfl
  | x :: r, h => by rw [plainL, h x (by simp), plainL_memQ r fun y hy => h y (by simp [hy])]; rfl
theorem plain_strQ {w : Tx} (h : Wd w) (n : Nat) : plain (.str w) n = true := by
  show (w.all fun c => decide (c < 1114112)) = true
  have := h.2.2.2
  rw [List.all_eq_true] at this ⊢
  intro c hc
  have := this c hc
  unfold isSign at this
  simp only [Bool.and_eq_true, decide_eq_true_eq] at this
  exact decide_eq_true (by omega)
theorem plain_qn {q : Qn} (h : q.ok) : plain q.d 39 = true := by
  show plainL (.str q.w :: q.ps.map (·.2.2)) 38 = true
  refine plainL_memQ _ fun x hx => ?_
  rcases List.mem_cons.mp hx with rfl | hx
  · exact plain_strQ h.head 38
  · obtain ⟨p, hp, rfl⟩ := List.mem_map.mp hx
    have wd := qpart_Wd (h.parts p hp)
    rcases h.parts p hp with ⟨_, n, n0, n1, e1, e2⟩ | ⟨_, _, e2⟩
    · rw [e2]; rfl
    · rw [e2]; exact plain_strQ wd 38
theorem repl_strQ (x : Tx) : ∀ n : Nat, (List.replicate n [D.str x]).flatten = (List.replicate n x).map .str := fun n => by
  induction n with
  | zero => rfl
  | succ n ih => rw [List.replicate_succ, List.flatten_cons, ih, List.replicate_succ]; rfl
theorem law_loopQ (d : Nat) (ns : List Int) : ∀ (m j : Nat) (qs : List Qn) (ls : List (Tx × Option Qn)) (V : Store) (r : Nat) (o4 : Option D), j + m ≤ 60 → r ≠ 0 → V[0]? = some (.lst (qs.map Qn.d)) → V[r]? = some (.lst ((ls.map (·.1)).map .str)) → qs.length ≤ j → ls.length ≤ 3 * j → (∀ q ∈ qs, q.ok) → (∀ l ∈ ls, RowQ l) → ls.filterMap (·.2) = qs →
    ∃ (qs' : List Qn) (ls' : List (Tx × Option Qn)) (V' : Store) (r' : Nat) (o3' o4' : Option D), r' ≠ 0 ∧ V'[0]? = some (.lst (qs'.map Qn.d)) ∧ V'[r']? = some (.lst ((ls'.map (·.1)).map .str)) ∧ qs'.length ≤ 60 ∧ ls'.length ≤ 180 ∧ (∀ q ∈ qs', q.ok) ∧ (∀ l ∈ ls', RowQ l) ∧ ls'.filterMap (·.2) = qs' ∧
      ∀ o3 o5 o6 o7, forL (turnF (.var 3) (execs (run tab (d + 3)) fn_law_1)) ((List.range' j m).map fun (i : Nat) => D.int i) [some (.lst (ns.map .int)), some (.ref 0), some (.ref r), o3, o4, o5, o6, o7] V = some (.nx [some (.lst (ns.map .int)), some (.ref 0), some (.ref r'), if m = 0 then o3 else o3', o4', o5, o6, o7] V')
  | 0, j, qs, ls, V, r, o4, hj, hr, v0, v1, q1, l1, qo, lo, fm => ⟨qs, ls, V, r, none, o4, hr, v0, v1, by omega, by omega, qo, lo, fm, fun o3 o5 o6 o7 => by simp [forL]⟩
  | m + 1, j, qs, ls, V, r, o4, hj, hr, v0, v1, q1, l1, qo, lo, fm => by
    have z0 : (4000 : Nat) ≤ SZ := by decide
    obtain ⟨q, hq, fq⟩ := r_questionq d ns (30 * j) (by omega) (by omega)
    have dr1 := drawQ_range ns (30 * j + 21) (m := 4) (by decide)
    have fd1 : ∀ U, frz true U (run tab (d + 3) "_law_draw" [.lst (ns.map .int), .int (30 * j + 21), .int 4] U) = _ := fun U => r_drawq (d + 2) ns (30 * j + 21) 4 U (by omega) (by omega) (by decide)
    generalize drawQ ns (30 * j + 21) 4 = A at dr1 fd1
    have dr2 := drawQ_range ns (30 * j + 22) (m := 3) (by decide)
    have fd2 : ∀ U, frz true U (run tab (d + 3) "_law_draw" [.lst (ns.map .int), .int (30 * j + 22), .int 3] U) = _ := fun U => r_drawq (d + 2) ns (30 * j + 22) 3 U (by omega) (by omega) (by decide)
    generalize drawQ ns (30 * j + 22) 3 = B at dr2 fd2
    have ad : ∀ (a b : Int) U, addOp false (.int a) (.int b) U = some (.ok (.int (a + b)) U) := fun a b U => rfl
    have mu : ∀ U, mulOp false (.int 30) (.int j) U = some (.ok (.int (30 * j)) U) := fun U => by
      simp only [mulOp, mulOk_small (a := 30) (b := (j : Int)) (by omega) (by omega), if_true]
    -- the question kept
    let V1 : Store := updS V 0 (.lst ((qs ++ [q]).map Qn.d))
    have vl : 0 < V.length := by
      rcases Nat.lt_or_ge 0 V.length with h | h
      · exact h
      · rw [List.getElem?_eq_none h] at v0; cases v0
    have ro0 : recvOk .append V (.ref 0) = true := by simp only [recvOk, asL, v0, Option.isSome_some]
    have pa0 : prim .append false [.ref 0, q.d] V = some (.ok .non V1) := by
      simp only [prim, v0, List.length_map, show qs.length < SZ by omega, if_true]
      show some (R.ok D.non (updS V 0 (.lst (qs.map Qn.d ++ [q.d])))) = _
      simp only [V1, List.map_append, List.map_cons, List.map_nil]
    have v10 : V1[0]? = some (.lst ((qs ++ [q]).map Qn.d)) := by simp only [V1, updS, List.getElem?_set_self vl]
    have v11 : V1[r]? = some (.lst ((ls.map (·.1)).map .str)) := by simp only [V1, updS]; rw [List.getElem?_set_ne (fun h => hr h.symm)]; exact v1
    -- rows of blanks
    let bl : List (Tx × Option Qn) := List.replicate B.toNat (List.replicate A.toNat 32, none)
    let V2 : Store := V1 ++ [.lst (((ls ++ bl).map (·.1)).map .str)]
    have blr : ∀ l ∈ bl, RowQ l := fun l hl => by
      rw [List.eq_of_mem_replicate hl]
      refine ⟨⟨by show (List.replicate A.toNat 32).length + 2 ≤ SZ; rw [List.length_replicate]; omega, ?_⟩, rep_signsQ _, by show (List.replicate A.toNat 32).length ≤ 100; rw [List.length_replicate]; omega⟩
      have := wordsOf_ahead A.toNat []
      rwa [List.append_nil] at this
    have bll : bl.length ≤ 2 := by simp only [bl, List.length_replicate]; omega
    have ms : ∀ U, mulOp false (.str [32]) (.int A) U = some (.ok (.str (List.replicate A.toNat 32)) U) := fun U => mul_sign 32 (by omega) (by omega) false U
    have rp : ∀ U, (if -1000000 ≤ B ∧ B ≤ 1000000 ∧ ([D.str (List.replicate A.toNat 32)] : List D).length * B.toNat ≤ SZ then mkL false (List.replicate B.toNat [D.str (List.replicate A.toNat 32)]).flatten U else none) = some (.ok (.lst ((bl.map (·.1)).map .str)) U) := fun U => by
      rw [if_pos ⟨by omega, by omega, by simp only [List.length_singleton]; omega⟩, repl_strQ, mkL]
      simp only [Bool.false_eq_true, if_false, bl, List.map_replicate]
    have v20 : V2[0]? = some (.lst ((qs ++ [q]).map Qn.d)) := by
      have : 0 < V1.length := by simp only [V1, updS, List.length_set]; exact vl
      simp only [V2]; rw [List.getElem?_append_left this]; exact v10
    have v22 : V2[V1.length]? = some (.lst (((ls ++ bl).map (·.1)).map .str)) := by simp [V2]
    have ad2 : addOp true (.ref r) (.lst ((bl.map (·.1)).map .str)) V1 = some (.ok (.ref V1.length) V2) := by
      have hX : asL V1 (.ref r) = some ((ls.map (·.1)).map .str) := by simp only [asL, v11]
      have hY : asL V1 (.lst ((bl.map (·.1)).map .str)) = some ((bl.map (·.1)).map .str) := rfl
      have lz : ((ls.map (·.1)).map D.str).length + ((bl.map (·.1)).map D.str).length ≤ SZ := by simp only [List.length_map]; omega
      simp only [addOp, hX, hY, lz, if_true, mkL, V2, List.map_append]
    obtain ⟨row, hrow, frow⟩ := r_rowq (d + 1) ns (30 * j + 23) (by omega) (by omega) q hq V2
    let V3 : Store := updS V2 V1.length (.lst (((ls ++ bl ++ [(row, some q)]).map (·.1)).map .str))
    have ro2 : recvOk .append V2 (.ref V1.length) = true := by simp only [recvOk, asL, v22, Option.isSome_some]
    have pa2 : prim .append false [.ref V1.length, .str row] V2 = some (.ok .non V3) := by
      have lz : (((ls ++ bl).map (·.1)).map D.str).length < SZ := by simp only [List.length_map, List.length_append]; omega
      simp only [prim, v22, lz, if_true]
      simp only [V3, List.map_append, List.map_cons, List.map_nil]
    have n0 : V1.length ≠ 0 := by simp only [V1, updS, List.length_set]; omega
    have v30 : V3[0]? = some (.lst ((qs ++ [q]).map Qn.d)) := by
      simp only [V3, updS]; rw [List.getElem?_set_ne n0]; exact v20
    have v31 : V3[V1.length]? = some (.lst (((ls ++ bl ++ [(row, some q)]).map (·.1)).map .str)) := by
      have : V1.length < V2.length := by simp only [V2, List.length_append, List.length_singleton]; omega
      simp only [V3, updS, List.getElem?_set_self this]
    obtain ⟨qs', ls', V', r', o3', o4', h1, h2, h3, h4, h5, h6, h7, h8, g⟩ := law_loopQ d ns m (j + 1) (qs ++ [q]) (ls ++ bl ++ [(row, some q)]) V3 V1.length (some q.d) (by omega) n0 v30 v31 (by simp only [List.length_append, List.length_singleton]; omega) (by simp only [List.length_append, List.length_singleton]; omega) (fun x hx => by
      rcases List.mem_append.mp hx with hx | hx
      · exact qo x hx
      · rw [List.mem_singleton.mp hx]; exact hq) (fun l hl => by
      rcases List.mem_append.mp hl with hl | hl
      · rcases List.mem_append.mp hl with hl | hl
        · exact lo l hl
        · exact blr l hl
      · rw [List.mem_singleton.mp hl]; exact hrow) (by
      rw [List.filterMap_append, List.filterMap_append, fm]
      have : bl.filterMap (·.2) = [] := by
        rw [List.filterMap_eq_nil_iff]
        intro l hl
        rw [List.eq_of_mem_replicate hl]
      rw [this, List.append_nil]
      rfl)
    refine ⟨qs', ls', V', r', if m = 0 then some (.int j) else o3', o4', h1, h2, h3, h4, h5, h6, h7, h8, fun o3 o5 o6 o7 => ?_⟩
    have t : turnF (.var 3) (execs (run tab (d + 3)) fn_law_1) (.int j) [some (.lst (ns.map .int)), some (.ref 0), some (.ref r), o3, o4, o5, o6, o7] V = some (.nx [some (.lst (ns.map .int)), some (.ref 0), some (.ref V1.length), some (.int j), some q.d, o5, o6, o7] V3) := by
      have f1 := fq V
      simp only [turnF, asgT, List.set_cons_zero, List.set_cons_succ, fn_law_1, execs, exec, ev, evs, List.getElem?_cons_zero, List.getElem?_cons_succ, bnd_ok, ret_eq, binop, mu, f1, bndS_ok, thn_nx, ro0, if_true, pa0]
      simp only [mu, ad, fd1, fd2, bnd_ok, ms, rp, ad2, bndS_ok, asgT, List.set_cons_zero, List.set_cons_succ, thn_nx, List.getElem?_cons_zero, List.getElem?_cons_succ, ro2, if_true, frow, ret_eq, pa2]
    rw [List.range'_succ, List.map_cons, forL, t, turnEnd_nx, g]
    simp
theorem lcGo_liveQ {turn : D → M (Option D)} {U : Store} {n : Nat} {ys : List D} (hn : U[n]? = some (.lst ys)) (h : ∀ x ∈ ys, ∃ o, turn x U = some (.ok o U)) : ∀ (r dn : List D), ys = dn ++ r → lcGo turn ((List.range' dn.length r.length).map fun i U => (match U[n]? with
    | some (.lst zs) => if zs.length = ys.length then zs[i]? else none
    | _ => none)) U = lcL turn r U
  | [], dn, e => rfl
  | x :: r, dn, e => by
    have ih := lcGo_liveQ hn h r (dn ++ [x]) (by rw [e]; simp)
    rw [List.length_append, List.length_singleton] at ih
    obtain ⟨o, eo⟩ := h x (by rw [e]; simp)
    have gx : ys[dn.length]? = some x := by
      rw [e, List.getElem?_append_right (Nat.le_refl _)]
      simp
    simp only [List.length_cons, List.range'_succ, List.map_cons]
    show (match (match U[n]? with
      | some (.lst zs) => if zs.length = ys.length then zs[dn.length]? else none
      | _ => none) with
      | some x => bnd (turn x U) fun o U1 => bnd (lcGo turn _ U1) fun ds U2 => ret (match o with | some d => d :: ds | none => ds) U2
      | none => none) = bnd (turn x U) fun o U1 => bnd (lcL turn r U1) fun ds U2 => ret (match o with | some d => d :: ds | none => ds) U2
    simp only [hn, if_true, gx, eo, bnd_ok]
    rw [ih]
theorem lcSeqQ {turn : D → M (Option D)} {U : Store} {d : D} {xs : List D} (h : asL U d = some xs) (ht : ∀ x ∈ xs, ∃ o, turn x U = some (.ok o U)) : ∃ src, srcOf U d = some src ∧ src.get.length = xs.length ∧ src.fin U = true ∧ lcGo turn src.get U = lcL turn xs U := by
  cases d with
  | lst ys =>
    cases h
    exact ⟨_, rfl, fixS_len _, rfl, lcGo_fix _ _ _⟩
  | ref n =>
    have hn : U[n]? = some (.lst xs) := by
      simp only [asL] at h
      split at h
      · rename_i ys hn
        cases h
        exact hn
      · cases h
    refine ⟨liveS n xs.length, by simp only [srcOf, hn], by simp [liveS], by simp [liveS, hn], ?_⟩
    have := lcGo_liveQ hn ht xs [] rfl
    rw [List.length_nil, ← List.range_eq_range'] at this
    exact this
  | _ => simp [asL] at h
theorem bools_allQ : ∀ n : Nat, bools (List.replicate n (D.bl true)) = some (List.replicate n true)
  | 0 => rfl
  | n + 1 => by rw [List.replicate_succ, List.replicate_succ, bools, bools_allQ n]
theorem plain_k60 (ns : List Int) (hl : ns.length ≤ 63) (hb : ∀ z ∈ ns, bits z ≤ 1048576) : ∃ U', run tab 12 "law" [.lst (ns.map .int)] [] = some (.ok (.bl true) U') := by
  have z0 : (1000000 : Nat) ≤ SZ := by decide
  let V0 : Store := [.lst [], .lst []]
  obtain ⟨qs, ls, V, r, o3, o4, h1, h2, h3, h4, h5, h6, h7, h8, g⟩ := law_loopQ 8 ns (min ns.length 60) 0 [] [] V0 1 none (by omega) (by decide) rfl rfl (by simp) (by simp) (fun q hq => by cases hq) (fun l hl => by cases hl) rfl
  have pl : prim .len false [.lst (ns.map .int)] [.lst [], .lst []] = some (.ok (.int ns.length) [.lst [], .lst []]) := by simp [prim, lenOf, asQ, asL]
  have mn : prim .min2 false [.int ns.length, .int 60] [.lst [], .lst []] = some (.ok (.int (min ns.length 60 : Nat)) [.lst [], .lst []]) := by
    simp only [prim]
    by_cases q : (60 : Int) < (ns.length : Int)
    · have : min ns.length 60 = 60 := by omega
      rw [this]
      simp [q]
    · have : min ns.length 60 = ns.length := by omega
      rw [this]
      simp [q]
  have sm : small ((min ns.length 60 : Nat) : Int) = true := by
    unfold small
    simp only [Bool.and_eq_true, decide_eq_true_eq]
    omega
  have rg : rangeL 0 ((min ns.length 60 : Nat) : Int) = (List.range' 0 (min ns.length 60)).map fun (i : Nat) => D.int i := by
    unfold rangeL
    rw [List.range_eq_range']
    simp
  obtain ⟨p3, hp3⟩ : ∃ p3 : Option D, (if min ns.length 60 = 0 then none else o3) = p3 := ⟨_, rfl⟩
  have x12 : ∀ t, execs (run tab 11) (.cons (.asg (.var 1) (.lst true .nil)) (.cons (.asg (.var 2) (.lst true .nil)) t)) [some (.lst (ns.map .int)), none, none, none, none, none, none, none] [] = execs (run tab 11) t [some (.lst (ns.map .int)), some (.ref 0), some (.ref 1), none, none, none, none, none] [.lst [], .lst []] := fun t => by
    simp only [execs, exec, ev, evs, ret_eq, bnd_ok, mkL, if_true, bndS_ok, asgT, List.set_cons_zero, List.set_cons_succ, thn_nx, List.length_nil, List.nil_append, List.length_singleton, List.singleton_append]
  have x3 : exec (run tab 11) (.forS (.var 3) (.range1 (.prim .min2 false (.cons (.prim .len false (.cons (.var 0) .nil)) (.cons (.cst (.int 60)) .nil)))) fn_law_1) [some (.lst (ns.map .int)), some (.ref 0), some (.ref 1), none, none, none, none, none] [.lst [], .lst []] = some (.nx [some (.lst (ns.map .int)), some (.ref 0), some (.ref r), p3, o4, none, none, none] V) := by
    have g0 := g none none none none
    rw [hp3] at g0
    simp only [exec, ev, evs, evIt, List.getElem?_cons_zero, bnd_ok, recvOk, if_true, ret_eq, pl, mn, sm, rg, bndS_ok, forGo_fix]
    exact g0
  -- the end of the text
  have dr := drawQ_range ns 2000 (m := 3) (by decide)
  have fd : ∀ U, frz true U (run tab 11 "_law_draw" [.lst (ns.map .int), .int 2000, .int 3] U) = _ := fun U => r_drawq 10 ns 2000 3 U (by decide) (by decide) (by decide)
  generalize drawQ ns 2000 3 = B at dr fd
  let ls2 : List (Tx × Option Qn) := ls ++ List.replicate B.toNat ([], none)
  have m2 : ∀ l ∈ ls2, RowQ l := fun l hl => by
    rcases List.mem_append.mp hl with hl | hl
    · exact h7 l hl
    · rw [List.eq_of_mem_replicate hl]
      exact ⟨⟨by show 0 + 2 ≤ SZ; omega, rfl⟩, rfl, by simp⟩
  have l2 : ls2.length ≤ 182 := by
    simp only [ls2, List.length_append, List.length_replicate]
    omega
  have fm2 : ls2.filterMap (·.2) = qs := by
    show (ls ++ List.replicate B.toNat ([], none)).filterMap (fun l : Tx × Option Qn => l.2) = qs
    rw [List.filterMap_append, h8]
    have : (List.replicate B.toNat (([], none) : Tx × Option Qn)).filterMap (·.2) = [] := by
      rw [List.filterMap_eq_nil_iff]
      intro l hl
      rw [List.eq_of_mem_replicate hl]
    rw [this, List.append_nil]
  have s1 : ((ls2.map (·.1)).map (·.length)).sum ≤ 100 * ls2.length := by
    have := sum_leQ (B := 100) (ls2.map (·.1)) fun x hx => by
      obtain ⟨l, hl, rfl⟩ := List.mem_map.mp hx
      exact (m2 l hl).2.2
    rwa [List.length_map] at this
  have jl := join_lenQ (ls2.map (·.1))
  rw [List.length_map] at jl
  obtain ⟨text, htext⟩ : ∃ text : Tx, text = joinT [10] (ls2.map (·.1)) := ⟨_, rfl⟩
  have tz : text.length + 2 ≤ SZ := by rw [htext]; omega
  obtain ⟨lsT, hs, hq, hn, hf⟩ : ∃ lsT : List (Tx × Option Qn), splitC 10 text = lsT.map (·.1) ∧ (∀ l ∈ lsT, QLine l) ∧ lsT.length < 10000 ∧ lsT.filterMap (·.2) = qs := by
    by_cases q : ls2 = []
    · refine ⟨[([], none)], ?_, fun l hl => ?_, by simp, ?_⟩
      · rw [htext, q]; rfl
      · rw [List.mem_singleton.mp hl]; exact ⟨by show 0 + 2 ≤ SZ; omega, rfl⟩
      · rw [← fm2, q]; rfl
    · refine ⟨ls2, ?_, fun l hl => (m2 l hl).1, by omega, fm2⟩
      rw [htext]
      refine split_joinQ _ (fun h => q (List.map_eq_nil_iff.mp h)) fun x hx => ?_
      obtain ⟨l, hl, rfl⟩ := List.mem_map.mp hx
      intro h10
      exact absurd (List.all_eq_true.mp (m2 l hl).2.1 10 h10) (by decide)
  have fr := fun U => r_readq hasAsk 5 text lsT hs tz hq hn U
  rw [hf] at fr
  -- the store
  let V1 : Store := V ++ [.lst ((ls2.map (·.1)).map .str)]
  have rp : ∀ U, (if -1000000 ≤ B ∧ B ≤ 1000000 ∧ ([D.str []] : List D).length * B.toNat ≤ SZ then mkL false (List.replicate B.toNat [D.str []]).flatten U else none) = some (.ok (.lst ((List.replicate B.toNat ([] : Tx)).map .str)) U) := fun U => by
    rw [if_pos ⟨by omega, by omega, by simp only [List.length_singleton]; omega⟩, repl_strQ, mkL]
    rfl
  have ad2 : addOp true (.ref r) (.lst ((List.replicate B.toNat ([] : Tx)).map .str)) V = some (.ok (.ref V.length) V1) := by
    have hX : asL V (.ref r) = some ((ls.map (·.1)).map .str) := by simp only [asL, h3]
    have hY : asL V (.lst ((List.replicate B.toNat ([] : Tx)).map .str)) = some ((List.replicate B.toNat ([] : Tx)).map .str) := rfl
    have lz : ((ls.map (·.1)).map D.str).length + ((List.replicate B.toNat ([] : Tx)).map D.str).length ≤ SZ := by simp only [List.length_map, List.length_replicate]; omega
    simp only [addOp, hX, hY, lz, if_true, mkL]
    simp only [V1, ls2, List.map_append, List.map_replicate]
  have vl : 0 < V.length := by
    rcases Nat.lt_or_ge 0 V.length with h | h
    · exact h
    · rw [List.getElem?_eq_none h] at h2; cases h2
  have v10 : V1[0]? = some (.lst (qs.map Qn.d)) := by
    simp only [V1]; rw [List.getElem?_append_left vl]; exact h2
  have v11 : V1[V.length]? = some (.lst ((ls2.map (·.1)).map .str)) := by simp [V1]
  have jo : prim .join false [.str [10], .ref V.length] V1 = some (.ok (.str text) V1) := by
    have aq : asQ V1 (.ref V.length) = some ((ls2.map (·.1)).map .str) := by simp only [asQ, asL, v11]
    simp only [prim, aq, texts_strsQ]
    rw [if_pos (by simp only [List.length_map, List.length_singleton] at s1 ⊢; omega), ← htext]
  have x4 : ∀ t, execs (run tab 11) (.cons (.asg (.var 2) (.bin .add true (.var 2) (.repL false (.cons (.cst (.str [])) .nil) (.call true "_law_draw" (.cons (.var 0) (.cons (.cst (.int 2000)) (.cons (.cst (.int 3)) .nil))))))) (.cons (.asg (.var 5) (.prim .join false (.cons (.cst (.str [10])) (.cons (.var 2) .nil)))) t)) [some (.lst (ns.map .int)), some (.ref 0), some (.ref r), p3, o4, none, none, none] V = execs (run tab 11) t [some (.lst (ns.map .int)), some (.ref 0), some (.ref V.length), p3, o4, some (.str text), none, none] V1 := fun t => by
    simp only [execs, exec, ev, evs, List.getElem?_cons_zero, List.getElem?_cons_succ, bnd_ok, ret_eq, fd, binop, rp, ad2, bndS_ok, asgT, List.set_cons_zero, List.set_cons_succ, thn_nx, recvOk, if_true, jo]
  let V2 : Store := lsS V1 (qs.map Qn.d)
  have cl : closedL (qs.map Qn.d) = true := closedL_of fun x hx => by
    obtain ⟨q, hq, rfl⟩ := List.mem_map.mp hx
    exact (h6 q hq).closed
  have v20 : V2[0]? = some (.lst (qs.map Qn.d)) := by
    have : 0 < V1.length := by simp only [V1, List.length_append]; omega
    simp only [V2, lsS]; rw [List.getElem?_append_left this]; exact v10
  have v21 : V2[V1.length]? = some (.lst (qs.map Qn.d)) := ls_at
  have ppl : plain (.lst (qs.map Qn.d)) 40 = true := plainL_memQ _ fun x hx => by
    obtain ⟨q, hq, rfl⟩ := List.mem_map.mp hx
    exact plain_qn (h6 q hq)
  have c1 := (cmp_sameQ (snap_refQ v21 cl) (snap_refQ v20 cl) ppl rfl).1
  have x5 : ∀ t, execs (run tab 11) (.cons (.asg (.var 6) (.call false "read_questions" (.cons (.var 5) .nil))) t) [some (.lst (ns.map .int)), some (.ref 0), some (.ref V.length), p3, o4, some (.str text), none, none] V1 = execs (run tab 11) t [some (.lst (ns.map .int)), some (.ref 0), some (.ref V.length), p3, o4, some (.str text), some (.ref V1.length), none] V2 := fun t => by
    have f := fr V1
    simp only [execs, exec, ev, evs, List.getElem?_cons_zero, List.getElem?_cons_succ, bnd_ok, ret_eq, frz_false, f, bndS_ok, asgT, List.set_cons_zero, List.set_cons_succ, thn_nx]
    rfl
  have il : isInst V2 (.ref V1.length) ["list"] = some true := by
    have : tyN V2 (.ref V1.length) = some "list" := by simp only [tyN, v21]
    simp only [isInst, isInst1, this]
    rfl
  have all : ev (run tab 11) (.lc false [7] (.var 7) (.seq (.var 6)) yes fn_law_2) [some (.lst (ns.map .int)), some (.ref 0), some (.ref V.length), p3, o4, some (.str text), some (.ref V1.length), none] V2 = some (.ok (.lst (List.replicate qs.length (.bl true))) V2) := by
    have w0 : wipe [some (.lst (ns.map .int)), some (.ref 0), some (.ref V.length), p3, o4, some (.str text), some (.ref V1.length), none] [7] = [some (.lst (ns.map .int)), some (.ref 0), some (.ref V.length), p3, o4, some (.str text), some (.ref V1.length), none] := rfl
    have turn : ∀ x ∈ qs.map Qn.d, turnL (.var 7) (evB (run tab 11) yes) (ev (run tab 11) fn_law_2) [some (.lst (ns.map .int)), some (.ref 0), some (.ref V.length), p3, o4, some (.str text), some (.ref V1.length), none] x V2 = some (.ok (some (.bl true)) V2) := fun x hx => by
      obtain ⟨q, hq, rfl⟩ := List.mem_map.mp hx
      have it : isInst V2 q.d ["tuple"] = some true := rfl
      simp only [turnL, asgT, List.set_cons_zero, List.set_cons_succ, evB_yes, bnd_ok, if_true, fn_law_2, ev, List.getElem?_cons_zero, List.getElem?_cons_succ, ret_eq, it, noEx_ok]
    have aV : asL V2 (.ref V1.length) = some (qs.map Qn.d) := by simp only [asL, v21]
    obtain ⟨src, so, sl, sf, go⟩ := lcSeqQ (turn := turnL (.var 7) (evB (run tab 11) yes) (ev (run tab 11) fn_law_2) [some (.lst (ns.map .int)), some (.ref 0), some (.ref V.length), p3, o4, some (.str text), some (.ref V1.length), none]) aV fun x hx => ⟨_, turn x hx⟩
    have e := lcL_maps (turn := turnL (.var 7) (evB (run tab 11) yes) (ev (run tab 11) fn_law_2) [some (.lst (ns.map .int)), some (.ref 0), some (.ref V.length), p3, o4, some (.str text), some (.ref V1.length), none]) (U := V2) (fun x : D => x) (fun _ => D.bl true) (qs.map Qn.d) turn
    rw [List.map_id'] at e
    rw [e, List.map_map] at go
    have nz : ¬ SZ < src.get.length := by
      rw [sl, List.length_map]
      omega
    simp only [ev, evIt, List.getElem?_cons_zero, List.getElem?_cons_succ, bnd_ok, ret_eq, so, w0, if_neg nz, go, sf, if_true, mkL, Bool.false_eq_true, if_false]
    rw [show qs.map ((fun _ => D.bl true) ∘ Qn.d) = List.replicate qs.length (.bl true) from List.map_const' ..]
  have a1 : prim .all1 false [.lst (List.replicate qs.length (.bl true))] V2 = some (.ok (.bl true) V2) := by
    have : (List.replicate qs.length true).all id = true := by
      rw [List.all_eq_true]
      intro x hx
      rw [List.eq_of_mem_replicate hx]
      rfl
    simp only [prim, asL, bools_allQ, this]
  have x6 : exec (run tab 11) (.ifS (.orE (.notE (.isin (.var 6) ["list"])) (.orE (.notE (.prim .all1 false (.cons (.lc false [7] (.var 7) (.seq (.var 6)) yes fn_law_2) .nil))) (.cmp .ne (.var 6) (.var 1)))) (.cons (.ret (.cst (.bl false))) .nil) .nil) [some (.lst (ns.map .int)), some (.ref 0), some (.ref V.length), p3, o4, some (.str text), some (.ref V1.length), none] V2 = some (.nx [some (.lst (ns.map .int)), some (.ref 0), some (.ref V.length), p3, o4, some (.str text), some (.ref V1.length), none] V2) := by
    have i1 : ev (run tab 11) (.isin (.var 6) ["list"]) [some (.lst (ns.map .int)), some (.ref 0), some (.ref V.length), p3, o4, some (.str text), some (.ref V1.length), none] V2 = some (.ok (.bl true) V2) := by
      simp only [ev, List.getElem?_cons_zero, List.getElem?_cons_succ, bnd_ok, ret_eq, il]
    have i2 : ev (run tab 11) (.prim .all1 false (.cons (.lc false [7] (.var 7) (.seq (.var 6)) yes fn_law_2) .nil)) [some (.lst (ns.map .int)), some (.ref 0), some (.ref V.length), p3, o4, some (.str text), some (.ref V1.length), none] V2 = some (.ok (.bl true) V2) := by
      rw [ev, all]
      simp only [bnd_ok, recvOk, if_true, evs, ret_eq, a1]
    have i3 : ev (run tab 11) (.cmp .ne (.var 6) (.var 1)) [some (.lst (ns.map .int)), some (.ref 0), some (.ref V.length), p3, o4, some (.str text), some (.ref V1.length), none] V2 = some (.ok (.bl false) V2) := by
      simp only [ev, List.getElem?_cons_zero, List.getElem?_cons_succ, bnd_ok, c1]
    simp only [exec, execs, evB, i1, i2, i3, bnd_ok, tru_bl, Bool.not_true, bndS_ok, Bool.false_eq_true, if_false]
  -- changed
  let V3 : Store := updS V2 V1.length (.lst (qs.map Qn.d ++ [.tup [.str [119, 104, 111], .str [120]]]))
  have ro : recvOk .append V2 (.ref V1.length) = true := by simp only [recvOk, asL, v21, Option.isSome_some]
  have pa : prim .append false [.ref V1.length, .tup [.str [119, 104, 111], .str [120]]] V2 = some (.ok .non V3) := by
    simp only [prim, v21, List.length_map, show qs.length < SZ by omega, if_true]
    rfl
  have v30 : V3[0]? = some (.lst (qs.map Qn.d)) := by
    have : V1.length ≠ 0 := by simp only [V1, List.length_append, List.length_singleton]; omega
    simp only [V3, updS]; rw [List.getElem?_set_ne this]; exact v20
  have f3 : frz true V3 (run tab 11 "read_questions" [.str text] V3) = some (.ok (.lst (qs.map Qn.d)) V3) := by
    rw [fr V3]
    exact frz_new cl
  have c2 : cmpop .eq V3 (.lst (qs.map Qn.d)) (.ref 0) = some true := (cmp_sameQ (snap_closed (show closed (.lst (qs.map Qn.d)) = true from cl)) (snap_refQ v30 cl) ppl rfl).2
  refine ⟨V3, ?_⟩
  rw [show (12 : Nat) = 11 + 1 from rfl, run_at tab_law rfl]
  simp only [fn_law, startR, List.map_cons, List.map_nil, List.replicate, List.cons_append, List.nil_append, Nat.reduceSub]
  rw [x12, execs, x3, thn_nx, x4, x5, execs, x6, thn_nx]
  simp only [execs, exec, ev, evs, List.getElem?_cons_zero, List.getElem?_cons_succ, bnd_ok, ro, if_true, ret_eq, pa, bndS_ok, thn_nx, f3, c2, thn_rt, fin_rt]
end VI

/-! VIb1: data of VIa and the hand layer's values: RepV (a datum behind a value, over the frozen part Z of the heap and the places β of the store), Rel (the store), how they grow. -/
namespace VI
open PySem PySem.Spec PyProof.Rows L2

theorem SZ_eq : SZ = sizeLine := by rw [sizeLine_eq]; rfl

/-! ### keys -/
def keyD : D → Option Key
  | .int i => some (.inl i)
  | .str x => some (.inr ⟨x.toArray⟩)
  | _ => none
def keysD : List D → Option (List Key)
  | [] => some []
  | x :: r => (match keyD x, keysD r with | some k, some s => some (k :: s) | _, _ => none)
theorem keyD_inj {a b : D} {k : Key} (h : keyD a = some k) (h' : keyD b = some k) : a = b := by
  cases a <;> cases b <;> simp_all [keyD]
  · subst h; simpa using h'.symm
  · subst h; simp at h'
  · subst h; simp at h'
  · subst h; simpa using h'.symm
theorem keysD_inj : ∀ {a b : List D} {k : List Key}, keysD a = some k → keysD b = some k → a = b
  | [], [], _, _, _ => rfl
  | [], y :: s, k, h, h' => by
    simp only [keysD, Option.some.injEq] at h
    subst h
    simp only [keysD] at h'
    split at h' <;> simp at h'
  | x :: r, [], k, h, h' => by
    simp only [keysD, Option.some.injEq] at h'
    subst h'
    simp only [keysD] at h
    split at h <;> simp at h
  | x :: r, y :: s, k, h, h' => by
    simp only [keysD] at h h'
    split at h <;> simp only [Option.some.injEq, reduceCtorEq] at h
    rename_i k1 s1 e1 e2
    subst h
    split at h' <;> simp only [Option.some.injEq, reduceCtorEq] at h'
    rename_i k2 s2 e3 e4
    injection h' with h1 h2
    subst h1 h2
    rw [keyD_inj e1 e3, keysD_inj e2 e4]
theorem keyD_of_flat {d : D} (h : flatK d = true) : ∃ k, keyD d = some k := by
  cases d <;> simp [flatK] at h
  · exact ⟨_, rfl⟩
  · exact ⟨_, rfl⟩
theorem flat_of_keyD {d : D} {k : Key} (h : keyD d = some k) : flatK d = true := by
  cases d <;> simp [keyD] at h <;> rfl
theorem keysD_of_flat : ∀ {ds : List D}, ds.all flatK = true → ∃ ks, keysD ds = some ks
  | [], _ => ⟨[], rfl⟩
  | x :: r, h => by
    simp only [List.all_cons, Bool.and_eq_true] at h
    obtain ⟨k, e⟩ := keyD_of_flat h.1
    obtain ⟨ks, e'⟩ := keysD_of_flat h.2
    exact ⟨k :: ks, by simp [keysD, e, e']⟩
theorem flat_of_keysD : ∀ {ds : List D} {ks : List Key}, keysD ds = some ks → ds.all flatK = true
  | [], _, _ => rfl
  | x :: r, ks, h => by
    simp only [keysD] at h
    split at h <;> simp only [Option.some.injEq, reduceCtorEq] at h
    rename_i k s e1 e2
    simp [flat_of_keyD e1, flat_of_keysD e2]

/-! ### keys that are tuples -/
mutual
def nk : D → NestedKey
  | .int i => .num i
  | .str x => .text ⟨x.toArray⟩
  | .tup xs => .tup (nkL xs)
  | _ => .none
def nkL : List D → List NestedKey
  | [] => []
  | x :: r => nk x :: nkL r
end
theorem nk_flat_inj {a b : D} (h : flatK a = true) (h' : flatK b = true) (e : nk a = nk b) : a = b := by
  cases a <;> simp [flatK] at h <;> cases b <;> simp [flatK] at h' <;> simp_all [nk]
theorem nkL_flat_inj : ∀ {a b : List D}, a.all flatK = true → b.all flatK = true → nkL a = nkL b → a = b
  | [], [], _, _, _ => rfl
  | [], _ :: _, _, _, e => by simp [nkL] at e
  | _ :: _, [], _, _, e => by simp [nkL] at e
  | x :: r, y :: s, h, h', e => by
    simp only [List.all_cons, Bool.and_eq_true] at h h'
    simp only [nkL, List.cons.injEq] at e
    rw [nk_flat_inj h.1 h'.1 e.1, nkL_flat_inj h.2 h'.2 e.2]
theorem nk_tup_inj {a b : D} (h : tupK a = true) (h' : tupK b = true) (e : nk a = nk b) : a = b := by
  cases a <;> simp only [tupK, Bool.false_eq_true] at h
  cases b <;> simp only [tupK, Bool.false_eq_true] at h'
  simp only [nk, NestedKey.tup.injEq] at e
  rw [nkL_flat_inj h h' e]
theorem pairK_shape {a : D} (h : pairK a = true) : ∃ x y, a = .tup [x, y] ∧ tupK x = true ∧ tupK y = true := by
  unfold pairK at h
  split at h
  · simp only [Bool.and_eq_true] at h
    exact ⟨_, _, rfl, h.1, h.2⟩
  · cases h
theorem tupK_shape {a : D} (h : tupK a = true) : ∃ xs, a = .tup xs ∧ xs.all flatK = true := by
  cases a <;> simp only [tupK, Bool.false_eq_true] at h
  exact ⟨_, rfl, h⟩
theorem nk_inj {a b : D} (h : keyFor 1 a = true) (h' : keyFor 1 b = true) (e : nk a = nk b) : a = b := by
  simp only [keyFor, Bool.or_eq_true] at h h'
  rcases h with h | h <;> rcases h' with h' | h'
  · exact nk_tup_inj h h' e
  · exfalso
    obtain ⟨xs, rfl, hf⟩ := tupK_shape h
    obtain ⟨y1, y2, rfl, h1, h2⟩ := pairK_shape h'
    obtain ⟨zs, rfl, h1⟩ := tupK_shape h1
    simp only [nk, nkL, NestedKey.tup.injEq] at e
    cases xs with
    | nil => simp [nkL] at e
    | cons x r =>
      rw [List.all_cons, Bool.and_eq_true] at hf
      simp only [nkL, List.cons.injEq] at e
      have hf := hf.1
      have e := e.1
      cases x <;> simp [flatK] at hf <;> simp [nk] at e
  · exfalso
    obtain ⟨xs, rfl, hf⟩ := tupK_shape h'
    obtain ⟨y1, y2, rfl, h1, h2⟩ := pairK_shape h
    obtain ⟨zs, rfl, h1⟩ := tupK_shape h1
    simp only [nk, nkL, NestedKey.tup.injEq] at e
    cases xs with
    | nil => simp [nkL] at e
    | cons x r =>
      rw [List.all_cons, Bool.and_eq_true] at hf
      simp only [nkL, List.cons.injEq] at e
      have hf := hf.1
      have e := e.1
      cases x <;> simp [flatK] at hf <;> simp [nk] at e
  · obtain ⟨x1, x2, rfl, h1, h2⟩ := pairK_shape h
    obtain ⟨y1, y2, rfl, g1, g2⟩ := pairK_shape h'
    simp only [nk, nkL, NestedKey.tup.injEq, List.cons.injEq] at e
    rw [nk_tup_inj h1 g1 e.1, nk_tup_inj h2 g2 e.2.1]
theorem flat_depth {a : D} (h : flatK a = true) : (nk a).depth = 0 := by
  cases a <;> simp [flatK] at h <;> simp [nk, NestedKey.depth]
theorem flatL_depth : ∀ {a : List D}, a.all flatK = true → NestedKey.depthAll (nkL a) = 0
  | [], _ => by simp [nkL, NestedKey.depthAll]
  | x :: r, h => by
    simp only [List.all_cons, Bool.and_eq_true] at h
    simp only [nkL, NestedKey.depthAll, flat_depth h.1, flatL_depth h.2]
    omega
theorem tupK_depth {a : D} (h : tupK a = true) : (nk a).depth ≤ 1 := by
  obtain ⟨xs, rfl, h⟩ := tupK_shape h
  simp only [nk, NestedKey.depth, flatL_depth h]
  omega
theorem key1_depth {a : D} (h : keyFor 1 a = true) : (nk a).depth ≤ 8 := by
  simp only [keyFor, Bool.or_eq_true] at h
  rcases h with h | h
  · have := tupK_depth h
    omega
  · obtain ⟨x, y, rfl, h1, h2⟩ := pairK_shape h
    have := tupK_depth h1
    have := tupK_depth h2
    simp only [nk, nkL, NestedKey.depth, NestedKey.depthAll]
    omega
/-- at a stands a dict with these entries: keys that are tuples -/
def dN (P : Program) (w : World) (a : Addr) (xs : List (NestedKey × Addr × Value)) : HO :=
  .ext fun h => (a == sysModules) = false ∧ xs.length ≤ sizeLine ∧ ∃ o es ep, h.get? a = some o ∧ o.ExactDict ∧ o.data = .dict es ep ∧ es.toList = xs.map (entryOfKey (nestedKind P w))

/-! ### a datum behind a value -/
section
variable (P : Program) (w : World) (K : PySem.W.Frag) (Z : Hp) (β : List Addr)
mutual
def RepV : D → V → Prop
  | .non, v => v = .non
  | .bl b, v => v = .bl b
  | .int i, v => v = .int i
  | .str x, v => v = .str ⟨x.toArray⟩
  | .tup xs, v => ∃ a vs, v = .ref a ∧ SqT K Z a vs ∧ RepL xs vs
  | .lst xs, v => ∃ a vs, v = .ref a ∧ SqL K Z a vs ∧ RepL xs vs
  | .dct t kvs, v => ∃ a, v = .ref a ∧ ((t = 0 ∧ ∃ l, Z a = some (.dK l) ∧ RepK kvs l) ∨ (t = 1 ∧ ∃ l, Rd Z a (dN P w a l) ∧ (l.map (·.1)).Nodup ∧ RepT kvs l))
  | .ref n, v => ∃ a, v = .ref a ∧ β[n]? = some a
  | .exn _ _, _ => False
def RepL : List D → List V → Prop
  | [], vs => vs = []
  | x :: r, vs => ∃ v s, vs = v :: s ∧ RepV x v ∧ RepL r s
def RepK : List (D × D) → List (Key × V) → Prop
  | [], l => l = []
  | (k, x) :: r, l => ∃ kk v s, l = (kk, v) :: s ∧ keyD k = some kk ∧ RepV x v ∧ RepK r s
def RepT : List (D × D) → List (NestedKey × Addr × Value) → Prop
  | [], l => l = []
  | (k, x) :: r, l => ∃ b u v s, l = (nk k, b, u) :: s ∧ keyFor 1 k = true ∧ RepV k (.ref b) ∧ RelV v u ∧ RepV x v ∧ RepT r s
end
end
/-- Z' has all of Z -/
def ZLe (Z Z' : Hp) : Prop := ∀ a o, Z a = some o → Z' a = some o
theorem ZLe.refl (Z : Hp) : ZLe Z Z := fun _ _ h => h
theorem ZLe.trans {Z Z' Z'' : Hp} (h : ZLe Z Z') (h' : ZLe Z' Z'') : ZLe Z Z'' := fun a o e => h' a o (h a o e)
theorem Rd.le {Z Z' : Hp} {a : Addr} {u : HO} (z : ZLe Z Z') (h : Rd Z a u) : Rd Z' a u := by
  rcases h with h | ⟨o, h⟩
  · exact .inl (z _ _ h)
  · exact .inr ⟨o, z _ _ h⟩
theorem SqL.le {K : PySem.W.Frag} {Z Z' : Hp} {a : Addr} {xs : List V} (z : ZLe Z Z') (h : SqL K Z a xs) : SqL K Z' a xs := by
  rcases h with h | h
  · exact .inl (Rd.le z h)
  · exact .inr h
theorem SqT.le {K : PySem.W.Frag} {Z Z' : Hp} {a : Addr} {xs : List V} (z : ZLe Z Z') (h : SqT K Z a xs) : SqT K Z' a xs := by
  rcases h with h | h
  · exact .inl (Rd.le z h)
  · exact .inr h
def BLe (β β' : List Addr) : Prop := ∃ γ, β' = β ++ γ
theorem BLe.refl (β : List Addr) : BLe β β := ⟨[], by simp⟩
theorem BLe.trans {β β' β'' : List Addr} (h : BLe β β') (h' : BLe β' β'') : BLe β β'' := by
  obtain ⟨γ, rfl⟩ := h
  obtain ⟨δ, rfl⟩ := h'
  exact ⟨γ ++ δ, by simp⟩
theorem BLe.get {β β' : List Addr} (h : BLe β β') {n : Nat} {a : Addr} (e : β[n]? = some a) : β'[n]? = some a := by
  obtain ⟨γ, rfl⟩ := h
  obtain ⟨hn, e'⟩ := List.getElem?_eq_some_iff.mp e
  rw [List.getElem?_append_left hn, e]
section
variable {P : Program} {w : World} {K : PySem.W.Frag} {Z Z' : Hp} {β β' : List Addr}
mutual
theorem RepV.mono (z : ZLe Z Z') (b : BLe β β') : ∀ {d : D} {v : V}, RepV P w K Z β d v → RepV P w K Z' β' d v
  | .non, v, h => by simpa only [RepV] using h
  | .bl _, v, h => by simpa only [RepV] using h
  | .int _, v, h => by simpa only [RepV] using h
  | .str _, v, h => by simpa only [RepV] using h
  | .tup xs, v, h => by
    simp only [RepV] at h ⊢
    obtain ⟨a, vs, e, s, r⟩ := h
    exact ⟨a, vs, e, SqT.le z s, RepL.mono z b r⟩
  | .lst xs, v, h => by
    simp only [RepV] at h ⊢
    obtain ⟨a, vs, e, s, r⟩ := h
    exact ⟨a, vs, e, SqL.le z s, RepL.mono z b r⟩
  | .dct t kvs, v, h => by
    simp only [RepV] at h ⊢
    obtain ⟨a, e, h⟩ := h
    refine ⟨a, e, ?_⟩
    rcases h with ⟨hn, l, h1, h2⟩ | ⟨hn, l, h1, h0, h2⟩
    · exact .inl ⟨hn, l, z _ _ h1, RepK.mono z b h2⟩
    · exact .inr ⟨hn, l, Rd.le z h1, h0, RepT.mono z b h2⟩
  | .ref n, v, h => by
    simp only [RepV] at h ⊢
    obtain ⟨a, e, h⟩ := h
    exact ⟨a, e, b.get h⟩
  | .exn _ _, v, h => by simp only [RepV] at h
theorem RepL.mono (z : ZLe Z Z') (b : BLe β β') : ∀ {ds : List D} {vs : List V}, RepL P w K Z β ds vs → RepL P w K Z' β' ds vs
  | [], vs, h => by simpa only [RepL] using h
  | x :: r, vs, h => by
    simp only [RepL] at h ⊢
    obtain ⟨v, s, e, h1, h2⟩ := h
    exact ⟨v, s, e, RepV.mono z b h1, RepL.mono z b h2⟩
theorem RepK.mono (z : ZLe Z Z') (b : BLe β β') : ∀ {ds : List (D × D)} {vs : List (Key × V)}, RepK P w K Z β ds vs → RepK P w K Z' β' ds vs
  | [], vs, h => by simpa only [RepK] using h
  | (k, x) :: r, vs, h => by
    simp only [RepK] at h ⊢
    obtain ⟨kk, v, s, e, h0, h1, h2⟩ := h
    exact ⟨kk, v, s, e, h0, RepV.mono z b h1, RepK.mono z b h2⟩
theorem RepT.mono (z : ZLe Z Z') (b : BLe β β') : ∀ {ds : List (D × D)} {vs : List (NestedKey × Addr × Value)}, RepT P w K Z β ds vs → RepT P w K Z' β' ds vs
  | [], vs, h => by simpa only [RepT] using h
  | (k, x) :: r, vs, h => by
    simp only [RepT] at h ⊢
    obtain ⟨c, u, v, s, e, h0, hk, hr, h1, h2⟩ := h
    exact ⟨c, u, v, s, e, h0, RepV.mono z b hk, hr, RepV.mono z b h1, RepT.mono z b h2⟩
end
theorem RepL.nil : RepL P w K Z β [] [] := by simp only [RepL]
theorem RepL.cons {x : D} {v : V} {r : List D} {s : List V} (h : RepV P w K Z β x v) (h' : RepL P w K Z β r s) : RepL P w K Z β (x :: r) (v :: s) := by
  simp only [RepL]
  exact ⟨v, s, rfl, h, h'⟩
theorem RepL.length : ∀ {ds : List D} {vs : List V}, RepL P w K Z β ds vs → ds.length = vs.length
  | [], vs, h => by
    simp only [RepL] at h
    subst h
    rfl
  | x :: r, vs, h => by
    simp only [RepL] at h
    obtain ⟨v, s, rfl, _, h2⟩ := h
    simp [RepL.length h2]
theorem RepL.get : ∀ {ds : List D} {vs : List V} {i : Nat} {d : D}, RepL P w K Z β ds vs → ds[i]? = some d → ∃ v, vs[i]? = some v ∧ RepV P w K Z β d v
  | [], _, _, _, _, h => by simp at h
  | x :: r, vs, 0, d, h, e => by
    simp only [RepL] at h
    obtain ⟨v, s, rfl, h1, _⟩ := h
    simp only [List.getElem?_cons_zero, Option.some.injEq] at e
    subst e
    exact ⟨v, rfl, h1⟩
  | x :: r, vs, i + 1, d, h, e => by
    simp only [RepL] at h
    obtain ⟨v, s, rfl, _, h2⟩ := h
    simp only [List.getElem?_cons_succ] at e ⊢
    exact RepL.get h2 e
theorem RepL.getV : ∀ {ds : List D} {vs : List V} {i : Nat} {v : V}, RepL P w K Z β ds vs → vs[i]? = some v → ∃ d, ds[i]? = some d ∧ RepV P w K Z β d v
  | [], vs, _, _, h, e => by
    simp only [RepL] at h
    subst h
    simp at e
  | x :: r, vs, 0, d, h, e => by
    simp only [RepL] at h
    obtain ⟨v, s, rfl, h1, _⟩ := h
    simp only [List.getElem?_cons_zero, Option.some.injEq] at e
    subst e
    exact ⟨x, rfl, h1⟩
  | x :: r, vs, i + 1, d, h, e => by
    simp only [RepL] at h
    obtain ⟨v, s, rfl, _, h2⟩ := h
    simp only [List.getElem?_cons_succ] at e ⊢
    exact RepL.getV h2 e
theorem RepL.append : ∀ {ds es : List D} {vs ws : List V}, RepL P w K Z β ds vs → RepL P w K Z β es ws → RepL P w K Z β (ds ++ es) (vs ++ ws)
  | [], _, vs, _, h, h' => by
    simp only [RepL] at h
    subst h
    exact h'
  | x :: r, _, vs, _, h, h' => by
    simp only [RepL] at h
    obtain ⟨v, s, rfl, h1, h2⟩ := h
    exact RepL.cons h1 (RepL.append h2 h')
theorem RepL.take : ∀ {ds : List D} {vs : List V} (n : Nat), RepL P w K Z β ds vs → RepL P w K Z β (ds.take n) (vs.take n)
  | ds, vs, 0, h => by simp only [List.take_zero]; exact RepL.nil
  | [], vs, n + 1, h => by
    simp only [RepL] at h
    subst h
    exact RepL.nil
  | x :: r, vs, n + 1, h => by
    simp only [RepL] at h
    obtain ⟨v, s, rfl, h1, h2⟩ := h
    exact RepL.cons h1 (RepL.take n h2)
theorem RepL.drop : ∀ {ds : List D} {vs : List V} (n : Nat), RepL P w K Z β ds vs → RepL P w K Z β (ds.drop n) (vs.drop n)
  | ds, vs, 0, h => by simpa using h
  | [], vs, n + 1, h => by
    simp only [RepL] at h
    subst h
    exact RepL.nil
  | x :: r, vs, n + 1, h => by
    simp only [RepL] at h
    obtain ⟨v, s, rfl, h1, h2⟩ := h
    exact RepL.drop n h2
theorem RepL.reverse {ds : List D} {vs : List V} (h : RepL P w K Z β ds vs) : RepL P w K Z β ds.reverse vs.reverse := by
  induction ds generalizing vs with
  | nil =>
    simp only [RepL] at h
    subst h
    exact RepL.nil
  | cons x r ih =>
    simp only [RepL] at h
    obtain ⟨v, s, rfl, h1, h2⟩ := h
    rw [List.reverse_cons, List.reverse_cons]
    exact RepL.append (ih h2) (RepL.cons h1 RepL.nil)
theorem RepL.set : ∀ {ds : List D} {vs : List V} {i : Nat} {d : D} {v : V}, RepL P w K Z β ds vs → RepV P w K Z β d v → RepL P w K Z β (ds.set i d) (vs.set i v)
  | [], vs, i, d, v, h, r => by
    simp only [RepL] at h
    subst h
    exact RepL.nil
  | x :: t, vs, 0, d, v, h, r => by
    simp only [RepL] at h
    obtain ⟨w', s, rfl, h1, h2⟩ := h
    exact RepL.cons r h2
  | x :: t, vs, i + 1, d, v, h, r => by
    simp only [RepL] at h
    obtain ⟨w', s, rfl, h1, h2⟩ := h
    exact RepL.cons h1 (RepL.set h2 r)
theorem RepL.eraseIdx : ∀ {ds : List D} {vs : List V} {i : Nat}, RepL P w K Z β ds vs → RepL P w K Z β (ds.eraseIdx i) (vs.eraseIdx i)
  | [], vs, i, h => by
    simp only [RepL] at h
    subst h
    exact RepL.nil
  | x :: t, vs, 0, h => by
    simp only [RepL] at h
    obtain ⟨w', s, rfl, h1, h2⟩ := h
    exact h2
  | x :: t, vs, i + 1, h => by
    simp only [RepL] at h
    obtain ⟨w', s, rfl, h1, h2⟩ := h
    exact RepL.cons h1 (RepL.eraseIdx h2)
theorem RepL.ints : ∀ (ns : List Int), RepL P w K Z β (ns.map .int) (ns.map V.int)
  | [] => RepL.nil
  | n :: r => RepL.cons (by simp only [RepV]) (RepL.ints r)
theorem RepL.isInts : ∀ {ns : List Int} {vs : List V}, RepL P w K Z β (ns.map .int) vs → vs = ns.map V.int
  | [], vs, h => by simpa only [List.map_nil, RepL] using h
  | n :: r, vs, h => by
    simp only [List.map_cons, RepL, RepV] at h
    obtain ⟨v, s, rfl, rfl, h2⟩ := h
    rw [RepL.isInts h2, List.map_cons]
end
/-! ### the fields of all classes -/
def FLD : List String := ["goal", "leads", "backs", "used", "tale", "needs", "ranks", "floors", "numbers", "seen", "said", "taken", "live", "known", "holders", "world_told", "events", "states", "pairs", "kept", "ending", "people", "matters", "against"]
/-- what is asked of a class -/
def ClsF (K : PySem.W.Frag) (C : Addr) : Prop := Cls K C ∧ ∀ f ∈ FLD, NoAttr K C (Str.ofString f)
theorem fld_inj {f g : String} (hf : FLD.contains f = true) (hg : FLD.contains g = true) (h : Str.ofString f = Str.ofString g) : f = g := by
  have q : (FLD.all fun a => FLD.all fun b => decide (Str.ofString a = Str.ofString b → a = b)) = true := by decide +kernel
  rw [List.all_eq_true] at q
  have q1 := q f (by simpa using hf)
  rw [List.all_eq_true] at q1
  exact of_decide_eq_true (q1 g (by simpa using hg)) h
/-! ### the store -/
section
variable (P : Program) (w : World) (K : PySem.W.Frag) (mg : Str → Option Value) (Φ : List (Addr × HO)) (Z : Hp) (β : List Addr)
def RepF : List (String × D) → List (Str × V) → Prop
  | [], l => l = []
  | (f, x) :: r, l => FLD.contains f = true ∧ ∃ v s, l = (Str.ofString f, v) :: s ∧ RepV P w K Z β x v ∧ RepF r s
/-- the object o stands at a -/
def RepO (H : Hp) : MO → Addr → Prop
  | .lst xs, a => ∃ vs, H a = some (.lst vs) ∧ RepL P w K Z β xs vs
  | .dct t kvs, a => (t = 0 ∧ ∃ l, H a = some (.dK l) ∧ RepK P w K Z β kvs l) ∨ (t = 1 ∧ ∃ l, H a = some (dN P w a l) ∧ (l.map (·.1)).Nodup ∧ RepT P w K Z β kvs l)
  | .ins c fs, a => ∃ C dx l, (mg (Str.ofString c) = some (.ref C) ∧ ClsF K C) ∧ H a = some (.ins C dx l) ∧ RepF P w K Z β fs l
structure Rel (U : Store) (H : Hp) : Prop where
  zle : ZLe Z H
  len : β.length = U.length
  nd : β.Nodup
  sep : ∀ a ∈ β, Z a = none
  obj : ∀ (n : Nat) (o : MO) (a : Addr), U[n]? = some o → β[n]? = some a → RepO P w K mg Z β H o a
  ext : ∀ q ∈ Φ, H q.1 = some q.2 ∧ Z q.1 = none ∧ q.1 ∉ β
end
section
variable {P : Program} {w : World} {K : PySem.W.Frag} {mg : Str → Option Value} {Φ : List (Addr × HO)} {Z Z' : Hp} {β β' : List Addr} {U : Store} {H : Hp}
theorem RepF.mono (z : ZLe Z Z') (b : BLe β β') : ∀ {fs : List (String × D)} {l : List (Str × V)}, RepF P w K Z β fs l → RepF P w K Z' β' fs l
  | [], l, h => h
  | (f, x) :: r, l, h => by
    obtain ⟨hf, v, s, e, h1, h2⟩ := h
    exact ⟨hf, v, s, e, RepV.mono z b h1, RepF.mono z b h2⟩
theorem RepF.lookup : ∀ {fs : List (String × D)} {l : List (Str × V)} {f : String} {d : D}, RepF P w K Z β fs l → FLD.contains f = true → fs.lookup f = some d → ∃ v, l.lookup (Str.ofString f) = some v ∧ RepV P w K Z β d v
  | [], l, f, d, h, hf, e => by cases e
  | (g, x) :: r, l, f, d, h, hf, e => by
    obtain ⟨hg, v, s, rfl, h1, h2⟩ := h
    by_cases q : f = g
    · subst q
      simp only [List.lookup_cons, beq_self_eq_true, Option.some.injEq] at e
      subst e
      exact ⟨v, by simp only [List.lookup_cons, beq_self_eq_true], h1⟩
    · have q1 : (f == g) = false := beq_eq_false_iff_ne.mpr q
      have q2 : (Str.ofString f == Str.ofString g) = false := beq_eq_false_iff_ne.mpr fun z => q (fld_inj hf hg z)
      simp only [List.lookup_cons, q1] at e
      simp only [List.lookup_cons, q2]
      exact RepF.lookup h2 hf e
theorem RepF.put : ∀ {fs : List (String × D)} {l : List (Str × V)} {f : String} {d : D} {v : V}, RepF P w K Z β fs l → FLD.contains f = true → RepV P w K Z β d v → RepF P w K Z β (putFld f d fs) (putF (Str.ofString f) v l)
  | [], l, f, d, v, h, hf, rv => by
    have h : l = [] := h
    subst h
    exact ⟨hf, v, [], rfl, rv, rfl⟩
  | (g, x) :: r, l, f, d, v, h, hf, rv => by
    obtain ⟨hg, v', s, rfl, h1, h2⟩ := h
    by_cases q : g = f
    · subst q
      show RepF P w K Z β (if g = g then (g, d) :: r else _) (if Str.ofString g = Str.ofString g then (Str.ofString g, v) :: s else _)
      rw [if_pos rfl, if_pos rfl]
      exact ⟨hg, v, s, rfl, rv, h2⟩
    · show RepF P w K Z β (if g = f then _ else (g, x) :: putFld f d r) (if Str.ofString g = Str.ofString f then _ else (Str.ofString g, v') :: putF (Str.ofString f) v s)
      rw [if_neg q, if_neg fun z => q (fld_inj hg hf z)]
      exact ⟨hg, v', _, rfl, h1, RepF.put h2 hf rv⟩
theorem RepF.none : ∀ {fs : List (String × D)} {l : List (Str × V)} {x : Str}, RepF P w K Z β fs l → (FLD.map Str.ofString).contains x = false → l.lookup x = none
  | [], l, x, h, hx => by
    have h : l = [] := h
    subst h
    rfl
  | (g, y) :: r, l, x, h, hx => by
    obtain ⟨hg, v', s, rfl, h1, h2⟩ := h
    have q2 : (x == Str.ofString g) = false := beq_eq_false_iff_ne.mpr fun z => by
      subst z
      have : (FLD.map Str.ofString).contains (Str.ofString g) = true := by
        rw [List.contains_iff_mem]
        exact List.mem_map.mpr ⟨g, by simpa using hg, rfl⟩
      rw [this] at hx
      cases hx
    simp only [List.lookup_cons, q2]
    exact RepF.none h2 hx
theorem RepF.length : ∀ {fs : List (String × D)} {l : List (Str × V)}, RepF P w K Z β fs l → fs.length = l.length
  | [], l, h => by
    have h : l = [] := h
    subst h
    rfl
  | (g, y) :: r, l, h => by
    obtain ⟨hg, v', s, rfl, h1, h2⟩ := h
    simp [RepF.length h2]
theorem RepO.mono {H' : Hp} (z : ZLe Z Z') (b : BLe β β') {o : MO} {a : Addr} (h : RepO P w K mg Z β H o a) (k : H' a = H a) : RepO P w K mg Z' β' H' o a := by
  cases o with
  | lst xs =>
    obtain ⟨vs, e, r⟩ := h
    exact ⟨vs, k.trans e, RepL.mono z b r⟩
  | dct t kvs =>
    rcases h with ⟨hn, l, e, r⟩ | ⟨hn, l, e, hd, r⟩
    · exact .inl ⟨hn, l, k.trans e, RepK.mono z b r⟩
    · exact .inr ⟨hn, l, k.trans e, hd, RepT.mono z b r⟩
  | ins c fs =>
    obtain ⟨C, dx, l, hc, e, r⟩ := h
    exact ⟨C, dx, l, hc, k.trans e, RepF.mono z b r⟩
theorem RepO.some {o : MO} {a : Addr} (h : RepO P w K mg Z β H o a) : ∃ u, H a = some u := by
  cases o with
  | lst xs => obtain ⟨vs, e, r⟩ := h; exact ⟨_, e⟩
  | dct t kvs =>
    rcases h with ⟨hn, l, e, r⟩ | ⟨hn, l, e, r⟩
    · exact ⟨_, e⟩
    · exact ⟨_, e⟩
  | ins c fs => obtain ⟨C, dx, l, hc, e, r⟩ := h; exact ⟨_, e⟩
theorem Rel.at (R : Rel P w K mg Φ Z β U H) {n : Nat} {o : MO} (e : U[n]? = some o) : ∃ a, β[n]? = some a ∧ RepO P w K mg Z β H o a := by
  have hn : n < β.length := by
    rw [R.len]
    exact (List.getElem?_eq_some_iff.mp e).1
  exact ⟨β[n], List.getElem?_eq_getElem hn, R.obj n o _ e (List.getElem?_eq_getElem hn)⟩
theorem Rel.ref (R : Rel P w K mg Φ Z β U H) {n : Nat} {o : MO} {a : Addr} (e : U[n]? = some o) (h : β[n]? = some a) : RepO P w K mg Z β H o a := R.obj n o a e h
theorem Rel.notZ (R : Rel P w K mg Φ Z β U H) {n : Nat} {a : Addr} (h : β[n]? = some a) : Z a = none := R.sep a (List.mem_of_getElem? h)
theorem Rel.fresh (R : Rel P w K mg Φ Z β U H) {p : Addr} (h : H p = none) : Z p = none ∧ p ∉ β := by
  refine ⟨?_, fun hm => ?_⟩
  · cases e : Z p with
    | none => rfl
    | some o =>
      have := R.zle _ _ e
      rw [h] at this
      cases this
  · obtain ⟨n, hn, e⟩ := List.mem_iff_getElem.mp hm
    have hU : n < U.length := by rw [← R.len]; exact hn
    have e1 : β[n]? = some p := by rw [List.getElem?_eq_getElem hn, e]
    obtain ⟨u, hu⟩ := (R.obj n _ p (List.getElem?_eq_getElem hU) e1).some
    rw [h] at hu
    cases hu
/-- a new frozen object -/
theorem Rel.froze (R : Rel P w K mg Φ Z β U H) {p : Addr} (h : H p = none) (o : HO) : Rel P w K mg Φ (L2.upd Z p o) β U (L2.upd H p o) ∧ ZLe Z (L2.upd Z p o) := by
  obtain ⟨hz, hb⟩ := R.fresh h
  have le : ZLe Z (L2.upd Z p o) := fun a u e => by
    rw [L2.upd_ne (fun q => by subst q; rw [hz] at e; cases e)]
    exact e
  refine ⟨⟨fun a u e => ?_, R.len, R.nd, fun a ha => ?_, fun n m a e1 e2 => ?_, fun q hq => ?_⟩, le⟩
  · by_cases q : a = p
    · subst q
      rw [upd_same] at e ⊢
      exact e
    · rw [upd_ne q] at e ⊢
      exact R.zle a u e
  · rw [upd_ne (fun q => hb (by rw [← q]; exact ha))]
    exact R.sep a ha
  · have ha : a ≠ p := fun q => hb (by rw [← q]; exact List.mem_of_getElem? e2)
    exact (R.obj n m a e1 e2).mono le (BLe.refl β) (upd_ne ha)
  · obtain ⟨q1, q2, q3⟩ := R.ext q hq
    have hq : q.1 ≠ p := fun z => by rw [z, h] at q1; cases q1
    rw [upd_ne hq, upd_ne hq]
    exact ⟨q1, q2, q3⟩
/-- a new object of the store -/
theorem Rel.push (R : Rel P w K mg Φ Z β U H) {p : Addr} (h : H p = none) {u : HO} {o : MO} (hr : RepO P w K mg Z (β ++ [p]) (L2.upd H p u) o p) : Rel P w K mg Φ Z (β ++ [p]) (U ++ [o]) (L2.upd H p u) ∧ BLe β (β ++ [p]) := by
  obtain ⟨hz, hb⟩ := R.fresh h
  have le : BLe β (β ++ [p]) := ⟨[p], rfl⟩
  refine ⟨⟨fun a u' e => ?_, by simp [R.len], ?_, fun a ha => ?_, fun n m a e1 e2 => ?_, fun q hq => ?_⟩, le⟩
  · rw [L2.upd_ne (fun q => by subst q; rw [hz] at e; cases e)]
    exact R.zle a u' e
  · rw [List.nodup_append]
    refine ⟨R.nd, by simp, fun a ha b hb' => ?_⟩
    simp only [List.mem_singleton] at hb'
    subst hb'
    exact fun q => hb (q ▸ ha)
  · rcases List.mem_append.mp ha with ha | ha
    · exact R.sep a ha
    · simp only [List.mem_singleton] at ha
      subst ha
      exact hz
  · by_cases hn : n < U.length
    · rw [List.getElem?_append_left hn] at e1
      rw [List.getElem?_append_left (by rw [R.len]; exact hn)] at e2
      have ha : a ≠ p := fun q => hb (by rw [← q]; exact List.mem_of_getElem? e2)
      exact (R.obj n m a e1 e2).mono (ZLe.refl Z) le (L2.upd_ne ha)
    · have hn2 : n < (U ++ [o]).length := (List.getElem?_eq_some_iff.mp e1).1
      have hn3 : n = U.length := by
        rw [List.length_append] at hn2
        simp at hn2
        omega
      subst hn3
      rw [List.getElem?_append_right (Nat.le_refl _)] at e1
      rw [List.getElem?_append_right (by rw [R.len]; exact Nat.le_refl _)] at e2
      simp [R.len] at e1 e2
      subst e1 e2
      exact hr
  · obtain ⟨q1, q2, q3⟩ := R.ext q hq
    have hq : q.1 ≠ p := fun z => by rw [z, h] at q1; cases q1
    rw [L2.upd_ne hq]
    exact ⟨q1, q2, by simp [q3, hq]⟩
/-- an object of the store changes -/
theorem Rel.write (R : Rel P w K mg Φ Z β U H) {n : Nat} {a : Addr} (e : β[n]? = some a) {u : HO} {o : MO} (hr : RepO P w K mg Z β (L2.upd H a u) o a) : Rel P w K mg Φ Z β (U.set n o) (L2.upd H a u) := by
  have hz : Z a = none := R.notZ e
  refine ⟨fun b u' q => ?_, by simp [R.len], R.nd, R.sep, fun m o' b e1 e2 => ?_, fun q hq => ?_⟩
  · rw [L2.upd_ne (fun z => by subst z; rw [hz] at q; cases q)]
    exact R.zle b u' q
  · by_cases hm : m = n
    · subst hm
      rw [e] at e2
      cases e2
      have hn : m < U.length := by
        rw [← R.len]
        exact (List.getElem?_eq_some_iff.mp e).1
      rw [List.getElem?_set_self hn] at e1
      cases e1
      exact hr
    · rw [List.getElem?_set_ne (fun q => hm q.symm)] at e1
      have hb : b ≠ a := fun q => by
        subst q
        obtain ⟨h1, q1⟩ := List.getElem?_eq_some_iff.mp e
        obtain ⟨h2, q2⟩ := List.getElem?_eq_some_iff.mp e2
        exact hm ((List.getElem_inj R.nd).mp (q2.trans q1.symm))
      exact (R.obj m o' b e1 e2).mono (ZLe.refl Z) (BLe.refl β) (L2.upd_ne hb)
  · obtain ⟨q1, q2, q3⟩ := R.ext q hq
    have hq : q.1 ≠ a := fun z => q3 (z ▸ List.mem_of_getElem? e)
    rw [L2.upd_ne hq]
    exact ⟨q1, q2, q3⟩
/-- an object that is not the store's: put aside, and changed -/
theorem Rel.aside (R : Rel P w K mg Φ Z β U H) {p : Addr} (h : H p = none) (o : HO) : Rel P w K mg ((p, o) :: Φ) Z β U (L2.upd H p o) := by
  obtain ⟨hz, hb⟩ := R.fresh h
  refine ⟨fun a u e => ?_, R.len, R.nd, R.sep, fun n m a e1 e2 => ?_, fun q hq => ?_⟩
  · rw [L2.upd_ne (fun q => by subst q; rw [hz] at e; cases e)]
    exact R.zle a u e
  · exact (R.obj n m a e1 e2).mono (ZLe.refl Z) (BLe.refl β) (L2.upd_ne fun q => hb (q ▸ List.mem_of_getElem? e2))
  · rcases List.mem_cons.mp hq with rfl | hq
    · exact ⟨L2.upd_same, hz, hb⟩
    · obtain ⟨q1, q2, q3⟩ := R.ext q hq
      rw [L2.upd_ne (fun z => by rw [z, h] at q1; cases q1)]
      exact ⟨q1, q2, q3⟩
theorem Rel.aside2 {p : Addr} {o : HO} (R : Rel P w K mg ((p, o) :: Φ) Z β U H) (hn : ∀ q ∈ Φ, q.1 ≠ p) (o' : HO) : Rel P w K mg ((p, o') :: Φ) Z β U (L2.upd H p o') := by
  obtain ⟨h1, hz, hb⟩ := R.ext (p, o) (by simp)
  refine ⟨fun a u e => ?_, R.len, R.nd, R.sep, fun n m a e1 e2 => ?_, fun q hq => ?_⟩
  · rw [L2.upd_ne (fun q => by subst q; rw [hz] at e; cases e)]
    exact R.zle a u e
  · exact (R.obj n m a e1 e2).mono (ZLe.refl Z) (BLe.refl β) (L2.upd_ne fun q => hb (q ▸ List.mem_of_getElem? e2))
  · rcases List.mem_cons.mp hq with rfl | hq
    · exact ⟨L2.upd_same, hz, hb⟩
    · obtain ⟨q1, q2, q3⟩ := R.ext q (by simp [hq])
      rw [L2.upd_ne (hn q hq)]
      exact ⟨q1, q2, q3⟩
theorem Rel.drop {q : Addr × HO} (R : Rel P w K mg (q :: Φ) Z β U H) : Rel P w K mg Φ Z β U H := ⟨R.zle, R.len, R.nd, R.sep, R.obj, fun p hp => R.ext p (by simp [hp])⟩
/-- what was put aside is frozen -/
theorem Rel.settle {p : Addr} {o : HO} (R : Rel P w K mg ((p, o) :: Φ) Z β U H) (hn : ∀ q ∈ Φ, q.1 ≠ p) : Rel P w K mg Φ (L2.upd Z p o) β U H ∧ ZLe Z (L2.upd Z p o) := by
  obtain ⟨h1, hz, hb⟩ := R.ext (p, o) (by simp)
  have le : ZLe Z (L2.upd Z p o) := fun a u e => by
    rw [L2.upd_ne (fun q => by subst q; rw [hz] at e; cases e)]
    exact e
  refine ⟨⟨fun a u e => ?_, R.len, R.nd, fun a ha => ?_, fun n m a e1 e2 => ?_, fun q hq => ?_⟩, le⟩
  · by_cases q : a = p
    · subst q
      rw [upd_same] at e
      cases e
      exact h1
    · rw [upd_ne q] at e
      exact R.zle a u e
  · rw [upd_ne (fun q => hb (by rw [← q]; exact ha))]
    exact R.sep a ha
  · exact (R.obj n m a e1 e2).mono le (BLe.refl β) rfl
  · obtain ⟨q1, q2, q3⟩ := R.ext q (by simp [hq])
    rw [upd_ne (hn q hq)]
    exact ⟨q1, q2, q3⟩
/-- what was put aside goes to the store -/
theorem Rel.adopt {p : Addr} {u : HO} (R : Rel P w K mg ((p, u) :: Φ) Z β U H) (hn : ∀ q ∈ Φ, q.1 ≠ p) {o : MO} (hr : RepO P w K mg Z (β ++ [p]) H o p) : Rel P w K mg Φ Z (β ++ [p]) (U ++ [o]) H ∧ BLe β (β ++ [p]) := by
  obtain ⟨h1, hz, hb⟩ := R.ext (p, u) (by simp)
  have le : BLe β (β ++ [p]) := ⟨[p], rfl⟩
  refine ⟨⟨R.zle, by simp [R.len], ?_, fun a ha => ?_, fun n m a e1 e2 => ?_, fun q hq => ?_⟩, le⟩
  · rw [List.nodup_append]
    refine ⟨R.nd, by simp, fun a ha b hb' => ?_⟩
    simp only [List.mem_singleton] at hb'
    subst hb'
    exact fun q => hb (q ▸ ha)
  · rcases List.mem_append.mp ha with ha | ha
    · exact R.sep a ha
    · simp only [List.mem_singleton] at ha
      subst ha
      exact hz
  · by_cases hn : n < U.length
    · rw [List.getElem?_append_left hn] at e1
      rw [List.getElem?_append_left (by rw [R.len]; exact hn)] at e2
      exact (R.obj n m a e1 e2).mono (ZLe.refl Z) le rfl
    · have hn2 : n < (U ++ [o]).length := (List.getElem?_eq_some_iff.mp e1).1
      have hn3 : n = U.length := by
        rw [List.length_append] at hn2
        simp at hn2
        omega
      subst hn3
      rw [List.getElem?_append_right (Nat.le_refl _)] at e1
      rw [List.getElem?_append_right (by rw [R.len]; exact Nat.le_refl _)] at e2
      simp [R.len] at e1 e2
      subst e1 e2
      exact hr
  · obtain ⟨q1, q2, q3⟩ := R.ext q (by simp [hq])
    exact ⟨q1, q2, by simp [q3, hn q hq]⟩
end
/-! ### lists and tuples, frozen or in the store -/
section
variable {P : Program} {w : World} {K : PySem.W.Frag} {mg : Str → Option Value} {Φ : List (Addr × HO)} {Z : Hp} {β : List Addr} {U : Store} {H : Hp}
theorem Rel.list (R : Rel P w K mg Φ Z β U H) {d : D} {xs : List D} {v : V} (h : asL U d = some xs) (r : RepV P w K Z β d v) : ∃ a vs, v = .ref a ∧ SqL K H a vs ∧ RepL P w K Z β xs vs := by
  cases d <;> simp only [asL, reduceCtorEq] at h
  · cases h
    simp only [RepV] at r
    obtain ⟨a, vs, e, s, q⟩ := r
    exact ⟨a, vs, e, SqL.le R.zle s, q⟩
  · simp only [RepV] at r
    obtain ⟨a, e, hb⟩ := r
    split at h <;> simp only [Option.some.injEq, reduceCtorEq] at h
    subst h
    rename_i hu
    obtain ⟨vs, e1, q⟩ := R.obj _ _ _ hu hb
    exact ⟨a, vs, e, SqL.of e1, q⟩
theorem Rel.seq (R : Rel P w K mg Φ Z β U H) {d : D} {xs : List D} {v : V} (h : asQ U d = some xs) (r : RepV P w K Z β d v) : ∃ a vs, v = .ref a ∧ (SqL K H a vs ∨ SqT K H a vs) ∧ RepL P w K Z β xs vs := by
  by_cases ht : ∃ ys, d = .tup ys
  · obtain ⟨ys, rfl⟩ := ht
    simp only [asQ, Option.some.injEq] at h
    subst h
    simp only [RepV] at r
    obtain ⟨a, vs, e, s, q⟩ := r
    exact ⟨a, vs, e, .inr (SqT.le R.zle s), q⟩
  · have h' : asL U d = some xs := by
      cases d <;> first | exact h | exact absurd ⟨_, rfl⟩ ht
    obtain ⟨a, vs, e, s, q⟩ := R.list h' r
    exact ⟨a, vs, e, .inl s, q⟩
theorem Rel.tuple (R : Rel P w K mg Φ Z β U H) {xs : List D} {v : V} (r : RepV P w K Z β (.tup xs) v) : ∃ a vs, v = .ref a ∧ SqT K H a vs ∧ RepL P w K Z β xs vs := by
  simp only [RepV] at r
  obtain ⟨a, vs, e, s, q⟩ := r
  exact ⟨a, vs, e, SqT.le R.zle s, q⟩
/-- a new list -/
theorem Rel.mkL (R : Rel P w K mg Φ Z β U H) {m : Bool} {xs : List D} {vs : List V} {d : D} {U' : Store} (e : mkL m xs U = some (.ok d U')) (r : RepL P w K Z β xs vs) {p : Addr} (hp : H p = none) :
    ∃ Z' β', ZLe Z Z' ∧ BLe β β' ∧ Rel P w K mg Φ Z' β' U' (L2.upd H p (.lst vs)) ∧ RepV P w K Z' β' d (.ref p) := by
  cases m with
  | true =>
    simp only [VI.mkL, if_true, Option.some.injEq, VI.R.ok.injEq] at e
    obtain ⟨rfl, rfl⟩ := e
    obtain ⟨R', le⟩ := R.push hp (u := .lst vs) (o := .lst xs) ⟨vs, L2.upd_same, RepL.mono (ZLe.refl Z) ⟨[p], rfl⟩ r⟩
    refine ⟨Z, β ++ [p], ZLe.refl Z, le, R', ?_⟩
    simp only [RepV]
    exact ⟨p, rfl, by rw [← R.len]; simp⟩
  | false =>
    simp only [VI.mkL, Bool.false_eq_true, if_false, Option.some.injEq, VI.R.ok.injEq] at e
    obtain ⟨rfl, rfl⟩ := e
    obtain ⟨R', le⟩ := R.froze hp (.lst vs)
    refine ⟨_, β, le, BLe.refl β, R', ?_⟩
    simp only [RepV]
    exact ⟨p, vs, rfl, SqL.of L2.upd_same, RepL.mono le (BLe.refl β) r⟩
theorem Rel.mkT (R : Rel P w K mg Φ Z β U H) {xs : List D} {vs : List V} (r : RepL P w K Z β xs vs) {p : Addr} (hp : H p = none) :
    ∃ Z', ZLe Z Z' ∧ Rel P w K mg Φ Z' β U (L2.upd H p (.tup vs)) ∧ RepV P w K Z' β (.tup xs) (.ref p) := by
  obtain ⟨R', le⟩ := R.froze hp (.tup vs)
  refine ⟨_, le, R', ?_⟩
  simp only [RepV]
  exact ⟨p, vs, rfl, SqT.of L2.upd_same, RepL.mono le (BLe.refl β) r⟩
end
end VI

/-! VIb2: trees behind data (rs, snap), ==, in, the operators by values. -/
namespace VI
open PySem PySem.Spec PyProof.Rows L2
theorem rsv_flat {U : Store} {n₀ : Nat} {sub : D → Option D} {k : D} (h : flatK k = true) : rsv U n₀ sub k = some k := by
  cases k <;> simp [flatK] at h <;> simp [rsv]
theorem rsvL_flat {U : Store} {n₀ : Nat} {sub : D → Option D} : ∀ {ks : List D}, ks.all flatK = true → rsvL U n₀ sub ks = some ks
  | [], _ => by simp [rsvL]
  | x :: r, h => by
    simp only [List.all_cons, Bool.and_eq_true] at h
    simp [rsvL, rsv_flat h.1, rsvL_flat h.2]
theorem rsv_tupK {U : Store} {n₀ : Nat} {sub : D → Option D} {k : D} (h : tupK k = true) : rsv U n₀ sub k = some k := by
  obtain ⟨xs, rfl, h⟩ := tupK_shape h
  simp [rsv, rsvL_flat h]
theorem rsv_key {U : Store} {n₀ : Nat} {sub : D → Option D} {k : D} (h : keyFor 1 k = true) : rsv U n₀ sub k = some k := by
  simp only [keyFor, Bool.or_eq_true] at h
  rcases h with h | h
  · exact rsv_tupK h
  · obtain ⟨x, y, rfl, h1, h2⟩ := pairK_shape h
    simp [rsv, rsvL, rsv_tupK h1, rsv_tupK h2]
section
variable {P : Program} {w : World} {K : PySem.W.Frag} {mg : Str → Option Value} {Φ : List (Addr × HO)} {Z Z' : Hp} {β β' : List Addr} {U : Store} {H : Hp}
mutual
theorem rsv_rep {n₀ : Nat} {sub : D → Option D} (z : ZLe Z Z') (hs : ∀ n a d', β[n]? = some a → sub (.ref n) = some d' → RepV P w K Z' β' d' (.ref a)) : ∀ {d d' : D} {v : V}, rsv U n₀ sub d = some d' → RepV P w K Z β d v → RepV P w K Z' β' d' v
  | .non, d', v, h, r => by
    simp only [rsv, Option.some.injEq] at h
    subst h
    simpa only [RepV] using r
  | .bl _, d', v, h, r => by
    simp only [rsv, Option.some.injEq] at h
    subst h
    simpa only [RepV] using r
  | .int _, d', v, h, r => by
    simp only [rsv, Option.some.injEq] at h
    subst h
    simpa only [RepV] using r
  | .str _, d', v, h, r => by
    simp only [rsv, Option.some.injEq] at h
    subst h
    simpa only [RepV] using r
  | .tup xs, d', v, h, r => by
    simp only [rsv, Option.map_eq_some_iff] at h
    obtain ⟨ys, h, rfl⟩ := h
    simp only [RepV] at r ⊢
    obtain ⟨a, vs, e, s, q⟩ := r
    exact ⟨a, vs, e, SqT.le z s, rsvL_rep z hs h q⟩
  | .lst xs, d', v, h, r => by
    simp only [rsv, Option.map_eq_some_iff] at h
    obtain ⟨ys, h, rfl⟩ := h
    simp only [RepV] at r ⊢
    obtain ⟨a, vs, e, s, q⟩ := r
    exact ⟨a, vs, e, SqL.le z s, rsvL_rep z hs h q⟩
  | .dct t kvs, d', v, h, r => by
    simp only [rsv, Option.map_eq_some_iff] at h
    obtain ⟨ys, h, rfl⟩ := h
    simp only [RepV] at r ⊢
    obtain ⟨a, e, q⟩ := r
    refine ⟨a, e, ?_⟩
    rcases q with ⟨hn, l, h1, h2⟩ | ⟨hn, l, h1, hd, h2⟩
    · exact .inl ⟨hn, l, z _ _ h1, rsvP_repK z hs h h2⟩
    · exact .inr ⟨hn, l, Rd.le z h1, hd, rsvP_repT z hs h h2⟩
  | .ref n, d', v, h, r => by
    simp only [RepV] at r
    obtain ⟨a, rfl, e⟩ := r
    exact hs n a d' e h
  | .exn _ _, d', v, h, r => by simp only [RepV] at r
theorem rsvL_rep {n₀ : Nat} {sub : D → Option D} (z : ZLe Z Z') (hs : ∀ n a d', β[n]? = some a → sub (.ref n) = some d' → RepV P w K Z' β' d' (.ref a)) : ∀ {ds ds' : List D} {vs : List V}, rsvL U n₀ sub ds = some ds' → RepL P w K Z β ds vs → RepL P w K Z' β' ds' vs
  | [], ds', vs, h, r => by
    simp only [rsvL, Option.some.injEq] at h
    subst h
    simpa only [RepL] using r
  | x :: t, ds', vs, h, r => by
    simp only [rsvL] at h
    split at h <;> simp only [Option.some.injEq, reduceCtorEq] at h
    rename_i y s e1 e2
    subst h
    simp only [RepL] at r
    obtain ⟨v, s', rfl, r1, r2⟩ := r
    exact RepL.cons (rsv_rep z hs e1 r1) (rsvL_rep z hs e2 r2)
theorem rsvP_repK {n₀ : Nat} {sub : D → Option D} (z : ZLe Z Z') (hs : ∀ n a d', β[n]? = some a → sub (.ref n) = some d' → RepV P w K Z' β' d' (.ref a)) : ∀ {ds ds' : List (D × D)} {vs : List (Key × V)}, rsvP U n₀ sub ds = some ds' → RepK P w K Z β ds vs → RepK P w K Z' β' ds' vs
  | [], ds', vs, h, r => by
    simp only [rsvP, Option.some.injEq] at h
    subst h
    simpa only [RepK] using r
  | (k, x) :: t, ds', vs, h, r => by
    simp only [rsvP] at h
    split at h <;> simp only [Option.some.injEq, reduceCtorEq] at h
    rename_i j y s e0 e1 e2
    subst h
    simp only [RepK] at r ⊢
    obtain ⟨kk, v, s', rfl, r0, r1, r2⟩ := r
    have ej : j = k := by
      cases k <;> simp [keyD] at r0 <;> simp [rsv] at e0 <;> exact e0.symm
    subst ej
    exact ⟨kk, v, s', rfl, r0, rsv_rep z hs e1 r1, rsvP_repK z hs e2 r2⟩
theorem rsvP_repT {n₀ : Nat} {sub : D → Option D} (z : ZLe Z Z') (hs : ∀ n a d', β[n]? = some a → sub (.ref n) = some d' → RepV P w K Z' β' d' (.ref a)) : ∀ {ds ds' : List (D × D)} {vs : List (NestedKey × Addr × Value)}, rsvP U n₀ sub ds = some ds' → RepT P w K Z β ds vs → RepT P w K Z' β' ds' vs
  | [], ds', vs, h, r => by
    simp only [rsvP, Option.some.injEq] at h
    subst h
    simpa only [RepT] using r
  | (k, x) :: t, ds', vs, h, r => by
    simp only [rsvP] at h
    split at h <;> simp only [Option.some.injEq, reduceCtorEq] at h
    rename_i j y s e0 e1 e2
    subst h
    simp only [RepT] at r ⊢
    obtain ⟨c, u, v, s', rfl, hk, rk, ru, r1, r2⟩ := r
    have ej : j = k := by
      rw [rsv_key hk] at e0
      exact (Option.some.inj e0).symm
    subst ej
    exact ⟨c, u, v, s', rfl, hk, rsv_rep (n₀ := n₀) (sub := sub) z hs (rsv_key hk) rk, ru, rsv_rep z hs e1 r1, rsvP_repT z hs e2 r2⟩
end
/-- what the objects from n₀ on are taken to -/
theorem subAt_rep {n₀ : Nat} (R : Rel P w K mg Φ Z β U H) (z : ZLe Z Z') (hz : ∀ n a, n₀ ≤ n → β[n]? = some a → Z' a = H a) (hb : ∀ n a, n < n₀ → β[n]? = some a → β'[n]? = some a) :
    ∀ (f n : Nat) (a : Addr) (d' : D), β[n]? = some a → subAt U n₀ f (.ref n) = some d' → RepV P w K Z' β' d' (.ref a)
  | 0, n, a, d', _, h => by simp [subAt] at h
  | f + 1, n, a, d', e, h => by
    simp only [subAt] at h
    by_cases hn : n < n₀
    · rw [if_pos hn] at h
      cases h
      simp only [RepV]
      exact ⟨a, rfl, hb n a hn e⟩
    · rw [if_neg hn] at h
      have ih := subAt_rep R z hz hb f
      split at h
      · rename_i xs hu
        simp only [Option.map_eq_some_iff] at h
        obtain ⟨ys, h, rfl⟩ := h
        obtain ⟨vs, e1, q⟩ := R.obj n _ a hu e
        simp only [RepV]
        exact ⟨a, vs, rfl, SqL.of ((hz n a (by omega) e).trans e1), rsvL_rep z ih h q⟩
      · rename_i t kvs hu
        simp only [Option.map_eq_some_iff] at h
        obtain ⟨ys, h, rfl⟩ := h
        simp only [RepV]
        refine ⟨a, rfl, ?_⟩
        rcases R.obj n _ a hu e with ⟨hn, l, e1, q⟩ | ⟨hn, l, e1, hd, q⟩
        · exact .inl ⟨hn, l, (hz n a (by omega) e).trans e1, rsvP_repK z ih h q⟩
        · exact .inr ⟨hn, l, .inl ((hz n a (by omega) e).trans e1), hd, rsvP_repT z ih h q⟩
      · cases h
/-- the tree behind a datum, over the whole heap -/
theorem snap_rep (R : Rel P w K mg Φ Z β U H) {d d' : D} {v : V} (h : snap U d = some d') (r : RepV P w K Z β d v) : RepV P w K H [] d' v :=
  rsv_rep R.zle (fun n a d' e hd => subAt_rep (n₀ := 0) R R.zle (fun _ _ _ _ => rfl) (fun _ _ h => absurd h (by omega)) 8 n a d' e hd) h r
theorem snapL_rep (R : Rel P w K mg Φ Z β U H) : ∀ {ds ds' : List D} {vs : List V}, snapL U ds = some ds' → RepL P w K Z β ds vs → RepL P w K H [] ds' vs
  | [], ds', vs, h, r => by
    simp only [snapL, Option.some.injEq] at h
    subst h
    simpa only [RepL] using r
  | x :: t, ds', vs, h, r => by
    simp only [snapL] at h
    split at h <;> simp only [Option.some.injEq, reduceCtorEq] at h
    rename_i y s e1 e2
    subst h
    simp only [RepL] at r
    obtain ⟨v, s', rfl, r1, r2⟩ := r
    exact RepL.cons (snap_rep R e1 r1) (snapL_rep R e2 r2)
end

/-! ### == -/
mutual
def toP : D → PyData
  | .non => .none
  | .bl b => .bool b
  | .int i => .int i
  | .str x => .str ⟨x.toArray⟩
  | .tup xs => .tuple (toPL xs)
  | .lst xs => .list (toPL xs)
  | .dct _ _ => .none
  | .ref _ => .none
  | .exn _ _ => .none
def toPL : List D → List PyData
  | [] => []
  | x :: r => toP x :: toPL r
end
theorem toPL_map : ∀ xs : List D, toPL xs = xs.map toP
  | [] => by simp [toPL]
  | x :: r => by simp [toPL, toPL_map r]
theorem tx_beq (x y : Tx) : ((⟨x.toArray⟩ : Str) == ⟨y.toArray⟩) = decide (x = y) := by
  rw [Bool.eq_iff_iff]
  simp
mutual
theorem eqv_toP : ∀ (a b : D) (n m : Nat), plain a n = true → plain b m = true → PyData.eqv (toP a) (toP b) = pyeq a b
  | .non, b, n, m, h, h' => by cases b <;> simp_all [toP, PyData.eqv, pyeq, plain]
  | .bl _, b, n, m, h, h' => by cases b <;> simp_all [toP, PyData.eqv, pyeq, plain] <;> rfl
  | .int _, b, n, m, h, h' => by cases b <;> simp_all [toP, PyData.eqv, pyeq, plain] <;> rfl
  | .str x, b, n, m, h, h' => by
    cases b <;> simp_all [toP, PyData.eqv, pyeq, plain]
    exact tx_beq _ _
  | .tup xs, b, 0, m, h, h' => by simp [plain] at h
  | .lst xs, b, 0, m, h, h' => by simp [plain] at h
  | .tup xs, b, n + 1, m, h, h' => by
    cases b with
    | tup ys =>
      cases m with
      | zero => simp [plain] at h'
      | succ m =>
        simp only [plain] at h h'
        simp only [toP, PyData.eqv, pyeq]
        exact eqv_toPL xs ys n m h h'
    | _ => simp_all [toP, PyData.eqv, pyeq, plain]
  | .lst xs, b, n + 1, m, h, h' => by
    cases b with
    | lst ys =>
      cases m with
      | zero => simp [plain] at h'
      | succ m =>
        simp only [plain] at h h'
        simp only [toP, PyData.eqv, pyeq]
        exact eqv_toPL xs ys n m h h'
    | _ => simp_all [toP, PyData.eqv, pyeq, plain]
  | .dct _ _, b, n, m, h, h' => by simp [plain] at h
  | .ref _, b, n, m, h, h' => by simp [plain] at h
  | .exn _ _, b, n, m, h, h' => by simp [plain] at h
theorem eqv_toPL : ∀ (a b : List D) (n m : Nat), plainL a n = true → plainL b m = true → PyData.eqvAll (toPL a) (toPL b) = pyeqL a b
  | [], [], n, m, h, h' => by simp [toPL, PyData.eqvAll, pyeqL]
  | [], y :: s, n, m, h, h' => by simp [toPL, PyData.eqvAll, pyeqL]
  | x :: r, [], n, m, h, h' => by simp [toPL, PyData.eqvAll, pyeqL]
  | x :: r, y :: s, n, m, h, h' => by
    simp only [plainL, Bool.and_eq_true] at h h'
    simp only [toPL, PyData.eqvAll, pyeqL, eqv_toP x y n m h.1 h'.1, eqv_toPL r s n m h.2 h'.2]
end
mutual
theorem lay_toP : ∀ (a : D) (n : Nat), plain a n = true → PyData.canLay0 (toP a) = true ∧ (toP a).depth ≤ n
  | .non, n, h => by simp [toP, PyData.canLay0, PyData.depth]
  | .bl _, n, h => by simp [toP, PyData.canLay0, PyData.depth]
  | .int _, n, h => by simp [toP, PyData.canLay0, PyData.depth]
  | .str x, n, h => by
    refine ⟨?_, by simp [toP, PyData.depth]⟩
    simp only [toP, PyData.canLay0]
    simp only [plain] at h
    unfold PyData.strOk
    rw [← Array.all_toList]
    exact h
  | .tup xs, 0, h => by simp [plain] at h
  | .lst xs, 0, h => by simp [plain] at h
  | .tup xs, n + 1, h => by
    simp only [plain] at h
    have := lay_toPL xs n h
    simp only [toP, PyData.canLay0, PyData.depth]
    exact ⟨this.1, by omega⟩
  | .lst xs, n + 1, h => by
    simp only [plain] at h
    have := lay_toPL xs n h
    simp only [toP, PyData.canLay0, PyData.depth]
    exact ⟨this.1, by omega⟩
  | .dct _ _, n, h => by simp [plain] at h
  | .ref _, n, h => by simp [plain] at h
  | .exn _ _, n, h => by simp [plain] at h
theorem lay_toPL : ∀ (a : List D) (n : Nat), plainL a n = true → PyData.canLayAll0 (toPL a) = true ∧ PyData.depthAll (toPL a) ≤ n
  | [], n, h => by simp [toPL, PyData.canLayAll0, PyData.depthAll]
  | x :: r, n, h => by
    simp only [plainL, Bool.and_eq_true] at h
    have h1 := lay_toP x n h.1
    have h2 := lay_toPL r n h.2
    simp only [toPL, PyData.canLayAll0, PyData.depthAll, Bool.and_eq_true]
    exact ⟨⟨h1.1, h2.1⟩, by omega⟩
end
theorem shaped_toP {a : D} (h : plain a 40 = true) : SeqAt.shaped (toP a) = true := by
  have := lay_toP a 40 h
  show (PyData.canLay0 (toP a) && decide ((toP a).depth ≤ 64)) = true
  rw [Bool.and_eq_true]
  exact ⟨this.1, decide_eq_true (by omega)⟩
theorem shaped_toPL {a : List D} (h : plainL a 40 = true) : SeqAt.shaped (.list (toPL a)) = true := by
  have := lay_toPL a 40 h
  show (PyData.canLay0 (.list (toPL a)) && decide ((PyData.list (toPL a)).depth ≤ 64)) = true
  rw [Bool.and_eq_true]
  simp only [PyData.canLay0, PyData.depth]
  exact ⟨this.1, decide_eq_true (by omega)⟩
theorem shaped_toPT {a : List D} (h : plainL a 40 = true) : SeqAt.shaped (.tuple (toPL a)) = true := by
  have := lay_toPL a 40 h
  show (PyData.canLay0 (.tuple (toPL a)) && decide ((PyData.tuple (toPL a)).depth ≤ 64)) = true
  rw [Bool.and_eq_true]
  simp only [PyData.canLay0, PyData.depth]
  exact ⟨this.1, decide_eq_true (by omega)⟩
mutual
theorem dp_of {P : Program} {w : World} {K : PySem.W.Frag} {H : Hp} : ∀ {a : D} {v : V} {n : Nat}, plain a n = true → RepV P w K H [] a v → Dp K H v (toP a)
  | .non, v, n, h, r => by
    simp only [RepV] at r
    subst r
    exact .non
  | .bl b, v, n, h, r => by
    simp only [RepV] at r
    subst r
    exact .bl b
  | .int b, v, n, h, r => by
    simp only [RepV] at r
    subst r
    exact .int b
  | .str b, v, n, h, r => by
    simp only [RepV] at r
    subst r
    exact .str _
  | .tup xs, v, 0, h, r => by simp [plain] at h
  | .lst xs, v, 0, h, r => by simp [plain] at h
  | .tup xs, v, n + 1, h, r => by
    simp only [plain] at h
    simp only [RepV] at r
    obtain ⟨a, vs, rfl, s, q⟩ := r
    exact .tup s (dpL_of h q)
  | .lst xs, v, n + 1, h, r => by
    simp only [plain] at h
    simp only [RepV] at r
    obtain ⟨a, vs, rfl, s, q⟩ := r
    exact .lst s (dpL_of h q)
  | .dct _ _, v, n, h, r => by simp [plain] at h
  | .ref _, v, n, h, r => by simp [plain] at h
  | .exn _ _, v, n, h, r => by simp [plain] at h
theorem dpL_of {P : Program} {w : World} {K : PySem.W.Frag} {H : Hp} : ∀ {a : List D} {v : List V} {n : Nat}, plainL a n = true → RepL P w K H [] a v → DpAll K H v (toPL a)
  | [], v, n, h, r => by
    simp only [RepL] at r
    subst r
    exact .nil
  | x :: t, v, n, h, r => by
    simp only [plainL, Bool.and_eq_true] at h
    simp only [RepL] at r
    obtain ⟨v1, s, rfl, r1, r2⟩ := r
    exact .cons (dp_of h.1 r1) (dpL_of h.2 r2)
end
theorem flat_eqV {P : Program} {w : World} {K : PySem.W.Frag} {Z : Hp} {β : List Addr} {a b : D} {x y : V} (fa : flat a = true) (fb : flat b = true) (ra : RepV P w K Z β a x) (rb : RepV P w K Z β b y) : flatV x = true ∧ eqV x y = pyeq a b := by
  cases a <;> simp [flat] at fa <;> cases b <;> simp [flat] at fb <;> simp only [RepV] at ra rb <;> subst ra rb <;> refine ⟨rfl, ?_⟩ <;> simp [eqV, pyeq] <;> first | rfl | exact tx_beq _ _
end VI

/-! VIb3: the operators by values. -/
namespace VI
open PySem PySem.Spec PyProof.Rows L2
/-- what is wanted of the datum d and the store U' -/
def Done (P : Program) (w : World) (K : PySem.W.Frag) (mg : Str → Option Value) (Φ : List (Addr × HO)) (Z : Hp) (β : List Addr) (d : D) (U' : Store) (Q : VK) : Prop :=
  ∀ (Z' : Hp) (β' : List Addr) (H' : Hp) (v : V), ZLe Z Z' → BLe β β' → Rel P w K mg Φ Z' β' U' H' → RepV P w K Z' β' d v → Q v H'
section
variable {P : Program} {w : World} {K : PySem.W.Frag} {mg : Str → Option Value} {Φ : List (Addr × HO)} {Z Z' : Hp} {β β' : List Addr} {U U' : Store} {H : Hp} {d : D} {Q : VK}
theorem Done.mono (h : Done P w K mg Φ Z β d U' Q) (z : ZLe Z Z') (b : BLe β β') : Done P w K mg Φ Z' β' d U' Q := fun Z2 β2 H2 v z2 b2 R r => h Z2 β2 H2 v (z.trans z2) (b.trans b2) R r
theorem Done.same {v : V} (h : Done P w K mg Φ Z β d U Q) (R : Rel P w K mg Φ Z β U H) (r : RepV P w K Z β d v) : Q v H := h Z β H v (ZLe.refl Z) (BLe.refl β) R r
theorem Done.scal {v : V} (h : Done P w K mg Φ Z β d U Q) (R : Rel P w K mg Φ Z β U H) (r : RepV P w K Z β d v) : Q v H := h.same R r
theorem Done.int {i : Int} (h : Done P w K mg Φ Z β (.int i) U Q) (R : Rel P w K mg Φ Z β U H) : Q (.int i) H := h.same R (by simp only [RepV])
theorem Done.bl {i : Bool} (h : Done P w K mg Φ Z β (.bl i) U Q) (R : Rel P w K mg Φ Z β U H) : Q (.bl i) H := h.same R (by simp only [RepV])
theorem Done.non (h : Done P w K mg Φ Z β .non U Q) (R : Rel P w K mg Φ Z β U H) : Q .non H := h.same R (by simp only [RepV])
theorem Done.str {x : Tx} (h : Done P w K mg Φ Z β (.str x) U Q) (R : Rel P w K mg Φ Z β U H) : Q (.str ⟨x.toArray⟩) H := h.same R (by simp only [RepV])
theorem Done.lst {m : Bool} {xs : List D} {vs : List V} (h : Done P w K mg Φ Z β d U' Q) (R : Rel P w K mg Φ Z β U H) (e : mkL m xs U = some (.ok d U')) (r : RepL P w K Z β xs vs) {p : Addr} (hp : H p = none) : Q (.ref p) (L2.upd H p (.lst vs)) := by
  obtain ⟨Z', β', z, b, R', r'⟩ := R.mkL e r hp
  exact h Z' β' _ _ z b R' r'
theorem Done.tup {xs : List D} {vs : List V} (h : Done P w K mg Φ Z β (.tup xs) U Q) (R : Rel P w K mg Φ Z β U H) (r : RepL P w K Z β xs vs) {p : Addr} (hp : H p = none) : Q (.ref p) (L2.upd H p (.tup vs)) := by
  obtain ⟨Z', z, R', r'⟩ := R.mkT r hp
  exact h Z' β _ _ z (BLe.refl β) R' r'
end
/-- a two-place operation of VIa's, by values -/
def r2 (P : Program) (w : World) (K : PySem.W.Frag) (mg : Str → Option Value) (f : D → D → M D) : R2 := fun x y H Q => ∃ Φ Z β U a b d U', Rel P w K mg Φ Z β U H ∧ RepV P w K Z β a x ∧ RepV P w K Z β b y ∧ f a b U = some (.ok d U') ∧ Done P w K mg Φ Z β d U' Q
theorem OpR.imp {X : Cx} {f : Value → Value → Sem Value} {r r' : R2} (h : OpR X f r) (i : ∀ x y H Q, r' x y H Q → r x y H Q) : OpR X f r' := fun pins s σ H x y v u Q I rx ry q => h pins s σ H x y v u Q I rx ry (i x y H Q q)
theorem CallR.imp {X : Cx} {f : Value} {r r' : List V → Hp → VK → Prop} (h : CallR X f r) (i : ∀ xs H Q, r' xs H Q → r xs H Q) : CallR X f r' := fun pins s σ H xs us Q I rx q => h pins s σ H xs us Q I rx (i xs H Q q)
theorem MtR.imp {X : Cx} {id : String} {r r' : V → List V → Hp → VK → Prop} (h : MtR X id r) (i : ∀ x xs H Q, r' x xs H Q → r x xs H Q) : MtR X id r' := fun pins s σ H x xs v us Q I rx rxs q => h pins s σ H x xs v us Q I rx rxs (i x xs H Q q)
theorem bits_eq (i : Int) : Builtin.Int.intBits i = bits i := by
  unfold Builtin.Int.intBits bits
  by_cases h : i = 0
  · subst h
    rfl
  · rw [if_neg (by simpa using h), if_neg h]
theorem mulOk_ok {i j : Int} (h : mulOk i j = true) : IntMulOk i j := by
  unfold mulOk at h
  simp only [Bool.or_eq_true, decide_eq_true_eq] at h
  rw [← bits_eq, ← bits_eq] at h
  have e : bitsLine = 134217728 := by decide
  rcases h with (h | h) | h
  · exact .of_left h
  · exact .of_right h
  · unfold IntMulOk
    intro z
    rw [Bool.and_eq_true] at z
    have z2 := z.2
    unfold Builtin.Int.intTooBig at z2
    have z3 := of_decide_eq_true z2
    rw [e] at z3
    omega
section
variable {X : Cx}
/-- xs + ys, lists of any kind -/
def rCatL (K : PySem.W.Frag) : R2 := fun x y H Q => ∃ l b xs zs, x = .ref l ∧ y = .ref b ∧ SqL K H l xs ∧ SqL K H b zs ∧ xs.length + zs.length ≤ sizeLine ∧ ∀ p, H p = none → Q (.ref p) (L2.upd H p (.lst (xs ++ zs)))
theorem op_catL : OpR X (binaryOp .Add) (rCatL X.K) := by
  intro pins s σ H x y v u Q I rx ry h
  obtain ⟨l, b, xs, zs, rfl, rfl, hH, hB, hz, q⟩ := h
  cases rx
  cases ry
  obtain ⟨its, r, ⟨⟨cls, dd, data, sl⟩, n, ho, hc, hdd, hd⟩, hl⟩ := I.list hH
  obtain ⟨its2, r2, ⟨⟨cls2, dd2, data2, sl2⟩, n2, ho2, hc2, hdd2, hd2⟩, hl2⟩ := I.list hB
  simp only at hc hd hc2 hd2
  subst hc hd hc2 hd2
  have e1 := r.length
  have e2 := r2.length
  refine concat_meets ⟨_, ho, rfl⟩ ⟨_, ho2, rfl⟩ noFill_list_add seq_list_add PySem.F.slot_list_add PySem.F.entry_list_add (PySem.F.args_list_add_2 _ _) (list_addW l b its.toArray its2.toArray n n2 dd dd2 sl sl2 (by rw [List.size_toArray, List.size_toArray]; omega)) ⟨ho, ho2, ?_⟩
  have ea : its.toArray ++ its2.toArray = (its ++ its2).toArray := by simp
  rw [ea]
  exact ⟨.ref _, _, I.lnew (t' := s.toks) (r.append r2) (by rw [List.length_append]; omega), rfl, q _ I.fresh⟩
theorem repl_foldl (x : Tx) (n : Nat) : ((List.replicate n x.toArray).foldl (· ++ ·) #[]) = (List.replicate n x).flatten.toArray := by
  have h : ∀ (n : Nat) (acc : Array Nat), (List.replicate n x.toArray).foldl (· ++ ·) acc = acc ++ (List.replicate n x).flatten.toArray := by
    intro n
    induction n with
    | zero => intro acc; simp
    | succ n ih =>
      intro acc
      rw [List.replicate_succ, List.foldl_cons, ih, List.replicate_succ, List.flatten_cons]
      simp
  rw [h]
  simp
theorem sum_repl (n k : Nat) : (List.replicate n k).sum = n * k := by
  induction n with
  | zero => simp
  | succ n ih => rw [List.replicate_succ, List.sum_cons, ih, Nat.succ_mul, Nat.add_comm]
/-- text * int -/
theorem op_mulS : OpR X (binaryOp .Mult) (fun x y H Q => ∃ (z : Tx) (k : Int), x = .str ⟨z.toArray⟩ ∧ y = .int k ∧ -1000000 ≤ k ∧ k ≤ 1000000 ∧ z.length * k.toNat ≤ sizeLine ∧ Q (.str ⟨(List.replicate k.toNat z).flatten.toArray⟩) H) := by
  intro pins s σ H x y v u Q I rx ry h
  obtain ⟨z, k, rfl, rfl, h1, h2, hz, q⟩ := h
  obtain ⟨t, rfl⟩ := rx
  obtain ⟨t', rfl⟩ := ry
  have e : (⟨z.toArray⟩ : Str).length = z.length := by simp [Str.length]
  refine PySem.P.mul_str (by simp; omega) (fun h1 h2 => ?_) (fun h1 h2 => ?_) ?_
  · rw [e]
    have a : (z.length : Int) ≤ 16777216 := by
      have b : z.length * 1 ≤ z.length * k.toNat := Nat.mul_le_mul_left _ (by omega)
      rw [sizeLine_eq] at hz
      omega
    have b : (16777216 : Int) ≤ (2 ^ 63 - 1) / k := by
      rw [Int.le_ediv_iff_mul_le (by omega)]
      omega
    omega
  · rw [e]
    unfold Builtin.Str.tooLong
    simp only [decide_eq_false_iff_not]
    omega
  · by_cases hk : k < 1
    · rw [if_pos hk]
      refine ⟨by decide, ?_⟩
      have ek : k.toNat = 0 := by omega
      rw [ek] at q
      exact ⟨.str Str.empty, H, I.tok _, ⟨_, rfl⟩, by simpa [Str.empty] using q⟩
    · rw [if_neg hk]
      by_cases hq : (k == 1 || (⟨z.toArray⟩ : Str).length == 0) = true
      · rw [if_pos hq]
        have eq : (List.replicate k.toNat z).flatten = z := by
          rw [e] at hq
          simp only [Bool.or_eq_true, beq_iff_eq] at hq
          rcases hq with hq | hq
          · subst hq
            simp
          · have : z = [] := List.length_eq_zero_iff.mp hq
            subst this
            simp
        rw [eq] at q
        exact ⟨.str ⟨z.toArray⟩, H, I, ⟨_, rfl⟩, q⟩
      · rw [if_neg hq]
        refine ⟨?_, ?_⟩
        · rw [repl_foldl]
          unfold Str.length
          simp only [List.size_toArray, List.length_flatten, List.map_replicate]
          rw [sum_repl, Nat.mul_comm]
          exact hz
        · rw [repl_foldl]
          exact ⟨.str _, H, I.tok _, ⟨_, rfl⟩, q⟩

theorem str_app (x y : Tx) : ((⟨x.toArray⟩ : Str) ++ (⟨y.toArray⟩ : Str)) = (⟨(x ++ y).toArray⟩ : Str) := by
  show (⟨x.toArray ++ y.toArray⟩ : Str) = _
  simp
theorem str_len (x : Tx) : (⟨x.toArray⟩ : Str).length = x.length := by simp [Str.length]
theorem ok_inj {α : Type} {a b : α} {U V : Store} (h : (some (VI.R.ok a U) : Option (VI.R α)) = some (VI.R.ok b V)) : a = b ∧ U = V := by
  simpa using h
theorem asL_not {U : Store} {d : D} {xs : List D} (h : asL U d = some xs) : (∃ ys, d = .lst ys) ∨ ∃ n, d = .ref n := by
  cases d <;> simp [asL] at h
  · exact .inl ⟨_, rfl⟩
  · exact .inr ⟨_, rfl⟩
theorem add_lists {m : Bool} {P : Program} {w : World} {K : PySem.W.Frag} {mg : Str → Option Value} {Φ : List (Addr × HO)} {Z : Hp} {β : List Addr} {U U' : Store} {H : Hp} {a b d : D} {x y : V} {Q : VK} (R : Rel P w K mg Φ Z β U H) (ra : RepV P w K Z β a x) (rb : RepV P w K Z β b y)
    (e : (match asL U a, asL U b with
    | some xs, some ys => if xs.length + ys.length ≤ SZ then mkL m (xs ++ ys) U else none
    | _, _ => none) = some (.ok d U')) (dn : Done P w K mg Φ Z β d U' Q) : rCatL K x y H Q := by
  split at e
  · rename_i xs ys h1 h2
    split at e
    · rename_i hz
      obtain ⟨l, vs, rfl, s1, q1⟩ := R.list h1 ra
      obtain ⟨b', ws, rfl, s2, q2⟩ := R.list h2 rb
      refine ⟨l, b', vs, ws, rfl, rfl, s1, s2, ?_, fun p hp => ?_⟩
      · rw [← q1.length, ← q2.length, ← SZ_eq]
        exact hz
      · exact dn.lst R e (q1.append q2) hp
    · cases e
  · cases e
theorem or_add (m : Bool) : OpR X (binaryOp .Add) (r2 X.prog X.w X.K X.mg (binop .add m)) := by
  refine OpR.imp (op_add.or (op_add_str.or (op_catA.or op_catL))) ?_
  rintro x y H Q ⟨Φ, Z, β, U, a, b, d, U', R, ra, rb, e, dn⟩
  change addOp m a b U = some (.ok d U') at e
  unfold addOp at e
  split at e
  · obtain ⟨rfl, rfl⟩ := ok_inj e
    simp only [RepV] at ra rb
    exact .inl ⟨_, _, ra, rb, dn.int R⟩
  · split at e
    · obtain ⟨rfl, rfl⟩ := ok_inj e
      simp only [RepV] at ra rb
      refine .inr (.inl ⟨_, _, ra, rb, by rw [str_len, str_len, ← SZ_eq]; assumption, ?_⟩)
      rw [str_app]
      exact dn.str R
    · cases e
  · split at e
    · obtain ⟨rfl, rfl⟩ := ok_inj e
      rename_i hz
      obtain ⟨t1, vs, rfl, s1, q1⟩ := R.tuple ra
      obtain ⟨t2, ws, rfl, s2, q2⟩ := R.tuple rb
      refine .inr (.inr (.inl ⟨t1, t2, vs, ws, rfl, rfl, s1, s2, ?_, fun h0 => ?_, fun h1 h0 => ?_, fun h1 h0 p hp => ?_⟩))
      · rw [← q1.length, ← q2.length, ← SZ_eq]
        exact hz
      · have := q1.length
        rw [h0] at this
        have e0 := List.length_eq_zero_iff.mp (this.trans rfl)
        subst e0
        exact dn.same R rb
      · have := q2.length
        rw [h0] at this
        have e0 := List.length_eq_zero_iff.mp (this.trans rfl)
        subst e0
        rw [List.append_nil] at dn
        exact dn.same R ra
      · exact dn.tup R (q1.append q2) hp
    · cases e
  · exact .inr (.inr (.inr (add_lists R ra rb e dn)))
theorem or_sub (m : Bool) : OpR X (binaryOp .Sub) (r2 X.prog X.w X.K X.mg (binop .sub m)) := by
  refine OpR.imp op_sub ?_
  rintro x y H Q ⟨Φ, Z, β, U, a, b, d, U', R, ra, rb, e, dn⟩
  simp only [binop] at e
  split at e
  · obtain ⟨rfl, rfl⟩ := ok_inj e
    simp only [RepV] at ra rb
    exact ⟨_, _, ra, rb, dn.int R⟩
  · cases e
theorem op_mulB : OpR X (binaryOp .Mult) (rI (fun i j => mulOk i j = true) fun i j => .int (i * j)) := opI fun _ _ _ _ _ _ _ hc q => mul_int q (mulOk_ok hc)
/-- xs * k -/
def rRepL (K : PySem.W.Frag) : R2 := fun x y H Q => ∃ l k xs, x = .ref l ∧ y = .int k ∧ H l = some (.lst xs) ∧ -(2 ^ 63) ≤ k ∧ k < 2 ^ 63 ∧ xs.length * k.toNat ≤ sizeLine ∧
  ∀ p, H p = none → Q (.ref p) (L2.upd H p (.lst (List.replicate k.toNat xs).flatten))
theorem RepL.repl {P : Program} {w : World} {K : PySem.W.Frag} {Z : Hp} {β : List Addr} {xs : List D} {vs : List V} (h : RepL P w K Z β xs vs) : ∀ n, RepL P w K Z β (List.replicate n xs).flatten (List.replicate n vs).flatten
  | 0 => by simpa using RepL.nil
  | n + 1 => by
    rw [List.replicate_succ, List.flatten_cons, List.replicate_succ, List.flatten_cons]
    exact h.append (RepL.repl h n)
theorem or_mul (m : Bool) : OpR X (binaryOp .Mult) (r2 X.prog X.w X.K X.mg (fun a b U => match a, b with | .int i, .int j => mulOp m (.int i) (.int j) U | .str x, .int k => mulOp m (.str x) (.int k) U | _, _ => none)) := by
  refine OpR.imp (op_mulB.or op_mulS) ?_
  rintro x y H Q ⟨Φ, Z, β, U, a, b, d, U', R, ra, rb, e, dn⟩
  simp only at e
  split at e
  · simp only [mulOp] at e
    split at e
    · obtain ⟨rfl, rfl⟩ := ok_inj e
      simp only [RepV] at ra rb
      exact .inl ⟨_, _, ra, rb, by assumption, dn.int R⟩
    · cases e
  · simp only [mulOp] at e
    split at e
    · obtain ⟨rfl, rfl⟩ := ok_inj e
      rename_i hz
      simp only [RepV] at ra rb
      exact .inr ⟨_, _, ra, rb, hz.1, hz.2.1, by rw [← SZ_eq]; exact hz.2.2, dn.str R⟩
    · cases e
  · cases e
theorem or_fdiv (m : Bool) : OpR X (binaryOp .FloorDiv) (r2 X.prog X.w X.K X.mg (binop .fdiv m)) := by
  refine OpR.imp op_fdivW ?_
  rintro x y H Q ⟨Φ, Z, β, U, a, b, d, U', R, ra, rb, e, dn⟩
  simp only [binop] at e
  split at e
  · split at e
    · obtain ⟨rfl, rfl⟩ := ok_inj e
      rename_i hd
      simp only [divOk, Bool.and_eq_true, decide_eq_true_eq] at hd
      simp only [RepV] at ra rb
      exact ⟨_, _, ra, rb, hd, dn.int R⟩
    · cases e
  · cases e
theorem or_mod (m : Bool) : OpR X (binaryOp .Mod) (r2 X.prog X.w X.K X.mg (binop .mod m)) := by
  refine OpR.imp op_mod ?_
  rintro x y H Q ⟨Φ, Z, β, U, a, b, d, U', R, ra, rb, e, dn⟩
  simp only [binop] at e
  split at e
  · split at e
    · obtain ⟨rfl, rfl⟩ := ok_inj e
      simp only [RepV] at ra rb
      exact ⟨_, _, ra, rb, by assumption, dn.int R⟩
    · cases e
  · cases e
theorem or_pow (m : Bool) : OpR X (binaryOp .Pow) (r2 X.prog X.w X.K X.mg (binop .pow m)) := by
  refine OpR.imp op_pow ?_
  rintro x y H Q ⟨Φ, Z, β, U, a, b, d, U', R, ra, rb, e, dn⟩
  simp only [binop] at e
  split at e
  · split at e
    · obtain ⟨rfl, rfl⟩ := ok_inj e
      rename_i hz
      simp only [RepV] at ra rb
      refine ⟨_, _, ra, rb, ⟨hz.1, by omega, ?_⟩, dn.int R⟩
      have : (2 : Nat) ^ 64 = 18446744073709551616 := by decide
      omega
    · cases e
  · cases e
/-! ### comparisons -/
/-- a comparison of VIa's -/
def rc (P : Program) (w : World) (K : PySem.W.Frag) (mg : Str → Option Value) (op : COp) : R2 := fun x y H Q => ∃ Φ Z β U a b k, Rel P w K mg Φ Z β U H ∧ RepV P w K Z β a x ∧ RepV P w K Z β b y ∧ cmpop op U a b = some k ∧ Q (.bl k) H
theorem tx_eq (x y : Tx) : decide ((⟨x.toArray⟩ : Str) = ⟨y.toArray⟩) = decide (x = y) := by
  rw [Bool.eq_iff_iff]
  simp
theorem scal_rep {P : Program} {w : World} {K : PySem.W.Frag} {Z : Hp} {β : List Addr} {a b : D} {x y : V} (h : scalS a b = true) (ra : RepV P w K Z β a x) (rb : RepV P w K Z β b y) : scal x y = true ∧ decide (x = y) = pyeq a b := by
  cases a <;> cases b <;> simp [scalS] at h <;> simp only [RepV] at ra rb <;> subst ra rb <;> refine ⟨rfl, ?_⟩ <;> simp [pyeq]
theorem eqv_rep {P : Program} {w : World} {K : PySem.W.Frag} {mg : Str → Option Value} {Φ : List (Addr × HO)} {Z : Hp} {β : List Addr} {U : Store} {H : Hp} {a b : D} {x y : V} {k : Bool} (R : Rel P w K mg Φ Z β U H) (ra : RepV P w K Z β a x) (rb : RepV P w K Z β b y) (e : eqv U a b = some k) :
    (scal x y = true ∧ decide (x = y) = k) ∨ ∃ d e, Dp K H x d ∧ Dp K H y e ∧ SeqAt.shaped d = true ∧ SeqAt.shaped e = true ∧ PyData.eqv d e = k := by
  unfold eqv at e
  split at e
  · rename_i hs
    cases e
    exact .inl (scal_rep hs ra rb)
  · split at e
    · rename_i x' y' h1 h2
      split at e
      · rename_i hp
        simp only [Bool.and_eq_true] at hp
        cases e
        exact .inr ⟨_, _, dp_of hp.1 (snap_rep R h1 ra), dp_of hp.2 (snap_rep R h2 rb), shaped_toP hp.1, shaped_toP hp.2, eqv_toP _ _ 40 40 hp.1 hp.2⟩
      · cases e
    · cases e
theorem or_eq (hu : X.A.units + 64 < cLine) : OpR X (compareOp .Eq) (rc X.prog X.w X.K X.mg .eq) := by
  refine OpR.imp (op_eq.or (op_eqD hu)) ?_
  rintro x y H Q ⟨Φ, Z, β, U, a, b, k, R, ra, rb, e, q⟩
  rcases eqv_rep R ra rb e with ⟨h1, h2⟩ | ⟨d, e, h1, h2, h3, h4, h5⟩
  · exact .inl ⟨h1, by rw [h2]; exact q⟩
  · exact .inr ⟨d, e, h1, h2, h3, h4, by rw [h5]; exact q⟩
theorem or_ne (hu : X.A.units + 64 < cLine) : OpR X (compareOp .NotEq) (rc X.prog X.w X.K X.mg .ne) := by
  refine OpR.imp (op_ne.or (op_neD hu)) ?_
  rintro x y H Q ⟨Φ, Z, β, U, a, b, k, R, ra, rb, e, q⟩
  simp only [cmpop, Option.map_eq_some_iff] at e
  obtain ⟨k, e, rfl⟩ := e
  rcases eqv_rep R ra rb e with ⟨h1, h2⟩ | ⟨d, e, h1, h2, h3, h4, h5⟩
  · exact .inl ⟨h1, by rw [h2]; exact q⟩
  · exact .inr ⟨d, e, h1, h2, h3, h4, by rw [h5]; exact q⟩
end
end VI

/-! VIb4: dicts; in, is, order; truth, items, slices, by values. -/
namespace VI
open PySem PySem.Spec PyProof.Rows L2
/-! ### dicts -/
theorem kV_of {k : D} {kk : Key} {Z : Hp} {β : List Addr} {P : Program} {w : World} {K : PySem.W.Frag} {v : V} (h : keyD k = some kk) (r : RepV P w K Z β k v) : v = kV kk := by
  cases k <;> simp [keyD] at h <;> subst h <;> simp only [RepV] at r <;> exact r
theorem look_K {P : Program} {w : World} {K : PySem.W.Frag} {Z : Hp} {β : List Addr} {k : D} {kk : Key} (h : keyD k = some kk) : ∀ {kvs : List (D × D)} {l : List (Key × V)}, RepK P w K Z β kvs l →
    (lookD kvs k = none ∧ valV l kk = none) ∨ ∃ x v, lookD kvs k = some x ∧ valV l kk = some v ∧ RepV P w K Z β x v
  | [], l, r => by
    simp only [RepK] at r
    subst r
    exact .inl ⟨rfl, rfl⟩
  | (j, x) :: t, l, r => by
    simp only [RepK] at r
    obtain ⟨jj, v, s, rfl, r0, r1, r2⟩ := r
    by_cases e : j = k
    · subst e
      have : jj = kk := by
        rw [h] at r0
        exact (Option.some.inj r0).symm
      subst this
      exact .inr ⟨x, v, by simp [lookD], valV_pos rfl, r1⟩
    · have : ¬ jj = kk := fun q => e (keyD_inj (q ▸ r0) h)
      rw [valV_neg (p := (jj, v)) this]
      simp only [lookD, if_neg e]
      exact look_K h r2
theorem atKey_pos {k : NestedKey} {b : Addr} {u : Value} {r : List (NestedKey × Addr × Value)} : atKey ((k, b, u) :: r) k = some (b, u) := by simp [atKey]
theorem atKey_neg {j k : NestedKey} {b : Addr} {u : Value} {r : List (NestedKey × Addr × Value)} (h : ¬ j = k) : atKey ((j, b, u) :: r) k = atKey r k := by simp [atKey, List.find?_cons, h]
theorem look_T {P : Program} {w : World} {K : PySem.W.Frag} {Z : Hp} {β : List Addr} {k : D} (h : keyFor 1 k = true) : ∀ {kvs : List (D × D)} {l : List (NestedKey × Addr × Value)}, RepT P w K Z β kvs l →
    (lookD kvs k = none ∧ atKey l (nk k) = none) ∨ ∃ x v b u, lookD kvs k = some x ∧ atKey l (nk k) = some (b, u) ∧ RelV v u ∧ RepV P w K Z β x v
  | [], l, r => by
    simp only [RepT] at r
    subst r
    exact .inl ⟨rfl, rfl⟩
  | (j, x) :: t, l, r => by
    simp only [RepT] at r
    obtain ⟨b, u, v, s, rfl, hk, rk, ru, r1, r2⟩ := r
    by_cases e : j = k
    · subst e
      exact .inr ⟨x, v, b, u, by simp [lookD], atKey_pos, ru, r1⟩
    · rw [atKey_neg (fun q => e (nk_inj hk h q))]
      simp only [lookD, if_neg e]
      exact look_T h r2
section
variable {X : Cx} {pins : List (Addr × Obj)} {σ : L2.St} {Z : Hp} {β : List Addr} {U : Store} {H : Hp} {s : Shared} {mg : Str → Option Value} {Φ : List (Addr × HO)}
theorem flat_nested {k : D} {v : V} {u : Value} {h : Heap} (hf : flatK k = true) (r : RepV X.prog X.w X.K Z β k v) (ru : RelV v u) : NestedIs h (nk k) u := by
  cases k <;> simp [flatK] at hf <;> simp only [RepV] at r <;> subst r
  · obtain ⟨t, rfl⟩ := ru
    simp only [nk]
    exact .int _ _
  · obtain ⟨t, rfl⟩ := ru
    simp only [nk]
    exact .text _ _
theorem flats_nested {h : Heap} : ∀ {ks : List D} {vs : List V} {us : List Value}, ks.all flatK = true → RepL X.prog X.w X.K Z β ks vs → Vals vs us → NestedAll h (nkL ks) us
  | [], vs, us, _, r, rv => by
    simp only [RepL] at r
    subst r
    cases rv
    simp only [nkL]
    exact .nil
  | x :: t, vs, us, hf, r, rv => by
    simp only [RepL] at r
    obtain ⟨v, s', rfl, r1, r2⟩ := r
    simp only [List.all_cons, Bool.and_eq_true] at hf
    cases rv with
    | cons q1 q2 =>
      simp only [nkL]
      exact .cons (flat_nested hf.1 r1 q1) (flats_nested hf.2 r2 q2)
theorem tup_nested (R : Rel X.prog X.w X.K mg Φ Z β U H) (I : Inv X pins σ H s) {k : D} {v : V} {u : Value} (hk : tupK k = true) (r : RepV X.prog X.w X.K Z β k v) (ru : RelV v u) : NestedIs s.heap (nk k) u := by
  obtain ⟨ks, rfl, hf⟩ := tupK_shape hk
  simp only [RepV] at r
  obtain ⟨a, vs, rfl, st, q⟩ := r
  cases ru
  obtain ⟨its, rv, ⟨o, ho, hc, n, hd⟩, _⟩ := I.tuple (SqT.le R.zle st)
  simp only [nk]
  exact .tup ho hc hd (flats_nested hf q (by simpa using rv))
theorem key_nested (R : Rel X.prog X.w X.K mg Φ Z β U H) (I : Inv X pins σ H s) {k : D} {v : V} {u : Value} (hk : keyFor 1 k = true) (r : RepV X.prog X.w X.K Z β k v) (ru : RelV v u) : NestedIs s.heap (nk k) u := by
  simp only [keyFor, Bool.or_eq_true] at hk
  rcases hk with hk | hk
  · exact tup_nested R I hk r ru
  · obtain ⟨x, y, rfl, h1, h2⟩ := pairK_shape hk
    simp only [RepV, RepL] at r
    obtain ⟨a, vs, rfl, st, v1, s1, rfl, r1, v2, s2, rfl, r2, rfl⟩ := r
    cases ru
    obtain ⟨its, rv, ⟨o, ho, hc, n, hd⟩, _⟩ := I.tuple (SqT.le R.zle st)
    cases rv with
    | cons q1 q2 =>
      cases q2 with
      | cons q2 q3 =>
        cases q3
        simp only [nk, nkL]
        exact .tup ho hc hd (by simpa using NestedAll.cons (tup_nested R I h1 (by simpa only [RepV] using r1) q1) (.cons (tup_nested R I h2 (by simpa only [RepV] using r2) q2) .nil))
theorem key_is (R : Rel X.prog X.w X.K mg Φ Z β U H) (I : Inv X pins σ H s) {k : D} {b : Addr} (hk : keyFor 1 k = true) (r : RepV X.prog X.w X.K Z β k (.ref b)) : (nestedKind X.prog X.w).is s.heap (nk k) b :=
  ⟨key_nested R I hk r rfl, key1_depth hk⟩
theorem key1_ref {k : D} {v : V} (hk : keyFor 1 k = true) (r : RepV X.prog X.w X.K Z β k v) : ∃ b, v = .ref b := by
  simp only [keyFor, Bool.or_eq_true] at hk
  rcases hk with hk | hk
  · obtain ⟨ks, rfl, _⟩ := tupK_shape hk
    simp only [RepV] at r
    obtain ⟨a, vs, rfl, _⟩ := r
    exact ⟨a, rfl⟩
  · obtain ⟨x, y, rfl, h1, h2⟩ := pairK_shape hk
    simp only [RepV] at r
    obtain ⟨a, vs, rfl, _⟩ := r
    exact ⟨a, rfl⟩
theorem keys_are (R : Rel X.prog X.w X.K mg Φ Z β U H) (I : Inv X pins σ H s) : ∀ {kvs : List (D × D)} {l : List (NestedKey × Addr × Value)}, RepT X.prog X.w X.K Z β kvs l → ∀ x ∈ l, (nestedKind X.prog X.w).is s.heap x.1 x.2.1
  | [], l, r => by
    simp only [RepT] at r
    subst r
    intro x hx
    cases hx
  | (j, x) :: t, l, r => by
    simp only [RepT] at r
    obtain ⟨b, u, v, s', rfl, hk, rk, ru, r1, r2⟩ := r
    intro y hy
    rcases List.mem_cons.mp hy with q | hy
    · subst q
      exact key_is R I hk rk
    · exact keys_are R I r2 y hy
theorem dn_heap (R : Rel X.prog X.w X.K mg Φ Z β U H) (I : Inv X pins σ H s) {a : Addr} {l : List (NestedKey × Addr × Value)} {kvs : List (D × D)} (e : Rd H a (dN X.prog X.w a l)) (nd : (l.map (·.1)).Nodup) (r : RepT X.prog X.w X.K Z β kvs l) :
    (a == sysModules) = false ∧ l.length ≤ sizeLine ∧ s.heap.DictOfH (nestedKind X.prog X.w) a l := by
  have q : ObjOk X.prog X.w H s.heap a (dN X.prog X.w a l) := by
    rcases e with e | ⟨o, e⟩
    · exact I.hok a _ e
    · exact (I.hok a _ e).2
  obtain ⟨⟨h1, h2, o, es, ep, ho, hx, hd, he⟩, _, _⟩ := q
  exact ⟨h1, h2, o, es, ep, ho, hx, hd, he, keys_are R I r, nd⟩
theorem nroom {A : Around} (hu : A.units + 64 < cLine) : (nestedKind X.prog X.w).room A.in1 := by
  show A.units + 1 + 8 < cLine
  omega
/-- a dict, frozen or in the store -/
theorem Rel.dict {P : Program} {w : World} {K : PySem.W.Frag} (R : Rel P w K mg Φ Z β U H) {d : D} {t : Nat} {kvs : List (D × D)} {v : V} (h : asD U d = some (t, kvs)) (r : RepV P w K Z β d v) :
    ∃ a, v = .ref a ∧ ((t = 0 ∧ ∃ l, H a = some (.dK l) ∧ RepK P w K Z β kvs l) ∨ (t = 1 ∧ ∃ l, Rd H a (dN P w a l) ∧ (l.map (·.1)).Nodup ∧ RepT P w K Z β kvs l)) := by
  cases d <;> simp only [asD, reduceCtorEq] at h
  · cases h
    simp only [RepV] at r
    obtain ⟨a, e, q⟩ := r
    refine ⟨a, e, ?_⟩
    rcases q with ⟨h0, l, h1, h2⟩ | ⟨h0, l, h1, h2⟩
    · exact .inl ⟨h0, l, R.zle _ _ h1, h2⟩
    · exact .inr ⟨h0, l, Rd.le R.zle h1, h2⟩
  · simp only [RepV] at r
    obtain ⟨a, e, hb⟩ := r
    split at h <;> simp only [Option.some.injEq, reduceCtorEq, Prod.mk.injEq] at h
    obtain ⟨rfl, rfl⟩ := h
    rename_i hu
    refine ⟨a, e, ?_⟩
    rcases R.obj _ _ _ hu hb with q | ⟨h0, l, h1, h2⟩
    · exact .inl q
    · exact .inr ⟨h0, l, .inl h1, h2⟩
variable {A : Around} {E : Value → Shared → Prop} {d k : D} {t : Nat} {kvs : List (D × D)} {v y : V} {u r : Value}
theorem vd_in {Q : Value → Shared → Prop} (hu : A.units + 64 < cLine) (R : Rel X.prog X.w X.K mg Φ Z β U H) (I : Inv X pins σ H s) (h : asD U d = some (t, kvs)) (hk : keyFor t k = true) (rd : RepV X.prog X.w X.K Z β d v) (rk : RepV X.prog X.w X.K Z β k y)
    (rv : RelV v r) (ry : RelV y u) (q : ∀ s', Inv X pins σ H s' → Q (.bool (lookD kvs k).isSome) s') : wpAny (model X.prog X.w) A (compareOp .In u r) Q E s := by
  obtain ⟨a, rfl, h⟩ := R.dict h rd
  cases rv
  rcases h with ⟨rfl, l, e, q1⟩ | ⟨rfl, l, e, nd, q1⟩
  · obtain ⟨kk, hkk⟩ := keyD_of_flat (d := k) (by simpa [keyFor] using hk)
    have := kV_of hkk rk
    subst this
    refine d_in (by omega) I (DGet.k e) ry fun s' I' => ?_
    rcases look_K hkk q1 with ⟨h1, h2⟩ | ⟨x, v, h1, h2, _⟩
    · rw [h2]; rw [h1] at q; exact q s' I'
    · rw [h2]; rw [h1] at q; exact q s' I'
  · obtain ⟨b, rfl⟩ := key1_ref hk rk
    cases ry
    obtain ⟨hs, hl, dd⟩ := dn_heap R I e nd q1
    refine wpAny_in_heap (nroom hu) (key_is R I hk rk) hs dd ?_
    rcases look_T hk q1 with ⟨h1, h2⟩ | ⟨x, v, b', u', h1, h2, _⟩
    · rw [h2]; rw [h1] at q; exact q _ (I.tok _)
    · rw [h2]; rw [h1] at q; exact q _ (I.tok _)
theorem vd_notIn {Q : Value → Shared → Prop} (hu : A.units + 64 < cLine) (R : Rel X.prog X.w X.K mg Φ Z β U H) (I : Inv X pins σ H s) (h : asD U d = some (t, kvs)) (hk : keyFor t k = true) (rd : RepV X.prog X.w X.K Z β d v) (rk : RepV X.prog X.w X.K Z β k y)
    (rv : RelV v r) (ry : RelV y u) (q : ∀ s', Inv X pins σ H s' → Q (.bool (!(lookD kvs k).isSome)) s') : wpAny (model X.prog X.w) A (compareOp .NotIn u r) Q E s := by
  obtain ⟨a, rfl, h⟩ := R.dict h rd
  cases rv
  rcases h with ⟨rfl, l, e, q1⟩ | ⟨rfl, l, e, nd, q1⟩
  · obtain ⟨kk, hkk⟩ := keyD_of_flat (d := k) (by simpa [keyFor] using hk)
    have := kV_of hkk rk
    subst this
    refine d_notIn (by omega) I (DGet.k e) ry fun s' I' => ?_
    rcases look_K hkk q1 with ⟨h1, h2⟩ | ⟨x, v, h1, h2, _⟩
    · rw [h2]; rw [h1] at q; exact q s' I'
    · rw [h2]; rw [h1] at q; exact q s' I'
  · obtain ⟨b, rfl⟩ := key1_ref hk rk
    cases ry
    obtain ⟨hs, hl, dd⟩ := dn_heap R I e nd q1
    refine notIn_keyed (nroom hu) (key_is R I hk rk) hs ⟨_, dd, rfl⟩ ?_
    rw [valueAt_pairsH, Option.isSome_map]
    rcases look_T hk q1 with ⟨h1, h2⟩ | ⟨x, v, b', u', h1, h2, _⟩
    · rw [h2]; rw [h1] at q; exact q _ (I.tok _)
    · rw [h2]; rw [h1] at q; exact q _ (I.tok _)
theorem vd_get {x : D} {Q : Value → Shared → Prop} (hu : A.units + 64 < cLine) (R : Rel X.prog X.w X.K mg Φ Z β U H) (I : Inv X pins σ H s) (h : asD U d = some (t, kvs)) (hk : keyFor t k = true) (rd : RepV X.prog X.w X.K Z β d v) (rk : RepV X.prog X.w X.K Z β k y)
    (rv : RelV v r) (ry : RelV y u) (hx : lookD kvs k = some x) (q : ∀ z z' s', Inv X pins σ H s' → RelV z z' → RepV X.prog X.w X.K Z β x z → Q z' s') : wpAny (model X.prog X.w) A (getItem r u) Q E s := by
  obtain ⟨a, rfl, h⟩ := R.dict h rd
  cases rv
  rcases h with ⟨rfl, l, e, q1⟩ | ⟨rfl, l, e, nd, q1⟩
  · obtain ⟨kk, hkk⟩ := keyD_of_flat (d := k) (by simpa [keyFor] using hk)
    have := kV_of hkk rk
    subst this
    rcases look_K hkk q1 with ⟨h1, h2⟩ | ⟨x', v, h1, h2, r1⟩
    · rw [h1] at hx; cases hx
    · rw [h1] at hx
      cases hx
      refine d_getItem (v := v) (by omega) I (by rw [← h2]; exact DGet.k e) ry fun w' s' I' rw' => q v w' s' I' rw' r1
  · obtain ⟨b, rfl⟩ := key1_ref hk rk
    cases ry
    obtain ⟨hs, hl, dd⟩ := dn_heap R I e nd q1
    rcases look_T hk q1 with ⟨h1, h2⟩ | ⟨x', v, b', u', h1, h2, ru, r1⟩
    · rw [h1] at hx; cases hx
    · rw [h1] at hx
      cases hx
      exact wpAny_getItem_heap (nroom hu) (key_is R I hk rk) dd h2 (q v u' _ (I.tok _) ru r1)
/-- d.get(k), d.get(k, x) -/
theorem vd_get1 {Q : Value → Shared → Prop} (hu : A.units + 64 < cLine) (R : Rel X.prog X.w X.K mg Φ Z β U H) (I : Inv X pins σ H s) (h : asD U d = some (t, kvs)) (hk : keyFor t k = true) (rd : RepV X.prog X.w X.K Z β d v) (rk : RepV X.prog X.w X.K Z β k y)
    (rv : RelV v r) (ry : RelV y u) (q : ∀ z z' s', Inv X pins σ H s' → RelV z z' → RepV X.prog X.w X.K Z β ((lookD kvs k).getD .non) z → Q z' s') : wpAny (model X.prog X.w) A (call (.builtin "dict.get") [r, u]) Q E s := by
  obtain ⟨a, rfl, h⟩ := R.dict h rd
  cases rv
  have rn : RepV X.prog X.w X.K Z β .non .non := by simp only [RepV]
  rcases h with ⟨rfl, l, e, q1⟩ | ⟨rfl, l, e, nd, q1⟩
  · obtain ⟨kk, hkk⟩ := keyD_of_flat (d := k) (by simpa [keyFor] using hk)
    have := kV_of hkk rk
    subst this
    refine d_get1 (by omega) I (DGet.k e) ry fun w' s' I' rw' => ?_
    rcases look_K hkk q1 with ⟨h1, h2⟩ | ⟨x', v, h1, h2, r1⟩
    · rw [h2] at rw'
      rw [h1] at q
      exact q _ w' s' I' rw' rn
    · rw [h2] at rw'
      rw [h1] at q
      exact q _ w' s' I' rw' r1
  · obtain ⟨b, rfl⟩ := key1_ref hk rk
    cases ry
    obtain ⟨hs, hl, dd⟩ := dn_heap R I e nd q1
    refine get_keyed (nroom hu) (key_is R I hk rk) hs ⟨_, dd, rfl⟩ ?_
    rw [valueAt_pairsH]
    rcases look_T hk q1 with ⟨h1, h2⟩ | ⟨x', v, b', u', h1, h2, ru, r1⟩
    · rw [h2]
      rw [h1] at q
      exact q .non _ _ (I.tok _) rfl rn
    · rw [h2]
      rw [h1] at q
      exact q v u' _ (I.tok _) ru r1
theorem vd_get2 {x : D} {z₀ : V} {r₀ : Value} {Q : Value → Shared → Prop} (hu : A.units + 64 < cLine) (R : Rel X.prog X.w X.K mg Φ Z β U H) (I : Inv X pins σ H s) (h : asD U d = some (t, kvs)) (hk : keyFor t k = true) (rd : RepV X.prog X.w X.K Z β d v) (rk : RepV X.prog X.w X.K Z β k y)
    (rx : RepV X.prog X.w X.K Z β x z₀) (rv : RelV v r) (ry : RelV y u) (rz : RelV z₀ r₀) (q : ∀ z z' s', Inv X pins σ H s' → RelV z z' → RepV X.prog X.w X.K Z β ((lookD kvs k).getD x) z → Q z' s') : wpAny (model X.prog X.w) A (call (.builtin "dict.get") [r, u, r₀]) Q E s := by
  obtain ⟨a, rfl, h⟩ := R.dict h rd
  cases rv
  rcases h with ⟨rfl, l, e, q1⟩ | ⟨rfl, l, e, nd, q1⟩
  · obtain ⟨kk, hkk⟩ := keyD_of_flat (d := k) (by simpa [keyFor] using hk)
    have := kV_of hkk rk
    subst this
    refine d_get2 (by omega) I (DGet.k e) ry rz fun w' s' I' rw' => ?_
    rcases look_K hkk q1 with ⟨h1, h2⟩ | ⟨x', v, h1, h2, r1⟩
    · rw [h2] at rw'
      rw [h1] at q
      exact q _ w' s' I' rw' rx
    · rw [h2] at rw'
      rw [h1] at q
      exact q _ w' s' I' rw' r1
  · obtain ⟨b, rfl⟩ := key1_ref hk rk
    cases ry
    obtain ⟨hs, hl, dd⟩ := dn_heap R I e nd q1
    refine getOr_keyed (nroom hu) (key_is R I hk rk) hs ⟨_, dd, rfl⟩ ?_
    rw [valueAt_pairsH]
    rcases look_T hk q1 with ⟨h1, h2⟩ | ⟨x', v, b', u', h1, h2, ru, r1⟩
    · rw [h2]
      rw [h1] at q
      exact q z₀ r₀ _ (I.tok _) rz rx
    · rw [h2]
      rw [h1] at q
      exact q v u' _ (I.tok _) ru r1
/-- puts, drops -/
theorem put_K {P : Program} {w : World} {K : PySem.W.Frag} {kk : Key} (h : keyD k = some kk) {x : D} (rx : RepV P w K Z β x v) : ∀ {kvs : List (D × D)} {l : List (Key × V)}, RepK P w K Z β kvs l → (l.map (·.1)).Nodup → RepK P w K Z β (putD kvs k x) (putK l kk v)
  | [], l, q, _ => by
    simp only [RepK] at q
    subst q
    simp only [putD, RepK, putK]
    exact ⟨kk, v, [], rfl, h, rx, rfl⟩
  | (j, y) :: t, l, q, nd => by
    simp only [RepK] at q
    obtain ⟨jj, v1, s', rfl, r0, r1, r2⟩ := q
    simp only [List.map_cons, List.nodup_cons] at nd
    by_cases e : j = k
    · subst e
      have : jj = kk := by
        rw [h] at r0
        exact (Option.some.inj r0).symm
      subst this
      have ep : putK ((jj, v1) :: s') jj v = (jj, v) :: s' := by
        unfold putK
        rw [if_pos (by simp)]
        simp only [List.map_cons, if_true]
        congr 1
        have : ∀ p ∈ s', (if p.1 = jj then (p.1, v) else p) = p := fun p hp => if_neg fun q => nd.1 (List.mem_map.mpr ⟨p, hp, q⟩)
        rw [List.map_congr_left this]
        simp
      rw [ep]
      simp only [putD, if_true, RepK]
      exact ⟨jj, v, s', rfl, r0, rx, r2⟩
    · have hne : ¬ jj = kk := fun q => e (keyD_inj (q ▸ r0) h)
      have ep : putK ((jj, v1) :: s') kk v = (jj, v1) :: putK s' kk v := by
        unfold putK
        simp only [List.any_cons, hne, decide_false, Bool.false_or, List.map_cons, if_neg hne, List.cons_append]
        split <;> rfl
      rw [ep]
      simp only [putD, if_neg e, RepK]
      exact ⟨jj, v1, _, rfl, r0, r1, put_K h rx r2 nd.2⟩
theorem put_T {P : Program} {w : World} {K : PySem.W.Frag} (h : keyFor 1 k = true) {x : D} {b : Addr} (rb : RepV P w K Z β k (.ref b)) (rx : RepV P w K Z β x v) (ru : RelV v u) : ∀ {kvs : List (D × D)} {l : List (NestedKey × Addr × Value)}, RepT P w K Z β kvs l → (l.map (·.1)).Nodup → RepT P w K Z β (putD kvs k x) (storedH l (nk k) b u)
  | [], l, q, _ => by
    simp only [RepT] at q
    subst q
    simp only [putD, RepT]
    exact ⟨b, u, v, [], rfl, h, rb, ru, rx, rfl⟩
  | (j, y) :: t, l, q, nd => by
    simp only [RepT] at q
    obtain ⟨c, u1, v1, s', rfl, hk, rk, r0, r1, r2⟩ := q
    simp only [List.map_cons, List.nodup_cons] at nd
    by_cases e : j = k
    · subst e
      have ep : storedH ((nk j, c, u1) :: s') (nk j) b u = (nk j, c, u) :: s' := by
        unfold storedH
        rw [if_pos (by rw [atKey_pos]; rfl)]
        simp only [List.map_cons, putAt, if_true]
        congr 1
        have : ∀ p ∈ s', putAt (nk j) u p = p := fun p hp => by
          unfold putAt
          exact if_neg fun q => nd.1 (List.mem_map.mpr ⟨p, hp, q⟩)
        rw [List.map_congr_left this]
        simp
      rw [ep]
      simp only [putD, if_true, RepT]
      exact ⟨c, u, v, s', rfl, hk, rk, ru, rx, r2⟩
    · have hne : ¬ nk j = nk k := fun q => e (nk_inj hk h q)
      have ep : storedH ((nk j, c, u1) :: s') (nk k) b u = (nk j, c, u1) :: storedH s' (nk k) b u := by
        unfold storedH
        rw [atKey_neg hne]
        simp only [List.map_cons, putAt, if_neg hne, List.cons_append]
        split <;> rfl
      rw [ep]
      simp only [putD, if_neg e, RepT]
      exact ⟨c, u1, v1, _, rfl, hk, rk, r0, r1, put_T h rb rx ru r2 nd.2⟩
theorem drop_K {P : Program} {w : World} {K : PySem.W.Frag} {kk : Key} (h : keyD k = some kk) : ∀ {kvs : List (D × D)} {l : List (Key × V)}, RepK P w K Z β kvs l → (l.map (·.1)).Nodup → RepK P w K Z β (dropD kvs k) (dropK l kk)
  | [], l, q, _ => by
    simp only [RepK] at q
    subst q
    simp only [dropD, RepK, dropK]
    rfl
  | (j, y) :: t, l, q, nd => by
    simp only [RepK] at q
    obtain ⟨jj, v1, s', rfl, r0, r1, r2⟩ := q
    simp only [List.map_cons, List.nodup_cons] at nd
    by_cases e : j = k
    · subst e
      have : jj = kk := by
        rw [h] at r0
        exact (Option.some.inj r0).symm
      subst this
      have ep : dropK ((jj, v1) :: s') jj = s' := by
        unfold dropK
        rw [List.filter_cons, if_neg (by simp)]
        exact List.filter_eq_self.mpr fun p hp => decide_eq_true fun q => nd.1 (List.mem_map.mpr ⟨p, hp, q⟩)
      rw [ep]
      simp only [dropD, if_true]
      exact r2
    · have hne : ¬ jj = kk := fun q => e (keyD_inj (q ▸ r0) h)
      have ep : dropK ((jj, v1) :: s') kk = (jj, v1) :: dropK s' kk := by
        unfold dropK
        rw [List.filter_cons, if_pos (by simpa using hne)]
      rw [ep]
      simp only [dropD, if_neg e, RepK]
      exact ⟨jj, v1, _, rfl, r0, r1, drop_K h r2 nd.2⟩
theorem drop_T {P : Program} {w : World} {K : PySem.W.Frag} (h : keyFor 1 k = true) : ∀ {kvs : List (D × D)} {l : List (NestedKey × Addr × Value)}, RepT P w K Z β kvs l → (l.map (·.1)).Nodup → RepT P w K Z β (dropD kvs k) (withoutH l (nk k))
  | [], l, q, _ => by
    simp only [RepT] at q
    subst q
    simp only [dropD, RepT, withoutH]
    rfl
  | (j, y) :: t, l, q, nd => by
    simp only [RepT] at q
    obtain ⟨c, u1, v1, s', rfl, hk, rk, r0, r1, r2⟩ := q
    simp only [List.map_cons, List.nodup_cons] at nd
    by_cases e : j = k
    · subst e
      have ep : withoutH ((nk j, c, u1) :: s') (nk j) = s' := by
        unfold withoutH
        rw [List.filter_cons, if_neg (by simp)]
        exact List.filter_eq_self.mpr fun p hp => decide_eq_true fun q => nd.1 (List.mem_map.mpr ⟨p, hp, q⟩)
      rw [ep]
      simp only [dropD, if_true]
      exact r2
    · have hne : ¬ nk j = nk k := fun q => e (nk_inj hk h q)
      have ep : withoutH ((nk j, c, u1) :: s') (nk k) = (nk j, c, u1) :: withoutH s' (nk k) := by
        unfold withoutH
        rw [List.filter_cons, if_pos (by simpa using hne)]
      rw [ep]
      simp only [dropD, if_neg e, RepT]
      exact ⟨c, u1, v1, _, rfl, hk, rk, r0, r1, drop_T h r2 nd.2⟩
theorem nodup_put {l : List (NestedKey × Addr × Value)} {kk : NestedKey} {b : Addr} (nd : (l.map (·.1)).Nodup) : ((storedH l kk b u).map (·.1)).Nodup := by
  have e := congrArg (List.map (·.1)) (pairsH_storedH l kk b u)
  have e1 : (pairsH (storedH l kk b u)).map (·.1) = (storedH l kk b u).map (·.1) := by simp [pairsH, Function.comp_def]
  have e2 : (pairsH l).map (·.1) = l.map (·.1) := by simp [pairsH, Function.comp_def]
  rw [← e1, e, keys_stored, e2]
  split
  · exact nd
  · rename_i hn
    rw [List.nodup_append]
    exact ⟨nd, by simp, fun a ha b hb => by simp only [List.mem_singleton] at hb; subst hb; exact fun q => hn (q ▸ ha)⟩
theorem nodup_drop {l : List (NestedKey × Addr × Value)} {kk : NestedKey} (nd : (l.map (·.1)).Nodup) : ((withoutH l kk).map (·.1)).Nodup := nd.sublist ((List.filter_sublist (l := l)).map _)
theorem storedH_len (l : List (NestedKey × Addr × Value)) (kk : NestedKey) (b : Addr) (u : Value) : (storedH l kk b u).length ≤ l.length + 1 := by
  unfold storedH
  split <;> simp
theorem dn_ok {P : Program} {w : World} {H' : Hp} {h' : Heap} {a : Addr} {l : List (NestedKey × Addr × Value)} (h1 : (a == sysModules) = false) (h2 : l.length ≤ sizeLine) (dd : h'.DictOfH (nestedKind P w) a l) : ObjOk P w H' h' a (dN P w a l) := by
  obtain ⟨o, es, ep, ho, hx, hd, he, _, _⟩ := dd
  refine ⟨⟨h1, h2, o, es, ep, ho, hx, hd, he⟩, ⟨o, ho⟩, ?_⟩
  rintro g1 g2 ⟨_, _, o', es', ep', ho', hx', hd', he'⟩ st
  exact ⟨h1, h2, o', es', ep', st o' ho', hx', hd', he'⟩
theorem dk_nodup (I : Inv X pins σ H s) {a : Addr} {l : List (Key × V)} (e : H a = some (.dK l)) : (l.map (·.1)).Nodup := by
  obtain ⟨_, _, vs, rel, o, es, ep, _, _, _, _, nd⟩ := dk_of I.hok e
  rw [rel.keys]
  exact nd.2
theorem repK_len {P : Program} {w : World} {K : PySem.W.Frag} : ∀ {kvs : List (D × D)} {l : List (Key × V)}, RepK P w K Z β kvs l → kvs.length = l.length
  | [], l, q => by
    simp only [RepK] at q
    subst q
    rfl
  | (j, y) :: t, l, q => by
    simp only [RepK] at q
    obtain ⟨_, _, s', rfl, _, _, r2⟩ := q
    simp [repK_len r2]
theorem repT_len {P : Program} {w : World} {K : PySem.W.Frag} : ∀ {kvs : List (D × D)} {l : List (NestedKey × Addr × Value)}, RepT P w K Z β kvs l → kvs.length = l.length
  | [], l, q => by
    simp only [RepT] at q
    subst q
    rfl
  | (j, y) :: t, l, q => by
    simp only [RepT] at q
    obtain ⟨_, _, _, s', rfl, _, _, _, _, r2⟩ := q
    simp [repT_len r2]
/-- d[k] = x of the store's dict n -/
theorem vs_set {n : Nat} {x : D} {z : V} {r₀ : Value} {Q : Unit → Shared → Prop} (hu : A.units + 64 < cLine) (R : Rel X.prog X.w X.K mg Φ Z β U H) (I : Inv X pins σ H s) (h : U[n]? = some (.dct t kvs)) (hk : keyFor t k = true) (hl : kvs.length < SZ)
    (rd : RepV X.prog X.w X.K Z β (.ref n) v) (rk : RepV X.prog X.w X.K Z β k y) (rx : RepV X.prog X.w X.K Z β x z) (rv : RelV v r) (ry : RelV y u) (rz : RelV z r₀)
    (q : ∀ H' s', Inv X pins σ H' s' → Rel X.prog X.w X.K mg Φ Z β (U.set n (.dct t (putD kvs k x))) H' → Q () s') : wpAny (model X.prog X.w) A (setItem r u r₀) Q E s := by
  simp only [RepV] at rd
  obtain ⟨a, rfl, hb⟩ := rd
  cases rv
  rw [SZ_eq] at hl
  rcases R.obj _ _ _ h hb with ⟨rfl, l, e, q1⟩ | ⟨rfl, l, e, nd, q1⟩
  · obtain ⟨kk, hkk⟩ := keyD_of_flat (d := k) (by simpa [keyFor] using hk)
    have := kV_of hkk rk
    subst this
    refine d_setItem (by omega) I (DPut.k e (by rw [← repK_len q1]; exact hl)) ry rz fun s' I' => q _ s' I' ?_
    exact R.write hb (.inl ⟨rfl, _, L2.upd_same, put_K hkk rx q1 (dk_nodup I e)⟩)
  · obtain ⟨b, rfl⟩ := key1_ref hk rk
    cases ry
    obtain ⟨hs, hl2, dd⟩ := dn_heap R I (.inl e) nd q1
    refine wpAny_setItem_heap (hsz := hl2) (nroom hu) (key_is R I hk rk) dd fun h' dd' sb => ?_
    have hz : (storedH l (nk k) b r₀).length ≤ sizeLine := by
      have := storedH_len l (nk k) b r₀
      have := repT_len q1
      omega
    obtain ⟨ob, es, ep, hq, _⟩ := id dd'
    refine q _ _ (d_write I (by rw [e]; exact True.intro) sb ⟨ob, hq⟩ (dn_ok hs hz dd')) ?_
    exact R.write hb (.inr ⟨rfl, _, L2.upd_same, nodup_put nd, put_T hk rk rx rz q1 nd⟩)
/-- d.setdefault(k, x) -/
theorem vs_setd {n : Nat} {x : D} {z : V} {r₀ : Value} {Q : Value → Shared → Prop} (hu : A.units + 64 < cLine) (R : Rel X.prog X.w X.K mg Φ Z β U H) (I : Inv X pins σ H s) (h : U[n]? = some (.dct t kvs)) (hk : keyFor t k = true) (hl : kvs.length < SZ)
    (rd : RepV X.prog X.w X.K Z β (.ref n) v) (rk : RepV X.prog X.w X.K Z β k y) (rx : RepV X.prog X.w X.K Z β x z) (rv : RelV v r) (ry : RelV y u) (rz : RelV z r₀)
    (q1 : ∀ o, lookD kvs k = some o → ∀ z z' s', Inv X pins σ H s' → RelV z z' → RepV X.prog X.w X.K Z β o z → Q z' s')
    (q2 : lookD kvs k = none → ∀ H' s' z z', Inv X pins σ H' s' → Rel X.prog X.w X.K mg Φ Z β (U.set n (.dct t (putD kvs k x))) H' → RelV z z' → RepV X.prog X.w X.K Z β x z → Q z' s') : wpAny (model X.prog X.w) A (call (.builtin "dict.setdefault") [r, u, r₀]) Q E s := by
  simp only [RepV] at rd
  obtain ⟨a, rfl, hb⟩ := rd
  cases rv
  rw [SZ_eq] at hl
  rcases R.obj _ _ _ h hb with ⟨rfl, l, e, qk⟩ | ⟨rfl, l, e, nd, qk⟩
  · obtain ⟨kk, hkk⟩ := keyD_of_flat (d := k) (by simpa [keyFor] using hk)
    have := kV_of hkk rk
    subst this
    refine d_setd I e ry rz (by rw [← repK_len qk]; exact hl) (fun v hv w' s' I' rw' => ?_) (fun hn w' s' I' rw' => ?_)
    · rcases look_K hkk qk with ⟨h1, h2⟩ | ⟨x', v', h1, h2, r1⟩
      · rw [h2] at hv; cases hv
      · rw [h2] at hv
        cases hv
        exact q1 _ h1 _ _ s' I' rw' r1
    · rcases look_K hkk qk with ⟨h1, h2⟩ | ⟨x', v', h1, h2, r1⟩
      · exact q2 h1 _ s' z w' I' (R.write hb (.inl ⟨rfl, _, L2.upd_same, put_K hkk rx qk (dk_nodup I e)⟩)) rw' rx
      · rw [h2] at hn; cases hn
  · obtain ⟨b, rfl⟩ := key1_ref hk rk
    cases ry
    obtain ⟨hs, hl2, dd⟩ := dn_heap R I (.inl e) nd qk
    refine call_setdefault_heap (hsz := hl2) (nroom hu) (key_is R I hk rk) hs dd (fun p hp => ?_) fun hn h' dd' sb => ?_
    · rcases look_T hk qk with ⟨h1, h2⟩ | ⟨x', v', b', u', h1, h2, ru, r1⟩
      · rw [h2] at hp; cases hp
      · rw [h2] at hp
        cases hp
        exact q1 _ h1 _ _ _ (I.tok _) ru r1
    · rcases look_T hk qk with ⟨h1, h2⟩ | ⟨x', v', b', u', h1, h2, ru, r1⟩
      · have hz : (storedH l (nk k) b r₀).length ≤ sizeLine := by
          have := storedH_len l (nk k) b r₀
          have := repT_len qk
          omega
        obtain ⟨ob, es, ep, hq, _⟩ := id dd'
        exact q2 h1 _ _ z r₀ (d_write I (by rw [e]; exact True.intro) sb ⟨ob, hq⟩ (dn_ok hs hz dd')) (R.write hb (.inr ⟨rfl, _, L2.upd_same, nodup_put nd, put_T hk rk rx rz qk nd⟩)) rz rx
      · rw [h2] at hn; cases hn
/-- d.pop(k), there -/
theorem vs_pop {n : Nat} {x : D} {Q : Value → Shared → Prop} (hu : A.units + 64 < cLine) (R : Rel X.prog X.w X.K mg Φ Z β U H) (I : Inv X pins σ H s) (h : U[n]? = some (.dct t kvs)) (hk : keyFor t k = true) (hx : lookD kvs k = some x)
    (rd : RepV X.prog X.w X.K Z β (.ref n) v) (rk : RepV X.prog X.w X.K Z β k y) (rv : RelV v r) (ry : RelV y u)
    (q : ∀ H' s' z z', Inv X pins σ H' s' → Rel X.prog X.w X.K mg Φ Z β (U.set n (.dct t (dropD kvs k))) H' → RelV z z' → RepV X.prog X.w X.K Z β x z → Q z' s') : wpAny (model X.prog X.w) A (call (.builtin "dict.pop") [r, u]) Q E s := by
  simp only [RepV] at rd
  obtain ⟨a, rfl, hb⟩ := rd
  cases rv
  rcases R.obj _ _ _ h hb with ⟨rfl, l, e, q1⟩ | ⟨rfl, l, e, nd, q1⟩
  · obtain ⟨kk, hkk⟩ := keyD_of_flat (d := k) (by simpa [keyFor] using hk)
    have := kV_of hkk rk
    subst this
    rcases look_K hkk q1 with ⟨h1, h2⟩ | ⟨x', v, h1, h2, r1⟩
    · rw [h1] at hx; cases hx
    · rw [h1] at hx
      cases hx
      refine d_pop (v := v) (more := []) I e ry h2 (.inl rfl) fun w' s' I' rw' => q _ s' v w' I' ?_ rw' r1
      exact R.write hb (.inl ⟨rfl, _, L2.upd_same, drop_K hkk q1 (dk_nodup I e)⟩)
  · obtain ⟨b, rfl⟩ := key1_ref hk rk
    cases ry
    obtain ⟨hs, hl2, dd⟩ := dn_heap R I (.inl e) nd q1
    rcases look_T hk q1 with ⟨h1, h2⟩ | ⟨x', v, b', u', h1, h2, ru, r1⟩
    · rw [h1] at hx; cases hx
    · rw [h1] at hx
      cases hx
      refine call_pop_heap (hsz := hl2) (more := []) (.inl rfl) (PySem.F.args_dict_pop_2 _ _) (nroom hu) (key_is R I hk rk) hs dd h2 fun h' dd' sb => ?_
      have hz : (withoutH l (nk k)).length ≤ sizeLine := Nat.le_trans (List.length_filter_le _ _) hl2
      obtain ⟨ob, es, ep, hq, _⟩ := id dd'
      exact q _ _ v u' (d_write I (by rw [e]; exact True.intro) sb ⟨ob, hq⟩ (dn_ok hs hz dd')) (R.write hb (.inr ⟨rfl, _, L2.upd_same, nodup_drop nd, drop_T hk q1 nd⟩)) ru r1
end
end VI

/-! VIb5: in, is, order, truth, items, slices, by values. -/
namespace VI
open PySem PySem.Spec PyProof.Rows L2
section
variable {X : Cx}
theorem flats_rep {P : Program} {w : World} {K : PySem.W.Frag} {Z : Hp} {β : List Addr} {a : D} {x : V} (fa : flat a = true) (ra : RepV P w K Z β a x) : ∀ {ys : List D} {vs : List V}, ys.all flat = true → RepL P w K Z β ys vs → vs.all flatV = true ∧ inV x vs = ys.any fun y => pyeq y a
  | [], vs, _, r => by
    simp only [RepL] at r
    subst r
    exact ⟨rfl, rfl⟩
  | y :: t, vs, h, r => by
    simp only [RepL] at r
    obtain ⟨v, s, rfl, r1, r2⟩ := r
    simp only [List.all_cons, Bool.and_eq_true] at h
    obtain ⟨h1, h2⟩ := flat_eqV h.1 fa r1 ra
    obtain ⟨h3, h4⟩ := flats_rep fa ra h.2 r2
    refine ⟨by simp [h1, h3], ?_⟩
    unfold inV at h4 ⊢
    rw [List.any_cons, List.any_cons, h2, h4]
theorem inL_rep {P : Program} {w : World} {K : PySem.W.Frag} {mg : Str → Option Value} {Φ : List (Addr × HO)} {Z : Hp} {β : List Addr} {U : Store} {H : Hp} {a b : D} {x y : V} {xs : List D} {k : Bool} (R : Rel P w K mg Φ Z β U H) (ra : RepV P w K Z β a x) (rb : RepV P w K Z β b y) (hq : asQ U b = some xs) (e : inL U a b xs = some k) :
    (∃ p vs, y = .ref p ∧ (SqL K H p vs ∨ SqT K H p vs) ∧ flatV x = true ∧ vs.all flatV = true ∧ inV x vs = k) ∨
    ∃ d ds, Dp K H x d ∧ Dp K H y (.list ds) ∧ SeqAt.shaped d = true ∧ SeqAt.shaped (.list ds) = true ∧ (ds.any fun z => PyData.eqv z d) = k := by
  obtain ⟨p, vs, rfl, sq, q⟩ := R.seq hq rb
  unfold inL at e
  split at e
  · rename_i x' ys hs
    cases e
    unfold snaps at hs
    split at hs
    · rename_i hf
      simp only [Bool.and_eq_true] at hf
      cases hs
      obtain ⟨h1, h2⟩ := flats_rep hf.1 ra hf.2 q
      refine .inl ⟨p, vs, rfl, sq, ?_, h1, h2⟩
      cases a <;> simp [flat] at hf <;> simp only [RepV] at ra <;> subst ra <;> rfl
    · split at hs
      · rename_i hl h1 h2
        split at hs
        · rename_i hp
          simp only [Bool.and_eq_true] at hp
          cases hs
          obtain ⟨p', vs', e', sl, q'⟩ := R.list hl rb
          cases e'
          have : (∃ zs, asL U b = some zs) := ⟨_, hl⟩
          have exs : ∀ zs, asL U b = some zs → asQ U b = some zs := fun zs hz => by
            cases b <;> simp_all [asQ, asL]
          have := exs _ hl
          rw [hq] at this
          cases this
          refine .inr ⟨_, _, dp_of hp.1 (snap_rep R h1 ra), .lst sl (dpL_of hp.2 (snapL_rep R h2 q')), shaped_toP hp.1, ?_, ?_⟩
          · have := lay_toPL _ 39 hp.2
            show (PyData.canLay0 (.list (toPL ys)) && decide ((PyData.list (toPL ys)).depth ≤ 64)) = true
            rw [Bool.and_eq_true]
            simp only [PyData.canLay0, PyData.depth]
            exact ⟨this.1, decide_eq_true (by omega)⟩
          · rw [toPL_map, List.any_map]
            have : ∀ zs : List D, plainL zs 39 = true → (zs.any ((fun z => PyData.eqv z (toP x')) ∘ toP)) = zs.any fun y => pyeq y x' := by
              intro zs
              induction zs with
              | nil => intro _; rfl
              | cons z r ih =>
                intro hz
                simp only [plainL, Bool.and_eq_true] at hz
                rw [List.any_cons, List.any_cons, ih hz.2, Function.comp_apply, eqv_toP z x' 39 40 hz.1 hp.1]
            exact this ys hp.2
        · cases hs
      · cases hs
  · cases e
theorem or_in (hu : X.A.units + 65 < cLine) : OpR X (compareOp .In) (rc X.prog X.w X.K X.mg .isIn) := by
  intro pins s σ H x y v u Q I rx ry ⟨Φ, Z, β, U, a, b, k, R, ra, rb, e, q⟩
  change member U a b = some k at e
  unfold member at e
  split at e
  · split at e
    · cases e
      simp only [RepV] at ra rb
      subst ra rb
      exact op_in_sign pins s σ H _ _ v u Q I rx ry ⟨_, _, rfl, rfl, by simpa using q⟩
    · cases e
  · split at e
    · rename_i xs hq
      rcases inL_rep R ra rb hq e with ⟨p, vs, rfl, sq, h1, h2, h3⟩ | ⟨d, ds, h1, h2, h3, h4, h5⟩
      · exact op_in_seq pins s σ H _ _ v u Q I rx ry ⟨p, vs, rfl, sq, h1, h2, by simp only [Bool.false_eq_true, if_false]; rw [h3]; exact q⟩
      · exact L2.op_inD hu pins s σ H _ _ v u Q I rx ry ⟨d, ds, h1, h2, h3, h4, by rw [h5]; exact q⟩
    · unfold hasD at e
      split at e
      · rename_i t kvs hd
        split at e
        · cases e
          exact vd_in (by omega) R I hd (by assumption) rb ra ry rx fun s' I' => ⟨.bl _, H, I', rfl, q⟩
        · cases e
      · cases e
theorem or_notIn (hu : X.A.units + 65 < cLine) : OpR X (compareOp .NotIn) (rc X.prog X.w X.K X.mg .notIn) := by
  intro pins s σ H x y v u Q I rx ry ⟨Φ, Z, β, U, a, b, k, R, ra, rb, e, q⟩
  change (member U a b).map (! ·) = some k at e
  rw [Option.map_eq_some_iff] at e
  obtain ⟨k, e, rfl⟩ := e
  unfold member at e
  split at e
  · split at e
    · cases e
      simp only [RepV] at ra rb
      subst ra rb
      exact op_notIn_sign pins s σ H _ _ v u Q I rx ry ⟨_, _, rfl, rfl, by simpa using q⟩
    · cases e
  · split at e
    · rename_i xs hq
      rcases inL_rep R ra rb hq e with ⟨p, vs, rfl, sq, h1, h2, h3⟩ | ⟨d, ds, h1, h2, h3, h4, h5⟩
      · exact op_notIn_seq pins s σ H _ _ v u Q I rx ry ⟨p, vs, rfl, sq, h1, h2, by simp only [if_true]; rw [h3]; exact q⟩
      · exact L2.op_notInD hu pins s σ H _ _ v u Q I rx ry ⟨d, ds, h1, h2, h3, h4, by rw [h5]; exact q⟩
    · unfold hasD at e
      split at e
      · rename_i t kvs hd
        split at e
        · cases e
          exact vd_notIn (by omega) R I hd (by assumption) rb ra ry rx fun s' I' => ⟨.bl _, H, I', rfl, q⟩
        · cases e
      · cases e
theorem non_rep {P : Program} {w : World} {K : PySem.W.Frag} {Z : Hp} {β : List Addr} {a : D} {x : V} (ra : RepV P w K Z β a x) : decide (x = .non) = (match a with | .non => true | _ => false) := by
  cases a <;> simp only [RepV] at ra
  · subst ra; rfl
  · subst ra; rfl
  · subst ra; rfl
  · subst ra; rfl
  · obtain ⟨_, _, rfl, _⟩ := ra; rfl
  · obtain ⟨_, _, rfl, _⟩ := ra; rfl
  · obtain ⟨_, rfl, _⟩ := ra; rfl
  · obtain ⟨_, rfl, _⟩ := ra; rfl
theorem or_is : OpR X (compareOp .Is) (rc X.prog X.w X.K X.mg .is) := by
  refine OpR.imp (op_isN.or op_isBl) ?_
  rintro x y H Q ⟨Φ, Z, β, U, a, b, k, R, ra, rb, e, q⟩
  simp only [cmpop] at e
  split at e
  · have hb : y = .non := by simpa only [RepV] using rb
    refine .inl ⟨hb, ?_⟩
    rw [non_rep ra]
    split at e <;> cases e
    · exact q
    · rename_i hn
      split
      · exact absurd rfl hn
      · exact q
  · cases e
    simp only [RepV] at ra rb
    exact .inr ⟨_, _, ra, rb, q⟩
  · cases e
theorem or_isNot : OpR X (compareOp .IsNot) (rc X.prog X.w X.K X.mg .isNot) := by
  refine OpR.imp (op_notN.or op_notBl) ?_
  rintro x y H Q ⟨Φ, Z, β, U, a, b, k, R, ra, rb, e, q⟩
  simp only [cmpop] at e
  split at e
  · have hb : y = .non := by simpa only [RepV] using rb
    refine .inl ⟨hb, ?_⟩
    rw [non_rep ra]
    split at e <;> cases e
    · exact q
    · rename_i hn
      split
      · exact absurd rfl hn
      · exact q
  · cases e
    simp only [RepV] at ra rb
    exact .inr ⟨_, _, ra, rb, q⟩
  · cases e
theorem or_lt : OpR X (compareOp .Lt) (rc X.prog X.w X.K X.mg .lt) := by
  refine OpR.imp (op_lt.or op_lt_str) ?_
  rintro x y H Q ⟨Φ, Z, β, U, a, b, k, R, ra, rb, e, q⟩
  simp only [cmpop] at e
  split at e
  · cases e
    simp only [RepV] at ra rb
    exact .inl ⟨_, _, ra, rb, q⟩
  · cases e
    simp only [RepV] at ra rb
    exact .inr ⟨_, _, ra, rb, q⟩
  · cases e
theorem or_le : OpR X (compareOp .LtE) (rc X.prog X.w X.K X.mg .le) := by
  refine OpR.imp op_le ?_
  rintro x y H Q ⟨Φ, Z, β, U, a, b, k, R, ra, rb, e, q⟩
  simp only [cmpop] at e
  split at e
  · cases e
    simp only [RepV] at ra rb
    exact ⟨_, _, ra, rb, q⟩
  · cases e
theorem or_gt : OpR X (compareOp .Gt) (rc X.prog X.w X.K X.mg .gt) := by
  refine OpR.imp op_gt ?_
  rintro x y H Q ⟨Φ, Z, β, U, a, b, k, R, ra, rb, e, q⟩
  simp only [cmpop] at e
  split at e
  · cases e
    simp only [RepV] at ra rb
    exact ⟨_, _, ra, rb, q⟩
  · cases e
theorem or_ge : OpR X (compareOp .GtE) (rc X.prog X.w X.K X.mg .ge) := by
  refine OpR.imp op_ge ?_
  rintro x y H Q ⟨Φ, Z, β, U, a, b, k, R, ra, rb, e, q⟩
  simp only [cmpop] at e
  split at e
  · cases e
    simp only [RepV] at ra rb
    exact ⟨_, _, ra, rb, q⟩
  · cases e
/-- which operator of the model's -/
def cop : COp → CmpOp
  | .eq => .Eq | .ne => .NotEq | .lt => .Lt | .le => .LtE | .gt => .Gt | .ge => .GtE | .isIn => .In | .notIn => .NotIn | .is => .Is | .isNot => .IsNot
theorem or_cmp (hu : X.A.units + 65 < cLine) (op : COp) : OpR X (compareOp (cop op)) (rc X.prog X.w X.K X.mg op) := by
  cases op
  · exact or_eq (by omega)
  · exact or_ne (by omega)
  · exact or_lt
  · exact or_le
  · exact or_gt
  · exact or_ge
  · exact or_in hu
  · exact or_notIn hu
  · exact or_is
  · exact or_isNot
def bop : BOp → Operator
  | .add => .Add | .sub => .Sub | .mul => .Mult | .fdiv => .FloorDiv | .mod => .Mod | .pow => .Pow
theorem or_bin (op : BOp) (m : Bool) : OpR X (binaryOp (bop op)) (r2 X.prog X.w X.K X.mg (binop op m)) := by
  cases op
  · exact or_add m
  · exact or_sub m
  · refine OpR.imp (or_mul m) ?_
    rintro x y H Q ⟨Φ, Z, β, U, a, b, d, U', R, ra, rb, e, dn⟩
    refine ⟨Φ, Z, β, U, a, b, d, U', R, ra, rb, ?_, dn⟩
    change mulOp m a b U = _ at e
    unfold mulOp at e
    split at e
    · exact e
    · exact e
    · cases e
  · exact or_fdiv m
  · exact or_mod m
  · exact or_pow m
/-! ### truth -/
theorem or_truth : TruR X (fun x H Q => ∃ Φ Z β U a k, Rel X.prog X.w X.K X.mg Φ Z β U H ∧ RepV X.prog X.w X.K Z β a x ∧ truth U a = some k ∧ Q k H) := by
  intro pins s σ H x v Q I rx ⟨Φ, Z, β, U, a, k, R, ra, e, q⟩
  have seq : ∀ xs, asQ U a = some xs → k = !xs.isEmpty → wpAny (model X.prog X.w) X.A (truthy v) (TP X pins σ Q) X.xe s := fun xs h1 h2 => by
    obtain ⟨p, vs, rfl, sq, ql⟩ := R.seq h1 ra
    have hk : k = !vs.isEmpty := by
      rw [h2]
      have := ql.length
      cases xs <;> cases vs <;> simp_all
    rcases sq with sq | sq
    · exact tru_ok pins s σ H _ v Q I rx ⟨k, .inl ⟨vs, sq, hk⟩, q⟩
    · exact tru_ok pins s σ H _ v Q I rx ⟨k, .inr (.inl ⟨vs, sq, hk⟩), q⟩
  have dic : ∀ kvs, asD U a = some (0, kvs) → k = !kvs.isEmpty → wpAny (model X.prog X.w) X.A (truthy v) (TP X pins σ Q) X.xe s := fun kvs h1 h2 => by
    obtain ⟨p, rfl, h⟩ := R.dict h1 ra
    cases rx
    rcases h with ⟨_, l, e, q1⟩ | ⟨h0, l, e, nd, q1⟩
    · refine d_truth I (.inl e) fun s' I' => ⟨H, I', ?_⟩
      have : kvs.isEmpty = l.isEmpty := by
        have := repK_len q1
        cases kvs <;> cases l <;> simp_all
      rw [← this, ← h2]
      exact q
    · cases h0
  cases a <;> simp only [truth, reduceCtorEq, Option.some.injEq] at e
  · simp only [RepV] at ra
    subst ra
    exact tru_ok pins s σ H _ v Q I rx ⟨k, e.symm, q⟩
  · simp only [RepV] at ra
    subst ra
    exact tru_ok pins s σ H _ v Q I rx ⟨k, e.symm, q⟩
  · simp only [RepV] at ra
    subst ra
    refine tru_ok pins s σ H _ v Q I rx ⟨k, ?_, q⟩
    show k = (_ != 0)
    rw [← e]
    simp only [bne, ne_eq, decide_not]
    rfl
  · split at e
    · rename_i z hz
      simp only [Option.some.injEq] at e
      simp only [RepV] at ra
      subst ra
      refine tru_ok pins s σ H _ v Q I rx ⟨k, ⟨?_, ?_⟩, q⟩
      · rw [str_len, ← SZ_eq]
        exact hz
      · rw [← e, str_len]
        cases z with
        | nil => rfl
        | cons c r => simp [bne, List.isEmpty]; omega
    · cases e
  · exact seq _ rfl e.symm
  · exact seq _ rfl e.symm
  · split at e
    · rename_i h0
      subst h0
      simp only [Option.some.injEq] at e
      exact dic _ rfl e.symm
    · cases e
  · split at e
    · rename_i hu
      simp only [Option.some.injEq] at e
      exact seq _ (by simp [asQ, asL, hu]) e.symm
    · rename_i t kvs hu
      split at e
      · rename_i h0
        subst h0
        simp only [Option.some.injEq] at e
        exact dic _ (by simp [asD, hu]) e.symm
      · cases e
    · cases e
end
end VI

/-! VIb6: items, slices, stores, fields, by values. -/
namespace VI
open PySem PySem.Spec PyProof.Rows L2
section
variable {X : Cx}
theorem asQ_asD {U : Store} {d : D} {t : Nat} {kvs : List (D × D)} (h : asD U d = some (t, kvs)) : asQ U d = none := by
  cases d <;> simp_all [asD, asQ, asL]
  split at h <;> simp_all
theorem atI_len {α : Type} {xs : List α} {i : Int} {v : α} (h : VI.atI xs i = some v) : ∃ j, ixN xs.length i = some j ∧ xs[j]? = some v := by
  unfold VI.atI at h
  exact Option.bind_eq_some_iff.mp h
theorem atI_eq {α : Type} (xs : List α) (i : Int) : VI.atI xs i = L2.atI xs i := by
  unfold VI.atI L2.atI VI.ixN L2.ixN
  rfl
theorem atI_rep {P : Program} {w : World} {K : PySem.W.Frag} {Z : Hp} {β : List Addr} {xs : List D} {vs : List V} {i : Int} {d : D} (q : RepL P w K Z β xs vs) (h : VI.atI xs i = some d) : ∃ v, L2.atI vs i = some v ∧ RepV P w K Z β d v := by
  obtain ⟨j, h1, h2⟩ := atI_len h
  obtain ⟨v, e, r⟩ := q.get h2
  refine ⟨v, ?_, r⟩
  rw [← atI_eq]
  unfold VI.atI
  rw [← q.length, h1]
  exact e
theorem ix_all (hu : X.A.units + 64 < cLine) : IxR X (r2 X.prog X.w X.K X.mg index1) := by
  intro value slice pins s σ H x y v u Q I rx ry ⟨Φ, Z, β, U, a, b, d, U', R, ra, rb, e, dn⟩ hs
  unfold index1 at e
  split at e
  · rename_i z i
    split at e
    · rename_i hz
      split at e
      · rename_i c hc
        obtain ⟨rfl, rfl⟩ := ok_inj e
        simp only [RepV] at ra rb
        subst ra rb
        refine ix_seq value slice pins s σ H _ _ v u Q I rx ry (.inr (.inr ⟨_, i, c, rfl, rfl, ?_, ?_, ?_⟩)) hs
        · rw [str_len, ← SZ_eq]; exact hz
        · rw [← atI_eq]; simpa using hc
        · exact dn.str R
      · cases e
    · cases e
  · split at e
    · rename_i xs hq
      obtain ⟨p, vs, rfl, sq, q⟩ := R.seq hq ra
      split at e
      · rename_i i _
        split at e
        · rename_i d' hd
          obtain ⟨rfl, rfl⟩ := ok_inj e
          simp only [RepV] at rb
          subst rb
          obtain ⟨v', e1, r1⟩ := atI_rep q hd
          rcases sq with sq | sq
          · exact ix_seq value slice pins s σ H _ _ v u Q I rx ry (.inl ⟨p, vs, i, v', rfl, rfl, sq, e1, dn.same R r1⟩) hs
          · exact ix_seq value slice pins s σ H _ _ v u Q I rx ry (.inr (.inl ⟨p, vs, i, v', rfl, rfl, sq, e1, dn.same R r1⟩)) hs
        · cases e
      · cases e
    · split at e
      · rename_i t kvs hd
        split at e
        · rename_i hk
          split at e
          · rename_i d' hx
            obtain ⟨rfl, rfl⟩ := ok_inj e
            have ht : s.TypeIs v "dict" := by
              obtain ⟨p, rfl, h⟩ := R.dict hd ra
              cases rx
              rcases h with ⟨rfl, l, e, q1⟩ | ⟨rfl, l, e, nd, q1⟩
              · obtain ⟨_, _, vs, _, dd⟩ := dk_rd I.hok (.inl e)
                exact dd.typeIs
              · obtain ⟨_, _, dd⟩ := dn_heap R I e nd q1
                exact dd.typeIs
            exact tail_any ht PySem.F.slot_dict_getitem.lookup (vd_get hu R I hd hk ra rb rx ry hx fun z z' s' I' r' q' => ⟨z, H, I', r', dn.same R q'⟩) hs
          · cases e
        · cases e
      · cases e
/-! ### slices -/
theorem sIx_eq (n d : Nat) (o : Option Int) : VI.sIx n d o = HT.sIx n d o := by cases o <;> rfl
theorem cut_rep {P : Program} {w : World} {K : PySem.W.Frag} {Z : Hp} {β : List Addr} {xs : List D} {vs : List V} (q : RepL P w K Z β xs vs) (lo hi : Option Int) : RepL P w K Z β (cut xs lo hi) (cutV vs lo hi) := by
  unfold cut cutV
  rw [← q.length, ← sIx_eq, ← sIx_eq]
  exact (q.drop _).take _
theorem cut_all {α : Type} {xs : List α} {lo hi : Option Int} (h : HT.sIx xs.length 0 lo = 0 ∧ HT.sIx xs.length xs.length hi = xs.length) : cut xs lo hi = xs := by
  unfold cut
  rw [sIx_eq, sIx_eq, h.1, h.2]
  simp
def rSl (P : Program) (w : World) (K : PySem.W.Frag) (mg : Str → Option Value) (m : Bool) : V → Option Int → Option Int → Hp → VK → Prop := fun x lo hi H Q =>
  ∃ Φ Z β U a dl dh d U', Rel P w K mg Φ Z β U H ∧ RepV P w K Z β a x ∧ bnd? dl = some lo ∧ bnd? dh = some hi ∧ slice1 m a dl dh U = some (.ok d U') ∧ Done P w K mg Φ Z β d U' Q
theorem sl_all (m : Bool) : SlR X (rSl X.prog X.w X.K X.mg m) := by
  intro pins s σ H x v vl vu lo hi sl Q I rx hs pl pu ⟨Φ, Z, β, U, a, dl, dh, d, U', R, ra, bl, bh, e, dn⟩
  unfold slice1 at e
  simp only [bl, bh] at e
  unfold sliceB at e
  split at e
  · rename_i z
    split at e
    · rename_i hz
      obtain ⟨rfl, rfl⟩ := ok_inj e
      simp only [RepV] at ra
      subst ra
      refine sl_str pins s σ H _ v vl vu lo hi sl Q I rx hs pl pu ⟨_, rfl, by rw [str_len, ← SZ_eq]; exact hz, ?_⟩
      have : cutS ⟨z.toArray⟩ lo hi = ⟨(cut z lo hi).toArray⟩ := by
        unfold cutS cut
        simp only [sIx_eq, str_len]
      rw [this]
      exact dn.str R
    · cases e
  · rename_i xs
    obtain ⟨rfl, rfl⟩ := ok_inj e
    obtain ⟨p, vs, rfl, sq, q⟩ := R.tuple ra
    refine sl_tupA pins s σ H _ v vl vu lo hi sl Q I rx hs pl pu ⟨p, vs, rfl, sq, fun hw => ?_, fun hw p hp => ?_⟩
    · rw [← q.length] at hw
      rw [cut_all hw] at dn
      exact dn.same R ra
    · exact dn.tup R (cut_rep q lo hi) hp
  · split at e
    · rename_i xs hq
      obtain ⟨p, vs, rfl, sq, q⟩ := R.list hq ra
      exact sl_list pins s σ H _ v vl vu lo hi sl Q I rx hs pl pu ⟨p, vs, rfl, sq, fun p hp => dn.lst R e (cut_rep q lo hi) hp⟩
    · cases e
end
end VI

/-! VIc1: frames, ends, the readings of the IR; the rules node by node. -/
namespace VI
open PySem PySem.Spec PyProof.Rows L2
/-! ### frames -/
def RepS (P : Program) (w : World) (K : PySem.W.Frag) (Z : Hp) (β : List Addr) (ρ : Rho) (σ : L2.St) : Prop :=
  ρ.length = σ.length ∧ ∀ (i : Nat) (d : D), ρ[i]? = some (some d) → ∃ v, σ[i]? = some (some v) ∧ RepV P w K Z β d v
section
variable {P : Program} {w : World} {K : PySem.W.Frag} {mg : Str → Option Value} {Φ : List (Addr × HO)} {Z Z' : Hp} {β β' : List Addr} {ρ : Rho} {σ : L2.St} {U U' : Store} {H : Hp}
theorem RepS.mono (h : RepS P w K Z β ρ σ) (z : ZLe Z Z') (b : BLe β β') : RepS P w K Z' β' ρ σ :=
  ⟨h.1, fun i d e => let ⟨v, e1, r⟩ := h.2 i d e; ⟨v, e1, RepV.mono z b r⟩⟩
theorem RepS.set {i : Nat} {d : D} {v : V} (h : RepS P w K Z β ρ σ) (r : RepV P w K Z β d v) : RepS P w K Z β (ρ.set i (some d)) (σ.set i (some v)) := by
  refine ⟨by simp [h.1], fun j e he => ?_⟩
  by_cases q : i = j
  · subst q
    by_cases hl : i < ρ.length
    · rw [List.getElem?_set_self hl] at he
      cases he
      exact ⟨v, by rw [List.getElem?_set_self (by rw [← h.1]; exact hl)], r⟩
    · rw [List.getElem?_eq_none (by simpa using hl)] at he
      cases he
  · rw [List.getElem?_set_ne q] at he ⊢
    exact h.2 j e he
theorem RepS.unset {i : Nat} (h : RepS P w K Z β ρ σ) (o : Option V) : RepS P w K Z β (ρ.set i none) (σ.set i o) := by
  refine ⟨by simp [h.1], fun j e he => ?_⟩
  by_cases q : i = j
  · subst q
    by_cases hl : i < ρ.length
    · rw [List.getElem?_set_self hl] at he
      cases he
    · rw [List.getElem?_eq_none (by simpa using hl)] at he
      cases he
  · rw [List.getElem?_set_ne q] at he ⊢
    exact h.2 j e he
theorem RepS.wipe (h : RepS P w K Z β ρ σ) : ∀ vs : List Nat, RepS P w K Z β (VI.wipe ρ vs) (L2.wipe σ vs)
  | [] => h
  | v :: vs => (RepS.wipe h vs).unset none
end
/-! ### ends -/
/-- what is wanted of an exception -/
def DoneX (P : Program) (w : World) (K : PySem.W.Frag) (mg : Str → Option Value) (Φ : List (Addr × HO)) (Z : Hp) (β : List Addr) (x : Ex) (U' : Store) (E : XK) : Prop :=
  ∀ (Z' : Hp) (β' : List Addr) (H' : Hp) (C dx : Addr) (v : V), ZLe Z Z' → BLe β β' → Rel P w K mg Φ Z' β' U' H' → mg (Str.ofString x.c) = some (.ref C) → RepV P w K Z' β' x.p v → H' dx = some (.xd [("place", v)]) → E (.ref C) (some dx) H'
theorem DoneX.mono {P : Program} {w : World} {K : PySem.W.Frag} {mg : Str → Option Value} {Φ : List (Addr × HO)} {Z Z' : Hp} {β β' : List Addr} {x : Ex} {U' : Store} {E : XK} (h : DoneX P w K mg Φ Z β x U' E) (z : ZLe Z Z') (b : BLe β β') : DoneX P w K mg Φ Z' β' x U' E :=
  fun Z2 β2 H2 C dx v z2 b2 => h Z2 β2 H2 C dx v (z.trans z2) (b.trans b2)
def DoneB (P : Program) (w : World) (K : PySem.W.Frag) (mg : Str → Option Value) (Φ : List (Addr × HO)) (Z : Hp) (β : List Addr) (U' : Store) (Q : Hp → Prop) : Prop := ∀ (Z' : Hp) (β' : List Addr) (H' : Hp), ZLe Z Z' → BLe β β' → Rel P w K mg Φ Z' β' U' H' → Q H'
def DoneL (P : Program) (w : World) (K : PySem.W.Frag) (mg : Str → Option Value) (Φ : List (Addr × HO)) (Z : Hp) (β : List Addr) (ds : List D) (U' : Store) (Q : List V → Hp → Prop) : Prop := ∀ (Z' : Hp) (β' : List Addr) (H' : Hp) (vs : List V), ZLe Z Z' → BLe β β' → Rel P w K mg Φ Z' β' U' H' → RepL P w K Z' β' ds vs → Q vs H'
/-- a result's wish -/
def Out {α : Type} (P : Program) (w : World) (K : PySem.W.Frag) (mg : Str → Option Value) (W : WX) (Φ : List (Addr × HO)) (Z : Hp) (β : List Addr) (σ : L2.St) (ok : α → Store → Prop) (r : VI.R α) : Prop :=
  match r with
  | .ok d U' => ok d U'
  | .ex x U' => DoneX P w K mg Φ Z β x U' fun cls d H => W cls d σ H
section
variable (P : Program) (w : World) (K : PySem.W.Frag) (mg : Str → Option Value) (C : Cal) (W : WX)
def tE (e : IE) : TE := fun σ H Q => ∃ Φ Z β ρ U r, RepS P w K Z β ρ σ ∧ Rel P w K mg Φ Z β U H ∧ ev C e ρ U = some r ∧ Out P w K mg W Φ Z β σ (fun d U' => Done P w K mg Φ Z β d U' Q) r
def tT (e : IE) : TT := fun σ H Q => ∃ Φ Z β ρ U r, RepS P w K Z β ρ σ ∧ Rel P w K mg Φ Z β U H ∧ evB C e ρ U = some r ∧ Out P w K mg W Φ Z β σ (fun k U' => DoneB P w K mg Φ Z β U' (Q k)) r
def tA (es : IEs) : TA := fun σ H Q => ∃ Φ Z β ρ U r, RepS P w K Z β ρ σ ∧ Rel P w K mg Φ Z β U H ∧ evs C es ρ U = some r ∧ Out P w K mg W Φ Z β σ (fun ds U' => DoneL P w K mg Φ Z β ds U' Q) r
end
section
variable {P : Program} {w : World} {K : PySem.W.Frag} {mg : Str → Option Value} {C : Cal} {W : WX} {Φ : List (Addr × HO)} {Z : Hp} {β : List Addr} {ρ : Rho} {σ : L2.St} {U : Store} {H : Hp} {Q : VK}
theorem tE_bnd {α : Type} {e : IE} {f : D → M α} {r : VI.R α} (S : RepS P w K Z β ρ σ) (R : Rel P w K mg Φ Z β U H) (h : bnd (ev C e ρ U) f = some r) (hx : ∀ x U', r = .ex x U' → DoneX P w K mg Φ Z β x U' fun cls d H => W cls d σ H)
    (k : ∀ Z' β' H' d v U', ZLe Z Z' → BLe β β' → Rel P w K mg Φ Z' β' U' H' → RepV P w K Z' β' d v → RepS P w K Z' β' ρ σ → f d U' = some r → Q v H') : tE P w K mg C W e σ H Q := by
  cases q : ev C e ρ U with
  | none =>
    rw [q] at h
    cases h
  | some r1 =>
    rw [q] at h
    refine ⟨Φ, Z, β, ρ, U, r1, S, R, q, ?_⟩
    cases r1 with
    | ok d U' => exact fun Z' β' H' v z b R' r' => k Z' β' H' d v U' z b R' r' (S.mono z b) h
    | ex x U' => exact hx x U' (by rw [bnd_ex] at h; exact (Option.some.inj h).symm)
theorem tT_bnd {α : Type} {e : IE} {f : Bool → M α} {r : VI.R α} {Q : Bool → Hp → Prop} (S : RepS P w K Z β ρ σ) (R : Rel P w K mg Φ Z β U H) (h : bnd (evB C e ρ U) f = some r) (hx : ∀ x U', r = .ex x U' → DoneX P w K mg Φ Z β x U' fun cls d H => W cls d σ H)
    (k : ∀ Z' β' H' d U', ZLe Z Z' → BLe β β' → Rel P w K mg Φ Z' β' U' H' → RepS P w K Z' β' ρ σ → f d U' = some r → Q d H') : tT P w K mg C W e σ H Q := by
  cases q : evB C e ρ U with
  | none =>
    rw [q] at h
    cases h
  | some r1 =>
    rw [q] at h
    refine ⟨Φ, Z, β, ρ, U, r1, S, R, q, ?_⟩
    cases r1 with
    | ok d U' => exact fun Z' β' H' z b R' => k Z' β' H' d U' z b R' (S.mono z b) h
    | ex x U' => exact hx x U' (by rw [bnd_ex] at h; exact (Option.some.inj h).symm)
theorem tA_bnd {α : Type} {e : IEs} {f : List D → M α} {r : VI.R α} {Q : List V → Hp → Prop} (S : RepS P w K Z β ρ σ) (R : Rel P w K mg Φ Z β U H) (h : bnd (evs C e ρ U) f = some r) (hx : ∀ x U', r = .ex x U' → DoneX P w K mg Φ Z β x U' fun cls d H => W cls d σ H)
    (k : ∀ Z' β' H' d v U', ZLe Z Z' → BLe β β' → Rel P w K mg Φ Z' β' U' H' → RepL P w K Z' β' d v → RepS P w K Z' β' ρ σ → f d U' = some r → Q v H') : tA P w K mg C W e σ H Q := by
  cases q : evs C e ρ U with
  | none =>
    rw [q] at h
    cases h
  | some r1 =>
    rw [q] at h
    refine ⟨Φ, Z, β, ρ, U, r1, S, R, q, ?_⟩
    cases r1 with
    | ok d U' => exact fun Z' β' H' v z b R' r' => k Z' β' H' d v U' z b R' r' (S.mono z b) h
    | ex x U' => exact hx x U' (by rw [bnd_ex] at h; exact (Option.some.inj h).symm)
/-- the wish of the rest, later -/
theorem hx_mono {α : Type} {r : VI.R α} {Z' : Hp} {β' : List Addr} (hx : ∀ x U', r = .ex x U' → DoneX P w K mg Φ Z β x U' fun cls d H => W cls d σ H) (z : ZLe Z Z') (b : BLe β β') : ∀ x U', r = .ex x U' → DoneX P w K mg Φ Z' β' x U' fun cls d H => W cls d σ H :=
  fun x U' e => (hx x U' e).mono z b
theorem Out.wish {α : Type} {ok : α → Store → Prop} {r : VI.R α} (o : Out P w K mg W Φ Z β σ ok r) : ∀ x U', r = .ex x U' → DoneX P w K mg Φ Z β x U' fun cls d H => W cls d σ H := fun x U' e => by
  subst e
  exact o
theorem DoneB.mono {Z' : Hp} {β' : List Addr} {U' : Store} {Q : Hp → Prop} (h : DoneB P w K mg Φ Z β U' Q) (z : ZLe Z Z') (b : BLe β β') : DoneB P w K mg Φ Z' β' U' Q := fun Z2 β2 H2 z2 b2 => h Z2 β2 H2 (z.trans z2) (b.trans b2)
theorem DoneL.mono {Z' : Hp} {β' : List Addr} {ds : List D} {U' : Store} {Q : List V → Hp → Prop} (h : DoneL P w K mg Φ Z β ds U' Q) (z : ZLe Z Z') (b : BLe β β') : DoneL P w K mg Φ Z' β' ds U' Q := fun Z2 β2 H2 vs z2 b2 => h Z2 β2 H2 vs (z.trans z2) (b.trans b2)
theorem Out.mono {α : Type} {ok ok' : α → Store → Prop} {r : VI.R α} {Z' : Hp} {β' : List Addr} (o : Out P w K mg W Φ Z β σ ok r) (z : ZLe Z Z') (b : BLe β β') (h : ∀ d U', ok d U' → ok' d U') : Out P w K mg W Φ Z' β' σ ok' r := by
  cases r with
  | ok d U' => exact h d U' o
  | ex x U' =>
    have o : DoneX P w K mg Φ Z β x U' fun cls d H => W cls d σ H := o
    exact o.mono z b
theorem Out.monoE {r : VI.R D} {Z' : Hp} {β' : List Addr} (o : Out P w K mg W Φ Z β σ (fun d U' => Done P w K mg Φ Z β d U' Q) r) (z : ZLe Z Z') (b : BLe β β') : Out P w K mg W Φ Z' β' σ (fun d U' => Done P w K mg Φ Z' β' d U' Q) r := o.mono z b fun d U' h => Done.mono h z b
theorem Out.monoT {Q : Bool → Hp → Prop} {r : VI.R Bool} {Z' : Hp} {β' : List Addr} (o : Out P w K mg W Φ Z β σ (fun k U' => DoneB P w K mg Φ Z β U' (Q k)) r) (z : ZLe Z Z') (b : BLe β β') : Out P w K mg W Φ Z' β' σ (fun k U' => DoneB P w K mg Φ Z' β' U' (Q k)) r := o.mono z b fun d U' h => DoneB.mono h z b
theorem Out.monoL {Q : List V → Hp → Prop} {r : VI.R (List D)} {Z' : Hp} {β' : List Addr} (o : Out P w K mg W Φ Z β σ (fun ds U' => DoneL P w K mg Φ Z β ds U' Q) r) (z : ZLe Z Z') (b : BLe β β') : Out P w K mg W Φ Z' β' σ (fun ds U' => DoneL P w K mg Φ Z' β' ds U' Q) r := o.mono z b fun d U' h => DoneL.mono h z b
theorem Out.ok {α : Type} {ok : α → Store → Prop} {d : α} {U' : Store} (o : Out P w K mg W Φ Z β σ ok (.ok d U')) : ok d U' := o
/-- the same, by another reading -/
theorem tE_as {a b : IE} (h : ∀ ρ U, ev C a ρ U = ev C b ρ U) : tE P w K mg C W a = tE P w K mg C W b := by
  unfold tE
  simp only [h]
theorem _root_.L2.PE.imp {X : Cx} {e : Expr} {t t' : TE} (h : PE X e t) (i : ∀ σ H Q, t' σ H Q → t σ H Q) : PE X e t' := ⟨fun pins s σ H Q I q => h.run pins s σ H Q I (i σ H Q q)⟩
theorem _root_.L2.PT.imp {X : Cx} {e : Expr} {t t' : TT} (h : PT X e t) (i : ∀ σ H Q, t' σ H Q → t σ H Q) : PT X e t' := ⟨fun pins s σ H Q I q => h.run pins s σ H Q I (i σ H Q q)⟩
end
/-! ### tame expressions -/
def tame : Expr → Bool
  | .Starred _ _ => false
  | .Set _ _ _ => false
  | .Slice _ _ _ _ => false
  | _ => true
theorem star_tame {e : Expr} (h : tame e = true) (es : List Expr) (env : Env) : starEach (e :: es) env = (false, eval e env) :: starEach es env := by
  cases e <;> first | rfl | cases h
theorem marks_tame {e : Expr} (h : tame e = true) (op : CmpOp) : behindInMarks op e = false := by
  cases e <;> first | rfl | cases h
theorem ix_tame {e : Expr} (h : tame e = true) : PlainIx e := fun o i => by
  cases e <;> first | rfl | cases h
theorem fold_tame {e : Expr} (h : tame e = true) (env : Env) : ∀ x, foldedSetIterable e env x = pure x := fun x => by
  cases e <;> first | rfl | cases h
theorem stars_tame : ∀ {es : List Expr}, es.all tame = true → ∀ (pos : Pos) (env : Env), (backTo pos (starEach es env)).any (·.1) = false
  | [], _, _, _ => rfl
  | e :: r, h, pos, env => by
    simp only [List.all_cons, Bool.and_eq_true] at h
    rw [star_tame h.1]
    exact stars_tame h.2 pos env
def noComp : Expr → Bool
  | .ListComp _ _ _ _ => false
  | .SetComp _ _ _ _ => false
  | .DictComp _ _ _ _ _ => false
  | _ => true
theorem swaps_no {e : Expr} (h : noComp e = true) (t : Option Expr) (l : Nat) (env : Env) : swapsWith e t l env = pure false := by
  cases e <;> first | rfl | cases h
def noSup : Expr → Bool
  | .Call (.Name id _) [] [] _ => id != "super"
  | _ => true
theorem attr_noSup {o : Expr} (h : noSup o = true) (f : Str) (env : Env) (whole : Sem Value) : attributeBase o f env whole = whole := by
  unfold attributeBase
  split
  · rename_i id _ _
    have : (id != "super") = true := h
    rw [this]
    simp
  · rfl
end VI

/-! VIc2: the rules node by node: expressions. -/
namespace VI
open PySem PySem.Spec PyProof.Rows L2
theorem addOp_ok {m : Bool} {a b : D} {U V : Store} {x : Ex} (h : addOp m a b U = some (.ex x V)) : False := by
  unfold addOp mkL at h
  repeat' split at h
  all_goals cases h
theorem binop_ok {op : BOp} {m : Bool} {a b : D} {U V : Store} {x : Ex} (h : binop op m a b U = some (.ex x V)) : False := by
  cases op <;> simp only [binop] at h
  · exact addOp_ok h
  · split at h <;> cases h
  · unfold mulOp at h
    repeat' split at h
    all_goals cases h
  · repeat' split at h
    all_goals cases h
  · repeat' split at h
    all_goals cases h
  · repeat' split at h
    all_goals cases h
theorem mkL_ok {m : Bool} {xs : List D} {U V : Store} {x : Ex} (h : mkL m xs U = some (.ex x V)) : False := by
  unfold mkL at h
  split at h <;> cases h
theorem index1_ok {a b : D} {U V : Store} {x : Ex} (h : index1 a b U = some (.ex x V)) : False := by
  unfold index1 at h
  repeat' split at h
  all_goals cases h
theorem slice1_ok {m : Bool} {a b c : D} {U V : Store} {x : Ex} (h : slice1 m a b c U = some (.ex x V)) : False := by
  unfold slice1 sliceB mkL at h
  repeat' split at h
  all_goals cases h
/-- how an operation that raises nothing ends -/
theorem must {α : Type} {r : VI.R α} {o : Option (VI.R α)} (h : o = some r) (n : ∀ x V, o = some (.ex x V) → False) : ∃ d U', r = .ok d U' := by
  cases r with
  | ok d U' => exact ⟨d, U', rfl⟩
  | ex x V => exact (n x V h).elim
section
variable {X : Cx} {C : Cal} {W : WX} {e e1 e2 e3 : Expr} {a b c : IE} {pos : Pos}
abbrev xE (X : Cx) (C : Cal) (W : WX) (e : IE) : TE := tE X.prog X.w X.K X.mg C W e
abbrev xT (X : Cx) (C : Cal) (W : WX) (e : IE) : TT := tT X.prog X.w X.K X.mg C W e
abbrev xA (X : Cx) (C : Cal) (W : WX) (e : IEs) : TA := tA X.prog X.w X.K X.mg C W e
theorem n_var {i : Nat} {x : Str} (hN : X.N[i]? = some x) (hv : Vis X.env.scope x) (hd : (x == ("__debug__" : Str)) = false) (hcd : (x == ("__classdict__" : Str)) = false) : PE X (.Name x pos) (xE X C W (.var i)) := by
  refine (pe_var hN hv hd hcd).imp fun σ H Q ⟨Φ, Z, β, ρ, U, r, S, R, h, o⟩ => ?_
  rw [ev] at h
  split at h
  · rename_i d hd
    cases h
    obtain ⟨v, e1, r1⟩ := S.2 i d hd
    exact ⟨v, e1, Done.same o R r1⟩
  · cases h
theorem n_cst {d : D} {v : V} (h : PE X e (tC v)) (r : ∀ Z β, RepV X.prog X.w X.K Z β d v) : PE X e (xE X C W (.cst d)) := by
  refine h.imp fun σ H Q ⟨Φ, Z, β, ρ, U, rr, S, R, h, o⟩ => ?_
  rw [ev] at h
  cases h
  exact Done.same o R (r Z β)
theorem n_glo {d : D} {v : V} {x : String} (h : PE X e (tC v)) (r : ∀ Z β, RepV X.prog X.w X.K Z β d v) : PE X e (xE X C W (.glo x d)) := by
  refine h.imp fun σ H Q ⟨Φ, Z, β, ρ, U, rr, S, R, h, o⟩ => ?_
  rw [ev] at h
  cases h
  exact Done.same o R (r Z β)
theorem n_bin (op : BOp) (m : Bool) (ha : PE X e1 (xE X C W a)) (hb : PE X e2 (xE X C W b)) : PE X (.BinOp e1 (bop op) e2 pos) (xE X C W (.bin op m a b)) := by
  refine (pe_op (or_bin op m) ha hb).imp fun σ H Q ⟨Φ, Z, β, ρ, U, r, S, R, h, o⟩ => ?_
  rw [ev] at h
  refine tE_bnd S R h o.wish fun Z1 β1 H1 d v U1 z1 b1 R1 r1 S1 h1 => ?_
  refine tE_bnd S1 R1 h1 (o.monoE z1 b1).wish fun Z2 β2 H2 d2 v2 U2 z2 b2 R2 r2 S2 h2 => ?_
  obtain ⟨d3, U3, rfl⟩ := must h2 fun x V => binop_ok
  exact ⟨Φ, Z2, β2, U2, d, d2, d3, U3, R2, RepV.mono z2 b2 r1, r2, h2, ((o.monoE z1 b1).monoE z2 b2)⟩
theorem n_neg (ha : PE X e1 (xE X C W a)) : PE X (.UnaryOp .USub e1 pos) (xE X C W (.neg a)) := by
  refine (pe_un un_neg ha).imp fun σ H Q ⟨Φ, Z, β, ρ, U, r, S, R, h, o⟩ => ?_
  rw [ev] at h
  refine tE_bnd S R h o.wish fun Z1 β1 H1 d v U1 z1 b1 R1 r1 S1 h1 => ?_
  split at h1
  · rename_i i
    cases h1
    simp only [RepV] at r1
    exact ⟨i, r1, Done.int ((o.monoE z1 b1)) R1⟩
  · cases h1
theorem n_cmp (hu : X.A.units + 65 < cLine) (op : COp) (ht : tame e2 = true) (ha : PE X e1 (xE X C W a)) (hb : PE X e2 (xE X C W b)) : PE X (.Compare e1 [cop op] [e2] pos) (xE X C W (.cmp op a b)) := by
  refine (pe_cmpR (or_cmp hu op) ha hb (marks_tame ht _)).imp fun σ H Q ⟨Φ, Z, β, ρ, U, r, S, R, h, o⟩ => ?_
  rw [ev] at h
  refine tE_bnd S R h o.wish fun Z1 β1 H1 d v U1 z1 b1 R1 r1 S1 h1 => ?_
  refine tE_bnd S1 R1 h1 (o.monoE z1 b1).wish fun Z2 β2 H2 d2 v2 U2 z2 b2 R2 r2 S2 h2 => ?_
  split at h2
  · rename_i k hk
    cases h2
    exact ⟨Φ, Z2, β2, U2, d, d2, k, R2, RepV.mono z2 b2 r1, r2, hk, Done.bl ((o.monoE z1 b1).monoE z2 b2) R2⟩
  · cases h2
theorem n_test (hd : ∀ ρ U, evB C a ρ U = bnd (ev C a ρ U) fun x U1 => tru x U1) (ht : ∀ whole, PySem.isTrue e X.env whole = (do let v ← whole; standAt e.pos; holding [v] (truthy v)))
    (ha : PE X e (xE X C W a)) : PT X e (xT X C W a) := by
  refine ⟨fun pins s σ H Q I ⟨Φ, Z, β, ρ, U, r, S, R, h, o⟩ => ?_⟩
  rw [hd] at h
  refine isTrue_plain (L2.thn (ha.run pins s σ H (fun x H' => ∃ Z β U a k, Rel X.prog X.w X.K X.mg Φ Z β U H' ∧ RepV X.prog X.w X.K Z β a x ∧ truth U a = some k ∧ Q k H') I ?_) fun v s1 ⟨x, H1, I1, r1, Z1, β1, U1, a1, k, R1, p1, t1, q1⟩ => or_truth pins s1 σ H1 x v Q I1 r1 ⟨Φ, Z1, β1, U1, a1, k, R1, p1, t1, q1⟩) (ht _)
  refine tE_bnd S R h o.wish fun Z1 β1 H1 d v U1 z1 b1 R1 r1 S1 h1 => ?_
  unfold tru at h1
  split at h1
  · rename_i k hk
    cases h1
    exact ⟨Z1, β1, U1, d, k, R1, r1, hk, o.ok Z1 β1 H1 z1 b1 R1⟩
  · cases h1
/-- a comparison as a test -/
theorem n_cmpT (hu : X.A.units + 65 < cLine) (op : COp) (ht : tame e2 = true) (ha : PE X e1 (xE X C W a)) (hb : PE X e2 (xE X C W b)) : PT X (.Compare e1 [cop op] [e2] pos) (xT X C W (.cmp op a b)) := by
  refine (pt_cmpR (or_cmp hu op) ha hb (marks_tame ht _)).imp fun σ H Q ⟨Φ, Z, β, ρ, U, r, S, R, h, o⟩ => ?_
  have h : (bnd (ev C (.cmp op a b) ρ U) fun x U1 => tru x U1) = some r := by
    simpa only [evB] using h
  rw [ev] at h
  have e : ∀ (o1 : Option (VI.R D)) (f : D → M D) (g : D → M Bool), bnd (bnd o1 f) g = bnd o1 fun x U1 => bnd (f x U1) g := by
    intro o1 f g
    cases o1 with
    | none => rfl
    | some r => cases r <;> rfl
  rw [e] at h
  refine tE_bnd S R h o.wish fun Z1 β1 H1 d v U1 z1 b1 R1 r1 S1 h1 => ?_
  rw [e] at h1
  refine tE_bnd S1 R1 h1 (o.monoT z1 b1).wish fun Z2 β2 H2 d2 v2 U2 z2 b2 R2 r2 S2 h2 => ?_
  split at h2
  · rename_i k hk
    simp only [bnd_ok, tru, truth] at h2
    cases h2
    exact ⟨Φ, Z2, β2, U2, d, d2, k, R2, RepV.mono z2 b2 r1, r2, hk, k, rfl, ((o.monoT z1 b1).monoT z2 b2).ok Z2 β2 H2 (ZLe.refl _) (BLe.refl _) R2⟩
  · cases h2
theorem marks2_tame {op op' : CmpOp} (ht : tame e3 = true) : lastMarks [op, op'] [e2, e3] = false := by
  unfold lastMarks
  unfold lastMarks
  exact marks_tame ht _
theorem n_cmp2 (hu : X.A.units + 65 < cLine) (op op' : COp) (ht : tame e3 = true) (ha : PE X e1 (xE X C W a)) (hb : PE X e2 (xE X C W b)) (hc : PE X e3 (xE X C W c)) : PE X (.Compare e1 [cop op, cop op'] [e2, e3] pos) (xE X C W (.cmp2 op op' a b c)) := by
  refine (pe_chain (or_cmp hu op) (or_cmp hu op') ha hb hc (marks2_tame ht)).imp fun σ H Q ⟨Φ, Z, β, ρ, U, r, S, R, h, o⟩ => ?_
  rw [ev] at h
  refine tE_bnd S R h o.wish fun Z1 β1 H1 d v U1 z1 b1 R1 r1 S1 h1 => ?_
  refine tE_bnd S1 R1 h1 (o.monoE z1 b1).wish fun Z2 β2 H2 d2 v2 U2 z2 b2 R2 r2 S2 h2 => ?_
  split at h2
  · rename_i k hk
    refine ⟨Φ, Z2, β2, U2, d, d2, k, R2, RepV.mono z2 b2 r1, r2, hk, k, rfl, ?_⟩
    cases k with
    | false =>
      rw [if_neg Bool.false_ne_true] at h2 ⊢
      cases h2
      exact Done.bl ((o.monoE z1 b1).monoE z2 b2) R2
    | true =>
      rw [if_pos rfl] at h2 ⊢
      refine tE_bnd S2 R2 h2 ((o.monoE z1 b1).monoE z2 b2).wish fun Z3 β3 H3 d3 v3 U3 z3 b3 R3 r3 S3 h3 => ?_
      split at h3
      · rename_i j hj
        cases h3
        exact ⟨Φ, Z3, β3, U3, d2, d3, j, R3, RepV.mono z3 b3 r2, r3, hj, Done.bl (((o.monoE z1 b1).monoE z2 b2).monoE z3 b3) R3⟩
      · cases h3
  · cases h2
theorem n_cmp2T (hu : X.A.units + 65 < cLine) (op op' : COp) (ht : tame e3 = true) (ha : PE X e1 (xE X C W a)) (hb : PE X e2 (xE X C W b)) (hc : PE X e3 (xE X C W c)) : PT X (.Compare e1 [cop op, cop op'] [e2, e3] pos) (xT X C W (.cmp2 op op' a b c)) := by
  refine (pt_chain (or_cmp hu op) (or_cmp hu op') ha hb hc (marks2_tame ht)).imp fun σ H Q ⟨Φ, Z, β, ρ, U, r, S, R, h, o⟩ => ?_
  have h : (bnd (ev C (.cmp2 op op' a b c) ρ U) fun x U1 => tru x U1) = some r := by
    simpa only [evB] using h
  rw [ev] at h
  have e : ∀ (o1 : Option (VI.R D)) (f : D → M D) (g : D → M Bool), bnd (bnd o1 f) g = bnd o1 fun x U1 => bnd (f x U1) g := by
    intro o1 f g
    cases o1 with
    | none => rfl
    | some r => cases r <;> rfl
  rw [e] at h
  refine tE_bnd S R h o.wish fun Z1 β1 H1 d v U1 z1 b1 R1 r1 S1 h1 => ?_
  rw [e] at h1
  refine tE_bnd S1 R1 h1 (o.monoT z1 b1).wish fun Z2 β2 H2 d2 v2 U2 z2 b2 R2 r2 S2 h2 => ?_
  split at h2
  · rename_i k hk
    refine ⟨Φ, Z2, β2, U2, d, d2, k, R2, RepV.mono z2 b2 r1, r2, hk, k, rfl, ?_⟩
    cases k with
    | false =>
      rw [if_neg Bool.false_ne_true] at h2 ⊢
      simp only [bnd_ok, tru, truth] at h2
      cases h2
      exact ⟨false, rfl, ((o.monoT z1 b1).monoT z2 b2).ok Z2 β2 H2 (ZLe.refl _) (BLe.refl _) R2⟩
    | true =>
      rw [if_pos rfl] at h2 ⊢
      rw [e] at h2
      refine tE_bnd S2 R2 h2 ((o.monoT z1 b1).monoT z2 b2).wish fun Z3 β3 H3 d3 v3 U3 z3 b3 R3 r3 S3 h3 => ?_
      split at h3
      · rename_i j hj
        simp only [bnd_ok, tru, truth] at h3
        cases h3
        exact ⟨Φ, Z3, β3, U3, d2, d3, j, R3, RepV.mono z3 b3 r2, r3, hj, j, rfl, (((o.monoT z1 b1).monoT z2 b2).monoT z3 b3).ok Z3 β3 H3 (ZLe.refl _) (BLe.refl _) R3⟩
      · cases h3
  · cases h2
/-! ### and, or, not; a if t else b -/
theorem n_and {es : List Expr} (ha : PE X e1 (xE X C W a)) (hb : PE X (.BoolOp .And (e2 :: es) pos) (xE X C W b)) : PE X (.BoolOp .And (e1 :: e2 :: es) pos) (xE X C W (.andE a b)) := by
  refine (pe_and ha hb).imp fun σ H Q ⟨Φ, Z, β, ρ, U, r, S, R, h, o⟩ => ?_
  rw [ev] at h
  refine tE_bnd S R h o.wish fun Z1 β1 H1 d v U1 z1 b1 R1 r1 S1 h1 => ?_
  split at h1
  · rename_i k
    simp only [RepV] at r1
    refine ⟨k, r1, ?_⟩
    cases k with
    | true => exact ⟨Φ, Z1, β1, ρ, U1, r, S1, R1, by simpa using h1, o.monoE z1 b1⟩
    | false =>
      simp only [Bool.false_eq_true, if_false] at h1 ⊢
      cases h1
      exact Done.bl (o.monoE z1 b1) R1
  · cases h1
theorem n_or {es : List Expr} (ha : PE X e1 (xE X C W a)) (hb : PE X (.BoolOp .Or (e2 :: es) pos) (xE X C W b)) : PE X (.BoolOp .Or (e1 :: e2 :: es) pos) (xE X C W (.orE a b)) := by
  refine (pe_or ha hb).imp fun σ H Q ⟨Φ, Z, β, ρ, U, r, S, R, h, o⟩ => ?_
  rw [ev] at h
  refine tE_bnd S R h o.wish fun Z1 β1 H1 d v U1 z1 b1 R1 r1 S1 h1 => ?_
  split at h1
  · rename_i k
    simp only [RepV] at r1
    refine ⟨k, r1, ?_⟩
    cases k with
    | false => exact ⟨Φ, Z1, β1, ρ, U1, r, S1, R1, by simpa using h1, o.monoE z1 b1⟩
    | true =>
      simp only [if_true] at h1 ⊢
      cases h1
      exact Done.bl (o.monoE z1 b1) R1
  · cases h1
theorem n_not (ha : PE X e1 (xE X C W a)) : PE X (.UnaryOp .Not e1 pos) (xE X C W (.notE a)) := by
  refine (pe_not ha).imp fun σ H Q ⟨Φ, Z, β, ρ, U, r, S, R, h, o⟩ => ?_
  rw [ev] at h
  refine tE_bnd S R h o.wish fun Z1 β1 H1 d v U1 z1 b1 R1 r1 S1 h1 => ?_
  split at h1
  · rename_i k
    simp only [RepV] at r1
    cases h1
    exact ⟨k, r1, Done.bl (o.monoE z1 b1) R1⟩
  · cases h1
/-- a test of and, or is one whatever its whole is -/
theorem pw_of {op : PySem.BoolOp} {es : List Expr} {t : TT} (h : PT X (.BoolOp op es pos) t) : PW X (.BoolOp op es pos) t := by
  refine ⟨fun whole pins s σ H Q I q => ?_⟩
  have e : PySem.isTrue (.BoolOp op es pos) X.env whole = PySem.isTrue (.BoolOp op es pos) X.env (eval (.BoolOp op es pos) X.env) := by
    simp only [PySem.isTrue]
  rw [e]
  exact h.run pins s σ H Q I q
theorem n_andT {es : List Expr} (ha : PT X e1 (xT X C W a)) (hb : PW X (.BoolOp .And (e2 :: es) pos) (xT X C W b)) : PT X (.BoolOp .And (e1 :: e2 :: es) pos) (xT X C W (.andE a b)) := by
  refine (pw_and ha hb).pt.imp fun σ H Q ⟨Φ, Z, β, ρ, U, r, S, R, h, o⟩ => ?_
  rw [evB] at h
  refine tT_bnd S R h o.wish fun Z1 β1 H1 k U1 z1 b1 R1 S1 h1 => ?_
  cases k with
  | true =>
    simp only [if_true] at h1 ⊢
    exact ⟨Φ, Z1, β1, ρ, U1, r, S1, R1, h1, o.monoT z1 b1⟩
  | false =>
    simp only [Bool.false_eq_true, if_false] at h1 ⊢
    cases h1
    exact (o.monoT z1 b1).ok Z1 β1 H1 (ZLe.refl _) (BLe.refl _) R1
theorem n_orT {es : List Expr} (ha : PT X e1 (xT X C W a)) (hb : PW X (.BoolOp .Or (e2 :: es) pos) (xT X C W b)) : PT X (.BoolOp .Or (e1 :: e2 :: es) pos) (xT X C W (.orE a b)) := by
  refine (pw_or ha hb).pt.imp fun σ H Q ⟨Φ, Z, β, ρ, U, r, S, R, h, o⟩ => ?_
  rw [evB] at h
  refine tT_bnd S R h o.wish fun Z1 β1 H1 k U1 z1 b1 R1 S1 h1 => ?_
  cases k with
  | false =>
    simp only [Bool.false_eq_true, if_false] at h1 ⊢
    exact ⟨Φ, Z1, β1, ρ, U1, r, S1, R1, h1, o.monoT z1 b1⟩
  | true =>
    simp only [if_true] at h1 ⊢
    cases h1
    exact (o.monoT z1 b1).ok Z1 β1 H1 (ZLe.refl _) (BLe.refl _) R1
theorem n_notT (ha : PT X e1 (xT X C W a)) : PT X (.UnaryOp .Not e1 pos) (xT X C W (.notE a)) := by
  refine (pt_not ha).imp fun σ H Q ⟨Φ, Z, β, ρ, U, r, S, R, h, o⟩ => ?_
  rw [evB] at h
  refine tT_bnd S R h o.wish fun Z1 β1 H1 k U1 z1 b1 R1 S1 h1 => ?_
  cases h1
  exact (o.monoT z1 b1).ok Z1 β1 H1 (ZLe.refl _) (BLe.refl _) R1
theorem n_ite (ht : PT X e1 (xT X C W a)) (ha : PE X e2 (xE X C W b)) (hb : PE X e3 (xE X C W c)) : PE X (.IfExp e1 e2 e3 pos) (xE X C W (.ite a b c)) := by
  refine (pe_ifExp ht ha hb).imp fun σ H Q ⟨Φ, Z, β, ρ, U, r, S, R, h, o⟩ => ?_
  rw [ev] at h
  refine tT_bnd S R h o.wish fun Z1 β1 H1 k U1 z1 b1 R1 S1 h1 => ?_
  cases k with
  | false =>
    simp only [Bool.false_eq_true, if_false] at h1 ⊢
    exact ⟨Φ, Z1, β1, ρ, U1, r, S1, R1, h1, o.monoE z1 b1⟩
  | true =>
    simp only [if_true] at h1 ⊢
    exact ⟨Φ, Z1, β1, ρ, U1, r, S1, R1, h1, o.monoE z1 b1⟩
/-! ### lists of expressions, displays -/
def IEs.len : IEs → Nat
  | .nil => 0
  | .cons _ r => r.len + 1
theorem evs_len : ∀ {es : IEs} {ρ : Rho} {U U' : Store} {ds : List D}, evs C es ρ U = some (.ok ds U') → ds.length = es.len
  | .nil, ρ, U, U', ds, h => by
    rw [evs] at h
    cases h
    rfl
  | .cons e r, ρ, U, U', ds, h => by
    rw [evs] at h
    cases q : ev C e ρ U with
    | none => rw [q] at h; cases h
    | some r1 =>
      rw [q] at h
      cases r1 with
      | ex x V => cases h
      | ok d V =>
        rw [bnd_ok] at h
        cases q2 : evs C r ρ V with
        | none => rw [q2] at h; cases h
        | some r2 =>
          rw [q2] at h
          cases r2 with
          | ex x V => cases h
          | ok ds2 V2 =>
            cases h
            simp [IEs.len, evs_len q2]
theorem n_nil : PA X [] (xA X C W .nil) := by
  refine ⟨fun pos pins s σ H Q I ⟨Φ, Z, β, ρ, U, r, S, R, h, o⟩ => pa_nil.run pos pins s σ H Q I ?_⟩
  rw [evs] at h
  cases h
  exact o.ok Z β H [] (ZLe.refl _) (BLe.refl _) R RepL.nil
theorem n_cons {es : List Expr} {as : IEs} (ht : tame e = true) (ha : PE X e (xE X C W a)) (hb : PA X es (xA X C W as)) : PA X (e :: es) (xA X C W (.cons a as)) := by
  refine ⟨fun pos pins s σ H Q I ⟨Φ, Z, β, ρ, U, r, S, R, h, o⟩ => (pa_cons ha hb (star_tame ht es X.env)).run pos pins s σ H Q I ?_⟩
  rw [evs] at h
  refine tE_bnd S R h o.wish fun Z1 β1 H1 d v U1 z1 b1 R1 r1 S1 h1 => ?_
  refine tA_bnd S1 R1 h1 (o.monoL z1 b1).wish fun Z2 β2 H2 ds vs U2 z2 b2 R2 r2 S2 h2 => ?_
  cases h2
  exact ((o.monoL z1 b1).monoL z2 b2).ok Z2 β2 H2 (v :: vs) (ZLe.refl _) (BLe.refl _) R2 (RepL.cons (RepV.mono z2 b2 r1) r2)
theorem n_tup {es : List Expr} {as : IEs} {k : Nat} (hl : as.len ≤ 1000) (ha : PA X es (xA X C W as)) : PE X (.Tuple es k pos) (xE X C W (.tup as)) := by
  refine (pe_tup ha).imp fun σ H Q ⟨Φ, Z, β, ρ, U, r, S, R, h, o⟩ => ?_
  rw [ev] at h
  cases q : evs C as ρ U with
  | none => rw [q] at h; cases h
  | some r1 =>
    rw [q] at h
    refine ⟨Φ, Z, β, ρ, U, r1, S, R, q, ?_⟩
    cases r1 with
    | ex x V =>
      cases h
      exact o
    | ok ds V =>
      cases h
      intro Z1 β1 H1 vs z1 b1 R1 r1
      refine ⟨?_, fun p hp => Done.tup (Done.mono o z1 b1) R1 r1 hp⟩
      rw [← r1.length, evs_len q, sizeLine_eq]
      omega
theorem n_lst {es : List Expr} {as : IEs} {m : Bool} (hl : as.len ≤ 1000) (ha : PA X es (xA X C W as)) : PE X (.List es pos) (xE X C W (.lst m as)) := by
  refine (pe_lst ha).imp fun σ H Q ⟨Φ, Z, β, ρ, U, r, S, R, h, o⟩ => ?_
  rw [ev] at h
  cases q : evs C as ρ U with
  | none => rw [q] at h; cases h
  | some r1 =>
    rw [q] at h
    refine ⟨Φ, Z, β, ρ, U, r1, S, R, q, ?_⟩
    cases r1 with
    | ex x V =>
      cases h
      exact o
    | ok ds V =>
      rw [bnd_ok] at h
      obtain ⟨d3, U3, rfl⟩ := must h fun x V => mkL_ok
      intro Z1 β1 H1 vs z1 b1 R1 r1
      refine ⟨?_, fun p hp => Done.lst (Done.mono o z1 b1) R1 h r1 hp⟩
      rw [← r1.length, evs_len q, sizeLine_eq]
      omega
/-! ### items, slices -/
theorem n_idx (hu : X.A.units + 64 < cLine) (ht : tame e2 = true) (ha : PE X e1 (xE X C W a)) (hb : PE X e2 (xE X C W b)) : PE X (.Subscript e1 e2 pos) (xE X C W (.idx a b)) := by
  refine (pe_ix (ix_all hu) ha hb (ix_tame ht)).imp fun σ H Q ⟨Φ, Z, β, ρ, U, r, S, R, h, o⟩ => ?_
  rw [ev] at h
  refine tE_bnd S R h o.wish fun Z1 β1 H1 d v U1 z1 b1 R1 r1 S1 h1 => ?_
  refine tE_bnd S1 R1 h1 (o.monoE z1 b1).wish fun Z2 β2 H2 d2 v2 U2 z2 b2 R2 r2 S2 h2 => ?_
  obtain ⟨d3, U3, rfl⟩ := must h2 fun x V => index1_ok
  exact ⟨Φ, Z2, β2, U2, d, d2, d3, U3, R2, RepV.mono z2 b2 r1, r2, h2, ((o.monoE z1 b1).monoE z2 b2)⟩
/-- a part of a slice -/
def xO (X : Cx) (C : Cal) (W : WX) (e : IE) : TO := fun σ H Q => ∃ Φ Z β ρ U r, RepS X.prog X.w X.K Z β ρ σ ∧ Rel X.prog X.w X.K X.mg Φ Z β U H ∧ ev C e ρ U = some r ∧
  Out X.prog X.w X.K X.mg W Φ Z β σ (fun d U' => ∃ o, bnd? d = some o ∧ DoneB X.prog X.w X.K X.mg Φ Z β U' (Q o)) r
theorem n_none : PO X none (xO X C W (.cst .non)) := by
  refine ⟨fun pins s σ H Q I ⟨Φ, Z, β, ρ, U, r, S, R, h, o⟩ => po_none.run pins s σ H Q I ?_⟩
  rw [ev] at h
  cases h
  obtain ⟨o1, e1, q⟩ := o.ok
  cases e1
  exact q Z β H (ZLe.refl _) (BLe.refl _) R
theorem n_some (ha : PE X e (xE X C W a)) : PO X (some e) (xO X C W a) := by
  refine ⟨fun pins s σ H Q I ⟨Φ, Z, β, ρ, U, r, S, R, h, o⟩ => ?_⟩
  rw [evalPart_some]
  refine L2.thn (ha.run pins s σ H (fun v H' => (v = .non ∧ Q none H') ∨ ∃ i, v = .int i ∧ Q (some i) H') I ⟨Φ, Z, β, ρ, U, r, S, R, h, ?_⟩) fun u s1 ⟨x, H1, I1, r1, q1⟩ => ?_
  · cases r with
    | ex x V => exact o
    | ok d V =>
      obtain ⟨o1, e1, q⟩ := o.ok
      intro Z1 β1 H1 v z1 b1 R1 r1
      cases d with
      | non =>
        cases e1
        simp only [RepV] at r1
        exact .inl ⟨r1, q Z1 β1 H1 z1 b1 R1⟩
      | int i =>
        cases e1
        simp only [RepV] at r1
        exact .inr ⟨i, r1, q Z1 β1 H1 z1 b1 R1⟩
      | _ => cases e1
  · rcases q1 with ⟨rfl, q⟩ | ⟨i, rfl, q⟩
    · cases r1
      exact ⟨none, H1, I1, .none, q⟩
    · obtain ⟨t, rfl⟩ := r1
      exact ⟨some i, H1, I1, .int i t, q⟩
theorem n_slc {m : Bool} {lo hi : Option Expr} {p2 : Pos} (ha : PE X e1 (xE X C W a)) (hb : PO X lo (xO X C W b)) (hc : PO X hi (xO X C W c)) : PE X (.Subscript e1 (.Slice lo hi none p2) pos) (xE X C W (.slc m a b c)) := by
  refine (pe_slice (sl_all m) ha hb hc).imp fun σ H Q ⟨Φ, Z, β, ρ, U, r, S, R, h, o⟩ => ?_
  rw [ev] at h
  refine tE_bnd S R h o.wish fun Z1 β1 H1 d v U1 z1 b1 R1 r1 S1 h1 => ?_
  cases q1 : ev C b ρ U1 with
  | none => rw [q1] at h1; cases h1
  | some g1 =>
    rw [q1] at h1
    refine ⟨Φ, Z1, β1, ρ, U1, g1, S1, R1, q1, ?_⟩
    cases g1 with
    | ex x V =>
      cases h1
      exact (o.monoE z1 b1)
    | ok dl V =>
      rw [bnd_ok] at h1
      split at h1
      rotate_left
      · cases h1
      rename_i hl0
      have hl1 := Option.isSome_iff_exists.mp hl0
      cases q2 : ev C c ρ V with
      | none => rw [q2] at h1; cases h1
      | some g2 =>
        rw [q2] at h1
        cases g2 with
        | ex x V2 =>
          cases h1
          obtain ⟨l, el⟩ := hl1
          exact ⟨l, el, fun Z2 β2 H2 z2 b2 R2 => ⟨Φ, Z2, β2, ρ, V, .ex x V2, S1.mono z2 b2, R2, q2, (o.monoE z1 b1).monoE z2 b2⟩⟩
        | ok dh V2 =>
          rw [bnd_ok] at h1
          obtain ⟨d3, U3, rfl⟩ := must h1 fun x V => slice1_ok
          have hl : (∃ o, bnd? dl = some o) ∧ ∃ o, bnd? dh = some o := by
            unfold slice1 at h1
            split at h1
            · exact ⟨⟨_, by assumption⟩, ⟨_, by assumption⟩⟩
            · cases h1
          obtain ⟨⟨l, el⟩, u, eu⟩ := hl
          refine ⟨l, el, fun Z2 β2 H2 z2 b2 R2 => ⟨Φ, Z2, β2, ρ, V, .ok dh V2, S1.mono z2 b2, R2, q2, u, eu, fun Z3 β3 H3 z3 b3 R3 => ?_⟩⟩
          exact ⟨Φ, Z3, β3, V2, d, dl, dh, d3, U3, R3, RepV.mono (z2.trans z3) (b2.trans b3) r1, el, eu, h1, ((o.monoE z1 b1).monoE z2 b2).monoE z3 b3⟩
end
end VI

/-! VIc3: calls. -/
namespace VI
open PySem PySem.Spec PyProof.Rows L2
section
variable {P : Program} {w : World} {K : PySem.W.Frag} {Z₀ Z' : Hp} {β β' : List Addr}
mutual
/-- what once stood in less needs no more -/
theorem RepV.cutB (b : BLe β β') : ∀ {d : D} {v₀ v : V}, RepV P w K Z₀ β d v₀ → RepV P w K Z' β' d v → RepV P w K Z' β d v
  | .non, _, _, _, h => by simp only [RepV] at h ⊢; exact h
  | .bl _, _, _, _, h => by simp only [RepV] at h ⊢; exact h
  | .int _, _, _, _, h => by simp only [RepV] at h ⊢; exact h
  | .str _, _, _, _, h => by simp only [RepV] at h ⊢; exact h
  | .exn _ _, _, _, h₀, _ => by simp only [RepV] at h₀
  | .tup xs, v₀, v, h₀, h => by
    simp only [RepV] at h₀ h ⊢
    obtain ⟨_, vs₀, _, _, q₀⟩ := h₀
    obtain ⟨a, vs, e, s, q⟩ := h
    exact ⟨a, vs, e, s, RepL.cutB b q₀ q⟩
  | .lst xs, v₀, v, h₀, h => by
    simp only [RepV] at h₀ h ⊢
    obtain ⟨_, vs₀, _, _, q₀⟩ := h₀
    obtain ⟨a, vs, e, s, q⟩ := h
    exact ⟨a, vs, e, s, RepL.cutB b q₀ q⟩
  | .dct t kvs, v₀, v, h₀, h => by
    simp only [RepV] at h₀ h ⊢
    obtain ⟨_, _, q₀⟩ := h₀
    obtain ⟨a, e, q⟩ := h
    refine ⟨a, e, ?_⟩
    rcases q with ⟨t0, l, e1, q⟩ | ⟨t1, l, e1, nd, q⟩
    · rcases q₀ with ⟨_, l₀, _, q₀⟩ | ⟨t1, _⟩
      · exact .inl ⟨t0, l, e1, RepK.cutB b q₀ q⟩
      · rw [t0] at t1; cases t1
    · rcases q₀ with ⟨t0, _⟩ | ⟨_, l₀, _, _, q₀⟩
      · rw [t0] at t1; cases t1
      · exact .inr ⟨t1, l, e1, nd, RepT.cutB b q₀ q⟩
  | .ref n, v₀, v, h₀, h => by
    simp only [RepV] at h₀ h ⊢
    obtain ⟨a₀, _, e₀⟩ := h₀
    obtain ⟨a, e, e1⟩ := h
    rw [b.get e₀] at e1
    cases e1
    exact ⟨a₀, e, e₀⟩
theorem RepL.cutB (b : BLe β β') : ∀ {d : List D} {v₀ v : List V}, RepL P w K Z₀ β d v₀ → RepL P w K Z' β' d v → RepL P w K Z' β d v
  | [], _, _, _, h => by simp only [RepL] at h ⊢; exact h
  | x :: r, v₀, v, h₀, h => by
    simp only [RepL] at h₀ h ⊢
    obtain ⟨_, _, _, p₀, q₀⟩ := h₀
    obtain ⟨v, s, e, p, q⟩ := h
    exact ⟨v, s, e, RepV.cutB b p₀ p, RepL.cutB b q₀ q⟩
theorem RepK.cutB (b : BLe β β') : ∀ {d : List (D × D)} {v₀ v : List (Key × V)}, RepK P w K Z₀ β d v₀ → RepK P w K Z' β' d v → RepK P w K Z' β d v
  | [], _, _, _, h => by simp only [RepK] at h ⊢; exact h
  | (k, x) :: r, v₀, v, h₀, h => by
    simp only [RepK] at h₀ h ⊢
    obtain ⟨_, _, _, _, _, p₀, q₀⟩ := h₀
    obtain ⟨kk, v, s, e, hk, p, q⟩ := h
    exact ⟨kk, v, s, e, hk, RepV.cutB b p₀ p, RepK.cutB b q₀ q⟩
theorem RepT.cutB (b : BLe β β') : ∀ {d : List (D × D)} {v₀ v : List (NestedKey × Addr × Value)}, RepT P w K Z₀ β d v₀ → RepT P w K Z' β' d v → RepT P w K Z' β d v
  | [], _, _, _, h => by simp only [RepT] at h ⊢; exact h
  | (k, x) :: r, v₀, v, h₀, h => by
    simp only [RepT] at h₀ h ⊢
    obtain ⟨_, _, _, _, _, _, k₀, _, p₀, q₀⟩ := h₀
    obtain ⟨c, u, v, s, e, hk, rk, ru, p, q⟩ := h
    exact ⟨c, u, v, s, e, hk, RepV.cutB b k₀ rk, ru, RepV.cutB b p₀ p, RepT.cutB b q₀ q⟩
end
theorem RepF.cutB (b : BLe β β') : ∀ {d : List (String × D)} {v₀ v : List (Str × V)}, RepF P w K Z₀ β d v₀ → RepF P w K Z' β' d v → RepF P w K Z' β d v
  | [], _, _, _, h => h
  | (k, x) :: r, v₀, v, h₀, h => by
    obtain ⟨_, _, _, _, p₀, q₀⟩ := h₀
    obtain ⟨hf, v, s, e, p, q⟩ := h
    exact ⟨hf, v, s, e, RepV.cutB b p₀ p, RepF.cutB b q₀ q⟩
theorem RepO.cutB {mg : Str → Option Value} {H H' : Hp} (b : BLe β β') {o : MO} {a a' : Addr} (h₀ : RepO P w K mg Z₀ β H o a) (h : RepO P w K mg Z' β' H' o a') : RepO P w K mg Z' β H' o a' := by
  cases o with
  | lst xs =>
    obtain ⟨vs₀, _, q₀⟩ := h₀
    obtain ⟨vs, e, q⟩ := h
    exact ⟨vs, e, q₀.cutB b q⟩
  | dct t kvs =>
    rcases h with ⟨t0, l, e1, q⟩ | ⟨t1, l, e1, nd, q⟩
    · rcases h₀ with ⟨_, l₀, _, q₀⟩ | ⟨t1, _⟩
      · exact .inl ⟨t0, l, e1, RepK.cutB b q₀ q⟩
      · rw [t0] at t1; cases t1
    · rcases h₀ with ⟨t0, _⟩ | ⟨_, l₀, _, _, q₀⟩
      · rw [t0] at t1; cases t1
      · exact .inr ⟨t1, l, e1, nd, RepT.cutB b q₀ q⟩
  | ins c fs =>
    obtain ⟨_, _, l₀, _, _, q₀⟩ := h₀
    obtain ⟨C, dx, l, e1, e2, q⟩ := h
    exact ⟨C, dx, l, e1, e2, q₀.cutB b q⟩
end
section
variable {P : Program} {w : World} {K : PySem.W.Frag} {mg : Str → Option Value} {Φ : List (Addr × HO)} {Z Z' : Hp} {β β' : List Addr} {U V : Store} {H H' : Hp}
open Classical in
/-- what a call made, taken as frozen -/
noncomputable def frzZ (Z' : Hp) (β' : List Addr) (n : Nat) (H' : Hp) : Hp := fun a => if a ∈ β'.drop n then H' a else Z' a
theorem Rel.frz (R : Rel P w K mg Φ Z β U H) (b : BLe β β') (R' : Rel P w K mg Φ Z' β' V H') (hV : V.take U.length = U) :
    Rel P w K mg Φ (frzZ Z' β' U.length H') β U H' ∧ ZLe Z' (frzZ Z' β' U.length H') := by
  have le : ZLe Z' (frzZ Z' β' U.length H') := fun a o e => by
    unfold frzZ
    rw [if_neg (fun hm => by
      have := R'.sep a (List.mem_of_mem_drop hm)
      rw [this] at e
      cases e)]
    exact e
  obtain ⟨γ, hγ⟩ := b
  have hd : β'.drop U.length = γ := by
    rw [hγ, ← R.len, List.drop_left]
  have hβ : ∀ a ∈ β, a ∉ β'.drop U.length := fun a ha hm => by
    rw [hd] at hm
    have nd := R'.nd
    rw [hγ, List.nodup_append] at nd
    exact nd.2.2 a ha a hm rfl
  refine ⟨⟨fun a o e => ?_, R.len, R.nd, fun a ha => ?_, fun n o a e1 e2 => ?_, fun q hq => ?_⟩, le⟩
  · unfold frzZ at e
    split at e
    · exact e
    · exact R'.zle a o e
  · unfold frzZ
    rw [if_neg (hβ a ha)]
    exact R'.sep a (by rw [hγ]; exact List.mem_append_left _ ha)
  · have e3 : V[n]? = some o := by
      rw [← hV] at e1
      rw [List.getElem?_take] at e1
      split at e1
      · exact e1
      · cases e1
    have e4 : β'[n]? = some a := BLe.get ⟨γ, hγ⟩ e2
    have h1 := R'.obj n o a e3 e4
    have h2 := R.obj n o a e1 e2
    exact (RepO.cutB ⟨γ, hγ⟩ h2 h1).mono le (BLe.refl β) rfl
  · obtain ⟨q1, q2, q3⟩ := R'.ext q hq
    refine ⟨q1, ?_, (R.ext q hq).2.2⟩
    unfold frzZ
    rw [if_neg fun hm => q3 (List.mem_of_mem_drop hm)]
    exact q2
theorem done_frz {d d' : D} {Q : VK} (R : Rel P w K mg Φ Z β U H) (hV : V.take U.length = U) (hs : rs V U.length d = some d') (dn : Done P w K mg Φ Z β d' U Q) : Done P w K mg Φ Z β d V Q := fun Z' β' H' v z b R' r' => by
  obtain ⟨R2, z2⟩ := R.frz b R' hV
  refine dn _ β H' v (z.trans z2) (BLe.refl β) R2 ?_
  refine rsv_rep z2 (fun n a d' e1 e2 => ?_) hs r'
  refine subAt_rep R' z2 (fun n a hn e => ?_) (fun n a hn e => ?_) 8 _ _ _ e1 e2
  · unfold frzZ
    rw [if_pos]
    exact List.mem_drop_iff_getElem.mpr (by
      obtain ⟨h1, h2⟩ := List.getElem?_eq_some_iff.mp e
      exact ⟨n - U.length, by omega, by simp only [show U.length + (n - U.length) = n by omega]; exact h2⟩)
  · obtain ⟨γ, hγ⟩ := b
    rw [hγ, List.getElem?_append_left (by rw [R.len]; exact hn)] at e
    exact e
theorem doneX_frz {x : Ex} {E : XK} (R : Rel P w K mg Φ Z β U H) (hV : V.take U.length = U) (hp : flat x.p = true) (dn : DoneX P w K mg Φ Z β x U E) : DoneX P w K mg Φ Z β x V E := fun Z' β' H' C dx v z b R' hc r' hd => by
  obtain ⟨R2, z2⟩ := R.frz b R' hV
  refine dn _ β H' C dx v (z.trans z2) (BLe.refl β) R2 hc ?_ hd
  obtain ⟨c, p⟩ := x
  cases p <;> simp [flat] at hp <;> simp only [RepV] at r' ⊢ <;> exact r'
end
end VI

/-! VIc4: calls of defs. -/
namespace VI
open PySem PySem.Spec PyProof.Rows L2
/-- a def's promise by the evaluator -/
def spV (P : Program) (w : World) (K : PySem.W.Frag) (mg : Str → Option Value) (C : Cal) (f : String) : Sp := fun vs H Q E => ∃ Φ Z β U ds r, Rel P w K mg Φ Z β U H ∧ RepL P w K Z β ds vs ∧ C f ds U = some r ∧
  match r with
  | .ok d U' => Done P w K mg Φ Z β d U' Q
  | .ex x U' => DoneX P w K mg Φ Z β x U' E
/-- a def that may be called -/
def FnHyp (P : Program) (w : World) (K : PySem.W.Frag) (mg : Str → Option Value) (base : Heap) (C : Cal) (k : Nat) (f : String) : Prop :=
  ∃ (a : Addr) (fd : FuncData) (ps : List Str), mg (Str.ofString f) = some (.ref a) ∧ PySem.W.keepIn K (.ref a) = true ∧ FnOk P w K mg base (L2.CX P w) k a fd ps (spV P w K mg C f) ∧ Binds K fd ps []
section
variable {X : Cx} {C : Cal} {W : WX} {e e1 e2 e3 : Expr} {a b c : IE} {pos p : Pos} {es : List Expr} {as : IEs} {k : Nat} {f : String}
/-- what a call gives, by its promise -/
theorem sp_frz {P : Program} {w : World} {K : PySem.W.Frag} {mg : Str → Option Value} {Φ : List (Addr × HO)} {Z : Hp} {β : List Addr} {U : Store} {H : Hp} {C : Cal} {f : String} {ds : List D} {vs : List V} {Q : VK} {W : WX} {σ : L2.St} {fz : Bool} {r : VI.R D}
    (R : Rel P w K mg Φ Z β U H) (q : RepL P w K Z β ds vs) (h : VI.frz fz U (C f ds U) = some r) (o : Out P w K mg W Φ Z β σ (fun d U' => Done P w K mg Φ Z β d U' Q) r) : spV P w K mg C f vs H Q fun cls d H => W cls d σ H := by
  cases fz with
  | false =>
    unfold VI.frz at h
    rw [if_neg Bool.false_ne_true] at h
    refine ⟨Φ, Z, β, U, ds, r, R, q, h, ?_⟩
    cases r with
    | ok d U' => exact o
    | ex x U' => exact o
  | true =>
    unfold VI.frz at h
    rw [if_pos rfl] at h
    split at h
    · rename_i d V hc
      split at h
      · rename_i hV
        split at h
        · rename_i d' hs
          cases h
          exact ⟨Φ, Z, β, U, ds, _, R, q, hc, done_frz R hV hs o⟩
        · cases h
      · cases h
    · rename_i x V hc
      split at h
      · rename_i hV
        cases h
        exact ⟨Φ, Z, β, U, ds, _, R, q, hc, doneX_frz R hV.1 hV.2 o⟩
      · cases h
    · cases h
theorem n_call {fz : Bool} (tk : Takes X W) (hr : Room k X.A) (hg : Gl X (Str.ofString f)) (F : FnHyp X.prog X.w X.K X.mg X.base C k f) (hdb : (Str.ofString f == ("__debug__" : Str)) = false) (ht : (e :: es).all tame = true)
    (ha : PA X (e :: es) (xA X C W as)) : PE X (.Call (.Name (Str.ofString f) p) (e :: es) [] pos) (xE X C W (.call fz f as)) := by
  obtain ⟨a, fd, ps, hm, hk, F, hb⟩ := F
  simp only [List.all_cons, Bool.and_eq_true] at ht
  refine (pe_callS (E := WE W) F hr hg hm hk hb (passAt tk) ha hdb (star_tame ht.1 es _) (stars_tame ht.2 pos _)).imp fun σ H Q ⟨Φ, Z, β, ρ, U, r, S, R, h, o⟩ => ?_
  rw [ev] at h
  refine tA_bnd S R h o.wish fun Z1 β1 H1 ds vs U1 z1 b1 R1 r1 S1 h1 => ?_
  exact sp_frz R1 r1 h1 (o.monoE z1 b1)
theorem n_call0 {fz : Bool} (tk : Takes X W) (hr : Room k X.A) (hg : Gl X (Str.ofString f)) (F : FnHyp X.prog X.w X.K X.mg X.base C k f) (hdb : (Str.ofString f == ("__debug__" : Str)) = false) :
    PE X (.Call (.Name (Str.ofString f) p) [] [] pos) (xE X C W (.call fz f .nil)) := by
  obtain ⟨a, fd, ps, hm, hk, F, hb⟩ := F
  refine ⟨fun pins s σ H Q I ⟨Φ, Z, β, ρ, U, r, S, R, h, o⟩ => ?_⟩
  rw [ev, evs, bnd_ok] at h
  refine wpAny_Call_Name_kw (ld_glob I hg hm ?_ hdb)
  exact PySem.W.callWith_K0 I.kIn hk (run_fnS (us := []) F hr hb (passAt tk σ) I .nil (sp_frz (W := W) R RepL.nil h o))
end
/-! ### a def's body -/
section
variable (P : Program) (w : World) (K : PySem.W.Frag) (mg : Str → Option Value) (C : Cal) (W : WX)
/-- a statement's wish -/
def OutS (Φ : List (Addr × HO)) (Z : Hp) (β : List Addr) (E : Ends) (r : RS) : Prop :=
  match r with
  | .nx ρ U' => ∀ (Z' : Hp) (β' : List Addr) (H' : Hp) (σ' : L2.St), ZLe Z Z' → BLe β β' → Rel P w K mg Φ Z' β' U' H' → RepS P w K Z' β' ρ σ' → E.nx σ' H'
  | .bk ρ U' => ∀ (Z' : Hp) (β' : List Addr) (H' : Hp) (σ' : L2.St), ZLe Z Z' → BLe β β' → Rel P w K mg Φ Z' β' U' H' → RepS P w K Z' β' ρ σ' → E.bk σ' H'
  | .rt d U' => Done P w K mg Φ Z β d U' E.rt
  | .ex x ρ U' => ∀ (Z' : Hp) (β' : List Addr) (σ' : L2.St), ZLe Z Z' → BLe β β' → RepS P w K Z' β' ρ σ' → DoneX P w K mg Φ Z' β' x U' fun cls d H => W cls d σ' H
def tS (s : IS) : TS := fun E σ H => ∃ Φ Z β ρ U r, RepS P w K Z β ρ σ ∧ Rel P w K mg Φ Z β U H ∧ exec C s ρ U = some r ∧ OutS P w K mg W Φ Z β E r
def tSs (s : ISs) : TS := fun E σ H => ∃ Φ Z β ρ U r, RepS P w K Z β ρ σ ∧ Rel P w K mg Φ Z β U H ∧ execs C s ρ U = some r ∧ OutS P w K mg W Φ Z β E r
end
section
variable {P : Program} {w : World} {K : PySem.W.Frag} {mg : Str → Option Value} {C : Cal} {W : WX} {Φ : List (Addr × HO)} {Z Z' : Hp} {β β' : List Addr} {ρ : Rho} {σ : L2.St} {U : Store} {H : Hp} {E : Ends}
theorem OutS.mono {r : RS} (o : OutS P w K mg W Φ Z β E r) (z : ZLe Z Z') (b : BLe β β') : OutS P w K mg W Φ Z' β' E r := by
  cases r with
  | nx ρ U' => exact fun Z2 β2 H2 σ2 z2 b2 => o Z2 β2 H2 σ2 (z.trans z2) (b.trans b2)
  | bk ρ U' => exact fun Z2 β2 H2 σ2 z2 b2 => o Z2 β2 H2 σ2 (z.trans z2) (b.trans b2)
  | rt d U' => exact Done.mono o z b
  | ex x ρ U' => exact fun Z2 β2 σ2 z2 b2 => o Z2 β2 σ2 (z.trans z2) (b.trans b2)
/-- an expression, then the rest of a statement -/
theorem tE_bndS {e : IE} {f : D → Store → Option RS} {r : RS} {Q : VK} (S : RepS P w K Z β ρ σ) (R : Rel P w K mg Φ Z β U H) (h : bndS (ev C e ρ U) ρ f = some r) (o : OutS P w K mg W Φ Z β E r)
    (k : ∀ Z' β' H' d v U', ZLe Z Z' → BLe β β' → Rel P w K mg Φ Z' β' U' H' → RepV P w K Z' β' d v → RepS P w K Z' β' ρ σ → f d U' = some r → OutS P w K mg W Φ Z' β' E r → Q v H') : tE P w K mg C W e σ H Q := by
  cases q : ev C e ρ U with
  | none => rw [q] at h; cases h
  | some r1 =>
    rw [q] at h
    refine ⟨Φ, Z, β, ρ, U, r1, S, R, q, ?_⟩
    cases r1 with
    | ok d U' => exact fun Z' β' H' v z b R' r' => k Z' β' H' d v U' z b R' r' (S.mono z b) h (o.mono z b)
    | ex x U' =>
      cases h
      exact o Z β σ (ZLe.refl Z) (BLe.refl β) S
theorem tT_bndS {e : IE} {f : Bool → Store → Option RS} {r : RS} {Q : Bool → Hp → Prop} (S : RepS P w K Z β ρ σ) (R : Rel P w K mg Φ Z β U H) (h : bndS (evB C e ρ U) ρ f = some r) (o : OutS P w K mg W Φ Z β E r)
    (k : ∀ Z' β' H' d U', ZLe Z Z' → BLe β β' → Rel P w K mg Φ Z' β' U' H' → RepS P w K Z' β' ρ σ → f d U' = some r → OutS P w K mg W Φ Z' β' E r → Q d H') : tT P w K mg C W e σ H Q := by
  cases q : evB C e ρ U with
  | none => rw [q] at h; cases h
  | some r1 =>
    rw [q] at h
    refine ⟨Φ, Z, β, ρ, U, r1, S, R, q, ?_⟩
    cases r1 with
    | ok d U' => exact fun Z' β' H' z b R' => k Z' β' H' d U' z b R' (S.mono z b) h (o.mono z b)
    | ex x U' =>
      cases h
      exact o Z β σ (ZLe.refl Z) (BLe.refl β) S
end
section
variable {X : Cx} {C : Cal} {W : WX} {e e1 e2 e3 : Expr} {a b c : IE} {pos p : Pos} {st : Stmt} {sts sts2 : List Stmt} {s : IS} {ss ss2 : ISs}
abbrev xS (X : Cx) (C : Cal) (W : WX) (s : IS) : TS := tS X.prog X.w X.K X.mg C W s
abbrev xSs (X : Cx) (C : Cal) (W : WX) (s : ISs) : TS := tSs X.prog X.w X.K X.mg C W s
theorem _root_.L2.PS.imp {t t' : TS} (h : PS X st t) (i : ∀ E σ H, t' E σ H → t E σ H) : PS X st t' := ⟨fun pins s σ H E I q => h.run pins s σ H E I (i E σ H q)⟩
theorem _root_.L2.PSs.imp {t t' : TS} (h : PSs X sts t) (i : ∀ E σ H, t' E σ H → t E σ H) : PSs X sts t' := ⟨fun pins s σ H E I q => h.run pins s σ H E I (i E σ H q)⟩
theorem s_nil : PSs X [] (xSs X C W .nil) := by
  refine pss_nil.imp fun E σ H ⟨Φ, Z, β, ρ, U, r, S, R, h, o⟩ => ?_
  rw [execs] at h
  cases h
  exact o Z β H σ (ZLe.refl Z) (BLe.refl β) R S
theorem s_cons (h1 : PS X st (xS X C W s)) (h2 : PSs X sts (xSs X C W ss)) : PSs X (st :: sts) (xSs X C W (.cons s ss)) := by
  refine (pss_cons h1 h2).imp fun E σ H ⟨Φ, Z, β, ρ, U, r, S, R, h, o⟩ => ?_
  rw [execs] at h
  cases q : exec C s ρ U with
  | none => rw [q] at h; cases h
  | some r1 =>
    rw [q] at h
    refine ⟨Φ, Z, β, ρ, U, r1, S, R, q, ?_⟩
    cases r1 with
    | nx ρ1 U1 => exact fun Z1 β1 H1 σ1 z1 b1 R1 S1 => ⟨Φ, Z1, β1, ρ1, U1, r, S1, R1, h, o.mono z1 b1⟩
    | rt d U1 => cases h; exact o
    | bk ρ1 U1 => cases h; exact o
    | ex x ρ1 U1 => cases h; exact o
/-- a docstring ahead -/
theorem s_doc {x : Str} {j : Nat} {pos' : Pos} (h : PSs X sts (xSs X C W ss)) : PSs X (.Expr (.Constant (.str x) j pos) pos' :: sts) (xSs X C W ss) := (pss_cons ps_doc h).imp fun E σ H q => q
theorem s_pass : PS X (.Pass pos) (xS X C W .pass) := by
  refine ps_pass.imp fun E σ H ⟨Φ, Z, β, ρ, U, r, S, R, h, o⟩ => ?_
  rw [exec] at h
  cases h
  exact o Z β H σ (ZLe.refl Z) (BLe.refl β) R S
theorem s_brk : PS X (.Break pos) (xS X C W .brk) := by
  refine ps_break.imp fun E σ H ⟨Φ, Z, β, ρ, U, r, S, R, h, o⟩ => ?_
  rw [exec] at h
  cases h
  exact o Z β H σ (ZLe.refl Z) (BLe.refl β) R S
theorem s_expr (hn : noComp e = true) (ha : PE X e (xE X C W a)) : PS X (.Expr e pos) (xS X C W (.expr a)) := by
  refine (ps_expr ha (swaps_no hn _ _ _)).imp fun E σ H ⟨Φ, Z, β, ρ, U, r, S, R, h, o⟩ => ?_
  rw [exec] at h
  refine tE_bndS S R h o fun Z1 β1 H1 d v U1 z1 b1 R1 r1 S1 h1 o1 => ?_
  cases h1
  exact o1 Z1 β1 H1 σ (ZLe.refl _) (BLe.refl _) R1 S1
theorem s_ret (ha : PE X e (xE X C W a)) : PS X (.Return (some e) pos) (xS X C W (.ret a)) := by
  refine (ps_ret ha).imp fun E σ H ⟨Φ, Z, β, ρ, U, r, S, R, h, o⟩ => ?_
  rw [exec] at h
  refine tE_bndS S R h o fun Z1 β1 H1 d v U1 z1 b1 R1 r1 S1 h1 o1 => ?_
  cases h1
  exact Done.same o1 R1 r1
theorem s_retN : PS X (.Return none pos) (xS X C W .retN) := by
  refine ps_retN.imp fun E σ H ⟨Φ, Z, β, ρ, U, r, S, R, h, o⟩ => ?_
  rw [exec] at h
  cases h
  exact Done.non o R
theorem s_if (ht : PT X e (xT X C W a)) (h1 : PSs X sts (xSs X C W ss)) (h2 : PSs X sts2 (xSs X C W ss2)) : PS X (.If e sts sts2 pos) (xS X C W (.ifS a ss ss2)) := by
  refine (ps_if ht h1 h2).imp fun E σ H ⟨Φ, Z, β, ρ, U, r, S, R, h, o⟩ => ?_
  rw [exec] at h
  refine tT_bndS S R h o fun Z1 β1 H1 k U1 z1 b1 R1 S1 h1 o1 => ?_
  cases k with
  | true =>
    simp only [if_true] at h1 ⊢
    exact ⟨Φ, Z1, β1, ρ, U1, r, S1, R1, h1, o1⟩
  | false =>
    simp only [Bool.false_eq_true, if_false] at h1 ⊢
    exact ⟨Φ, Z1, β1, ρ, U1, r, S1, R1, h1, o1⟩
theorem s_while (hp : PassesOwn (model X.prog X.w) X.A X.env X.xe) (ht : PT X e (xT X C W a)) (hb : PSs X sts (xSs X C W ss)) : PS X (.While e sts [] pos) (xS X C W (.whileS a ss)) := by
  refine (ps_while hp ht hb).imp fun E σ H ⟨Φ, Z, β, ρ, U, r, S, R, h, o⟩ => ?_
  rw [exec] at h
  refine ⟨fun m σ H => ∃ Φ Z β ρ U r, RepS X.prog X.w X.K Z β ρ σ ∧ Rel X.prog X.w X.K X.mg Φ Z β U H ∧ whileGo (evB C a) (execs C ss) m ρ U = some r ∧ OutS X.prog X.w X.K X.mg W Φ Z β E r, ⟨WN, Φ, Z, β, ρ, U, r, S, R, h, o⟩, ?_⟩
  intro m σ H ⟨Φ, Z, β, ρ, U, r, S, R, h, o⟩
  cases m with
  | zero => cases h
  | succ m =>
    rw [whileGo] at h
    refine tT_bndS S R h o fun Z1 β1 H1 k U1 z1 b1 R1 S1 h1 o1 => ?_
    cases k with
    | false =>
      simp only [Bool.false_eq_true, if_false] at h1 ⊢
      cases h1
      exact o1 Z1 β1 H1 σ (ZLe.refl _) (BLe.refl _) R1 S1
    | true =>
      simp only [if_true] at h1 ⊢
      refine ⟨fun σ' H' => ∃ Φ Z β ρ U r, RepS X.prog X.w X.K Z β ρ σ' ∧ Rel X.prog X.w X.K X.mg Φ Z β U H' ∧ whileGo (evB C a) (execs C ss) m ρ U = some r ∧ OutS X.prog X.w X.K X.mg W Φ Z β E r, fun σ' H' q => ⟨m, Nat.lt_succ_self m, q⟩, ?_⟩
      cases q : execs C ss ρ U1 with
      | none => rw [q] at h1; cases h1
      | some r1 =>
        rw [q] at h1
        refine ⟨Φ, Z1, β1, ρ, U1, r1, S1, R1, q, ?_⟩
        cases r1 with
        | nx ρ2 U2 => exact fun Z2 β2 H2 σ2 z2 b2 R2 S2 => ⟨Φ, Z2, β2, ρ2, U2, r, S2, R2, h1, o1.mono z2 b2⟩
        | rt d U2 => cases h1; exact o1
        | bk ρ2 U2 => cases h1; exact o1
        | ex x ρ2 U2 => cases h1; exact o1
end
end VI

/-! VIc5: targets, assignments. -/
namespace VI
open PySem PySem.Spec PyProof.Rows L2
theorem wipe_set {i : Nat} {x : Option V} (σ : L2.St) : ∀ {vs : List Nat}, i ∈ vs → L2.wipe (σ.set i x) vs = L2.wipe σ vs
  | v :: vs, h => by
    unfold L2.wipe
    by_cases hi : i ∈ vs
    · rw [wipe_set σ hi]
    · have hv : v = i := by
        rcases List.mem_cons.mp h with h | h
        · exact h.symm
        · exact absurd h hi
      subst hv
      refine List.ext_getElem? fun j => ?_
      by_cases hj : v = j
      · subst hj
        by_cases hl : v < σ.length
        · rw [List.getElem?_set_self (by rw [L2.wipe_length, List.length_set]; exact hl), List.getElem?_set_self (by rw [L2.wipe_length]; exact hl)]
        · rw [List.getElem?_eq_none (by rw [List.length_set, L2.wipe_length, List.length_set]; omega), List.getElem?_eq_none (by rw [List.length_set, L2.wipe_length]; omega)]
      · rw [List.getElem?_set_ne hj, List.getElem?_set_ne hj]
        by_cases hm : j ∈ vs
        · have e : ∀ (τ : L2.St), (L2.wipe τ vs)[j]? = if j < τ.length then some none else none := by
            intro τ
            by_cases hl : j < τ.length
            · rw [if_pos hl]
              cases q : (L2.wipe τ vs)[j]? with
              | none =>
                rw [List.getElem?_eq_none_iff, L2.wipe_length] at q
                omega
              | some o =>
                cases o with
                | none => rfl
                | some y => exact absurd hm (L2.wipe_some q).2
            · rw [if_neg hl, List.getElem?_eq_none (by rw [L2.wipe_length]; omega)]
          rw [e, e, List.length_set]
        · rw [L2.wipe_out hm, L2.wipe_out hm, List.getElem?_set_ne hj]
/-- the slots of a target -/
def Tg.slots : Tg → List Nat
  | .var i => [i]
  | .tup is => is
  | .tup2 a bs => a :: bs
section
variable {X : Cx} {C : Cal} {W : WX} {e e1 e2 e3 : Expr} {a b c : IE} {pos p : Pos} {st : Stmt} {sts sts2 : List Stmt} {s : IS} {ss ss2 : ISs}
/-- what is wanted of an assignment to a target -/
def xG (P : Program) (w : World) (K : PySem.W.Frag) (mg : Str → Option Value) (tg : Tg) : TG := fun v σ H Q => ∃ Φ Z β U d ρ ρ', RepS P w K Z β ρ σ ∧ Rel P w K mg Φ Z β U H ∧ RepV P w K Z β d v ∧ asgT U tg d ρ = some ρ' ∧
  ∀ σ', RepS P w K Z β ρ' σ' → (∀ vs : List Nat, (∀ i ∈ tg.slots, i ∈ vs) → L2.wipe σ' vs = L2.wipe σ vs) → Q σ' H
/-- .. to names -/
def xGs (P : Program) (w : World) (K : PySem.W.Frag) (mg : Str → Option Value) (is : List Nat) : TGs := fun vs σ H Q => ∃ Φ Z β U ds ρ ρ', RepS P w K Z β ρ σ ∧ Rel P w K mg Φ Z β U H ∧ RepL P w K Z β ds vs ∧ setAll ρ is ds = some ρ' ∧
  ∀ σ', RepS P w K Z β ρ' σ' → (∀ vs : List Nat, (∀ i ∈ is, i ∈ vs) → L2.wipe σ' vs = L2.wipe σ vs) → Q σ' H
/-- a name that may be set -/
structure Sets (X : Cx) (i : Nat) (x : Str) : Prop where
  nd : X.N.Nodup
  at_ : X.N[i]? = some x
  loc : Loc X.env.scope x
  fn : X.fn x = true ∨ X.env.scope.names.lookup x = some .local
theorem g_var {i : Nat} {x : Str} (h : Sets X i x) : PG X (.Name x pos) (xG X.prog X.w X.K X.mg (.var i)) := by
  refine ⟨fun pins s σ H v u Q I r ⟨Φ, Z, β, U, d, ρ, ρ', S, R, rd, e, k⟩ => (pg_name h.nd h.at_ h.loc h.fn).run pins s σ H v u Q I r ?_⟩
  cases e
  exact k _ (S.set rd) fun vs hv => wipe_set σ (hv i (by simp [Tg.slots]))
theorem gs_nil : PGs X [] (xGs X.prog X.w X.K X.mg []) := by
  refine ⟨fun pins s σ H vs us Q I r ⟨Φ, Z, β, U, ds, ρ, ρ', S, R, rd, e, k⟩ => pgs_nil.run pins s σ H vs us Q I r ?_⟩
  cases ds with
  | nil =>
    cases e
    simp only [RepL] at rd
    exact ⟨rd, k σ S fun _ _ => rfl⟩
  | cons _ _ => cases e
theorem gs_cons {i : Nat} {x : Str} {is : List Nat} {es : List Expr} (h : Sets X i x) (h2 : PGs X es (xGs X.prog X.w X.K X.mg is)) : PGs X (.Name x pos :: es) (xGs X.prog X.w X.K X.mg (i :: is)) := by
  refine ⟨fun pins s σ H vs us Q I r ⟨Φ, Z, β, U, ds, ρ, ρ', S, R, rd, e, k⟩ => (pgs_cons (pg_name h.nd h.at_ h.loc h.fn) h2).run pins s σ H vs us Q I r ?_⟩
  cases ds with
  | nil => cases e
  | cons d ds =>
    simp only [RepL] at rd
    obtain ⟨v, s, rfl, r1, r2⟩ := rd
    refine ⟨v, s, rfl, Φ, Z, β, U, ds, _, ρ', S.set r1, R, r2, e, fun σ' S' hw => k σ' S' fun vs hv => ?_⟩
    rw [hw vs fun j hj => hv j (by simp [hj])]
    exact wipe_set σ (hv i (by simp))
/-- names alone -/
def names (es : List Expr) : Bool := es.all fun e => match e with | .Name _ _ => true | _ => false
theorem names_each : ∀ {es : List Expr} {env : Env}, names es = true → (assignEach es env).length = es.length ∧ (assignEach es env).findIdx? (·.1) = none
  | [], _, _ => ⟨rfl, rfl⟩
  | e :: r, env, h => by
    simp only [names, List.all_cons, Bool.and_eq_true] at h
    have ih := names_each (env := env) (es := r) h.2
    cases e <;> first
      | (cases h.1; done)
      | (refine ⟨?_, ?_⟩
         · show (assignEach r env).length + 1 = _
           rw [ih.1]
           rfl
         · show List.findIdx? (·.1) ((false, _) :: assignEach r env) = none
           rw [List.findIdx?_cons]
           simp [ih.2])
/-- unpacking a tuple or a list -/
theorem pg_seq {es : List Expr} {k : Nat} {t : TGs} {n : Nat} (hc : X.calm = true) (h : PGs X es t) (hn : (assignEach es X.env).length = n) (hst : (assignEach es X.env).findIdx? (·.1) = none) :
    PG X (.Tuple es k pos) (fun v σ H Q => ∃ a xs, v = .ref a ∧ (SqL X.K H a xs ∨ SqT X.K H a xs) ∧ xs.length = n ∧ t xs σ H Q) := by
  refine ⟨fun pins s σ H v u Q I r ⟨a, xs, e, hq, hl, q⟩ => ?_⟩
  rcases hq with hq | hq
  · exact (pg_lst hc h hn hst).run pins s σ H v u Q I r ⟨a, xs, e, hq, hl, q⟩
  · exact (pg_tup hc h hn hst).run pins s σ H v u Q I r ⟨a, xs, e, hq, hl, q⟩
theorem setAll_len : ∀ {is : List Nat} {ds : List D} {ρ ρ' : Rho}, setAll ρ is ds = some ρ' → ds.length = is.length
  | [], [], _, _, _ => rfl
  | i :: is, d :: ds, ρ, ρ', h => by
    have := setAll_len (show setAll (ρ.set i (some d)) is ds = some ρ' from h)
    simp [this]
  | [], _ :: _, _, _, h => by cases h
  | _ :: _, [], _, _, h => by cases h
theorem g_tup {es : List Expr} {k : Nat} {is : List Nat} (hc : X.calm = true) (hn : names es = true) (hl : es.length = is.length) (h : PGs X es (xGs X.prog X.w X.K X.mg is)) : PG X (.Tuple es k pos) (xG X.prog X.w X.K X.mg (.tup is)) := by
  refine ⟨fun pins s σ H v u Q I r ⟨Φ, Z, β, U, d, ρ, ρ', S, R, rd, e, k⟩ => (pg_seq hc h (names_each hn).1 (names_each hn).2).run pins s σ H v u Q I r ?_⟩
  simp only [asgT] at e
  split at e
  · rename_i ds hq
    obtain ⟨p, vs, rfl, sq, q⟩ := R.seq hq rd
    exact ⟨p, vs, rfl, sq, by rw [← q.length, setAll_len e, hl], Φ, Z, β, U, ds, ρ, ρ', S, R, q, e, k⟩
  · cases e
/-- a, (b, ..) = -/
theorem g_tup2 {es : List Expr} {k k2 : Nat} {i : Nat} {x : Str} {is : List Nat} {p1 p2 : Pos} (hc : X.calm = true) (hx : Sets X i x) (hn : names es = true) (hl : es.length = is.length) (h : PGs X es (xGs X.prog X.w X.K X.mg is)) :
    PG X (.Tuple [.Name x p1, .Tuple es k2 p2] k pos) (xG X.prog X.w X.K X.mg (.tup2 i is)) := by
  have ht : PG X (.Tuple es k2 p2) _ := pg_seq hc h (names_each hn).1 (names_each hn).2
  refine ⟨fun pins s σ H v u Q I r ⟨Φ, Z, β, U, d, ρ, ρ', S, R, rd, e, k⟩ => (pg_tup hc (pgs_cons (pg_name hx.nd hx.at_ hx.loc hx.fn) (pgs_cons ht pgs_nil)) (n := 2)).run pins s σ H v u Q I r ?_⟩
  simp only [asgT] at e
  split at e
  · rename_i d1 d2
    split at e
    · rename_i ds hq
      obtain ⟨a, vs, rfl, sq, q⟩ := R.tuple rd
      simp only [RepL] at q
      obtain ⟨v1, s1, rfl, r1, v2, s2, rfl, r2, rfl⟩ := q
      obtain ⟨p, ws, rfl, sq2, q2⟩ := R.seq hq r2
      refine ⟨a, _, rfl, sq, rfl, v1, _, rfl, _, _, rfl, p, ws, rfl, sq2, by rw [← q2.length, setAll_len e, hl], Φ, Z, β, U, ds, _, ρ', S.set r1, R, q2, e, fun σ' S' hw => ⟨rfl, k σ' S' fun vs hv => ?_⟩⟩
      rw [hw vs fun j hj => hv j (by simp [Tg.slots, hj])]
      exact wipe_set σ (hv i (by simp [Tg.slots]))
    · cases e
  · cases e
/-! ### assignments -/
theorem s_set {i : Nat} {x : Str} (h : Sets X i x) (hn : noComp e = true) (ha : PE X e (xE X C W a)) : PS X (.Assign [.Name x p] e pos) (xS X C W (.asg (.var i) a)) := by
  refine (ps_set h.nd h.at_ h.loc ha (swaps_no hn _ _ _) h.fn).imp fun E σ H ⟨Φ, Z, β, ρ, U, r, S, R, h, o⟩ => ?_
  rw [exec] at h
  refine tE_bndS S R h o fun Z1 β1 H1 d v U1 z1 b1 R1 r1 S1 h1 o1 => ?_
  simp only [asgT] at h1
  cases h1
  exact o1 Z1 β1 H1 _ (ZLe.refl _) (BLe.refl _) R1 (S1.set r1)
def noTup : Expr → Bool
  | .Tuple _ _ _ => false
  | _ => true
theorem stores_no {e : Expr} (h : noTup e = true) (t : Expr) (env : Env) : swappedStores [t] e env = pure none := by
  unfold swappedStores
  cases e <;> first
    | (cases h; done)
    | (cases t <;> rfl)
theorem swaps_tup {es : List Expr} {k : Nat} {p : Pos} (e : Expr) (l : Nat) (env : Env) : swapsWithSole [.Tuple es k p] e l env = pure false := by
  show swapsWith e (some (.Tuple es k p)) l env = pure false
  cases e <;> rfl
theorem s_asgT {es : List Expr} {k : Nat} {tg : Tg} (ht : noTup e = true) (ha : PE X e (xE X C W a)) (hg : PG X (.Tuple es k p) (xG X.prog X.w X.K X.mg tg)) : PS X (.Assign [.Tuple es k p] e pos) (xS X C W (.asg tg a)) := by
  refine (ps_asg ha hg (swaps_tup _ _ _) (stores_no ht _ _) rfl).imp fun E σ H ⟨Φ, Z, β, ρ, U, r, S, R, h, o⟩ => ?_
  rw [exec] at h
  refine tE_bndS S R h o fun Z1 β1 H1 d v U1 z1 b1 R1 r1 S1 h1 o1 => ?_
  split at h1
  · rename_i ρ' e1
    cases h1
    exact ⟨Φ, Z1, β1, U1, d, ρ, ρ', S1, R1, r1, e1, fun σ' S' _ => o1 Z1 β1 H1 σ' (ZLe.refl _) (BLe.refl _) R1 S'⟩
  · cases h1
theorem s_aug {i : Nat} {x : Str} {op : BOp} (hop : op = .add ∨ op = .sub) (h : Sets X i x) (ha : PE X e (xE X C W a)) : PS X (.AugAssign (.Name x p) (bop op) e pos) (xS X C W (.aug i op a)) := by
  rcases hop with rfl | rfl
  · refine (ps_aug h.nd h.at_ h.loc ha ip_add h.fn).imp fun E σ H ⟨Φ, Z, β, ρ, U, r, S, R, h, o⟩ => ?_
    rw [exec] at h
    split at h
    · rename_i x0 hx
      obtain ⟨v0, e0, r0⟩ := S.2 i x0 hx
      refine ⟨v0, e0, tE_bndS S R h o fun Z1 β1 H1 d v U1 z1 b1 R1 r1 S1 h1 o1 => ?_⟩
      split at h1
      · rename_i n m
        cases h1
        simp only [RepV] at r0 r1
        refine ⟨n, m, r0, r1, o1 Z1 β1 H1 _ (ZLe.refl _) (BLe.refl _) R1 (S1.set (by simp only [RepV]))⟩
      · cases h1
    · cases h
  · refine (ps_aug h.nd h.at_ h.loc ha ip_sub h.fn).imp fun E σ H ⟨Φ, Z, β, ρ, U, r, S, R, h, o⟩ => ?_
    rw [exec] at h
    split at h
    · rename_i x0 hx
      obtain ⟨v0, e0, r0⟩ := S.2 i x0 hx
      refine ⟨v0, e0, tE_bndS S R h o fun Z1 β1 H1 d v U1 z1 b1 R1 r1 S1 h1 o1 => ?_⟩
      split at h1
      · rename_i n m
        cases h1
        simp only [RepV] at r0 r1
        refine ⟨n, m, r0, r1, o1 Z1 β1 H1 _ (ZLe.refl _) (BLe.refl _) R1 (S1.set (by simp only [RepV]))⟩
      · cases h1
    · cases h
end
end VI

/-! VIc6: what is walked: for, comprehensions. -/
namespace VI
open PySem PySem.Spec PyProof.Rows L2
/-- the iterator J yields what src says -/
structure WalkV (P : Program) (w : World) (K : PySem.W.Frag) (mg : Str → Option Value) (Z : Hp) (β : List Addr) (J : L2.It) (src : Src) : Prop where
  go : ∀ (i : Nat) (g : Store → Option D), src.get[i]? = some g → ∀ (Φ : List (Addr × HO)) (Z' : Hp) (β' : List Addr) (U : Store) (H : Hp) (x : D), ZLe Z Z' → BLe β β' → Rel P w K mg Φ Z' β' U H → g U = some x →
    J.go i H ∧ ∀ v H', J.yld i H v H' → ∃ Z'', ZLe Z' Z'' ∧ Rel P w K mg Φ Z'' β' U H' ∧ RepV P w K Z'' β' x v
  stop : ∀ (Φ : List (Addr × HO)) (Z' : Hp) (β' : List Addr) (U : Store) (H : Hp), ZLe Z Z' → BLe β β' → Rel P w K mg Φ Z' β' U H → src.fin U = true → J.stop src.get.length H
theorem WalkV.mono {P : Program} {w : World} {K : PySem.W.Frag} {mg : Str → Option Value} {Z Z' : Hp} {β β' : List Addr} {J : L2.It} {src : Src} (h : WalkV P w K mg Z β J src) (z : ZLe Z Z') (b : BLe β β') : WalkV P w K mg Z' β' J src :=
  ⟨fun i g e Φ Z2 β2 U H x z2 b2 => h.go i g e Φ Z2 β2 U H x (z.trans z2) (b.trans b2), fun Φ Z2 β2 U H z2 b2 => h.stop Φ Z2 β2 U H (z.trans z2) (b.trans b2)⟩
def DoneW (P : Program) (w : World) (K : PySem.W.Frag) (mg : Str → Option Value) (Φ : List (Addr × HO)) (Z : Hp) (β : List Addr) (src : Src) (U' : Store) (R : L2.It → Hp → Prop) : Prop :=
  ∀ (Z' : Hp) (β' : List Addr) (H' : Hp) (J : L2.It), ZLe Z Z' → BLe β β' → Rel P w K mg Φ Z' β' U' H' → WalkV P w K mg Z' β' J src → R J H'
theorem DoneW.mono {P : Program} {w : World} {K : PySem.W.Frag} {mg : Str → Option Value} {Φ : List (Addr × HO)} {Z Z' : Hp} {β β' : List Addr} {src : Src} {U' : Store} {R : L2.It → Hp → Prop} (h : DoneW P w K mg Φ Z β src U' R) (z : ZLe Z Z') (b : BLe β β') : DoneW P w K mg Φ Z' β' src U' R :=
  fun Z2 β2 H2 J z2 b2 => h Z2 β2 H2 J (z.trans z2) (b.trans b2)
def tI (P : Program) (w : World) (K : PySem.W.Frag) (mg : Str → Option Value) (C : Cal) (W : WX) (it : VI.It) : TI := fun σ H R => ∃ Φ Z β ρ U r, RepS P w K Z β ρ σ ∧ Rel P w K mg Φ Z β U H ∧ evIt C it ρ U = some r ∧
  Out P w K mg W Φ Z β σ (fun src U' => DoneW P w K mg Φ Z β src U' R) r
section
variable {X : Cx} {C : Cal} {W : WX} {e e1 e2 e3 : Expr} {a b c : IE} {pos p : Pos} {st : Stmt} {sts sts2 : List Stmt} {s : IS} {ss ss2 : ISs} {it : VI.It} {tg : Expr}
abbrev xI (X : Cx) (C : Cal) (W : WX) (it : VI.It) : TI := tI X.prog X.w X.K X.mg C W it
theorem s_for {iter : Expr} {t : Tg} (hp : PassesOwn (model X.prog X.w) X.A X.env X.xe) (hc : X.calm = true) (ht : tame iter = true) (hi : PI X tg iter (xI X C W it)) (hg : PG X tg (xG X.prog X.w X.K X.mg t)) (hb : PSs X sts (xSs X C W ss)) :
    PS X (.For tg iter sts [] pos) (xS X C W (.forS t it ss)) := by
  refine (ps_for hp hc hi hg hb (fold_tame ht _)).imp fun E σ H ⟨Φ, Z, β, ρ, U, r, S, R, h, o⟩ => ?_
  rw [exec] at h
  cases q : evIt C it ρ U with
  | none => rw [q] at h; cases h
  | some r1 =>
    rw [q] at h
    refine ⟨Φ, Z, β, ρ, U, r1, S, R, q, ?_⟩
    cases r1 with
    | ex x U1 =>
      cases h
      exact o Z β σ (ZLe.refl _) (BLe.refl _) S
    | ok src U1 =>
      rw [bndS_ok] at h
      intro Z1 β1 H1 J z1 b1 R1 wk
      refine ⟨fun i m σ H => ∃ Φ Z β ρ U r, WalkV X.prog X.w X.K X.mg Z β J src ∧ RepS X.prog X.w X.K Z β ρ σ ∧ Rel X.prog X.w X.K X.mg Φ Z β U H ∧ forGo src.fin (turnF t (execs C ss)) (src.get.drop i) ρ U = some r ∧ OutS X.prog X.w X.K X.mg W Φ Z β E r ∧ m = src.get.length - i ∧ i ≤ src.get.length, ⟨src.get.length, Φ, Z1, β1, ρ, U1, r, wk, S.mono z1 b1, R1, by rw [List.drop_zero]; exact h, o.mono z1 b1, by simp, Nat.zero_le _⟩, ?_⟩
      rintro i m σ H ⟨Φ, Z, β, ρ, U, r, wk, S, R, h, o, rfl, hi⟩
      by_cases hl : i < src.get.length
      · rw [List.drop_eq_getElem_cons hl, forGo] at h
        split at h
        · rename_i x hx
          obtain ⟨go, yl⟩ := wk.go i _ (List.getElem?_eq_getElem hl) Φ Z β U H x (ZLe.refl _) (BLe.refl _) R hx
          refine .inr ⟨go, fun σ' H' => ∃ Φ Z β ρ U r, WalkV X.prog X.w X.K X.mg Z β J src ∧ RepS X.prog X.w X.K Z β ρ σ' ∧ Rel X.prog X.w X.K X.mg Φ Z β U H' ∧ forGo src.fin (turnF t (execs C ss)) (src.get.drop (i + 1)) ρ U = some r ∧ OutS X.prog X.w X.K X.mg W Φ Z β E r, fun σ' H' q => ⟨src.get.length - (i + 1), by omega, ?_⟩, fun v H' y => ?_⟩
          · obtain ⟨Φ, Z, β, ρ, U, r, wk, S, R, h, o⟩ := q
            exact ⟨Φ, Z, β, ρ, U, r, wk, S, R, h, o, rfl, hl⟩
          · obtain ⟨Z2, z2, R2, r2⟩ := yl v H' y
            unfold turnF at h
            cases ha : asgT U t x ρ with
            | none =>
              rw [ha] at h
              cases h
            | some ρ2 =>
              rw [ha] at h
              refine ⟨Φ, Z2, β, U, x, ρ, ρ2, S.mono z2 (BLe.refl _), R2, r2, ha, fun σ' S' _ => ?_⟩
              cases q : execs C ss ρ2 U with
              | none => simp only [q] at h; cases h
              | some r1 =>
                simp only [q] at h
                refine ⟨Φ, Z2, β, ρ2, U, r1, S', R2, q, ?_⟩
                have o2 := o.mono z2 (BLe.refl β)
                cases r1 with
                | nx ρ3 U3 => exact fun Z3 β3 H3 σ3 z3 b3 R3 S3 => ⟨Φ, Z3, β3, ρ3, U3, r, wk.mono (z2.trans z3) b3, S3, R3, h, o2.mono z3 b3⟩
                | rt d U3 => cases h; exact o2
                | bk ρ3 U3 => cases h; exact o2
                | ex x ρ3 U3 => cases h; exact o2
        · cases h
      · have e : i = src.get.length := by omega
        subst e
        rw [List.drop_length, forGo] at h
        split at h
        · rename_i hf
          cases h
          exact .inl ⟨wk.stop Φ Z β U H (ZLe.refl _) (BLe.refl _) R hf, o Z β H σ (ZLe.refl _) (BLe.refl _) R S⟩
        · cases h
/-! ### comprehensions -/
theorem wipe_wipe (σ : L2.St) {vs : List Nat} : ∀ us : List Nat, (∀ i ∈ us, i ∈ vs) → L2.wipe (L2.wipe σ us) vs = L2.wipe σ vs
  | [], _ => rfl
  | u :: us, h => by
    show L2.wipe ((L2.wipe σ us).set u none) vs = _
    rw [wipe_set _ (h u (by simp)), wipe_wipe σ us fun i hi => h i (by simp [hi])]
def put? (o : Option D) (ds : List D) : List D := match o with
  | some d => d :: ds
  | none => ds
theorem lcGo_cons (turn : D → M (Option D)) (g : Store → Option D) (gs : List (Store → Option D)) (U : Store) : lcGo turn (g :: gs) U = (match g U with
  | some x => bnd (turn x U) fun o U1 => bnd (lcGo turn gs U1) fun ds U2 => ret (put? o ds) U2
  | none => none) := rfl
/-- a comprehension's tests: none, or one -/
theorem pts_xT {ifs : List Expr} {c : IE} (h : (ifs = [] ∧ c = .cst (.bl true)) ∨ ∃ e, ifs = [e] ∧ PT X e (xT X C W c)) : PTs X ifs (xT X C W c) := by
  rcases h with ⟨rfl, rfl⟩ | ⟨e, rfl, h⟩
  · refine ⟨fun pins s σ H Q I ⟨Φ, Z, β, ρ, U, r, S, R, h, o⟩ => pts_nil.run pins s σ H Q I ?_⟩
    rw [evB] at h
    cases h
    exact o.ok Z β H (ZLe.refl _) (BLe.refl _) R
  · exact pts_one h
theorem n_lc {elt : Expr} {ifs : List Expr} {scope : Scope} {own : List (Str × Nat)} {m : Bool} {t : Tg} {cd el : IE} (hc : X.calm = true) (hN : X.N.Nodup) (ok : BlkOk X.N X.env.scope scope own) (hs : ∀ i ∈ t.slots, i ∈ own.map (·.2))
    (hg : ∀ (s : Shared) (H : Hp) (A : Addr) (cl : List (Str × Addr)) (fp : List Addr), PG (X.blk s H scope (compEnvC scope cl A X.env) fp) tg (xG X.prog X.w X.K X.mg t))
    (hcd : ∀ (s : Shared) (H : Hp) (A : Addr) (cl : List (Str × Addr)) (fp : List Addr), PTs (X.blk s H scope (compEnvC scope cl A X.env) fp) ifs (tT X.prog X.w X.K X.mg C (fun _ _ _ _ => False) cd))
    (hel : ∀ (s : Shared) (H : Hp) (A : Addr) (cl : List (Str × Addr)) (fp : List Addr), PE (X.blk s H scope (compEnvC scope cl A X.env) fp) elt (tE X.prog X.w X.K X.mg C (fun _ _ _ _ => False) el)) :
    ∀ σ H Q, xE X C W (.lc m (own.map (·.2)) t it cd el) σ H Q → tLc (xI X C W it) (xG X.prog X.w X.K X.mg t) (tT X.prog X.w X.K X.mg C (fun _ _ _ _ => False) cd) (tE X.prog X.w X.K X.mg C (fun _ _ _ _ => False) el) (own.map (·.2)) σ H Q := by
  intro σ H Q ⟨Φ, Z, β, ρ, U, r, S, R, h, o⟩
  rw [ev] at h
  cases q : evIt C it ρ U with
  | none => rw [q] at h; cases h
  | some r1 =>
    rw [q] at h
    refine ⟨Φ, Z, β, ρ, U, r1, S, R, q, ?_⟩
    cases r1 with
    | ex x U1 =>
      cases h
      exact o
    | ok src U1 =>
      rw [bnd_ok] at h
      split at h
      · cases h
      rename_i hsz
      intro Z1 β1 H1 J z1 b1 R1 wk Dd hD
      generalize hturn : turnL t (evB C cd) (ev C el) (VI.wipe ρ (own.map (·.2))) = turn at h
      have o1 := o.monoE z1 b1
      have S1 := S.mono z1 b1
      refine ⟨fun i m' H => ∃ Z β U vs ds rest U', ZLe Z1 Z ∧ BLe β1 β ∧ Rel X.prog X.w X.K X.mg ((Dd, .lst vs) :: Φ) Z β U H ∧ RepL X.prog X.w X.K Z β ds vs ∧ lcGo turn (src.get.drop i) U = some (.ok rest U') ∧
        (if src.fin U' then mkL m (ds ++ rest) U' else none) = some r ∧ m' = src.get.length - i ∧ i ≤ src.get.length ∧ ds.length ≤ i, ?_, ?_⟩
      · cases ql : lcGo turn src.get U1 with
        | none => rw [ql] at h; cases h
        | some r2 =>
          rw [ql] at h
          cases r2 with
          | ex x U2 =>
            -- a turn raises nothing
            have nox : ∀ (gs : List (Store → Option D)) (V : Store) (x : Ex) (V' : Store), lcGo turn gs V = some (.ex x V') → False := by
              intro gs
              induction gs with
              | nil => intro V x V' q; cases q
              | cons g gs ih =>
                intro V x V' q
                rw [lcGo_cons] at q
                split at q
                · rename_i y hy
                  have hn : ∀ x' V'', turn y V ≠ some (.ex x' V'') := by
                    intro x' V'' z
                    rw [← hturn] at z
                    simp only [turnL, noEx] at z
                    split at z <;> cases z
                  cases q2 : turn y V with
                  | none => rw [q2] at q; cases q
                  | some r3 =>
                    rw [q2] at q
                    cases r3 with
                    | ex x' V'' => exact hn _ _ q2
                    | ok oo V1 =>
                      rw [bnd_ok] at q
                      cases q3 : lcGo turn gs V1 with
                      | none => rw [q3] at q; cases q
                      | some r4 =>
                        rw [q3] at q
                        cases r4 with
                        | ex x' V'' => exact ih V1 x' V'' q3
                        | ok ds V2 => cases q
                · cases q
            exact (nox _ _ _ _ ql).elim
          | ok rest U2 =>
            rw [bnd_ok] at h
            exact ⟨src.get.length, Z1, β1, U1, [], [], rest, U2, ZLe.refl _, BLe.refl _, R1.aside hD _, RepL.nil, by rw [List.drop_zero]; exact ql, h, by simp, Nat.zero_le _, by simp⟩
      · rintro i m' H2 ⟨Z2, β2, U2, vs, ds, rest, U', z2, b2, R2, q2, hgo, hfin, rfl, hi, hds⟩
        have hΦ : ∀ q ∈ Φ, q.1 ≠ Dd := fun q hq e => by
          have := (R1.ext q hq).1
          rw [e, hD] at this
          cases this
        by_cases hl : i < src.get.length
        · rw [List.drop_eq_getElem_cons hl, lcGo_cons] at hgo
          split at hgo
          · rename_i x hx
            obtain ⟨go, yl⟩ := wk.go i _ (List.getElem?_eq_getElem hl) _ Z2 β2 U2 H2 x z2 b2 R2 hx
            refine .inr ⟨go, fun H' => ∃ Z β U vs ds rest U', ZLe Z1 Z ∧ BLe β1 β ∧ Rel X.prog X.w X.K X.mg ((Dd, .lst vs) :: Φ) Z β U H' ∧ RepL X.prog X.w X.K Z β ds vs ∧ lcGo turn (src.get.drop (i + 1)) U = some (.ok rest U') ∧
              (if src.fin U' then mkL m (ds ++ rest) U' else none) = some r ∧ ds.length ≤ i + 1, fun H' q => ⟨src.get.length - (i + 1), by omega, ?_⟩, fun v H' y => ?_⟩
            · obtain ⟨Z, β, U, vs, ds, rest, U', c1, c2, c3, c4, c5, c6, c7⟩ := q
              exact ⟨Z, β, U, vs, ds, rest, U', c1, c2, c3, c4, c5, c6, rfl, hl, c7⟩
            · obtain ⟨Z3, z3, R3, r3⟩ := yl v H' y
              have ht : turn x U2 = noEx (match asgT U2 t x (VI.wipe ρ (own.map (·.2))) with
                | some ρ2 => bnd (evB C cd ρ2 U2) fun k V1 => if k then bnd (ev C el ρ2 V1) fun d V2 => ret (some d) V2 else ret none V1
                | none => none) := by rw [← hturn]; rfl
              rw [ht] at hgo
              cases ha : asgT U2 t x (VI.wipe ρ (own.map (·.2))) with
              | none => rw [ha] at hgo; cases hgo
              | some ρ2 =>
                rw [ha] at hgo
                simp only at hgo
                refine ⟨_, Z3, β2, U2, x, _, ρ2, ((S1.mono z2 b2).mono z3 (BLe.refl _)).wipe _, R3, r3, ha, fun σ' S' hw => ⟨(hw _ hs).trans (wipe_wipe σ _ fun i hi => hi), ?_⟩⟩
                cases qb : evB C cd ρ2 U2 with
                | none => rw [qb] at hgo; cases hgo
                | some rb =>
                  rw [qb] at hgo
                  cases rb with
                  | ex x' V' => cases hgo
                  | ok k V1 =>
                    refine ⟨_, Z3, β2, ρ2, U2, _, S', R3, qb, fun Z4 β4 H4 z4 b4 R4 => ?_⟩
                    rw [bnd_ok] at hgo
                    cases k with
                    | false =>
                      simp only [Bool.false_eq_true, if_false, ret_eq, noEx_ok, bnd_ok] at hgo ⊢
                      refine ⟨Z4, β4, V1, vs, ds, rest, U', (z2.trans z3).trans z4, b2.trans b4, R4, q2.mono (z3.trans z4) b4, ?_, hfin, by omega⟩
                      cases ql : lcGo turn (src.get.drop (i + 1)) V1 with
                      | none => rw [ql] at hgo; cases hgo
                      | some r4 =>
                        rw [ql] at hgo
                        cases r4 with
                        | ex x' V' => cases hgo
                        | ok dd V2 => cases hgo; rfl
                    | true =>
                      simp only [if_true] at hgo ⊢
                      cases qe : ev C el ρ2 V1 with
                      | none => rw [qe] at hgo; cases hgo
                      | some re =>
                        rw [qe] at hgo
                        cases re with
                        | ex x' V' => cases hgo
                        | ok d V2 =>
                          refine ⟨_, Z4, β4, ρ2, V1, _, S'.mono z4 b4, R4, qe, fun Z5 β5 H5 v5 z5 b5 R5 r5 => ?_⟩
                          simp only [bnd_ok, ret_eq, noEx_ok] at hgo
                          have z25 : ZLe Z2 Z5 := (z3.trans z4).trans z5
                          have q5 := q2.mono z25 (b4.trans b5)
                          have hacc := (R5.ext (Dd, .lst vs) (by simp)).1
                          refine ⟨vs, hacc, ?_, Z5, β5, V2, vs ++ [v5], ds ++ [d], ?_⟩
                          · rw [← q2.length, ← SZ_eq]
                            omega
                          · cases ql : lcGo turn (src.get.drop (i + 1)) V2 with
                            | none => rw [ql] at hgo; cases hgo
                            | some r4 =>
                              rw [ql] at hgo
                              cases r4 with
                              | ex x' V' => cases hgo
                              | ok dd V3 =>
                                simp only [bnd_ok, ret_eq, put?] at hgo
                                obtain ⟨rfl, rfl⟩ := ok_inj hgo
                                refine ⟨dd, V3, z2.trans z25, (b2.trans b4).trans b5, R5.aside2 hΦ _, q5.append (RepL.cons r5 RepL.nil), rfl, ?_, by simp; omega⟩
                                rw [List.append_assoc]
                                exact hfin
          · cases hgo
        · have e : i = src.get.length := by omega
          subst e
          rw [List.drop_length] at hgo
          obtain ⟨rfl, rfl⟩ := ok_inj (show some (VI.R.ok [] U2) = some (VI.R.ok rest U') from hgo)
          split at hfin
          · rename_i hf
            refine .inl ⟨wk.stop _ Z2 β2 U2 H2 z2 b2 R2 hf, ?_⟩
            rw [List.append_nil] at hfin
            have o2 := o1.monoE z2 b2
            obtain ⟨h1, hz, hb⟩ := R2.ext (Dd, .lst vs) (by simp)
            unfold mkL at hfin
            split at hfin
            · cases hfin
              obtain ⟨R3, b3⟩ := R2.adopt hΦ (o := .lst ds) ⟨vs, h1, q2.mono (ZLe.refl _) ⟨[Dd], rfl⟩⟩
              refine o2.ok Z2 _ H2 (.ref Dd) (ZLe.refl _) b3 R3 ?_
              simp only [RepV]
              exact ⟨Dd, rfl, by rw [← R2.len]; simp⟩
            · cases hfin
              obtain ⟨R3, z3⟩ := R2.settle hΦ
              refine o2.ok _ β2 H2 (.ref Dd) z3 (BLe.refl _) R3 ?_
              simp only [RepV]
              exact ⟨Dd, vs, rfl, .inl (.inl L2.upd_same), q2.mono z3 (BLe.refl _)⟩
          · cases hfin
end
end VI

/-! VIc7: the kinds of walks. -/
namespace VI
open PySem PySem.Spec PyProof.Rows L2
section
variable {P : Program} {w : World} {K : PySem.W.Frag} {mg : Str → Option Value} {Φ : List (Addr × HO)} {Z Z' : Hp} {β β' : List Addr} {U : Store} {H : Hp}
/-- a list or a tuple as it stands: its items -/
theorem lst_at (r : RepV P w K Z β (.lst xs) (.ref a)) : ∃ vs, SqL K Z a vs ∧ RepL P w K Z β xs vs := by
  simp only [RepV] at r
  obtain ⟨a', vs, e, s, q⟩ := r
  cases e
  exact ⟨vs, s, q⟩
theorem tup_at (r : RepV P w K Z β (.tup xs) (.ref a)) : ∃ vs, SqT K Z a vs ∧ RepL P w K Z β xs vs := by
  simp only [RepV] at r
  obtain ⟨a', vs, e, s, q⟩ := r
  cases e
  exact ⟨vs, s, q⟩
theorem fix_get {xs : List D} {i : Nat} {g : Store → Option D} (e : (fixS xs).get[i]? = some g) : ∃ d, xs[i]? = some d ∧ ∀ U, g U = some d := by
  simp only [fixS, List.getElem?_map, Option.map_eq_some_iff] at e
  obtain ⟨d, h, rfl⟩ := e
  exact ⟨d, h, fun _ => rfl⟩
theorem live_get {n k i : Nat} {g : Store → Option D} (e : (liveS n k).get[i]? = some g) {x : D} (h : g U = some x) : ∃ ys, U[n]? = some (.lst ys) ∧ ys.length = k ∧ ys[i]? = some x := by
  simp only [liveS, List.getElem?_map, Option.map_eq_some_iff] at e
  obtain ⟨j, h1, rfl⟩ := e
  have hj : i = j := by
    by_cases hl : i < k
    · rw [List.getElem?_range hl] at h1
      exact Option.some.inj h1
    · rw [List.getElem?_eq_none (by simpa using hl)] at h1
      cases h1
  subst hj
  dsimp only at h
  split at h
  · rename_i ys hy
    split at h
    · exact ⟨ys, hy, by assumption, h⟩
    · cases h
  · cases h
theorem live_fin {n k : Nat} (h : (liveS n k).fin U = true) : ∃ ys, U[n]? = some (.lst ys) ∧ ys.length = k := by
  simp only [liveS] at h
  split at h
  · rename_i ys hy
    exact ⟨ys, hy, by simpa using h⟩
  · cases h
/-- what a list's source says, of the list at a -/
structure LstSrc (P : Program) (w : World) (K : PySem.W.Frag) (mg : Str → Option Value) (Z : Hp) (β : List Addr) (a : Addr) (src : Src) : Prop where
  get : ∀ (i : Nat) (g : Store → Option D), src.get[i]? = some g → ∀ (Φ : List (Addr × HO)) (Z' : Hp) (β' : List Addr) (U : Store) (H : Hp) (x : D), ZLe Z Z' → BLe β β' → Rel P w K mg Φ Z' β' U H → g U = some x →
    ∃ vs v, SqL K H a vs ∧ vs[i]? = some v ∧ RepV P w K Z' β' x v
  fin : ∀ (Φ : List (Addr × HO)) (Z' : Hp) (β' : List Addr) (U : Store) (H : Hp), ZLe Z Z' → BLe β β' → Rel P w K mg Φ Z' β' U H → src.fin U = true → ∃ vs, SqL K H a vs ∧ vs.length = src.get.length
theorem lstSrc {d : D} {v : V} {src : Src} (R : Rel P w K mg Φ Z β U H) (h : srcL U d = some src) (r : RepV P w K Z β d v) : ∃ a vs, v = .ref a ∧ SqL K H a vs ∧ LstSrc P w K mg Z β a src := by
  unfold srcL at h
  split at h
  · rename_i xs
    cases h
    obtain ⟨a, vs, rfl, s, q⟩ := R.list (d := .lst xs) rfl r
    obtain ⟨vs, s, q⟩ := lst_at r
    refine ⟨a, vs, rfl, SqL.le R.zle s, fun i g e Φ Z' β' U H x z b R' hg => ?_, fun Φ Z' β' U H z b R' _ => ⟨vs, SqL.le R'.zle (SqL.le z s), by simp [fixS, q.length]⟩⟩
    obtain ⟨d, e1, e2⟩ := fix_get e
    rw [e2] at hg
    cases hg
    obtain ⟨v, e3, r3⟩ := q.get e1
    exact ⟨vs, v, SqL.le R'.zle (SqL.le z s), e3, RepV.mono z b r3⟩
  · rename_i n
    split at h
    · rename_i xs hu
      cases h
      obtain ⟨a, vs, rfl, s, q⟩ := R.list (d := .ref n) (xs := xs) (by simp [asL, hu]) r
      simp only [RepV] at r
      obtain ⟨a', e, eb⟩ := r
      cases e
      have at_ : ∀ {Φ : List (Addr × HO)} {Z' : Hp} {β' : List Addr} {U : Store} {H : Hp} {ys : List D}, BLe β β' → Rel P w K mg Φ Z' β' U H → U[n]? = some (.lst ys) → ∃ vs, SqL K H a vs ∧ RepL P w K Z' β' ys vs := fun b R' hy => by
        obtain ⟨vs, e, q⟩ := R'.ref hy (b.get eb)
        exact ⟨vs, .inl (.inl e), q⟩
      refine ⟨a, vs, rfl, s, fun i g e Φ Z' β' U H x z b R' hg => ?_, fun Φ Z' β' U H z b R' hf => ?_⟩
      · obtain ⟨ys, hy, _, hx⟩ := live_get e hg
        obtain ⟨vs, s, q⟩ := at_ b R' hy
        obtain ⟨v, e3, r3⟩ := q.get hx
        exact ⟨vs, v, s, e3, r3⟩
      · obtain ⟨ys, hy, hk⟩ := live_fin hf
        obtain ⟨vs, s, q⟩ := at_ b R' hy
        exact ⟨vs, s, by simp [liveS, ← q.length, hk]⟩
    · cases h
  · cases h
theorem walk_lst {a : Addr} {src : Src} (h : LstSrc P w K mg Z β a src) : WalkV P w K mg Z β (Itl K a) src := by
  refine ⟨fun i g e Φ Z' β' U H x z b R hg => ?_, fun Φ Z' β' U H z b R hf => ?_⟩
  · obtain ⟨vs, v, s, e1, r⟩ := h.get i g e Φ Z' β' U H x z b R hg
    refine ⟨⟨vs, v, s, e1⟩, fun v' H' ⟨y1, y2⟩ => ?_⟩
    subst y1
    have := y2 vs s
    rw [e1] at this
    cases this
    exact ⟨Z', ZLe.refl _, R, r⟩
  · obtain ⟨vs, s, e1⟩ := h.fin Φ Z' β' U H z b R hf
    exact ⟨vs, s, by rw [e1]; exact Nat.le_refl _⟩
theorem walk_tup {xs : List D} {a : Addr} (r : RepV P w K Z β (.tup xs) (.ref a)) : WalkV P w K mg Z β (Itt K a) (fixS xs) := by
  obtain ⟨vs, s, q⟩ := tup_at r
  refine ⟨fun i g e Φ Z' β' U H x z b R hg => ?_, fun Φ Z' β' U H z b R hf => ?_⟩
  · obtain ⟨d, e1, e2⟩ := fix_get e
    rw [e2] at hg
    cases hg
    obtain ⟨v, e3, r3⟩ := q.get e1
    have s' := SqT.le R.zle (SqT.le z s)
    refine ⟨⟨vs, v, s', e3⟩, fun v' H' ⟨y1, y2⟩ => ?_⟩
    subst y1
    have := y2 vs s'
    rw [e3] at this
    cases this
    exact ⟨Z', ZLe.refl _, R, RepV.mono z b r3⟩
  · exact ⟨vs, SqT.le R.zle (SqT.le z s), by simp [fixS, q.length]⟩
theorem walk_str {x : Tx} : WalkV P w K mg Z β (Its ⟨x.toArray⟩) (fixS (x.map fun c => .str [c])) := by
  refine ⟨fun i g e Φ Z' β' U H y z b R hg => ?_, fun Φ Z' β' U H z b R hf => ?_⟩
  · obtain ⟨d, e1, e2⟩ := fix_get e
    rw [e2] at hg
    cases hg
    simp only [List.getElem?_map, Option.map_eq_some_iff] at e1
    obtain ⟨c, e1, rfl⟩ := e1
    have hi : i < x.length := (List.getElem?_eq_some_iff.mp e1).1
    refine ⟨by simpa [Its] using hi, fun v' H' ⟨y1, c', y2, y3⟩ => ?_⟩
    subst y1
    have : x[i]? = some c' := by simpa using y2
    rw [e1] at this
    cases this
    exact ⟨Z', ZLe.refl _, R, by simp only [RepV]; exact y3⟩
  · simp [Its, fixS]
theorem walk_range {lo hi : Int} : WalkV P w K mg Z β (Itr lo (hi - lo).toNat) (fixS (rangeL lo hi)) := by
  refine ⟨fun i g e Φ Z' β' U H y z b R hg => ?_, fun Φ Z' β' U H z b R hf => ?_⟩
  · obtain ⟨d, e1, e2⟩ := fix_get e
    rw [e2] at hg
    cases hg
    simp only [rangeL, List.getElem?_map, Option.map_eq_some_iff] at e1
    obtain ⟨k, e1, rfl⟩ := e1
    have hi : i < (hi - lo).toNat := by simpa using (List.getElem?_eq_some_iff.mp e1).1
    rw [List.getElem?_range hi] at e1
    cases e1
    refine ⟨hi, fun v' H' ⟨y1, y2⟩ => ?_⟩
    subst y1
    exact ⟨Z', ZLe.refl _, R, by simp only [RepV]; exact y2⟩
  · show (hi - lo).toNat ≤ _
    simp [fixS, rangeL]
end
section
variable {X : Cx} {C : Cal} {W : WX} {e e1 e2 e3 : Expr} {a b c : IE} {pos p tpos : Pos} {tg : Expr} {elts : List Expr} {kk : Nat}
/-- what is wanted of a walk -/
theorem tE_bndI {e : IE} {f : D → M Src} {r : VI.R Src} {Φ : List (Addr × HO)} {Z : Hp} {β : List Addr} {ρ : Rho} {σ : L2.St} {U : Store} {H : Hp} {R' : L2.It → Hp → Prop} {Q : VK} (S : RepS X.prog X.w X.K Z β ρ σ) (R : Rel X.prog X.w X.K X.mg Φ Z β U H) (h : bnd (ev C e ρ U) f = some r)
    (o : Out X.prog X.w X.K X.mg W Φ Z β σ (fun src U' => DoneW X.prog X.w X.K X.mg Φ Z β src U' R') r)
    (k : ∀ Z' β' H' d v U', ZLe Z Z' → BLe β β' → Rel X.prog X.w X.K X.mg Φ Z' β' U' H' → RepV X.prog X.w X.K Z' β' d v → RepS X.prog X.w X.K Z' β' ρ σ → f d U' = some r → Out X.prog X.w X.K X.mg W Φ Z' β' σ (fun src U' => DoneW X.prog X.w X.K X.mg Φ Z' β' src U' R') r → Q v H') : xE X C W e σ H Q :=
  tE_bnd S R h o.wish fun Z' β' H' d v U' z b R1 r1 S1 h1 => k Z' β' H' d v U' z b R1 r1 S1 h1 (o.mono z b fun src U' q => DoneW.mono q z b)
theorem i_seq (ha : PE X e (xE X C W a)) : PI X tg e (xI X C W (.seq a)) := by
  refine ⟨fun pins s σ H R' I ⟨Φ, Z, β, ρ, U, r, S, R, h, o⟩ => ?_⟩
  rw [evIt] at h
  refine L2.thn (ha.run pins s σ H (fun x H1 => (∃ a, x = .ref a ∧ (∃ xs, SqL X.K H1 a xs) ∧ R' (Itl X.K a) H1) ∨ (∃ a, x = .ref a ∧ (∃ xs, SqT X.K H1 a xs) ∧ R' (Itt X.K a) H1) ∨ ∃ y, x = .str y ∧ R' (Its y) H1) I ?_) fun v s1 ⟨x, H1, I1, r1, q1⟩ => ?_
  · refine tE_bndI S R h o fun Z1 β1 H1 d v U1 z1 b1 R1 r1 S1 h1 o1 => ?_
    split at h1
    · rename_i src hs
      cases h1
      unfold srcOf at hs
      split at hs
      · rename_i xs
        obtain ⟨a, vs, rfl, s, ls⟩ := lstSrc R1 (d := .lst xs) (src := src) hs r1
        exact .inl ⟨a, rfl, ⟨vs, s⟩, o1.ok Z1 β1 H1 _ (ZLe.refl _) (BLe.refl _) R1 (walk_lst ls)⟩
      · rename_i xs
        cases hs
        obtain ⟨a, vs, rfl, s, q⟩ := R1.tuple r1
        exact .inr (.inl ⟨a, rfl, ⟨vs, s⟩, o1.ok Z1 β1 H1 _ (ZLe.refl _) (BLe.refl _) R1 (walk_tup r1)⟩)
      · rename_i x
        cases hs
        simp only [RepV] at r1
        exact .inr (.inr ⟨_, r1, o1.ok Z1 β1 H1 _ (ZLe.refl _) (BLe.refl _) R1 walk_str⟩)
      · rename_i n
        obtain ⟨a, vs, rfl, s, ls⟩ := lstSrc R1 (d := .ref n) (src := src) hs r1
        exact .inl ⟨a, rfl, ⟨vs, s⟩, o1.ok Z1 β1 H1 _ (ZLe.refl _) (BLe.refl _) R1 (walk_lst ls)⟩
      · cases hs
    · cases h1
  · rcases q1 with ⟨a, rfl, ⟨xs, hq⟩, q⟩ | ⟨a, rfl, ⟨xs, hq⟩, q⟩ | ⟨x, rfl, q⟩
    · cases r1
      obtain ⟨its, rv, p, hz⟩ := I1.list hq
      exact wpAny_pyIter_list p.isList (pi_one (tk := s1.toks) I1 _ (turn_list a _) ⟨_, Heap.get?_push_size _ rfl, rfl, rfl⟩ q)
    · cases r1
      obtain ⟨its, rv, p, hz⟩ := I1.tuple hq
      exact wpAny_pyIter_tuple (show s1.heap.IsTuple a its.toArray from p) (pi_one (tk := s1.toks) I1 _ (turn_tuple a _) ⟨_, Heap.get?_push_size _ rfl, rfl, rfl⟩ q)
    · obtain ⟨t, rfl⟩ := r1
      cases ha : x.cps.all (· < 128)
      · exact wpAny_pyIter_wide ha (pi_one (tk := s1.toks) I1 _ (turn_str _ x t "str_iterator" (.inr rfl)) ⟨_, Heap.get?_push_size _ rfl, rfl, rfl⟩ q)
      · exact wpAny_pyIter_ascii ha (pi_one (tk := s1.toks) I1 _ (turn_str _ x t "str_ascii_iterator" (.inl rfl)) ⟨_, Heap.get?_push_size _ rfl, rfl, rfl⟩ q)
/-- one argument -/
theorem a_one (ht : tame e = true) (ha : PE X e (xE X C W a)) : PA X [e] (tCons (xE X C W a) tNil) := pa_cons ha pa_nil (star_tame ht [] _)
theorem a_two (ht : tame e1 = true) (ht2 : tame e2 = true) (ha : PE X e1 (xE X C W a)) (hb : PE X e2 (xE X C W b)) : PA X [e1, e2] (tCons (xE X C W a) (tCons (xE X C W b) tNil)) := pa_cons ha (pa_cons hb pa_nil (star_tame ht2 [] _)) (star_tame ht [e2] _)
theorem small_ok {i : Int} (h : small i = true) : -(2 ^ 62) ≤ i ∧ i < 2 ^ 62 := by
  unfold small at h
  simp only [Bool.and_eq_true, decide_eq_true_eq] at h
  omega
theorem i_range1 (hg : Gl X "range") (hm : X.mg "range" = none) (ht : tame e = true) (ha : PE X e (xE X C W a)) : PI X tg (.Call (.Name "range" p) [e] [] pos) (xI X C W (.range1 a)) := by
  refine ⟨fun pins s σ H R' I ⟨Φ, Z, β, ρ, U, r, S, R, h, o⟩ => (pi_range1 hg hm (a_one ht ha) (star_tame ht [] _)).run pins s σ H R' I ?_⟩
  rw [evIt] at h
  refine tE_bndI S R h o fun Z1 β1 H1 d v U1 z1 b1 R1 r1 S1 h1 o1 => ?_
  split at h1
  · rename_i i
    split at h1
    · rename_i hi
      cases h1
      simp only [RepV] at r1
      subst r1
      refine ⟨i, rfl, (small_ok hi).1, (small_ok hi).2, o1.ok Z1 β1 H1 _ (ZLe.refl _) (BLe.refl _) R1 ?_⟩
      have := walk_range (P := X.prog) (w := X.w) (K := X.K) (mg := X.mg) (Z := Z1) (β := β1) (lo := 0) (hi := i)
      simpa using this
    · cases h1
  · cases h1
theorem i_range2 (hg : Gl X "range") (hm : X.mg "range" = none) (ht : tame e1 = true) (ht2 : tame e2 = true) (ha : PE X e1 (xE X C W a)) (hb : PE X e2 (xE X C W b)) : PI X tg (.Call (.Name "range" p) [e1, e2] [] pos) (xI X C W (.range2 a b)) := by
  refine ⟨fun pins s σ H R' I ⟨Φ, Z, β, ρ, U, r, S, R, h, o⟩ => (pi_range2 hg hm (a_two ht ht2 ha hb) (by rw [star_tame ht, star_tame ht2]; rfl) (star_tame ht2 [] _)).run pins s σ H R' I ?_⟩
  rw [evIt] at h
  refine tE_bndI S R h o fun Z1 β1 H1 d v U1 z1 b1 R1 r1 S1 h1 o1 => ?_
  refine tE_bndI S1 R1 h1 o1 fun Z2 β2 H2 d2 v2 U2 z2 b2 R2 r2 S2 h2 o2 => ?_
  split at h2
  · rename_i i j
    split at h2
    · rename_i hi
      cases h2
      simp only [Bool.and_eq_true] at hi
      simp only [RepV] at r1 r2
      subst r1 r2
      exact ⟨i, j, rfl, ⟨(small_ok hi.1).1, (small_ok hi.1).2, (small_ok hi.2).1, (small_ok hi.2).2⟩, o2.ok Z2 β2 H2 _ (ZLe.refl _) (BLe.refl _) R2 walk_range⟩
    · cases h2
  · cases h2
/-! ### enumerate -/
theorem enum_get {k : Int} : ∀ {gs : List (Store → Option D)} {n i : Nat} {g : Store → Option D}, (enumS k n gs)[i]? = some g → ∃ g0, gs[i]? = some g0 ∧ ∀ U, g U = (g0 U).map fun x => .tup [.int (k + ((n + i : Nat) : Int)), x]
  | [], n, i, g, h => by simp [enumS] at h
  | g0 :: r, n, 0, g, h => by
    simp only [enumS, List.getElem?_cons_zero, Option.some.injEq] at h
    subst h
    exact ⟨g0, rfl, fun U => by simp⟩
  | g0 :: r, n, i + 1, g, h => by
    simp only [enumS, List.getElem?_cons_succ] at h
    obtain ⟨g1, e, q⟩ := enum_get h
    refine ⟨g1, by simpa using e, fun U => ?_⟩
    rw [q]
    have : n + 1 + i = n + (i + 1) := by omega
    rw [this]
theorem enum_len {k : Int} : ∀ {gs : List (Store → Option D)} {n : Nat}, (enumS k n gs).length = gs.length
  | [], _ => rfl
  | _ :: r, n => by simp [enumS, enum_len (gs := r)]
theorem walk_enum {P : Program} {w : World} {K : PySem.W.Frag} {mg : Str → Option Value} {Z : Hp} {β : List Addr} {a : Addr} {src : Src} (h : LstSrc P w K mg Z β a src) : WalkV P w K mg Z β (Ite K a) ⟨enumS 0 0 src.get, src.fin⟩ := by
  refine ⟨fun i g e Φ Z' β' U H x z b R hg => ?_, fun Φ Z' β' U H z b R hf => ?_⟩
  · obtain ⟨g0, e0, q0⟩ := enum_get e
    rw [q0, Option.map_eq_some_iff] at hg
    obtain ⟨y, hy, rfl⟩ := hg
    obtain ⟨vs, v, s, e1, r⟩ := h.get i g0 e0 Φ Z' β' U H y z b R hy
    refine ⟨⟨vs, v, s, e1⟩, fun v' H' ⟨T, x, y1, hT, y2, y3⟩ => ?_⟩
    have := y3 vs s
    rw [e1] at this
    cases this
    subst y1 y2
    have q : RepL P w K Z' β' [D.int (0 + ((0 + i : Nat) : Int)), y] [V.int (i : Nat), v] := by
      refine RepL.cons ?_ (RepL.cons r RepL.nil)
      simp only [RepV]
      simp
    obtain ⟨Z2, z2, R2, r2⟩ := R.mkT q hT
    exact ⟨Z2, z2, R2, r2⟩
  · obtain ⟨vs, s, e1⟩ := h.fin Φ Z' β' U H z b R hf
    exact ⟨vs, s, by rw [e1]; simp [enum_len]⟩
end
end VI

/-! VIc8: what the language gives: the rules. -/
namespace VI
open PySem PySem.Spec PyProof.Rows L2
/-- a call of a built-in by values -/
def rP (X : Cx) (p : P) (m : Bool) : List V → Hp → VK → Prop := fun vs H Q => ∃ Φ Z β U ds d U', Rel X.prog X.w X.K X.mg Φ Z β U H ∧ RepL X.prog X.w X.K Z β ds vs ∧ prim p m ds U = some (.ok d U') ∧ Done X.prog X.w X.K X.mg Φ Z β d U' Q
/-- .. of a method -/
def rM (X : Cx) (p : P) (m : Bool) : V → List V → Hp → VK → Prop := fun v vs H Q => ∃ Φ Z β U a ds d U', Rel X.prog X.w X.K X.mg Φ Z β U H ∧ RepV X.prog X.w X.K Z β a v ∧ RepL X.prog X.w X.K Z β ds vs ∧ prim p m (a :: ds) U = some (.ok d U') ∧ Done X.prog X.w X.K X.mg Φ Z β d U' Q
theorem prim_ok {p : P} {m : Bool} {ds : List D} {U V : Store} {x : Ex} (h : prim p m ds U = some (.ex x V)) : False := by
  unfold prim lenOf listOf mkL mkD at h
  split at h
  all_goals (repeat' split at h)
  all_goals cases h
def isMeth : P → Bool
  | .join | .split | .startswith | .rstrip | .find | .isdigit | .index | .count | .append | .extend | .insert | .pop0 | .pop1 | .clear | .reverse | .get1 | .get2 | .setdefault | .popD => true
  | _ => false
theorem recv_fun {p : P} (h : isMeth p = false) (U : Store) (x : D) : recvOk p U x = true := by cases p <;> first | rfl | cases h
section
variable {X : Cx} {C : Cal} {W : WX} {e e1 e2 e3 : Expr} {a b c : IE} {pos p apos : Pos} {es : List Expr} {as : IEs} {x : Str} {pr : P} {m : Bool}
theorem n_fun0 {f : Value} (hc : CallR X f (rP X pr m)) (hp : isMeth pr = false) : ∀ σ H Q, xE X C W (.prim pr m (.cons a as)) σ H Q → tCB (rP X pr m) (xA X C W (.cons a as)) σ H Q := by
  intro σ H Q ⟨Φ, Z, β, ρ, U, r, S, R, h, o⟩
  rw [ev] at h
  have h : (bnd (evs C (.cons a as) ρ U) fun ds U2 => prim pr m ds U2) = some r := by
    rw [evs]
    cases q : ev C a ρ U with
    | none => simp only [q] at h; cases h
    | some r1 =>
      simp only [q] at h
      cases r1 with
      | ex x V => exact h
      | ok d V =>
        simp only [bnd_ok, recv_fun hp, if_true] at h ⊢
        cases q2 : evs C as ρ V with
        | none => rw [q2] at h; cases h
        | some r2 =>
          rw [q2] at h
          cases r2 with
          | ex x V2 => exact h
          | ok ds V2 => exact h
  refine tA_bnd S R h o.wish fun Z1 β1 H1 ds vs U1 z1 b1 R1 r1 S1 h1 => ?_
  obtain ⟨d3, U3, rfl⟩ := must h1 fun x V => prim_ok
  exact ⟨Φ, Z1, β1, U1, ds, d3, U3, R1, r1, h1, o.monoE z1 b1⟩
theorem n_fun {id : String} (hc : CallR X (.builtin id) (rP X pr m)) (hp : isMeth pr = false) (hg : Gl X x) (hm : X.mg x = none) (hv : bootBuiltins x = some (.builtin id)) (hn : x ≠ "__name__") (hdb : (x == ("__debug__" : Str)) = false) (ht : (e :: es).all tame = true) (ha : PA X (e :: es) (xA X C W (.cons a as))) :
    PE X (.Call (.Name x p) (e :: es) [] pos) (xE X C W (.prim pr m (.cons a as))) := by
  simp only [List.all_cons, Bool.and_eq_true] at ht
  exact (pe_callB hc hg hm hv ha hn hdb (star_tame ht.1 es _) (stars_tame ht.2 pos _)).imp (n_fun0 hc hp)
theorem n_ty {T : String} (hc : CallR X (.type T) (rP X pr m)) (hp : isMeth pr = false) (hg : Gl X x) (hm : X.mg x = none) (hv : bootBuiltins x = some (.type T)) (hn : x ≠ "__name__") (hdb : (x == ("__debug__" : Str)) = false) (ht : (e :: es).all tame = true) (ha : PA X (e :: es) (xA X C W (.cons a as))) :
    PE X (.Call (.Name x p) (e :: es) [] pos) (xE X C W (.prim pr m (.cons a as))) := by
  simp only [List.all_cons, Bool.and_eq_true] at ht
  exact (pe_callTy hc hg hm hv ha hn hdb (star_tame ht.1 es _) (stars_tame ht.2 pos _)).imp (n_fun0 hc hp)
/-- a datum's type in the heap -/
theorem recv_is {pins : List (Addr × Obj)} {σ : L2.St} {H : Hp} {s : Shared} {Φ : List (Addr × HO)} {Z : Hp} {β : List Addr} {U : Store} {d : D} {v : V} {u : Value} (I : Inv X pins σ H s) (R : Rel X.prog X.w X.K X.mg Φ Z β U H) (rd : RepV X.prog X.w X.K Z β d v) (rv : RelV v u) :
    (∀ x, d = .str x → s.TypeIs u "str" ∧ ∀ a, u = .ref a → ∃ ob, s.heap.get? a = some ob ∧ ob.dict = none) ∧
    (∀ xs, asL U d = some xs → s.TypeIs u "list" ∧ ∀ a, u = .ref a → ∃ ob, s.heap.get? a = some ob ∧ ob.dict = none) ∧
    ∀ t kvs, asD U d = some (t, kvs) → s.TypeIs u "dict" ∧ ∀ a, u = .ref a → ∃ ob, s.heap.get? a = some ob ∧ ob.dict = none := by
  refine ⟨fun x e => ?_, fun xs e => ?_, fun t kvs e => ?_⟩
  · subst e
    simp only [RepV] at rd
    subst rd
    exact tyV_is I rv rfl
  · obtain ⟨p, vs, rfl, sq, q⟩ := R.list e rd
    exact tyV_is (T := "list") I rv (.inl ⟨rfl, vs, sq⟩)
  · obtain ⟨p, rfl, h⟩ := R.dict e rd
    cases rv
    rcases h with ⟨_, l, e, q⟩ | ⟨_, l, e, nd, q⟩
    · obtain ⟨_, _, vs, _, dd⟩ := dk_rd I.hok (.inl e)
      refine ⟨dd.typeIs, fun a e => ?_⟩
      cases e
      obtain ⟨o, _, _, h1, h2, _⟩ := dd
      exact ⟨o, h1, h2.2.1⟩
    · obtain ⟨_, _, dd⟩ := dn_heap R I e nd q
      refine ⟨dd.typeIs, fun a e => ?_⟩
      cases e
      obtain ⟨o, _, _, h1, h2, _⟩ := dd
      exact ⟨o, h1, h2.2.1⟩
/-- what a receiver is, by its method -/
theorem recv_ok {T : String} {pins : List (Addr × Obj)} {σ : L2.St} {H : Hp} {s : Shared} {Φ : List (Addr × HO)} {Z : Hp} {β : List Addr} {U : Store} {d : D} {v : V} {u : Value} (I : Inv X pins σ H s) (R : Rel X.prog X.w X.K X.mg Φ Z β U H) (rd : RepV X.prog X.w X.K Z β d v) (rv : RelV v u)
    (h : (T = "str" ∧ ∃ x, d = .str x) ∨ (T = "list" ∧ (asL U d).isSome = true) ∨ (T = "dict" ∧ (asD U d).isSome = true)) : s.TypeIs u T ∧ ∀ a, u = .ref a → ∃ ob, s.heap.get? a = some ob ∧ ob.dict = none := by
  obtain ⟨h1, h2, h3⟩ := recv_is I R rd rv
  rcases h with ⟨rfl, x, e⟩ | ⟨rfl, e⟩ | ⟨rfl, e⟩
  · exact h1 x e
  · obtain ⟨xs, e⟩ := Option.isSome_iff_exists.mp e
    exact h2 xs e
  · obtain ⟨⟨t, kvs⟩, e⟩ := Option.isSome_iff_exists.mp e
    exact h3 t kvs e
/-- the kind of receiver a method has -/
def recvT : P → String
  | .join | .split | .startswith | .rstrip | .find | .isdigit => "str"
  | .get1 | .get2 | .setdefault | .popD => "dict"
  | _ => "list"
theorem recvT_ok {U : Store} {d : D} (hp : isMeth pr = true) (h : recvOk pr U d = true) : (recvT pr = "str" ∧ ∃ x, d = .str x) ∨ (recvT pr = "list" ∧ (asL U d).isSome = true) ∨ (recvT pr = "dict" ∧ (asD U d).isSome = true) := by
  cases pr <;> first
    | (cases hp; done)
    | (refine .inl ⟨rfl, ?_⟩
       simp only [recvOk] at h
       split at h
       · exact ⟨_, rfl⟩
       · cases h
       done)
    | exact .inr (.inl ⟨rfl, h⟩)
    | exact .inr (.inr ⟨rfl, h⟩)
/-- o.m(e, ..) -/
theorem n_meth {name : Str} {id : String} (hp : isMeth pr = true) (pa : PlainAttrs (recvT pr)) (slot : Slot (recvT pr) name id) (hty : typeOf (.builtin id) = pure (.type "method_descriptor")) (hm : MtR X id (rM X pr m)) (hb : noSup e1 = true) (hline : (apos.endLine == pos.line) = true)
    (ht : (e :: es).all tame = true) (hl : (e :: es).length < 20) (ho : PE X e1 (xE X C W a)) (ha : PA X (e :: es) (xA X C W as)) : PE X (.Call (.Attribute e1 name apos) (e :: es) [] pos) (xE X C W (.prim pr m (.cons a as))) := by
  refine ⟨fun pins s σ H Q I ⟨Φ, Z, β, ρ, U, r, S, R, h, o⟩ => ?_⟩
  simp only [List.all_cons, Bool.and_eq_true] at ht
  have hs := star_tame ht.1 es X.env
  have hplain := stars_tame ht.2 pos X.env
  rw [ev] at h
  have hlen : ∀ (es : List Expr), es.all tame = true → (backTo pos (starEach es X.env)).all (fun x => !x.1) = true := fun es h => by
    have := stars_tame h pos X.env
    rw [List.any_eq_false] at this
    rw [List.all_eq_true]
    intro x hx
    simpa using this x hx
  refine wpAny_Call_method_late (attr_noSup hb name X.env _) ?_ hline rfl (L2.thn (ho.run pins s σ H (fun x H1 => ∃ Z β U d r, Rel X.prog X.w X.K X.mg Φ Z β U H1 ∧ RepV X.prog X.w X.K Z β d x ∧ recvOk pr U d = true ∧ RepS X.prog X.w X.K Z β ρ σ ∧ (bnd (evs C as ρ U) fun ds U2 => prim pr m (d :: ds) U2) = some r ∧
    Out X.prog X.w X.K X.mg W Φ Z β σ (fun d U' => Done X.prog X.w X.K X.mg Φ Z β d U' Q) r) I ?_) fun v s1 ⟨x, H1, I1, r1, Z1, β1, U1, d, r, R1, rd, hr, S1, h1, o1⟩ => ?_)
  · have e1 : (backTo pos (starEach (e :: es) X.env)).all (fun x => !x.1) = true := hlen (e :: es) (by simp [ht])
    rw [e1]
    simp only [Bool.true_and]
    have e2 : (backToKw pos (keywordEach [] X.env)).all (fun x => x.1.isSome) = true := rfl
    rw [e2]
    simp only [Bool.true_and, decide_eq_true_eq]
    simp only [List.isEmpty_nil, if_true, List.length_nil]
    omega
  · refine tE_bnd S R h o.wish fun Z1 β1 H1 d v U1 z1 b1 R1 r1 S1 h1 => ?_
    split at h1
    · rename_i hr
      exact ⟨Z1, β1, U1, d, r, R1, r1, hr, S1, h1, o.monoE z1 b1⟩
    · cases h1
  · obtain ⟨t1, t2⟩ := recv_ok I1 R1 rd r1 (recvT_ok hp hr)
    refine ⟨recvT pr, id, pa, slot, hty, t1, t2, ?_⟩
    have hA := ha.run pos pins s1 σ H1 (fun vs H2 => rM X pr m x vs H2 Q) I1 (tA_bnd S1 R1 h1 o1.wish fun Z2 β2 H2 ds vs U2 z2 b2 R2 r2 S2 h2 => by
      obtain ⟨d3, U3, rfl⟩ := must h2 fun x V => prim_ok
      exact ⟨Φ, Z2, β2, U2, d, ds, d3, U3, R2, RepV.mono z2 b2 rd, r2, h2, o1.monoE z2 b2⟩)
    rw [hs] at hA ⊢
    refine Calls.callWith_builtin (by show (false || (backTo pos (starEach es X.env)).any (·.1)) = false; rw [hplain]; rfl) (Calls.evalArgs_plain ?_)
    exact L2.thn hA fun us s2 ⟨vs, H2, I2, r2, q2⟩ => hm pins s2 σ H2 x vs v us Q I2 r1 r2 q2
/-- o.m() -/
theorem n_meth0 {name : Str} {id : String} (hp : isMeth pr = true) (pa : PlainAttrs (recvT pr)) (slot : Slot (recvT pr) name id) (hty : typeOf (.builtin id) = pure (.type "method_descriptor")) (hm : MtR X id (rM X pr m)) (hb : noSup e1 = true) (hline : (apos.endLine == pos.line) = true)
    (ho : PE X e1 (xE X C W a)) : PE X (.Call (.Attribute e1 name apos) [] [] pos) (xE X C W (.prim pr m (.cons a .nil))) := by
  refine ⟨fun pins s σ H Q I ⟨Φ, Z, β, ρ, U, r, S, R, h, o⟩ => ?_⟩
  rw [ev] at h
  refine wpAny_Call_method0_late (attr_noSup hb name X.env _) hline (L2.thn (ho.run pins s σ H (fun x H1 => ∃ Z β U d r, Rel X.prog X.w X.K X.mg Φ Z β U H1 ∧ RepV X.prog X.w X.K Z β d x ∧ recvOk pr U d = true ∧ prim pr m [d] U = some r ∧
    Out X.prog X.w X.K X.mg W Φ Z β σ (fun d U' => Done X.prog X.w X.K X.mg Φ Z β d U' Q) r) I ?_) fun v s1 ⟨x, H1, I1, r1, Z1, β1, U1, d, r, R1, rd, hr, h1, o1⟩ => ?_)
  · refine tE_bnd S R h o.wish fun Z1 β1 H1 d v U1 z1 b1 R1 r1 S1 h1 => ?_
    split at h1
    · rename_i hr
      rw [evs, bnd_ok] at h1
      exact ⟨Z1, β1, U1, d, r, R1, r1, hr, h1, o.monoE z1 b1⟩
    · cases h1
  · obtain ⟨t1, t2⟩ := recv_ok I1 R1 rd r1 (recvT_ok hp hr)
    obtain ⟨d3, U3, rfl⟩ := must h1 fun x V => prim_ok
    refine ⟨recvT pr, id, pa, slot, hty, t1, t2, Calls.callWith_builtin rfl (PySem.evalArgs_none (hm pins s1 σ H1 x [] v [] Q I1 r1 .nil ⟨Φ, Z1, β1, U1, d, [], d3, U3, R1, rd, RepL.nil, h1, o1⟩))⟩
end
end VI

/-! VIc9: what the language gives, one by one. -/
namespace VI
open PySem PySem.Spec PyProof.Rows L2
section
variable {X : Cx} {C : Cal} {W : WX} {m : Bool}
theorem one_rep {P : Program} {w : World} {K : PySem.W.Frag} {Z : Hp} {β : List Addr} {d : D} {vs : List V} (h : RepL P w K Z β [d] vs) : ∃ v, vs = [v] ∧ RepV P w K Z β d v := by
  simp only [RepL] at h
  obtain ⟨v, s, rfl, r, rfl⟩ := h
  exact ⟨v, rfl, r⟩
theorem two_rep {P : Program} {w : World} {K : PySem.W.Frag} {Z : Hp} {β : List Addr} {d e : D} {vs : List V} (h : RepL P w K Z β [d, e] vs) : ∃ v u, vs = [v, u] ∧ RepV P w K Z β d v ∧ RepV P w K Z β e u := by
  simp only [RepL] at h
  obtain ⟨v, s, rfl, r, u, s2, rfl, r2, rfl⟩ := h
  exact ⟨v, u, rfl, r, r2⟩
/-- dicts' len -/
theorem call_len_d : CallR X (.builtin "len") (fun xs H Q => ∃ x Φ Z β U a kvs, xs = [x] ∧ Rel X.prog X.w X.K X.mg Φ Z β U H ∧ RepV X.prog X.w X.K Z β a x ∧ asD U a = some (0, kvs) ∧ Q (.int kvs.length) H) := by
  intro pins s σ H xs us Q I r ⟨x, Φ, Z, β, U, a, kvs, e, R, ra, hd, q⟩
  subst e
  obtain ⟨u, rfl, rx⟩ := vals1 r
  obtain ⟨p, rfl, h⟩ := R.dict hd ra
  cases rx
  rcases h with ⟨_, l, e, q1⟩ | ⟨h0, _⟩
  · refine d_len I (.inl e) fun tk s' I' => ⟨.int _, H, I', ⟨tk, rfl⟩, ?_⟩
    rw [← repK_len q1]
    exact q
  · cases h0
theorem c_len : CallR X (.builtin "len") (rP X .len m) := by
  refine CallR.imp ((call_len_seq.or call_len_str).or call_len_d) ?_
  rintro vs H Q ⟨Φ, Z, β, U, ds, d', U', R, q, e, dn⟩
  cases ds with
  | nil => simp [prim] at e
  | cons d ds =>
    cases ds with
    | cons _ _ => simp [prim] at e
    | nil =>
      obtain ⟨v, rfl, r⟩ := one_rep q
      rw [prim] at e
      unfold lenOf at e
      split at e
      · rename_i x
        split at e
        · rename_i hx
          obtain ⟨rfl, rfl⟩ := ok_inj e
          simp only [RepV] at r
          subst r
          refine .inl (.inr ⟨_, rfl, by rw [str_len, ← SZ_eq]; exact hx, ?_⟩)
          rw [str_len]
          exact dn.int R
        · cases e
      · split at e
        · rename_i xs hq
          obtain ⟨rfl, rfl⟩ := ok_inj e
          obtain ⟨p, ws, rfl, sq, q2⟩ := R.seq hq r
          refine .inl (.inl ⟨p, ws, rfl, sq, ?_⟩)
          rw [← q2.length]
          exact dn.int R
        · split at e
          · rename_i t kvs hd
            split at e
            · rename_i ht
              subst ht
              obtain ⟨rfl, rfl⟩ := ok_inj e
              exact .inr ⟨v, Φ, Z, β, U, d, kvs, rfl, R, r, hd, dn.int R⟩
            · cases e
          · cases e
/-! ### split at a sign -/
theorem spl_one (c : Nat) : ∀ (x acc : List Nat), TL.spl [c] 0 acc x = (match splitC c x with | [] => [] | w :: ws => (acc ++ w) :: ws)
  | [], acc => by simp [TL.spl, splitC]
  | y :: r, acc => by
    have ih := spl_one c r
    by_cases h : y = c
    · have hp : TL.pre [c] (y :: r) = true := by subst h; simp [TL.pre]
      rw [TL.spl_hit hp]
      simp only [splitC, if_pos h]
      have := ih []
      simp only [List.nil_append] at this
      simp only [List.length_singleton, Nat.sub_self, List.append_nil]
      rw [this]
      cases q : splitC c r with
      | nil => rfl
      | cons w ws => rfl
    · have hp : TL.pre [c] (y :: r) = false := by
        simp [TL.pre]
        exact fun z => h z
      rw [TL.spl_miss hp, ih]
      simp only [splitC, if_neg h]
      cases q : splitC c r with
      | nil =>
        exfalso
        have ne : ∀ x : List Nat, splitC c x ≠ [] := by
          intro x
          induction x with
          | nil => simp [splitC]
          | cons z t ih2 =>
            simp only [splitC]
            split
            · simp
            · split <;> simp
        exact ne _ q
      | cons w ws => simp
theorem tl_of (x : Tx) : TL.tl (⟨x.toArray⟩ : Str) = x := rfl
theorem str_of_tl (s : Str) : (⟨(TL.tl s).toArray⟩ : Str) = s := by
  cases s
  simp [TL.tl]
theorem m_split : MtR X "str.split" (rM X .split m) := by
  refine MtR.imp mt_split ?_
  rintro v vs H Q ⟨Φ, Z, β, U, a, ds, d', U', R, ra, q, e, dn⟩
  have sh : ∃ x c, a = .str x ∧ ds = [.str [c]] := by
    unfold prim at e
    split at e <;> first
      | (rename_i x c; exact ⟨x, c, by simp_all, by simp_all⟩)
      | simp_all
  obtain ⟨x, c, rfl, rfl⟩ := sh
  rw [prim] at e
  split at e
  · rename_i hx
    obtain ⟨u, rfl, ru⟩ := one_rep q
    simp only [RepV] at ra ru
    subst ra ru
    refine ⟨_, _, rfl, rfl, by simp [Str.length], by rw [str_len, ← SZ_eq]; exact hx.1, fun p hp => ?_⟩
    have hk := TL.split_spl (⟨x.toArray⟩ : Str) (⟨[c].toArray⟩ : Str) (by simp [TL.tl]) (TL.kind_ok (by simp; omega))
    rw [tl_of, tl_of, spl_one] at hk
    have e1 : (Txt.split ⟨x.toArray⟩ ⟨[c].toArray⟩).map V.str = ((splitC c x).map fun z => V.str ⟨z.toArray⟩) := by
      have : (Txt.split ⟨x.toArray⟩ ⟨[c].toArray⟩).map TL.tl = splitC c x := by
        rw [hk]
        cases splitC c x <;> simp
      rw [← this, List.map_map]
      refine List.map_congr_left fun s _ => ?_
      simp only [Function.comp_apply]
    rw [e1]
    refine dn.lst R e ?_ hp
    have : ∀ zs : List Tx, RepL X.prog X.w X.K Z β (zs.map .str) (zs.map fun z => V.str ⟨z.toArray⟩) := by
      intro zs
      induction zs with
      | nil => exact RepL.nil
      | cons z zs ih =>
        refine RepL.cons ?_ ih
        simp only [RepV]
    exact this _
  · cases e
end
end VI

/-! VIc10: numbers, texts, lists: built-ins by values. -/
namespace VI
open PySem PySem.Spec PyProof.Rows L2
theorem MtM.imp {X : Cx} {id : String} {r r' : V → List V → Hp → VK → Prop} (h : MtM X id r) (i : ∀ x xs H Q, r' x xs H Q → r x xs H Q) : MtR X id r' := fun pins s σ H x xs v us Q I rx rxs q => h pins s σ H x xs v us Q I rx rxs (i x xs H Q q)
section
variable {X : Cx} {m : Bool}
/-- a built-in that takes one, two data -/
theorem fun1 {f : Value} {p : P} {r : List V → Hp → VK → Prop} (h : CallR X f r) (sh : ∀ ds U d U', prim p m ds U = some (.ok d U') → ∃ x, ds = [x])
    (i : ∀ Φ Z β U x d U' v H Q, Rel X.prog X.w X.K X.mg Φ Z β U H → RepV X.prog X.w X.K Z β x v → prim p m [x] U = some (.ok d U') → Done X.prog X.w X.K X.mg Φ Z β d U' Q → r [v] H Q) : CallR X f (rP X p m) := by
  refine CallR.imp h ?_
  rintro vs H Q ⟨Φ, Z, β, U, ds, d, U', R, q, e, dn⟩
  obtain ⟨x, rfl⟩ := sh _ _ _ _ e
  obtain ⟨v, rfl, rv⟩ := one_rep q
  exact i Φ Z β U x d U' v H Q R rv e dn
theorem fun2 {f : Value} {p : P} {r : List V → Hp → VK → Prop} (h : CallR X f r) (sh : ∀ ds U d U', prim p m ds U = some (.ok d U') → ∃ x y, ds = [x, y])
    (i : ∀ Φ Z β U x y d U' v u H Q, Rel X.prog X.w X.K X.mg Φ Z β U H → RepV X.prog X.w X.K Z β x v → RepV X.prog X.w X.K Z β y u → prim p m [x, y] U = some (.ok d U') → Done X.prog X.w X.K X.mg Φ Z β d U' Q → r [v, u] H Q) : CallR X f (rP X p m) := by
  refine CallR.imp h ?_
  rintro vs H Q ⟨Φ, Z, β, U, ds, d, U', R, q, e, dn⟩
  obtain ⟨x, y, rfl⟩ := sh _ _ _ _ e
  obtain ⟨v, u, rfl, rv, ru⟩ := two_rep q
  exact i Φ Z β U x y d U' v u H Q R rv ru e dn
theorem c_abs : CallR X (.builtin "abs") (rP X .abs m) := by
  refine fun1 call_abs (fun ds U d U' e => ?_) fun Φ Z β U x d U' v H Q R r e dn => ?_
  · unfold prim at e
    split at e <;> first | exact ⟨_, rfl⟩ | simp_all
  · cases x with
    | int i =>
      rw [prim] at e
      obtain ⟨rfl, rfl⟩ := ok_inj e
      simp only [RepV] at r
      subst r
      exact ⟨i, rfl, dn.int R⟩
    | _ => simp [prim] at e
theorem c_max2 (hc : X.calm = true) : CallR X (.builtin "max") (rP X .max2 m) := by
  refine fun2 (call_max2 hc) (fun ds U d U' e => ?_) fun Φ Z β U x y d U' v u H Q R r r2 e dn => ?_
  · unfold prim at e
    split at e <;> first | exact ⟨_, _, rfl⟩ | simp_all
  · cases x <;> cases y <;> simp only [prim, reduceCtorEq] at e
    rename_i i j
    obtain ⟨rfl, rfl⟩ := ok_inj e
    simp only [RepV] at r r2
    subst r r2
    exact ⟨i, j, rfl, dn.int R⟩
theorem c_min2 (hc : X.calm = true) : CallR X (.builtin "min") (rP X .min2 m) := by
  refine fun2 (call_min2 hc) (fun ds U d U' e => ?_) fun Φ Z β U x y d U' v u H Q R r r2 e dn => ?_
  · unfold prim at e
    split at e <;> first | exact ⟨_, _, rfl⟩ | simp_all
  · cases x <;> cases y <;> simp only [prim, reduceCtorEq] at e
    rename_i i j
    obtain ⟨rfl, rfl⟩ := ok_inj e
    simp only [RepV] at r r2
    subst r r2
    exact ⟨i, j, rfl, dn.int R⟩
theorem show_eq (i : Int) : (Str.ofString (toString i)) = ⟨(showI i).toArray⟩ := by
  refine TL.ext_tl ?_
  rw [TL.tl_ofString]
  rfl
theorem c_str1 : CallR X (.type "str") (rP X .str1 m) := by
  refine fun1 (call_str_int.or SkE.call_str_str) (fun ds U d U' e => ?_) fun Φ Z β U x d U' v H Q R r e dn => ?_
  · unfold prim at e
    split at e <;> first | exact ⟨_, rfl⟩ | simp_all
  · cases x with
    | int i =>
      rw [prim] at e
      split at e
      · rename_i hb
        obtain ⟨rfl, rfl⟩ := ok_inj e
        simp only [RepV] at r
        subst r
        refine .inl ⟨i, rfl, ?_, ?_⟩
        · unfold bits at hb
          split at hb
          · rename_i h0
            subst h0
            decide
          · omega
        · have := dn.str R
          rw [← show_eq] at this
          exact this
      · cases e
    | str z =>
      rw [prim] at e
      obtain ⟨rfl, rfl⟩ := ok_inj e
      simp only [RepV] at r
      subst r
      exact .inr ⟨_, rfl, dn.str R⟩
    | _ => simp [prim] at e
theorem read_eq : ∀ (x : Tx) (n : Nat), x.foldl (fun acc c => acc * 10 + (c - 48)) n = x.foldl (fun n c => n * 10 + (c - 48)) n := fun _ _ => rfl
theorem c_int1 : CallR X (.type "int") (rP X .int1 m) := by
  refine fun1 (call_int1.or call_int_str) (fun ds U d U' e => ?_) fun Φ Z β U x d U' v H Q R r e dn => ?_
  · unfold prim at e
    split at e <;> first | exact ⟨_, rfl⟩ | simp_all
  · cases x with
    | int i =>
      rw [prim] at e
      obtain ⟨rfl, rfl⟩ := ok_inj e
      simp only [RepV] at r
      subst r
      exact .inl (.inl ⟨i, rfl, dn.int R⟩)
    | bl b =>
      rw [prim] at e
      obtain ⟨rfl, rfl⟩ := ok_inj e
      simp only [RepV] at r
      subst r
      exact .inl (.inr ⟨b, rfl, dn.int R⟩)
    | str z =>
      rw [prim] at e
      split at e
      · rename_i hz
        obtain ⟨rfl, rfl⟩ := ok_inj e
        simp only [RepV] at r
        subst r
        have ha : NumText.AllDigits z := fun c hc => by
          have := List.all_eq_true.mp hz.2.1 c hc
          simp only [isFig, Bool.and_eq_true, decide_eq_true_eq] at this
          exact this
        refine .inr ⟨_, _, rfl, intText_digits (x := ⟨z.toArray⟩) ha (by simpa using hz.1) (by rw [str_len]; omega), by rw [str_len]; omega, ?_⟩
        exact dn.int R
      · cases e
    | _ => simp [prim] at e
theorem pre_isPre : ∀ (y x : Tx), TL.pre y x = isPre y x
  | [], x => by simp [TL.pre, isPre]
  | a :: y, [] => by simp [TL.pre, isPre]
  | a :: y, b :: x => by
    have ih := pre_isPre y x
    unfold TL.pre at ih ⊢
    simp only [isPre, List.length_cons, List.take_succ_cons]
    rw [← ih]
    by_cases h : b = a
    · subst h; simp
    · have h' : ¬ a = b := fun z => h z.symm
      have e : (b :: List.take y.length x == a :: y) = false := by simp [h]
      simp [e, h']
theorem m_startswith : MtR X "str.startswith" (rM X .startswith m) := by
  refine MtR.imp mt_startswith ?_
  rintro v vs H Q ⟨Φ, Z, β, U, a, ds, d', U', R, ra, q, e, dn⟩
  have sh : ∃ x y, a = .str x ∧ ds = [.str y] := by
    unfold prim at e
    split at e <;> first
      | (rename_i x y; exact ⟨x, y, by simp_all, by simp_all⟩)
      | simp_all
  obtain ⟨x, y, rfl, rfl⟩ := sh
  rw [prim] at e
  split at e
  · cases e
  · rename_i hy
    obtain ⟨rfl, rfl⟩ := ok_inj e
    obtain ⟨u, rfl, ru⟩ := one_rep q
    simp only [RepV] at ra ru
    subst ra ru
    refine ⟨_, _, rfl, rfl, ?_⟩
    have h := TL.at_iff (x := ⟨x.toArray⟩) (y := ⟨y.toArray⟩) (by simpa [TL.tl] using hy) 0
    have e1 : Txt.startswith ⟨x.toArray⟩ ⟨y.toArray⟩ = isPre y x := by
      rw [← pre_isPre]
      have h2 : (Txt.startswith ⟨x.toArray⟩ ⟨y.toArray⟩ = true) ↔ TL.pre y x = true := by
        rw [List.drop_zero] at h
        refine Iff.trans ?_ h
        unfold Txt.startswith
        rw [Bool.and_eq_true, decide_eq_true_eq]
        exact Iff.rfl
      cases q1 : Txt.startswith ⟨x.toArray⟩ ⟨y.toArray⟩ <;> cases q2 : TL.pre y x <;> simp_all
    rw [e1]
    exact dn.bl R
theorem findC_none {c : Nat} : ∀ {x : Tx} {n : Nat}, c ∉ x → findC c x n = -1
  | [], n, _ => rfl
  | y :: r, n, h => by
    simp only [List.mem_cons, not_or] at h
    simp only [findC]
    rw [if_neg (fun z => h.1 z.symm)]
    exact findC_none h.2
theorem findC_at {c : Nat} : ∀ {x : Tx} {n i : Nat}, x[i]? = some c → (∀ k, k < i → x[k]? ≠ some c) → findC c x n = ((n + i : Nat) : Int)
  | [], n, i, h, _ => by simp at h
  | y :: r, n, 0, h, _ => by
    simp only [List.getElem?_cons_zero, Option.some.injEq] at h
    subst h
    simp [findC]
  | y :: r, n, i + 1, h, hn => by
    have h0 : y ≠ c := fun z => hn 0 (by omega) (by simp [z])
    simp only [findC, if_neg h0]
    rw [findC_at (i := i) (by simpa using h) fun k hk => by
      have := hn (k + 1) (by omega)
      simpa using this]
    congr 1
    omega
theorem m_find : MtR X "str.find" (rM X .find m) := by
  refine MtR.imp mt_find ?_
  rintro v vs H Q ⟨Φ, Z, β, U, a, ds, d', U', R, ra, q, e, dn⟩
  have sh : ∃ x c, a = .str x ∧ ds = [.str [c]] := by
    unfold prim at e
    split at e <;> first
      | (rename_i x c; exact ⟨x, c, by simp_all, by simp_all⟩)
      | simp_all
  obtain ⟨x, c, rfl, rfl⟩ := sh
  rw [prim] at e
  obtain ⟨rfl, rfl⟩ := ok_inj e
  obtain ⟨u, rfl, ru⟩ := one_rep q
  simp only [RepV] at ra ru
  subst ra ru
  refine ⟨_, _, rfl, rfl, ?_⟩
  have at_ : ∀ i, StrLaws.At (⟨x.toArray⟩ : Str) ⟨[c].toArray⟩ (⟨x.toArray⟩ : Str).length i ↔ x[i]? = some c := fun i => by
    rw [TL.at_iff (x := ⟨x.toArray⟩) (y := ⟨[c].toArray⟩) (by simp [TL.tl])]
    show TL.pre [c] (x.drop i) = true ↔ _
    rw [pre_isPre]
    cases q : x.drop i with
    | nil =>
      have : x.length ≤ i := by simpa using q
      simp [isPre, List.getElem?_eq_none this]
    | cons z t =>
      have hz : x[i]? = some z := by
        have := congrArg (fun l => l[0]?) q
        simpa using this
      simp only [isPre, Bool.and_true, decide_eq_true_eq, hz, Option.some.injEq]
      exact eq_comm
  have key : Txt.find ⟨x.toArray⟩ ⟨[c].toArray⟩ = findC c x 0 := by
    unfold Txt.find
    rcases StrLaws.occ_head (⟨x.toArray⟩ : Str) ⟨[c].toArray⟩ 1 (Nat.le_refl 1) with ⟨h1, h2⟩ | ⟨i, r, h1, h2, h3⟩
    · rw [h1]
      rw [findC_none fun hm => ?_]
      obtain ⟨i, hi, e⟩ := List.mem_iff_getElem.mp hm
      exact h2 i ((at_ i).mpr (by rw [List.getElem?_eq_getElem hi, e]))
    · rw [h1]
      rw [findC_at ((at_ i).mp h2) fun k hk z => h3 k hk ((at_ k).mpr z)]
      simp
  rw [key]
  exact dn.int R
/-! ### lists -/
theorem keys_rep {P : Program} {w : World} {K : PySem.W.Frag} {Z : Hp} {β : List Addr} : ∀ {kvs : List (D × D)} {l : List (Key × V)}, RepK P w K Z β kvs l → RepL P w K Z β (kvs.map (·.1)) (l.map fun kv => kV kv.1)
  | [], l, h => by
    simp only [RepK] at h
    subst h
    exact RepL.nil
  | (k, x) :: r, l, h => by
    simp only [RepK] at h
    obtain ⟨kk, v, s, rfl, hk, _, q⟩ := h
    refine RepL.cons ?_ (keys_rep q)
    cases k <;> simp [keyD] at hk <;> subst hk <;> simp only [RepV] <;> rfl
theorem c_list1 (hc : X.calm = true) : CallR X (.type "list") (rP X .list1 m) := by
  refine fun1 (call_list_of.or (call_listD hc)) (fun ds U d U' e => ?_) fun Φ Z β U x d U' v H Q R r e dn => ?_
  · unfold prim at e
    split at e <;> first | exact ⟨_, rfl⟩ | simp_all
  · rw [prim] at e
    unfold listOf at e
    split at e
    · rename_i xs hq
      obtain ⟨p, vs, rfl, sq, q⟩ := R.seq hq r
      exact .inl ⟨p, vs, rfl, sq, fun l hl => dn.lst R e q hl⟩
    · split at e
      · rename_i t kvs hd
        split at e
        · rename_i h0
          subst h0
          obtain ⟨p, rfl, h⟩ := R.dict hd r
          rcases h with ⟨_, l, e1, q⟩ | ⟨h0, _⟩
          · exact .inr ⟨p, l, rfl, .inl e1, fun q1 hq1 => dn.lst R e (keys_rep q) hq1⟩
          · cases h0
        · cases e
      · cases e
theorem c_tuple1 : CallR X (.type "tuple") (rP X .tuple1 m) := by
  refine fun1 call_tuple_of (fun ds U d U' e => ?_) fun Φ Z β U x d U' v H Q R r e dn => ?_
  · unfold prim at e
    split at e <;> first | exact ⟨_, rfl⟩ | simp_all
  · rw [prim] at e
    split at e
    · rename_i xs hq
      obtain ⟨rfl, rfl⟩ := ok_inj e
      by_cases ht : ∃ ys, x = .tup ys
      · obtain ⟨ys, rfl⟩ := ht
        cases hq
        obtain ⟨p, vs, rfl, sq, q⟩ := R.tuple r
        exact ⟨p, vs, rfl, .inr ⟨sq, dn.same R r⟩⟩
      · have hl : asL U x = some xs := by
          cases x <;> simp_all [asQ]
        obtain ⟨p, vs, rfl, sq, q⟩ := R.list hl r
        exact ⟨p, vs, rfl, .inl ⟨sq, fun l hl => dn.tup R q hl⟩⟩
    · cases e
/-- a method that changes the list at a store's place -/
theorem mut_at {Φ : List (Addr × HO)} {Z : Hp} {β : List Addr} {U : Store} {H : Hp} {n : Nat} {xs : List D} {v : V} (R : Rel X.prog X.w X.K X.mg Φ Z β U H) (rv : RepV X.prog X.w X.K Z β (.ref n) v) (hu : U[n]? = some (.lst xs)) : ∃ a vs, v = .ref a ∧ β[n]? = some a ∧ H a = some (.lst vs) ∧ RepL X.prog X.w X.K Z β xs vs := by
  simp only [RepV] at rv
  obtain ⟨a, rfl, e⟩ := rv
  obtain ⟨vs, h1, h2⟩ := R.ref hu e
  exact ⟨a, vs, rfl, e, h1, h2⟩
theorem mut_done {Φ : List (Addr × HO)} {Z : Hp} {β : List Addr} {U : Store} {H : Hp} {n : Nat} {ys : List D} {us : List V} {a : Addr} (R : Rel X.prog X.w X.K X.mg Φ Z β U H) (e : β[n]? = some a) (q : RepL X.prog X.w X.K Z β ys us) : Rel X.prog X.w X.K X.mg Φ Z β (updS U n (.lst ys)) (L2.upd H a (.lst us)) :=
  R.write e ⟨us, L2.upd_same, q⟩
theorem m_append : MtR X "list.append" (rM X .append m) := by
  refine MtM.imp mt_append ?_
  rintro v vs H Q ⟨Φ, Z, β, U, a, ds, d', U', R, ra, q, e, dn⟩
  have sh : ∃ n x, a = .ref n ∧ ds = [x] := by
    unfold prim at e
    split at e <;> first
      | (rename_i n x; exact ⟨n, x, by simp_all, by simp_all⟩)
      | simp_all
  obtain ⟨n, x, rfl, rfl⟩ := sh
  rw [prim] at e
  split at e
  · rename_i xs hu
    split at e
    · rename_i hz
      obtain ⟨rfl, rfl⟩ := ok_inj e
      obtain ⟨u, rfl, ru⟩ := one_rep q
      obtain ⟨p, ws, rfl, e1, h1, h2⟩ := mut_at R ra hu
      exact ⟨p, ws, u, rfl, rfl, h1, by rw [← h2.length, ← SZ_eq]; exact hz, dn.non (mut_done R e1 (h2.append (RepL.cons ru RepL.nil)))⟩
    · cases e
  · cases e
end
end VI

/-! VIc11: dict displays, item stores, any, all, join, more list methods. -/
namespace VI
open PySem PySem.Spec PyProof.Rows L2
section
variable {X : Cx} {C : Cal} {W : WX} {m : Bool} {e e1 e2 e3 : Expr} {a b c : IE} {pos p : Pos}
/-! ### {} -/
theorem n_dnil {t : Nat} (ht : t = 0 ∨ t = 1) : PE X (.Dict [] [] pos) (xE X C W (.dnil m t)) := by
  rcases ht with rfl | rfl
  · refine pe_dnewK.imp fun σ H Q ⟨Φ, Z, β, ρ, U, r, S, R, h, o⟩ => fun p hp => ?_
    rw [ev] at h
    unfold mkD at h
    split at h
    · cases h
      obtain ⟨R', b'⟩ := R.push hp (u := .dK []) (o := .dct 0 []) (.inl ⟨rfl, [], L2.upd_same, by simp only [RepK]⟩)
      refine o.ok Z _ _ (.ref p) (ZLe.refl _) b' R' ?_
      simp only [RepV]
      exact ⟨p, rfl, by rw [← R.len]; simp⟩
    · cases h
      obtain ⟨R', z'⟩ := R.froze hp (.dK [])
      refine o.ok _ β _ (.ref p) z' (BLe.refl _) R' ?_
      simp only [RepV]
      exact ⟨p, rfl, .inl ⟨trivial, [], L2.upd_same, by simp only [RepK]⟩⟩
  · refine ⟨fun pins s σ H Q I ⟨Φ, Z, β, ρ, U, r, S, R, h, o⟩ => ?_⟩
    rw [ev] at h
    have hp : H s.heap.objs.size = none := I.hok.fresh (Nat.le_refl _)
    have new : ObjOk X.prog X.w (L2.upd H s.heap.objs.size (dN X.prog X.w s.heap.objs.size [])) (s.heap.push { cls := .type "dict", data := .dict #[] }) s.heap.objs.size (dN X.prog X.w s.heap.objs.size []) :=
      dn_ok (beq_eq_false_iff_ne.mpr (Ne.symm (Nat.ne_of_lt I.big))) (Nat.zero_le _) (Heap.DictOfH.new s.heap)
    refine wpAny_Dict_empty ⟨.ref s.heap.objs.size, _, I.laid (a := s.heap.objs.size) (o := dN X.prog X.w s.heap.objs.size []) (t' := s.toks) (fun _ _ q => Heap.get?_push_of_some _ q) (Nat.le_refl _) new, rfl, ?_⟩
    unfold mkD at h
    split at h
    · cases h
      obtain ⟨R', b'⟩ := R.push hp (u := dN X.prog X.w s.heap.objs.size []) (o := .dct 1 []) (.inr ⟨rfl, [], L2.upd_same, List.nodup_nil, by simp only [RepT]⟩)
      refine o.ok Z _ _ (.ref _) (ZLe.refl _) b' R' ?_
      simp only [RepV]
      exact ⟨_, rfl, by rw [← R.len]; simp⟩
    · cases h
      obtain ⟨R', z'⟩ := R.froze hp (dN X.prog X.w s.heap.objs.size [])
      refine o.ok _ β _ (.ref _) z' (BLe.refl _) R' ?_
      simp only [RepV]
      exact ⟨_, rfl, .inr ⟨trivial, [], .inl L2.upd_same, List.nodup_nil, by simp only [RepT]⟩⟩
/-! ### o[i] = e -/
theorem setIx_ok {o i v : D} {U V : Store} {x : Ex} (h : setIx o i v U = some (.ex x V)) : False := by
  unfold setIx at h
  repeat' split at h
  all_goals cases h
/-- by values -/
def rSet (X : Cx) : TSet := fun o i v H Q => ∃ Φ Z β U a k d U', Rel X.prog X.w X.K X.mg Φ Z β U H ∧ RepV X.prog X.w X.K Z β a o ∧ RepV X.prog X.w X.K Z β k i ∧ RepV X.prog X.w X.K Z β d v ∧ setIx a k d U = some (.ok () U') ∧ DoneB X.prog X.w X.K X.mg Φ Z β U' Q
theorem set_all (hu : X.A.units + 64 < cLine) : PSet X (rSet X) := by
  intro pins s σ H o i v ov iv u Q I ro ri rv ⟨Φ, Z, β, U, a, k, d, U', R, ra, rk, rd, e, dn⟩
  unfold setIx at e
  split at e
  · rename_i n
    split at e
    · rename_i xs hu'
      split at e
      · rename_i i'
        split at e
        · rename_i j hj
          obtain ⟨_, rfl⟩ := ok_inj e
          obtain ⟨pp, vs, rfl, e1, h1, h2⟩ := mut_at R ra hu'
          simp only [RepV] at rk
          subst rk
          refine set_list pins s σ H _ _ v ov iv u Q I ro ri rv ⟨pp, vs, i', j, rfl, rfl, h1, ?_, dn Z β _ (ZLe.refl _) (BLe.refl _) (mut_done R e1 (h2.set rd))⟩
          rw [← h2.length]
          exact hj
        · cases e
      · cases e
    · rename_i t kvs hu'
      split at e
      · rename_i hk
        obtain ⟨_, rfl⟩ := ok_inj e
        exact vs_set hu R I hu' hk.1 hk.2 ra rk rd ro ri rv fun H' s' I' R' => ⟨H', I', dn Z β H' (ZLe.refl _) (BLe.refl _) R'⟩
      · cases e
    · cases e
  · cases e
theorem s_asgI (hu : X.A.units + 64 < cLine) (hn : noTup e = true) (ha : PE X e (xE X C W a)) (hb : PE X e1 (xE X C W b)) (hc : PE X e2 (xE X C W c)) (ht : tame e2 = true) : PS X (.Assign [.Subscript e1 e2 p] e pos) (xS X C W (.asgI b c a)) := by
  refine (ps_asg ha (pg_sub hb hc (set_all hu) (by cases e2 <;> first | (intro _; rfl) | cases ht)) (by show swapsWith e (some (.Subscript e1 e2 p)) pos.line X.env = pure false; cases e <;> rfl) (stores_no hn _ _) rfl).imp fun E σ H ⟨Φ, Z, β, ρ, U, r, S, R, h, o⟩ => ?_
  rw [exec] at h
  refine tE_bndS S R h o fun Z1 β1 H1 d v U1 z1 b1 R1 r1 S1 h1 o1 => ?_
  refine tE_bndS S1 R1 h1 o1 fun Z2 β2 H2 d2 v2 U2 z2 b2 R2 r2 S2 h2 o2 => ?_
  refine tE_bndS S2 R2 h2 o2 fun Z3 β3 H3 d3 v3 U3 z3 b3 R3 r3 S3 h3 o3 => ?_
  cases q : setIx d2 d3 d U3 with
  | none => rw [q] at h3; cases h3
  | some r4 =>
    rw [q] at h3
    cases r4 with
    | ex x V => exact (setIx_ok q).elim
    | ok _ U4 =>
      cases h3
      refine ⟨Φ, Z3, β3, U3, d2, d3, d, U4, R3, RepV.mono z3 b3 r2, r3, RepV.mono (z2.trans z3) (b2.trans b3) r1, q, fun Z4 β4 H4 z4 b4 R4 => ?_⟩
      exact o3 Z4 β4 H4 σ z4 b4 R4 (S3.mono z4 b4)
end
end VI

/-! VIc12: any, all, join, list methods. -/
namespace VI
open PySem PySem.Spec PyProof.Rows L2
section
variable {X : Cx} {m : Bool}
theorem bools_rep {P : Program} {w : World} {K : PySem.W.Frag} {Z : Hp} {β : List Addr} : ∀ {xs : List D} {bs : List Bool} {vs : List V}, bools xs = some bs → RepL P w K Z β xs vs → vs = bs.map V.bl
  | [], bs, vs, h, q => by
    cases h
    simp only [RepL] at q
    subst q
    rfl
  | x :: r, bs, vs, h, q => by
    unfold bools at h
    split at h
    · rename_i e0
      cases e0
    · rename_i b r' e1
      split at h
      · rename_i s hs
        cases h
        cases e1
        simp only [RepL] at q
        obtain ⟨v, t, rfl, r1, r2⟩ := q
        simp only [RepV] at r1
        subst r1
        rw [List.map_cons, bools_rep hs r2]
      · cases h
    · cases h
theorem c_any (hc : X.calm = true) : CallR X (.builtin "any") (rP X .any1 m) := by
  refine fun1 (cr_any hc) (fun ds U d U' e => ?_) fun Φ Z β U x d U' v H Q R r e dn => ?_
  · unfold prim at e
    split at e <;> first | exact ⟨_, rfl⟩ | simp_all
  · rw [prim] at e
    split at e
    · rename_i xs hq
      split at e
      · rename_i bs hb
        obtain ⟨rfl, rfl⟩ := ok_inj e
        obtain ⟨p, vs, rfl, sq, q⟩ := R.list hq r
        rw [bools_rep hb q] at sq
        exact ⟨p, bs, rfl, sq, dn.bl R⟩
      · cases e
    · cases e
theorem c_all (hc : X.calm = true) : CallR X (.builtin "all") (rP X .all1 m) := by
  refine fun1 (cr_all hc) (fun ds U d U' e => ?_) fun Φ Z β U x d U' v H Q R r e dn => ?_
  · unfold prim at e
    split at e <;> first | exact ⟨_, rfl⟩ | simp_all
  · rw [prim] at e
    split at e
    · rename_i xs hq
      split at e
      · rename_i bs hb
        obtain ⟨rfl, rfl⟩ := ok_inj e
        obtain ⟨p, vs, rfl, sq, q⟩ := R.list hq r
        rw [bools_rep hb q] at sq
        exact ⟨p, bs, rfl, sq, dn.bl R⟩
      · cases e
    · cases e
theorem texts_rep {P : Program} {w : World} {K : PySem.W.Frag} {Z : Hp} {β : List Addr} : ∀ {xs : List D} {ts : List Tx} {vs : List V}, texts xs = some ts → RepL P w K Z β xs vs → vs = (ts.map fun t => (⟨t.toArray⟩ : Str)).map V.str
  | [], ts, vs, h, q => by
    cases h
    simp only [RepL] at q
    subst q
    rfl
  | x :: r, ts, vs, h, q => by
    unfold texts at h
    split at h
    · rename_i e0
      cases e0
    · rename_i b r' e1
      split at h
      · rename_i s hs
        cases h
        cases e1
        simp only [RepL] at q
        obtain ⟨v, t, rfl, r1, r2⟩ := q
        simp only [RepV] at r1
        subst r1
        rw [List.map_cons, List.map_cons, texts_rep hs r2]
      · cases h
    · cases h
theorem joinL_eq (sep : Tx) : ∀ ts : List Tx, TL.joinL sep ts = joinT sep ts
  | [] => rfl
  | [x] => rfl
  | x :: y :: r => by
    show x ++ (sep ++ TL.joinL sep (y :: r)) = x ++ (sep ++ joinT sep (y :: r))
    rw [joinL_eq sep (y :: r)]
theorem m_join : MtR X "str.join" (rM X .join m) := by
  refine MtR.imp mt_join ?_
  rintro v vs H Q ⟨Φ, Z, β, U, a, ds, d', U', R, ra, q, e, dn⟩
  have sh : ∃ x d, a = .str x ∧ ds = [d] := by
    unfold prim at e
    split at e <;> first
      | (rename_i x d; exact ⟨x, d, by simp_all, by simp_all⟩)
      | simp_all
  obtain ⟨x, d, rfl, rfl⟩ := sh
  rw [prim] at e
  split at e
  · rename_i xs hq
    split at e
    · rename_i ts ht
      split at e
      · rename_i hz
        obtain ⟨rfl, rfl⟩ := ok_inj e
        obtain ⟨u, rfl, ru⟩ := one_rep q
        obtain ⟨p, ws, rfl, sq, q2⟩ := R.seq hq ru
        rw [texts_rep ht q2] at sq
        simp only [RepV] at ra
        subst ra
        refine ⟨_, p, _, rfl, rfl, sq, ?_, ?_⟩
        · rw [List.map_map, List.length_map, str_len]
          have e2 : ((fun s : Str => s.length) ∘ fun t : Tx => (⟨t.toArray⟩ : Str)) = fun t => t.length := by
            funext t
            exact str_len t
          have e3 : (ts.map ((fun x : Str => x.length) ∘ fun t : Tx => (⟨t.toArray⟩ : Str))) = ts.map (·.length) := by rw [e2]
          rw [e3]
          exact hz
        · have e4 : Txt.join ⟨x.toArray⟩ (ts.map fun t => (⟨t.toArray⟩ : Str)) = ⟨(joinT x ts).toArray⟩ := by
            rw [TL.join_eq]
            refine TL.ext_tl ?_
            rw [TL.tl_join, List.map_map]
            have e5 : (TL.tl ∘ fun t : Tx => (⟨t.toArray⟩ : Str)) = id := by
              funext t
              rfl
            rw [e5, List.map_id, TL.tl_mk, ← joinL_eq]
          rw [e4]
          exact dn.str R
      · cases e
    · cases e
  · cases e
theorem m_reverse : MtR X "list.reverse" (rM X .reverse m) := by
  refine MtM.imp mt_reverse ?_
  rintro v vs H Q ⟨Φ, Z, β, U, a, ds, d', U', R, ra, q, e, dn⟩
  have sh : ∃ n, a = .ref n ∧ ds = [] := by
    unfold prim at e
    split at e <;> first
      | (rename_i n; exact ⟨n, by simp_all, by simp_all⟩)
      | simp_all
  obtain ⟨n, rfl, rfl⟩ := sh
  rw [prim] at e
  split at e
  · rename_i xs hu
    obtain ⟨rfl, rfl⟩ := ok_inj e
    obtain ⟨p, ws, rfl, e1, h1, h2⟩ := mut_at R ra hu
    simp only [RepL] at q
    exact ⟨p, ws, rfl, q, h1, dn.non (mut_done R e1 h2.reverse)⟩
  · cases e
theorem m_clear : MtR X "list.clear" (rM X .clear m) := by
  refine MtM.imp mt_clear ?_
  rintro v vs H Q ⟨Φ, Z, β, U, a, ds, d', U', R, ra, q, e, dn⟩
  have sh : ∃ n, a = .ref n ∧ ds = [] := by
    unfold prim at e
    split at e <;> first
      | (rename_i n; exact ⟨n, by simp_all, by simp_all⟩)
      | simp_all
  obtain ⟨n, rfl, rfl⟩ := sh
  rw [prim] at e
  split at e
  · rename_i xs hu
    obtain ⟨rfl, rfl⟩ := ok_inj e
    obtain ⟨p, ws, rfl, e1, h1, h2⟩ := mut_at R ra hu
    simp only [RepL] at q
    exact ⟨p, ws, rfl, q, h1, dn.non (mut_done R e1 RepL.nil)⟩
  · cases e
end
end VI

/-! VIc13: instances: fields, methods, making. -/
namespace VI
open PySem PySem.Spec PyProof.Rows L2
/-- a method that may be called -/
def MeHyp (P : Program) (w : World) (K : PySem.W.Frag) (mg : Str → Option Value) (base : Heap) (C : Cal) (k : Nat) (c m : String) : Prop :=
  ∃ (Ca g : Addr) (fd : FuncData) (ps : List Str), mg (Str.ofString c) = some (.ref Ca) ∧ Cls K Ca ∧ Meth K Ca (Str.ofString m) g ∧ FnOk P w K mg base (L2.CX P w) k g fd ps (spV P w K mg C (c ++ "." ++ m)) ∧ Binds K fd ps []
/-- a class that may be made -/
def MkHyp (P : Program) (w : World) (K : PySem.W.Frag) (mg : Str → Option Value) (base : Heap) (C : Cal) (k : Nat) (c : String) : Prop :=
  ∃ (Ca g : Addr) (fd : FuncData) (ps : List Str), mg (Str.ofString c) = some (.ref Ca) ∧ ClsF K Ca ∧ Mk K Ca g ∧ FnOk P w K mg base (L2.CX P w) k g fd ps (spV P w K mg C (c ++ ".__init__")) ∧ Binds K fd ps []
section
variable {X : Cx} {C : Cal} {W : WX} {e e1 e2 e3 o : Expr} {a b c : IE} {pos p apos : Pos} {es : List Expr} {as : IEs} {k : Nat} {f m cn : String}
/-- a.f -/
theorem n_fld (hb : noSup e = true) (hf : FLD.contains f = true) (ha : PE X e (xE X C W a)) : PE X (.Attribute e (Str.ofString f) pos) (xE X C W (.fld a f)) := by
  refine (pe_fld ha (attr_noSup hb _ _ _)).imp fun σ H Q ⟨Φ, Z, β, ρ, U, r, S, R, h, o⟩ => ?_
  rw [ev] at h
  refine tE_bnd S R h o.wish fun Z1 β1 H1 d v U1 z1 b1 R1 r1 S1 h1 => ?_
  unfold getFld at h1
  split at h1
  · rename_i n
    split at h1
    · rename_i c fs hu
      split at h1
      · rename_i y hy
        cases h1
        simp only [RepV] at r1
        obtain ⟨a, rfl, e⟩ := r1
        obtain ⟨C', dx, l, ⟨hc, hcl⟩, hH, q⟩ := R1.ref hu e
        obtain ⟨v, hv, rv⟩ := q.lookup hf hy
        exact ⟨a, C', dx, l, v, rfl, hH, hcl.1, hcl.2 f (by simpa using hf), hv, Done.same (o.monoE z1 b1).ok R1 rv⟩
      · cases h1
    · cases h1
  · simp only [RepV] at r1
  · cases h1
/-- a.f = b -/
theorem s_asgF (hf : FLD.contains f = true) (hs : swapsWith e2 (some (.Attribute e1 (Str.ofString f) p)) pos.line X.env = pure false) (ha : PE X e1 (xE X C W a)) (hb : PE X e2 (xE X C W b)) : PS X (.Assign [.Attribute e1 (Str.ofString f) p] e2 pos) (xS X C W (.asgF a f b)) := by
  refine (ps_fld ha hb hs).imp fun E σ H ⟨Φ, Z, β, ρ, U, r, S, R, h, o⟩ => ?_
  rw [exec] at h
  refine tE_bndS S R h o fun Z1 β1 H1 d v U1 z1 b1 R1 r1 S1 h1 o1 => ?_
  refine tE_bndS S1 R1 h1 o1 fun Z2 β2 H2 d2 v2 U2 z2 b2 R2 r2 S2 h2 o2 => ?_
  unfold setFld at h2
  split at h2
  · rename_i n
    split at h2
    · rename_i c fs hu
      split at h2
      · rename_i hl
        cases h2
        simp only [RepV] at r2
        obtain ⟨a, rfl, e⟩ := r2
        obtain ⟨C', dx, l, ⟨hc, hcl⟩, hH, q⟩ := R2.ref hu e
        refine ⟨a, C', dx, l, rfl, hH, hcl.1, hcl.2 f (by simpa using hf), by rw [← q.length]; omega, ?_⟩
        have R3 := R2.write e (u := .ins C' dx (putF (Str.ofString f) v l)) (o := .ins c (putFld f d fs)) ⟨C', dx, _, ⟨hc, hcl⟩, L2.upd_same, q.put hf (RepV.mono z2 b2 r1)⟩
        exact o2 Z2 β2 _ σ (ZLe.refl _) (BLe.refl _) R3 S2
      · cases h2
    · cases h2
  · cases h2
/-! ### methods -/
/-- the tree of a method call -/
theorem mcall_tree {m : Str} {env : Env} (hb : noSup o = true) (hline : (apos.endLine == pos.line) = true) (hall : (backTo pos (starEach es env)).all (fun x => !x.1) = true) (hl : es.length < 20) :
    eval (.Call (.Attribute o m apos) es [] pos) env = (do
      let ov ← eval o env
      standAt apos.atName
      let (f, first) ← holding [ov] (getMethod ov m (do return (← importBound o env).getD true))
      callWith pos f first (backTo pos (starEach es env)) (backToKw pos (keywordEach [] env))) := by
  refine mcall_of (attr_noSup hb m env _) fun ov => ?_
  have form : methodCallForm (es.length + ([] : List Keyword).length) (backTo pos (starEach es env)) (backToKw pos (keywordEach [] env)) = true := by
    unfold methodCallForm
    rw [hall]
    have e2 : (backToKw pos (keywordEach [] env)) = [] := rfl
    rw [e2]
    simp only [Bool.true_and, List.all_nil, decide_eq_true_eq, List.length_nil, List.isEmpty_nil, if_true]
    omega
  unfold methodCall
  rw [form]
  unfold calleeOf methodCallPos
  simp only [if_true, Bool.not_true, Bool.false_or, hline, pure_bind]
/-- the receiver, its method, then the rest -/
theorem me_recv {fz : Bool} {pins : List (Addr × Obj)} {s : Shared} {σ : L2.St} {H : Hp} {Q : VK} (F : MeHyp X.prog X.w X.K X.mg X.base C k cn m) (hno : (FLD.map Str.ofString).contains (Str.ofString m) = false) (q : xE X C W (.meth fz cn m a as) σ H Q) :
    ∃ (Ca g : Addr), Cls X.K Ca ∧ Meth X.K Ca (Str.ofString m) g ∧ (∃ fd ps, FnOk X.prog X.w X.K X.mg X.base (L2.CX X.prog X.w) k g fd ps (spV X.prog X.w X.K X.mg C (cn ++ "." ++ m)) ∧ Binds X.K fd ps []) ∧
    xE X C W a σ H (fun x H1 => ∃ a0 dx fs, x = .ref a0 ∧ H1 a0 = some (.ins Ca dx fs) ∧ fs.lookup (Str.ofString m) = none ∧ xA X C W as σ H1 (fun vs H2 => spV X.prog X.w X.K X.mg C (cn ++ "." ++ m) (.ref a0 :: vs) H2 Q (WE W σ))) := by
  obtain ⟨Ca, g, fd, ps, hm, hc, hmt, F, hbd⟩ := F
  obtain ⟨Φ, Z, β, ρ, U, r, S, R, h, oo⟩ := q
  rw [ev] at h
  refine ⟨Ca, g, hc, hmt, ⟨fd, ps, F, hbd⟩, ?_⟩
  refine tE_bnd S R h oo.wish fun Z1 β1 H1 d v U1 z1 b1 R1 r1 S1 h1 => ?_
  split at h1
  · rename_i n
    split at h1
    · rename_i c' fs hu
      split at h1
      · rename_i hcc
        subst hcc
        have r1' := r1
        simp only [RepV] at r1
        obtain ⟨a0, rfl, e⟩ := r1
        obtain ⟨C', dx, l, ⟨hc', hcl⟩, hH, q⟩ := R1.ref hu e
        rw [hm] at hc'
        cases hc'
        refine ⟨a0, dx, l, rfl, hH, q.none hno, ?_⟩
        have o1 := oo.monoE z1 b1
        refine tA_bnd S1 R1 h1 o1.wish fun Z2 β2 H2 ds vs U2 z2 b2 R2 r2 S2 h2 => ?_
        exact sp_frz R2 (RepL.cons (RepV.mono z2 b2 r1') r2) h2 (o1.monoE z2 b2)
      · cases h1
    · cases h1
  · cases h1
theorem n_methI {fz : Bool} (tk : Takes X W) (hr : Room k X.A) (F : MeHyp X.prog X.w X.K X.mg X.base C k cn m) (hno : (FLD.map Str.ofString).contains (Str.ofString m) = false) (hb : noSup o = true) (hline : (apos.endLine == pos.line) = true) (hl : (e :: es).length < 20) (ho : PE X o (xE X C W a)) (ht : (e :: es).all tame = true)
    (ha : PA X (e :: es) (xA X C W as)) : PE X (.Call (.Attribute o (Str.ofString m) apos) (e :: es) [] pos) (xE X C W (.meth fz cn m a as)) := by
  refine ⟨fun pins s σ H Q I q => ?_⟩
  obtain ⟨Ca, g, hc, hmt, ⟨fd, ps, F, hbd⟩, q⟩ := me_recv (pins := pins) (s := s) F hno q
  have hall : ∀ (es : List Expr), es.all tame = true → (backTo pos (starEach es X.env)).all (fun x => !x.1) = true := fun es h => by
    have := stars_tame h pos X.env
    rw [List.any_eq_false] at this
    rw [List.all_eq_true]
    intro x hx
    simpa using this x hx
  refine PySem.W.methodCall_KW (L2.thn (ho.run pins s σ H _ I q) fun u s1 ⟨x, H1, I1, rx, a0, dx, fs, ex, ea, l, q1⟩ => ?_) (mcall_tree hb hline (hall _ ht) hl)
  subst ex
  obtain rfl : u = Value.ref a0 := rx
  refine getmeth_ok I1 ea hc hmt l ?_
  simp only [List.all_cons, Bool.and_eq_true] at ht
  refine PySem.W.callWith_K (first := [.ref a0]) (h₀ := X.base) I.ok.mod.kin hmt.kp (L2.thn (ha.run pos pins s1 σ H1 _ I1 q1) fun us s2 ⟨vs, H2, I2, r, q2⟩ => ⟨I2.kIn, ?_⟩) (star_tame ht.1 es _) (stars_tame ht.2 pos _)
  exact run_fnS (E := WE W) (us := .ref a0 :: us) (vs := .ref a0 :: vs) F hr hbd (passAt tk σ) I2 (.cons rfl r) q2
theorem n_methI0 {fz : Bool} (tk : Takes X W) (hr : Room k X.A) (F : MeHyp X.prog X.w X.K X.mg X.base C k cn m) (hno : (FLD.map Str.ofString).contains (Str.ofString m) = false) (hb : noSup o = true) (hline : (apos.endLine == pos.line) = true) (ho : PE X o (xE X C W a)) :
    PE X (.Call (.Attribute o (Str.ofString m) apos) [] [] pos) (xE X C W (.meth fz cn m a .nil)) := by
  refine ⟨fun pins s σ H Q I q => ?_⟩
  obtain ⟨Ca, g, hc, hmt, ⟨fd, ps, F, hbd⟩, q⟩ := me_recv (pins := pins) (s := s) F hno q
  refine PySem.W.methodCall_KW (L2.thn (ho.run pins s σ H _ I q) fun u s1 ⟨x, H1, I1, rx, a0, dx, fs, ex, ea, l, q1⟩ => ?_) (mcall_tree hb hline rfl (by simp))
  subst ex
  obtain rfl : u = Value.ref a0 := rx
  refine getmeth_ok I1 ea hc hmt l ?_
  have q2 : spV X.prog X.w X.K X.mg C (cn ++ "." ++ m) [.ref a0] H1 Q (WE W σ) := by
    obtain ⟨Φ, Z, β, ρ, U, r, S, R, h, oo⟩ := q1
    rw [evs] at h
    cases h
    have dn := oo.ok
    exact dn Z β H1 [] (ZLe.refl _) (BLe.refl _) R RepL.nil
  exact PySem.W.callWith_K0 (first := [.ref a0]) I1.kIn hmt.kp (run_fnS (E := WE W) (us := [.ref a0]) (vs := [.ref a0]) F hr hbd (passAt tk σ) I1 (.cons rfl .nil) q2)
/-! ### making -/
theorem run_makeS {CX : CXT} {fA Ca : Addr} {fd : FuncData} {ps : List Str} {sp : Sp} {E : L2.St → XK} {pins : List (Addr × Obj)} {σ : L2.St} {H : Hp} {s : Shared} {Q : VK} {us : List Value} {vs : List V} (M : Mk X.K Ca fA) (F : FnOk X.prog X.w X.K X.mg X.base CX k fA fd ps sp) (hr : Room (k + 1) X.A) (hb : Binds X.K fd ps [])
    (hx : PassesAt CX X σ (E σ)) (I : Inv X pins σ H s) (r : Vals vs us)
    (h : ∀ x dx, H x = none → H dx = none → dx ≠ x → sp (.ref x :: vs) (L2.upd (L2.upd H dx (.own x)) x (.ins Ca dx [])) (fun v H2 => v = .non ∧ Q (.ref x) H2) (E σ)) :
    wpAny (model X.prog X.w) X.A (call (.ref Ca) us) (EP X pins σ Q) X.xe s := by
  have hq := h (s.heap.objs.size + 1) s.heap.objs.size (I.hok.fresh (Nat.le_succ _)) (I.hok.fresh (Nat.le_refl _)) (Nat.ne_of_lt (Nat.lt_succ_self _))
  have I2 := Inv.made (C := Ca) I
  have r2 : Vals (V.ref (s.heap.objs.size + 1) :: vs) (Value.ref (s.heap.objs.size + 1) :: us) := .cons rfl r
  have hl : (Value.ref (s.heap.objs.size + 1) :: us).length = ps.length := by
    have e := r2.length
    rw [F.len _ _ _ _ hq] at e
    exact e.symm
  have b := hb (Shared.mk _ s.gens s.drawn s.toks s.os) (Value.ref (s.heap.objs.size + 1) :: us) I2.kIn (by rw [List.append_nil]; exact hl)
  rw [List.append_nil] at b
  refine wpAny_call (make_map (f := fA) I.kIn M.makes M.init (beq_iff_eq.mp M.fn) (codeAny_mono (F.run _ X.stack _ _ ⟨Value.ref (s.heap.objs.size + 1) :: us, []⟩ (Value.ref (s.heap.objs.size + 1) :: us) _ _ (E σ) (hr.make Ca us [])
    (I2.env0.make Ca us []) b r2 hq) fun r s' hq' => ?_))
  cases r with
  | error e => exact hx pins _ _ e s' I2 hq'
  | ok fl =>
    cases fl with
    | ret u =>
      obtain ⟨v, H', I3, rv, ev, q3⟩ := I2.after hq'
      subst ev
      exact ⟨rv, ⟨V.ref (s.heap.objs.size + 1), H', I3, rfl, q3⟩⟩
    | next => exact False.elim hq'
    | brk => exact False.elim hq'
    | cont => exact False.elim hq'
/-- the promise of __init__, at a new instance -/
theorem sp_make {P : Program} {w : World} {K : PySem.W.Frag} {mg : Str → Option Value} {Φ : List (Addr × HO)} {Z : Hp} {β : List Addr} {U : Store} {H : Hp} {Ca x dx : Addr} {ds : List D} {vs : List V} {Q : VK} {σ : L2.St} {r : VI.R D} (hm : mg (Str.ofString cn) = some (.ref Ca)) (hc : ClsF K Ca)
    (R : Rel P w K mg Φ Z β U H) (q : RepL P w K Z β ds vs) (h : (bnd (C (cn ++ ".__init__") (.ref U.length :: ds) (U ++ [.ins cn []])) fun d U2 => match d with | .non => some (.ok (.ref U.length) U2) | _ => none) = some r) (o : Out P w K mg W Φ Z β σ (fun d U' => Done P w K mg Φ Z β d U' Q) r)
    (hx : H x = none) (hdx : H dx = none) (ne : dx ≠ x) : spV P w K mg C (cn ++ ".__init__") (.ref x :: vs) (L2.upd (L2.upd H dx (.own x)) x (.ins Ca dx [])) (fun v H2 => v = .non ∧ Q (.ref x) H2) (WE W σ) := by
  obtain ⟨R1, zl⟩ := R.froze hdx (.own x)
  have hx1 : (L2.upd H dx (.own x)) x = none := by rw [L2.upd_ne (Ne.symm ne)]; exact hx
  obtain ⟨R2, bl⟩ := R1.push hx1 (u := .ins Ca dx []) (o := .ins cn []) ⟨Ca, dx, [], ⟨hm, hc⟩, L2.upd_same, rfl⟩
  have hr : RepV P w K (L2.upd Z dx (.own x)) (β ++ [x]) (.ref U.length) (.ref x) := by
    simp only [RepV]
    exact ⟨x, rfl, by rw [← R.len]; simp⟩
  cases e : C (cn ++ ".__init__") (.ref U.length :: ds) (U ++ [.ins cn []]) with
  | none => rw [e] at h; cases h
  | some r1 =>
    rw [e] at h
    refine ⟨Φ, _, _, _, _, r1, R2, RepL.cons hr (q.mono zl bl), e, ?_⟩
    cases r1 with
    | ok d U2 =>
      simp only [bnd_ok] at h
      split at h
      · cases h
        intro Z3 β3 H3 v z3 b3 R3 r3
        simp only [RepV] at r3
        exact ⟨r3, o Z3 β3 H3 (.ref x) (zl.trans z3) (bl.trans b3) R3 (RepV.mono z3 b3 hr)⟩
      · cases h
    | ex y U2 =>
      cases h
      exact DoneX.mono o zl bl
theorem n_make (tk : Takes X W) (hr : Room (k + 1) X.A) (hg : Gl X (Str.ofString cn)) (F : MkHyp X.prog X.w X.K X.mg X.base C k cn) (hdb : (Str.ofString cn == ("__debug__" : Str)) = false) (ht : (e :: es).all tame = true)
    (ha : PA X (e :: es) (xA X C W as)) : PE X (.Call (.Name (Str.ofString cn) p) (e :: es) [] pos) (xE X C W (.make cn as)) := by
  obtain ⟨Ca, g, fd, ps, hm, hc, M, F, hbd⟩ := F
  refine ⟨fun pins s σ H Q I ⟨Φ, Z, β, ρ, U, r, S, R, h, oo⟩ => ?_⟩
  rw [ev] at h
  simp only [List.all_cons, Bool.and_eq_true] at ht
  refine wpAny_Call_Name_kw (ld_glob I hg hm ?_ hdb)
  refine PySem.W.callWith_K (h₀ := X.base) I.ok.mod.kin M.kp (L2.thn (ha.run pos pins s σ H (fun vs H1 => ∀ x dx, H1 x = none → H1 dx = none → dx ≠ x → spV X.prog X.w X.K X.mg C (cn ++ ".__init__") (.ref x :: vs) (L2.upd (L2.upd H1 dx (.own x)) x (.ins Ca dx [])) (fun v H2 => v = .non ∧ Q (.ref x) H2) (WE W σ)) I ?_) fun us s1 ⟨vs, H1, I1, r, q⟩ => ⟨I1.kIn, ?_⟩) (star_tame ht.1 es _) (stars_tame ht.2 pos _)
  · refine tA_bnd S R h oo.wish fun Z2 β2 H2 ds vs U2 z2 b2 R2 r2 S2 h2 => ?_
    exact fun x dx hx hdx ne => sp_make hm hc R2 r2 h2 (oo.monoE z2 b2) hx hdx ne
  · exact run_makeS (E := WE W) M F hr hbd (passAt tk σ) I1 r q
theorem n_make0 (tk : Takes X W) (hr : Room (k + 1) X.A) (hg : Gl X (Str.ofString cn)) (F : MkHyp X.prog X.w X.K X.mg X.base C k cn) (hdb : (Str.ofString cn == ("__debug__" : Str)) = false) :
    PE X (.Call (.Name (Str.ofString cn) p) [] [] pos) (xE X C W (.make cn .nil)) := by
  obtain ⟨Ca, g, fd, ps, hm, hc, M, F, hbd⟩ := F
  refine ⟨fun pins s σ H Q I ⟨Φ, Z, β, ρ, U, r, S, R, h, oo⟩ => ?_⟩
  rw [ev, evs, bnd_ok] at h
  refine wpAny_Call_Name_kw (ld_glob I hg hm ?_ hdb)
  exact PySem.W.callWith_K0 I.kIn M.kp (run_makeS (E := WE W) (us := []) M F hr hbd (passAt tk σ) I .nil fun x dx hx hdx ne => sp_make hm hc R RepL.nil h oo hx hdx ne)
end
end VI

/-! VIc14: {k: v} with a tuple as key, d.pop(k), comprehensions over a dict's keys. -/
namespace VI
open PySem PySem.Spec PyProof.Rows L2
section
variable {X : Cx} {C : Cal} {W : WX} {e e1 e2 : Expr} {a b : IE} {pos : Pos} {m : Bool}
theorem doneX_put {P : Program} {w : World} {K : PySem.W.Frag} {mg : Str → Option Value} {Φ : List (Addr × HO)} {Z : Hp} {β : List Addr} {x : Ex} {U' : Store} {E : XK} {q : Addr × HO} (h : DoneX P w K mg Φ Z β x U' E) : DoneX P w K mg (q :: Φ) Z β x U' E :=
  fun Z' β' H' C dx v z b R => h Z' β' H' C dx v z b R.drop
/-- a dict display with one tuple as key -/
theorem n_done (hu : X.A.units + 65 < cLine) (ha : PE X e1 (xE X C W a)) (hb : PE X e2 (xE X C W b)) : PE X (.Dict [some e1] [e2] pos) (xE X C W (.done m 1 a b)) := by
  refine ⟨fun pins s σ H Q I ⟨Φ, Z, β, ρ, U, r, S, R, h, o⟩ => ?_⟩
  rw [ev] at h
  have hp : H s.heap.objs.size = none := I.hok.fresh (Nat.le_refl _)
  have hΦ : ∀ q ∈ Φ, q.1 ≠ s.heap.objs.size := fun q hq e => by
    have := (R.ext q hq).1
    rw [e, hp] at this
    cases this
  have new : ObjOk X.prog X.w (L2.upd H s.heap.objs.size (dN X.prog X.w s.heap.objs.size [])) (s.heap.push { cls := .type "dict", data := .dict #[] }) s.heap.objs.size (dN X.prog X.w s.heap.objs.size []) :=
    dn_ok (beq_eq_false_iff_ne.mpr (Ne.symm (Nat.ne_of_lt I.big))) (Nat.zero_le _) (Heap.DictOfH.new s.heap)
  have I1 := I.laid (a := s.heap.objs.size) (o := dN X.prog X.w s.heap.objs.size []) (t' := s.toks) (fun _ _ q => Heap.get?_push_of_some _ q) (Nat.le_refl _) new
  have R1 := R.aside hp (dN X.prog X.w s.heap.objs.size [])
  have room : (nestedKind X.prog X.w).room X.A := by
    show X.A.units + 8 < cLine
    omega
  rw [arm_eval_Dict]
  have shape : (evalEachOpt [some e1] X.env).zip ((evalEach [e2] X.env).map fun v => do let x ← v; standAt pos; pure x) = (pairTrees [some e1] [e2] X.env pos).map fun p => (some p.1, p.2) := rfl
  rw [shape, dictDisplay_pairs _ (by simp [pairTrees]) (by simp [pairTrees])]
  refine wpAny_bind (wpAny_standAt (wpAny_bind (wpAny_subDictH (knd := nestedKind X.prog X.w) (Q := fun d s' => wpAny (model X.prog X.w) X.A (pure (Value.ref d)) (EP X pins σ Q) X.xe s') room (by simp [pairTrees]) ?_)))
  refine L2.thn ((pps_cons (X := X) (pos := pos) ha hb pps_nil).run pins _ σ _ (fun ps H2 => ∃ Z2 β2 U2 d1 d2 v1 v2 r, ps = [(v1, v2)] ∧ Rel X.prog X.w X.K X.mg ((s.heap.objs.size, dN X.prog X.w s.heap.objs.size []) :: Φ) Z2 β2 U2 H2 ∧ RepV X.prog X.w X.K Z2 β2 d1 v1 ∧ RepV X.prog X.w X.K Z2 β2 d2 v2 ∧
    (if keyFor 1 d1 then mkD m 1 [(d1, d2)] U2 else none) = some r ∧ Out X.prog X.w X.K X.mg W Φ Z2 β2 σ (fun d U' => Done X.prog X.w X.K X.mg Φ Z2 β2 d U' Q) r) I1 ?_) fun ws s2 ⟨ps, H2, I2, rel, Z2, β2, U2, d1, d2, v1, v2, r2, eps, R2, q1, q2, hk, o2⟩ => ?_
  · refine tE_bnd (S) R1 h (fun x U' e => doneX_put (o.wish x U' e)) fun Z1 β1 H1 d v U1 z1 b1 R3 r1 S1 h1 => ?_
    refine tE_bnd S1 R3 h1 (fun x U' e => doneX_put (DoneX.mono (o.wish x U' e) z1 b1)) fun Z3 β3 H3 d3 v3 U3 z3 b3 R4 r3 S3 h3 => ?_
    exact ⟨Z3, β3, U3, d, d3, v, v3, r, rfl, R4, RepV.mono z3 b3 r1, r3, h3, o.monoE (z1.trans z3) (b1.trans b3)⟩
  · subst eps
    split at hk
    · rename_i hk1
      obtain ⟨b0, rfl⟩ := key1_ref hk1 q1
      cases rel with
      | @cons _ w0 _ wr hw ht =>
        cases ht
        obtain ⟨w1, w2⟩ := w0
        obtain ⟨hw1, hw2⟩ := hw
        obtain rfl : w1 = Value.ref b0 := hw1
        obtain ⟨he, hz, hn⟩ := R2.ext (s.heap.objs.size, dN X.prog X.w s.heap.objs.size []) (by simp)
        obtain ⟨hs0, _, dd⟩ := dn_heap (kvs := []) R2 I2 (.inl he) List.nodup_nil (by simp only [RepT])
        refine ⟨[(nk d1, b0, w2)], ⟨rfl, rfl, key_is R2 I2 hk1 q1, trivial⟩, dd, fun h' tk dd' sb => wpAny_pure ?_⟩
        obtain ⟨ob, _, _, hq, _⟩ := id dd'
        have dd2 : h'.DictOfH (nestedKind X.prog X.w) s.heap.objs.size [(nk d1, b0, w2)] := dd'
        have hz1 : ([(nk d1, b0, w2)] : List (NestedKey × Addr × Value)).length ≤ sizeLine := by show 1 ≤ sizeLine; decide
        have I3 := d_write (t' := tk) I2 (a := s.heap.objs.size) (by rw [he]; exact True.intro) sb ⟨ob, hq⟩ (dn_ok hs0 hz1 dd2)
        have R3 := R2.aside2 hΦ (dN X.prog X.w s.heap.objs.size [(nk d1, b0, w2)])
        have rt : RepT X.prog X.w X.K Z2 β2 [(d1, d2)] [(nk d1, b0, w2)] := by
          simp only [RepT]
          exact ⟨b0, w2, v2, [], rfl, hk1, q1, hw2, q2, rfl⟩
        refine ⟨.ref s.heap.objs.size, _, I3, rfl, ?_⟩
        unfold mkD at hk
        split at hk
        · cases hk
          obtain ⟨R4, b4⟩ := R3.adopt hΦ (o := .dct 1 [(d1, d2)]) (.inr ⟨rfl, _, L2.upd_same, by simp, RepT.mono (ZLe.refl _) ⟨[s.heap.objs.size], rfl⟩ rt⟩)
          refine o2.ok Z2 _ _ (.ref _) (ZLe.refl _) b4 R4 ?_
          simp only [RepV]
          exact ⟨_, rfl, by rw [← R3.len]; simp⟩
        · cases hk
          obtain ⟨R4, z4⟩ := R3.settle hΦ
          refine o2.ok _ β2 _ (.ref _) z4 (BLe.refl _) R4 ?_
          simp only [RepV]
          exact ⟨_, rfl, .inr ⟨trivial, _, .inl L2.upd_same, by simp, RepT.mono z4 (BLe.refl _) rt⟩⟩
    · cases hk
end
/-! ### d.pop(k) -/
section
variable {X : Cx} {m : Bool}
theorem m_popD (hu : X.A.units + 65 < cLine) : MtR X "dict.pop" (rM X .popD m) := by
  intro pins s σ H x vs v us Q I rv ru ⟨Φ, Z, β, U, a, ds, d', U', R, ra, q, e, dn⟩
  have sh : ∃ n k, a = .ref n ∧ ds = [k] := by
    unfold prim at e
    split at e <;> first
      | (rename_i n k; exact ⟨n, k, by simp_all, by simp_all⟩)
      | simp_all
  obtain ⟨n, k, rfl, rfl⟩ := sh
  rw [prim] at e
  split at e
  · rename_i t kvs hU
    split at e
    · rename_i hk
      split at e
      · rename_i y hy
        obtain ⟨rfl, rfl⟩ := ok_inj e
        obtain ⟨y', rfl, rk⟩ := one_rep q
        obtain ⟨u, rfl, rx⟩ := vals1 ru
        exact vs_pop (by omega) R I hU hk hy ra rk rv rx fun H' s' z z' I' R' rz r => ⟨z, H', I', rz, dn Z β H' z (ZLe.refl _) (BLe.refl _) R' r⟩
      · cases e
    · cases e
  · cases e
end
/-! ### the same, but for a lock -/
def Sim (Z Z' : Hp) : Prop := ∀ a o, Z a = some o → Z' a = some o ∨ ∃ φ od, (o = HO.ext φ ∧ Z' a = some (.frz od (.ext φ))) ∨ (o = HO.frz od (.ext φ) ∧ Z' a = some (.ext φ))
theorem Sim.rd_lst {Z Z' : Hp} (h : Sim Z Z') {a : Addr} {xs : List V} (r : Rd Z a (.lst xs)) : Rd Z' a (.lst xs) := by
  rcases r with r | ⟨o, r⟩
  · rcases h a _ r with q | ⟨φ, od, ⟨q, _⟩ | ⟨q, _⟩⟩
    · exact .inl q
    · cases q
    · cases q
  · rcases h a _ r with q | ⟨φ, od, ⟨q, _⟩ | ⟨q, _⟩⟩
    · exact .inr ⟨o, q⟩
    · cases q
    · cases q
theorem Sim.rd_tup {Z Z' : Hp} (h : Sim Z Z') {a : Addr} {xs : List V} (r : Rd Z a (.tup xs)) : Rd Z' a (.tup xs) := by
  rcases r with r | ⟨o, r⟩
  · rcases h a _ r with q | ⟨φ, od, ⟨q, _⟩ | ⟨q, _⟩⟩
    · exact .inl q
    · cases q
    · cases q
  · rcases h a _ r with q | ⟨φ, od, ⟨q, _⟩ | ⟨q, _⟩⟩
    · exact .inr ⟨o, q⟩
    · cases q
    · cases q
theorem Sim.dk {Z Z' : Hp} (h : Sim Z Z') {a : Addr} {l : List (Key × V)} (r : Z a = some (.dK l)) : Z' a = some (.dK l) := by
  rcases h a _ r with q | ⟨φ, od, ⟨q, _⟩ | ⟨q, _⟩⟩
  · exact q
  · cases q
  · cases q
theorem Sim.rd_dn {Z Z' : Hp} {P : Program} {w : World} (h : Sim Z Z') {a : Addr} {l : List (NestedKey × Addr × Value)} (r : Rd Z a (dN P w a l)) : Rd Z' a (dN P w a l) := by
  rcases r with r | ⟨o, r⟩
  · rcases h a _ r with q | ⟨φ, od, ⟨q, q2⟩ | ⟨q, _⟩⟩
    · exact .inl q
    · rw [← q] at q2
      exact .inr ⟨od, q2⟩
    · cases q
  · rcases h a _ r with q | ⟨φ, od, ⟨q, _⟩ | ⟨q, q2⟩⟩
    · exact .inr ⟨o, q⟩
    · cases q
    · injection q with q3 q4
      rw [← q4] at q2
      exact .inl q2
section
variable {P : Program} {w : World} {K : PySem.W.Frag} {mg : Str → Option Value} {Φ : List (Addr × HO)} {Z Z' : Hp} {β β' : List Addr} {U : Store} {H : Hp} {ρ : Rho} {σ : L2.St}
mutual
theorem RepV.sim (z : Sim Z Z') : ∀ {d : D} {v : V}, RepV P w K Z β d v → RepV P w K Z' β d v
  | .non, v, h => by simpa only [RepV] using h
  | .bl _, v, h => by simpa only [RepV] using h
  | .int _, v, h => by simpa only [RepV] using h
  | .str _, v, h => by simpa only [RepV] using h
  | .tup xs, v, h => by
    simp only [RepV] at h ⊢
    obtain ⟨a, vs, e, s, r⟩ := h
    refine ⟨a, vs, e, ?_, RepL.sim z r⟩
    rcases s with s | s
    · exact .inl (z.rd_tup s)
    · exact .inr s
  | .lst xs, v, h => by
    simp only [RepV] at h ⊢
    obtain ⟨a, vs, e, s, r⟩ := h
    refine ⟨a, vs, e, ?_, RepL.sim z r⟩
    rcases s with s | s
    · exact .inl (z.rd_lst s)
    · exact .inr s
  | .dct t kvs, v, h => by
    simp only [RepV] at h ⊢
    obtain ⟨a, e, h⟩ := h
    refine ⟨a, e, ?_⟩
    rcases h with ⟨hn, l, h1, h2⟩ | ⟨hn, l, h1, h0, h2⟩
    · exact .inl ⟨hn, l, z.dk h1, RepK.sim z h2⟩
    · exact .inr ⟨hn, l, z.rd_dn h1, h0, RepT.sim z h2⟩
  | .ref n, v, h => by simpa only [RepV] using h
  | .exn _ _, v, h => by simp only [RepV] at h
theorem RepL.sim (z : Sim Z Z') : ∀ {ds : List D} {vs : List V}, RepL P w K Z β ds vs → RepL P w K Z' β ds vs
  | [], vs, h => by simpa only [RepL] using h
  | x :: r, vs, h => by
    simp only [RepL] at h ⊢
    obtain ⟨v, s, e, h1, h2⟩ := h
    exact ⟨v, s, e, RepV.sim z h1, RepL.sim z h2⟩
theorem RepK.sim (z : Sim Z Z') : ∀ {ds : List (D × D)} {vs : List (Key × V)}, RepK P w K Z β ds vs → RepK P w K Z' β ds vs
  | [], vs, h => by simpa only [RepK] using h
  | (k, x) :: r, vs, h => by
    simp only [RepK] at h ⊢
    obtain ⟨kk, v, s, e, h0, h1, h2⟩ := h
    exact ⟨kk, v, s, e, h0, RepV.sim z h1, RepK.sim z h2⟩
theorem RepT.sim (z : Sim Z Z') : ∀ {ds : List (D × D)} {vs : List (NestedKey × Addr × Value)}, RepT P w K Z β ds vs → RepT P w K Z' β ds vs
  | [], vs, h => by simpa only [RepT] using h
  | (k, x) :: r, vs, h => by
    simp only [RepT] at h ⊢
    obtain ⟨c, u, v, s, e, h0, hk, hr, h1, h2⟩ := h
    exact ⟨c, u, v, s, e, h0, RepV.sim z hk, hr, RepV.sim z h1, RepT.sim z h2⟩
end
theorem RepF.sim (z : Sim Z Z') : ∀ {fs : List (String × D)} {l : List (Str × V)}, RepF P w K Z β fs l → RepF P w K Z' β fs l
  | [], l, h => h
  | (f, x) :: r, l, h => by
    obtain ⟨hf, v, s, e, h1, h2⟩ := h
    exact ⟨hf, v, s, e, RepV.sim z h1, RepF.sim z h2⟩
theorem RepO.sim (z : Sim Z Z') {H' : Hp} {o : MO} {a : Addr} (h : RepO P w K mg Z β H o a) (k : H' a = H a) : RepO P w K mg Z' β H' o a := by
  cases o with
  | lst xs =>
    obtain ⟨vs, e, r⟩ := h
    exact ⟨vs, k.trans e, RepL.sim z r⟩
  | dct t kvs =>
    rcases h with ⟨hn, l, e, r⟩ | ⟨hn, l, e, hd, r⟩
    · exact .inl ⟨hn, l, k.trans e, RepK.sim z r⟩
    · exact .inr ⟨hn, l, k.trans e, hd, RepT.sim z r⟩
  | ins c fs =>
    obtain ⟨C, dx, l, hc, e, r⟩ := h
    exact ⟨C, dx, l, hc, k.trans e, RepF.sim z r⟩
theorem RepS.sim (z : Sim Z Z') (h : RepS P w K Z β ρ σ) : RepS P w K Z' β ρ σ := ⟨h.1, fun i d e => let ⟨v, e1, r⟩ := h.2 i d e; ⟨v, e1, RepV.sim z r⟩⟩
/-- an object of the frozen part is taken otherwise -/
theorem Rel.retype (R : Rel P w K mg Φ Z β U H) {a : Addr} {o₀ o : HO} (e : Z a = some o₀) (z : Sim Z (L2.upd Z a o)) : Rel P w K mg Φ (L2.upd Z a o) β U (L2.upd H a o) := by
  have hb : a ∉ β := fun h => by rw [R.sep a h] at e; cases e
  refine ⟨fun b u q => ?_, R.len, R.nd, fun b h => ?_, fun n m b e1 e2 => ?_, fun q hq => ?_⟩
  · by_cases h : b = a
    · subst h
      rw [upd_same] at q ⊢
      exact q
    · rw [upd_ne h] at q ⊢
      exact R.zle b u q
  · rw [upd_ne (fun q => hb (by rw [← q]; exact h))]
    exact R.sep b h
  · have hn : b ≠ a := fun q => hb (by rw [← q]; exact List.mem_of_getElem? e2)
    exact (R.obj n m b e1 e2).sim z (upd_ne hn)
  · obtain ⟨q1, q2, q3⟩ := R.ext q hq
    have hn : q.1 ≠ a := fun h => by rw [h, e] at q2; cases q2
    rw [upd_ne hn, upd_ne hn]
    exact ⟨q1, q2, q3⟩
theorem sim_lock {a : Addr} {φ : Heap → Prop} {od : Obj} (e : Z a = some (.ext φ)) : Sim Z (L2.upd Z a (.frz od (.ext φ))) := fun b o h => by
  by_cases q : b = a
  · subst q
    rw [e] at h
    cases h
    exact .inr ⟨φ, od, .inl ⟨rfl, upd_same⟩⟩
  · exact .inl (by rw [upd_ne q]; exact h)
theorem sim_unlock {a : Addr} {φ : Heap → Prop} {od : Obj} (e : Z a = some (.frz od (.ext φ))) : Sim Z (L2.upd Z a (.ext φ)) := fun b o h => by
  by_cases q : b = a
  · subst q
    rw [e] at h
    cases h
    exact .inr ⟨φ, od, .inr ⟨rfl, upd_same⟩⟩
  · exact .inl (by rw [upd_ne q]; exact h)
end
/-! ### a walk over the keys of a locked dict -/
def ItkN (P : Program) (w : World) (d : Addr) (o : Obj) (l : List (NestedKey × Addr × Value)) : L2.It :=
  ⟨fun i H => H d = some (.frz o (dN P w d l)) ∧ i < l.length, fun i H x H' => H' = H ∧ ∃ k b u, l[i]? = some (k, b, u) ∧ x = .ref b, fun i H => H d = some (.frz o (dN P w d l)) ∧ l.length ≤ i⟩
section
variable {X : Cx} {pins : List (Addr × Obj)} {σ : L2.St} {H : Hp} {s : Shared}
theorem frzN {d : Addr} {o : Obj} {l : List (NestedKey × Addr × Value)} (I : Inv X pins σ H s) (h : H d = some (.frz o (dN X.prog X.w d l))) :
    (d == sysModules) = false ∧ s.heap.get? d = some o ∧ o.ExactDict ∧ ∃ es ep, o.data = .dict es ep ∧ es.size = l.length ∧ ∀ (i : Nat) k b u, l[i]? = some (k, b, u) → ∃ en : DictEntry, es[i]? = some en ∧ en.key = .ref b := by
  obtain ⟨ho, ⟨h1, h2, o', es, ep, ho', hx, hd, he⟩, _, _⟩ := I.hok d _ h
  rw [ho] at ho'
  cases ho'
  refine ⟨h1, ho, hx, es, ep, hd, ?_, fun i k b u q => ?_⟩
  · have := congrArg List.length he
    simpa using this
  · have e : es.toList[i]? = some (entryOfKey (nestedKind X.prog X.w) (k, b, u)) := by
      rw [he, List.getElem?_map, q]
      rfl
    exact ⟨_, by simpa using e, rfl⟩
end
section
variable {P : Program} {w : World} {K : PySem.W.Frag} {tg : Expr} {d : Addr} {o : Obj} {es : Array DictEntry} {ep : Nat}
theorem turn_keysN {l : List (NestedKey × Addr × Value)} (it : Addr) (hod : o.data = .dict es ep) : Turn P w K tg (ItkN P w d o l) [it] it (fun i h => h.IsKeyIter it d i l.length ep) where
  mem := by simp
  obj := fun i h st b hb => by
    have e : b = it := by simpa using hb
    subst e
    obtain ⟨oi, e, c, dd⟩ := st
    exact ⟨oi, e, fun v z => by rw [dd] at z; cases z⟩
  keep := fun i h h' st k => st.at fun oi e => k it (by simp) oi e
  item := by
    intro X hP hw hK hc i pins s σ H E I hf st hg
    subst hP hw hK
    obtain ⟨hd, hi⟩ := hg
    obtain ⟨f0, f1, f2, f3, f4, f5⟩ := hf it (by simp)
    obtain ⟨hs, hgd, hx, es', ep', hdt, hsz, ent⟩ := frzN I hd
    obtain ⟨rfl, rfl⟩ := dict_ep hod hdt
    obtain ⟨⟨k, b, u⟩, hkv⟩ : ∃ p, l[i]? = some p := ⟨l[i], List.getElem?_eq_getElem hi⟩
    obtain ⟨en, hen, hkey⟩ := ent i k b u hkv
    refine next_key_item st hgd hdt hsz hen fun h' st' sb => ?_
    have I1 : Inv X pins σ H { s with heap := h' } := I.turned (t' := s.toks) (fun b ob hb e => (sb.2 b hb).trans e) f0 f1 f3 f4 f5
    obtain ⟨oi, e, c, dd⟩ := id st'
    exact ⟨en.key, rfl, go_of (s := { s with heap := h' }) e c dd (by decide) ⟨.ref b, H, I1, hkey, ⟨rfl, k, b, u, hkv, rfl⟩, st', fun b hb => (hf b hb).1⟩⟩
  done := by
    intro X hP hw hK hc i pins s σ H E I hf st hg
    subst hP hw hK
    obtain ⟨hd, hi⟩ := hg
    obtain ⟨f0, f1, f2, f3, f4, f5⟩ := hf it (by simp)
    obtain ⟨hs, hgd, hx, es', ep', hdt, hsz, ent⟩ := frzN I hd
    obtain ⟨rfl, rfl⟩ := dict_ep hod hdt
    exact next_key_end (I.ok.hd hc) st hgd hdt hsz hi fun h' eb => ⟨rfl, I.turned (t' := s.toks) (fun b ob hb e => eb b ob hb e) f0 f1 f3 f4 f5⟩
  self := fun A i s Q E st h => wpAny_pyIter_keyiter st h
end
section
variable {X : Cx} {C : Cal} {W : WX} {tg : Expr} {i : Nat} {x : Str} {pos : Pos}
theorem repT_get {P : Program} {w : World} {K : PySem.W.Frag} {Z : Hp} {β : List Addr} : ∀ {kvs : List (D × D)} {l : List (NestedKey × Addr × Value)} {i : Nat} {d : D}, RepT P w K Z β kvs l → (kvs.map (·.1))[i]? = some d → ∃ k b u, l[i]? = some (k, b, u) ∧ RepV P w K Z β d (.ref b)
  | [], l, i, d, h, e => by simp at e
  | (k, y) :: r, l, 0, d, h, e => by
    simp only [RepT] at h
    obtain ⟨b, u, v, s, rfl, _, hk, _, _, _⟩ := h
    simp at e
    subst e
    exact ⟨_, b, u, rfl, hk⟩
  | (k, y) :: r, l, i + 1, d, h, e => by
    simp only [RepT] at h
    obtain ⟨b, u, v, s, rfl, _, _, _, _, h2⟩ := h
    simp only [List.map_cons, List.getElem?_cons_succ] at e ⊢
    exact repT_get h2 e
theorem walk_keys {P : Program} {w : World} {K : PySem.W.Frag} {mg : Str → Option Value} {Z : Hp} {β : List Addr} {a : Addr} {o : Obj} {kvs : List (D × D)} {l : List (NestedKey × Addr × Value)} (e : Z a = some (.frz o (dN P w a l))) (r : RepT P w K Z β kvs l) : WalkV P w K mg Z β (ItkN P w a o l) (fixS (kvs.map (·.1))) := by
  have hl := repT_len r
  refine ⟨fun i g e1 Φ Z' β' U H x z b R hg => ?_, fun Φ Z' β' U H z b R hf => ?_⟩
  · obtain ⟨d, e2, e3⟩ := fix_get e1
    rw [e3] at hg
    cases hg
    obtain ⟨k, b0, u, e4, r1⟩ := repT_get r e2
    refine ⟨⟨R.zle _ _ (z _ _ e), (List.getElem?_eq_some_iff.mp e4).1⟩, fun v' H' ⟨y1, k', b', u', y2, y3⟩ => ?_⟩
    subst y1 y3
    rw [e4] at y2
    cases y2
    exact ⟨Z', ZLe.refl _, R, RepV.mono z b r1⟩
  · exact ⟨R.zle _ _ (z _ _ e), by simp [fixS, hl]⟩
/-- the dict in the slot i is locked -/
def Lockd (X : Cx) (i : Nat) (σ : L2.St) (H : Hp) : Prop := ∃ a l o, σ[i]? = some (some (V.ref a)) ∧ H a = some (.frz o (dN X.prog X.w a l))
theorem i_keys (hN : X.N[i]? = some x) (hv : Vis X.env.scope x) (hd : (x == ("__debug__" : Str)) = false) (hcd : (x == ("__classdict__" : Str)) = false) : PI X tg (.Name x pos) (fun σ H R' => xI X C W (.keys i) σ H R' ∧ Lockd X i σ H) := by
  refine ⟨fun pins s σ H R' I ⟨⟨Φ, Z, β, ρ, U, r, S, R, h, o⟩, a, l, od, ea, eH⟩ => ?_⟩
  rw [evIt] at h
  split at h
  · rename_i t kvs hρ
    split at h
    · rename_i ht
      subst ht
      cases h
      obtain ⟨v, e1, r1⟩ := S.2 i _ hρ
      rw [ea] at e1
      cases e1
      simp only [RepV] at r1
      obtain ⟨a', e2, r1⟩ := r1
      cases e2
      rcases r1 with ⟨h0, _⟩ | ⟨_, l', hrd, nd, rt⟩
      · cases h0
      have hz : Z a = some (.frz od (dN X.prog X.w a l')) := by
        rcases hrd with q | ⟨od', q⟩
        · have := R.zle _ _ q
          rw [eH] at this
          cases this
        · have := R.zle _ _ q
          rw [eH] at this
          injection this with this
          injection this with t1 t2
          subst t1
          exact q
      refine L2.thn ((pe_var hN hv hd hcd).run pins s σ H (fun y H1 => y = .ref a ∧ H1 = H) I ⟨.ref a, ea, rfl, rfl⟩) fun u s1 ⟨y, H1, I1, ry, ey, eH1⟩ => ?_
      subst ey eH1
      obtain rfl : u = Value.ref a := ry
      obtain ⟨hs, hgd, hx, es, ep, hdt, hsz, ent⟩ := frzN I1 (R.zle _ _ hz)
      refine iter_keys hs hgd hx hdt (pi_one (tk := s1.toks) I1 _ (turn_keysN _ hdt) ⟨_, Heap.get?_push_size _ rfl, rfl, ?_⟩ (o.ok Z β H1 _ (ZLe.refl _) (BLe.refl _) R (walk_keys hz rt)))
      rw [hsz] <;> rfl
    · cases h
  · cases h
end
theorem lcGo_noex {tg : Tg} {cond : Rho → M Bool} {el : Rho → M D} {ρ : Rho} : ∀ {gs : List (Store → Option D)} {U V : Store} {x : Ex}, lcGo (turnL tg cond el ρ) gs U = some (.ex x V) → False
  | [], U, V, x, h => by cases h
  | g :: r, U, V, x, h => by
    rw [lcGo] at h
    dsimp only at h
    split at h
    · rename_i d hd
      cases q : turnL tg cond el ρ d U with
      | none => rw [q] at h; cases h
      | some r1 =>
        rw [q] at h
        cases r1 with
        | ex y V1 =>
          unfold turnL noEx at q
          split at q <;> cases q
        | ok od V1 =>
          simp only [bnd_ok] at h
          cases q2 : lcGo (turnL tg cond el ρ) r V1 with
          | none => rw [q2] at h; cases h
          | some r2 =>
            rw [q2] at h
            cases r2 with
            | ex y V2 => exact lcGo_noex q2
            | ok ds V2 => cases h
    · cases h
theorem lcK_ok {C : Cal} {m : Bool} {own : List Nat} {t : Tg} {i : Nat} {cd el : IE} {ρ : Rho} {U V : Store} {x : Ex} (h : ev C (.lc m own t (.keys i) cd el) ρ U = some (.ex x V)) : False := by
  rw [ev, evIt] at h
  split at h
  · split at h
    · simp only [bnd_ok] at h
      split at h
      · cases h
      · cases q : lcGo (turnL t (evB C cd) (ev C el) (wipe ρ own)) (fixS (List.map (fun x => x.1) ‹List (D × D)›)).get U with
        | none => rw [q] at h; cases h
        | some r =>
          rw [q] at h
          cases r with
          | ex y V1 => exact lcGo_noex q
          | ok ds V1 =>
            simp only [bnd_ok] at h
            split at h
            · unfold mkL at h
              split at h <;> cases h
            · cases h
    · cases h
  · cases h
/-- a comprehension over a dict's keys: locked already, or to be locked -/
theorem lcK_core {X : Cx} {C : Cal} {W : WX} {m : Bool} {own : List Nat} {t : Tg} {i : Nat} {cd el : IE} {g : TG} {tt : TT} {te : TE} {σ : L2.St} {H : Hp} {Q : VK}
    (q : ∀ σ H Q, xE X C W (.lc m own t (.keys i) cd el) σ H Q → tLc (xI X C W (.keys i)) g tt te own σ H Q) (x : xE X C W (.lc m own t (.keys i) cd el) σ H Q) :
    tLc (fun σ H R' => xI X C W (.keys i) σ H R' ∧ Lockd X i σ H) g tt te own σ H Q ∨
    ∃ a u, H a = some u ∧ Mut (some u) ∧ ∀ od, tLc (fun σ H R' => xI X C W (.keys i) σ H R' ∧ Lockd X i σ H) g tt te own σ (L2.upd H a (.frz od u)) (fun v H' => H' a = some (.frz od u) ∧ Q v (L2.upd H' a u)) := by
  obtain ⟨Φ, Z, β, ρ, U, r, S, R, h, o⟩ := x
  obtain ⟨kvs, hρ⟩ : ∃ kvs, ρ[i]? = some (some (.dct 1 kvs)) := by
    have h2 := h
    rw [ev, evIt] at h2
    split at h2
    · split at h2
      · rename_i kvs hρ ht
        subst ht
        exact ⟨kvs, hρ⟩
      · cases h2
    · cases h2
  obtain ⟨v, e1, r1⟩ := S.2 i _ hρ
  simp only [RepV] at r1
  obtain ⟨a, rfl, r1⟩ := r1
  rcases r1 with ⟨h0, _⟩ | ⟨_, l, hrd, nd, rt⟩
  · cases h0
  rcases hrd with hz | ⟨od, hz⟩
  · refine .inr ⟨a, dN X.prog X.w a l, R.zle _ _ hz, True.intro, fun od => ?_⟩
    have key : xE X C W (.lc m own t (.keys i) cd el) σ (L2.upd H a (.frz od (dN X.prog X.w a l))) (fun v H' => H' a = some (.frz od (dN X.prog X.w a l)) ∧ Q v (L2.upd H' a (dN X.prog X.w a l))) := by
      refine ⟨Φ, L2.upd Z a (.frz od (dN X.prog X.w a l)), β, ρ, U, r, S.sim (sim_lock hz), R.retype hz (sim_lock hz), h, ?_⟩
      cases r with
      | ex x V => exact (lcK_ok h).elim
      | ok d U' =>
        intro Z2 β2 H2 v z2 b2 R2 r2
        have ez : Z2 a = some (.frz od (dN X.prog X.w a l)) := z2 _ _ upd_same
        refine ⟨R2.zle _ _ ez, o.ok (L2.upd Z2 a (dN X.prog X.w a l)) β2 _ v (fun b u hb => ?_) b2 (R2.retype ez (sim_unlock ez)) (r2.sim (sim_unlock ez))⟩
        by_cases hba : b = a
        · subst hba
          rw [hz] at hb
          cases hb
          exact upd_same
        · rw [upd_ne hba]
          exact z2 _ _ (by rw [upd_ne hba]; exact hb)
    have lk : Lockd X i σ (L2.upd H a (.frz od (dN X.prog X.w a l))) := ⟨a, l, od, e1, upd_same⟩
    obtain ⟨Φ', Z', β', ρ', U', r', S', R', h', o'⟩ := q σ _ _ key
    exact ⟨⟨Φ', Z', β', ρ', U', r', S', R', h', o'⟩, lk⟩
  · obtain ⟨Φ', Z', β', ρ', U', r', S', R', h', o'⟩ := q σ H Q ⟨Φ, Z, β, ρ, U, r, S, R, h, o⟩
    exact .inl ⟨⟨Φ', Z', β', ρ', U', r', S', R', h', o'⟩, a, l, od, e1, R.zle _ _ hz⟩
theorem n_lcK {X : Cx} {C : Cal} {W : WX} {m : Bool} {own : List Nat} {t : Tg} {i : Nat} {cd el : IE} {e : Expr} {g : TG} {tt : TT} {te : TE} (p : PE X e (tLc (fun σ H R' => xI X C W (.keys i) σ H R' ∧ Lockd X i σ H) g tt te own))
    (q : ∀ σ H Q, xE X C W (.lc m own t (.keys i) cd el) σ H Q → tLc (xI X C W (.keys i)) g tt te own σ H Q) : PE X e (xE X C W (.lc m own t (.keys i) cd el)) :=
  ⟨fun pins s σ H Q I x => by
    rcases lcK_core q x with y | ⟨a, u, h1, h2, h3⟩
    · exact p.run pins s σ H Q I y
    · exact (pe_lock p).run pins s σ H Q I ⟨a, u, h1, h2, h3⟩⟩
/-- name = [.. for k in d ..] -/
theorem s_setK {X : Cx} {C : Cal} {W : WX} {m : Bool} {own : List Nat} {t : Tg} {i j : Nat} {cd el : IE} {st : Stmt} {g : TG} {tt : TT} {te : TE} (p : PS X st (fun D σ H => tLc (fun σ H R' => xI X C W (.keys i) σ H R' ∧ Lockd X i σ H) g tt te own σ H (fun x H1 => gName j x σ H1 D.nx)))
    (q : ∀ σ H Q, xE X C W (.lc m own t (.keys i) cd el) σ H Q → tLc (xI X C W (.keys i)) g tt te own σ H Q) : PS X st (fun D σ H => xE X C W (.lc m own t (.keys i) cd el) σ H (fun x H1 => gName j x σ H1 D.nx)) :=
  ⟨fun pins s σ H D I x => by
    rcases lcK_core q x with y | ⟨a, u, h1, h2, h3⟩
    · exact p.run pins s σ H D I y
    · exact (ps_lock p).run pins s σ H D I ⟨a, u, h1, h2, h3⟩⟩
end VI

/-! VIc15: sorted(list). -/
namespace VI
open PySem PySem.Spec PyProof.Rows L2
mutual
theorem alike_toP : ∀ (a b : D), VI.alike a b = true → PySem.W.alike (toP a) (toP b) = true
  | .int _, b, h => by
    cases b <;> simp only [VI.alike, Bool.false_eq_true] at h
    simp only [toP, PySem.W.alike]
  | .str _, b, h => by
    cases b <;> simp only [VI.alike, Bool.false_eq_true] at h
    simp only [toP, PySem.W.alike]
  | .tup xs, b, h => by
    cases b <;> simp only [VI.alike, Bool.false_eq_true] at h
    simp only [toP, PySem.W.alike]
    exact alikeT_toP xs _ h
  | .lst xs, b, h => by
    cases b <;> simp only [VI.alike, Bool.false_eq_true] at h
    simp only [toP, PySem.W.alike]
    exact alikeA_toP xs _ h
  | .non, b, h => by simp only [VI.alike, Bool.false_eq_true] at h
  | .bl _, b, h => by simp only [VI.alike, Bool.false_eq_true] at h
  | .dct _ _, b, h => by simp only [VI.alike, Bool.false_eq_true] at h
  | .ref _, b, h => by simp only [VI.alike, Bool.false_eq_true] at h
  | .exn _ _, b, h => by simp only [VI.alike, Bool.false_eq_true] at h
theorem alikeT_toP : ∀ (a b : List D), VI.alikeT a b = true → PySem.W.alikeAll (toPL a) (toPL b) = true
  | [], b, h => by
    cases b <;> simp only [VI.alikeT, Bool.false_eq_true] at h
    simp only [toPL, PySem.W.alikeAll]
  | x :: r, b, h => by
    cases b <;> simp only [VI.alikeT, Bool.false_eq_true, Bool.and_eq_true] at h
    simp only [toPL, PySem.W.alikeAll, Bool.and_eq_true]
    exact ⟨alike_toP x _ h.1, alikeT_toP r _ h.2⟩
theorem alikeA_toP : ∀ (a b : List D), VI.alikeA a b = true → PySem.W.alikeAll (toPL a) (toPL b) = true
  | [], b, h => by simp only [toPL, PySem.W.alikeAll]
  | x :: r, [], h => by simp only [toPL, PySem.W.alikeAll]
  | x :: r, y :: s, h => by
    simp only [VI.alikeA, Bool.and_eq_true] at h
    simp only [toPL, PySem.W.alikeAll, Bool.and_eq_true]
    exact ⟨alike_toP x _ h.1, alikeA_toP r _ h.2⟩
end
theorem rowLt_nn : PySem.W.rowLt [] [] = false := lex_irrefl _
theorem rowLt_nc (y : PyData) (ys : List PyData) : PySem.W.rowLt [] (y :: ys) = true := by
  unfold PySem.W.rowLt
  rw [PySem.W.toks_all_cons]
  simp only [PySem.W.keyToksAll]
  rw [lex_diff (O := itemOrd) (by simp)]
  rfl
theorem rowLt_cn (y : PyData) (ys : List PyData) : PySem.W.rowLt (y :: ys) [] = false := by
  unfold PySem.W.rowLt
  rw [PySem.W.toks_all_cons]
  simp only [PySem.W.keyToksAll]
  rw [lex_diff (O := itemOrd) (by simp)]
  rfl
mutual
theorem lt_toP : ∀ (a b : D) (n m : Nat), plain a n = true → plain b m = true → VI.alike a b = true → ∃ k, pylt a b = some k ∧ PySem.W.dataLt (toP a) (toP b) = k
  | .int i, b, n, m, hp, hq, h => by
    cases b <;> simp only [VI.alike, Bool.false_eq_true] at h
    rename_i j
    exact ⟨decide (i < j), by simp only [pylt], by simp only [toP, PySem.W.dataLt_int]⟩
  | .str x, b, n, m, hp, hq, h => by
    cases b <;> simp only [VI.alike, Bool.false_eq_true] at h
    rename_i y
    exact ⟨decide (x < y), by simp only [pylt], by simp only [toP, PySem.W.dataLt_str]⟩
  | .tup xs, b, n, m, hp, hq, h => by
    cases b <;> simp only [VI.alike, Bool.false_eq_true] at h
    rename_i ys
    cases n with
    | zero => simp [plain] at hp
    | succ n =>
      cases m with
      | zero => simp [plain] at hq
      | succ m =>
        simp only [plain] at hp hq
        obtain ⟨k, e1, e2⟩ := lt_toPL xs ys n m hp hq (alikeT_toP xs ys h) (alikeT_A xs ys h)
        exact ⟨k, by simp only [pylt]; exact e1, by simp only [toP, PySem.W.dataLt_tuple]; exact e2⟩
  | .lst xs, b, n, m, hp, hq, h => by
    cases b <;> simp only [VI.alike, Bool.false_eq_true] at h
    rename_i ys
    cases n with
    | zero => simp [plain] at hp
    | succ n =>
      cases m with
      | zero => simp [plain] at hq
      | succ m =>
        simp only [plain] at hp hq
        obtain ⟨k, e1, e2⟩ := lt_toPL xs ys n m hp hq (alikeA_toP xs ys h) h
        exact ⟨k, by simp only [pylt]; exact e1, by simp only [toP, PySem.W.dataLt_list]; exact e2⟩
  | .non, b, n, m, hp, hq, h => by simp only [VI.alike, Bool.false_eq_true] at h
  | .bl _, b, n, m, hp, hq, h => by simp only [VI.alike, Bool.false_eq_true] at h
  | .dct _ _, b, n, m, hp, hq, h => by simp only [VI.alike, Bool.false_eq_true] at h
  | .ref _, b, n, m, hp, hq, h => by simp only [VI.alike, Bool.false_eq_true] at h
  | .exn _ _, b, n, m, hp, hq, h => by simp only [VI.alike, Bool.false_eq_true] at h
theorem lt_toPL : ∀ (a b : List D) (n m : Nat), plainL a n = true → plainL b m = true → PySem.W.alikeAll (toPL a) (toPL b) = true → VI.alikeA a b = true → ∃ k, pyltL a b = some k ∧ PySem.W.rowLt (toPL a) (toPL b) = k
  | [], [], n, m, hp, hq, h, h' => ⟨false, by simp only [pyltL], by simp only [toPL]; exact rowLt_nn⟩
  | [], y :: s, n, m, hp, hq, h, h' => ⟨true, by simp only [pyltL], by simp only [toPL]; exact rowLt_nc _ _⟩
  | x :: r, [], n, m, hp, hq, h, h' => ⟨false, by simp only [pyltL], by simp only [toPL]; exact rowLt_cn _ _⟩
  | x :: r, y :: s, n, m, hp, hq, h, h' => by
    simp only [plainL, Bool.and_eq_true] at hp hq
    simp only [VI.alikeA, Bool.and_eq_true] at h'
    simp only [toPL] at h
    have h1 := PySem.W.alike_all_cons h
    obtain ⟨k, e1, e2⟩ := lt_toP x y n m hp.1 hq.1 h'.1
    obtain ⟨j, f1, f2⟩ := lt_toPL r s n m hp.2 hq.2 h1.2 h'.2
    have ee := eqv_toP x y n m hp.1 hq.1
    have un : PySem.W.rowLt (toPL (x :: r)) (toPL (y :: s)) = if PyData.eqv (toP x) (toP y) = true then PySem.W.rowLt (toPL r) (toPL s) else PySem.W.dataLt (toP x) (toP y) := by
      simp only [toPL]
      exact PySem.W.dataLt_cons h1.1 _ _
    rw [un, ee]
    by_cases c : pyeq x y = true
    · exact ⟨j, by simp only [pyltL, c, if_true]; exact f1, by rw [if_pos c]; exact f2⟩
    · exact ⟨k, by simp only [pyltL, c, if_false]; exact e1, by rw [if_neg c]; exact e2⟩
theorem alikeT_A : ∀ (a b : List D), VI.alikeT a b = true → VI.alikeA a b = true
  | [], b, h => by simp only [VI.alikeA]
  | x :: r, [], h => by simp only [VI.alikeA]
  | x :: r, y :: s, h => by
    simp only [VI.alikeT, Bool.and_eq_true] at h
    simp only [VI.alikeA, Bool.and_eq_true]
    exact ⟨h.1, alikeT_A r s h.2⟩
end
section
variable {X : Cx} {m : Bool}
theorem zip3_each {ks : List D} : ∀ {xs : List D} {ws : List V} {us : List Value}, ks.length = xs.length → xs.length = ws.length → Vals ws us → PySem.W.EachIs (fun u (b : D × D × V) => RelV b.2.2 u) us (ks.zip (xs.zip ws)) := by
  induction ks with
  | nil =>
    intro xs ws us h1 h2 r
    cases xs with
    | nil =>
      cases ws with
      | nil => cases r; exact .nil
      | cons _ _ => cases h2
    | cons _ _ => cases h1
  | cons k ks ih =>
    intro xs ws us h1 h2 r
    cases xs with
    | nil => cases h1
    | cons x xs =>
      cases ws with
      | nil => cases h2
      | cons w ws =>
        cases r with
        | cons r0 r1 => exact .cons r0 (ih (by simpa using h1) (by simpa using h2) r1)
theorem zip3_rep {P : Program} {w : World} {K : PySem.W.Frag} {Z : Hp} {β : List Addr} {ks : List D} : ∀ {xs : List D} {ws : List V}, RepL P w K Z β xs ws → ∀ b ∈ ks.zip (xs.zip ws), RepV P w K Z β b.2.1 b.2.2 := by
  induction ks with
  | nil => intro xs ws h b hb; simp at hb
  | cons k ks ih =>
    intro xs ws h b hb
    cases xs with
    | nil => simp at hb
    | cons x xs =>
      simp only [RepL] at h
      obtain ⟨v, s, rfl, h1, h2⟩ := h
      simp only [List.zip_cons_cons, List.mem_cons] at hb
      rcases hb with rfl | hb
      · exact h1
      · exact ih h2 b hb
theorem zip3_fst {ks : List D} : ∀ {xs : List D} {ws : List V}, ks.length = xs.length → xs.length = ws.length → (ks.zip (xs.zip ws)).map (fun b => b.1) = ks ∧ (ks.zip (xs.zip ws)).map (fun b => (b.1, b.2.1)) = ks.zip xs := by
  induction ks with
  | nil => intro xs ws h1 h2; simp
  | cons k ks ih =>
    intro xs ws h1 h2
    cases xs with
    | nil => cases h1
    | cons x xs =>
      cases ws with
      | nil => cases h2
      | cons w ws =>
        obtain ⟨e1, e2⟩ := ih (xs := xs) (ws := ws) (by simpa using h1) (by simpa using h2)
        simp [e1, e2]
theorem rep_each {P : Program} {w : World} {K : PySem.W.Frag} {Z : Hp} {β : List Addr} : ∀ {bs : List (D × D × V)}, (∀ b ∈ bs, RepV P w K Z β b.2.1 b.2.2) → RepL P w K Z β (bs.map fun b => b.2.1) (bs.map fun b => b.2.2)
  | [], _ => RepL.nil
  | b :: r, h => RepL.cons (h b (by simp)) (rep_each fun c hc => h c (by simp [hc]))
theorem vals_each : ∀ {bs : List (D × D × V)} {us : List Value}, PySem.W.EachIs (fun u (b : D × D × V) => RelV b.2.2 u) us bs → Vals (bs.map fun b => b.2.2) us
  | _, _, .nil => .nil
  | _, _, .cons h t => .cons h (vals_each t)
theorem snapL_len {U : Store} : ∀ {ds ds' : List D}, snapL U ds = some ds' → ds'.length = ds.length
  | [], ds', h => by cases h; rfl
  | x :: r, ds', h => by
    simp only [snapL] at h
    split at h
    · rename_i y s e1 e2
      cases h
      simp [snapL_len e2]
    · cases h
theorem sortable_toP {ks : List D} {n : Nat} (hp : plainL ks n = true) (h : canSort ks = true) : PySem.W.AllAlike (ks.map toP) ∧ PySem.W.Sortable (ks.map toP) := by
  unfold canSort at h
  simp only [Bool.and_eq_true, Bool.or_eq_true, List.all_eq_true] at h
  obtain ⟨h1, h2⟩ := h
  refine ⟨fun d hd d' hd' => ?_, ?_⟩
  · obtain ⟨a, ha, rfl⟩ := List.mem_map.mp hd
    obtain ⟨b, hb, rfl⟩ := List.mem_map.mp hd'
    exact alike_toP a b (h1 a ha b hb)
  · rcases h2 with h2 | h2
    · refine .inl fun d hd => ?_
      obtain ⟨a, ha, rfl⟩ := List.mem_map.mp hd
      have := h2 a ha
      unfold isT1 at this
      split at this
      · rename_i z zs
        exact ⟨toP z, toPL zs, by simp only [toP, toPL]⟩
      · cases this
    · refine .inr fun d hd => ?_
      obtain ⟨a, ha, rfl⟩ := List.mem_map.mp hd
      have q1 := h2 a ha
      have q2 := h1 a ha a ha
      cases a <;> simp only [noTu, VI.alike, Bool.false_eq_true] at q1 q2 <;> simp only [toP] <;> exact ⟨(fun z => nomatch z), fun _ z => nomatch z⟩
theorem plainL_mem {ks : List D} {n : Nat} (hp : plainL ks n = true) : ∀ a ∈ ks, plain a n = true := by
  induction ks with
  | nil => intro a h; cases h
  | cons x r ih =>
    simp only [plainL, Bool.and_eq_true] at hp
    intro a h
    rcases List.mem_cons.mp h with rfl | h
    · exact hp.1
    · exact ih hp.2 a h
theorem c_sorted1 (hu : X.A.units + 65 < cLine) : CallR X (.builtin "sorted") (rP X .sorted1 m) := by
  intro pins s σ H vs us Q I rv ⟨Φ, Z, β, U, ds, d', U', R, q, e, dn⟩
  have sh : ∃ d, ds = [d] := by
    unfold prim at e
    split at e <;> first | exact ⟨_, rfl⟩ | simp_all
  obtain ⟨d, rfl⟩ := sh
  obtain ⟨v, rfl, r⟩ := one_rep q
  rw [prim] at e
  split at e
  · rename_i xs hx
    split at e
    · rename_i ks hk
      split at e
      · rename_i hp
        split at e
        · rename_i ys hy
          unfold sortBy at hy
          split at hy
          · rename_i hc
            cases hy
            obtain ⟨p, ws, rfl, sq, qw⟩ := R.list hx r
            obtain ⟨its, rw1, hl, hz⟩ := I.list sq
            rw [Vals.ref1 rv]
            have hks := snapL_rep R hk qw
            obtain ⟨as, ra⟩ := Dp.readsAll I (toPL ks) ws its (dpL_of hp hks) rw1
            have l1 : ks.length = xs.length := hc.1
            have l2 : xs.length = ws.length := qw.length
            obtain ⟨e1, e2⟩ := zip3_fst (ks := ks) (xs := xs) (ws := ws) l1 l2
            have me : (ks.zip (xs.zip ws)).map (fun b => toP b.1) = ks.map toP := by
              have := congrArg (List.map toP) e1
              rw [List.map_map] at this
              exact this
            obtain ⟨s1, s2⟩ := sortable_toP hp hc.2
            have hlen : (ks.zip (xs.zip ws)).length = its.length := by
              rw [List.length_zip, List.length_zip, ← rw1.length]
              omega
            have hL : its.length ≤ sizeLine := by rw [← rw1.length]; exact hz
            refine PySem.W.sorted_data (vs := its) (bs := ks.zip (xs.zip ws)) (enc := fun b => toP b.1) (R := fun u (b : D × D × V) => RelV b.2.2 u) hl.isList (zip3_each l1 l2 rw1) (PySem.W.readsAll_each (fun b : D × D × V => toP b.1) (as := as) (by rw [me, ← toPL_map]; exact ra)) (by rw [me]; exact s1) (by rw [me]; exact s2) (by rw [hlen]; exact hL) (fun b hb => ?_) fun out ho eo => ?_
            · have hb1 : b.1 ∈ ks := (List.of_mem_zip hb).1
              have := (lay_toP b.1 39 (plainL_mem hp _ hb1)).2
              omega
            · obtain ⟨ep, he'⟩ := PyProof.Rows.sortedAll_at s.heap its out.toArray
              have hcongr : ((ks.zip (xs.zip ws)).mergeSort (PySem.W.dataLe false fun b => toP b.1)).map (fun b => (b.1, b.2.1)) = (ks.zip xs).mergeSort fun p q => !ltD q.1 p.1 := by
                rw [← e2]
                refine List.map_mergeSort fun a ha b hb => ?_
                have ha1 : a.1 ∈ ks := (List.of_mem_zip ha).1
                have hb1 : b.1 ∈ ks := (List.of_mem_zip hb).1
                have al : VI.alike b.1 a.1 = true := by
                  have hcs := hc.2
                  unfold canSort at hcs
                  simp only [Bool.and_eq_true, List.all_eq_true] at hcs
                  exact hcs.1 _ hb1 _ ha1
                obtain ⟨k, f1, f2⟩ := lt_toP b.1 a.1 39 39 (plainL_mem hp _ hb1) (plainL_mem hp _ ha1) al
                show (!PySem.W.dataLt (toP b.1) (toP a.1)) = !ltD b.1 a.1
                rw [f2]
                unfold ltD
                rw [f1]
                rfl
              have hys : ((ks.zip xs).mergeSort fun p q => !ltD q.1 p.1).map (·.2) = ((ks.zip (xs.zip ws)).mergeSort (PySem.W.dataLe false fun b => toP b.1)).map fun b => b.2.1 := by
                rw [← hcongr, List.map_map]
                rfl
              rw [hys] at e
              have hrep : RepL X.prog X.w X.K Z β (((ks.zip (xs.zip ws)).mergeSort (PySem.W.dataLe false fun b => toP b.1)).map fun b => b.2.1) (((ks.zip (xs.zip ws)).mergeSort (PySem.W.dataLe false fun b => toP b.1)).map fun b => b.2.2) :=
                rep_each fun b hb => zip3_rep qw b ((List.mergeSort_perm _ _).mem_iff.mp hb)
              have hvl := vals_each eo
              have hlen2 : (((ks.zip (xs.zip ws)).mergeSort (PySem.W.dataLe false fun b => toP b.1)).map fun b => b.2.2).length ≤ sizeLine := by
                rw [List.length_map, List.length_mergeSort, hlen]
                exact hL
              exact ⟨.ref _, L2.upd H (s.heap.objs.size + 1) (.lst _), I.laid (t' := s.toks) (fun _ _ => PyProof.Rows.sortedAll_old) (Nat.le_succ _) ⟨hlen2, _, ep, hvl, he'⟩, rfl, dn.lst R e hrep (I.hok.fresh (Nat.le_succ _))⟩
          · cases hy
        · cases e
      · cases e
    · cases e
  · cases e
end
end VI

/-! VIc16: len(set(texts)), sorted(set(texts)), list(reversed(list)): texts without doubles. -/
namespace VI
open PySem PySem.Spec PyProof.Rows L2
open PySem.Froz (SD sObj addTx tailTx TxOk)
/-- a set's payload that can be walked -/
def Lay (w : World) (D : SD) : Prop := Ris D.2.2.place.toList ∧ (w.params.followText "set-order" = true ∨ D.2.2.led = true)
section
variable {w : World}
theorem lay_tail {ep : Nat} {es : Array (Int × Value)} {t : SetTable} {b : Bool} (h1 : Ris t.place.toList) (h2 : w.params.followText "set-order" = true ∨ t.led = true) : Lay w (tailTx ep es t b) := by
  unfold tailTx Lay
  split
  · refine ⟨relayAll_ris _ _ _, h2.imp id fun q => ?_⟩
    show (relayAll t es (SetTable.grown es.size)).2.1.led = true
    rw [relayAll_led, q]
  · exact ⟨h1, h2⟩
theorem lay_add {D : SD} {h : Int} {v : Value} (l : Lay w D) : Lay w (addTx h v D) := by
  obtain ⟨es, ep, t⟩ := D
  have r1 := layNew_ris t es h v l.1
  have r2 := layNew_led t es h v
  have r3 : w.params.followText "set-order" = true ∨ (layNew t es h v).2.1.led = true := l.2.imp id fun q => by rw [r2]; exact q
  unfold addTx
  refine lay_tail ?_ ?_
  · show Ris (if (layNew t es h v).2.1.plain = true then _ else _ : SetTable).place.toList
    split <;> exact r1
  · show _ ∨ (if (layNew t es h v).2.1.plain = true then _ else _ : SetTable).led = true
    split <;> exact r3
end
/-- the i-th of some texts -/
theorem str_at {vs : List Value} {xs : List Str} (h : StrsAre vs xs) : ∀ (i : Nat) (v : Value), vs[i]? = some v → ∃ k t, xs[i]? = some k ∧ v = .str k t := by
  induction h with
  | nil => intro i v e; simp at e
  | cons n t _ ih =>
    intro i v e
    cases i with
    | zero =>
      simp at e
      exact ⟨n, t, rfl, e.symm⟩
    | succ i =>
      simp only [List.getElem?_cons_succ] at e ⊢
      exact ih i v e
theorem nodup_leS : ∀ {l m : List Str}, l.Nodup → (∀ x ∈ l, x ∈ m) → l.length ≤ m.length
  | [], m, _, _ => Nat.zero_le _
  | x :: r, m, nd, h => by
    rw [List.nodup_cons] at nd
    have hx : x ∈ m := h x (by simp)
    have ih := nodup_leS (m := m.erase x) nd.2 fun y hy => (List.mem_erase_of_ne (fun (q : y = x) => nd.1 (q ▸ hy))).mpr (h y (by simp [hy]))
    rw [List.length_erase_of_mem hx] at ih
    have := List.length_pos_of_mem hx
    simp only [List.length_cons]
    omega
/-- l holds the texts of xs, each once -/
def Once (l xs : List Str) : Prop := l.Nodup ∧ ∀ k, k ∈ l ↔ k ∈ xs
theorem Once.len {l xs : List Str} (o : Once l xs) : l.length ≤ xs.length := nodup_leS o.1 fun x hx => (o.2 x).mp hx
section
variable {P : Program} {w : World} {A : Around} {E : Value → Shared → Prop} {s : Shared}
/-- a text that is there already -/
theorem add_old {a : Addr} {T : String} {D : SD} {l : List Str} {k : Str} {u : Tok} {Q : Bool → Shared → Prop} (ho : s.heap.get? a = some (sObj T D)) (F : TxOk P w D l) (hk : k ∈ l) (hb : l.length < scanBound) (h : Q false s) :
    wpAny (model P w) A (setAddHashed a (.str k u) (hashStr w k)) Q E s := by
  obtain ⟨es, ep, t⟩ := D
  have hd : (sObj T (es, ep, t)).data = .set es ep t := rfl
  have hf : t.fits es.size = true := F.fit
  have hel : ElemsOf (strKind P w) es.toList := F.el
  have hsz : es.size = l.length := F.sz
  have hsc : (Value.str k u).scannable = true := rfl
  have hkey : (strKind P w).is k (.str k u) = true := strKind_is P w k u
  obtain ⟨e, he, hi⟩ := (F.mem k).mp hk
  unfold setAddHashed setAddHashedIn
  refine wpAny_holding (wpAny_bind (wpAny_setState_of ho hd hf ?_))
  dsimp only
  rw [byScan_of hsc (by omega) hel]
  simp only [↓reduceIte]
  unfold setAddByScan
  refine wpAny_bind ?_
  refine wpAny_bind (wpAny_rule ?_)
  refine wpAny_bind (wpAny_setScan_of hkey ho hd hf hel ?_)
  cases hr : List.findIdx? (fun e => (strKind P w).is k e.2) es.toList with
  | none =>
    have := List.findIdx?_eq_none_iff.mp hr e he
    rw [hi] at this
    cases this
  | some j => exact wpAny_pure (wpAny_pure h)
end
section
variable {P : Program} {w : World} {A : Around} {R : Result → Shared → Prop} {I : Addr} {fp wr : List Addr} {G : Array GenState → Array GenState → Prop} {n : Nat} {Pv : Nat → Value → Prop} {St : Nat → Shared → Prop}
/-- the texts that an iterator gives, put into a set one by one -/
theorem fill_texts (W : WalksS P w A.in1 I fp wr G n Pv St) {S : Addr} (hS : S ∉ fp) {xs : List Str} (hn : xs.length = n) (hb : n + 1 < scanBound) (hv : ∀ i v, Pv i v → ∃ k t, xs[i]? = some k ∧ v = .str k t) :
    ∀ (m i : Nat) (s : Shared) (D : SD) (l : List Str), i + m = n → St i s → s.heap.get? S = some (sObj "set" D) → TxOk P w D l → Once l (xs.take i) → Lay w D →
      (∀ s' D' l', Moved (S :: wr) G s s' → s'.heap.get? S = some (sObj "set" D') → TxOk P w D' l' → Once l' xs → Lay w D' → R (.ok (.ret .none)) s') →
      codeAny (model P w) A (.builtin "set.update.loop" ⟨[.ref S, .ref I], []⟩) R s := by
  have out : S ∉ wr := fun q => hS (W.sub _ q)
  have up : ∀ b ∈ wr, b ∈ S :: wr := fun b q => List.mem_cons_of_mem _ q
  intro m
  induction m with
  | zero =>
    intro i s D l e st ho ok oc ly fin
    have e : i = n := by omega
    subst e
    rw [List.take_of_length_le (by omega)] at oc
    refine codeAny_builtin PyProof.Rows.F.entry_set_update_loop ?_
    rw [Around.under_plainId PyProof.Rows.F.plain_set_update_loop _]
    show wpAny _ A.in1 (pyNext (.ref I) >>= _) _ _ s
    refine wpAny_bind (W.done s _ _ st fun s' mv => ?_)
    show wpAny _ A.in1 (PySem.ret Value.none) _ _ s'
    exact wpAny_pure (fin s' D l (mv.mono up) (mv.heap S _ out ho) ok oc ly)
  | succ m ih =>
    intro i s D l e st ho ok oc ly fin
    refine codeAny_builtin PyProof.Rows.F.entry_set_update_loop ?_
    rw [Around.under_plainId PyProof.Rows.F.plain_set_update_loop _]
    show wpAny _ A.in1 (pyNext (.ref I) >>= _) _ _ s
    refine wpAny_bind (W.item i s _ _ (by omega) st fun v s1 pv st1 mv => ?_)
    obtain ⟨k, t, ek, rfl⟩ := hv i v pv
    have ho1 := mv.heap S _ out ho
    have hi : i < xs.length := by omega
    have hk : xs[i] = k := by
      rw [List.getElem?_eq_getElem hi] at ek
      exact Option.some.inj ek
    have tk : xs.take (i + 1) = xs.take i ++ [k] := by
      rw [← hk]
      exact List.take_succ_eq_append_getElem hi
    have ll := oc.len
    rw [List.length_take] at ll
    show wpAny _ A.in1 (holding [Value.str k t] (setAdd S (.str k t)) >>= _) _ _ s1
    refine wpAny_bind (wpAny_holding ?_)
    unfold setAdd
    refine wpAny_holding ?_
    refine wpAny_bind ((strKind P w).pyHash (k := k) (strKind_is P w k t) ?_)
    by_cases hkl : k ∈ l
    · have oc1 : Once l (xs.take (i + 1)) := ⟨oc.1, fun j => by
        rw [tk, List.mem_append, List.mem_singleton, oc.2 j]
        constructor
        · exact .inl
        · rintro (q | rfl)
          · exact q
          · exact (oc.2 j).mp hkl⟩
      refine add_old (s := { s1 with toks := s1.toks + 1 }) ho1 ok hkl (by omega) ?_
      refine wpAny_pure ⟨plainId_quiet PyProof.Rows.F.plain_set_update_loop _, ih (i + 1) _ D l (by omega) (W.frame _ s1 _ _ st1 (Nat.le_succ _) fun b q o eo => eo) ho1 ok oc1 ly fun s2 D2 l2 mv2 ho2 ok2 oc2 ly2 => ?_⟩
      exact fin s2 D2 l2 (Moved.trans W.gtrans ((mv.mono up).then_heap (Nat.le_succ _) fun b o q eo => eo) mv2) ho2 ok2 oc2 ly2
    · have oc1 : Once (k :: l) (xs.take (i + 1)) := ⟨List.nodup_cons.mpr ⟨hkl, oc.1⟩, fun j => by
        rw [tk, List.mem_append, List.mem_singleton, List.mem_cons, oc.2 j]
        exact Or.comm⟩
      refine PySem.Froz.add_x (s := { s1 with toks := s1.toks + 1 }) ho1 ok hkl (by omega) ?_
      have lt : S < s1.heap.objs.size := Heap.lt_size ho1
      have oth : ∀ b o, b ≠ S → s1.heap.get? b = some o → (s1.heap.update S (fun _ => sObj "set" (addTx (hashStr w k) (.str k t) D))).get? b = some o := fun b o hb q => (Heap.get?_update_other _ _ (Ne.symm hb)).trans q
      have sf : (s1.heap.update S (fun _ => sObj "set" (addTx (hashStr w k) (.str k t) D))).get? S = some (sObj "set" (addTx (hashStr w k) (.str k t) D)) := Heap.get?_update_self (fun _ => sObj "set" (addTx (hashStr w k) (.str k t) D)) ho1 rfl
      refine wpAny_pure ⟨plainId_quiet PyProof.Rows.F.plain_set_update_loop _, ih (i + 1) _ _ (k :: l) (by omega) (W.frame _ s1 _ _ st1 (Nat.le_succ _) fun b q o eo => oth b o (fun z => hS (z ▸ q)) eo) sf (PySem.Froz.add_ok t ok) oc1 (lay_add ly) fun s2 D2 l2 mv2 ho2 ok2 oc2 ly2 => ?_⟩
      exact fin s2 D2 l2 (Moved.trans W.gtrans ((mv.mono up).then_heap (Nat.le_succ _) fun b o q eo => oth b o (fun z => q (z ▸ List.mem_cons_self)) eo) mv2) ho2 ok2 oc2 ly2
end
section
variable {P : Program} {w : World} {A : Around} {E : Value → Shared → Prop} {s : Shared}
/-- a new set -/
def newSet (w : World) : Obj := { cls := .type "set", dict := none, data := .set #[] 0 (.fresh 0 0 (!w.params.followText "set-order")) }
theorem newSet_lay (w : World) : Lay w (#[], 0, .fresh 0 0 (!w.params.followText "set-order")) := by
  refine ⟨List.Pairwise.nil, ?_⟩
  show _ ∨ (!w.params.followText "set-order") = true
  cases w.params.followText "set-order"
  · exact .inr rfl
  · exact .inl rfl
/-- set(list of texts) -/
theorem set_of_texts {l : Addr} {items : Array Value} {xs : List Str} {Q : Value → Shared → Prop} (hh : A.handled = none) (hl : s.heap.IsList l items) (hi : StrsAre items.toList xs) (hb : xs.length + 1 < scanBound)
    (h : ∀ (h' : Heap) (tk : Nat) (D : SD) (l : List Str), h'.get? s.heap.objs.size = some (sObj "set" D) → TxOk P w D l → Once l xs → Lay w D → (∀ b o, s.heap.get? b = some o → h'.get? b = some o) → Q (.ref s.heap.objs.size) { s with heap := h', toks := tk }) :
    wpAny (model P w) A (call (.type "set") [.ref l]) Q E s := by
  obtain ⟨c, tl, hmro⟩ := PySem.F.called_set.mro
  have hmade := PySem.F.called_set.made
  have hsub := PySem.F.called_set.sub
  have h1 := PySem.F.called_set.notType
  have h2 := PySem.F.called_set.canCreate
  have hct := PySem.F.typeCall_set_1 (.ref l)
  have hli := PySem.F.called_set.init.lookup
  have hbi := PySem.F.called_set.init.bind (.ref s.heap.objs.size)
  refine wpAny_call (codeAny_of_tree ?_)
  show wpAny _ _ (callAny (.type "set") _) _ _ _
  refine wpAny_pure ⟨Code.quiet_builtin _ (by decide +kernel), codeAny_builtin PySem.F.entry_type_call ?_⟩
  rw [Around.under_plain (weight_type_call_type "set" [.ref l] []) rfl]
  repeat (any_goals (first | assumption | wp_step))
  refine codeAny_mono (code_set_led1 (.ref l) (E := E) (Q₁ := fun o s₁ => o = .ref s.heap.objs.size ∧ s₁ = { s with heap := s.heap.push (newSet w) }) ⟨rfl, rfl⟩) fun r s₁ hr => ?_
  match r, hr with
  | .ok (.ret o), hr =>
    obtain ⟨rfl, rfl⟩ := hr
    have gS : (s.heap.push (newSet w)).get? s.heap.objs.size = some (newSet w) := Heap.get?_push_size _ rfl
    have hT : Shared.TypeIs { s with heap := s.heap.push (newSet w) } (.ref s.heap.objs.size) "set" := ⟨_, gS, rfl⟩
    repeat (any_goals (first | assumption | wp_step))
    refine codeAny_mono (codeAny_call_builtin (R := wants (fun r s₂ => r = .none ∧ Q (.ref s.heap.objs.size) s₂) E) PySem.F.called_set.init.plain PySem.F.entry_set_init (check_set_init_1 hT ?_)) fun r₂ s₂ hr₂ => ?_
    · obtain ⟨ol, gl, hc, nl, hd⟩ := hl
      obtain ⟨ocls, odict, odata, oslots⟩ := ol
      simp only at hc hd
      subst hc; subst hd
      have ll : l < s.heap.objs.size := Heap.lt_size gl
      have gl1 : (s.heap.push (newSet w)).get? l = some { cls := .type "list", dict := odict, data := .seq items nl, slots := oslots } := Heap.get?_push_of_some _ gl
      have il1 : (s.heap.push (newSet w)).IsList l items := ⟨_, gl1, rfl, nl, rfl⟩
      have f1 := PySem.F.sub_list_set
      have f2 := PySem.F.sub_list_frozenset
      have f3 : (Value.type "list" == Value.type "dict") = false := by decide
      have gS' : (s.heap.push (newSet w)).get? s.heap.objs.size = some { cls := .type "set", dict := none, data := .set #[] 0 (.fresh 0 0 (!w.params.followText "set-order")) } := gS
      unfold Builtin.«set.__init__» noKeywords Builtin.Frozenset.updateFrom
      generalize hPI : pyIter = PI
      wp_walk
      subst hPI
      refine wpAny_pyIter_list il1 ?_
      refine wpAny_bind (wpAny_runValue ?_)
      have sz1 : (s.heap.push (newSet w)).objs.size = s.heap.objs.size + 1 := Heap.size_push _ _
      have n1 : l ≠ (s.heap.push (newSet w)).objs.size := by rw [sz1]; exact Nat.ne_of_lt (Nat.lt_succ_of_lt ll)
      have n2 : s.heap.objs.size ∉ [(s.heap.push (newSet w)).objs.size, l] := by
        rw [sz1]
        simp only [List.mem_cons, List.not_mem_nil, or_false, not_or]
        exact ⟨Nat.ne_of_lt (Nat.lt_succ_self _), Nat.ne_of_gt ll⟩
      have hh3 : A.in1.in1.in1.handled = none := by simp [hh]
      refine fill_texts ((Walks.list hh3 _ l n1 items).toS) n2 (xs := xs) (by rw [← StrsAre.len_eq hi, Array.length_toList]) (by rw [← Array.length_toList, StrsAre.len_eq hi]; exact hb)
        (fun i v hv => str_at hi i v (by rw [Array.getElem?_toList]; exact hv)) items.size 0 _ (#[], 0, .fresh 0 0 (!w.params.followText "set-order")) [] (Nat.zero_add _) ⟨⟨_, Heap.get?_push_size _ rfl, rfl, rfl⟩, il1.push _⟩ (Heap.get?_push_of_some _ gS) (PySem.Froz.TxOk.nil (by rfl)) ⟨List.nodup_nil, fun j => by simp⟩ (newSet_lay w) fun s' D' l' mv ho' ok' oc' ly' => ?_
      obtain ⟨h', g', d', tk', os'⟩ := s'
      obtain rfl : g' = s.gens := mv.gens
      obtain rfl : d' = s.drawn := mv.drawn
      obtain rfl : os' = s.os := mv.os
      show wpAny _ _ _ _ _ _
      refine wpAny_pure ?_
      show wpAny _ _ (PySem.ret Value.none) _ _ _
      refine wpAny_pure ⟨rfl, h h' tk' D' l' ho' ok' oc' ly' fun b o e => ?_⟩
      have hb : b < s.heap.objs.size := Heap.lt_size e
      have n3 : b ∉ [s.heap.objs.size, (s.heap.push (newSet w)).objs.size] := by
        rw [sz1]
        simp only [List.mem_cons, List.not_mem_nil, or_false, not_or]
        exact ⟨Nat.ne_of_lt hb, Nat.ne_of_lt (Nat.lt_succ_of_lt hb)⟩
      exact mv.heap b o n3 (Heap.get?_push_of_some _ (Heap.get?_push_of_some _ e))
    · match r₂, hr₂ with
      | .error e, hr₂ => exact hr₂
      | .ok (.ret r), hr₂ =>
        obtain ⟨rfl, hq⟩ := hr₂
        repeat (any_goals (first | assumption | wp_step))
  | .error e, hr => exact hr
end
end VI

/-! VIc17: calls within calls: len(set(x)), sorted(set(x)), list(reversed(x)). -/
namespace VI
open PySem PySem.Spec PyProof.Rows L2
open PySem.Froz (SD sObj addTx tailTx TxOk)
/-- a built-in called on what another one gives -/
def Comp2 (X : Cx) (f : Value) (T : String) (p : P) (m : Bool) : Prop := ∀ pins s σ H vs us Q, Inv X pins σ H s → Vals vs us → rP X p m vs H Q →
  wpAny (model X.prog X.w) X.A (call (.type T) us) (fun w s2 => wpAny (model X.prog X.w) X.A (call f [w]) (EP X pins σ Q) X.xe s2) X.xe s
section
variable {X : Cx} {C : Cal} {W : WX} {e1 : Expr} {a : IE} {pos q p1 p2 : Pos} {as : IEs} {x1 x2 : Str} {pr : P} {m : Bool} {T id : String}
theorem n_args (hp : isMeth pr = false) : ∀ σ H Q, xE X C W (.prim pr m (.cons a as)) σ H Q → xA X C W (.cons a as) σ H fun vs H1 => rP X pr m vs H1 Q := by
  intro σ H Q ⟨Φ, Z, β, ρ, U, r, S, R, h, o⟩
  rw [ev] at h
  have h : (bnd (evs C (.cons a as) ρ U) fun ds U2 => prim pr m ds U2) = some r := by
    rw [evs]
    cases q : ev C a ρ U with
    | none => simp only [q] at h; cases h
    | some r1 =>
      simp only [q] at h
      cases r1 with
      | ex x V => exact h
      | ok d V =>
        simp only [bnd_ok, recv_fun hp, if_true] at h ⊢
        cases q2 : evs C as ρ V with
        | none => rw [q2] at h; cases h
        | some r2 =>
          rw [q2] at h
          cases r2 with
          | ex x V2 => exact h
          | ok ds V2 => exact h
  refine tA_bnd S R h o.wish fun Z1 β1 H1 ds vs U1 z1 b1 R1 r1 S1 h1 => ?_
  obtain ⟨d3, U3, rfl⟩ := must h1 fun x V => prim_ok
  exact ⟨Φ, Z1, β1, U1, ds, d3, U3, R1, r1, h1, o.monoE z1 b1⟩
theorem n_comp {f : Value} (hf : (∃ id, f = .builtin id) ∨ ∃ U, f = .type U) (hc : Comp2 X f T pr m) (hp : isMeth pr = false) (g1 : Gl X x1) (m1 : X.mg x1 = none) (v1 : bootBuiltins x1 = some f) (n1 : x1 ≠ "__name__") (d1 : (x1 == ("__debug__" : Str)) = false)
    (g2 : Gl X x2) (m2 : X.mg x2 = none) (v2 : bootBuiltins x2 = some (.type T)) (n2 : x2 ≠ "__name__") (d2 : (x2 == ("__debug__" : Str)) = false) (ht : tame e1 = true) (ha : PA X [e1] (xA X C W (.cons a as))) :
    PE X (.Call (.Name x1 p1) [.Call (.Name x2 p2) [e1] [] q] [] pos) (xE X C W (.prim pr m (.cons a as))) := by
  refine ⟨fun pins s σ H Q I h => ?_⟩
  have h1 : (xA X C W (.cons a as)) σ H fun vs H1 => rP X pr m vs H1 Q := n_args hp σ H Q h
  have inner : ∀ E : Value → Shared → Prop, wpAny (model X.prog X.w) X.A (eval (.Call (.Name x2 p2) [e1] [] q) X.env) (fun w s2 => wpAny (model X.prog X.w) X.A (spliced (backTo pos (starEach [] X.env))) (fun ws s3 => wpAny (model X.prog X.w) X.A (call f (w :: ws)) (EP X pins σ Q) X.xe s3) X.xe s2) X.xe s := fun E => by
    refine wpAny_Call_Name_kw (ld_blt I g2 m2 v2 ?_ n2 d2)
    refine PyProof.Rows.callWith_type1 (L2.thn (ha.run q pins s σ H _ I h1) fun us s1 ⟨vs, H1, I1, r1, q1⟩ => ?_) (star_tame ht [] _) (by rfl)
    exact L2.thn (hc pins s1 σ H1 vs us Q I1 r1 q1) fun w s2 h2 => PyProof.Rows.args_nil h2
  refine wpAny_Call_Name_kw (ld_blt I g1 m1 v1 ?_ n1 d1)
  rcases hf with ⟨id, rfl⟩ | ⟨U, rfl⟩
  · exact PyProof.Rows.callWith_builtin1 (PyProof.Rows.args_cons (inner X.xe) (by rfl)) (by rfl) (by rfl)
  · exact PyProof.Rows.callWith_type1 (PyProof.Rows.args_cons (inner X.xe) (by rfl)) (by rfl) (by rfl)
/-! ### sets of texts -/
def toS (t : Tx) : Str := ⟨t.toArray⟩
theorem toS_inj {a b : Tx} (h : toS a = toS b) : a = b := by
  unfold toS at h
  have := congrArg (fun s : Str => s.cps.toList) h
  simpa using this
theorem mem_dedupT {x : Tx} : ∀ {ts : List Tx}, x ∈ dedupT ts ↔ x ∈ ts
  | [] => Iff.rfl
  | y :: r => by
    unfold dedupT
    split
    · rename_i q
      have q : y ∈ r := by simpa using q
      rw [mem_dedupT, List.mem_cons]
      constructor
      · exact .inr
      · rintro (rfl | h)
        · exact q
        · exact h
    · rw [List.mem_cons, List.mem_cons, mem_dedupT]
theorem dedupT_nd : ∀ ts : List Tx, (dedupT ts).Nodup
  | [] => List.nodup_nil
  | y :: r => by
    unfold dedupT
    split
    · exact dedupT_nd r
    · rename_i q
      rw [List.nodup_cons, mem_dedupT]
      exact ⟨by simpa using q, dedupT_nd r⟩
theorem dedup_toS (ts : List Tx) : Once ((dedupT ts).map toS) (ts.map toS) := by
  refine ⟨?_, fun k => ?_⟩
  · unfold List.Nodup
    rw [List.pairwise_map]
    exact List.Pairwise.imp (fun {a b} h e => h (toS_inj e)) (dedupT_nd ts)
  · rw [List.mem_map, List.mem_map]
    constructor
    · rintro ⟨t, ht, e⟩
      exact ⟨t, mem_dedupT.mp ht, e⟩
    · rintro ⟨t, ht, e⟩
      exact ⟨t, mem_dedupT.mpr ht, e⟩
theorem perm_cover {α : Type} [DecidableEq α] : ∀ {l k : List α}, l.Nodup → (∀ x ∈ l, x ∈ k) → k.length = l.length → k.Perm l
  | [], k, _, _, e => by
    have : k = [] := List.length_eq_zero_iff.mp e
    subst this
    exact .nil
  | x :: r, k, nd, h, e => by
    rw [List.nodup_cons] at nd
    have hx : x ∈ k := h x (by simp)
    have p := List.perm_cons_erase hx
    have hl : (k.erase x).length = r.length := by
      rw [List.length_erase_of_mem hx, e]
      rfl
    refine p.trans ((perm_cover nd.2 (fun y hy => ?_) hl).cons x)
    have ne : y ≠ x := fun q => nd.1 (q ▸ hy)
    exact (List.mem_erase_of_ne ne).mpr (h y (by simp [hy]))
theorem perm_once {l l' xs : List Str} (o : Once l xs) (o' : Once l' xs) : l.Perm l' := by
  have h1 := nodup_leS o.1 fun x hx => (o'.2 x).mpr ((o.2 x).mp hx)
  have h2 := nodup_leS o'.1 fun x hx => (o.2 x).mpr ((o'.2 x).mp hx)
  exact perm_cover o'.1 (fun x hx => (o.2 x).mpr ((o'.2 x).mp hx)) (by omega)
theorem bound_set : (4000 : Nat) + 1 < scanBound := by decide
theorem hc_lenSet (hu : X.calm = true) : Comp2 X (.builtin "len") "set" .lenSet m := by
  intro pins s σ H vs us Q I rv ⟨Φ, Z, β, U, ds, d', U', R, q, e, dn⟩
  have sh : ∃ d, ds = [d] := by
    unfold prim at e
    split at e <;> first | exact ⟨_, rfl⟩ | simp_all
  obtain ⟨d, rfl⟩ := sh
  obtain ⟨v, rfl, r⟩ := one_rep q
  rw [prim] at e
  split at e
  · rename_i xs hx
    split at e
    · rename_i ts ht
      split at e
      · rename_i hc
        obtain ⟨rfl, rfl⟩ := ok_inj e
        obtain ⟨p, ws, rfl, sq, qw⟩ := R.list hx r
        obtain ⟨its, rw1, hl, hz⟩ := I.list sq
        rw [Vals.ref1 rv]
        have ew := texts_rep ht qw
        have si : StrsAre its (ts.map toS) := L2.strsAre_of (by rw [ew] at rw1; exact rw1)
        refine set_of_texts (I.ok.hd hu) hl.isList (by simpa using si) (by rw [List.length_map]; have := bound_set; omega) fun h' tk D l ho ok oc ly k => ?_
        have I2 : Inv X pins σ H { s with heap := h', toks := tk } := I.kept (t' := tk) k
        have sz : D.1.size = (dedupT ts).length := by
          have p := perm_once oc (dedup_toS ts)
          rw [ok.sz, p.length_eq, List.length_map]
        have sl : (dedupT ts).length ≤ ts.length := by
          have := (dedup_toS ts).len
          rw [List.length_map, List.length_map] at this
          exact this
        refine PySem.call_len_set ho ⟨rfl, rfl, rfl⟩ rfl ok.fit (by rw [sz]; omega) ⟨.int (dedupT ts).length, H, I2.tok _, ⟨_, by rw [sz]⟩, dn.int R⟩
      · cases e
    · cases e
  · cases e
/-! ### sorted(set(..)) -/
def keyS (v : Value) : Str := match v with
  | .str k _ => k
  | _ => Str.empty
theorem is_strV {P : Program} {w : World} {k : Str} {v : Value} (h : (strKind P w).is k v = true) : ∃ t, v = .str k t := by
  have h : Value.isStrOf k v = true := h
  cases v with
  | str j t =>
    refine ⟨t, ?_⟩
    have e : j = k := by simpa [Value.isStrOf] using h
    rw [e]
  | _ => simp [Value.isStrOf] at h
theorem set_keys {P : Program} {w : World} {D : SD} {l : List Str} {vs : List Value} (ok : TxOk P w D l) (nd : l.Nodup) (pm : vs.Perm (D.1.toList.map (·.2))) : StrsAre vs (vs.map keyS) ∧ (vs.map keyS).Perm l := by
  have each : ∀ v ∈ vs, ∃ k t, v = .str k t := fun v hv => by
    obtain ⟨e, he, rfl⟩ := List.mem_map.mp (pm.mem_iff.mp hv)
    obtain ⟨⟨k, hk, _⟩, _⟩ := ok.el e he
    obtain ⟨t, q⟩ := is_strV hk
    exact ⟨k, t, q⟩
  refine ⟨?_, perm_cover nd (fun k hk => ?_) ?_⟩
  · clear pm
    induction vs with
    | nil => exact .nil
    | cons v r ih =>
      obtain ⟨k, t, rfl⟩ := each v (by simp)
      exact .cons k t (ih fun u hu => each u (by simp [hu]))
  · obtain ⟨e, he, hi⟩ := (ok.mem k).mp hk
    obtain ⟨t, q⟩ := is_strV hi
    refine List.mem_map.mpr ⟨e.2, pm.mem_iff.mpr (List.mem_map.mpr ⟨e, he, rfl⟩), ?_⟩
    rw [q]
    rfl
  · rw [List.length_map, pm.length_eq, List.length_map, Array.length_toList, ok.sz]
def leK (a b : Str) : Bool := decide (a.cps.toList ≤ b.cps.toList)
theorem sort_one {a b : List Str} (p : a.Perm b) : a.mergeSort leK = b.mergeSort leK := by
  have tr : ∀ x y z : Str, leK x y = true → leK y z = true → leK x z = true := fun x y z h1 h2 => by
    unfold leK at h1 h2 ⊢
    simp only [decide_eq_true_eq] at h1 h2 ⊢
    exact List.le_trans h1 h2
  have tot : ∀ x y : Str, (leK x y || leK y x) = true := fun x y => by
    unfold leK
    simp only [Bool.or_eq_true, decide_eq_true_eq]
    exact List.le_total _ _
  refine List.Perm.eq_of_pairwise (le := fun x y => leK x y = true) (fun x y _ _ h1 h2 => ?_) (List.pairwise_mergeSort tr tot a) (List.pairwise_mergeSort tr tot b) ((List.mergeSort_perm _ _).trans (p.trans (List.mergeSort_perm _ _).symm))
  unfold leK at h1 h2
  simp only [decide_eq_true_eq] at h1 h2
  have := List.le_antisymm h1 h2
  cases x
  cases y
  simp only [Array.toList_inj] at this
  rw [this]
def leT (a b : Tx) : Bool := !ltD (.str b) (.str a)
theorem sortBy_strs {ts : List Tx} {ys : List D} (h : sortBy (ts.map .str) (ts.map .str) = some ys) : ys = (ts.mergeSort leT).map .str := by
  unfold sortBy at h
  split at h
  · cases h
    have zz : ∀ l : List Tx, (l.map D.str).zip (l.map D.str) = l.map fun x => (D.str x, D.str x) := by
      intro l
      induction l with
      | nil => rfl
      | cons x r ih =>
        simp only [List.map_cons, List.zip_cons_cons]
        rw [ih]
    rw [zz]
    have : (ts.map fun x => (D.str x, D.str x)).mergeSort (fun p q => !ltD q.1 p.1) = (ts.mergeSort leT).map fun x => (D.str x, D.str x) :=
      (List.map_mergeSort (r := leT) (s := fun p q : D × D => !ltD q.1 p.1) (f := fun x : Tx => (D.str x, D.str x)) fun a _ b _ => rfl).symm
    rw [this, List.map_map]
    rfl
  · cases h
theorem sort_toS (ts : List Tx) : (ts.mergeSort leT).map toS = (ts.map toS).mergeSort leK := by
  refine List.map_mergeSort fun a _ b _ => ?_
  unfold leT leK ltD toS
  simp only [pylt, Option.getD_some]
  exact PySem.W.not_lt_str a b
theorem reps_strs {P : Program} {w : World} {K : PySem.W.Frag} {Z : Hp} {β : List Addr} : ∀ ts : List Tx, RepL P w K Z β (ts.map .str) ((ts.map toS).map V.str)
  | [] => RepL.nil
  | t :: r => RepL.cons (by simp only [RepV]; rfl) (reps_strs r)
theorem vals_strs : ∀ {ks : List Str} {us : List Value}, StrsAre us ks → Vals (ks.map V.str) us
  | _, _, .nil => .nil
  | _, _, .cons n t h => .cons ⟨t, rfl⟩ (vals_strs h)
theorem each_strs : ∀ {vs : List Value} {ks : List Str}, StrsAre vs ks → PySem.W.EachIs (fun (u : Value) (k : Str) => ∃ t, u = .str k t) vs ks
  | _, _, .nil => .nil
  | _, _, .cons n t h => .cons ⟨t, rfl⟩ (each_strs h)
theorem strs_each : ∀ {vs : List Value} {ks : List Str}, PySem.W.EachIs (fun (u : Value) (k : Str) => ∃ t, u = .str k t) vs ks → StrsAre vs ks
  | _, _, .nil => .nil
  | _, _, .cons ⟨t, e⟩ h => by
    subst e
    exact .cons _ t (strs_each h)
theorem each_reads {h : Heap} {a : Addr} : ∀ {vs : List Value} {ks : List Str}, StrsAre vs ks → PySem.W.EachIs (fun (u : Value) (k : Str) => ∃ as, Reads h u (.str k) as ∧ a ∉ as) vs ks
  | _, _, .nil => .nil
  | _, _, .cons n t h => .cons ⟨[], .str _ _, by simp⟩ (each_reads h)
theorem alike_strs (ks : List Str) : PySem.W.AllAlike (ks.map fun k => PyData.str k) ∧ PySem.W.Sortable (ks.map fun k => PyData.str k) := by
  refine ⟨fun d hd d' hd' => ?_, .inr fun d hd => ?_⟩
  · obtain ⟨a, _, rfl⟩ := List.mem_map.mp hd
    obtain ⟨b, _, rfl⟩ := List.mem_map.mp hd'
    simp only [PySem.W.alike]
  · obtain ⟨a, _, rfl⟩ := List.mem_map.mp hd
    exact ⟨(fun z => nomatch z), fun _ z => nomatch z⟩
theorem hc_sortedSet (hu : X.calm = true) (hun : X.A.units + 65 < cLine) : Comp2 X (.builtin "sorted") "set" .sortedSet m := by
  intro pins s σ H vs us Q I rv ⟨Φ, Z, β, U, ds, d', U', R, q, e, dn⟩
  have sh : ∃ d, ds = [d] := by
    unfold prim at e
    split at e <;> first | exact ⟨_, rfl⟩ | simp_all
  obtain ⟨d, rfl⟩ := sh
  obtain ⟨v, rfl, r⟩ := one_rep q
  rw [prim] at e
  split at e
  · rename_i xs hx
    split at e
    · rename_i ts ht
      split at e
      · rename_i hc
        split at e
        · rename_i ys hy
          obtain ⟨p, ws, rfl, sq, qw⟩ := R.list hx r
          obtain ⟨its, rw1, hl, hz⟩ := I.list sq
          rw [Vals.ref1 rv]
          have ew := texts_rep ht qw
          have si : StrsAre its (ts.map toS) := L2.strsAre_of (by rw [ew] at rw1; exact rw1)
          have od := dedup_toS ts
          have sl : (dedupT ts).length ≤ ts.length := by
            have := od.len
            rw [List.length_map, List.length_map] at this
            exact this
          have bs := bound_set
          have bl : (4000 : Nat) ≤ sizeLine := by rw [sizeLine_eq]; omega
          have hn : ts.length = its.length := by rw [StrsAre.len_eq si, List.length_map]
          have hh : X.A.handled = none := I.ok.hd hu
          refine set_of_texts hh hl.isList (by simpa using si) (by rw [List.length_map]; omega) fun h' tk D l ho ok oc ly k => ?_
          have pl := perm_once oc od
          have sz : D.1.size = (dedupT ts).length := by rw [ok.sz, pl.length_eq, List.length_map]
          refine Calls.call_function_entry kind_sorted plain_sorted entry_sorted (args_sorted1 _) ?_
          unfold Builtin.«sorted»
          refine wpAny_bind (m := checkCount "sorted" 1 1 _) (wpAny_pure ?_)
          refine wpAny_bind (collect_set (A := X.A.in1) (by simp [hh]) ⟨_, ho, rfl, rfl⟩ ok.fit (by rw [sz]; omega) ly.1 ly.2 fun s3 vs3 k3 hz3 g3 o3 pm => ?_)
          obtain ⟨sa, pk⟩ := set_keys ok oc.1 pm
          generalize vs3.map keyS = ks at sa pk
          have pk2 : ks.Perm ((dedupT ts).map toS) := pk.trans pl
          have lk : ks.length = (dedupT ts).length := by rw [pk2.length_eq, List.length_map]
          have lv : vs3.length = (dedupT ts).length := by rw [StrsAre.len_eq sa, lk]
          refine wpAny_bind (wpAny_newList ?_ (by rw [lv]; omega))
          have hoL : (s3.heap.push (seqObj "list" vs3.toArray 0)).get? s3.heap.objs.size = some (seqObj "list" vs3.toArray 0) := Heap.get?_push_size _ rfl
          obtain ⟨al, so⟩ := alike_strs ks
          refine wpAny_bind (wpAny_holding (PySem.W.list_sort_data (A := X.A.in1) (bs := ks) (enc := fun k : Str => PyData.str k) (R := fun (u : Value) (k : Str) => ∃ t, u = .str k t) hoL (each_strs sa) (each_reads sa) al so (by rw [lk]; omega) (fun b _ => ?_) fun out lo eo => ?_))
          · have d0 : (PyData.str b).depth = 0 := rfl
            have u1 : X.A.in1.units ≤ X.A.units + 1 := by simp [Around.in1, Around.units]
            rw [d0]
            omega
          · obtain ⟨c, hc4⟩ := sortedHeap_at (vs := vs3) (out := out.toArray) hoL
            have old : ∀ b o, s.heap.get? b = some o → (sortedHeap (s3.heap.push (seqObj "list" vs3.toArray 0)) s3.heap.objs.size vs3 out.toArray).get? b = some o := fun b o eb => by
              have q3 := k3 b o (k b o eb)
              have lt := Heap.lt_size q3
              rw [sortedHeap_old (Nat.ne_of_lt lt) (by rw [size_push']; exact Nat.lt_succ_of_lt lt)]
              exact Heap.get?_push_of_some _ q3
            have hp : s.heap.objs.size ≤ s3.heap.objs.size := Nat.le_trans (Nat.le_of_lt (Heap.lt_size ho)) hz3
            have hnH : H s3.heap.objs.size = none := I.hok.fresh hp
            have ev : StrsAre out (((dedupT ts).mergeSort leT).map toS) := by
              have e1 := strs_each eo
              have e2 : PySem.W.dataLe false (fun k : Str => PyData.str k) = leK := PySem.W.dataLe_str (fun k : Str => k)
              rw [e2, sort_one pk2, ← sort_toS] at e1
              exact e1
            have hv := vals_strs ev
            have hl2 : ((((dedupT ts).mergeSort leT).map toS).map V.str).length ≤ sizeLine := by
              rw [List.length_map, List.length_map, List.length_mergeSort]
              omega
            rw [sortBy_strs hy] at e
            have J : Inv X pins σ (L2.upd H s3.heap.objs.size (.lst ((((dedupT ts).mergeSort leT).map toS).map V.str))) { s3 with heap := sortedHeap (s3.heap.push (seqObj "list" vs3.toArray 0)) s3.heap.objs.size vs3 out.toArray } :=
              I.call' (ch := []) o3 (Un.laid old hp hnH) (I.hok.laid old hp ⟨hl2, out, c, hv, hc4⟩) (by show AllBare s3.gens; rw [g3]; exact I.bare) (fun _ z => nomatch z)
            exact wpAny_pure ⟨_, rfl, .ref s3.heap.objs.size, _, J, rfl, dn.lst R e (reps_strs _) hnH⟩
        · cases e
      · cases e
    · cases e
  · cases e
end
end VI

/-! VIc18: list(reversed(list)). -/
namespace VI
open PySem PySem.Spec PyProof.Rows L2
section
variable {P : Program} {w : World} {A : Around} {R : Result → Shared → Prop} {E : Value → Shared → Prop} {s : Shared} {it l : Addr} {items : Array Value}
abbrev RevAt (items : Array Value) : Nat → Value → Prop := fun i v => items[items.size - 1 - i]? = some v
theorem extend_rev (hh : A.handled = none) (hit : s.heap.IsRevIter it l ((items.size : Int) - 1)) (hl : s.heap.IsList l items) (hne : l ≠ it) (hn : items.size ≤ sizeLine) (S : Addr) (hS : S ∉ [it, l]) (c0 : Nat) (ho : s.heap.get? S = some { cls := .type "list", data := .seq #[] c0 })
    (hR : ∀ s' acc c, Moved [S, it] (fun a b => b = a) s s' → s'.heap.get? S = some { cls := .type "list", dict := none, data := .seq acc c, slots := #[] } → ItemsOf (RevAt items) acc items.size → R (.ok (.ret .none)) s') :
    wpAny (model P w) A.in1 (Builtin.List.listExtendWith (.ref S) (.ref it) .none)
      (fun fin s' => match fin with | .done f => R (.ok f) s' | .again c' => c'.quiet = true ∧ codeAny (model P w) A c' R s') (fun e s' => R (.error e) s') s := by
  have W := (Walks.listRev (prog := P) (w := w) (A := A.in1) (by simp [hh]) it l hne items).toS
  have hT : s.TypeIs (.ref it) "list_reverseiterator" := hit.typeIs
  have ne : S ≠ it := fun q => hS (by simp [q])
  have same : Builtin.List.listSameRef (.ref S) (.ref it) = false := by simp [Builtin.List.listSameRef, ne]
  unfold Builtin.List.listExtendWith
  refine wpAny_bind (wpAny_typeOf hT ?_)
  rw [if_neg (by rw [same]; decide)]
  refine wpAny_bind (wpAny_pyIter_revIter hit ?_)
  refine wpAny_bind (wpAny_holding ?_)
  unfold Builtin.List.listLengthHint
  refine wpAny_bind (wpAny_specialOf hT RT.nolen_lri ?_)
  show wpAny _ A.in1 (specialOf (Value.ref it) (Str.ofString "__length_hint__") >>= _) _ _ _
  refine wpAny_bind (wpAny_specialOf hT RT.hint_lri ?_)
  generalize hid : ("list_reverseiterator.__length_hint__" : String) = id0
  wp_delta
  rw [show splitId id0 = some ("list_reverseiterator", "__length_hint__") from by subst hid; decide +kernel]
  subst hid
  refine wpAny_bind (wpAny_isInstance (b := true) hT (by rw [isSubtype_type]; kernel_rfl) ?_)
  refine wpAny_pure ?_
  rw [if_neg (by decide)]
  have e0 : (items.size : Int) - 1 - ((0 : Nat) : Int) = (items.size : Int) - 1 := by omega
  exact wpAny_pure ⟨plainId_quiet F.plain_extend_loop _, codeAny_extend_loopS W hn S hS .none items.size 0 _ _ _ rfl (Nat.zero_le _) ⟨Nat.zero_le _, by rw [e0]; exact hit, hl⟩ ho (ItemsOf.nil _) fun s' acc c mv hs hi => hR s' acc c mv hs hi⟩
/-- list(the iterator of reversed(list)) -/
theorem list_rev {Q : Value → Shared → Prop} (hh : A.handled = none) (hit : s.heap.IsRevIter it l ((items.size : Int) - 1)) (hl : s.heap.IsList l items) (hne : l ≠ it) (hn : items.size ≤ sizeLine)
    (hQ : ∀ (h' : Heap) (tk : Nat) (acc : Array Value) (c : Nat), h'.get? s.heap.objs.size = some { cls := .type "list", dict := none, data := .seq acc c, slots := #[] } → ItemsOf (RevAt items) acc items.size → (∀ b o, b ≠ it → s.heap.get? b = some o → h'.get? b = some o) → Q (.ref s.heap.objs.size) { s with heap := h', toks := tk }) :
    wpAny (model P w) A (call (.type "list") [.ref it]) Q E s := by
  obtain ⟨oi, goi, _⟩ := id hit
  obtain ⟨ol, gol, _⟩ := id hl
  have li := Heap.lt_size goi
  have ll := Heap.lt_size gol
  refine callType_codes (Q₁ := fun obj s₁ => obj = .ref s.heap.objs.size ∧ s₁ = { s with heap := s.heap.push { cls := .type "list", data := .seq #[] } }) F.called_list (F.typeCall_list_1 _) F.entry_list_init (code_list_new _ ⟨rfl, rfl⟩) fun obj s₁ h₁ => ?_
  obtain ⟨rfl, rfl⟩ := h₁
  have gS : (s.heap.push { cls := .type "list", data := .seq #[] }).get? s.heap.objs.size = some { cls := .type "list", data := .seq #[] } := Heap.get?_push_size _ rfl
  refine ⟨⟨_, gS, rfl⟩, F.args_list_init_2 _ _, ?_⟩
  show wpAny _ A.in1.in1 (Builtin.List.listItems (.ref s.heap.objs.size) >>= fun old => Builtin.List.listUpdate (.ref s.heap.objs.size) (fun _ => #[]) >>= fun _ => letGo old.toList.reverse >>= fun _ => Builtin.List.listExtendWith (.ref s.heap.objs.size) (.ref it) .none) _ _ _
  refine wpAny_bind ?_
  unfold Builtin.List.listItems
  refine wpAny_bind (wpAny_seqItems gS rfl (wpAny_pure ?_))
  show wpAny _ A.in1.in1 (updateSeq s.heap.objs.size (fun _ => #[]) >>= fun _ => letGo (#[] : Array Value).toList.reverse >>= fun _ => Builtin.List.listExtendWith (.ref s.heap.objs.size) (.ref it) .none) _ _ _
  refine wpAny_bind (wpAny_updateSeq gS rfl ?_)
  have g2 := Heap.get?_update_self (Obj.mapSeq (fun _ => (#[] : Array Value))) gS rfl
  have oth : ∀ b o, b < s.heap.objs.size → s.heap.get? b = some o → ((s.heap.push { cls := .type "list", data := .seq #[] }).update s.heap.objs.size (Obj.mapSeq (fun _ => (#[] : Array Value)))).get? b = some o :=
    fun b o hb e => (Heap.get?_update_other _ _ (Ne.symm (Nat.ne_of_lt hb))).trans (Heap.get?_push_of_some _ e)
  refine wpAny_bind (wpAny_letGo ?_)
  have nS : s.heap.objs.size ∉ [it, l] := by
    simp only [List.mem_cons, List.not_mem_nil, or_false, not_or]
    exact ⟨Nat.ne_of_gt li, Nat.ne_of_gt ll⟩
  refine extend_rev (A := A.in1) (by simp [hh]) (hit.at fun o e => oth _ _ li e) (hl.at fun o e => oth _ _ ll e) hne hn _ nS _ g2 fun s' acc c mv hs hi => ⟨rfl, ?_⟩
  obtain ⟨h', g', d', tk', os'⟩ := s'
  obtain rfl : g' = s.gens := mv.gens
  obtain rfl : d' = s.drawn := mv.drawn
  obtain rfl : os' = s.os := mv.os
  refine hQ h' tk' acc c hs hi fun b o hb e => mv.heap b o ?_ (oth b o (Heap.lt_size e) e)
  simp only [List.mem_cons, List.not_mem_nil, or_false, not_or]
  exact ⟨Nat.ne_of_lt (Heap.lt_size e), hb⟩
end
section
variable {X : Cx} {m : Bool}
theorem hc_listRev (hu : X.calm = true) : Comp2 X (.type "list") "reversed" .listRev m := by
  intro pins s σ H vs us Q I rv ⟨Φ, Z, β, U, ds, d', U', R, q, e, dn⟩
  have sh : ∃ d, ds = [d] := by
    unfold prim at e
    split at e <;> first | exact ⟨_, rfl⟩ | simp_all
  obtain ⟨d, rfl⟩ := sh
  obtain ⟨v, rfl, r⟩ := one_rep q
  rw [prim] at e
  split at e
  · rename_i xs hx
    obtain ⟨p, ws, rfl, sq, qw⟩ := R.list hx r
    obtain ⟨its, rw1, hl, hz⟩ := I.list sq
    rw [Vals.ref1 rv]
    have hh : X.A.handled = none := I.ok.hd hu
    refine call_reversed_list hl.isList ?_
    obtain ⟨ol, gol, _⟩ := id hl.isList
    have ll : p < s.heap.objs.size := Heap.lt_size gol
    have sz1 : (s.heap.push (revObj p ((its.toArray.size : Int) - 1))).objs.size = s.heap.objs.size + 1 := Heap.size_push _ _
    refine list_rev (s := { s with heap := s.heap.push (revObj p ((its.toArray.size : Int) - 1)) }) hh ⟨_, Heap.get?_push_size _ rfl, rfl, rfl⟩ (hl.isList.push _) (Nat.ne_of_lt ll) (by rw [List.size_toArray, ← rw1.length]; exact hz) fun h' tk acc c ho hi kk => ?_
    have old : ∀ b o, s.heap.get? b = some o → h'.get? b = some o := fun b o eb => kk b o (Nat.ne_of_lt (Heap.lt_size eb)) (Heap.get?_push_of_some _ eb)
    have hp : s.heap.objs.size ≤ (s.heap.push (revObj p ((its.toArray.size : Int) - 1))).objs.size := by rw [sz1]; exact Nat.le_succ _
    have hl2 : ws.reverse.length ≤ sizeLine := by rw [List.length_reverse]; exact hz
    exact ⟨.ref _, L2.upd H _ (.lst ws.reverse), I.laid (t' := tk) old hp ⟨hl2, acc.toList, c, RT.vals_rev rw1 hi, by rw [Array.toArray_toList]; exact ho⟩, rfl, dn.lst R e qw.reverse (I.hok.fresh hp)⟩
  · cases e
end
end VI

/-! VIc19: dict(list of pairs); zip. -/
namespace VI
open PySem PySem.Spec PyProof.Rows L2
section
variable {X : Cx} {m : Bool}
theorem putK_nodup {l : List (Key × V)} {k : Key} {v : V} (nd : (l.map (·.1)).Nodup) : ((putK l k v).map (·.1)).Nodup := by
  unfold putK
  split
  · have : (l.map fun kv => if kv.1 = k then (kv.1, v) else kv).map (·.1) = l.map (·.1) := by
      rw [List.map_map]
      refine List.map_congr_left fun kv _ => ?_
      simp only [Function.comp]
      split <;> rfl
    rw [this]
    exact nd
  · rename_i h
    rw [List.map_append, List.nodup_append]
    refine ⟨nd, by simp, fun x hx y hy e => h ?_⟩
    simp only [List.map_cons, List.map_nil, List.mem_singleton] at hy
    subst hy e
    obtain ⟨kv, h1, h2⟩ := List.mem_map.mp hx
    rw [List.any_eq_true]
    exact ⟨kv, h1, by simpa using h2⟩
theorem merge_rep {P : Program} {w : World} {K : PySem.W.Frag} {Z : Hp} {β : List Addr} : ∀ {more : List (D × D)} {ml : List (Key × V)} {acc : List (D × D)} {al : List (Key × V)}, RepK P w K Z β more ml → RepK P w K Z β acc al → (al.map (·.1)).Nodup → RepK P w K Z β (mergeD acc more) (mergeK al ml)
  | [], ml, acc, al, h, q, nd => by
    simp only [RepK] at h
    subst h
    exact q
  | (k, x) :: r, ml, acc, al, h, q, nd => by
    simp only [RepK] at h
    obtain ⟨kk, v, s, rfl, hk, rx, hr⟩ := h
    have := merge_rep hr (put_K hk rx q nd) (putK_nodup (k := kk) (v := v) nd)
    simpa only [mergeD, mergeK, List.foldl_cons] using this
theorem flatK_key {k : D} (h : flatK k = true) : ∃ kk, keyD k = some kk := by
  cases k <;> simp [flatK] at h <;> exact ⟨_, rfl⟩
theorem pairs_rep {P : Program} {w : World} {K : PySem.W.Frag} {Z : Hp} {β : List Addr} {H : Hp} (z : ZLe Z H) : ∀ {xs : List D} {vs : List V} {kvs : List (D × D)}, RepL P w K Z β xs vs → pairsOf xs = some kvs →
    ∃ (ps : List Addr) (l : List (Key × V)), vs = ps.map V.ref ∧ Paired (fun p kv => SqT K H p [kV kv.1, kv.2]) ps l ∧ RepK P w K Z β kvs l
  | [], vs, kvs, q, h => by
    simp only [RepL] at q
    subst q
    cases h
    exact ⟨[], [], rfl, .nil, by simp only [RepK]⟩
  | x :: r, vs, kvs, q, h => by
    simp only [RepL] at q
    obtain ⟨v, s, rfl, rv, rs⟩ := q
    unfold pairsOf at h
    split at h
    · simp_all
    · rename_i k y r' e
      cases e
      split at h
      · rename_i s' hs
        split at h
        · rename_i hf
          cases h
          obtain ⟨ps, l, rfl, pp, qq⟩ := pairs_rep z rs hs
          obtain ⟨kk, hk⟩ := flatK_key hf
          simp only [RepV] at rv
          obtain ⟨a, ws, rfl, sq, qw⟩ := rv
          obtain ⟨u1, u2, rfl, r1, r2⟩ := two_rep qw
          have e1 := kV_of hk r1
          subst e1
          exact ⟨a :: ps, (kk, u2) :: l, rfl, .cons (SqT.le z sq) pp, by simp only [RepK]; exact ⟨kk, u2, l, rfl, hk, r2, qq⟩⟩
        · cases h
      · cases h
    · cases h
theorem Done.dct {P : Program} {w : World} {K : PySem.W.Frag} {mg : Str → Option Value} {Φ : List (Addr × HO)} {Z : Hp} {β : List Addr} {U U' : Store} {H : Hp} {d : D} {Q : VK} {m : Bool} {kvs : List (D × D)} {l : List (Key × V)} (h : Done P w K mg Φ Z β d U' Q) (R : Rel P w K mg Φ Z β U H) (e : mkD m 0 kvs U = some (.ok d U')) (r : RepK P w K Z β kvs l) {p : Addr} (hp : H p = none) : Q (.ref p) (L2.upd H p (.dK l)) := by
  unfold mkD at e
  split at e
  · cases e
    obtain ⟨R', b'⟩ := R.push hp (u := .dK l) (o := .dct 0 kvs) (.inl ⟨rfl, l, L2.upd_same, RepK.mono (ZLe.refl _) ⟨[p], rfl⟩ r⟩)
    refine h Z _ _ (.ref p) (ZLe.refl _) b' R' ?_
    simp only [RepV]
    exact ⟨p, rfl, by rw [← R.len]; simp⟩
  · cases e
    obtain ⟨R', z'⟩ := R.froze hp (.dK l)
    refine h _ β _ (.ref p) z' (BLe.refl _) R' ?_
    simp only [RepV]
    exact ⟨p, rfl, .inl ⟨trivial, l, L2.upd_same, RepK.mono z' (BLe.refl _) r⟩⟩
theorem c_dict1 (hc : X.calm = true) : CallR X (.type "dict") (rP X .dict1 m) := by
  refine fun1 (call_dictP hc) (fun ds U d U' e => ?_) fun Φ Z β U x d U' v H Q R r e dn => ?_
  · unfold prim at e
    split at e <;> first | exact ⟨_, rfl⟩ | simp_all
  · rw [prim] at e
    split at e
    · rename_i xs hx
      split at e
      · rename_i kvs hk
        obtain ⟨p, vs, rfl, sq, q⟩ := R.list hx r
        obtain ⟨ps, l, rfl, pp, qq⟩ := pairs_rep R.zle q hk
        have mr := merge_rep (acc := []) (al := []) qq (by simp only [RepK]) List.nodup_nil
        exact ⟨p, ps, l, rfl, sq, pp, fun p' hp' => dn.dct R e mr hp'⟩
      · cases e
    · cases e
end
/-! ### zip -/
theorem zip_get : ∀ {gs hs : List (Store → Option D)} {i : Nat} {g : Store → Option D}, (zipS gs hs)[i]? = some g → ∃ g0 h0, gs[i]? = some g0 ∧ hs[i]? = some h0 ∧ ∀ U y, g U = some y → ∃ x z, g0 U = some x ∧ h0 U = some z ∧ y = .tup [x, z]
  | [], hs, i, g, e => by simp [zipS] at e
  | _ :: _, [], i, g, e => by simp [zipS] at e
  | g0 :: r, h0 :: s, 0, g, e => by
    simp only [zipS, List.getElem?_cons_zero, Option.some.injEq] at e
    subst e
    refine ⟨g0, h0, rfl, rfl, fun U y hy => ?_⟩
    dsimp only at hy
    split at hy
    · rename_i x z e1 e2
      cases hy
      exact ⟨x, z, e1, e2, rfl⟩
    · cases hy
  | g0 :: r, h0 :: s, i + 1, g, e => by
    simp only [zipS, List.getElem?_cons_succ] at e
    obtain ⟨a, b, e1, e2, q⟩ := zip_get e
    exact ⟨a, b, by simpa using e1, by simpa using e2, q⟩
theorem zip_len : ∀ {gs hs : List (Store → Option D)}, (zipS gs hs).length = min gs.length hs.length
  | [], hs => by simp [zipS]
  | _ :: _, [] => by simp [zipS]
  | _ :: r, _ :: s => by simp only [zipS, List.length_cons, zip_len (gs := r) (hs := s)]; omega
section
variable {P : Program} {w : World} {K : PySem.W.Frag} {mg : Str → Option Value} {Z : Hp} {β : List Addr} {a b : Addr}
theorem walk_zip {s t : Src} (h1 : LstSrc P w K mg Z β a s) (h2 : LstSrc P w K mg Z β b t) : WalkV P w K mg Z β (Itz K a b) ⟨zipS s.get t.get, fun V => s.fin V && t.fin V⟩ := by
  refine ⟨fun i g e Φ Z' β' U H y z b R hg => ?_, fun Φ Z' β' U H z b R hf => ?_⟩
  · obtain ⟨g0, h0, e1, e2, q⟩ := zip_get e
    obtain ⟨x1, x2, y1, y2, rfl⟩ := q U y hg
    obtain ⟨vs, v, s1, f1, r1⟩ := h1.get i g0 e1 Φ Z' β' U H x1 z b R y1
    obtain ⟨us, u, s2, f2, r2⟩ := h2.get i h0 e2 Φ Z' β' U H x2 z b R y2
    refine ⟨⟨vs, us, v, u, s1, s2, f1, f2⟩, fun v' H' ⟨T, x, y, y1, hT, y2, y3, y4⟩ => ?_⟩
    have q1 := y3 vs s1
    have q2 := y4 us s2
    rw [f1] at q1
    rw [f2] at q2
    cases q1
    cases q2
    subst y1 y2
    exact R.mkT (RepL.cons r1 (RepL.cons r2 RepL.nil)) hT
  · simp only [Bool.and_eq_true] at hf
    obtain ⟨vs, s1, e1⟩ := h1.fin Φ Z' β' U H z b R hf.1
    obtain ⟨us, s2, e2⟩ := h2.fin Φ Z' β' U H z b R hf.2
    refine ⟨vs, us, s1, s2, ?_⟩
    simp only [zip_len]
    omega
theorem walk_zipT {xs ys : List D} (r1 : RepV P w K Z β (.tup xs) (.ref a)) (r2 : RepV P w K Z β (.tup ys) (.ref b)) : WalkV P w K mg Z β (RZ.ItzT K a b) ⟨zipS (fixS xs).get (fixS ys).get, fun V => (fixS xs).fin V && (fixS ys).fin V⟩ := by
  obtain ⟨vs, s1, q1⟩ := tup_at r1
  obtain ⟨us, s2, q2⟩ := tup_at r2
  refine ⟨fun i g e Φ Z' β' U H y z b R hg => ?_, fun Φ Z' β' U H z b R hf => ?_⟩
  · obtain ⟨g0, h0, e1, e2, q⟩ := zip_get e
    obtain ⟨x1, x2, y1, y2, rfl⟩ := q U y hg
    obtain ⟨d1, f1, k1⟩ := fix_get e1
    obtain ⟨d2, f2, k2⟩ := fix_get e2
    rw [k1] at y1
    rw [k2] at y2
    cases y1
    cases y2
    obtain ⟨v, g1, p1⟩ := q1.get f1
    obtain ⟨u, g2, p2⟩ := q2.get f2
    have s1' := SqT.le R.zle (SqT.le z s1)
    have s2' := SqT.le R.zle (SqT.le z s2)
    refine ⟨⟨vs, us, v, u, s1', s2', g1, g2⟩, fun v' H' ⟨T, x, y, y1, hT, y2, y3, y4⟩ => ?_⟩
    have q1 := y3 vs s1'
    have q2 := y4 us s2'
    rw [g1] at q1
    rw [g2] at q2
    cases q1
    cases q2
    subst y1 y2
    exact R.mkT (RepL.cons (RepV.mono z b p1) (RepL.cons (RepV.mono z b p2) RepL.nil)) hT
  · refine ⟨vs, us, SqT.le R.zle (SqT.le z s1), SqT.le R.zle (SqT.le z s2), ?_⟩
    have l1 := q1.length
    have l2 := q2.length
    simp only [zip_len, fixS, List.length_map]
    omega
end
end VI

/-! VIc20: rstrip; range with a step; enumerate(.., start=k). -/
namespace VI
open PySem PySem.Spec PyProof.Rows L2
theorem sign_space : ∀ c : Nat, isSign c = true → Unicode.isSpace c = decide (c = 32) := by
  intro c h
  unfold isSign at h
  simp only [Bool.and_eq_true, decide_eq_true_eq] at h
  have key : ∀ c : Fin 127, 32 ≤ c.val → Unicode.isSpace c.val = decide (c.val = 32) := by decide +kernel
  exact key ⟨c, by omega⟩ h.1
theorem takeWhile_same {p q : Nat → Bool} : ∀ l : List Nat, (∀ x ∈ l, p x = q x) → l.takeWhile p = l.takeWhile q
  | [], _ => rfl
  | x :: r, h => by
    rw [List.takeWhile_cons, List.takeWhile_cons, h x (by simp), takeWhile_same r fun y hy => h y (by simp [hy])]
theorem rstrip_eq {x : Tx} (h : x.all isSign = true) : Txt.rstrip ⟨x.toArray⟩ = ⟨(rstripT x).toArray⟩ := by
  unfold Txt.rstrip
  rw [stripBy_eq]
  have hs : x.reverse.takeWhile Unicode.isSpace = x.reverse.takeWhile fun c => decide (c = 32) := takeWhile_same _ fun c hc => by
    rw [List.all_eq_true] at h
    exact sign_space c (h c (by simpa using hc))
  have hlo : stripLo Unicode.isSpace false (⟨x.toArray⟩ : Str) = 0 := rfl
  have hhi : stripHi Unicode.isSpace true (⟨x.toArray⟩ : Str) 0 = x.length - (x.reverse.takeWhile fun c => decide (c = 32)).length := by
    unfold stripHi
    simp only [if_true, List.drop_zero]
    rw [hs]
    simp [Str.length]
  rw [hlo, hhi]
  unfold Builtin.Str.strSub rstripT
  congr 1
  have e : x = (x.reverse.dropWhile fun c => decide (c = 32)).reverse ++ (x.reverse.takeWhile fun c => decide (c = 32)).reverse := by
    rw [← List.reverse_append, List.takeWhile_append_dropWhile, List.reverse_reverse]
  generalize hA : (x.reverse.dropWhile fun c => decide (c = 32)).reverse = A at e
  generalize hB : x.reverse.takeWhile (fun c => decide (c = 32)) = B at e
  have hl : x.length - B.length = A.length := by
    rw [e]
    simp
  rw [hl]
  apply Array.ext'
  rw [Array.toList_extract]
  simp only [List.extract_eq_drop_take, List.drop_zero, Nat.sub_zero]
  rw [e]
  simp
section
variable {X : Cx} {m : Bool}
theorem m_rstrip : MtR X "str.rstrip" (rM X .rstrip m) := by
  refine MtR.imp mt_rstrip ?_
  rintro v vs H Q ⟨Φ, Z, β, U, a, ds, d', U', R, ra, q, e, dn⟩
  have sh : ∃ x, a = .str x ∧ ds = [] := by
    unfold prim at e
    split at e <;> first
      | (rename_i x; exact ⟨x, by simp_all, by simp_all⟩)
      | simp_all
  obtain ⟨x, rfl, rfl⟩ := sh
  rw [prim] at e
  split at e
  · rename_i hx
    obtain ⟨rfl, rfl⟩ := ok_inj e
    simp only [RepL] at q
    subst q
    simp only [RepV] at ra
    subst ra
    refine ⟨_, rfl, rfl, ?_, ?_⟩
    · have := hx.2
      show x.toArray.size ≤ _
      rw [List.size_toArray]
      exact this
    · rw [rstrip_eq hx.1]
      exact dn.str R
  · cases e
end
/-! ### range with a step -/
section
variable {P : Program} {w : World} {K : PySem.W.Frag} {mg : Str → Option Value} {Z : Hp} {β : List Addr}
theorem walk_range3 {lo c : Int} {n : Nat} : WalkV P w K mg Z β (Itc lo c n) (fixS ((List.range n).map fun (k : Nat) => D.int (lo + (k : Int) * c))) := by
  refine ⟨fun i g e Φ Z' β' U H y z b R hg => ?_, fun Φ Z' β' U H z b R hf => ?_⟩
  · obtain ⟨d, e1, e2⟩ := fix_get e
    rw [e2] at hg
    cases hg
    simp only [List.getElem?_map, Option.map_eq_some_iff] at e1
    obtain ⟨k, e1, rfl⟩ := e1
    have hi : i < n := by simpa using (List.getElem?_eq_some_iff.mp e1).1
    rw [List.getElem?_range hi] at e1
    cases e1
    refine ⟨hi, fun v' H' ⟨y1, y2⟩ => ?_⟩
    subst y1
    exact ⟨Z', ZLe.refl _, R, by simp only [RepV]; exact y2⟩
  · show n ≤ _
    simp [fixS]
end
theorem rg_size {i j c : Int} (h0 : 0 < c) : Builtin.Range.rangeSize i j c = (((j - i + c - 1) / c).toNat : Int) := by
  unfold Builtin.Range.rangeSize
  rw [if_pos h0]
  split
  · rename_i h
    have e : (j - i + c - 1) = (j - i - 1) + c := by omega
    rw [e, Int.add_ediv_of_dvd_right (Int.dvd_refl c), Int.ediv_self (by omega)]
    have : 0 ≤ (j - i - 1) / c := Int.ediv_nonneg (by omega) (by omega)
    omega
  · rename_i h
    have h2 : (j - i + c - 1) / c < 1 := Int.ediv_lt_of_lt_mul h0 (by omega)
    omega
theorem rg_pos {i j c : Int} (hi : small i = true) (hj : small j = true) (h0 : 0 < c) (h1 : c ≤ 1000) : RgC i j c ((j - i + c - 1) / c).toNat := by
  unfold small at hi hj
  simp only [Bool.and_eq_true, decide_eq_true_eq] at hi hj
  have sz := rg_size (i := i) (j := j) h0
  have up : (j - i + c - 1) / c ≤ 2000000000 := by
    have : (j - i + c - 1) / c < 2000000001 := by
      refine Int.ediv_lt_of_lt_mul h0 ?_
      have : (2000000001 : Int) * 1 ≤ 2000000001 * c := Int.mul_le_mul_of_nonneg_left (by omega) (by decide)
      have h3 : (2000000001 : Int) * c = 2000000000 * c + c := by omega
      have h4 : (2000000000 : Int) * 1 ≤ 2000000000 * c := Int.mul_le_mul_of_nonneg_left (by omega) (by decide)
      omega
    omega
  refine ⟨by omega, by omega, ?_, sz⟩
  unfold Builtin.Range.small
  rw [sz]
  simp only [Builtin.Range.rangeFitsLong, Bool.and_eq_true, Bool.or_eq_true, decide_eq_true_eq, beq_iff_eq]
  rw [if_pos h0, Bool.and_eq_true, decide_eq_true_eq, decide_eq_true_eq]
  omega
section
variable {X : Cx} {C : Cal} {W : WX} {e e1 e2 e3 : Expr} {a b : IE} {pos p tpos : Pos} {tg : Expr} {elts : List Expr} {kk : Nat} {c : Int}
theorem a_three {t1 t2 t3 : TE} (ht : tame e1 = true) (ht2 : tame e2 = true) (ht3 : tame e3 = true) (ha : PE X e1 t1) (hb : PE X e2 t2) (hc : PE X e3 t3) : PA X [e1, e2, e3] (tCons t1 (tCons t2 (tCons t3 tNil))) :=
  pa_cons ha (pa_cons hb (pa_cons hc pa_nil (star_tame ht3 [] _)) (star_tame ht2 [e3] _)) (star_tame ht [e2, e3] _)
theorem i_range3 (hg : Gl X "range") (hm : X.mg "range" = none) (ht : tame e1 = true) (ht2 : tame e2 = true) (ht3 : tame e3 = true) (ha : PE X e1 (xE X C W a)) (hb : PE X e2 (xE X C W b)) (hc : PE X e3 (xE X C W (.cst (.int c)))) :
    PI X tg (.Call (.Name "range" p) [e1, e2, e3] [] pos) (xI X C W (.range3 a b c)) := by
  refine ⟨fun pins s σ H R' I ⟨Φ, Z, β, ρ, U, r, S, R, h, o⟩ => (pi_range3 hg hm (a_three ht ht2 ht3 ha hb hc) (star_tame ht [e2, e3] _) (by rw [star_tame ht2, star_tame ht3]; rfl)).run pins s σ H R' I ?_⟩
  rw [evIt] at h
  refine tE_bndI S R h o fun Z1 β1 H1 d v U1 z1 b1 R1 r1 S1 h1 o1 => ?_
  refine tE_bndI S1 R1 h1 o1 fun Z2 β2 H2 d2 v2 U2 z2 b2 R2 r2 S2 h2 o2 => ?_
  have h2' : bnd (ev C (.cst (.int c)) ρ U2) (fun z U3 => if z = .int c then (match d, d2 with
    | .int i, .int j => if small i && small j && decide (0 < c) && decide (c ≤ 1000) then some (.ok (fixS ((List.range ((j - i + c - 1) / c).toNat).map fun (k : Nat) => D.int (i + (k : Int) * c))) U3) else none
    | _, _ => none) else none) = some r := by
    simp only [ev, bnd_ok, if_true]
    exact h2
  refine tE_bndI S2 R2 h2' o2 fun Z3 β3 H3 d3 v3 U3 z3 b3 R3 r3 S3 h3 o3 => ?_
  split at h3
  · rename_i e3
    subst e3
    split at h3
    · rename_i i j
      split at h3
      · rename_i hi
        cases h3
        simp only [Bool.and_eq_true, decide_eq_true_eq] at hi
        simp only [RepV] at r1 r2 r3
        subst r1 r2 r3
        exact ⟨i, j, c, _, rfl, rg_pos hi.1.1.1 hi.1.1.2 hi.1.2 hi.2, o3.ok Z3 β3 H3 _ (ZLe.refl _) (BLe.refl _) R3 walk_range3⟩
      · cases h3
    · cases h3
  · cases h3
end
/-! ### extend -/
section
variable {X : Cx} {m : Bool}
theorem m_extend : MtR X "list.extend" (rM X .extend m) := by
  refine MtM.imp mt_extend ?_
  rintro v vs H Q ⟨Φ, Z, β, U, a, ds, d', U', R, ra, q, e, dn⟩
  have sh : ∃ n k, a = .ref n ∧ ds = [.ref k] := by
    unfold prim at e
    split at e <;> first
      | (rename_i n k; exact ⟨n, k, by simp_all, by simp_all⟩)
      | simp_all
  obtain ⟨n, k, rfl, rfl⟩ := sh
  rw [prim] at e
  split at e
  · rename_i xs ys hu hk
    split at e
    · rename_i hz
      obtain ⟨rfl, rfl⟩ := ok_inj e
      obtain ⟨u, rfl, ru⟩ := one_rep q
      obtain ⟨p, ws, rfl, e1, h1, h2⟩ := mut_at R ra hu
      obtain ⟨p2, ws2, rfl, e3, h3, h4⟩ := mut_at R ru hk
      exact ⟨p, p2, ws, ws2, rfl, rfl, h1, h3, by rw [← h2.length, ← h4.length, ← SZ_eq]; exact hz, dn.non (mut_done R e1 (h2.append h4))⟩
    · cases e
  · cases e
end
/-! ### enumerate from k -/
section
variable {prog : Program} {w : World} {A : Around} {E : Value → Shared → Prop} {s : Shared}
theorem enum_endK {e it l : Addr} {i : Nat} {c : Int} {items : Array Value} {old : Value} {Q : Option Value → Shared → Prop} (hh : A.handled = none)
    (he : IsEnum s.heap e it c old) (hit : s.heap.IsListIter it l i) (hl : s.heap.IsList l items) (hx : items[i]? = none)
    (hQ : ∀ h', Heap.ExtBut it s.heap h' → Q none { s with heap := h' }) : wpAny (model prog w) A (pyNext (.ref e)) Q E s := by
  have hT : s.TypeIs (.ref e) "enumerate" := ⟨_, he, rfl⟩
  unfold pyNext
  refine wpAny_bind (wpAny_attempt (wpAny_callSpecial?_slot (name := Str.ofString "__next__") hT F.slot_enumerate_next
    (wpAny_call_entry F.slot_enumerate_next hT F.entry_enumerate_next ?_ (F.args_enumerate_next_1 _))))
  show wpAny _ _ (field (.ref e) 2 >>= _) _ _ _
  refine wpAny_bind (wpAny_field he rfl (x := .ref it) rfl ?_)
  refine wpAny_bind (wpAny_nextOf_list_end hh hit hl hx fun h' x he' hx' => ?_)
  obtain ⟨o, ho, hc⟩ := hx'
  refine wpAny_bind (wpAny_isInstance (T := "StopIteration") (b := true) ⟨o, ho, hc⟩ isSubtype_stop ?_)
  exact wpAny_pure (hQ _ he')
end
section
variable {M : Model} {A : Around} {E : Value → Shared → Prop} {s : Shared} {env : Env}
theorem callWith_typeKw {pos : Pos} {T : String} {e : Expr} {rest : List Expr} {kws : List Keyword} {Q : Value → Shared → Prop}
    (h : wpAny M A (spliced (backTo pos (starEach (e :: rest) env))) (fun vs s₁ => wpAny M A (evalAll ((backToKw pos (keywordEach kws env)).map (·.2)))
      (fun kvs s₂ => wpAny M A (call (.type T) vs (((backToKw pos (keywordEach kws env)).filterMap (·.1)).zip kvs)) Q E s₂) E s₁) E s)
    (he : backTo pos (starEach (e :: rest) env) = (false, eval e env) :: backTo pos (starEach rest env))
    (hplain : (backTo pos (starEach (e :: rest) env)).any (·.1) = false)
    (hall : (backToKw pos (keywordEach kws env)).all (·.1.isSome) = true)
    (hkw : (backToKw pos (keywordEach kws env)).any (·.1.isNone) = false) :
    wpAny M A (callWith pos (.type T) [] (backTo pos (starEach (e :: rest) env)) (backToKw pos (keywordEach kws env))) Q E s := by
  unfold callWith
  have h2 : wpAny M A (evalArgs (.type T) true (backTo pos (starEach (e :: rest) env)) (backToKw pos (keywordEach kws env))) (fun a s₁ => wpAny M A (call (.type T) ([] ++ a.pos) a.kw) Q E s₁) E s := by
    rw [he] at h ⊢
    exact evalArgs_kwB hall h
  refine wpAny_bind (wpAny_holding (wpAny_mono h2 (fun a s₁ h₁ => wpAny_bind (wpAny_standAt ?_)) fun _ _ x => x))
  simp only [hplain, hkw, Bool.or_false]
  refine wpAny_bind (wpAny_pure ?_)
  exact wpAny_bind (wpAny_mono h₁ (fun r s₂ hr => wpAny_bind (wpAny_holding (wpAny_point (wpAny_pure hr)))) fun _ _ x => x)
end
def ItK (K : PySem.W.Frag) (k : Int) (a : Addr) : L2.It :=
  ⟨fun i H => ∃ (xs : List V) (x : V), SqL K H a xs ∧ xs[i]? = some x, fun i H v H' => ∃ T x, v = .ref T ∧ H T = none ∧ H' = L2.upd H T (.tup [.int (k + (i : Nat)), x]) ∧ ∀ xs, SqL K H a xs → xs[i]? = some x, fun i H => ∃ xs : List V, SqL K H a xs ∧ xs.length ≤ i⟩
theorem turn_enumK {P : Program} {w : World} {K : PySem.W.Frag} {elts : List Expr} {kk : Nat} {tpos : Pos} (k : Int) (a e it : Addr) :
    Turn P w K (.Tuple elts kk tpos) (ItK K k a) [e, it] e (fun i h => (∃ old, IsEnum h e it (k + (i : Nat)) old) ∧ h.IsListIter it a i ∧ e ≠ it) where
  mem := by simp
  obj := fun i h st b hb => by
    obtain ⟨⟨old, he⟩, ⟨o, ho, hc, hd⟩, _⟩ := st
    have e' : b = e ∨ b = it := by simpa using hb
    rcases e' with z | z
    · rw [z]; exact ⟨_, he, fun v q => nomatch q⟩
    · rw [z]; exact ⟨o, ho, fun v q => by rw [hd] at q; cases q⟩
  keep := fun i h h' st k => let ⟨⟨old, he⟩, hi, hne⟩ := st; ⟨⟨old, k e (by simp) _ he⟩, hi.at fun o q => k it (by simp) o q, hne⟩
  item := by
    intro X hP hw hK hc i pins s σ H E I hf st hg
    subst hP hw hK
    obtain ⟨⟨old, he⟩, hit, hne⟩ := st
    obtain ⟨xs, x, hq, hx⟩ := hg
    obtain ⟨its, rv, p, hz⟩ := I.list hq
    obtain ⟨u, hu, ru⟩ := rv.get hx
    have hel : e < s.heap.objs.size := Heap.lt_size he
    have hil : it < s.heap.objs.size := by obtain ⟨_, q, _⟩ := hit; exact Heap.lt_size q
    have hh : X.A.handled = none := I.ok.hd hc
    have il := p.isList
    have nal : a ≠ it := fun q => by
      subst q
      obtain ⟨o1, g1, c1, _⟩ := id il
      obtain ⟨o2, g2, c2, _⟩ := id hit
      rw [g1] at g2
      cases g2
      rw [c1] at c2
      exact absurd c2 (by decide)
    have nae : a ≠ e := fun q => by
      subst q
      obtain ⟨o1, g1, c1, _⟩ := id il
      rw [show s.heap.get? a = _ from he] at g1
      cases g1
      have c2 : Value.type "enumerate" = Value.type "list" := c1
      exact absurd c2 (by decide)
    have iln : i < its.toArray.size := by
      have := (List.getElem?_eq_some_iff.mp hu).1
      rw [List.size_toArray]
      exact this
    refine wpAny_pyNext_enum_itemC (Draws.list (A := X.A.in1) (by simp [hh]) it a nal its.toArray) he ⟨hit, il⟩ iln hne (by simp only [List.mem_cons, List.not_mem_nil, or_false, not_or]; exact ⟨hne, Ne.symm nae⟩) fun x' h' tk hx' ho st' hT hsz hk => ?_
    have hxu : x' = u := by
      have h1 : its.toArray[i]? = some u := by simpa using hu
      rw [h1] at hx'
      exact (Option.some.inj hx').symm
    subst hxu
    refine ⟨_, rfl, wpAny_letOwnedTupleGo_enum (s := { s with heap := h', toks := tk + 1 }) ho fun h'' he' sb => ?_⟩
    have hT2 : h''.get? s.heap.objs.size = some { cls := .type "tuple", data := .seq #[.int (k + (i : Nat)) tk, x'] } := (sb.2 _ (Nat.ne_of_gt hel)).trans hT
    have new : ObjOk X.prog X.w (L2.upd H s.heap.objs.size (.tup [.int (k + (i : Nat)), x])) h'' s.heap.objs.size (.tup [.int (k + (i : Nat)), x]) :=
      ⟨by show 2 ≤ sizeLine; decide, [.int (k + (i : Nat)) tk, x'], .cons ⟨_, rfl⟩ (.cons ru .nil), ⟨_, hT2, rfl, _, rfl⟩⟩
    have I1 : Inv X pins σ (L2.upd H s.heap.objs.size (.tup [.int (k + (i : Nat)), x])) { s with heap := h'', toks := tk + 1 } :=
      I.turnedNew (ch := [e, it]) (fun b ob hb q => (sb.2 b (fun z => hb (by simp [z]))).trans (hk b ob (fun z => hb (by simp [z])) (fun z => hb (by simp [z])) q)) hf (Nat.le_refl _) new
    refine ⟨.ref s.heap.objs.size, _, I1, rfl, ⟨_, x, rfl, I.hok.fresh (Nat.le_refl _), rfl, fun ys hy => by rw [I.list_inj hy hq]; exact hx⟩, ⟨⟨x', ?_⟩, st'.1.at fun o q => (sb.2 it (Ne.symm hne)).trans q, hne⟩, fun b hb => ?_⟩
    · have e1 : k + ((i + 1 : Nat) : Int) = k + (i : Int) + 1 := by omega
      rw [e1]; exact he'
    · have hb' : b < s.heap.objs.size := by
        have e' : b = e ∨ b = it := by simpa using hb
        rcases e' with z | z
        · rw [z]; exact hel
        · rw [z]; exact hil
      rw [L2.upd_ne (Nat.ne_of_lt hb')]
      exact (hf b hb).1
  done := by
    intro X hP hw hK hc i pins s σ H E I hf st hg
    subst hP hw hK
    obtain ⟨⟨old, he⟩, hit, hne⟩ := st
    obtain ⟨xs, hq, hx⟩ := hg
    obtain ⟨its, rv, p, hz⟩ := I.list hq
    obtain ⟨f0, f1, f2, f3, f4, f5⟩ := hf it (by simp)
    have hl := rv.length
    exact enum_endK (I.ok.hd hc) he hit p.isList (by simp; omega) fun h' eb => ⟨rfl, I.turned (t' := s.toks) (fun b o hb q => eb b o hb q) f0 f1 f3 f4 f5⟩
  self := fun A i s Q E st h => let ⟨⟨_, he⟩, _⟩ := st; wpAny_pyIter_enum he h
theorem walk_enumK {P : Program} {w : World} {K : PySem.W.Frag} {mg : Str → Option Value} {Z : Hp} {β : List Addr} {a : Addr} {src : Src} {k : Int} (h : LstSrc P w K mg Z β a src) : WalkV P w K mg Z β (ItK K k a) ⟨enumS k 0 src.get, src.fin⟩ := by
  refine ⟨fun i g e Φ Z' β' U H x z b R hg => ?_, fun Φ Z' β' U H z b R hf => ?_⟩
  · obtain ⟨g0, e0, q0⟩ := enum_get e
    rw [q0, Option.map_eq_some_iff] at hg
    obtain ⟨y, hy, rfl⟩ := hg
    obtain ⟨vs, v, s, e1, r⟩ := h.get i g0 e0 Φ Z' β' U H y z b R hy
    refine ⟨⟨vs, v, s, e1⟩, fun v' H' ⟨T, x, y1, hT, y2, y3⟩ => ?_⟩
    have := y3 vs s
    rw [e1] at this
    cases this
    subst y1 y2
    have q : RepL P w K Z' β' [D.int (k + ((0 + i : Nat) : Int)), y] [V.int (k + (i : Nat)), v] := by
      refine RepL.cons ?_ (RepL.cons r RepL.nil)
      simp only [RepV]
      simp
    obtain ⟨Z2, z2, R2, r2⟩ := R.mkT q hT
    exact ⟨Z2, z2, R2, r2⟩
  · obtain ⟨vs, s, e1⟩ := h.fin Φ Z' β' U H z b R hf
    exact ⟨vs, s, by rw [e1]; simp [enum_len]⟩
section
variable {X : Cx} {C : Cal} {W : WX} {e e2 : Expr} {a : IE} {pos p tpos kpos : Pos} {elts : List Expr} {kk : Nat} {k : Int}
theorem i_enumK (hk : k = 1) (hg : Gl X "enumerate") (hm : X.mg "enumerate" = none) (ht : tame e = true) (ha : PE X e (xE X C W a)) (hc : PE X e2 (xE X C W (.cst (.int k)))) :
    PI X (.Tuple elts kk tpos) (.Call (.Name "enumerate" p) [e] [⟨some "start", e2, kpos⟩] pos) (xI X C W (.enum a k)) := by
  refine ⟨fun pins s σ H R' I ⟨Φ, Z, β, ρ, U, r, S, R, h, o⟩ => ?_⟩
  rw [evIt] at h
  refine wpAny_Call_Name_kw (ld_blt I hg hm boot_enumerate ?_)
  have st := star_tame ht [] X.env
  refine callWith_typeKw (env := X.env) (e := e) (rest := []) ?_ (by rw [st]; rfl) (by rw [st]; rfl) rfl rfl
  refine L2.thn ((a_one ht ha).run pos pins s σ H (fun vs H1 => ∃ d v U1 Z1 β1, vs = [v] ∧ Rel X.prog X.w X.K X.mg Φ Z1 β1 U1 H1 ∧ RepV X.prog X.w X.K Z1 β1 d v ∧ RepS X.prog X.w X.K Z1 β1 ρ σ ∧ (match srcL U1 d with
    | some s => if k = 0 ∨ k = 1 then some (.ok ⟨enumS k 0 s.get, s.fin⟩ U1) else none
    | none => (match d with
      | .tup xs => if k = 0 then some (.ok ⟨enumS 0 0 (fixS xs).get, (fixS xs).fin⟩ U1) else none
      | _ => none)) = some r ∧ Out X.prog X.w X.K X.mg W Φ Z1 β1 σ (fun src U' => DoneW X.prog X.w X.K X.mg Φ Z1 β1 src U' R') r) I ?_) fun us s1 ⟨vs, H1, I1, r1, d, v, U1, Z1, β1, ev1, R1, rd, S1, h1, o1⟩ => ?_
  · exact tE_bndI S R h o fun Z1 β1 H1 d v U1 z1 b1 R1 r1 S1 h1 o1 => ⟨d, v, U1, Z1, β1, rfl, R1, r1, S1, h1, o1⟩
  · subst ev1
    refine L2.thn ((pk_cons (nm := some "start") (kpos := kpos) hc pk_nil).run pos pins s1 σ H1 (fun zs H2 => ∃ Z2 β2, zs = [.int k] ∧ Rel X.prog X.w X.K X.mg Φ Z2 β2 U1 H2 ∧ RepV X.prog X.w X.K Z2 β2 d v ∧ Out X.prog X.w X.K X.mg W Φ Z2 β2 σ (fun src U' => DoneW X.prog X.w X.K X.mg Φ Z2 β2 src U' R') r) I1 ?_) fun ws s2 ⟨zs, H2, I2, rz, Z2, β2, ez, R2, rd2, o2⟩ => ?_
    · have h1' : bnd (ev C (.cst (.int k)) ρ U1) (fun z U3 => if z = .int k ∧ U3 = U1 then (match srcL U1 d with
        | some s => if k = 0 ∨ k = 1 then some (.ok ⟨enumS k 0 s.get, s.fin⟩ U1) else none
        | none => (match d with
          | .tup xs => if k = 0 then some (.ok ⟨enumS 0 0 (fixS xs).get, (fixS xs).fin⟩ U1) else none
          | _ => none)) else none) = some r := by
        simp only [ev, bnd_ok, and_self, if_true]
        exact h1
      refine tE_bndI S1 R1 h1' o1 fun Z2 β2 H2 d2 v2 U2 z2 b2 R2 r2 S2 h2 o2 => ?_
      split at h2
      · rename_i q
        obtain ⟨rfl, rfl⟩ := q
        simp only [RepV] at r2
        subst r2
        exact ⟨Z2, β2, rfl, R2, RepV.mono z2 b2 rd, o2⟩
      · cases h2
    · subst ez
      split at h1
      · rename_i src hs
        rw [if_pos (.inr hk)] at h1
        cases h1
        obtain ⟨l, vs, rfl, sq, ls⟩ := lstSrc R2 hs rd2
        obtain ⟨its, rv, p', hz⟩ := I2.list sq
        obtain ⟨u, rfl, ru⟩ := r1.one
        cases ru
        obtain ⟨kz, rfl, rk⟩ := rz.one
        obtain ⟨t, rfl⟩ := rk
        show wpAny _ _ (call (.type "enumerate") [.ref l] [(Str.ofString "start", .int k t)]) _ _ _
        refine enum_begins_start (begins_list l its.toArray) p'.isList (by omega) (by omega) fun h' he hit hsz hkp => wpAny_pyIter_enum he ?_
        have I3 : Inv X pins σ H2 { s2 with heap := h' } := I2.kept (t' := s2.toks) hkp
        have e0 : k + ((0 : Nat) : Int) = k := by omega
        refine ⟨s2.heap.objs.size + 1, [s2.heap.objs.size + 1, s2.heap.objs.size], _, _, H2, rfl, I3, turn_enumK k l (s2.heap.objs.size + 1) s2.heap.objs.size, ⟨⟨.none, by rw [e0]; exact he⟩, ⟨_, hit, rfl, rfl⟩, Nat.succ_ne_self _⟩, fun b hb => ?_, o2.ok Z2 β2 H2 _ (ZLe.refl _) (BLe.refl _) R2 (walk_enumK ls)⟩
        have e' : b = s2.heap.objs.size + 1 ∨ b = s2.heap.objs.size := by simpa using hb
        have hle : s2.heap.objs.size ≤ b := by
          rcases e' with z | z
          · rw [z]; exact Nat.le_add_right _ _
          · rw [z]; exact Nat.le_refl _
        exact I2.fpOk hle (I2.hok.fresh hle)
      · split at h1
        · rw [if_neg (by omega)] at h1
          cases h1
        · cases h1
end
end VI

/-! VIc21: zip of a text and a list. -/
namespace VI
open PySem PySem.Spec PyProof.Rows L2
section
variable {prog : Program} {w : World} {A : Around}
/-- a list's iterator that is at its end -/
theorem draws_end {it l : Addr} {i : Nat} {items : Array Value} (hh : A.handled = none) (hne : l ≠ it) (hx : items[i]? = none) : Draws prog w A it [it, l] i (fun _ _ => True) (fun j h => j = i ∧ h.IsListIter it l i ∧ h.IsList l items) where
  live := fun _ _ st => let ⟨o, ho, _⟩ := st.2.1; ⟨o, ho⟩
  frame := fun _ _ _ st hk => ⟨st.1, st.2.1.at fun o e => hk it (by simp) o e, st.2.2.at fun o e => hk l (by simp) o e⟩
  item := fun j s Q E hi st _ => absurd st.1 (Nat.ne_of_lt hi)
  done := fun s Q E st hE => wpAny_nextOf_list_end hh st.2.1 st.2.2 hx hE
/-- a text's iterator that is at its end -/
theorem draws_endS {it : Addr} {i : Nat} {x : Str} {t : Tok} (hh : A.handled = none) (hx : x.cps[i]? = none) : Draws prog w A it [it] i (fun _ _ => True) (fun j h => j = i ∧ h.IsStrIter it (strIterType x) x t i) where
  live := fun _ _ st => let ⟨o, ho, _⟩ := st.2; ⟨o, ho⟩
  frame := fun _ _ _ st hk => let ⟨o, ho, r⟩ := st.2; ⟨st.1, o, hk it (by simp) o ho, r⟩
  item := fun j s Q E hi st _ => absurd st.1 (Nat.ne_of_lt hi)
  done := fun s Q E st hE => by
    obtain ⟨_, st⟩ := st
    cases ha : x.cps.all (· < 128)
    · simp only [strIterType, ha, Bool.false_eq_true, if_false] at st
      exact wpAny_nextOf_wide_end hh st hx hE
    · simp only [strIterType, ha, if_true] at st
      exact wpAny_nextOf_ascii_end hh st hx hE
end
def ItSL (K : PySem.W.Frag) (x : Str) (b : Addr) : L2.It :=
  ⟨fun i H => ∃ (ys : List V) (y : V) (c : Nat), SqL K H b ys ∧ x.cps[i]? = some c ∧ ys[i]? = some y,
    fun i H v H' => ∃ T y c, v = .ref T ∧ H T = none ∧ H' = L2.upd H T (.tup [.str ⟨#[c]⟩, y]) ∧ x.cps[i]? = some c ∧ ∀ ys, SqL K H b ys → ys[i]? = some y,
    fun i H => ∃ ys : List V, SqL K H b ys ∧ (x.cps.size ≤ i ∨ ys.length ≤ i)⟩
theorem turn_zipSL {P : Program} {w : World} {K : PySem.W.Frag} {elts : List Expr} {kk : Nat} {tpos : Pos} {x : Str} {t : Tok} {b z TI TO i1 i2 : Addr} (D : ZipSep2 z TI TO i1 i2 [i1] [i2, b]) :
    Turn P w K (.Tuple elts kk tpos) (ItSL K x b) [z, TI, TO, i1, i2] z (fun i h => IsZip h z TI TO .none ∧ IsTupOf2 h TI (.ref i1) (.ref i2) ∧ (∃ x y, IsTupOf2 h TO x y) ∧ h.IsStrIter i1 (strIterType x) x t i ∧ h.IsListIter i2 b i) where
  mem := by simp
  obj := fun i h st c hc => by
    obtain ⟨hz, hTI, ⟨x, y, hTO⟩, ⟨o1, e1, _, d1⟩, ⟨o2, e2, _, d2⟩⟩ := st
    have e' : c = z ∨ c = TI ∨ c = TO ∨ c = i1 ∨ c = i2 := by simpa using hc
    rcases e' with q | q | q | q | q
    · rw [q]; exact ⟨_, hz, fun v q => nomatch q⟩
    · rw [q]; exact ⟨_, hTI, fun v q => nomatch q⟩
    · rw [q]; exact ⟨_, hTO, fun v q => nomatch q⟩
    · rw [q]; exact ⟨o1, e1, fun v q => by rw [d1] at q; cases q⟩
    · rw [q]; exact ⟨o2, e2, fun v q => by rw [d2] at q; cases q⟩
  keep := fun i h h' st k => by
    obtain ⟨hz, hTI, ⟨x, y, hTO⟩, h1, h2⟩ := st
    obtain ⟨o1, ho1, r1⟩ := h1
    exact ⟨k z (by simp) _ hz, k TI (by simp) _ hTI, ⟨x, y, k TO (by simp) _ hTO⟩, ⟨o1, k i1 (by simp) _ ho1, r1⟩, h2.at fun o q => k i2 (by simp) o q⟩
  item := by
    intro X hP hw hK hc i pins s σ H E I hf st hg
    subst hP hw hK
    obtain ⟨hz, hTI, ⟨x0, y0, hTO⟩, h1, h2⟩ := st
    obtain ⟨ys, y, c, hqy, hx, hy⟩ := hg
    obtain ⟨its2, rv2, p2, _⟩ := I.list hqy
    obtain ⟨u2, hu2, ru2⟩ := rv2.get hy
    have hzl : z < s.heap.objs.size := Heap.lt_size hz
    have hh : X.A.in1.handled = none := by simp [I.ok.hd hc]
    have nb : b ≠ i2 := fun q => by
      subst q
      obtain ⟨o1, g1, c1, _⟩ := id p2.isList
      obtain ⟨o2, g2, c2, _⟩ := id h2
      rw [g1] at g2
      cases g2
      rw [c1] at c2
      exact absurd c2 (by decide)
    have l1 : i < x.cps.size := (Array.getElem?_eq_some_iff.mp hx).1
    have l2 : i < its2.toArray.size := by
      have := (List.getElem?_eq_some_iff.mp hu2).1
      rw [List.size_toArray]
      exact this
    refine wpAny_pyNext_zipD2_item D (Draws.text hh i1 x t) (Draws.list hh i2 b nb its2.toArray) hz hTI hTO h1 ⟨h2, p2.isList⟩ l1 l2 fun x1 x2 h' tk y1 y2 z' TO' h1' h2' hT hsz hk => ?_
    obtain ⟨c', u1, hc1, rfl⟩ := y1
    have ec : c' = c := by
      rw [hx] at hc1
      exact (Option.some.inj hc1).symm
    subst ec
    have eu : x2 = u2 := by
      have q : its2.toArray[i]? = some u2 := by simpa using hu2
      rw [q] at y2
      exact (Option.some.inj y2).symm
    subst eu
    refine ⟨_, rfl, wpAny_letOwnedTupleGo_zip (s := { s with heap := h', toks := tk }) z' fun h'' z'' sb => ?_⟩
    have hT2 : h''.get? s.heap.objs.size = some { cls := .type "tuple", data := .seq #[.str ⟨#[c']⟩ u1, x2] } := (sb.2 _ (Nat.ne_of_gt hzl)).trans hT
    have new : ObjOk X.prog X.w (L2.upd H s.heap.objs.size (.tup [.str ⟨#[c']⟩, y])) h'' s.heap.objs.size (.tup [.str ⟨#[c']⟩, y]) :=
      ⟨by show 2 ≤ sizeLine; decide, [.str ⟨#[c']⟩ u1, x2], .cons ⟨_, rfl⟩ (.cons ru2 .nil), ⟨_, hT2, rfl, _, rfl⟩⟩
    have I1 : Inv X pins σ (L2.upd H s.heap.objs.size (.tup [.str ⟨#[c']⟩, y])) { s with heap := h'', toks := tk } :=
      I.turnedNew (ch := [z, TI, TO, i1, i2]) (fun c o hb q => (sb.2 c (fun q' => hb (by simp [q']))).trans (hk c o (fun q' => hb (by simp [q'])) (fun q' => hb (by simp [q'])) (fun q' => hb (by simp [q'])) (fun q' => hb (by simp [q'])) q)) hf (Nat.le_refl _) new
    have kTI : h''.get? TI = some _ := (sb.2 _ D.TIz).trans (hk TI _ D.TIz D.TITO D.TIi1 D.TIi2 hTI)
    refine ⟨.ref s.heap.objs.size, _, I1, rfl, ⟨_, y, c', rfl, I.hok.fresh (Nat.le_refl _), rfl, hx, fun l hl => by rw [I.list_inj hl hqy]; exact hy⟩, ⟨z'', kTI, ⟨_, _, (sb.2 _ D.TOz).trans TO'⟩, ?_, ?_⟩, fun c hcm => ?_⟩
    · obtain ⟨o1, ho1, r1⟩ := h1'
      exact ⟨o1, (sb.2 _ (Ne.symm D.zi1)).trans ho1, r1⟩
    · exact h2'.1.at fun o q => (sb.2 _ (Ne.symm D.zi2)).trans q
    · have hlt : c < s.heap.objs.size := by
        have e' : c = z ∨ c = TI ∨ c = TO ∨ c = i1 ∨ c = i2 := by simpa using hcm
        rcases e' with q | q | q | q | q
        · rw [q]; exact hzl
        · rw [q]; exact Heap.lt_size hTI
        · rw [q]; exact Heap.lt_size hTO
        · rw [q]; obtain ⟨_, e1, _⟩ := h1; exact Heap.lt_size e1
        · rw [q]; obtain ⟨_, e2, _⟩ := h2; exact Heap.lt_size e2
      rw [L2.upd_ne (Nat.ne_of_lt hlt)]
      exact (hf c hcm).1
  done := by
    intro X hP hw hK hc i pins s σ H E I hf st hg
    subst hP hw hK
    obtain ⟨hz, hTI, ⟨x0, y0, hTO⟩, h1, h2⟩ := st
    obtain ⟨ys, hqy, hend⟩ := hg
    obtain ⟨its2, rv2, p2, _⟩ := I.list hqy
    have ll := rv2.length
    have hh : X.A.in1.handled = none := by simp [I.ok.hd hc]
    have nb : b ≠ i2 := fun q => by
      subst q
      obtain ⟨o1, g1, c1, _⟩ := id p2.isList
      obtain ⟨o2, g2, c2, _⟩ := id h2
      rw [g1] at g2
      cases g2
      rw [c1] at c2
      exact absurd c2 (by decide)
    have fin : ∀ (h' : Heap) (tk : Nat), (∀ c o, c ≠ z → c ≠ TO → c ≠ i1 → c ≠ i2 → s.heap.get? c = some o → h'.get? c = some o) → Inv X pins σ H { s with heap := h', toks := tk } := fun h' tk hk => I.turnedL (t' := tk) (ch := [z, TI, TO, i1, i2]) (fun c o hb q =>
      hk c o (fun q' => hb (by simp [q'])) (fun q' => hb (by simp [q'])) (fun q' => hb (by simp [q'])) (fun q' => hb (by simp [q'])) q) hf
    by_cases q1 : x.cps.size ≤ i
    · have hx : x.cps[i]? = none := Array.getElem?_eq_none q1
      by_cases q2 : its2.toArray.size ≤ i
      · have hy : its2.toArray[i]? = none := Array.getElem?_eq_none q2
        exact wpAny_pyNext_zipD2_end D (draws_endS hh hx) (draws_end hh nb hy) hz hTI hTO ⟨rfl, h1⟩ ⟨rfl, h2, p2.isList⟩ (Nat.le_refl _) (Nat.le_refl _) (.inl rfl) fun h' tk hk => ⟨rfl, fin h' tk hk⟩
      · exact wpAny_pyNext_zipD2_end D (draws_endS hh hx) (Draws.list hh i2 b nb its2.toArray) hz hTI hTO ⟨rfl, h1⟩ ⟨h2, p2.isList⟩ (Nat.le_refl _) (by omega) (.inl rfl) fun h' tk hk => ⟨rfl, fin h' tk hk⟩
    · have q2 : its2.toArray.size ≤ i := by
        rcases hend with q | q
        · exact absurd q q1
        · rw [List.size_toArray]; omega
      have hy : its2.toArray[i]? = none := Array.getElem?_eq_none q2
      exact wpAny_pyNext_zipD2_end D (Draws.text hh i1 x t) (draws_end hh nb hy) hz hTI hTO h1 ⟨rfl, h2, p2.isList⟩ (by omega) (Nat.le_refl _) (.inr rfl) fun h' tk hk => ⟨rfl, fin h' tk hk⟩
  self := fun A i s Q E st h => wpAny_pyIter_zip st.1 h
def iZipX (K : PySem.W.Frag) (ta : TA) : TI := fun σ H R => ta σ H fun vs H1 => (∃ a b xs ys, vs = [.ref a, .ref b] ∧ ((SqL K H1 a xs ∧ SqL K H1 b ys ∧ R (Itz K a b) H1) ∨ (SqT K H1 a xs ∧ SqT K H1 b ys ∧ R (RZ.ItzT K a b) H1))) ∨ ∃ x b ys, vs = [.str x, .ref b] ∧ SqL K H1 b ys ∧ R (ItSL K x b) H1
theorem pi_zipX {X : Cx} {e e2 : Expr} {ta : TA} {p pos tpos : Pos} {elts : List Expr} {kk : Nat} (hg : Gl X "zip") (hm : X.mg "zip" = none) (ha : PA X [e, e2] ta)
    (hs : starEach [e, e2] X.env = (false, eval e X.env) :: starEach [e2] X.env) (hpl : (backTo pos (starEach [e2] X.env)).any (·.1) = false) :
    PI X (.Tuple elts kk tpos) (.Call (.Name "zip" p) [e, e2] [] pos) (iZipX X.K ta) := by
  refine ⟨fun pins s σ H R I h => ?_⟩
  refine Call_ (ld_blt I hg hm PyProof.Rows.boot_zip (PyProof.Rows.callWith_type1 (L2.thn (ha.run pos pins s σ H _ I h) fun us s1 ⟨vs, H1, I1, r1, q1⟩ => ?_) hs hpl))
  have fresh5 : ∀ c, c ∈ [s1.heap.objs.size + 4, s1.heap.objs.size + 2, s1.heap.objs.size + 3, s1.heap.objs.size, s1.heap.objs.size + 1] → FpOk X pins H1 c := fun c hcm => by
    have e' : c = s1.heap.objs.size + 4 ∨ c = s1.heap.objs.size + 2 ∨ c = s1.heap.objs.size + 3 ∨ c = s1.heap.objs.size ∨ c = s1.heap.objs.size + 1 := by simpa using hcm
    have hle : s1.heap.objs.size ≤ c := by
      rcases e' with z | z | z | z | z
      · rw [z]; exact Nat.le_add_right _ _
      · rw [z]; exact Nat.le_add_right _ _
      · rw [z]; exact Nat.le_add_right _ _
      · rw [z]; exact Nat.le_refl _
      · rw [z]; exact Nat.le_add_right _ _
    exact I1.fpOk hle (I1.hok.fresh hle)
  rcases q1 with ⟨a, b, xs, ys, ex, q1⟩ | ⟨x, b, ys, ex, hqy, q⟩
  · subst ex
    obtain ⟨u1, us', rfl, ru1, r2⟩ := r1.two
    cases ru1
    cases r2
    rcases q1 with ⟨hqx, hqy, q⟩ | ⟨hqx, hqy, q⟩
    · obtain ⟨its, rv, p1, _⟩ := I1.list hqx
      obtain ⟨its2, rv2, p2, _⟩ := I1.list hqy
      refine call_zip_2 p1.isList p2.isList fun h' hz hTI hTO h1 h2 hsz hk => wpAny_pyIter_zip hz ?_
      have I2 : Inv X pins σ H1 { s1 with heap := h' } := I1.kept (t' := s1.toks) hk
      exact ⟨s1.heap.objs.size + 4, [s1.heap.objs.size + 4, s1.heap.objs.size + 2, s1.heap.objs.size + 3, s1.heap.objs.size, s1.heap.objs.size + 1], _, _, H1, rfl, I2, turn_zip (PySem.W.ktu_apart s1.heap.objs.size a b p1.lt p2.lt), ⟨hz, hTI, ⟨_, _, hTO⟩, h1, h2⟩, fresh5, q⟩
    · obtain ⟨its, rv, p1, _⟩ := I1.tuple hqx
      obtain ⟨its2, rv2, p2, _⟩ := I1.tuple hqy
      obtain ⟨o1, ho1, _⟩ := id p1
      obtain ⟨o2, ho2, _⟩ := id p2
      refine RZ.call_zipT (show s1.heap.IsTuple a its.toArray from p1) (show s1.heap.IsTuple b its2.toArray from p2) fun h' hz hTI hTO h1 h2 hsz hk => wpAny_pyIter_zip hz ?_
      have I2 : Inv X pins σ H1 { s1 with heap := h' } := I1.kept (t' := s1.toks) hk
      exact ⟨s1.heap.objs.size + 4, [s1.heap.objs.size + 4, s1.heap.objs.size + 2, s1.heap.objs.size + 3, s1.heap.objs.size, s1.heap.objs.size + 1], _, _, H1, rfl, I2, RZ.turn_zipT (PySem.W.ktu_apart s1.heap.objs.size a b (Heap.lt_size ho1) (Heap.lt_size ho2)), ⟨hz, hTI, ⟨_, _, hTO⟩, h1, h2⟩, fresh5, q⟩
  · subst ex
    obtain ⟨u1, us', rfl, ru1, r2⟩ := r1.two
    obtain ⟨t, rfl⟩ := ru1
    cases r2
    obtain ⟨its2, rv2, p2, _⟩ := I1.list hqy
    have lb : b < s1.heap.objs.size := p2.lt
    refine zip_begins2 (begins_text x t) (begins_list b its2.toArray) trivial p2.isList fun h' hz hTI hTO h1 h2 hsz hk => wpAny_pyIter_zip hz ?_
    have I2 : Inv X pins σ H1 { s1 with heap := h' } := I1.kept (t' := s1.toks) hk
    exact ⟨s1.heap.objs.size + 4, [s1.heap.objs.size + 4, s1.heap.objs.size + 2, s1.heap.objs.size + 3, s1.heap.objs.size, s1.heap.objs.size + 1], _, _, H1, rfl, I2, turn_zipSL (t := t) (zip_sep2 (N := s1.heap.objs.size) (fp1 := []) (fp2 := [b]) (fun c hc => by cases hc) (fun c hc => by simp only [List.mem_singleton] at hc; subst hc; exact lb)), ⟨hz, hTI, ⟨_, _, hTO⟩, ⟨_, h1, rfl, rfl⟩, ⟨_, h2, rfl, rfl⟩⟩, fresh5, q⟩
section
variable {P : Program} {w : World} {K : PySem.W.Frag} {mg : Str → Option Value} {Z : Hp} {β : List Addr} {b : Addr}
theorem walk_zipSL {x : Tx} {t : Src} (h2 : LstSrc P w K mg Z β b t) : WalkV P w K mg Z β (ItSL K ⟨x.toArray⟩ b) ⟨zipS (fixS (x.map fun c => .str [c])).get t.get, fun V => (fixS (x.map fun c => .str [c])).fin V && t.fin V⟩ := by
  refine ⟨fun i g e Φ Z' β' U H y z b R hg => ?_, fun Φ Z' β' U H z b R hf => ?_⟩
  · obtain ⟨g0, h0, e1, e2, q⟩ := zip_get e
    obtain ⟨x1, x2, y1, y2, rfl⟩ := q U y hg
    obtain ⟨d1, f1, k1⟩ := fix_get e1
    rw [k1] at y1
    cases y1
    simp only [List.getElem?_map, Option.map_eq_some_iff] at f1
    obtain ⟨c, f1, rfl⟩ := f1
    obtain ⟨us, u, s2, f2, r2⟩ := h2.get i h0 e2 Φ Z' β' U H x2 z b R y2
    have hx : (⟨x.toArray⟩ : Str).cps[i]? = some c := by simpa using f1
    refine ⟨⟨us, u, c, s2, hx, f2⟩, fun v' H' ⟨T, y, c', y1, hT, y2, y3, y4⟩ => ?_⟩
    have q2 := y4 us s2
    rw [f2] at q2
    rw [hx] at y3
    cases q2
    cases y3
    subst y1 y2
    refine R.mkT (RepL.cons ?_ (RepL.cons r2 RepL.nil)) hT
    simp only [RepV]
  · simp only [Bool.and_eq_true] at hf
    obtain ⟨us, s2, e2⟩ := h2.fin Φ Z' β' U H z b R hf.2
    refine ⟨us, s2, ?_⟩
    simp only [zip_len, fixS, List.length_map]
    show x.toArray.size ≤ _ ∨ _
    rw [List.size_toArray]
    omega
end
end VI

/-! VIc22: insert, pop, get, setdefault, list * int, list(range), isinstance of two types, a constant tuple's index. -/
namespace VI
open PySem PySem.Spec PyProof.Rows L2
section
variable {X : Cx} {m : Bool}
theorem RepL.dropLast {P : Program} {w : World} {K : PySem.W.Frag} {Z : Hp} {β : List Addr} {ds : List D} {vs : List V} (h : RepL P w K Z β ds vs) : RepL P w K Z β ds.dropLast vs.dropLast := by
  rw [List.dropLast_eq_take, List.dropLast_eq_take, h.length]
  exact h.take _
theorem m_insert : MtR X "list.insert" (rM X .insert m) := by
  refine MtR.imp mt_insert ?_
  rintro v vs H Q ⟨Φ, Z, β, U, a, ds, d', U', R, ra, q, e, dn⟩
  have sh : ∃ n i x, a = .ref n ∧ ds = [.int i, x] := by
    unfold prim at e
    split at e <;> first
      | (rename_i n i x; exact ⟨n, i, x, by simp_all, by simp_all⟩)
      | simp_all
  obtain ⟨n, i, x, rfl, rfl⟩ := sh
  rw [prim] at e
  split at e
  · rename_i xs hu
    split at e
    · rename_i hz
      obtain ⟨rfl, rfl⟩ := ok_inj e
      · obtain ⟨v1, u, rfl, r1, ru⟩ := two_rep q
        simp only [RepV] at r1
        subst r1
        obtain ⟨p, ws, rfl, e1, h1, h2⟩ := mut_at R ra hu
        have hsz : xs.length < 2 ^ 63 := by
          have : (SZ : Nat) < 2 ^ 63 := by decide
          omega
        refine ⟨p, ws, i, u, rfl, rfl, h1, by rw [← h2.length, ← SZ_eq]; exact hz.2.2, hz.1, by omega, ?_⟩
        have rp : RepL X.prog X.w X.K Z β (xs.take i.toNat ++ x :: xs.drop i.toNat) (ws.take i.toNat ++ [u] ++ ws.drop i.toNat) := by
          rw [List.append_assoc]
          exact (h2.take i.toNat).append (RepL.cons ru (h2.drop i.toNat))
        exact dn.non (mut_done R e1 rp)
    · cases e
  · cases e
theorem m_pop0 : MtR X "list.pop" (rM X .pop0 m) := by
  refine MtM.imp mt_pop ?_
  rintro v vs H Q ⟨Φ, Z, β, U, a, ds, d', U', R, ra, q, e, dn⟩
  have sh : ∃ n, a = .ref n ∧ ds = [] := by
    unfold prim at e
    split at e <;> first
      | (rename_i n; exact ⟨n, by simp_all, by simp_all⟩)
      | simp_all
  obtain ⟨n, rfl, rfl⟩ := sh
  rw [prim] at e
  split at e
  · rename_i xs hu
    split at e
    · rename_i x hx
      obtain ⟨rfl, rfl⟩ := ok_inj e
      have hvs : vs = [] := by simpa only [RepL] using q
      subst hvs
      obtain ⟨p, ws, rfl, e1, h1, h2⟩ := mut_at R ra hu
      have hx' : xs[xs.length - 1]? = some x := by rw [← List.getLast?_eq_getElem?]; exact hx
      obtain ⟨y, hy, ry⟩ := h2.get hx'
      refine ⟨p, ws, y, rfl, rfl, h1, by rw [← h2.length]; exact hy, ?_⟩
      exact dn Z β _ y (ZLe.refl _) (BLe.refl _) (mut_done R e1 h2.dropLast) ry
    · cases e
  · cases e
theorem m_pop1 : MtR X "list.pop" (rM X .pop1 m) := by
  refine MtM.imp mt_popAt ?_
  rintro v vs H Q ⟨Φ, Z, β, U, a, ds, d', U', R, ra, q, e, dn⟩
  have sh : ∃ n k, a = .ref n ∧ ds = [k] := by
    unfold prim at e
    split at e <;> first
      | (rename_i n k; exact ⟨n, k, by simp_all, by simp_all⟩)
      | simp_all
  obtain ⟨n, k, rfl, rfl⟩ := sh
  rw [prim] at e
  split at e
  · rename_i xs hu
    split at e
    · rename_i i
      split at e
      · rename_i hz
        split at e
        · rename_i x hx
          obtain ⟨rfl, rfl⟩ := ok_inj e
          obtain ⟨u, rfl, ru⟩ := one_rep q
          simp only [RepV] at ru
          subst ru
          obtain ⟨p, ws, rfl, e1, h1, h2⟩ := mut_at R ra hu
          obtain ⟨y, hy, ry⟩ := h2.get hx
          have hl := h2.length
          refine ⟨p, ws, i, i.toNat, y, rfl, rfl, h1, by omega, ?_, ?_, hy, ?_⟩
          · omega
          · have h3 : ¬ i < 0 := by omega
            have h4 : (decide (0 ≤ i) && decide (i < (ws.length : Int))) = true := by
              simp only [Bool.and_eq_true, decide_eq_true_eq]
              omega
            simp only [seqIndex?, h3, if_false, h4, if_true]
          · exact dn Z β _ y (ZLe.refl _) (BLe.refl _) (mut_done R e1 h2.eraseIdx) ry
        · cases e
      · cases e
    · cases e
  · cases e
theorem m_get2 (hu : X.A.units + 65 < cLine) : MtR X "dict.get" (rM X .get2 m) := by
  intro pins s σ H x vs v us Q I rv ru ⟨Φ, Z, β, U, a, ds, d', U', R, ra, q, e, dn⟩
  have sh : ∃ k y, ds = [k, y] := by
    unfold prim at e
    split at e <;> first
      | (rename_i d k y; exact ⟨k, y, by simp_all⟩)
      | simp_all
  obtain ⟨k, y, rfl⟩ := sh
  rw [prim] at e
  split at e
  · rename_i t kvs hd
    split at e
    · rename_i hk
      obtain ⟨rfl, rfl⟩ := ok_inj e
      · obtain ⟨v1, v2, rfl, rk, ry⟩ := two_rep q
        obtain ⟨u1, u2, rfl, r1, r2⟩ := vals2 ru
        exact vd_get2 (by omega) R I hd hk ra rk ry rv r1 r2 fun z z' s' I' rz r => ⟨z, H, I', rz, dn.same R r⟩
    · cases e
  · cases e
theorem m_get1 (hu : X.A.units + 65 < cLine) : MtR X "dict.get" (rM X .get1 m) := by
  intro pins s σ H x vs v us Q I rv ru ⟨Φ, Z, β, U, a, ds, d', U', R, ra, q, e, dn⟩
  have sh : ∃ k, ds = [k] := by
    unfold prim at e
    split at e <;> first
      | (rename_i d k; exact ⟨k, by simp_all⟩)
      | simp_all
  obtain ⟨k, rfl⟩ := sh
  rw [prim] at e
  split at e
  · rename_i t kvs hd
    split at e
    · rename_i hk
      obtain ⟨rfl, rfl⟩ := ok_inj e
      obtain ⟨v1, rfl, rk⟩ := one_rep q
      obtain ⟨u1, rfl, r1⟩ := vals1 ru
      exact vd_get1 (by omega) R I hd hk ra rk rv r1 fun z z' s' I' rz r => ⟨z, H, I', rz, dn.same R r⟩
    · cases e
  · cases e
theorem m_setdefault (hu : X.A.units + 65 < cLine) : MtR X "dict.setdefault" (rM X .setdefault m) := by
  intro pins s σ H x vs v us Q I rv ru ⟨Φ, Z, β, U, a, ds, d', U', R, ra, q, e, dn⟩
  have sh : ∃ n k y, a = .ref n ∧ ds = [k, y] := by
    unfold prim at e
    split at e <;> first
      | (rename_i n k y; exact ⟨n, k, y, by simp_all, by simp_all⟩)
      | simp_all
  obtain ⟨n, k, y, rfl, rfl⟩ := sh
  rw [prim] at e
  split at e
  · rename_i t kvs hU
    split at e
    · rename_i hk
      obtain ⟨v1, v2, rfl, rk, ry⟩ := two_rep q
      obtain ⟨u1, u2, rfl, r1, r2⟩ := vals2 ru
      refine vs_setd (by omega) R I hU hk.1 hk.2 ra rk ry rv r1 r2 (fun o ho z z' s' I' rz r => ?_) (fun ho H' s' z z' I' R' rz r => ?_)
      · rw [ho] at e
        obtain ⟨rfl, rfl⟩ := ok_inj e
        exact ⟨z, H, I', rz, dn.same R r⟩
      · rw [ho] at e
        obtain ⟨rfl, rfl⟩ := ok_inj e
        exact ⟨z, H', I', rz, dn Z β H' z (ZLe.refl _) (BLe.refl _) R' r⟩
    · cases e
  · cases e
end
/-! ### list(range(n)) -/
section
variable {X : Cx} {m : Bool}
theorem hc_listRange (hu : X.calm = true) : Comp2 X (.type "list") "range" .listRange m := by
  intro pins s σ H vs us Q I rv ⟨Φ, Z, β, U, ds, d', U', R, q, e, dn⟩
  have sh : ∃ n, ds = [.int n] := by
    unfold prim at e
    split at e <;> first | exact ⟨_, rfl⟩ | simp_all
  obtain ⟨n, rfl⟩ := sh
  obtain ⟨v, rfl, r⟩ := one_rep q
  simp only [RepV] at r
  subst r
  rw [prim] at e
  split at e
  · rename_i hn
    obtain ⟨u, rfl, ru⟩ := vals1 rv
    obtain ⟨t, rfl⟩ := ru
    refine call_range_1 ?_
    have I2 := I.kept (t' := s.toks + 1 + 1) (h' := s.heap.push { cls := .type "range", data := .fields #[.int 0 s.toks, .int n t, .int 1 (s.toks + 1)] }) fun b o q => Heap.get?_push_of_some _ q
    refine call_list_range (n := (n - 0).toNat) (I2.ok.hd hu) (IsRange.new _ _ _ _ _ _ _) (small_one (by omega) (by omega) (by omega) (by omega)) (rangeSize_nat 0 n) (by omega) fun h' tk acc c' hk e' hi => ?_
    refine ⟨.ref _, L2.upd H _ (.lst (rgV 0 n)), I2.laid hk (Nat.le_refl _) (show ObjOk X.prog X.w _ _ _ (.lst (rgV 0 n)) from ⟨?_, acc.toList, c', vals_rg hi, ?_⟩), rfl, ?_⟩
    · rw [rgV_length, sizeLine_eq]; omega
    · rw [Array.toArray_toList]; exact e'
    · have rp : RepL X.prog X.w X.K Z β (rangeL 0 n) (rgV 0 n) := by
        unfold rangeL rgV
        have : ∀ l : List Nat, RepL X.prog X.w X.K Z β (l.map fun (k : Nat) => D.int (0 + (k : Int))) (l.map fun i => V.int (0 + (i : Nat))) := fun l => by
          induction l with
          | nil => exact RepL.nil
          | cons a r ih => exact RepL.cons (by simp only [RepV]) ih
        exact this _
      exact dn.lst R e rp (I2.hok.fresh (Nat.le_refl _))
  · cases e
end
/-! ### list * int -/
theorem int_rmul_listW (a : Int) (t : Tok) (l : Addr) (items : Array Value) (n : Nat) (dd : Option Addr) (sl : Array (Option Value)) :
    Meets (Builtin.«int.__rmul__» ⟨[.int a t, .ref l], []⟩) (fun _ R s => s.heap.get? l = some { cls := .type "list", dict := dd, data := .seq items n, slots := sl } ∧ R (.ok (.ret Value.notImplemented)) s) :=
  .of_wp fun prog w A R s h => by obtain ⟨hp, g, d, tk, os⟩ := s; obtain ⟨hl, h⟩ := h; wp_walk using wpAny_loadPart' hl; exact ⟨_, rfl, h⟩
theorem list_mulW (l : Addr) (items : Array Value) (n : Nat) (dd : Option Addr) (sl : Array (Option Value)) (x : Int) (u : Tok) (hc0 : ¬(!Builtin.List.listFitsIndex x) = true) (hc1 : ¬items.size * x.toNat > (2 ^ 63 - 1) / 8) (hc2 : ¬Builtin.List.listTooLong (items.size * x.toNat) = true)
    (hsz : (List.foldl (fun x1 x2 => x1 ++ x2) #[] (List.replicate (if items.isEmpty = true then 0 else x.toNat) items)).size ≤ sizeLine) :
    Meets (Builtin.«list.__mul__» ⟨[.ref l, .int x u], []⟩) (fun _ R s => s.heap.get? l = some { cls := .type "list", dict := dd, data := .seq items n, slots := sl } ∧ R (.ok (.ret (Value.ref s.heap.objs.size))) { s with heap := s.heap.push { cls := Value.type "list", data := Data.seq (List.foldl (fun x1 x2 => x1 ++ x2) #[] (List.replicate (if items.isEmpty = true then 0 else x.toNat) items)) }, toks := s.toks }) :=
  .of_wp fun prog w A R s h => by
    obtain ⟨hp, g, d, tk, os⟩ := s
    obtain ⟨hl, h⟩ := h
    have f1 := AutoSeq1.idx_int
    wp_walk using wpAny_loadPart' hl
    repeat (first
      | (refine wpAny_ite_false (decide_eq_false hc0) ?_; wp_walk using wpAny_loadPart' hl)
      | (refine wpAny_ite_false (decide_eq_false hc1) ?_; wp_walk using wpAny_loadPart' hl)
      | (refine wpAny_ite_false (decide_eq_false hc2) ?_; wp_walk using wpAny_loadPart' hl)
      | (refine wpAny_ite_false (decide_eq_false (Nat.not_lt.mpr hsz)) ?_; wp_walk using wpAny_loadPart' hl))
    exact ⟨_, rfl, h⟩
section
variable {X : Cx}
def rRepS (K : PySem.W.Frag) : R2 := fun x y H Q => ∃ l k xs, x = .ref l ∧ y = .int k ∧ SqL K H l xs ∧ -(2 ^ 63) ≤ k ∧ k < 2 ^ 63 ∧ xs.length * k.toNat ≤ sizeLine ∧
  ∀ p, H p = none → Q (.ref p) (L2.upd H p (.lst (List.replicate k.toNat xs).flatten))
theorem op_repS : OpR X (binaryOp .Mult) (rRepS X.K) := by
  intro pins s σ H x y v u Q I rx ry h
  obtain ⟨l, k, xs, rfl, rfl, hH, h1, h2, hz, q⟩ := h
  cases rx
  obtain ⟨t, rfl⟩ := ry
  obtain ⟨its, r, ⟨⟨cls, dd, data, sl⟩, n, e, hc, hdd, hd⟩, hl2⟩ := I.list hH
  simp only at hc hd
  subst hc hd
  have hl := r.length
  have hlen : its.toArray.size * k.toNat ≤ sizeLine := by rw [List.size_toArray, ← hl]; exact hz
  have hcap : ¬ its.toArray.size * k.toNat > (2 ^ 63 - 1) / 8 := by
    have : (sizeLine : Nat) ≤ (2 ^ 63 - 1) / 8 := by decide
    omega
  have hfit : ¬ (!Builtin.List.listFitsIndex k) = true := by
    rw [fitsIndex_both h1 h2]
    exact Bool.false_ne_true
  have hlong : ¬ Builtin.List.listTooLong (its.toArray.size * k.toNat) = true := by
    rw [notLongL hlen]
    exact Bool.false_ne_true
  have hnew : List.foldl (fun x1 x2 => x1 ++ x2) #[] (List.replicate (if its.toArray.isEmpty = true then 0 else k.toNat) its.toArray) = (List.replicate k.toNat its).flatten.toArray := by
    have f0 : ∀ m : Nat, List.foldl (fun x1 x2 => x1 ++ x2) #[] (List.replicate m its.toArray) = (List.replicate m its).flatten.toArray := fun m => by
      have := foldl_rep its m []
      rw [List.nil_append] at this
      exact this
    rw [f0]
    cases its with
    | nil => simp
    | cons a r' => rw [if_neg (by simp)]
  have hsz : (List.foldl (fun x1 x2 => x1 ++ x2) #[] (List.replicate (if its.toArray.isEmpty = true then 0 else k.toNat) its.toArray)).size ≤ sizeLine := by
    rw [hnew, List.size_toArray, PyProof.Rows.lm_len_rep_flat, Nat.mul_comm]
    rw [List.size_toArray] at hlen
    exact hlen
  refine wpAny_binaryOp_repeat_ref (T := "list") (U := "int") (by decide) ⟨_, e, rfl⟩ (fun s' => typeIs_int s' k t) noFill_list_mul F.fills_int_mul F.slot_int_rmul repeat_list F.slot_int_index.lookup
    (call_meets F.slot_int_rmul (typeIs_int s k t) F.entry_int_rmul (F.args_int_rmul_2 _ _) (int_rmul_listW k t l its.toArray n dd sl)
      ⟨e, rfl, ⟨_, e, rfl⟩, call_meets F.slot_list_mul ⟨_, e, rfl⟩ F.entry_list_mul (F.args_list_mul_2 _ _) (list_mulW l its.toArray n dd sl k t hfit hcap hlong hsz) ⟨e, ?_⟩⟩)
  rw [hnew]
  exact ⟨.ref _, _, I.lnew (t' := s.toks) (r.rep k.toNat) (by rw [PyProof.Rows.lm_len_rep_flat, Nat.mul_comm]; exact hz), rfl, q _ I.fresh⟩
def repF (m : Bool) (a b : D) : M D := fun U => match a, b with
  | .lst xs, .int k => if -1000000 ≤ k ∧ k ≤ 1000000 ∧ xs.length * k.toNat ≤ SZ then mkL m (List.replicate k.toNat xs).flatten U else none
  | _, _ => none
theorem or_rep (m : Bool) : OpR X (binaryOp .Mult) (r2 X.prog X.w X.K X.mg (repF m)) := by
  refine OpR.imp op_repS ?_
  rintro x y H Q ⟨Φ, Z, β, U, a, b, d, U', R, ra, rb, e, dn⟩
  unfold repF at e
  split at e
  · rename_i xs k
    split at e
    · rename_i hz
      obtain ⟨p, vs, rfl, sq, qs⟩ := R.list rfl ra
      simp only [RepV] at rb
      subst rb
      refine ⟨p, k, vs, rfl, rfl, sq, by omega, by omega, by rw [← qs.length, ← SZ_eq]; exact hz.2.2, fun l hl => dn.lst R e (qs.repl k.toNat) hl⟩
    · cases e
  · cases e
end
section
variable {X : Cx} {C : Cal} {W : WX} {e2 : Expr} {a : IE} {pos p : Pos} {es : List Expr} {as : IEs}
theorem n_repL {m : Bool} (hl : as.len ≤ 1000) (ha : PA X es (xA X C W as)) (hb : PE X e2 (xE X C W a)) : PE X (.BinOp (.List es p) .Mult e2 pos) (xE X C W (.repL m as a)) := by
  refine (pe_op (or_rep m) (n_lst (m := false) (pos := p) hl ha) hb).imp fun σ H Q ⟨Φ, Z, β, ρ, U, r, S, R, h, o⟩ => ?_
  have h' : bnd (ev C (.lst false as) ρ U) (fun x U1 => bnd (ev C a ρ U1) fun y U2 => repF m x y U2) = some r := by
    simp only [ev] at h ⊢
    cases q : evs C as ρ U with
    | none => rw [q] at h; cases h
    | some r1 =>
      rw [q] at h
      cases r1 with
      | ex x V => exact h
      | ok ds V =>
        simp only [bnd_ok, mkL, Bool.false_eq_true, if_false] at h ⊢
        rw [← h]
        cases q2 : ev C a ρ V with
        | none => rfl
        | some r2 =>
          cases r2 with
          | ex x V2 => rfl
          | ok k V2 => cases k <;> rfl
  refine tE_bnd S R h' o.wish fun Z1 β1 H1 d v U1 z1 b1 R1 r1 S1 h1 => ?_
  refine tE_bnd S1 R1 h1 (o.monoE z1 b1).wish fun Z2 β2 H2 d2 v2 U2 z2 b2 R2 r2 S2 h2 => ?_
  obtain ⟨d3, U3, rfl⟩ := must h2 fun x V => by
    intro h
    unfold repF mkL at h
    split at h
    · split at h
      · split at h <;> cases h
      · cases h
    · cases h
  exact ⟨Φ, Z2, β2, U2, d, d2, d3, U3, R2, RepV.mono z2 b2 r1, r2, h2, ((o.monoE z1 b1).monoE z2 b2)⟩
end
/-! ### a constant tuple's index -/
section
variable {X : Cx} {C : Cal} {W : WX} {e e1 : Expr} {a : IE} {pos apos p : Pos} {es : List Expr} {as : IEs} {m : Bool}
theorem idxOf_first {α : Type} [BEq α] [LawfulBEq α] {z : α} : ∀ {l : List α}, z ∈ l → l[l.idxOf z]? = some z ∧ ∀ k, k < l.idxOf z → l[k]? ≠ some z
  | [], h => by cases h
  | x :: r, h => by
    by_cases q : (x == z) = true
    · have := eq_of_beq q
      subst this
      simp
    · have q' : ¬ x = z := fun e => q (by rw [e]; exact beq_self_eq_true z)
      have hr : z ∈ r := by
        rcases List.mem_cons.mp h with h | h
        · exact absurd h.symm q'
        · exact h
      obtain ⟨h1, h2⟩ := idxOf_first hr
      have e : (x :: r).idxOf z = r.idxOf z + 1 := by
        rw [List.idxOf_cons, cond_eq_if, if_neg q]
      rw [e]
      refine ⟨by simpa using h1, fun k hk => ?_⟩
      cases k with
      | zero => simp [q']
      | succ k => simpa using h2 k (by omega)
theorem m_tindex : MtR X "tuple.index" (rM X .tindex m) := by
  refine MtR.imp mt_tup_index ?_
  rintro v vs H Q ⟨Φ, Z, β, U, a, ds, d', U', R, ra, q, e, dn⟩
  have sh : ∃ xs z, a = .tup xs ∧ ds = [.str z] := by
    unfold prim at e
    split at e <;> first
      | (rename_i xs z; exact ⟨xs, z, by simp_all, by simp_all⟩)
      | simp_all
  obtain ⟨xs, z, rfl, rfl⟩ := sh
  rw [prim] at e
  split at e
  · rename_i ts ht
    split at e
    · rename_i hz
      obtain ⟨rfl, rfl⟩ := ok_inj e
      obtain ⟨u, rfl, ru⟩ := one_rep q
      simp only [RepV] at ru
      subst ru
      obtain ⟨p, ws, rfl, sq, q2⟩ := R.tuple ra
      rw [texts_rep ht q2] at sq
      obtain ⟨h1, h2⟩ := idxOf_first hz
      refine ⟨p, ts.map fun t => (⟨t.toArray⟩ : Str), ⟨z.toArray⟩, ts.idxOf z, rfl, rfl, sq, ?_, fun k hk => ?_, dn.int R⟩
      · rw [List.getElem?_map, h1]
        rfl
      · intro h3
        rw [List.getElem?_map, Option.map_eq_some_iff] at h3
        obtain ⟨t, h4, h5⟩ := h3
        have : t = z := by
          have := congrArg (fun s : Str => s.cps.toList) h5
          simpa using this
        subst this
        exact h2 k hk h4
    · cases e
  · cases e
/-- t.index(e), t a constant -/
theorem n_tindex {g : String} {xs : List D} {v : V} (hK : ∀ p, v = .ref p → ∃ o, X.K.lookup p = some o ∧ o.dict = none ∧ o.cls = .type "tuple") (hr : ∀ Z β, RepV X.prog X.w X.K Z β (.tup xs) v) (hb : noSup e1 = true) (hline : (apos.endLine == pos.line) = true)
    (ht : (e :: es).all tame = true) (hl : (e :: es).length < 20) (ho : PE X e1 (tC v)) (ha : PA X (e :: es) (xA X C W as)) : PE X (.Call (.Attribute e1 "index" apos) (e :: es) [] pos) (xE X C W (.prim .tindex m (.cons (.glo g (.tup xs)) as))) := by
  refine ⟨fun pins s σ H Q I ⟨Φ, Z, β, ρ, U, r, S, R, h, o⟩ => ?_⟩
  simp only [List.all_cons, Bool.and_eq_true] at ht
  have hs := star_tame ht.1 es X.env
  have hplain := stars_tame ht.2 pos X.env
  have h1 : bnd (evs C as ρ U) (fun ds U2 => prim .tindex m (.tup xs :: ds) U2) = some r := by
    rw [ev] at h
    simp only [ev, bnd_ok, recvOk, if_true] at h
    exact h
  have hlen : ∀ (es : List Expr), es.all tame = true → (backTo pos (starEach es X.env)).all (fun x => !x.1) = true := fun es h => by
    have := stars_tame h pos X.env
    rw [List.any_eq_false] at this
    rw [List.all_eq_true]
    intro x hx
    simpa using this x hx
  refine wpAny_Call_method_late (attr_noSup hb _ X.env _) ?_ hline rfl (L2.thn (ho.run pins s σ H (fun x H1 => x = v ∧ H1 = H) I ⟨rfl, rfl⟩) fun u s1 ⟨x, H1, I1, r1, ex, eh⟩ => ?_)
  · have e1 : (backTo pos (starEach (e :: es) X.env)).all (fun x => !x.1) = true := hlen (e :: es) (by simp [ht])
    rw [e1]
    simp only [Bool.true_and]
    have e2 : (backToKw pos (keywordEach [] X.env)).all (fun x => x.1.isSome) = true := rfl
    rw [e2]
    simp only [Bool.true_and, decide_eq_true_eq]
    simp only [List.isEmpty_nil, if_true, List.length_nil]
    omega
  · subst ex eh
    have rx := hr Z β
    simp only [RepV] at rx
    obtain ⟨p, vs, rfl, _, _⟩ := rx
    obtain ⟨oo, k1, k2, k3⟩ := hK p rfl
    obtain ⟨t1, t2⟩ := tyV_is (T := "tuple") I1 r1 (.inr (.inl ⟨rfl, oo, k1, k3, k2⟩))
    refine ⟨"tuple", "tuple.index", PySem.F.plainAttrs_tuple, PySem.F.slot_tuple_index, PySem.F.type_tuple_index, t1, t2, ?_⟩
    have hA := ha.run pos pins s1 σ H1 (fun vs H2 => rM X .tindex m (.ref p) vs H2 Q) I1 (tA_bnd S R h1 o.wish fun Z2 β2 H2 ds vs U2 z2 b2 R2 r2 S2 h2 => by
      obtain ⟨d3, U3, rfl⟩ := must h2 fun x V => prim_ok
      exact ⟨Φ, Z2, β2, U2, .tup xs, ds, d3, U3, R2, hr Z2 β2, r2, h2, o.monoE z2 b2⟩)
    rw [hs] at hA ⊢
    refine Calls.callWith_builtin (by show (false || (backTo pos (starEach es X.env)).any (·.1)) = false; rw [hplain]; rfl) (Calls.evalArgs_plain ?_)
    exact L2.thn hA fun us s2 ⟨vs, H2, I2, r2, q2⟩ => m_tindex pins s2 σ H2 (.ref p) vs u us Q I2 r1 r2 q2
end
end VI

/-! VIc23: zip of a tuple and a list. -/
namespace VI
open PySem PySem.Spec PyProof.Rows L2
section
variable {prog : Program} {w : World} {A : Around}
/-- a tuple's iterator that is at its end -/
theorem draws_endT {it l : Addr} {i : Nat} {items : Array Value} (hh : A.handled = none) (hne : l ≠ it) (hx : items[i]? = none) : Draws prog w A it [it, l] i (fun _ _ => True) (fun j h => j = i ∧ h.IsTupleIter it l i ∧ h.IsTuple l items) where
  live := fun _ _ st => let ⟨o, ho, _⟩ := st.2.1; ⟨o, ho⟩
  frame := fun _ _ _ st hk => ⟨st.1, st.2.1.at fun o e => hk it (by simp) o e, st.2.2.at fun o e => hk l (by simp) o e⟩
  item := fun j s Q E hi st _ => absurd st.1 (Nat.ne_of_lt hi)
  done := fun s Q E st hE => wpAny_nextOf_tuple_end hh st.2.1 st.2.2 hx hE
end
def ItTL (K : PySem.W.Frag) (a b : Addr) : L2.It :=
  ⟨fun i H => ∃ (xs ys : List V) (x y : V), SqT K H a xs ∧ SqL K H b ys ∧ xs[i]? = some x ∧ ys[i]? = some y,
    fun i H v H' => ∃ T x y, v = .ref T ∧ H T = none ∧ H' = L2.upd H T (.tup [x, y]) ∧ (∀ xs, SqT K H a xs → xs[i]? = some x) ∧ ∀ ys, SqL K H b ys → ys[i]? = some y,
    fun i H => ∃ xs ys : List V, SqT K H a xs ∧ SqL K H b ys ∧ (xs.length ≤ i ∨ ys.length ≤ i)⟩
theorem turn_zipTL {P : Program} {w : World} {K : PySem.W.Frag} {elts : List Expr} {kk : Nat} {tpos : Pos} {a b z TI TO i1 i2 : Addr} (D : ZipSep2 z TI TO i1 i2 [i1, a] [i2, b]) :
    Turn P w K (.Tuple elts kk tpos) (ItTL K a b) [z, TI, TO, i1, i2] z (fun i h => IsZip h z TI TO .none ∧ IsTupOf2 h TI (.ref i1) (.ref i2) ∧ (∃ x y, IsTupOf2 h TO x y) ∧ h.IsTupleIter i1 a i ∧ h.IsListIter i2 b i) where
  mem := by simp
  obj := fun i h st c hc => by
    obtain ⟨hz, hTI, ⟨x, y, hTO⟩, ⟨o1, e1, _, d1⟩, ⟨o2, e2, _, d2⟩⟩ := st
    have e' : c = z ∨ c = TI ∨ c = TO ∨ c = i1 ∨ c = i2 := by simpa using hc
    rcases e' with q | q | q | q | q
    · rw [q]; exact ⟨_, hz, fun v q => nomatch q⟩
    · rw [q]; exact ⟨_, hTI, fun v q => nomatch q⟩
    · rw [q]; exact ⟨_, hTO, fun v q => nomatch q⟩
    · rw [q]; exact ⟨o1, e1, fun v q => by rw [d1] at q; cases q⟩
    · rw [q]; exact ⟨o2, e2, fun v q => by rw [d2] at q; cases q⟩
  keep := fun i h h' st k => by
    obtain ⟨hz, hTI, ⟨x, y, hTO⟩, h1, h2⟩ := st
    exact ⟨k z (by simp) _ hz, k TI (by simp) _ hTI, ⟨x, y, k TO (by simp) _ hTO⟩, h1.at fun o q => k i1 (by simp) o q, h2.at fun o q => k i2 (by simp) o q⟩
  item := by
    intro X hP hw hK hc i pins s σ H E I hf st hg
    subst hP hw hK
    obtain ⟨hz, hTI, ⟨x0, y0, hTO⟩, h1, h2⟩ := st
    obtain ⟨xs, ys, x, y, hqx, hqy, hx, hy⟩ := hg
    obtain ⟨its, rv, p1, _⟩ := I.tuple hqx
    obtain ⟨its2, rv2, p2, _⟩ := I.list hqy
    obtain ⟨u0, hu0, ru0⟩ := rv.get hx
    obtain ⟨u2, hu2, ru2⟩ := rv2.get hy
    have na : a ≠ i1 := fun q => by
      subst q
      obtain ⟨o1, g1, c1, _⟩ := id p1
      obtain ⟨o2, g2, c2, _⟩ := id h1
      rw [g1] at g2
      cases g2
      rw [c1] at c2
      exact absurd c2 (by decide)
    have hzl : z < s.heap.objs.size := Heap.lt_size hz
    have hh : X.A.in1.handled = none := by simp [I.ok.hd hc]
    have nb : b ≠ i2 := fun q => by
      subst q
      obtain ⟨o1, g1, c1, _⟩ := id p2.isList
      obtain ⟨o2, g2, c2, _⟩ := id h2
      rw [g1] at g2
      cases g2
      rw [c1] at c2
      exact absurd c2 (by decide)
    have l1 : i < its.toArray.size := by
      have := (List.getElem?_eq_some_iff.mp hu0).1
      rw [List.size_toArray]
      exact this
    have l2 : i < its2.toArray.size := by
      have := (List.getElem?_eq_some_iff.mp hu2).1
      rw [List.size_toArray]
      exact this
    refine wpAny_pyNext_zipD2_item D (Draws.tuple hh i1 a na its.toArray) (Draws.list hh i2 b nb its2.toArray) hz hTI hTO ⟨h1, p1⟩ ⟨h2, p2.isList⟩ l1 l2 fun x1 x2 h' tk y1 y2 z' TO' h1' h2' hT hsz hk => ?_
    have ec : x1 = u0 := by
      have q : its.toArray[i]? = some u0 := by simpa using hu0
      rw [q] at y1
      exact (Option.some.inj y1).symm
    subst ec
    have eu : x2 = u2 := by
      have q : its2.toArray[i]? = some u2 := by simpa using hu2
      rw [q] at y2
      exact (Option.some.inj y2).symm
    subst eu
    refine ⟨_, rfl, wpAny_letOwnedTupleGo_zip (s := { s with heap := h', toks := tk }) z' fun h'' z'' sb => ?_⟩
    have hT2 : h''.get? s.heap.objs.size = some { cls := .type "tuple", data := .seq #[x1, x2] } := (sb.2 _ (Nat.ne_of_gt hzl)).trans hT
    have new : ObjOk X.prog X.w (L2.upd H s.heap.objs.size (.tup [x, y])) h'' s.heap.objs.size (.tup [x, y]) :=
      ⟨by show 2 ≤ sizeLine; decide, [x1, x2], .cons ru0 (.cons ru2 .nil), ⟨_, hT2, rfl, _, rfl⟩⟩
    have I1 : Inv X pins σ (L2.upd H s.heap.objs.size (.tup [x, y])) { s with heap := h'', toks := tk } :=
      I.turnedNew (ch := [z, TI, TO, i1, i2]) (fun c o hb q => (sb.2 c (fun q' => hb (by simp [q']))).trans (hk c o (fun q' => hb (by simp [q'])) (fun q' => hb (by simp [q'])) (fun q' => hb (by simp [q'])) (fun q' => hb (by simp [q'])) q)) hf (Nat.le_refl _) new
    have kTI : h''.get? TI = some _ := (sb.2 _ D.TIz).trans (hk TI _ D.TIz D.TITO D.TIi1 D.TIi2 hTI)
    refine ⟨.ref s.heap.objs.size, _, I1, rfl, ⟨_, x, y, rfl, I.hok.fresh (Nat.le_refl _), rfl, fun l hl => by rw [I.tuple_inj hl hqx]; exact hx, fun l hl => by rw [I.list_inj hl hqy]; exact hy⟩, ⟨z'', kTI, ⟨_, _, (sb.2 _ D.TOz).trans TO'⟩, ?_, ?_⟩, fun c hcm => ?_⟩
    · exact h1'.1.at fun o q => (sb.2 _ (Ne.symm D.zi1)).trans q
    · exact h2'.1.at fun o q => (sb.2 _ (Ne.symm D.zi2)).trans q
    · have hlt : c < s.heap.objs.size := by
        have e' : c = z ∨ c = TI ∨ c = TO ∨ c = i1 ∨ c = i2 := by simpa using hcm
        rcases e' with q | q | q | q | q
        · rw [q]; exact hzl
        · rw [q]; exact Heap.lt_size hTI
        · rw [q]; exact Heap.lt_size hTO
        · rw [q]; obtain ⟨_, e1, _⟩ := h1; exact Heap.lt_size e1
        · rw [q]; obtain ⟨_, e2, _⟩ := h2; exact Heap.lt_size e2
      rw [L2.upd_ne (Nat.ne_of_lt hlt)]
      exact (hf c hcm).1
  done := by
    intro X hP hw hK hc i pins s σ H E I hf st hg
    subst hP hw hK
    obtain ⟨hz, hTI, ⟨x0, y0, hTO⟩, h1, h2⟩ := st
    obtain ⟨xs, ys, hqx, hqy, hend⟩ := hg
    obtain ⟨its, rv, p1, _⟩ := I.tuple hqx
    obtain ⟨its2, rv2, p2, _⟩ := I.list hqy
    have ll := rv2.length
    have ll1 := rv.length
    have na : a ≠ i1 := fun q => by
      subst q
      obtain ⟨o1, g1, c1, _⟩ := id p1
      obtain ⟨o2, g2, c2, _⟩ := id h1
      rw [g1] at g2
      cases g2
      rw [c1] at c2
      exact absurd c2 (by decide)
    have hh : X.A.in1.handled = none := by simp [I.ok.hd hc]
    have nb : b ≠ i2 := fun q => by
      subst q
      obtain ⟨o1, g1, c1, _⟩ := id p2.isList
      obtain ⟨o2, g2, c2, _⟩ := id h2
      rw [g1] at g2
      cases g2
      rw [c1] at c2
      exact absurd c2 (by decide)
    have fin : ∀ (h' : Heap) (tk : Nat), (∀ c o, c ≠ z → c ≠ TO → c ≠ i1 → c ≠ i2 → s.heap.get? c = some o → h'.get? c = some o) → Inv X pins σ H { s with heap := h', toks := tk } := fun h' tk hk => I.turnedL (t' := tk) (ch := [z, TI, TO, i1, i2]) (fun c o hb q =>
      hk c o (fun q' => hb (by simp [q'])) (fun q' => hb (by simp [q'])) (fun q' => hb (by simp [q'])) (fun q' => hb (by simp [q'])) q) hf
    by_cases q1 : its.toArray.size ≤ i
    · have hx : its.toArray[i]? = none := Array.getElem?_eq_none q1
      by_cases q2 : its2.toArray.size ≤ i
      · have hy : its2.toArray[i]? = none := Array.getElem?_eq_none q2
        exact wpAny_pyNext_zipD2_end D (draws_endT hh na hx) (draws_end hh nb hy) hz hTI hTO ⟨rfl, h1, p1⟩ ⟨rfl, h2, p2.isList⟩ (Nat.le_refl _) (Nat.le_refl _) (.inl rfl) fun h' tk hk => ⟨rfl, fin h' tk hk⟩
      · exact wpAny_pyNext_zipD2_end D (draws_endT hh na hx) (Draws.list hh i2 b nb its2.toArray) hz hTI hTO ⟨rfl, h1, p1⟩ ⟨h2, p2.isList⟩ (Nat.le_refl _) (by omega) (.inl rfl) fun h' tk hk => ⟨rfl, fin h' tk hk⟩
    · have q2 : its2.toArray.size ≤ i := by
        rw [List.size_toArray] at q1 ⊢
        rcases hend with q | q
        · exact absurd (by omega) q1
        · omega
      have hy : its2.toArray[i]? = none := Array.getElem?_eq_none q2
      exact wpAny_pyNext_zipD2_end D (Draws.tuple hh i1 a na its.toArray) (draws_end hh nb hy) hz hTI hTO ⟨h1, p1⟩ ⟨rfl, h2, p2.isList⟩ (by omega) (Nat.le_refl _) (.inr rfl) fun h' tk hk => ⟨rfl, fin h' tk hk⟩
  self := fun A i s Q E st h => wpAny_pyIter_zip st.1 h
def iZipY (K : PySem.W.Frag) (ta : TA) : TI := fun σ H R => ta σ H fun vs H1 => (∃ a b xs ys, vs = [.ref a, .ref b] ∧ ((SqL K H1 a xs ∧ SqL K H1 b ys ∧ R (Itz K a b) H1) ∨ (SqT K H1 a xs ∧ SqT K H1 b ys ∧ R (RZ.ItzT K a b) H1))) ∨ (∃ x b ys, vs = [.str x, .ref b] ∧ SqL K H1 b ys ∧ R (ItSL K x b) H1) ∨ ∃ a b xs ys, vs = [.ref a, .ref b] ∧ SqT K H1 a xs ∧ SqL K H1 b ys ∧ R (ItTL K a b) H1
theorem pi_zipY {X : Cx} {e e2 : Expr} {ta : TA} {p pos tpos : Pos} {elts : List Expr} {kk : Nat} (hg : Gl X "zip") (hm : X.mg "zip" = none) (ha : PA X [e, e2] ta)
    (hs : starEach [e, e2] X.env = (false, eval e X.env) :: starEach [e2] X.env) (hpl : (backTo pos (starEach [e2] X.env)).any (·.1) = false) :
    PI X (.Tuple elts kk tpos) (.Call (.Name "zip" p) [e, e2] [] pos) (iZipY X.K ta) := by
  refine ⟨fun pins s σ H R I h => ?_⟩
  refine Call_ (ld_blt I hg hm PyProof.Rows.boot_zip (PyProof.Rows.callWith_type1 (L2.thn (ha.run pos pins s σ H _ I h) fun us s1 ⟨vs, H1, I1, r1, q1⟩ => ?_) hs hpl))
  have fresh5 : ∀ c, c ∈ [s1.heap.objs.size + 4, s1.heap.objs.size + 2, s1.heap.objs.size + 3, s1.heap.objs.size, s1.heap.objs.size + 1] → FpOk X pins H1 c := fun c hcm => by
    have e' : c = s1.heap.objs.size + 4 ∨ c = s1.heap.objs.size + 2 ∨ c = s1.heap.objs.size + 3 ∨ c = s1.heap.objs.size ∨ c = s1.heap.objs.size + 1 := by simpa using hcm
    have hle : s1.heap.objs.size ≤ c := by
      rcases e' with z | z | z | z | z
      · rw [z]; exact Nat.le_add_right _ _
      · rw [z]; exact Nat.le_add_right _ _
      · rw [z]; exact Nat.le_add_right _ _
      · rw [z]; exact Nat.le_refl _
      · rw [z]; exact Nat.le_add_right _ _
    exact I1.fpOk hle (I1.hok.fresh hle)
  rcases q1 with ⟨a, b, xs, ys, ex, q1⟩ | ⟨x, b, ys, ex, hqy, q⟩ | ⟨a, b, xs, ys, ex, hqx, hqy, q⟩
  · subst ex
    obtain ⟨u1, us', rfl, ru1, r2⟩ := r1.two
    cases ru1
    cases r2
    rcases q1 with ⟨hqx, hqy, q⟩ | ⟨hqx, hqy, q⟩
    · obtain ⟨its, rv, p1, _⟩ := I1.list hqx
      obtain ⟨its2, rv2, p2, _⟩ := I1.list hqy
      refine call_zip_2 p1.isList p2.isList fun h' hz hTI hTO h1 h2 hsz hk => wpAny_pyIter_zip hz ?_
      have I2 : Inv X pins σ H1 { s1 with heap := h' } := I1.kept (t' := s1.toks) hk
      exact ⟨s1.heap.objs.size + 4, [s1.heap.objs.size + 4, s1.heap.objs.size + 2, s1.heap.objs.size + 3, s1.heap.objs.size, s1.heap.objs.size + 1], _, _, H1, rfl, I2, turn_zip (PySem.W.ktu_apart s1.heap.objs.size a b p1.lt p2.lt), ⟨hz, hTI, ⟨_, _, hTO⟩, h1, h2⟩, fresh5, q⟩
    · obtain ⟨its, rv, p1, _⟩ := I1.tuple hqx
      obtain ⟨its2, rv2, p2, _⟩ := I1.tuple hqy
      obtain ⟨o1, ho1, _⟩ := id p1
      obtain ⟨o2, ho2, _⟩ := id p2
      refine RZ.call_zipT (show s1.heap.IsTuple a its.toArray from p1) (show s1.heap.IsTuple b its2.toArray from p2) fun h' hz hTI hTO h1 h2 hsz hk => wpAny_pyIter_zip hz ?_
      have I2 : Inv X pins σ H1 { s1 with heap := h' } := I1.kept (t' := s1.toks) hk
      exact ⟨s1.heap.objs.size + 4, [s1.heap.objs.size + 4, s1.heap.objs.size + 2, s1.heap.objs.size + 3, s1.heap.objs.size, s1.heap.objs.size + 1], _, _, H1, rfl, I2, RZ.turn_zipT (PySem.W.ktu_apart s1.heap.objs.size a b (Heap.lt_size ho1) (Heap.lt_size ho2)), ⟨hz, hTI, ⟨_, _, hTO⟩, h1, h2⟩, fresh5, q⟩
  · subst ex
    obtain ⟨u1, us', rfl, ru1, r2⟩ := r1.two
    obtain ⟨t, rfl⟩ := ru1
    cases r2
    obtain ⟨its2, rv2, p2, _⟩ := I1.list hqy
    have lb : b < s1.heap.objs.size := p2.lt
    refine zip_begins2 (begins_text x t) (begins_list b its2.toArray) trivial p2.isList fun h' hz hTI hTO h1 h2 hsz hk => wpAny_pyIter_zip hz ?_
    have I2 : Inv X pins σ H1 { s1 with heap := h' } := I1.kept (t' := s1.toks) hk
    exact ⟨s1.heap.objs.size + 4, [s1.heap.objs.size + 4, s1.heap.objs.size + 2, s1.heap.objs.size + 3, s1.heap.objs.size, s1.heap.objs.size + 1], _, _, H1, rfl, I2, turn_zipSL (t := t) (zip_sep2 (N := s1.heap.objs.size) (fp1 := []) (fp2 := [b]) (fun c hc => by cases hc) (fun c hc => by simp only [List.mem_singleton] at hc; subst hc; exact lb)), ⟨hz, hTI, ⟨_, _, hTO⟩, ⟨_, h1, rfl, rfl⟩, ⟨_, h2, rfl, rfl⟩⟩, fresh5, q⟩
  · subst ex
    obtain ⟨u1, us', rfl, ru1, r2⟩ := r1.two
    cases ru1
    cases r2
    obtain ⟨its, rv, p1, _⟩ := I1.tuple hqx
    obtain ⟨its2, rv2, p2, _⟩ := I1.list hqy
    have lb : b < s1.heap.objs.size := p2.lt
    obtain ⟨o1, ho1, _⟩ := id p1
    have la : a < s1.heap.objs.size := Heap.lt_size ho1
    refine zip_begins2 (begins_tuple a its.toArray) (begins_list b its2.toArray) (show s1.heap.IsTuple a its.toArray from p1) p2.isList fun h' hz hTI hTO h1 h2 hsz hk => wpAny_pyIter_zip hz ?_
    have I2 : Inv X pins σ H1 { s1 with heap := h' } := I1.kept (t' := s1.toks) hk
    exact ⟨s1.heap.objs.size + 4, [s1.heap.objs.size + 4, s1.heap.objs.size + 2, s1.heap.objs.size + 3, s1.heap.objs.size, s1.heap.objs.size + 1], _, _, H1, rfl, I2, turn_zipTL (zip_sep2 (N := s1.heap.objs.size) (fp1 := [a]) (fp2 := [b]) (fun c hc => by simp only [List.mem_singleton] at hc; subst hc; exact la) (fun c hc => by simp only [List.mem_singleton] at hc; subst hc; exact lb)), ⟨hz, hTI, ⟨_, _, hTO⟩, ⟨_, h1, rfl, rfl⟩, ⟨_, h2, rfl, rfl⟩⟩, fresh5, q⟩
section
variable {P : Program} {w : World} {K : PySem.W.Frag} {mg : Str → Option Value} {Z : Hp} {β : List Addr} {a b : Addr}
theorem walk_zipTL {xs : List D} {t : Src} (r1 : RepV P w K Z β (.tup xs) (.ref a)) (h2 : LstSrc P w K mg Z β b t) : WalkV P w K mg Z β (ItTL K a b) ⟨zipS (fixS xs).get t.get, fun V => (fixS xs).fin V && t.fin V⟩ := by
  obtain ⟨vs, s1, q1⟩ := tup_at r1
  refine ⟨fun i g e Φ Z' β' U H y z b R hg => ?_, fun Φ Z' β' U H z b R hf => ?_⟩
  · obtain ⟨g0, h0, e1, e2, q⟩ := zip_get e
    obtain ⟨x1, x2, y1, y2, rfl⟩ := q U y hg
    obtain ⟨d1, f1, k1⟩ := fix_get e1
    rw [k1] at y1
    cases y1
    obtain ⟨v, g1, p1⟩ := q1.get f1
    have s1' := SqT.le R.zle (SqT.le z s1)
    obtain ⟨us, u, s2, f2, r2⟩ := h2.get i h0 e2 Φ Z' β' U H x2 z b R y2
    refine ⟨⟨vs, us, v, u, s1', s2, g1, f2⟩, fun v' H' ⟨T, x, y, y1, hT, y2, y3, y4⟩ => ?_⟩
    have q1 := y3 vs s1'
    have q2 := y4 us s2
    rw [g1] at q1
    rw [f2] at q2
    cases q1
    cases q2
    subst y1 y2
    exact R.mkT (RepL.cons (RepV.mono z b p1) (RepL.cons r2 RepL.nil)) hT
  · simp only [Bool.and_eq_true] at hf
    obtain ⟨us, s2, e2⟩ := h2.fin Φ Z' β' U H z b R hf.2
    refine ⟨vs, us, SqT.le R.zle (SqT.le z s1), s2, ?_⟩
    have l1 := q1.length
    simp only [zip_len, fixS, List.length_map]
    omega
end
section
variable {X : Cx} {C : Cal} {W : WX} {e1 e2 : Expr} {a b : IE} {pos p tpos : Pos} {elts : List Expr} {kk : Nat}
theorem i_zipY (hg : Gl X "zip") (hm : X.mg "zip" = none) (ht : tame e1 = true) (ht2 : tame e2 = true) (ha : PE X e1 (xE X C W a)) (hb : PE X e2 (xE X C W b)) : PI X (.Tuple elts kk tpos) (.Call (.Name "zip" p) [e1, e2] [] pos) (xI X C W (.zip a b)) := by
  refine ⟨fun pins s σ H R' I ⟨Φ, Z, β, ρ, U, r, S, R, h, o⟩ => (pi_zipY hg hm (a_two ht ht2 ha hb) (star_tame ht [e2] _) (by rw [star_tame ht2]; rfl)).run pins s σ H R' I ?_⟩
  rw [evIt] at h
  refine tE_bndI S R h o fun Z1 β1 H1 d v U1 z1 b1 R1 r1 S1 h1 o1 => ?_
  refine tE_bndI S1 R1 h1 o1 fun Z2 β2 H2 d2 v2 U2 z2 b2 R2 r2 S2 h2 o2 => ?_
  have r1' := RepV.mono z2 b2 r1
  split at h2
  · rename_i s t hs
    cases h2
    unfold zipOf at hs
    split at hs
    · rename_i xs ys
      cases hs
      obtain ⟨a, vs, rfl, s1, q1⟩ := R2.tuple r1'
      obtain ⟨b, us, rfl, s2, q2⟩ := R2.tuple r2
      exact .inl ⟨a, b, vs, us, rfl, .inr ⟨s1, s2, o2.ok Z2 β2 H2 _ (ZLe.refl _) (BLe.refl _) R2 (walk_zipT r1' r2)⟩⟩
    · rename_i x y
      split at hs
      · rename_i t' hs2
        cases hs
        simp only [RepV] at r1'
        subst r1'
        obtain ⟨b, us, rfl, s2, l2⟩ := lstSrc R2 hs2 r2
        exact .inr (.inl ⟨_, b, us, rfl, s2, o2.ok Z2 β2 H2 _ (ZLe.refl _) (BLe.refl _) R2 (walk_zipSL l2)⟩)
      · cases hs
    · rename_i xs y hny
      split at hs
      · rename_i t' hs2
        cases hs
        obtain ⟨a, vs, rfl, s1, q1⟩ := R2.tuple r1'
        obtain ⟨b, us, rfl, s2, l2⟩ := lstSrc R2 hs2 r2
        exact .inr (.inr ⟨a, b, vs, us, rfl, s1, s2, o2.ok Z2 β2 H2 _ (ZLe.refl _) (BLe.refl _) R2 (walk_zipTL r1' l2)⟩)
      · cases hs
    · split at hs
      · rename_i s' t' hs1 hs2
        cases hs
        obtain ⟨a, vs, rfl, s1, l1⟩ := lstSrc R2 hs1 r1'
        obtain ⟨b, us, rfl, s2, l2⟩ := lstSrc R2 hs2 r2
        exact .inl ⟨a, b, vs, us, rfl, .inl ⟨s1, s2, o2.ok Z2 β2 H2 _ (ZLe.refl _) (BLe.refl _) R2 (walk_zip l1 l2)⟩⟩
      · cases hs
  · cases h2
end
end VI

/-! VIc24: o[i] = (..); a, b, c = x, y, z. -/
namespace VI
open PySem PySem.Spec PyProof.Rows L2
theorem stores_sub {e1 e2 : Expr} {p : Pos} (e : Expr) (env : Env) : swappedStores [.Subscript e1 e2 p] e env = pure none := by
  unfold swappedStores
  cases e <;> rfl
section
variable {X : Cx} {C : Cal} {W : WX} {e e1 e2 e3 : Expr} {a b c : IE} {pos p : Pos}
theorem s_asgIt (hu : X.A.units + 64 < cLine) (ha : PE X e (xE X C W a)) (hb : PE X e1 (xE X C W b)) (hc : PE X e2 (xE X C W c)) (ht : tame e2 = true) : PS X (.Assign [.Subscript e1 e2 p] e pos) (xS X C W (.asgI b c a)) := by
  refine (ps_asg ha (pg_sub hb hc (set_all hu) (by cases e2 <;> first | (intro _; rfl) | cases ht)) (by show swapsWith e (some (.Subscript e1 e2 p)) pos.line X.env = pure false; cases e <;> rfl) (stores_sub _ _) rfl).imp fun E σ H ⟨Φ, Z, β, ρ, U, r, S, R, h, o⟩ => ?_
  rw [exec] at h
  refine tE_bndS S R h o fun Z1 β1 H1 d v U1 z1 b1 R1 r1 S1 h1 o1 => ?_
  refine tE_bndS S1 R1 h1 o1 fun Z2 β2 H2 d2 v2 U2 z2 b2 R2 r2 S2 h2 o2 => ?_
  refine tE_bndS S2 R2 h2 o2 fun Z3 β3 H3 d3 v3 U3 z3 b3 R3 r3 S3 h3 o3 => ?_
  cases q : setIx d2 d3 d U3 with
  | none => rw [q] at h3; cases h3
  | some r4 =>
    rw [q] at h3
    cases r4 with
    | ex x V => exact (setIx_ok q).elim
    | ok _ U4 =>
      cases h3
      refine ⟨Φ, Z3, β3, U3, d2, d3, d, U4, R3, RepV.mono z3 b3 r2, r3, RepV.mono (z2.trans z3) (b2.trans b3) r1, q, fun Z4 β4 H4 z4 b4 R4 => ?_⟩
      exact o3 Z4 β4 H4 σ z4 b4 R4 (S3.mono z4 b4)
end
/-! ### three names at once -/
def noStar : Expr → Bool
  | .Starred _ _ => false
  | _ => true
/-- what the language asks so that the three are stored straight -/
def par3B (sc : Scope) (x y z : Str) (px py pz : Pos) (a b d : Expr) : Bool :=
  ((if sc.kind.isAnnotationScope then .function else sc.kind) == .function) && decide (sc.names.lookup x = some .local) && decide (sc.names.lookup y = some .local) && decide (sc.names.lookup z = some .local) && (py.line == px.line) && (pz.line == px.line) &&
  decide (x ≠ y) && decide (x ≠ z) && decide (y ≠ z) && !([a, b, d].all (foldedForSure 8)) && !([a, b, d].all (constantsAlone 8)) && [a, b, d].all noStar
def starB : Expr → Bool
  | .Starred .. => true
  | _ => false
def nmB (env : Env) (line : Nat) : Expr → Option Str
  | .Name id pos => if env.kindOf id == some .local && pos.line == line then some id else none
  | _ => none
theorem par3_stores {env : Env} {x y z : Str} {px py pz : Pos} {a b d : Expr} {k k2 : Nat} {p p2 : Pos} (h : par3B env.scope x y z px py pz a b d = true) : swappedStores [.Tuple [.Name x px, .Name y py, .Name z pz] k p] (.Tuple [a, b, d] k2 p2) env = pure (some [x, y, z]) := by
  unfold par3B at h
  simp only [Bool.and_eq_true, decide_eq_true_eq, Bool.not_eq_true'] at h
  obtain ⟨⟨⟨⟨⟨⟨⟨⟨⟨⟨⟨h1, h2⟩, h3⟩, h4⟩, h5⟩, h6⟩, h7⟩, h8⟩, h9⟩, h10⟩, h11⟩, h12⟩ := h
  have hb : (env.blockKind != .function) = false := by
    show (!(env.blockKind == .function)) = false
    rw [show (env.blockKind == .function) = true from h1]
    rfl
  have st : [a, b, d].any starB = false := by
    rw [List.any_eq_false]
    intro e he
    have := List.all_eq_true.mp h12 e he
    cases e <;> first | (cases this; done) | (intro q; cases q)
  have kx : env.kindOf x = some .local := h2
  have ky : env.kindOf y = some .local := h3
  have kz : env.kindOf z = some .local := h4
  have fm : [Expr.Name x px, .Name y py, .Name z pz].filterMap (nmB env px.line) = [x, y, z] := by
    have e1 : nmB env px.line (.Name x px) = some x := by
      show (if env.kindOf x == some .local && px.line == px.line then some x else none) = _
      rw [kx]
      simp
    have e2 : nmB env px.line (.Name y py) = some y := by
      show (if env.kindOf y == some .local && py.line == px.line then some y else none) = _
      rw [ky, h5]
      simp
    have e3 : nmB env px.line (.Name z pz) = some z := by
      show (if env.kindOf z == some .local && pz.line == px.line then some z else none) = _
      rw [kz, h6]
      simp
    simp only [List.filterMap_cons, e1, e2, e3, List.filterMap_nil]
  have dd : [x, y, z].eraseDups = [x, y, z] := by
    have a1 : (y == x) = false := beq_eq_false_iff_ne.mpr fun q => h7 q.symm
    have a2 : (z == x) = false := beq_eq_false_iff_ne.mpr fun q => h8 q.symm
    have a3 : (z == y) = false := beq_eq_false_iff_ne.mpr fun q => h9 q.symm
    simp [List.eraseDups_cons, a1, a2, a3]
  have third : (([Expr.Name x px, .Name y py, .Name z pz].filterMap (nmB env px.line)).length != 3 || ([Expr.Name x px, .Name y py, .Name z pz].filterMap (nmB env px.line)).eraseDups.length != ([Expr.Name x px, .Name y py, .Name z pz].filterMap (nmB env px.line)).length) = false := by
    rw [fm, dd]
    rfl
  have c1 : (!(3 == 2 || 3 == 3) || (3 != 3) || env.blockKind != .function) = false := by rw [hb]; rfl
  unfold swappedStores
  simp only [pure_bind]
  refine Eq.trans (if_neg fun q => Bool.false_ne_true (c1.symm.trans q)) ?_
  refine Eq.trans (if_neg fun q => Bool.false_ne_true (st.symm.trans q)) ?_
  refine Eq.trans (if_neg fun q => Bool.false_ne_true (third.symm.trans q)) ?_
  refine Eq.trans (if_neg fun q => Bool.false_ne_true (h10.symm.trans q)) ?_
  refine Eq.trans (if_neg fun q => Bool.false_ne_true (h11.symm.trans q)) ?_
  exact congrArg (fun l : List Str => (pure (some l) : Sem (Option (List Str)))) fm
section
variable {X : Cx} {C : Cal} {W : WX} {e1 e2 e3 : Expr} {as : IEs} {pos p p2 px py pz : Pos} {k k2 : Nat}
theorem s_par3 {i j l : Nat} {x y z : Str} (hc : X.calm = true) (h1 : Sets X i x) (h2 : Sets X j y) (h3 : Sets X l z) (hp : par3B X.env.scope x y z px py pz e1 e2 e3 = true) (ha : PA X [e1, e2, e3] (xA X C W as)) :
    PS X (.Assign [.Tuple [.Name x px, .Name y py, .Name z pz] k p] (.Tuple [e1, e2, e3] k2 p2) pos) (xS X C W (.asg (.tup [i, j, l]) (.tup as))) := by
  have hp' := hp
  unfold par3B at hp'
  simp only [Bool.and_eq_true, decide_eq_true_eq, Bool.not_eq_true'] at hp'
  obtain ⟨⟨⟨⟨⟨⟨⟨⟨⟨⟨⟨q1, lx⟩, ly⟩, lz⟩, q5⟩, q6⟩, nxy⟩, nxz⟩, nyz⟩, q10⟩, q11⟩, q12⟩ := hp'
  have apart : ∀ {a b : Nat} {u v : Str}, X.N[a]? = some u → X.N[b]? = some v → u ≠ v → a ≠ b := fun {a b u v} ea eb ne q => by
    subst q
    rw [ea] at eb
    exact ne (Option.some.inj eb)
  refine (ps_par3 hc h1.nd h1.at_ h2.at_ h3.at_ (apart h1.at_ h2.at_ nxy) (apart h1.at_ h3.at_ nxz) (apart h2.at_ h3.at_ nyz) lx ly lz ha (par3_stores hp) (swaps_tup _ _ _)).imp fun E σ H ⟨Φ, Z, β, ρ, U, r, S, R, h, o⟩ => ?_
  rw [exec, ev] at h
  cases q : evs C as ρ U with
  | none => rw [q] at h; cases h
  | some r1 =>
    rw [q] at h
    refine ⟨Φ, Z, β, ρ, U, r1, S, R, q, ?_⟩
    cases r1 with
    | ex x V =>
      cases h
      exact o Z β σ (ZLe.refl Z) (BLe.refl β) S
    | ok ds V =>
      intro Z1 β1 H1 vs z1 b1 R1 rl
      simp only [bnd_ok, bndS_ok, asgT, asQ] at h
      match ds, h with
      | [a, b, d], h =>
        simp only [setAll] at h
        cases h
        simp only [RepL] at rl
        obtain ⟨u, s1, rfl, r1, v, s2, rfl, r2, w, s3, rfl, r3, rfl⟩ := rl
        exact ⟨u, v, w, rfl, o Z1 β1 H1 _ z1 b1 R1 ((((S.mono z1 b1).set r1).set r2).set r3)⟩
      | [], h => simp only [setAll] at h; cases h
      | [_], h => simp only [setAll] at h; cases h
      | [_, _], h => simp only [setAll] at h; cases h
      | _ :: _ :: _ :: _ :: _, h => simp only [setAll] at h; cases h
end
end VI

/-! VIc25: enumerate(tuple). -/
namespace VI
open PySem PySem.Spec PyProof.Rows L2
set_option maxHeartbeats 1000000 in
theorem meets_enumerate_new1 {v : Value} {o : Obj} {H : Heap → Prop} (B : Begins v o H) :
    Meets (Builtin.«enumerate.__new__» ⟨[.type "enumerate", v], []⟩) (fun _ R s => H s.heap ∧
      R (.ok (.ret (.ref (s.heap.push o).objs.size))) { s with heap := (s.heap.push o).push { cls := .type "enumerate", data := .fields #[.none, .bool false, .ref s.heap.objs.size, rawInt 0, .none, .none] } }) :=
  .of_wp fun prog w A R s h => by
    obtain ⟨hp, g, d, tk, os⟩ := s; obtain ⟨h1, h⟩ := h
    have hsub := sub_enumerate
    have q1 : ∀ {A' : Around} {E : Value → Shared → Prop} {Q : Value → Shared → Prop}, Q (.ref hp.objs.size) ⟨hp.push o, g, d, tk, os⟩ → wpAny (model prog w) A' (pyIter v) Q E ⟨hp, g, d, tk, os⟩ :=
      fun q => B.iter prog w _ _ ⟨hp, g, d, tk, os⟩ _ h1 q
    wp_walk using q1
    refine wpAny_stack_any fun st => wpAny_pure ?_
    split
    · rename_i c _ _ _ _ _
      cases (c == Value.type "enumerate")
      · wp_walk using q1
        exact ⟨_, rfl, h⟩
      · wp_walk using q1
        exact ⟨_, rfl, h⟩
    · wp_walk using q1
      exact ⟨_, rfl, h⟩
section
variable {prog : Program} {w : World} {A : Around} {E : Value → Shared → Prop} {s : Shared}
theorem enum_begins1 {v : Value} {o : Obj} {H : Heap → Prop} {Q : Value → Shared → Prop} (B : Begins v o H) (h1 : H s.heap)
    (h : ∀ h', IsEnum h' (s.heap.objs.size + 1) s.heap.objs.size 0 .none → h'.get? s.heap.objs.size = some o → h'.objs.size = s.heap.objs.size + 2 →
      (∀ b o, s.heap.get? b = some o → h'.get? b = some o) → Q (.ref (s.heap.objs.size + 1)) { s with heap := h' }) :
    wpAny (model prog w) A (call (.type "enumerate") [v]) Q E s := by
  refine callType_new F.called_enumerate (by decide) (F.typeCall_enumerate_1 _) (F.newCall_enumerate_1 _) (fun obj => F.args_object_init_2 obj _) F.entry_enumerate_new
    (meets_enumerate_new1 B) ⟨h1, ?_⟩
  have hz : (s.heap.push o).objs.size = s.heap.objs.size + 1 := Heap.size_push ..
  show _ ∧ _
  rw [hz]
  have he : IsEnum ((s.heap.push o).push { cls := .type "enumerate", data := .fields #[.none, .bool false, .ref s.heap.objs.size, rawInt 0, .none, .none] }) (s.heap.objs.size + 1) s.heap.objs.size 0 .none := by
    have := Heap.get?_push_size (s.heap.push o) (o := { cls := .type "enumerate", data := .fields #[.none, .bool false, .ref s.heap.objs.size, rawInt 0, .none, .none] }) rfl
    rw [hz] at this; exact this
  refine ⟨⟨_, he, rfl⟩, h _ he (Heap.get?_push_of_some _ (Heap.get?_push_size _ B.free)) (by rw [Heap.size_push, hz]) fun b o x => Heap.get?_push_of_some _ (Heap.get?_push_of_some _ x)⟩
theorem enum_endT {e it l : Addr} {i : Nat} {c : Int} {items : Array Value} {old : Value} {Q : Option Value → Shared → Prop} (hh : A.handled = none)
    (he : IsEnum s.heap e it c old) (hit : s.heap.IsTupleIter it l i) (hl : s.heap.IsTuple l items) (hx : items[i]? = none)
    (hQ : ∀ h', Heap.ExtBut it s.heap h' → Q none { s with heap := h' }) : wpAny (model prog w) A (pyNext (.ref e)) Q E s := by
  have hT : s.TypeIs (.ref e) "enumerate" := ⟨_, he, rfl⟩
  unfold pyNext
  refine wpAny_bind (wpAny_attempt (wpAny_callSpecial?_slot (name := Str.ofString "__next__") hT F.slot_enumerate_next
    (wpAny_call_entry F.slot_enumerate_next hT F.entry_enumerate_next ?_ (F.args_enumerate_next_1 _))))
  show wpAny _ _ (field (.ref e) 2 >>= _) _ _ _
  refine wpAny_bind (wpAny_field he rfl (x := .ref it) rfl ?_)
  refine wpAny_bind (wpAny_nextOf_tuple_end hh hit hl hx fun h' x he' hx' => ?_)
  obtain ⟨o, ho, hc⟩ := hx'
  refine wpAny_bind (wpAny_isInstance (T := "StopIteration") (b := true) ⟨o, ho, hc⟩ isSubtype_stop ?_)
  exact wpAny_pure (hQ _ he')
end
def ItT (K : PySem.W.Frag) (a : Addr) : L2.It :=
  ⟨fun i H => ∃ (xs : List V) (x : V), SqT K H a xs ∧ xs[i]? = some x, fun i H v H' => ∃ T x, v = .ref T ∧ H T = none ∧ H' = L2.upd H T (.tup [.int ((i : Nat) : Int), x]) ∧ ∀ xs, SqT K H a xs → xs[i]? = some x, fun i H => ∃ xs : List V, SqT K H a xs ∧ xs.length ≤ i⟩
theorem turn_enumT {P : Program} {w : World} {K : PySem.W.Frag} {elts : List Expr} {kk : Nat} {tpos : Pos} (a e it : Addr) :
    Turn P w K (.Tuple elts kk tpos) (ItT K a) [e, it] e (fun i h => (∃ old, IsEnum h e it ((i : Nat) : Int) old) ∧ h.IsTupleIter it a i ∧ e ≠ it) where
  mem := by simp
  obj := fun i h st b hb => by
    obtain ⟨⟨old, he⟩, ⟨o, ho, hc, hd⟩, _⟩ := st
    have e' : b = e ∨ b = it := by simpa using hb
    rcases e' with z | z
    · rw [z]; exact ⟨_, he, fun v q => nomatch q⟩
    · rw [z]; exact ⟨o, ho, fun v q => by rw [hd] at q; cases q⟩
  keep := fun i h h' st k => let ⟨⟨old, he⟩, hi, hne⟩ := st; ⟨⟨old, k e (by simp) _ he⟩, hi.at fun o q => k it (by simp) o q, hne⟩
  item := by
    intro X hP hw hK hc i pins s σ H E I hf st hg
    subst hP hw hK
    obtain ⟨⟨old, he⟩, hit, hne⟩ := st
    obtain ⟨xs, x, hq, hx⟩ := hg
    obtain ⟨its, rv, p, hz⟩ := I.tuple hq
    obtain ⟨u, hu, ru⟩ := rv.get hx
    have hel : e < s.heap.objs.size := Heap.lt_size he
    have hil : it < s.heap.objs.size := by obtain ⟨_, q, _⟩ := hit; exact Heap.lt_size q
    have hh : X.A.handled = none := I.ok.hd hc
    have il : s.heap.IsTuple a its.toArray := p
    have nal : a ≠ it := fun q => by
      subst q
      obtain ⟨o1, g1, c1, _⟩ := id il
      obtain ⟨o2, g2, c2, _⟩ := id hit
      rw [g1] at g2
      cases g2
      rw [c1] at c2
      exact absurd c2 (by decide)
    have nae : a ≠ e := fun q => by
      subst q
      obtain ⟨o1, g1, c1, _⟩ := id il
      rw [show s.heap.get? a = _ from he] at g1
      cases g1
      have c2 : Value.type "enumerate" = Value.type "tuple" := c1
      exact absurd c2 (by decide)
    have iln : i < its.toArray.size := by
      have := (List.getElem?_eq_some_iff.mp hu).1
      rw [List.size_toArray]
      exact this
    refine wpAny_pyNext_enum_itemC (Draws.tuple (A := X.A.in1) (by simp [hh]) it a nal its.toArray) he ⟨hit, il⟩ iln hne (by simp only [List.mem_cons, List.not_mem_nil, or_false, not_or]; exact ⟨hne, Ne.symm nae⟩) fun x' h' tk hx' ho st' hT hsz hk => ?_
    have hxu : x' = u := by
      have h1 : its.toArray[i]? = some u := by simpa using hu
      rw [h1] at hx'
      exact (Option.some.inj hx').symm
    subst hxu
    refine ⟨_, rfl, wpAny_letOwnedTupleGo_enum (s := { s with heap := h', toks := tk + 1 }) ho fun h'' he' sb => ?_⟩
    have hT2 : h''.get? s.heap.objs.size = some { cls := .type "tuple", data := .seq #[.int (i : Nat) tk, x'] } := (sb.2 _ (Nat.ne_of_gt hel)).trans hT
    have new : ObjOk X.prog X.w (L2.upd H s.heap.objs.size (.tup [.int ((i : Nat) : Int), x])) h'' s.heap.objs.size (.tup [.int ((i : Nat) : Int), x]) :=
      ⟨by show 2 ≤ sizeLine; decide, [.int (i : Nat) tk, x'], .cons ⟨_, rfl⟩ (.cons ru .nil), ⟨_, hT2, rfl, _, rfl⟩⟩
    have I1 : Inv X pins σ (L2.upd H s.heap.objs.size (.tup [.int ((i : Nat) : Int), x])) { s with heap := h'', toks := tk + 1 } :=
      I.turnedNew (ch := [e, it]) (fun b ob hb q => (sb.2 b (fun z => hb (by simp [z]))).trans (hk b ob (fun z => hb (by simp [z])) (fun z => hb (by simp [z])) q)) hf (Nat.le_refl _) new
    refine ⟨.ref s.heap.objs.size, _, I1, rfl, ⟨_, x, rfl, I.hok.fresh (Nat.le_refl _), rfl, fun ys hy => by rw [I.tuple_inj hy hq]; exact hx⟩, ⟨⟨x', ?_⟩, st'.1.at fun o q => (sb.2 it (Ne.symm hne)).trans q, hne⟩, fun b hb => ?_⟩
    · have e1 : ((i + 1 : Nat) : Int) = (i : Int) + 1 := by omega
      rw [e1]; exact he'
    · have hb' : b < s.heap.objs.size := by
        have e' : b = e ∨ b = it := by simpa using hb
        rcases e' with z | z
        · rw [z]; exact hel
        · rw [z]; exact hil
      rw [L2.upd_ne (Nat.ne_of_lt hb')]
      exact (hf b hb).1
  done := by
    intro X hP hw hK hc i pins s σ H E I hf st hg
    subst hP hw hK
    obtain ⟨⟨old, he⟩, hit, hne⟩ := st
    obtain ⟨xs, hq, hx⟩ := hg
    obtain ⟨its, rv, p, hz⟩ := I.tuple hq
    obtain ⟨f0, f1, f2, f3, f4, f5⟩ := hf it (by simp)
    have hl := rv.length
    exact enum_endT (I.ok.hd hc) he hit (show s.heap.IsTuple a its.toArray from p) (by simp; omega) fun h' eb => ⟨rfl, I.turned (t' := s.toks) (fun b o hb q => eb b o hb q) f0 f1 f3 f4 f5⟩
  self := fun A i s Q E st h => let ⟨⟨_, he⟩, _⟩ := st; wpAny_pyIter_enum he h

def iEnumT (K : PySem.W.Frag) (ta : TA) : TI := fun σ H R => ta σ H fun vs H1 => ∃ a xs, vs = [.ref a] ∧ ((SqL K H1 a xs ∧ R (Ite K a) H1) ∨ (SqT K H1 a xs ∧ R (ItT K a) H1))
theorem pi_enumT {X : Cx} {e : Expr} {ta : TA} {p pos tpos : Pos} {elts : List Expr} {kk : Nat} (hg : Gl X "enumerate") (hm : X.mg "enumerate" = none) (ha : PA X [e] ta) (hs : starEach [e] X.env = [(false, eval e X.env)]) :
    PI X (.Tuple elts kk tpos) (.Call (.Name "enumerate" p) [e] [] pos) (iEnumT X.K ta) := by
  refine ⟨fun pins s σ H R I h => ?_⟩
  refine Call_ (ld_blt I hg hm boot_enumerate (PyProof.Rows.callWith_type1 (L2.thn (ha.run pos pins s σ H _ I h) fun us s1 ⟨vs, H1, I1, r1, q1⟩ => ?_) hs rfl))
  obtain ⟨a, xs, ex, q1⟩ := q1
  subst ex
  obtain ⟨u, rfl, ru⟩ := r1.one
  cases ru
  have fp : ∀ b ∈ [s1.heap.objs.size + 1, s1.heap.objs.size], FpOk X pins H1 b := fun b hb => by
    have e' : b = s1.heap.objs.size + 1 ∨ b = s1.heap.objs.size := by simpa using hb
    have hle : s1.heap.objs.size ≤ b := by
      rcases e' with z | z
      · rw [z]; exact Nat.le_add_right _ _
      · rw [z]; exact Nat.le_refl _
    exact I1.fpOk hle (I1.hok.fresh hle)
  rcases q1 with ⟨hq, q⟩ | ⟨hq, q⟩
  · obtain ⟨its, rv, p', hz⟩ := I1.list hq
    refine call_enumerate_list p'.isList fun h' he hit hsz hk => wpAny_pyIter_enum he ?_
    have I2 : Inv X pins σ H1 { s1 with heap := h' } := I1.kept (t' := s1.toks) hk
    exact ⟨s1.heap.objs.size + 1, [s1.heap.objs.size + 1, s1.heap.objs.size], _, _, H1, rfl, I2, turn_enum a (s1.heap.objs.size + 1) s1.heap.objs.size, ⟨⟨.none, he⟩, hit, Nat.succ_ne_self _⟩, fp, q⟩
  · obtain ⟨its, rv, p', hz⟩ := I1.tuple hq
    refine enum_begins1 (begins_tuple a its.toArray) (show s1.heap.IsTuple a its.toArray from p') fun h' he hit hsz hk => wpAny_pyIter_enum he ?_
    have I2 : Inv X pins σ H1 { s1 with heap := h' } := I1.kept (t' := s1.toks) hk
    exact ⟨s1.heap.objs.size + 1, [s1.heap.objs.size + 1, s1.heap.objs.size], _, _, H1, rfl, I2, turn_enumT a (s1.heap.objs.size + 1) s1.heap.objs.size, ⟨⟨.none, he⟩, ⟨_, hit, rfl, rfl⟩, Nat.succ_ne_self _⟩, fp, q⟩
theorem walk_enumT {P : Program} {w : World} {K : PySem.W.Frag} {mg : Str → Option Value} {Z : Hp} {β : List Addr} {a : Addr} {xs : List D} (r : RepV P w K Z β (.tup xs) (.ref a)) : WalkV P w K mg Z β (ItT K a) ⟨enumS 0 0 (fixS xs).get, (fixS xs).fin⟩ := by
  obtain ⟨vs, s1, q1⟩ := tup_at r
  refine ⟨fun i g e Φ Z' β' U H x z b R hg => ?_, fun Φ Z' β' U H z b R hf => ?_⟩
  · obtain ⟨g0, e0, q0⟩ := enum_get e
    rw [q0, Option.map_eq_some_iff] at hg
    obtain ⟨y, hy, rfl⟩ := hg
    obtain ⟨d1, f1, k1⟩ := fix_get e0
    rw [k1] at hy
    cases hy
    obtain ⟨v, g1, p1⟩ := q1.get f1
    have s1' := SqT.le R.zle (SqT.le z s1)
    refine ⟨⟨vs, v, s1', g1⟩, fun v' H' ⟨T, x, y1, hT, y2, y3⟩ => ?_⟩
    have := y3 vs s1'
    rw [g1] at this
    cases this
    subst y1 y2
    have q : RepL P w K Z' β' [D.int (0 + ((0 + i : Nat) : Int)), y] [V.int (i : Nat), v] := by
      refine RepL.cons ?_ (RepL.cons (RepV.mono z b p1) RepL.nil)
      simp only [RepV]
      simp
    exact R.mkT q hT
  · refine ⟨vs, SqT.le R.zle (SqT.le z s1), ?_⟩
    have l1 := q1.length
    simp only [enum_len, fixS, List.length_map]
    omega
section
variable {X : Cx} {C : Cal} {W : WX} {e : Expr} {a : IE} {pos p tpos : Pos} {elts : List Expr} {kk : Nat}
theorem i_enum (hg : Gl X "enumerate") (hm : X.mg "enumerate" = none) (ht : tame e = true) (ha : PE X e (xE X C W a)) : PI X (.Tuple elts kk tpos) (.Call (.Name "enumerate" p) [e] [] pos) (xI X C W (.enum a 0)) := by
  refine ⟨fun pins s σ H R' I ⟨Φ, Z, β, ρ, U, r, S, R, h, o⟩ => (pi_enumT hg hm (a_one ht ha) (star_tame ht [] _)).run pins s σ H R' I ?_⟩
  rw [evIt] at h
  refine tE_bndI S R h o fun Z1 β1 H1 d v U1 z1 b1 R1 r1 S1 h1 o1 => ?_
  split at h1
  · rename_i src hs
    rw [if_pos (.inl rfl)] at h1
    cases h1
    obtain ⟨a, vs, rfl, s, ls⟩ := lstSrc R1 hs r1
    exact ⟨a, vs, rfl, .inl ⟨s, o1.ok Z1 β1 H1 _ (ZLe.refl _) (BLe.refl _) R1 (walk_enum ls)⟩⟩
  · split at h1
    · rw [if_pos rfl] at h1
      cases h1
      obtain ⟨a, vs, rfl, s, q⟩ := R1.tuple r1
      exact ⟨a, vs, rfl, .inr ⟨s, o1.ok Z1 β1 H1 _ (ZLe.refl _) (BLe.refl _) R1 (walk_enumT r1)⟩⟩
    · cases h1
end
end VI

/-! VId1: the check that ties the IR to the text; expressions. -/
namespace VI
open PySem PySem.Spec PyProof.Rows L2
/-! ### isinstance -/
section
variable {X : Cx} {C : Cal} {W : WX} {e : Expr} {a : IE} {pos p p2 : Pos}
theorem ty_of {H : Hp} {Φ : List (Addr × HO)} {Z : Hp} {β : List Addr} {U : Store} {d : D} {v : V} {t : String} (R : Rel X.prog X.w X.K X.mg Φ Z β U H) (r : RepV X.prog X.w X.K Z β d v) (h : tyN U d = some t) : TyX X.K H v (.type t) := by
  have lst : ∀ xs, asL U d = some xs → TyX X.K H v (.type "list") := fun xs hl => by
    obtain ⟨p, vs, rfl, sq, q⟩ := R.list hl r
    rcases sq with (sq | ⟨o, sq⟩) | ⟨o, its, n, h1, h2, _⟩
    · exact .base (.lst sq)
    · exact .base (.frz sq)
    · exact .kList h1 h2
  have dct : ∀ kvs, asD U d = some (0, kvs) → TyX X.K H v (.type "dict") := fun kvs hd => by
    obtain ⟨p, rfl, h⟩ := R.dict hd r
    rcases h with ⟨_, l, e, q1⟩ | ⟨h0, _⟩
    · exact .base (.dK e)
    · cases h0
  unfold tyN at h
  split at h
  · cases h; simp only [RepV] at r; subst r; exact .base .non
  · cases h; simp only [RepV] at r; subst r; exact .base (.bl _)
  · cases h; simp only [RepV] at r; subst r; exact .base (.int _)
  · cases h; simp only [RepV] at r; subst r; exact .base (.str _)
  · cases h
    obtain ⟨p, vs, rfl, sq, q⟩ := R.tuple r
    rcases sq with (sq | ⟨o, sq⟩) | ⟨o, its, n, h1, h2, _⟩
    · exact .base (.tup sq)
    · exact .fTuple sq
    · exact .kTuple h1 h2
  · cases h; exact lst _ rfl
  · split at h
    · rename_i h0
      subst h0
      cases h
      exact dct _ rfl
    · cases h
  · split at h
    · rename_i xs hu
      cases h
      exact lst xs (by simp [asL, hu])
    · rename_i t' kvs hu
      split at h
      · rename_i h0
        subst h0
        cases h
        exact dct kvs (by simp [asD, hu])
      · cases h
    · cases h
  · cases h
theorem kit_some {t c : String} (ht : t ∈ ["NoneType", "bool", "int", "str", "tuple", "list", "dict"]) (hc : c ∈ someTypes) : kitB t c = some (t == c || (t == "bool" && c == "int")) := by
  have h : (["NoneType", "bool", "int", "str", "tuple", "list", "dict"].all fun t => someTypes.all fun c => decide (kitB t c = some (t == c || (t == "bool" && c == "int")))) = true := by decide +kernel
  rw [List.all_eq_true] at h
  have h1 := h t ht
  rw [List.all_eq_true] at h1
  exact of_decide_eq_true (h1 c hc)
theorem tyN_mem {U : Store} {d : D} {t : String} (h : tyN U d = some t) : t ∈ ["NoneType", "bool", "int", "str", "tuple", "list", "dict"] := by
  unfold tyN at h
  repeat' split at h
  all_goals first
    | (cases h; simp; done)
    | cases h
theorem boot_type {c : String} (h : c ∈ someTypes) : bootBuiltins (Str.ofString c) = some (.type c) ∧ Str.ofString c ≠ "__name__" ∧ (Str.ofString c == ("__debug__" : Str)) = false := by
  simp only [someTypes, List.mem_cons, List.not_mem_nil, or_false] at h
  rcases h with rfl | rfl | rfl | rfl | rfl | rfl <;> exact ⟨by decide +kernel, by decide +kernel, by decide +kernel⟩
theorem n_isin {c : String} (hc : c ∈ someTypes) (hg : Gl X "isinstance") (hm : X.mg "isinstance" = none) (hg2 : Gl X (Str.ofString c)) (hm2 : X.mg (Str.ofString c) = none) (ht : tame e = true) (ha : PE X e (xE X C W a)) :
    PE X (.Call (.Name "isinstance" p) [e, .Name (Str.ofString c) p2] [] pos) (xE X C W (.isin a [c])) := by
  obtain ⟨b1, b2, b3⟩ := boot_type hc
  have h2 : PE X (.Name (Str.ofString c) p2) (tC (.ty c)) := pe_bltn hg2 hm2 b1 rfl b2 b3
  refine (pe_callB call_isi hg hm (by decide +kernel) (pa_cons ha (pa_cons h2 pa_nil) (star_tame ht _ _)) (by decide +kernel) (by decide +kernel) (star_tame ht _ _) rfl).imp fun σ H Q ⟨Φ, Z, β, ρ, U, r, S, R, h, o⟩ => ?_
  rw [ev] at h
  refine tE_bnd S R h o.wish fun Z1 β1 H1 d v U1 z1 b1 R1 r1 S1 h1 => ?_
  split at h1
  · rename_i k hk
    cases h1
    have hk1 : isInst1 U1 d c = some k := by
      simp only [isInst] at hk
      split at hk <;> simp_all
    unfold isInst1 at hk1
    split at hk1
    · simp only [RepV] at r1
    · split at hk1
      · rename_i t hty
        split at hk1
        · have hk2 := Option.some.inj hk1
          exact ⟨v, .ty c, .type t, .type c, k, rfl, .ty c, ty_of R1 r1 hty, kit_ty (by rw [← hk2]; exact kit_some (tyN_mem hty) hc), (o.monoE z1 b1).ok.bl R1⟩
        · cases hk1
      · cases hk1
  · cases h1
/-- two types -/
theorem n_isin2 {c c2 : String} {p3 p4 : Pos} {kk : Nat} (hc : c ∈ someTypes) (hc2 : c2 ∈ someTypes) (hg : Gl X "isinstance") (hm : X.mg "isinstance" = none) (hg2 : Gl X (Str.ofString c)) (hm2 : X.mg (Str.ofString c) = none) (hg3 : Gl X (Str.ofString c2)) (hm3 : X.mg (Str.ofString c2) = none) (ht : tame e = true) (ha : PE X e (xE X C W a)) :
    PE X (.Call (.Name "isinstance" p) [e, .Tuple [.Name (Str.ofString c) p2, .Name (Str.ofString c2) p3] kk p4] [] pos) (xE X C W (.isin a [c, c2])) := by
  obtain ⟨b1, b2, b3⟩ := boot_type hc
  obtain ⟨b4, b5, b6⟩ := boot_type hc2
  have h2 : PE X (.Name (Str.ofString c) p2) (tC (.ty c)) := pe_bltn hg2 hm2 b1 rfl b2 b3
  have h3 : PE X (.Name (Str.ofString c2) p3) (tC (.ty c2)) := pe_bltn hg3 hm3 b4 rfl b5 b6
  have h4 : PE X (.Tuple [.Name (Str.ofString c) p2, .Name (Str.ofString c2) p3] kk p4) (tTup (tCons (tC (.ty c)) (tCons (tC (.ty c2)) tNil))) := pe_tup (pa_cons h2 (pa_cons h3 pa_nil))
  refine (pe_callB call_isiT hg hm (by decide +kernel) (pa_cons ha (pa_cons h4 pa_nil) (star_tame ht _ _)) (by decide +kernel) (by decide +kernel) (star_tame ht _ _) rfl).imp fun σ H Q ⟨Φ, Z, β, ρ, U, r, S, R, h, o⟩ => ?_
  rw [ev] at h
  refine tE_bnd S R h o.wish fun Z1 β1 H1 d v U1 z1 b1 R1 r1 S1 h1 => ?_
  split at h1
  · rename_i k hk
    cases h1
    have one : ∀ c b, c ∈ someTypes → isInst1 U1 d c = some b → ∃ t, tyN U1 d = some t ∧ kitB t c = some b := fun c b hc hk1 => by
      unfold isInst1 at hk1
      split at hk1
      · simp only [RepV] at r1
      · split at hk1
        · rename_i t hty
          split at hk1
          · have hk2 := Option.some.inj hk1
            exact ⟨t, hty, by rw [← hk2]; exact kit_some (tyN_mem hty) hc⟩
          · cases hk1
        · cases hk1
    refine ⟨show 2 ≤ sizeLine by decide, fun q hq => ?_⟩
    have R2 := (R1.aside hq (.tup [V.ty c, V.ty c2])).drop
    have done : ∀ t, tyN U1 d = some t → PySem.W.kitAny X.K (.type t) [.type c, .type c2] = some k → rIsiT X.K [v, .ref q] (L2.upd H1 q (.tup [V.ty c, V.ty c2])) Q := fun t hty e => ⟨v, q, _, .type t, _, k, rfl, L2.upd_same, .cons (.ty c) (.cons (.ty c2) .nil), ty_of R2 r1 hty, e, (o.monoE z1 b1).ok.bl R2⟩
    simp only [isInst] at hk
    split at hk
    · rename_i h5
      obtain ⟨t, hty, e1⟩ := one c _ hc h5
      cases hk
      exact done t hty (kitAny_cons (kit_ty e1) (fun z => by cases z) fun _ => rfl)
    · rename_i h5
      obtain ⟨t, hty, e1⟩ := one c _ hc h5
      have fin2 : ∀ b, isInst1 U1 d c2 = some b → k = b → rIsiT X.K [v, .ref q] (L2.upd H1 q (.tup [V.ty c, V.ty c2])) Q := fun b h6 hb => by
        obtain ⟨t2, hty2, e2⟩ := one c2 _ hc2 h6
        rw [hty] at hty2
        cases hty2
        subst hb
        refine done t hty (kitAny_cons (kit_ty e1) (fun _ => kitAny_cons (kit_ty e2) (fun z => ?_) fun z => z) fun z => by cases z)
        subst z
        rfl
      split at hk
      · rename_i h6
        exact fin2 _ h6 (by cases hk; rfl)
      · rename_i h6
        exact fin2 _ h6 (by cases hk; rfl)
      · cases hk
    · cases hk
  · cases h1
end
/-! ### the check -/
structure Ctx where
  N : List Str
  sc : Scope
  fn : Str → Bool
  fs : List String
  free : List String
  cs : List (String × D)
  ms : List (String × String)
  mks : List String
def visB (c : Ctx) (x : Str) : Bool := match c.sc.names.lookup x with
  | some .local => true
  | some .cell => true
  | some .free => true
  | _ => false
def glB (c : Ctx) (x : Str) : Bool := decide (c.sc.names.lookup x = some .globalImplicit)
def setB (c : Ctx) (i : Nat) (x : Str) : Bool := decide (c.N[i]? = some x) && (match c.sc.names.lookup x with
  | some .local => true
  | some .cell => c.fn x
  | _ => false)
def plainNm (x : Str) : Bool := !(x == ("__debug__" : Str)) && !(x == ("__classdict__" : Str))
def bltB (c : Ctx) (x : String) : Bool := glB c (Str.ofString x) && c.free.contains x
def blkCtx (c : Ctx) (scope : Scope) : Ctx := { c with sc := relS scope c.sc, fn := fun x => scope.names.lookup x == some .cell }
def ownOf (c : Ctx) (own : List Nat) : List (Str × Nat) := own.map fun i => (c.N.getD i ("" : Str), i)
/-- names that are set, one behind another -/
def okNames (c : Ctx) : List Nat → List Expr → Bool
  | [], [] => true
  | i :: is, .Name x _ :: es => setB c i x && okNames c is es
  | _, _ => false
def okTg (c : Ctx) (t : Tg) (e : Expr) : Bool :=
  match t, e with
  | .var i, .Name x _ => setB c i x
  | .tup is, .Tuple es _ _ => okNames c is es
  | .tup2 i is, .Tuple [.Name x _, .Tuple es _ _] _ _ => setB c i x && okNames c is es
  | _, _ => false
/-- a function's name, and a built-in's -/
def prName : P → Option (String × Value)
  | .len => some ("len", .builtin "len")
  | .abs => some ("abs", .builtin "abs")
  | .max2 => some ("max", .builtin "max")
  | .min2 => some ("min", .builtin "min")
  | .str1 => some ("str", .type "str")
  | .int1 => some ("int", .type "int")
  | .list1 => some ("list", .type "list")
  | .tuple1 => some ("tuple", .type "tuple")
  | .any1 => some ("any", .builtin "any")
  | .all1 => some ("all", .builtin "all")
  | .sorted1 => some ("sorted", .builtin "sorted")
  | .dict1 => some ("dict", .type "dict")
  | _ => none
/-- a call within a call: their names, what they are -/
def prComp : P → Option (String × String × Value)
  | .lenSet => some ("len", "set", .builtin "len")
  | .sortedSet => some ("sorted", "set", .builtin "sorted")
  | .listRev => some ("list", "reversed", .type "list")
  | .listRange => some ("list", "range", .type "list")
  | _ => none
/-- a method's name, its id -/
def prMeth : P → Option (String × String)
  | .split => some ("split", "str.split")
  | .startswith => some ("startswith", "str.startswith")
  | .find => some ("find", "str.find")
  | .append => some ("append", "list.append")
  | .join => some ("join", "str.join")
  | .reverse => some ("reverse", "list.reverse")
  | .clear => some ("clear", "list.clear")
  | .popD => some ("pop", "dict.pop")
  | .rstrip => some ("rstrip", "str.rstrip")
  | .extend => some ("extend", "list.extend")
  | .insert => some ("insert", "list.insert")
  | .pop0 => some ("pop", "list.pop")
  | .pop1 => some ("pop", "list.pop")
  | .get1 => some ("get", "dict.get")
  | .get2 => some ("get", "dict.get")
  | .setdefault => some ("setdefault", "dict.setdefault")
  | _ => none
def isLit (x : Str) (s : String) : Bool := decide (x = Str.ofString s)
def plainTest : Expr → Bool
  | .UnaryOp .Not _ _ => false
  | .BoolOp _ _ _ => false
  | .IfExp _ _ _ _ => false
  | .Compare _ _ _ _ => false
  | .NamedExpr _ _ _ => false
  | _ => true
def okCst (d : D) (k : Const) : Bool :=
  match d, k with
  | .non, .none => true
  | .bl a, .bool b => decide (a = b)
  | .int i, .int j => decide (i = j)
  | .str x, .str s => decide (s = ⟨x.toArray⟩)
  | _, _ => false
/-- a walk over the keys of a dict that a name holds -/
def okKeys (c : Ctx) (it : VI.It) (e : Expr) : Bool :=
  match it, e with
  | .keys i, .Name x _ => decide (c.N[i]? = some x) && visB c x && plainNm x
  | _, _ => false
def isNon : IE → Bool
  | .cst .non => true
  | _ => false
def isYes : IE → Bool
  | .cst (.bl true) => true
  | _ => false
def noBl : D → Bool
  | .bl _ => false
  | _ => true
def isTindex : P → Bool
  | .tindex => true
  | _ => false
/-- a constant tuple is asked -/
def tupRecv (c : Ctx) (as : IEs) (e1 : Expr) : Bool := match as, e1 with
  | .cons (.glo g (.tup ds)) _, .Name y _ => isLit y g && glB c y && plainNm y && c.cs.contains (g, .tup ds)
  | _, _ => false
mutual
/-- md: as a test -/
def okE (c : Ctx) : Bool → IE → Expr → Bool
  | md, .cst d, e => (!md || (plainTest e && noBl d)) && (match e with
    | .Constant k _ _ => okCst d k
    | _ => false)
  | md, .glo x d, e => (!md || plainTest e) && (match e with
    | .Name y _ => isLit y x && glB c y && plainNm y && c.cs.contains (x, d)
    | _ => false)
  | md, .var i, e => (!md || plainTest e) && (match e with
    | .Name x _ => decide (c.N[i]? = some x) && visB c x && plainNm x
    | _ => false)
  | md, .bin op _ a b, e => (!md || plainTest e) && (match e with
    | .BinOp e1 o e2 _ => decide (o = bop op) && okE c false a e1 && okE c false b e2
    | _ => false)
  | md, .neg a, e => !md && (match e with
    | .UnaryOp .USub e1 _ => okE c false a e1
    | _ => false)
  | _, .cmp op a b, e => (match e with
    | .Compare e1 [o] [e2] _ => decide (o = cop op) && tame e2 && okE c false a e1 && okE c false b e2
    | _ => false)
  | _, .cmp2 op op' a b d, e => (match e with
    | .Compare e1 [o, o'] [e2, e3] _ => decide (o = cop op) && decide (o' = cop op') && tame e3 && okE c false a e1 && okE c false b e2 && okE c false d e3
    | _ => false)
  | md, .andE a b, e => (match e with
    | .BoolOp .And (e1 :: e2 :: es) pos => okE c md a e1 && (match es with
      | [] => okE c md b e2
      | e3 :: es => okE c md b (.BoolOp .And (e2 :: e3 :: es) pos))
    | _ => false)
  | md, .orE a b, e => (match e with
    | .BoolOp .Or (e1 :: e2 :: es) pos => okE c md a e1 && (match es with
      | [] => okE c md b e2
      | e3 :: es => okE c md b (.BoolOp .Or (e2 :: e3 :: es) pos))
    | _ => false)
  | md, .notE a, e => (match e with
    | .UnaryOp .Not e1 _ => okE c md a e1
    | _ => false)
  | md, .ite t a b, e => !md && (match e with
    | .IfExp e1 e2 e3 _ => okE c true t e1 && okE c false a e2 && okE c false b e3
    | _ => false)
  | md, .tup as, e => !md && (match e with
    | .Tuple es _ _ => decide (as.len ≤ 1000) && okEs c as es
    | _ => false)
  | md, .lst _ as, e => !md && (match e with
    | .List es _ => decide (as.len ≤ 1000) && okEs c as es
    | _ => false)
  | md, .dnil _ t, e => !md && (match e with
    | .Dict [] [] _ => decide (t = 0) || decide (t = 1)
    | _ => false)
  | md, .done _ t a b, e => !md && (match e with
    | .Dict [some e1] [e2] _ => decide (t = 1) && okE c false a e1 && okE c false b e2
    | _ => false)
  | md, .fld a f, e => (!md || plainTest e) && (match e with
    | .Attribute e1 x _ => isLit x f && FLD.contains f && noSup e1 && okE c false a e1
    | _ => false)
  | md, .meth _ cn f a as, e => (!md || plainTest e) && (match e with
    | .Call (.Attribute e1 x apos) es [] pos => isLit x f && c.ms.contains (cn, f) && !((FLD.map Str.ofString).contains (Str.ofString f)) && noSup e1 && (apos.endLine == pos.line) && es.all tame && decide (es.length < 20) && okE c false a e1 && okEs c as es
    | _ => false)
  | md, .make cn as, e => (!md || plainTest e) && (match e with
    | .Call (.Name x _) es [] _ => isLit x cn && c.mks.contains cn && glB c x && plainNm x && es.all tame && okEs c as es
    | _ => false)
  | md, .idx a b, e => (!md || plainTest e) && (match e with
    | .Subscript e1 e2 _ => tame e2 && okE c false a e1 && okE c false b e2
    | _ => false)
  | md, .slc _ a lo hi, e => (!md || plainTest e) && (match e with
    | .Subscript e1 (.Slice l h none _) _ => okE c false a e1 && (match l with
      | some l => okE c false lo l
      | none => isNon lo) && (match h with
      | some h => okE c false hi h
      | none => isNon hi)
    | _ => false)
  | md, .call _ f as, e => (!md || plainTest e) && (match e with
    | .Call (.Name x _) es [] _ => isLit x f && c.fs.contains f && glB c x && plainNm x && es.all tame && okEs c as es
    | _ => false)
  | md, .prim p _ as, e => (!md || plainTest e) && (match e with
    | .Call (.Name x _) es [] _ => (match prName p with
      | some (n, _) => isLit x n && bltB c n && es.all tame && !es.isEmpty && okEs c as es
      | none => (match prComp p, es with
        | some (n1, n2, _), [.Call (.Name y _) [e1] [] _] => isLit x n1 && bltB c n1 && isLit y n2 && bltB c n2 && tame e1 && okEs c as [e1]
        | _, _ => false))
    | .Call (.Attribute e1 x apos) es [] pos => (match prMeth p with
      | some (n, _) => isLit x n && noSup e1 && (apos.endLine == pos.line) && es.all tame && decide (es.length < 20) && okEs c as (e1 :: es)
      | none => isTindex p && tupRecv c as e1 && isLit x "index" && (apos.endLine == pos.line) && es.all tame && decide (es.length < 20) && !es.isEmpty && okEs c as (e1 :: es))
    | _ => false)
  | md, .lc _ own t it cd el, e => (!md || plainTest e) && (match e with
    | .ListComp elt [⟨tg, iter, ifs, k⟩] scope _ => decide (k = 0) && blkC c.N c.sc scope (ownOf c own) && t.slots.all (fun i => own.contains i) && tame iter && okTg (blkCtx c scope) t tg && (okKeys c it iter || okIt c it tg iter) && okE (blkCtx c scope) false el elt &&
      (match ifs with
      | [] => isYes cd
      | [e1] => okE (blkCtx c scope) true cd e1
      | _ => false)
    | _ => false)
  | md, .isin a cs, e => (!md || plainTest e) && (match e with
    | .Call (.Name x _) [e1, .Name y _] [] _ => (match cs with
      | [n] => isLit x "isinstance" && bltB c "isinstance" && isLit y n && bltB c n && someTypes.contains n && tame e1 && okE c false a e1
      | _ => false)
    | .Call (.Name x _) [e1, .Tuple [.Name y _, .Name z _] _ _] [] _ => (match cs with
      | [n, n2] => isLit x "isinstance" && bltB c "isinstance" && isLit y n && bltB c n && someTypes.contains n && isLit z n2 && bltB c n2 && someTypes.contains n2 && tame e1 && okE c false a e1
      | _ => false)
    | _ => false)
  | md, .repL _ as a, e => !md && (match e with
    | .BinOp (.List es _) .Mult e2 _ => decide (as.len ≤ 1000) && okEs c as es && okE c false a e2
    | _ => false)
  | _, _, _ => false
def okEs (c : Ctx) : IEs → List Expr → Bool
  | .nil, [] => true
  | .cons a r, e :: es => tame e && okE c false a e && okEs c r es
  | _, _ => false
def okIt (c : Ctx) : VI.It → Expr → Expr → Bool
  | .seq a, _, e => okE c false a e
  | .range1 a, _, e => (match e with
    | .Call (.Name x _) [e1] [] _ => isLit x "range" && bltB c "range" && tame e1 && okE c false a e1
    | _ => false)
  | .range2 a b, _, e => (match e with
    | .Call (.Name x _) [e1, e2] [] _ => isLit x "range" && bltB c "range" && tame e1 && tame e2 && okE c false a e1 && okE c false b e2
    | _ => false)
  | .enum a k, tg, e => (match tg, e with
    | .Tuple _ _ _, .Call (.Name x _) [e1] [] _ => isLit x "enumerate" && bltB c "enumerate" && decide (k = 0) && tame e1 && okE c false a e1
    | .Tuple _ _ _, .Call (.Name x _) [e1] [⟨some y, .Constant kc _ _, _⟩] _ => isLit x "enumerate" && isLit y "start" && bltB c "enumerate" && decide (k = 1) && tame e1 && okE c false a e1 && okCst (.int k) kc
    | _, _ => false)
  | .range3 a b k, _, e => (match e with
    | .Call (.Name x _) [e1, e2, .Constant kc _ _] [] _ => isLit x "range" && bltB c "range" && tame e1 && tame e2 && okE c false a e1 && okE c false b e2 && okCst (.int k) kc
    | _ => false)
  | .zip a b, tg, e => (match tg, e with
    | .Tuple _ _ _, .Call (.Name x _) [e1, e2] [] _ => isLit x "zip" && bltB c "zip" && tame e1 && tame e2 && okE c false a e1 && okE c false b e2
    | _, _ => false)
  | _, _, _ => false
end
end VI

/-! VId1e: the check, unfolded (printed by mkeqs.py from VId1). -/
namespace VI
open PySem PySem.Spec PyProof.Rows L2
theorem okE_cst (c : Ctx) (md : Bool) (d : D) (e : Expr) : okE c md (.cst d) e = ((!md || (plainTest e && noBl d)) && (match e with
    | .Constant k _ _ => okCst d k
    | _ => false)) := rfl
theorem okE_glo (c : Ctx) (md : Bool) (x : String) (d : D) (e : Expr) : okE c md (.glo x d) e = ((!md || plainTest e) && (match e with
    | .Name y _ => isLit y x && glB c y && plainNm y && c.cs.contains (x, d)
    | _ => false)) := rfl
theorem okE_var (c : Ctx) (md : Bool) (i : Nat) (e : Expr) : okE c md (.var i) e = ((!md || plainTest e) && (match e with
    | .Name x _ => decide (c.N[i]? = some x) && visB c x && plainNm x
    | _ => false)) := rfl
theorem okE_bin (c : Ctx) (md : Bool) (op : BOp) (u0 : Bool) (a : IE) (b : IE) (e : Expr) : okE c md (.bin op u0 a b) e = ((!md || plainTest e) && (match e with
    | .BinOp e1 o e2 _ => decide (o = bop op) && okE c false a e1 && okE c false b e2
    | _ => false)) := rfl
theorem okE_neg (c : Ctx) (md : Bool) (a : IE) (e : Expr) : okE c md (.neg a) e = (!md && (match e with
    | .UnaryOp .USub e1 _ => okE c false a e1
    | _ => false)) := rfl
theorem okE_cmp (c : Ctx) (w0 : Bool) (op : COp) (a : IE) (b : IE) (e : Expr) : okE c w0 (.cmp op a b) e = ((match e with
    | .Compare e1 [o] [e2] _ => decide (o = cop op) && tame e2 && okE c false a e1 && okE c false b e2
    | _ => false)) := rfl
theorem okE_cmp2 (c : Ctx) (w0 : Bool) (op : COp) (op' : COp) (a : IE) (b : IE) (d : IE) (e : Expr) : okE c w0 (.cmp2 op op' a b d) e = ((match e with
    | .Compare e1 [o, o'] [e2, e3] _ => decide (o = cop op) && decide (o' = cop op') && tame e3 && okE c false a e1 && okE c false b e2 && okE c false d e3
    | _ => false)) := rfl
theorem okE_andE (c : Ctx) (md : Bool) (a : IE) (b : IE) (e : Expr) : okE c md (.andE a b) e = ((match e with
    | .BoolOp .And (e1 :: e2 :: es) pos => okE c md a e1 && (match es with
      | [] => okE c md b e2
      | e3 :: es => okE c md b (.BoolOp .And (e2 :: e3 :: es) pos))
    | _ => false)) := rfl
theorem okE_orE (c : Ctx) (md : Bool) (a : IE) (b : IE) (e : Expr) : okE c md (.orE a b) e = ((match e with
    | .BoolOp .Or (e1 :: e2 :: es) pos => okE c md a e1 && (match es with
      | [] => okE c md b e2
      | e3 :: es => okE c md b (.BoolOp .Or (e2 :: e3 :: es) pos))
    | _ => false)) := rfl
theorem okE_notE (c : Ctx) (md : Bool) (a : IE) (e : Expr) : okE c md (.notE a) e = ((match e with
    | .UnaryOp .Not e1 _ => okE c md a e1
    | _ => false)) := rfl
theorem okE_ite (c : Ctx) (md : Bool) (t : IE) (a : IE) (b : IE) (e : Expr) : okE c md (.ite t a b) e = (!md && (match e with
    | .IfExp e1 e2 e3 _ => okE c true t e1 && okE c false a e2 && okE c false b e3
    | _ => false)) := rfl
theorem okE_tup (c : Ctx) (md : Bool) (as : IEs) (e : Expr) : okE c md (.tup as) e = (!md && (match e with
    | .Tuple es _ _ => decide (as.len ≤ 1000) && okEs c as es
    | _ => false)) := rfl
theorem okE_lst (c : Ctx) (md : Bool) (u0 : Bool) (as : IEs) (e : Expr) : okE c md (.lst u0 as) e = (!md && (match e with
    | .List es _ => decide (as.len ≤ 1000) && okEs c as es
    | _ => false)) := rfl
theorem okE_dnil (c : Ctx) (md : Bool) (u0 : Bool) (t : Nat) (e : Expr) : okE c md (.dnil u0 t) e = (!md && (match e with
    | .Dict [] [] _ => decide (t = 0) || decide (t = 1)
    | _ => false)) := rfl
theorem okE_done (c : Ctx) (md : Bool) (u0 : Bool) (t : Nat) (a : IE) (b : IE) (e : Expr) : okE c md (.done u0 t a b) e = (!md && (match e with
    | .Dict [some e1] [e2] _ => decide (t = 1) && okE c false a e1 && okE c false b e2
    | _ => false)) := rfl
theorem okE_fld (c : Ctx) (md : Bool) (a : IE) (f : String) (e : Expr) : okE c md (.fld a f) e = ((!md || plainTest e) && (match e with
    | .Attribute e1 x _ => isLit x f && FLD.contains f && noSup e1 && okE c false a e1
    | _ => false)) := rfl
theorem okE_meth (c : Ctx) (md : Bool) (u0 : Bool) (cn : String) (f : String) (a : IE) (as : IEs) (e : Expr) : okE c md (.meth u0 cn f a as) e = ((!md || plainTest e) && (match e with
    | .Call (.Attribute e1 x apos) es [] pos => isLit x f && c.ms.contains (cn, f) && !((FLD.map Str.ofString).contains (Str.ofString f)) && noSup e1 && (apos.endLine == pos.line) && es.all tame && decide (es.length < 20) && okE c false a e1 && okEs c as es
    | _ => false)) := rfl
theorem okE_make (c : Ctx) (md : Bool) (cn : String) (as : IEs) (e : Expr) : okE c md (.make cn as) e = ((!md || plainTest e) && (match e with
    | .Call (.Name x _) es [] _ => isLit x cn && c.mks.contains cn && glB c x && plainNm x && es.all tame && okEs c as es
    | _ => false)) := rfl
theorem okE_idx (c : Ctx) (md : Bool) (a : IE) (b : IE) (e : Expr) : okE c md (.idx a b) e = ((!md || plainTest e) && (match e with
    | .Subscript e1 e2 _ => tame e2 && okE c false a e1 && okE c false b e2
    | _ => false)) := rfl
theorem okE_slc (c : Ctx) (md : Bool) (u0 : Bool) (a : IE) (lo : IE) (hi : IE) (e : Expr) : okE c md (.slc u0 a lo hi) e = ((!md || plainTest e) && (match e with
    | .Subscript e1 (.Slice l h none _) _ => okE c false a e1 && (match l with
      | some l => okE c false lo l
      | none => isNon lo) && (match h with
      | some h => okE c false hi h
      | none => isNon hi)
    | _ => false)) := rfl
theorem okE_call (c : Ctx) (md : Bool) (u0 : Bool) (f : String) (as : IEs) (e : Expr) : okE c md (.call u0 f as) e = ((!md || plainTest e) && (match e with
    | .Call (.Name x _) es [] _ => isLit x f && c.fs.contains f && glB c x && plainNm x && es.all tame && okEs c as es
    | _ => false)) := rfl
theorem okE_prim (c : Ctx) (md : Bool) (p : P) (u0 : Bool) (as : IEs) (e : Expr) : okE c md (.prim p u0 as) e = ((!md || plainTest e) && (match e with
    | .Call (.Name x _) es [] _ => (match prName p with
      | some (n, _) => isLit x n && bltB c n && es.all tame && !es.isEmpty && okEs c as es
      | none => (match prComp p, es with
        | some (n1, n2, _), [.Call (.Name y _) [e1] [] _] => isLit x n1 && bltB c n1 && isLit y n2 && bltB c n2 && tame e1 && okEs c as [e1]
        | _, _ => false))
    | .Call (.Attribute e1 x apos) es [] pos => (match prMeth p with
      | some (n, _) => isLit x n && noSup e1 && (apos.endLine == pos.line) && es.all tame && decide (es.length < 20) && okEs c as (e1 :: es)
      | none => isTindex p && tupRecv c as e1 && isLit x "index" && (apos.endLine == pos.line) && es.all tame && decide (es.length < 20) && !es.isEmpty && okEs c as (e1 :: es))
    | _ => false)) := rfl
theorem okE_lc (c : Ctx) (md : Bool) (u0 : Bool) (own : List Nat) (t : Tg) (it : VI.It) (cd : IE) (el : IE) (e : Expr) : okE c md (.lc u0 own t it cd el) e = ((!md || plainTest e) && (match e with
    | .ListComp elt [⟨tg, iter, ifs, k⟩] scope _ => decide (k = 0) && blkC c.N c.sc scope (ownOf c own) && t.slots.all (fun i => own.contains i) && tame iter && okTg (blkCtx c scope) t tg && (okKeys c it iter || okIt c it tg iter) && okE (blkCtx c scope) false el elt &&
      (match ifs with
      | [] => isYes cd
      | [e1] => okE (blkCtx c scope) true cd e1
      | _ => false)
    | _ => false)) := rfl
theorem okE_isin (c : Ctx) (md : Bool) (a : IE) (cs : List String) (e : Expr) : okE c md (.isin a cs) e = ((!md || plainTest e) && (match e with
    | .Call (.Name x _) [e1, .Name y _] [] _ => (match cs with
      | [n] => isLit x "isinstance" && bltB c "isinstance" && isLit y n && bltB c n && someTypes.contains n && tame e1 && okE c false a e1
      | _ => false)
    | .Call (.Name x _) [e1, .Tuple [.Name y _, .Name z _] _ _] [] _ => (match cs with
      | [n, n2] => isLit x "isinstance" && bltB c "isinstance" && isLit y n && bltB c n && someTypes.contains n && isLit z n2 && bltB c n2 && someTypes.contains n2 && tame e1 && okE c false a e1
      | _ => false)
    | _ => false)) := rfl
theorem okE_repL (c : Ctx) (md : Bool) (u0 : Bool) (as : IEs) (a : IE) (e : Expr) : okE c md (.repL u0 as a) e = (!md && (match e with
    | .BinOp (.List es _) .Mult e2 _ => decide (as.len ≤ 1000) && okEs c as es && okE c false a e2
    | _ => false)) := rfl
theorem okIt_seq (c : Ctx) (a : IE) (w1 : Expr) (e : Expr) : okIt c (.seq a) w1 e = (okE c false a e) := rfl
theorem okIt_range1 (c : Ctx) (a : IE) (w1 : Expr) (e : Expr) : okIt c (.range1 a) w1 e = ((match e with
    | .Call (.Name x _) [e1] [] _ => isLit x "range" && bltB c "range" && tame e1 && okE c false a e1
    | _ => false)) := rfl
theorem okIt_range2 (c : Ctx) (a : IE) (b : IE) (w1 : Expr) (e : Expr) : okIt c (.range2 a b) w1 e = ((match e with
    | .Call (.Name x _) [e1, e2] [] _ => isLit x "range" && bltB c "range" && tame e1 && tame e2 && okE c false a e1 && okE c false b e2
    | _ => false)) := rfl
theorem okIt_enum (c : Ctx) (a : IE) (k : Int) (tg : Expr) (e : Expr) : okIt c (.enum a k) tg e = ((match tg, e with
    | .Tuple _ _ _, .Call (.Name x _) [e1] [] _ => isLit x "enumerate" && bltB c "enumerate" && decide (k = 0) && tame e1 && okE c false a e1
    | .Tuple _ _ _, .Call (.Name x _) [e1] [⟨some y, .Constant kc _ _, _⟩] _ => isLit x "enumerate" && isLit y "start" && bltB c "enumerate" && decide (k = 1) && tame e1 && okE c false a e1 && okCst (.int k) kc
    | _, _ => false)) := rfl
theorem okIt_range3 (c : Ctx) (a : IE) (b : IE) (k : Int) (w1 : Expr) (e : Expr) : okIt c (.range3 a b k) w1 e = ((match e with
    | .Call (.Name x _) [e1, e2, .Constant kc _ _] [] _ => isLit x "range" && bltB c "range" && tame e1 && tame e2 && okE c false a e1 && okE c false b e2 && okCst (.int k) kc
    | _ => false)) := rfl
theorem okIt_zip (c : Ctx) (a : IE) (b : IE) (tg : Expr) (e : Expr) : okIt c (.zip a b) tg e = ((match tg, e with
    | .Tuple _ _ _, .Call (.Name x _) [e1, e2] [] _ => isLit x "zip" && bltB c "zip" && tame e1 && tame e2 && okE c false a e1 && okE c false b e2
    | _, _ => false)) := rfl
end VI

/-! VId2: the check is sound: expressions. -/
namespace VI
open PySem PySem.Spec PyProof.Rows L2
/-- what a context knows -/
structure Good (C : Cal) (k : Nat) (X : Cx) (c : Ctx) : Prop where
  hN : X.N = c.N
  nd : c.N.Nodup
  sc : X.env.scope = c.sc
  fn : X.fn = c.fn
  calm : X.calm = true
  room : Room k X.A
  pos : 1 ≤ k
  free : ∀ x ∈ c.free, X.mg (Str.ofString x) = none
  cs : ∀ q ∈ c.cs, ∃ u v, X.mg (Str.ofString q.1) = some u ∧ RelV v u ∧ (∀ Z β, RepV X.prog X.w X.K Z β q.2 v) ∧ ∀ p, v = .ref p → ∃ o, X.K.lookup p = some o ∧ o.dict = none
  fs : ∀ f ∈ c.fs, FnHyp X.prog X.w X.K X.mg X.base C k f
  ms : ∀ q ∈ c.ms, MeHyp X.prog X.w X.K X.mg X.base C k q.1 q.2
  mks : ∀ x ∈ c.mks, ∃ j, j + 1 ≤ k ∧ MkHyp X.prog X.w X.K X.mg X.base C j x
section
variable {C : Cal} {k : Nat} {X : Cx} {c : Ctx} {W : WX}
theorem Good.units (G : Good C k X c) : X.A.units + 65 < cLine := by
  have := G.room.un
  omega
theorem Good.gl (G : Good C k X c) {x : Str} (h : glB c x = true) : Gl X x := by
  show X.env.scope.names.lookup x = _
  rw [G.sc]
  exact of_decide_eq_true h
theorem Good.vis (G : Good C k X c) {x : Str} (h : visB c x = true) : Vis X.env.scope x := by
  unfold visB at h
  unfold Vis
  rw [G.sc]
  split at h
  · exact .inl (by assumption)
  · exact .inr (.inl (by assumption))
  · exact .inr (.inr (by assumption))
  · cases h
theorem Good.set (G : Good C k X c) {i : Nat} {x : Str} (h : setB c i x = true) : Sets X i x := by
  unfold setB at h
  simp only [Bool.and_eq_true, decide_eq_true_eq] at h
  obtain ⟨h1, h2⟩ := h
  refine ⟨by rw [G.hN]; exact G.nd, by rw [G.hN]; exact h1, ?_, ?_⟩
  · unfold L2.Loc
    rw [G.sc]
    split at h2
    · exact .inl (by assumption)
    · exact .inr (by assumption)
    · cases h2
  · rw [G.sc, G.fn]
    split at h2
    · exact .inr (by assumption)
    · exact .inl h2
    · cases h2
theorem lit {x : Str} {s : String} (h : isLit x s = true) : x = Str.ofString s := of_decide_eq_true h
theorem plainNm_ok {x : Str} (h : plainNm x = true) : (x == ("__debug__" : Str)) = false ∧ (x == ("__classdict__" : Str)) = false := by
  unfold plainNm at h
  simp only [Bool.and_eq_true, Bool.not_eq_true'] at h
  exact h
theorem Good.blt (G : Good C k X c) {x : String} (h : bltB c x = true) : Gl X (Str.ofString x) ∧ X.mg (Str.ofString x) = none := by
  unfold bltB at h
  simp only [Bool.and_eq_true] at h
  exact ⟨G.gl h.1, G.free x (by simpa using h.2)⟩
theorem prName_ok {p : P} {n : String} {v : Value} (h : prName p = some (n, v)) : isMeth p = false ∧ bootBuiltins (Str.ofString n) = some v ∧ Str.ofString n ≠ "__name__" ∧ (Str.ofString n == ("__debug__" : Str)) = false ∧
    ∀ (X : Cx) (m : Bool), X.A.units + 65 < cLine → X.calm = true → CallR X v (rP X p m) := by
  unfold prName at h
  split at h
  · cases h; exact ⟨rfl, by decide +kernel, by decide +kernel, by decide +kernel, fun X m _ _ => c_len⟩
  · cases h; exact ⟨rfl, by decide +kernel, by decide +kernel, by decide +kernel, fun X m _ _ => c_abs⟩
  · cases h; exact ⟨rfl, by decide +kernel, by decide +kernel, by decide +kernel, fun X m _ hc => c_max2 hc⟩
  · cases h; exact ⟨rfl, by decide +kernel, by decide +kernel, by decide +kernel, fun X m _ hc => c_min2 hc⟩
  · cases h; exact ⟨rfl, by decide +kernel, by decide +kernel, by decide +kernel, fun X m _ _ => c_str1⟩
  · cases h; exact ⟨rfl, by decide +kernel, by decide +kernel, by decide +kernel, fun X m _ _ => c_int1⟩
  · cases h; exact ⟨rfl, by decide +kernel, by decide +kernel, by decide +kernel, fun X m _ hc => c_list1 hc⟩
  · cases h; exact ⟨rfl, by decide +kernel, by decide +kernel, by decide +kernel, fun X m _ _ => c_tuple1⟩
  · cases h; exact ⟨rfl, by decide +kernel, by decide +kernel, by decide +kernel, fun X m _ hc => c_any hc⟩
  · cases h; exact ⟨rfl, by decide +kernel, by decide +kernel, by decide +kernel, fun X m _ hc => c_all hc⟩
  · cases h; exact ⟨rfl, by decide +kernel, by decide +kernel, by decide +kernel, fun X m hu _ => c_sorted1 hu⟩
  · cases h; exact ⟨rfl, by decide +kernel, by decide +kernel, by decide +kernel, fun X m _ hc => c_dict1 hc⟩
  · cases h
theorem prComp_ok {p : P} {n1 n2 : String} {f : Value} (h : prComp p = some (n1, n2, f)) : isMeth p = false ∧ ((∃ id, f = .builtin id) ∨ ∃ U, f = .type U) ∧ bootBuiltins (Str.ofString n1) = some f ∧ Str.ofString n1 ≠ "__name__" ∧ (Str.ofString n1 == ("__debug__" : Str)) = false ∧
    bootBuiltins (Str.ofString n2) = some (.type n2) ∧ Str.ofString n2 ≠ "__name__" ∧ (Str.ofString n2 == ("__debug__" : Str)) = false ∧ ∀ (X : Cx) (m : Bool), X.A.units + 65 < cLine → X.calm = true → Comp2 X f n2 p m := by
  unfold prComp at h
  split at h
  · cases h
    exact ⟨rfl, .inl ⟨_, rfl⟩, by decide +kernel, by decide, by decide, by decide +kernel, by decide, by decide, fun X m _ hc => hc_lenSet hc⟩
  · cases h
    exact ⟨rfl, .inl ⟨_, rfl⟩, by decide +kernel, by decide, by decide, by decide +kernel, by decide, by decide, fun X m hu hc => hc_sortedSet hc hu⟩
  · cases h
    exact ⟨rfl, .inr ⟨_, rfl⟩, by decide +kernel, by decide, by decide, by decide +kernel, by decide, by decide, fun X m _ hc => hc_listRev hc⟩
  · cases h
    exact ⟨rfl, .inr ⟨_, rfl⟩, by decide +kernel, by decide, by decide, by decide +kernel, by decide, by decide, fun X m _ hc => hc_listRange hc⟩
  · cases h
theorem prMeth_ok {p : P} {n id : String} (h : prMeth p = some (n, id)) : isMeth p = true ∧ PlainAttrs (recvT p) ∧ Slot (recvT p) (Str.ofString n) id ∧ typeOf (.builtin id) = pure (.type "method_descriptor") ∧
    ∀ (X : Cx) (m : Bool), X.A.units + 65 < cLine → X.calm = true → MtR X id (rM X p m) := by
  unfold prMeth at h
  split at h
  · cases h; exact ⟨rfl, PySem.F.plainAttrs_str, F.slot_str_split, F.type_str_split, fun X m _ _ => m_split⟩
  · cases h; exact ⟨rfl, PySem.F.plainAttrs_str, F.slot_str_startswith, F.type_str_startswith, fun X m _ _ => m_startswith⟩
  · cases h; exact ⟨rfl, PySem.F.plainAttrs_str, F.slot_str_find, F.type_str_find, fun X m _ _ => m_find⟩
  · cases h; exact ⟨rfl, PySem.F.plainAttrs_list, F.slot_list_append, F.type_list_append, fun X m _ _ => m_append⟩
  · cases h; exact ⟨rfl, PySem.F.plainAttrs_str, F.slot_str_join, F.type_str_join, fun X m _ _ => m_join⟩
  · cases h; exact ⟨rfl, PySem.F.plainAttrs_list, F.slot_list_reverse, F.type_list_reverse, fun X m _ _ => m_reverse⟩
  · cases h; exact ⟨rfl, PySem.F.plainAttrs_list, F.slot_list_clear, F.type_list_clear, fun X m _ _ => m_clear⟩
  · cases h; exact ⟨rfl, PySem.F.plainAttrs_dict, F.slot_dict_pop, F.type_dict_pop, fun X m hu _ => m_popD hu⟩
  · cases h; exact ⟨rfl, PySem.F.plainAttrs_str, F.slot_str_rstrip, F.type_str_rstrip, fun X m _ _ => m_rstrip⟩
  · cases h; exact ⟨rfl, PySem.F.plainAttrs_list, F.slot_list_extend, F.type_list_extend, fun X m _ _ => m_extend⟩
  · cases h; exact ⟨rfl, PySem.F.plainAttrs_list, F.slot_list_insert, F.type_list_insert, fun X m _ _ => m_insert⟩
  · cases h; exact ⟨rfl, PySem.F.plainAttrs_list, F.slot_list_pop, F.type_list_pop, fun X m _ _ => m_pop0⟩
  · cases h; exact ⟨rfl, PySem.F.plainAttrs_list, F.slot_list_pop, F.type_list_pop, fun X m _ _ => m_pop1⟩
  · cases h; exact ⟨rfl, PySem.F.plainAttrs_dict, F.slot_dict_get, F.type_dict_get, fun X m hu _ => m_get1 hu⟩
  · cases h; exact ⟨rfl, PySem.F.plainAttrs_dict, F.slot_dict_get, F.type_dict_get, fun X m hu _ => m_get2 hu⟩
  · cases h; exact ⟨rfl, PySem.F.plainAttrs_dict, F.slot_dict_setdefault, F.type_dict_setdefault, fun X m hu _ => m_setdefault hu⟩
  · cases h
theorem blk_good (G : Good C k X c) (s : Shared) (H : Hp) (scope : Scope) (A : Addr) (cl : List (Str × Addr)) (fp : List Addr) : Good C k (X.blk s H scope (compEnvC scope cl A X.env) fp) (blkCtx c scope) := by
  refine ⟨G.hN, G.nd, ?_, rfl, G.calm, G.room, G.pos, G.free, G.cs, G.fs, G.ms, G.mks⟩
  show relS scope X.env.scope = relS scope c.sc
  rw [G.sc]
theorem takes_blk (s : Shared) (H : Hp) (scope : Scope) (env : Env) (fp : List Addr) : Takes (X.blk s H scope env fp) (fun _ _ _ _ => False) := fun u s' ⟨a, B, sI, pins, σ, H', cls, d, _, _, _, _, _, _, _, _, w⟩ => w
theorem names_ok (G : Good C k X c) : ∀ {is : List Nat} {es : List Expr}, okNames c is es = true → names es = true ∧ es.length = is.length ∧ PGs X es (xGs X.prog X.w X.K X.mg is)
  | [], [], _ => ⟨rfl, rfl, gs_nil⟩
  | i :: is, e :: es, h => by
    cases e with
    | Name x p =>
      simp only [okNames, Bool.and_eq_true] at h
      obtain ⟨h1, h2, h3⟩ := names_ok G h.2
      refine ⟨?_, by simp [h2], gs_cons (G.set h.1) h3⟩
      simp only [names, List.all_cons, Bool.and_eq_true]
      exact ⟨trivial, h1⟩
    | _ => cases h
  | [], _ :: _, h => by cases h
  | _ :: _, [], h => by cases h
theorem tg_ok (G : Good C k X c) {t : Tg} {e : Expr} (h : okTg c t e = true) : PG X e (xG X.prog X.w X.K X.mg t) := by
  unfold okTg at h
  split at h
  · exact g_var (G.set h)
  · obtain ⟨h1, h2, h3⟩ := names_ok G h
    exact g_tup G.calm h1 h2 h3
  · simp only [Bool.and_eq_true] at h
    obtain ⟨h1, h2, h3⟩ := names_ok G h.2
    exact g_tup2 G.calm (G.set h.1) h1 h2 h3
  · cases h
theorem plain_test {e : Expr} (h : plainTest e = true) (env : Env) : ∀ whole, PySem.isTrue e env whole = (do let v ← whole; standAt e.pos; holding [v] (truthy v)) := by
  intro whole
  cases e <;> first
    | rfl
    | (cases h; done)
    | (rename_i op _ _; cases op <;> first | rfl | cases h)
theorem own_map (c : Ctx) (own : List Nat) : (ownOf c own).map (·.2) = own := by
  unfold ownOf
  rw [List.map_map]
  exact List.map_id' own
/-- as an expression, or as a test -/
def Snd (X : Cx) (C : Cal) (W : WX) (md : Bool) (a : IE) (e : Expr) : Prop := (md = false → PE X e (xE X C W a)) ∧ (md = true → PT X e (xT X C W a))
theorem snd_of {md : Bool} {a : IE} {e : Expr} (h : (!md || plainTest e) = true) (hd : ∀ ρ U, evB C a ρ U = bnd (ev C a ρ U) fun x U1 => tru x U1) (p : PE X e (xE X C W a)) : Snd X C W md a e := by
  refine ⟨fun _ => p, fun e1 => ?_⟩
  subst e1
  exact n_test hd (plain_test (by simpa using h) X.env) p
theorem non_is {a : IE} (h : isNon a = true) : a = .cst .non := by
  unfold isNon at h
  split at h
  · rfl
  · cases h
theorem yes_is {a : IE} (h : isYes a = true) : a = .cst (.bl true) := by
  unfold isYes at h
  split at h
  · rfl
  · cases h
theorem cst_ok {d : D} {kc : Const} {j : Nat} {p : Pos} (h : okCst d kc = true) : PE X (.Constant kc j p) (xE X C W (.cst d)) := by
  unfold okCst at h
  split at h
  · exact n_cst pe_non fun Z β => by simp only [RepV]
  · have := of_decide_eq_true h
    subst this
    exact n_cst pe_bl fun Z β => by simp only [RepV]
  · have := of_decide_eq_true h
    subst this
    exact n_cst pe_int fun Z β => by simp only [RepV]
  · have := of_decide_eq_true h
    subst this
    exact n_cst pe_str fun Z β => by simp only [RepV]
  · cases h
end
mutual
theorem sE : ∀ (a : IE) {C : Cal} {k : Nat} {X : Cx} {c : Ctx} {W : WX} {md : Bool} {e : Expr}, Good C k X c → Takes X W → okE c md a e = true → Snd X C W md a e
  | .cst d, C, k, X, c, W, md, e, G, tk, h => by
    rw [okE_cst, Bool.and_eq_true] at h
    obtain ⟨h1, h2⟩ := h
    split at h2
    · refine ⟨fun _ => cst_ok h2, fun e1 => ?_⟩
      subst e1
      simp only [Bool.not_true, Bool.false_or, Bool.and_eq_true] at h1
      refine n_test (fun ρ U => ?_) (plain_test h1.1 X.env) (cst_ok h2)
      cases d <;> first | (simp only [evB]; done) | exact absurd h1.2 (by simp [noBl])
    · cases h2
  | .glo x d, C, k, X, c, W, md, e, G, tk, h => by
    rw [okE_glo, Bool.and_eq_true] at h
    obtain ⟨h1, h2⟩ := h
    split at h2
    · simp only [Bool.and_eq_true] at h2
      obtain ⟨⟨⟨l, g⟩, pn⟩, hc⟩ := h2
      have l := lit l
      subst l
      obtain ⟨u, v, hm, r, hr, _⟩ := G.cs (x, d) (by simpa using hc)
      exact snd_of h1 (fun ρ U => by simp only [evB]) (n_glo (pe_glob (G.gl g) hm r (plainNm_ok pn).1) hr)
    · cases h2
  | .var i, C, k, X, c, W, md, e, G, tk, h => by
    rw [okE_var, Bool.and_eq_true] at h
    obtain ⟨h1, h2⟩ := h
    split at h2
    · simp only [Bool.and_eq_true, decide_eq_true_eq] at h2
      exact snd_of h1 (fun ρ U => by simp only [evB]) (n_var (by rw [G.hN]; exact h2.1.1) (G.vis h2.1.2) (plainNm_ok h2.2).1 (plainNm_ok h2.2).2)
    · cases h2
  | .bin op m a b, C, k, X, c, W, md, e, G, tk, h => by
    rw [okE_bin, Bool.and_eq_true] at h
    obtain ⟨h1, h2⟩ := h
    split at h2
    · simp only [Bool.and_eq_true, decide_eq_true_eq] at h2
      obtain ⟨⟨rfl, h3⟩, h4⟩ := h2
      exact snd_of h1 (fun ρ U => by simp only [evB]) (n_bin op m ((sE a G tk h3).1 rfl) ((sE b G tk h4).1 rfl))
    · cases h2
  | .neg a, C, k, X, c, W, md, e, G, tk, h => by
    rw [okE_neg, Bool.and_eq_true] at h
    obtain ⟨h1, h2⟩ := h
    split at h2
    · exact ⟨fun _ => n_neg ((sE a G tk h2).1 rfl), fun e1 => by subst e1; cases h1⟩
    · cases h2
  | .cmp op a b, C, k, X, c, W, md, e, G, tk, h => by
    rw [okE_cmp] at h
    split at h
    · simp only [Bool.and_eq_true, decide_eq_true_eq] at h
      obtain ⟨⟨⟨rfl, ht⟩, h3⟩, h4⟩ := h
      exact ⟨fun _ => n_cmp G.units op ht ((sE a G tk h3).1 rfl) ((sE b G tk h4).1 rfl), fun _ => n_cmpT G.units op ht ((sE a G tk h3).1 rfl) ((sE b G tk h4).1 rfl)⟩
    · cases h
  | .cmp2 op op' a b d, C, k, X, c, W, md, e, G, tk, h => by
    rw [okE_cmp2] at h
    split at h
    · simp only [Bool.and_eq_true, decide_eq_true_eq] at h
      obtain ⟨⟨⟨⟨⟨rfl, rfl⟩, ht⟩, h3⟩, h4⟩, h5⟩ := h
      exact ⟨fun _ => n_cmp2 G.units op op' ht ((sE a G tk h3).1 rfl) ((sE b G tk h4).1 rfl) ((sE d G tk h5).1 rfl), fun _ => n_cmp2T G.units op op' ht ((sE a G tk h3).1 rfl) ((sE b G tk h4).1 rfl) ((sE d G tk h5).1 rfl)⟩
    · cases h
  | .andE a b, C, k, X, c, W, md, e, G, tk, h => by
    rw [okE_andE] at h
    split at h
    · rename_i e1 e2 es pos
      simp only [Bool.and_eq_true] at h
      obtain ⟨h3, h4⟩ := h
      have ha := sE a G tk h3
      have hb : Snd X C W md b (.BoolOp .And (e2 :: es) pos) := by
        cases es with
        | nil =>
          have q := sE b G tk h4
          exact ⟨fun z => pe_one (q.1 z), fun z => (pw_and1 (q.2 z)).pt⟩
        | cons e3 es => exact sE b G tk h4
      exact ⟨fun z => n_and (ha.1 z) (hb.1 z), fun z => n_andT (ha.2 z) (pw_of (hb.2 z))⟩
    · cases h
  | .orE a b, C, k, X, c, W, md, e, G, tk, h => by
    rw [okE_orE] at h
    split at h
    · rename_i e1 e2 es pos
      simp only [Bool.and_eq_true] at h
      obtain ⟨h3, h4⟩ := h
      have ha := sE a G tk h3
      have hb : Snd X C W md b (.BoolOp .Or (e2 :: es) pos) := by
        cases es with
        | nil =>
          have q := sE b G tk h4
          exact ⟨fun z => pe_one (q.1 z), fun z => (pw_or1 (q.2 z)).pt⟩
        | cons e3 es => exact sE b G tk h4
      exact ⟨fun z => n_or (ha.1 z) (hb.1 z), fun z => n_orT (ha.2 z) (pw_of (hb.2 z))⟩
    · cases h
  | .notE a, C, k, X, c, W, md, e, G, tk, h => by
    rw [okE_notE] at h
    split at h
    · have ha := sE a G tk h
      exact ⟨fun z => n_not (ha.1 z), fun z => n_notT (ha.2 z)⟩
    · cases h
  | .ite t a b, C, k, X, c, W, md, e, G, tk, h => by
    rw [okE_ite, Bool.and_eq_true] at h
    obtain ⟨h1, h2⟩ := h
    split at h2
    · simp only [Bool.and_eq_true] at h2
      exact ⟨fun _ => n_ite ((sE t G tk h2.1.1).2 rfl) ((sE a G tk h2.1.2).1 rfl) ((sE b G tk h2.2).1 rfl), fun e1 => by subst e1; cases h1⟩
    · cases h2
  | .tup as, C, k, X, c, W, md, e, G, tk, h => by
    rw [okE_tup, Bool.and_eq_true] at h
    obtain ⟨h1, h2⟩ := h
    split at h2
    · simp only [Bool.and_eq_true, decide_eq_true_eq] at h2
      exact ⟨fun _ => n_tup h2.1 (sEs as G tk h2.2), fun e1 => by subst e1; cases h1⟩
    · cases h2
  | .lst m as, C, k, X, c, W, md, e, G, tk, h => by
    rw [okE_lst, Bool.and_eq_true] at h
    obtain ⟨h1, h2⟩ := h
    split at h2
    · simp only [Bool.and_eq_true, decide_eq_true_eq] at h2
      exact ⟨fun _ => n_lst h2.1 (sEs as G tk h2.2), fun e1 => by subst e1; cases h1⟩
    · cases h2
  | .idx a b, C, k, X, c, W, md, e, G, tk, h => by
    rw [okE_idx, Bool.and_eq_true] at h
    obtain ⟨h1, h2⟩ := h
    split at h2
    · simp only [Bool.and_eq_true] at h2
      exact snd_of h1 (fun ρ U => by simp only [evB]) (n_idx (by have := G.units; omega) h2.1.1 ((sE a G tk h2.1.2).1 rfl) ((sE b G tk h2.2).1 rfl))
    · cases h2
  | .slc m a lo hi, C, k, X, c, W, md, e, G, tk, h => by
    rw [okE_slc, Bool.and_eq_true] at h
    obtain ⟨h1, h2⟩ := h
    split at h2
    · rename_i e1 l hh p1 p2
      simp only [Bool.and_eq_true] at h2
      obtain ⟨⟨h3, h4⟩, h5⟩ := h2
      have hl : PO X l (xO X C W lo) := by
        cases l with
        | none =>
          rw [non_is h4]
          exact n_none
        | some l => exact n_some ((sE lo G tk h4).1 rfl)
      have hh : PO X hh (xO X C W hi) := by
        cases hh with
        | none =>
          rw [non_is h5]
          exact n_none
        | some l => exact n_some ((sE hi G tk h5).1 rfl)
      exact snd_of h1 (fun ρ U => by simp only [evB]) (n_slc ((sE a G tk h3).1 rfl) hl hh)
    · cases h2
  | .call fz f as, C, k, X, c, W, md, e, G, tk, h => by
    rw [okE_call, Bool.and_eq_true] at h
    obtain ⟨h1, h2⟩ := h
    split at h2
    · rename_i x p es pos
      simp only [Bool.and_eq_true] at h2
      obtain ⟨⟨⟨⟨⟨l, hf⟩, g⟩, pn⟩, ht⟩, h3⟩ := h2
      have l := lit l
      subst l
      have F := G.fs f (by simpa using hf)
      have ha := sEs as G tk h3
      cases es with
      | nil =>
        cases as with
        | nil => exact snd_of h1 (fun ρ U => by simp only [evB]) (n_call0 tk G.room (G.gl g) F (plainNm_ok pn).1)
        | cons a r => cases h3
      | cons e es => exact snd_of h1 (fun ρ U => by simp only [evB]) (n_call tk G.room (G.gl g) F (plainNm_ok pn).1 ht ha)
    · cases h2
  | .prim p m as, C, k, X, c, W, md, e, G, tk, h => by
    rw [okE_prim, Bool.and_eq_true] at h
    obtain ⟨h1, h2⟩ := h
    split at h2
    · rename_i x p1 es pos
      split at h2
      · rename_i n v hn
        simp only [Bool.and_eq_true] at h2
        obtain ⟨⟨⟨⟨l, hb⟩, ht⟩, hne⟩, h3⟩ := h2
        have l := lit l
        subst l
        obtain ⟨q1, q2, q3, q4, q5⟩ := prName_ok hn
        obtain ⟨g1, g2⟩ := G.blt hb
        have ha := sEs as G tk h3
        cases es with
        | nil => cases hne
        | cons e es =>
          cases as with
          | nil => cases h3
          | cons a r =>
            refine snd_of h1 (fun ρ U => by simp only [evB]) ?_
            have q := q5 X m G.units G.calm
            cases v with
            | builtin id => exact n_fun q q1 g1 g2 q2 q3 q4 ht ha
            | type T => exact n_ty q q1 g1 g2 q2 q3 q4 ht ha
            | _ => exact absurd hn (by unfold prName; split <;> simp)
      · split at h2
        · rename_i n1 n2 f y p2 e1 q hn
          simp only [Bool.and_eq_true] at h2
          obtain ⟨⟨⟨⟨⟨l1, hb1⟩, l2⟩, hb2⟩, ht⟩, h3⟩ := h2
          have l1 := lit l1
          have l2 := lit l2
          subst l1 l2
          obtain ⟨q1, hf, q2, q3, q4, q5, q6, q7, q8⟩ := prComp_ok hn
          obtain ⟨g1, g2⟩ := G.blt hb1
          obtain ⟨g3, g4⟩ := G.blt hb2
          have ha := sEs as G tk h3
          cases as with
          | nil => cases h3
          | cons a r =>
            refine snd_of h1 (fun ρ U => by simp only [evB]) ?_
            exact n_comp hf (q8 X m G.units G.calm) q1 g1 g2 q2 q3 q4 g3 g4 q5 q6 q7 ht ha
        · cases h2
    · rename_i e1 x apos es pos
      split at h2
      · rename_i n id hn
        simp only [Bool.and_eq_true, decide_eq_true_eq] at h2
        obtain ⟨⟨⟨⟨⟨l, hs⟩, hl⟩, ht⟩, hlen⟩, h3⟩ := h2
        have l := lit l
        subst l
        obtain ⟨q1, q2, q3, q4, q5⟩ := prMeth_ok hn
        cases as with
        | nil => cases h3
        | cons a r =>
          simp only [okEs, Bool.and_eq_true] at h3
          have ha := (sE a G tk h3.1.2).1 rfl
          have hr := sEs r G tk h3.2
          refine snd_of h1 (fun ρ U => by simp only [evB]) ?_
          have q := q5 X m G.units G.calm
          cases es with
          | nil =>
            cases r with
            | nil => exact n_meth0 q1 q2 q3 q4 q hs hl ha
            | cons b r => exact absurd h3.2 (by simp [okEs])
          | cons e es => exact n_meth q1 q2 q3 q4 q hs hl ht hlen ha hr
      · simp only [Bool.and_eq_true, decide_eq_true_eq] at h2
        obtain ⟨⟨⟨⟨⟨⟨⟨hp, hr0⟩, l1⟩, hl⟩, ht⟩, hlen⟩, hne⟩, h3⟩ := h2
        have l1 := lit l1
        subst l1
        have hp : p = .tindex := by
          unfold isTindex at hp
          split at hp
          · rfl
          · cases hp
        subst hp
        unfold tupRecv at hr0
        split at hr0
        · rename_i g xs r y yp
          simp only [Bool.and_eq_true] at hr0
          obtain ⟨⟨⟨l2, hg⟩, pn⟩, hc⟩ := hr0
          have l2 := lit l2
          subst l2
          simp only [okEs, Bool.and_eq_true] at h3
          obtain ⟨u, v, hm, rv, hr, hd⟩ := G.cs (g, .tup xs) (by simpa using hc)
          have ha := sEs r G tk h3.2
          cases es with
          | nil => cases hne
          | cons e es =>
            refine snd_of h1 (fun ρ U => by simp only [evB]) ?_
            refine n_tindex (fun p e => ?_) hr rfl hl ht hlen (pe_glob (G.gl hg) hm rv (plainNm_ok pn).1) ha
            obtain ⟨o, k1, k2⟩ := hd p e
            have q := hr (fun _ => none) []
            simp only [RepV] at q
            obtain ⟨a, vs, e1, sq, _⟩ := q
            rw [e] at e1
            cases e1
            rcases sq with (sq | ⟨_, sq⟩) | ⟨o2, its, n, k3, k4, _⟩
            · cases sq
            · cases sq
            · rw [k1] at k3
              cases k3
              exact ⟨o, k1, k2, k4⟩
        · cases hr0
    · cases h2
  | .lc m own t it cd el, C, k, X, c, W, md, e, G, tk, h => by
    rw [okE_lc, Bool.and_eq_true] at h
    obtain ⟨h1, h2⟩ := h
    split at h2
    · rename_i elt tg iter ifs kk scope pos
      simp only [Bool.and_eq_true, decide_eq_true_eq] at h2
      obtain ⟨⟨⟨⟨⟨⟨⟨rfl, hb⟩, hsl⟩, ht⟩, htg⟩, hit⟩, hel⟩, hif⟩ := h2
      have ok : BlkOk X.N X.env.scope scope (ownOf c own) := by
        rw [G.hN, G.sc]
        exact blkOk_by hb
      refine snd_of h1 (fun ρ U => by simp only [evB]) ?_
      have hgB := fun (s : Shared) (H : Hp) (A : Addr) (cl : List (Str × Addr)) (fp : List Addr) => (show PG (X.blk s H scope (compEnvC scope cl A X.env) fp) tg (xG X.prog X.w X.K X.mg t) from tg_ok (blk_good G s H scope A cl fp) htg)
      have hcB := fun (s : Shared) (H : Hp) (A : Addr) (cl : List (Str × Addr)) (fp : List Addr) => (show PTs (X.blk s H scope (compEnvC scope cl A X.env) fp) ifs (tT X.prog X.w X.K X.mg C (fun _ _ _ _ => False) cd) from
        pts_xT (X := X.blk s H scope (compEnvC scope cl A X.env) fp) (by
          cases ifs with
          | nil => exact .inl ⟨rfl, yes_is hif⟩
          | cons e1 r =>
            cases r with
            | nil => exact .inr ⟨e1, rfl, (sE cd (blk_good G s H scope A cl fp) (takes_blk s H scope _ fp) hif).2 rfl⟩
            | cons _ _ => cases hif))
      have heB := fun (s : Shared) (H : Hp) (A : Addr) (cl : List (Str × Addr)) (fp : List Addr) => (show PE (X.blk s H scope (compEnvC scope cl A X.env) fp) elt (tE X.prog X.w X.K X.mg C (fun _ _ _ _ => False) el) from (sE el (blk_good G s H scope A cl fp) (takes_blk s H scope _ fp) hel).1 rfl)
      have hN : X.N.Nodup := by rw [G.hN]; exact G.nd
      have q := n_lc (X := X) (C := C) (W := W) (m := m) (it := it) (tg := tg) (elt := elt) (ifs := ifs) G.calm hN ok (fun i hi => by
        rw [own_map]
        have := List.all_eq_true.mp hsl i hi
        simpa using this) hgB hcB heB
      rw [own_map] at q
      rw [Bool.or_eq_true] at hit
      by_cases hkk : okKeys c it iter = true
      · unfold okKeys at hkk
        split at hkk
        · simp only [Bool.and_eq_true, decide_eq_true_eq] at hkk
          have p := pe_lc (X := X) G.calm hN (i_keys (C := C) (W := W) (tg := tg) (by rw [G.hN]; exact hkk.1.1) (G.vis hkk.1.2) (plainNm_ok hkk.2).1 (plainNm_ok hkk.2).2) ok hgB hcB heB (fold_tame ht X.env) (pos := pos)
          rw [own_map] at p
          exact n_lcK p q
        · cases hkk
      have hi := sI it G tk (hit.resolve_left hkk)
      have p := pe_lc (X := X) G.calm hN hi ok hgB hcB heB (fold_tame ht X.env) (pos := pos)
      rw [own_map] at p
      exact p.imp q
    · cases h2
  | .repL m as a, C, k, X, c, W, md, e, G, tk, h => by
    rw [okE_repL, Bool.and_eq_true] at h
    obtain ⟨h1, h2⟩ := h
    split at h2
    · simp only [Bool.and_eq_true, decide_eq_true_eq] at h2
      exact ⟨fun _ => n_repL h2.1.1 (sEs as G tk h2.1.2) ((sE a G tk h2.2).1 rfl), fun e1 => by subst e1; cases h1⟩
    · cases h2
  | .isin a cs, C, k, X, c, W, md, e, G, tk, h => by
    rw [okE_isin, Bool.and_eq_true] at h
    obtain ⟨h1, h2⟩ := h
    split at h2
    · split at h2
      · simp only [Bool.and_eq_true] at h2
        obtain ⟨⟨⟨⟨⟨⟨l1, b1⟩, l2⟩, b2⟩, hc⟩, ht⟩, h3⟩ := h2
        have l1 := lit l1
        have l2 := lit l2
        subst l1 l2
        obtain ⟨g1, g2⟩ := G.blt b1
        obtain ⟨g3, g4⟩ := G.blt b2
        exact snd_of h1 (fun ρ U => by simp only [evB]) (n_isin (by simpa using hc) g1 g2 g3 g4 ht ((sE a G tk h3).1 rfl))
      · cases h2
    · split at h2
      · simp only [Bool.and_eq_true] at h2
        obtain ⟨⟨⟨⟨⟨⟨⟨⟨⟨l1, b1⟩, l2⟩, b2⟩, hc⟩, l3⟩, b3⟩, hc2⟩, ht⟩, h3⟩ := h2
        have l1 := lit l1
        have l2 := lit l2
        have l3 := lit l3
        subst l1 l2 l3
        obtain ⟨g1, g2⟩ := G.blt b1
        obtain ⟨g3, g4⟩ := G.blt b2
        obtain ⟨g5, g6⟩ := G.blt b3
        exact snd_of h1 (fun ρ U => by simp only [evB]) (n_isin2 (by simpa using hc) (by simpa using hc2) g1 g2 g3 g4 g5 g6 ht ((sE a G tk h3).1 rfl))
      · cases h2
    · cases h2
  | .dnil m t, C, k, X, c, W, md, e, G, tk, h => by
    rw [okE_dnil, Bool.and_eq_true] at h
    obtain ⟨h1, h2⟩ := h
    split at h2
    · simp only [Bool.or_eq_true, decide_eq_true_eq] at h2
      exact ⟨fun _ => n_dnil h2, fun e1 => by subst e1; cases h1⟩
    · cases h2
  | .done m t a b, C, k, X, c, W, md, e, G, tk, h => by
    rw [okE_done, Bool.and_eq_true] at h
    obtain ⟨h1, h2⟩ := h
    split at h2
    · simp only [Bool.and_eq_true, decide_eq_true_eq] at h2
      obtain ⟨⟨rfl, h3⟩, h4⟩ := h2
      exact ⟨fun _ => n_done G.units ((sE a G tk h3).1 rfl) ((sE b G tk h4).1 rfl), fun e1 => by subst e1; cases h1⟩
    · cases h2
  | .fld a f, C, k, X, c, W, md, e, G, tk, h => by
    rw [okE_fld, Bool.and_eq_true] at h
    obtain ⟨h1, h2⟩ := h
    split at h2
    · simp only [Bool.and_eq_true] at h2
      obtain ⟨⟨⟨l, hf⟩, hs⟩, h3⟩ := h2
      have l := lit l
      subst l
      exact snd_of h1 (fun ρ U => by simp only [evB]) (n_fld hs hf ((sE a G tk h3).1 rfl))
    · cases h2
  | .meth fz cn f a as, C, k, X, c, W, md, e, G, tk, h => by
    rw [okE_meth, Bool.and_eq_true] at h
    obtain ⟨h1, h2⟩ := h
    split at h2
    · rename_i e1 x apos es pos
      simp only [Bool.and_eq_true, decide_eq_true_eq, Bool.not_eq_true'] at h2
      obtain ⟨⟨⟨⟨⟨⟨⟨⟨l, hm⟩, hno⟩, hs⟩, hl⟩, ht⟩, hlen⟩, h3⟩, h4⟩ := h2
      have l := lit l
      subst l
      have F := G.ms (cn, f) (by simpa using hm)
      have ha := (sE a G tk h3).1 rfl
      have has := sEs as G tk h4
      cases es with
      | nil =>
        cases as with
        | nil => exact snd_of h1 (fun ρ U => by simp only [evB]) (n_methI0 tk G.room F hno hs hl ha)
        | cons a r => cases h4
      | cons e es => exact snd_of h1 (fun ρ U => by simp only [evB]) (n_methI tk G.room F hno hs hl hlen ha ht has)
    · cases h2
  | .make cn as, C, k, X, c, W, md, e, G, tk, h => by
    rw [okE_make, Bool.and_eq_true] at h
    obtain ⟨h1, h2⟩ := h
    split at h2
    · rename_i x p es pos
      simp only [Bool.and_eq_true] at h2
      obtain ⟨⟨⟨⟨⟨l, hf⟩, g⟩, pn⟩, ht⟩, h3⟩ := h2
      have l := lit l
      subst l
      obtain ⟨j, hj, F⟩ := G.mks cn (by simpa using hf)
      have ha := sEs as G tk h3
      cases es with
      | nil =>
        cases as with
        | nil => exact snd_of h1 (fun ρ U => by simp only [evB]) (n_make0 tk (G.room.mono hj) (G.gl g) F (plainNm_ok pn).1)
        | cons a r => cases h3
      | cons e es => exact snd_of h1 (fun ρ U => by simp only [evB]) (n_make tk (G.room.mono hj) (G.gl g) F (plainNm_ok pn).1 ht ha)
    · cases h2
  | .sortK _ _ _ _, C, k, X, c, W, md, e, G, tk, h => by first | (cases h; done) | (simp only [okE, okEs, okIt, Bool.and_false, Bool.false_eq_true] at h; done)
  | .minK _ _ _, C, k, X, c, W, md, e, G, tk, h => by first | (cases h; done) | (simp only [okE, okEs, okIt, Bool.and_false, Bool.false_eq_true] at h; done)
theorem sEs : ∀ (as : IEs) {C : Cal} {k : Nat} {X : Cx} {c : Ctx} {W : WX} {es : List Expr}, Good C k X c → Takes X W → okEs c as es = true → PA X es (xA X C W as)
  | .nil, C, k, X, c, W, [], G, tk, h => n_nil
  | .nil, C, k, X, c, W, _ :: _, G, tk, h => by first | (cases h; done) | (simp only [okE, okEs, okIt, Bool.and_false, Bool.false_eq_true] at h; done)
  | .cons a r, C, k, X, c, W, [], G, tk, h => by first | (cases h; done) | (simp only [okE, okEs, okIt, Bool.and_false, Bool.false_eq_true] at h; done)
  | .cons a r, C, k, X, c, W, e :: es, G, tk, h => by
    rw [okEs] at h
    simp only [Bool.and_eq_true] at h
    exact n_cons h.1.1 ((sE a G tk h.1.2).1 rfl) (sEs r G tk h.2)
theorem sI : ∀ (it : VI.It) {C : Cal} {k : Nat} {X : Cx} {c : Ctx} {W : WX} {tg e : Expr}, Good C k X c → Takes X W → okIt c it tg e = true → PI X tg e (xI X C W it)
  | .seq a, C, k, X, c, W, tg, e, G, tk, h => i_seq ((sE a G tk h).1 rfl)
  | .range1 a, C, k, X, c, W, tg, e, G, tk, h => by
    rw [okIt_range1] at h
    split at h
    · simp only [Bool.and_eq_true] at h
      obtain ⟨⟨⟨l, b⟩, ht⟩, h3⟩ := h
      have l := lit l
      subst l
      obtain ⟨g1, g2⟩ := G.blt b
      exact i_range1 g1 g2 ht ((sE a G tk h3).1 rfl)
    · cases h
  | .range2 a b, C, k, X, c, W, tg, e, G, tk, h => by
    rw [okIt_range2] at h
    split at h
    · simp only [Bool.and_eq_true] at h
      obtain ⟨⟨⟨⟨⟨l, bb⟩, ht⟩, ht2⟩, h3⟩, h4⟩ := h
      have l := lit l
      subst l
      obtain ⟨g1, g2⟩ := G.blt bb
      exact i_range2 g1 g2 ht ht2 ((sE a G tk h3).1 rfl) ((sE b G tk h4).1 rfl)
    · cases h
  | .enum a k0, C, k, X, c, W, tg, e, G, tk, h => by
    rw [okIt_enum] at h
    split at h
    · simp only [Bool.and_eq_true, decide_eq_true_eq] at h
      obtain ⟨⟨⟨⟨l, bb⟩, rfl⟩, ht⟩, h3⟩ := h
      have l := lit l
      subst l
      obtain ⟨g1, g2⟩ := G.blt bb
      exact i_enum g1 g2 ht ((sE a G tk h3).1 rfl)
    · simp only [Bool.and_eq_true, decide_eq_true_eq] at h
      obtain ⟨⟨⟨⟨⟨⟨l, l2⟩, bb⟩, hk0⟩, ht⟩, h3⟩, h4⟩ := h
      have l := lit l
      subst l
      have l2 := lit l2
      subst l2
      obtain ⟨g1, g2⟩ := G.blt bb
      exact i_enumK hk0 g1 g2 ht ((sE a G tk h3).1 rfl) (cst_ok h4)
    · cases h
  | .range3 a b k0, C, k, X, c, W, tg, e, G, tk, h => by
    rw [okIt_range3] at h
    split at h
    · simp only [Bool.and_eq_true] at h
      obtain ⟨⟨⟨⟨⟨⟨l, bb⟩, ht⟩, ht2⟩, h3⟩, h4⟩, h5⟩ := h
      have l := lit l
      subst l
      obtain ⟨g1, g2⟩ := G.blt bb
      exact i_range3 g1 g2 ht ht2 rfl ((sE a G tk h3).1 rfl) ((sE b G tk h4).1 rfl) (cst_ok h5)
    · cases h
  | .zip a b, C, k, X, c, W, tg, e, G, tk, h => by
    rw [okIt_zip] at h
    split at h
    · simp only [Bool.and_eq_true] at h
      obtain ⟨⟨⟨⟨⟨l, bb⟩, ht⟩, ht2⟩, h3⟩, h4⟩ := h
      have l := lit l
      subst l
      obtain ⟨g1, g2⟩ := G.blt bb
      exact i_zipY g1 g2 ht ht2 ((sE a G tk h3).1 rfl) ((sE b G tk h4).1 rfl)
    · cases h
  | .keys _, C, k, X, c, W, tg, e, G, tk, h => by first | (cases h; done) | (simp only [okE, okEs, okIt, Bool.and_false, Bool.false_eq_true] at h; done)
  | .rev _, C, k, X, c, W, tg, e, G, tk, h => by first | (cases h; done) | (simp only [okE, okEs, okIt, Bool.and_false, Bool.false_eq_true] at h; done)
end
end VI

/-! VId3: the check of statements. -/
namespace VI
open PySem PySem.Spec PyProof.Rows L2
/-- name = [..] on the name's line: stored within the block -/
def swapB (c : Ctx) (scope : Scope) (x : Str) (p q : Pos) : Bool := decide (c.sc.names.lookup x = some .local) && (p.line == q.line) && !(scope.names.any fun (n, k) => n == x && (k == .local || k == .cell))
def isDoc : Stmt → Bool
  | .Expr (.Constant (.str _) _ _) _ => true
  | _ => false
/-- three names at once -/
def parB (c : Ctx) (t : Tg) (a : IE) (es : List Expr) (e : Expr) : Bool := match t, a, es, e with
  | .tup [_, _, _], .tup _, [.Name x px, .Name y py, .Name z pz], .Tuple [e1, e2, e3] _ _ => par3B c.sc x y z px py pz e1 e2 e3
  | _, _, _, _ => false
mutual
def okS (c : Ctx) : IS → Stmt → Bool
  | .asg t a, st => (match st with
    | .Assign [.Name x p] e pos => okTg c t (.Name x p) && okE c false a e && (match t with | .var _ => true | _ => false) && (match e with
      | .ListComp elt [⟨tg, iter, ifs, k⟩] scope q => decide (k = 0) && tame iter
      | e => noComp e)
    | .Assign [.Tuple es k p] e pos => okTg c t (.Tuple es k p) && okE c false a e && (noTup e || parB c t a es e)
    | _ => false)
  | .asgI o i a, st => (match st with
    | .Assign [.Subscript e1 e2 _] e _ => tame e2 && okE c false a e && okE c false o e1 && okE c false i e2
    | _ => false)
  | .asgF o f a, st => (match st with
    | .Assign [.Attribute e1 x _] e _ => isLit x f && FLD.contains f && okE c false a e && okE c false o e1
    | _ => false)
  | .aug i op a, st => (match st with
    | .AugAssign (.Name x _) o e _ => decide (o = bop op) && (decide (op = .add) || decide (op = .sub)) && setB c i x && okE c false a e
    | _ => false)
  | .expr a, st => (match st with
    | .Expr e _ => noComp e && okE c false a e
    | _ => false)
  | .ret a, st => (match st with
    | .Return (some e) _ => okE c false a e
    | _ => false)
  | .retN, st => (match st with
    | .Return none _ => true
    | _ => false)
  | .ifS t a b, st => (match st with
    | .If e x y _ => okE c true t e && okSs c a x && okSs c b y
    | _ => false)
  | .forS t it b, st => (match st with
    | .For tg e x [] _ => tame e && okTg c t tg && okIt c it tg e && okSs c b x
    | _ => false)
  | .whileS t b, st => (match st with
    | .While e x [] _ => okE c true t e && okSs c b x
    | _ => false)
  | .brk, st => (match st with
    | .Break _ => true
    | _ => false)
  | .pass, st => (match st with
    | .Pass _ => true
    | _ => false)
  | .never, _ => true
  | _, _ => false
/-- docstrings are passed over -/
def okSs (c : Ctx) : ISs → List Stmt → Bool
  | .nil, sts => sts.all isDoc
  | .cons s r, sts => (match sts with
    | [] => false
    | st :: sts => if isDoc st then (match sts with
      | [] => false
      | st :: sts => okS c s st && okSs c r sts) else okS c s st && okSs c r sts)
end
end VI

/-! VId3e: the check of statements, unfolded (printed by mkeqs.py from VId3). -/
namespace VI
open PySem PySem.Spec PyProof.Rows L2
theorem okS_asg (c : Ctx) (t : Tg) (a : IE) (st : Stmt) : okS c (.asg t a) st = ((match st with
    | .Assign [.Name x p] e pos => okTg c t (.Name x p) && okE c false a e && (match t with | .var _ => true | _ => false) && (match e with
      | .ListComp elt [⟨tg, iter, ifs, k⟩] scope q => decide (k = 0) && tame iter
      | e => noComp e)
    | .Assign [.Tuple es k p] e pos => okTg c t (.Tuple es k p) && okE c false a e && (noTup e || parB c t a es e)
    | _ => false)) := rfl
theorem okS_asgI (c : Ctx) (o : IE) (i : IE) (a : IE) (st : Stmt) : okS c (.asgI o i a) st = ((match st with
    | .Assign [.Subscript e1 e2 _] e _ => tame e2 && okE c false a e && okE c false o e1 && okE c false i e2
    | _ => false)) := rfl
theorem okS_asgF (c : Ctx) (o : IE) (f : String) (a : IE) (st : Stmt) : okS c (.asgF o f a) st = ((match st with
    | .Assign [.Attribute e1 x _] e _ => isLit x f && FLD.contains f && okE c false a e && okE c false o e1
    | _ => false)) := rfl
theorem okS_aug (c : Ctx) (i : Nat) (op : BOp) (a : IE) (st : Stmt) : okS c (.aug i op a) st = ((match st with
    | .AugAssign (.Name x _) o e _ => decide (o = bop op) && (decide (op = .add) || decide (op = .sub)) && setB c i x && okE c false a e
    | _ => false)) := rfl
theorem okS_expr (c : Ctx) (a : IE) (st : Stmt) : okS c (.expr a) st = ((match st with
    | .Expr e _ => noComp e && okE c false a e
    | _ => false)) := rfl
theorem okS_ret (c : Ctx) (a : IE) (st : Stmt) : okS c (.ret a) st = ((match st with
    | .Return (some e) _ => okE c false a e
    | _ => false)) := rfl
theorem okS_retN (c : Ctx) (st : Stmt) : okS c (.retN) st = ((match st with
    | .Return none _ => true
    | _ => false)) := rfl
theorem okS_ifS (c : Ctx) (t : IE) (a : ISs) (b : ISs) (st : Stmt) : okS c (.ifS t a b) st = ((match st with
    | .If e x y _ => okE c true t e && okSs c a x && okSs c b y
    | _ => false)) := rfl
theorem okS_forS (c : Ctx) (t : Tg) (it : VI.It) (b : ISs) (st : Stmt) : okS c (.forS t it b) st = ((match st with
    | .For tg e x [] _ => tame e && okTg c t tg && okIt c it tg e && okSs c b x
    | _ => false)) := rfl
theorem okS_whileS (c : Ctx) (t : IE) (b : ISs) (st : Stmt) : okS c (.whileS t b) st = ((match st with
    | .While e x [] _ => okE c true t e && okSs c b x
    | _ => false)) := rfl
theorem okS_brk (c : Ctx) (st : Stmt) : okS c (.brk) st = ((match st with
    | .Break _ => true
    | _ => false)) := rfl
theorem okS_pass (c : Ctx) (st : Stmt) : okS c (.pass) st = ((match st with
    | .Pass _ => true
    | _ => false)) := rfl
theorem okS_never (c : Ctx) (w1 : Stmt) : okS c (.never) w1 = (true) := rfl
end VI

/-! VId4: the check is sound: statements, defs. -/
namespace VI
open PySem PySem.Spec PyProof.Rows L2
section
variable {C : Cal} {k : Nat} {X : Cx} {c : Ctx} {W : WX}
/-- name = [..] -/
theorem swaps_lc (hk : X.env.scope.kind = .function) (hsc : X.env.scope = c.sc) {elt : Expr} {gs : List Comprehension} {scope : Scope} {q p : Pos} {x : Str} {l : Nat} : swapsWith (.ListComp elt gs scope q) (some (.Name x p)) l X.env = pure (swapB c scope x p q) := by
  unfold swapsWith swapB Env.blockKind Env.kindOf
  rw [hk, hsc]
  simp only [Expr.pos]
  have e : (ScopeKind.function.isAnnotationScope) = false := rfl
  simp only [e]
  have e2 : ((c.sc.names.lookup x == some NameKind.local) = decide (c.sc.names.lookup x = some NameKind.local)) := by
    rw [Bool.beq_eq_decide_eq]
  rw [← e2]
  simp
/-- a comprehension's parts -/
theorem lc_parts {m : Bool} {own : List Nat} {t : Tg} {it : VI.It} {cd el : IE} {elt tg iter : Expr} {ifs : List Expr} {kk : Int} {scope : Scope} {pos : Pos} (G : Good C k X c) (tk : Takes X W) (h : okE c false (.lc m own t it cd el) (.ListComp elt [⟨tg, iter, ifs, kk⟩] scope pos) = true) :
    kk = 0 ∧ tame iter = true ∧ (okKeys c it iter = true ∨ okIt c it tg iter = true) ∧ BlkOk X.N X.env.scope scope (ownOf c own) ∧
    (∀ (s : Shared) (H : Hp) (A : Addr) (cl : List (Str × Addr)) (fp : List Addr), PG (X.blk s H scope (compEnvC scope cl A X.env) fp) tg (xG X.prog X.w X.K X.mg t)) ∧
    (∀ (s : Shared) (H : Hp) (A : Addr) (cl : List (Str × Addr)) (fp : List Addr), PTs (X.blk s H scope (compEnvC scope cl A X.env) fp) ifs (tT X.prog X.w X.K X.mg C (fun _ _ _ _ => False) cd)) ∧
    (∀ (s : Shared) (H : Hp) (A : Addr) (cl : List (Str × Addr)) (fp : List Addr), PE (X.blk s H scope (compEnvC scope cl A X.env) fp) elt (tE X.prog X.w X.K X.mg C (fun _ _ _ _ => False) el)) ∧
    ∀ σ H Q, xE X C W (.lc m own t it cd el) σ H Q → tLc (xI X C W it) (xG X.prog X.w X.K X.mg t) (tT X.prog X.w X.K X.mg C (fun _ _ _ _ => False) cd) (tE X.prog X.w X.K X.mg C (fun _ _ _ _ => False) el) own σ H Q := by
  rw [okE_lc, Bool.and_eq_true] at h
  obtain ⟨h1, h2⟩ := h
  simp only [Bool.and_eq_true, decide_eq_true_eq] at h2
  obtain ⟨⟨⟨⟨⟨⟨⟨rfl, hb⟩, hsl⟩, ht⟩, htg⟩, hit⟩, hel⟩, hif⟩ := h2
  rw [Bool.or_eq_true] at hit
  have ok : BlkOk X.N X.env.scope scope (ownOf c own) := by
    rw [G.hN, G.sc]
    exact blkOk_by hb
  have hgB := fun (s : Shared) (H : Hp) (A : Addr) (cl : List (Str × Addr)) (fp : List Addr) => (show PG (X.blk s H scope (compEnvC scope cl A X.env) fp) tg (xG X.prog X.w X.K X.mg t) from tg_ok (blk_good G s H scope A cl fp) htg)
  have hcB := fun (s : Shared) (H : Hp) (A : Addr) (cl : List (Str × Addr)) (fp : List Addr) => (show PTs (X.blk s H scope (compEnvC scope cl A X.env) fp) ifs (tT X.prog X.w X.K X.mg C (fun _ _ _ _ => False) cd) from
    pts_xT (X := X.blk s H scope (compEnvC scope cl A X.env) fp) (by
      cases ifs with
      | nil => exact .inl ⟨rfl, yes_is hif⟩
      | cons e1 r =>
        cases r with
        | nil => exact .inr ⟨e1, rfl, (sE cd (blk_good G s H scope A cl fp) (takes_blk s H scope _ fp) hif).2 rfl⟩
        | cons _ _ => cases hif))
  have heB := fun (s : Shared) (H : Hp) (A : Addr) (cl : List (Str × Addr)) (fp : List Addr) => (show PE (X.blk s H scope (compEnvC scope cl A X.env) fp) elt (tE X.prog X.w X.K X.mg C (fun _ _ _ _ => False) el) from (sE el (blk_good G s H scope A cl fp) (takes_blk s H scope _ fp) hel).1 rfl)
  have hN : X.N.Nodup := by rw [G.hN]; exact G.nd
  have q := n_lc (X := X) (C := C) (W := W) (m := m) (it := it) (tg := tg) (elt := elt) (ifs := ifs) G.calm hN ok (fun i hi => by
    rw [own_map]
    have := List.all_eq_true.mp hsl i hi
    simpa using this) hgB hcB heB
  refine ⟨rfl, ht, hit, ok, hgB, hcB, heB, ?_⟩
  rw [own_map] at q
  exact q
/-- an assignment to a name, by the expression's end -/
theorem asg_end {a : IE} {i : Nat} {E : Ends} {σ : L2.St} {H : Hp} (q : xS X C W (.asg (.var i) a) E σ H) : xE X C W a σ H (fun x H1 => gName i x σ H1 E.nx) := by
  obtain ⟨Φ, Z, β, ρ, U, r, S, R, h, o⟩ := q
  rw [exec] at h
  refine tE_bndS S R h o fun Z1 β1 H1 d v U1 z1 b1 R1 r1 S1 h1 o1 => ?_
  simp only [asgT] at h1
  cases h1
  exact o1 Z1 β1 H1 _ (ZLe.refl _) (BLe.refl _) R1 (S1.set r1)
theorem s_setC {a : IE} {i : Nat} {x : Str} {p pos q : Pos} {elt tg iter : Expr} {ifs : List Expr} {scope : Scope} (hk : X.env.scope.kind = .function) (G : Good C k X c) (tk : Takes X W) (hx : setB c i x = true) (h : okE c false a (.ListComp elt [⟨tg, iter, ifs, 0⟩] scope q) = true) :
    PS X (.Assign [.Name x p] (.ListComp elt [⟨tg, iter, ifs, 0⟩] scope q) pos) (xS X C W (.asg (.var i) a)) := by
  have hs := G.set hx
  have ha := (sE a G tk h).1 rfl
  by_cases sw : swapB c scope x p q = true
  · cases a with
    | lc m own t it cd el =>
      obtain ⟨_, ht, hit, ok, hgB, hcB, heB, im⟩ := lc_parts G tk h
      have hl : X.env.scope.names.lookup x = some .local := by
        unfold swapB at sw
        simp only [Bool.and_eq_true, decide_eq_true_eq] at sw
        rw [G.sc]
        exact sw.1.1
      have hsw : swapsWith (.ListComp elt [⟨tg, iter, ifs, 0⟩] scope q) (some (.Name x p)) pos.line X.env = pure true := by
        rw [swaps_lc hk G.sc, sw]
      rcases hit with hkk | hit
      · unfold okKeys at hkk
        split at hkk
        · simp only [Bool.and_eq_true, decide_eq_true_eq] at hkk
          have p0 := ps_setLc (X := X) G.calm hs.nd hs.at_ hl hsw (i_keys (C := C) (W := W) (tg := tg) (by rw [G.hN]; exact hkk.1.1) (G.vis hkk.1.2) (plainNm_ok hkk.2).1 (plainNm_ok hkk.2).2) ok hgB hcB heB (fold_tame ht X.env)
          rw [own_map] at p0
          exact (s_setK p0 im).imp fun E σ H q => asg_end q
        · cases hkk
      · have p0 := ps_setLc (X := X) G.calm hs.nd hs.at_ hl hsw (sI it G tk hit) ok hgB hcB heB (fold_tame ht X.env)
        rw [own_map] at p0
        exact p0.imp fun E σ H q => im σ H _ (asg_end q)
    | _ => exact absurd h (by simp [okE])
  · refine (ps_set hs.nd hs.at_ hs.loc ha ?_ hs.fn).imp fun E σ H q => asg_end q
    rw [swaps_lc hk G.sc]
    simp only [Bool.not_eq_true] at sw
    rw [sw]
end
theorem docs_ok {X : Cx} {C : Cal} {W : WX} : ∀ {sts : List Stmt}, sts.all isDoc = true → PSs X sts (xSs X C W .nil)
  | [], _ => s_nil
  | st :: sts, h => by
    simp only [List.all_cons, Bool.and_eq_true] at h
    have ih := docs_ok (X := X) (C := C) (W := W) h.2
    unfold isDoc at h
    split at h
    · exact s_doc ih
    · cases h.1
theorem parB_ok {c : Ctx} {t : Tg} {a : IE} {es : List Expr} {e : Expr} (h : parB c t a es e = true) : ∃ i j l as x px y py z pz e1 e2 e3 k2 p2, t = .tup [i, j, l] ∧ a = .tup as ∧ es = [.Name x px, .Name y py, .Name z pz] ∧ e = .Tuple [e1, e2, e3] k2 p2 ∧ par3B c.sc x y z px py pz e1 e2 e3 = true := by
  unfold parB at h
  split at h
  · exact ⟨_, _, _, _, _, _, _, _, _, _, _, _, _, _, _, rfl, rfl, rfl, rfl, h⟩
  · cases h
mutual
theorem sS : ∀ (s : IS) {C : Cal} {k : Nat} {X : Cx} {c : Ctx} {W : WX} {st : Stmt}, Good C k X c → Takes X W → X.env.scope.kind = .function → PassesOwn (model X.prog X.w) X.A X.env X.xe → okS c s st = true → PS X st (xS X C W s)
  | .asg t a, C, k, X, c, W, st, G, tk, hk, hp, h => by
    rw [okS_asg] at h
    split at h
    · rename_i x p e pos
      simp only [Bool.and_eq_true] at h
      obtain ⟨⟨⟨h1, h2⟩, h3⟩, h4⟩ := h
      cases t with
      | var i =>
        have hx : setB c i x = true := h1
        split at h4
        · simp only [Bool.and_eq_true, decide_eq_true_eq] at h4
          obtain ⟨rfl, ht⟩ := h4
          exact s_setC hk G tk hx h2
        · exact s_set (G.set hx) h4 ((sE a G tk h2).1 rfl)
      | _ => cases h3
    · rename_i es kk p e pos
      simp only [Bool.and_eq_true] at h
      obtain ⟨⟨h1, h2⟩, h3⟩ := h
      rw [Bool.or_eq_true] at h3
      by_cases hn : noTup e = true
      · exact s_asgT hn ((sE a G tk h2).1 rfl) (tg_ok G h1)
      · have h3 := h3.resolve_left hn
        obtain ⟨i, j, l, as, x, px, y, py, z, pz, e1, e2, e3, k2, p2, rfl, rfl, rfl, rfl, h3⟩ := parB_ok h3
        rw [okE_tup, Bool.and_eq_true] at h2
        obtain ⟨_, h2⟩ := h2
        simp only [Bool.and_eq_true] at h2
        have ha := sEs as G tk h2.2
        have h1' : okNames c [i, j, l] [.Name x px, .Name y py, .Name z pz] = true := h1
        simp only [okNames, Bool.and_eq_true] at h1'
        have hp' : par3B X.env.scope x y z px py pz e1 e2 e3 = true := by rw [G.sc]; exact h3
        exact s_par3 G.calm (G.set h1'.1) (G.set h1'.2.1) (G.set h1'.2.2.1) hp' ha
    · cases h
  | .aug i op a, C, k, X, c, W, st, G, tk, hk, hp, h => by
    rw [okS_aug] at h
    split at h
    · simp only [Bool.and_eq_true, Bool.or_eq_true, decide_eq_true_eq] at h
      obtain ⟨⟨⟨rfl, ho⟩, hx⟩, h3⟩ := h
      exact s_aug ho (G.set hx) ((sE a G tk h3).1 rfl)
    · cases h
  | .expr a, C, k, X, c, W, st, G, tk, hk, hp, h => by
    rw [okS_expr] at h
    split at h
    · simp only [Bool.and_eq_true] at h
      exact s_expr h.1 ((sE a G tk h.2).1 rfl)
    · cases h
  | .ret a, C, k, X, c, W, st, G, tk, hk, hp, h => by
    rw [okS_ret] at h
    split at h
    · exact s_ret ((sE a G tk h).1 rfl)
    · cases h
  | .retN, C, k, X, c, W, st, G, tk, hk, hp, h => by
    rw [okS_retN] at h
    split at h
    · exact s_retN
    · cases h
  | .ifS t a b, C, k, X, c, W, st, G, tk, hk, hp, h => by
    rw [okS_ifS] at h
    split at h
    · simp only [Bool.and_eq_true] at h
      exact s_if ((sE t G tk h.1.1).2 rfl) (sSs a G tk hk hp h.1.2) (sSs b G tk hk hp h.2)
    · cases h
  | .forS t it b, C, k, X, c, W, st, G, tk, hk, hp, h => by
    rw [okS_forS] at h
    split at h
    · simp only [Bool.and_eq_true] at h
      exact s_for hp G.calm h.1.1.1 (sI it G tk h.1.2) (tg_ok G h.1.1.2) (sSs b G tk hk hp h.2)
    · cases h
  | .whileS t b, C, k, X, c, W, st, G, tk, hk, hp, h => by
    rw [okS_whileS] at h
    split at h
    · simp only [Bool.and_eq_true] at h
      exact s_while hp ((sE t G tk h.1).2 rfl) (sSs b G tk hk hp h.2)
    · cases h
  | .brk, C, k, X, c, W, st, G, tk, hk, hp, h => by
    rw [okS_brk] at h
    split at h
    · exact s_brk
    · cases h
  | .pass, C, k, X, c, W, st, G, tk, hk, hp, h => by
    rw [okS_pass] at h
    split at h
    · exact s_pass
    · cases h
  | .asgI o i a, C, k, X, c, W, st, G, tk, hk, hp, h => by
    rw [okS_asgI] at h
    split at h
    · simp only [Bool.and_eq_true] at h
      obtain ⟨⟨⟨h2, h3⟩, h4⟩, h5⟩ := h
      exact s_asgIt (by have := G.units; omega) ((sE a G tk h3).1 rfl) ((sE o G tk h4).1 rfl) ((sE i G tk h5).1 rfl) h2
    · cases h
  | .asgF o f a, C, k, X, c, W, st, G, tk, hk, hp, h => by
    rw [okS_asgF] at h
    split at h
    · rename_i e1 x p e pos
      simp only [Bool.and_eq_true] at h
      obtain ⟨⟨⟨l, hf⟩, h3⟩, h4⟩ := h
      have l := lit l
      subst l
      exact s_asgF hf (by cases e <;> rfl) ((sE o G tk h4).1 rfl) ((sE a G tk h3).1 rfl)
    · cases h
  | .asgIV _ _ _ _, C, k, X, c, W, st, G, tk, hk, hp, h => by first | (cases h; done) | (simp only [okS, Bool.false_eq_true] at h; done)
  | .raise _ _ _, C, k, X, c, W, st, G, tk, hk, hp, h => by first | (cases h; done) | (simp only [okS, Bool.false_eq_true] at h; done)
  | .tryS _ _ _ _, C, k, X, c, W, st, G, tk, hk, hp, h => by first | (cases h; done) | (simp only [okS, Bool.false_eq_true] at h; done)
  | .never, C, k, X, c, W, st, G, tk, hk, hp, h => ⟨fun pins s σ H D I ⟨Φ, Z, β, ρ, U, r, S, R, h, o⟩ => by
    rw [exec] at h
    cases h⟩
theorem sSs : ∀ (s : ISs) {C : Cal} {k : Nat} {X : Cx} {c : Ctx} {W : WX} {sts : List Stmt}, Good C k X c → Takes X W → X.env.scope.kind = .function → PassesOwn (model X.prog X.w) X.A X.env X.xe → okSs c s sts = true → PSs X sts (xSs X C W s)
  | .nil, C, k, X, c, W, sts, G, tk, hk, hp, h => docs_ok h
  | .cons s r, C, k, X, c, W, sts, G, tk, hk, hp, h => by
    cases sts with
    | nil => cases h
    | cons st sts =>
      unfold okSs at h
      dsimp only at h
      split at h
      · rename_i hd
        cases sts with
        | nil => cases h
        | cons st2 sts =>
          simp only [Bool.and_eq_true] at h
          have q := s_cons (sS s G tk hk hp h.1) (sSs r G tk hk hp h.2)
          unfold isDoc at hd
          split at hd
          · exact s_doc q
          · cases hd
      · simp only [Bool.and_eq_true] at h
        exact s_cons (sS s G tk hk hp h.1) (sSs r G tk hk hp h.2)
end
/-! ### defs -/
structure Entry where
  name : String
  N : List Str
  ps : List Str
  fn : Fn
  qual : Str
  params : Arguments
  body : List Stmt
  scope : Scope
  cm : Option (String × String) := none
def fnScopeB (N ps : List Str) (sc : Scope) : Bool := decide (sc.kind = .function) && (!sc.isCoroutine && (!sc.isGenerator && (decide N.Nodup && (decide (N.take ps.length = ps) && (ps.all (fun x => decide (sc.names.lookup x = some .local) || decide (sc.names.lookup x = some .cell)) && sc.names.all fun y => decide (y.2 ≠ .free))))))
theorem fnScope_ok {N ps : List Str} {sc : Scope} (h : fnScopeB N ps sc = true) : FnScope N ps sc := by
  unfold fnScopeB at h
  simp only [Bool.and_eq_true, decide_eq_true_eq, Bool.not_eq_true', List.all_eq_true, Bool.or_eq_true] at h
  obtain ⟨h1, h2, h3, h4, h5, h6, h7⟩ := h
  exact ⟨h1, h2, h3, h4, h5, h6, h7⟩
def ctxOf (fs free : List String) (cs : List (String × D)) (ms : List (String × String)) (mks : List String) (e : Entry) : Ctx := { N := e.N, sc := e.scope, fn := fun _ => true, fs := fs, free := free, cs := cs, ms := ms, mks := mks }
def entryOk (fs free : List String) (cs : List (String × D)) (ms : List (String × String)) (mks : List String) (e : Entry) : Bool := decide (e.fn.np = e.ps.length) && (decide (e.fn.ns = e.N.length) && (fnScopeB e.N e.ps e.scope && okSs (ctxOf fs free cs ms mks e) e.fn.body e.body))
/-- what is known of the module -/
structure Known (P : Program) (w : World) (K : PySem.W.Frag) (mg : Str → Option Value) (free : List String) (cs : List (String × D)) : Prop where
  free : ∀ x ∈ free, mg (Str.ofString x) = none
  cs : ∀ q ∈ cs, ∃ u v, mg (Str.ofString q.1) = some u ∧ RelV v u ∧ (∀ Z β, RepV P w K Z β q.2 v) ∧ ∀ p, v = .ref p → ∃ o, K.lookup p = some o ∧ o.dict = none
/-- where a def stands: a global, a class's __init__, a method -/
def Place (K : PySem.W.Frag) (mg : Str → Option Value) (a : Addr) (e : Entry) : Prop := match e.cm with
  | none => mg (Str.ofString e.name) = some (.ref a) ∧ PySem.W.keepIn K (.ref a) = true
  | some (c, m) => ∃ Ca, mg (Str.ofString c) = some (.ref Ca) ∧ ClsF K Ca ∧ if m = "__init__" then Mk K Ca a else Meth K Ca (Str.ofString m) a
/-- a def stands -/
def Stands (K : PySem.W.Frag) (mg : Str → Option Value) (e : Entry) : Prop := ∃ (a : Addr) (fd : FuncData) (x : Str), Place K mg a e ∧ FunD K x e.qual e.params e.body e.scope [] [] a fd ∧ Binds K fd e.ps []
/-- all that may be called -/
structure Hyps (P : Program) (w : World) (K : PySem.W.Frag) (mg : Str → Option Value) (base : Heap) (C : Cal) (k : Nat) (fs : List String) (ms : List (String × String)) (mks : List String) : Prop where
  fs : ∀ f ∈ fs, FnHyp P w K mg base C k f
  ms : ∀ q ∈ ms, MeHyp P w K mg base C k q.1 q.2
  mks : ∀ c ∈ mks, MkHyp P w K mg base C k c
/-- where they stand in the table -/
structure Tabs (Γ : Tab) (es : List Entry) (fs : List String) (ms : List (String × String)) (mks : List String) : Prop where
  fs : ∀ f ∈ fs, ∃ e ∈ es, e.cm = none ∧ e.name = f ∧ Γ f = some e.fn
  ms : ∀ q ∈ ms, ∃ e ∈ es, e.cm = some q ∧ q.2 ≠ "__init__" ∧ e.name = q.1 ++ "." ++ q.2 ∧ Γ e.name = some e.fn
  mks : ∀ c ∈ mks, ∃ e ∈ es, e.cm = some (c, "__init__") ∧ e.name = c ++ ".__init__" ∧ Γ e.name = some e.fn
theorem start_rep {P : Program} {w : World} {K : PySem.W.Frag} {Z : Hp} {β : List Addr} {fn : Fn} {N : List Str} {ds : List D} {vs : List V} (hn : fn.ns = N.length) (hp : ds.length = fn.np) (q : RepL P w K Z β ds vs) : RepS P w K Z β (startR fn ds) (L2.start N vs) := by
  unfold startR L2.start
  have hl := q.length
  refine ⟨by simp [hl, hn, ← hp], fun i d e => ?_⟩
  by_cases hi : i < ds.length
  · rw [List.getElem?_append_left (by simpa using hi), List.getElem?_map, Option.map_eq_some_iff] at e
    obtain ⟨d', e1, e2⟩ := e
    cases e2
    obtain ⟨v, e3, r⟩ := q.get e1
    refine ⟨v, ?_, r⟩
    rw [List.getElem?_append_left (by simp; omega), List.getElem?_map, e3]
    rfl
  · rw [List.getElem?_append_right (by simpa using Nat.le_of_not_lt hi), List.getElem?_replicate] at e
    split at e <;> cases e
theorem FnHyp.up {P : Program} {w : World} {K : PySem.W.Frag} {mg : Str → Option Value} {base : Heap} {C : Cal} {k : Nat} {f : String} (h : FnHyp P w K mg base C k f) : FnHyp P w K mg base C (k + 1) f := by
  obtain ⟨a, fd, ps, h1, h2, F, h3⟩ := h
  exact ⟨a, fd, ps, h1, h2, F.mono (Nat.le_succ k), h3⟩
theorem MeHyp.up {P : Program} {w : World} {K : PySem.W.Frag} {mg : Str → Option Value} {base : Heap} {C : Cal} {k : Nat} {c f : String} (h : MeHyp P w K mg base C k c f) : MeHyp P w K mg base C (k + 1) c f := by
  obtain ⟨Ca, a, fd, ps, h1, h2, h4, F, h3⟩ := h
  exact ⟨Ca, a, fd, ps, h1, h2, h4, F.mono (Nat.le_succ k), h3⟩
/-- one def, one call deeper -/
theorem entry_ok {P : Program} {w : World} {K : PySem.W.Frag} {mg : Str → Option Value} {base : Heap} {Γ : Tab} {fs free : List String} {cs : List (String × D)} {ms : List (String × String)} {mks : List String} {e : Entry} {j k : Nat} {a : Addr} {fd : FuncData} {x : Str} (kn : Known P w K mg free cs) (ho : entryOk fs free cs ms mks e = true) (hΓ : Γ e.name = some e.fn)
    (F : FunD K x e.qual e.params e.body e.scope [] [] a fd) (ih : Hyps P w K mg base (run Γ j) k fs ms mks) : FnOk P w K mg base (L2.CX P w) (k + 2) a fd e.ps (spV P w K mg (run Γ (j + 1)) e.name) := by
  unfold entryOk at ho
  simp only [Bool.and_eq_true, decide_eq_true_eq] at ho
  obtain ⟨h1, h2, h3, h4⟩ := ho
  have S := fnScope_ok h3
  have len : ∀ vs H Q E, spV P w K mg (run Γ (j + 1)) e.name vs H Q E → vs.length = e.ps.length := fun vs H Q E q => by
    obtain ⟨Φ, Z, β, U, ds, r, R, q, h, _⟩ := q
    rw [run, hΓ] at h
    simp only at h
    split at h
    · rename_i hd
      rw [← q.length, hd, h1]
    · cases h
  refine F.ok S len fun cdv A outer s H vs Q E hr q => ?_
  obtain ⟨Φ, Z, β, U, ds, r, R, q, h, o⟩ := q
  rw [run, hΓ] at h
  simp only at h
  split at h
  · rename_i hd
    have G : Good (run Γ j) (k + 1) (cxOf (L2.CX P w) P w K mg base e.N e.qual e.scope a cdv A outer s H E) (ctxOf fs free cs ms mks e) :=
      ⟨rfl, S.nd, rfl, rfl, rfl, hr, Nat.succ_pos k, kn.free, kn.cs, fun f hf => (ih.fs f hf).up, fun q hq => (ih.ms q hq).up, fun c hc => ⟨k, Nat.le_refl _, ih.mks c hc⟩⟩
    have tk : Takes (cxOf (L2.CX P w) P w K mg base e.N e.qual e.scope a cdv A outer s H E) (fun cls d _ H => E cls d H) := takes_of rfl rfl rfl rfl
    refine ⟨_, sSs e.fn.body G tk S.kind (passes_of rfl) h4, ?_⟩
    cases hx : execs (run Γ j) e.fn.body (startR e.fn ds) U with
    | none => rw [hx] at h; cases h
    | some rs =>
      rw [hx] at h
      refine ⟨Φ, Z, β, startR e.fn ds, U, rs, start_rep h2 hd q, R, hx, ?_⟩
      cases rs with
      | nx ρ U' =>
        cases h
        exact fun Z' β' H' σ' z b R' _ => o Z' β' H' .non z b R' (by simp only [RepV])
      | rt d U' => cases h; exact o
      | bk ρ U' => cases h
      | ex x ρ U' =>
        cases h
        exact fun Z' β' σ' z b _ => DoneX.mono o z b
  · cases h
theorem no_fn {P : Program} {w : World} {K : PySem.W.Frag} {mg : Str → Option Value} {base : Heap} {Γ : Tab} {k : Nat} {a : Addr} {fd : FuncData} {ps : List Str} {f : String} : FnOk P w K mg base (L2.CX P w) k a fd ps (spV P w K mg (run Γ 0) f) :=
by
  refine ⟨fun vs H Q E q => ?_, fun A outer s H args us vs Q E hr e0 hb' r q => ?_⟩
  · obtain ⟨Φ, Z, β, U, ds, r, R, q, h, _⟩ := q
    cases h
  · obtain ⟨Φ, Z, β, U, ds, r, R, q, h, _⟩ := q
    cases h
theorem fns_ok {P : Program} {w : World} {K : PySem.W.Frag} {mg : Str → Option Value} {base : Heap} {Γ : Tab} {fs free : List String} {cs : List (String × D)} {ms : List (String × String)} {mks : List String} {es : List Entry} (kn : Known P w K mg free cs) (ok : ∀ e ∈ es, entryOk fs free cs ms mks e = true) (st : ∀ e ∈ es, Stands K mg e) (tab : Tabs Γ es fs ms mks) :
    ∀ (j : Nat), Hyps P w K mg base (run Γ j) (2 * j + 1) fs ms mks
  | 0 => by
    refine ⟨fun f hf => ?_, fun q hq => ?_, fun c hc => ?_⟩
    · obtain ⟨e, he, hc, rfl, hΓ⟩ := tab.fs f hf
      obtain ⟨a, fd, x, pl, F, hb⟩ := st e he
      unfold Place at pl
      rw [hc] at pl
      exact ⟨a, fd, e.ps, pl.1, pl.2, no_fn, hb⟩
    · obtain ⟨e, he, hc, hne, hn, hΓ⟩ := tab.ms q hq
      obtain ⟨a, fd, x, pl, F, hb⟩ := st e he
      unfold Place at pl
      rw [hc] at pl
      obtain ⟨Ca, hm, hcl, hp⟩ := pl
      rw [if_neg hne] at hp
      exact ⟨Ca, a, fd, e.ps, hm, hcl.1, hp, no_fn, hb⟩
    · obtain ⟨e, he, hc, hn, hΓ⟩ := tab.mks c hc
      obtain ⟨a, fd, x, pl, F, hb⟩ := st e he
      unfold Place at pl
      rw [hc] at pl
      obtain ⟨Ca, hm, hcl, hp⟩ := pl
      rw [if_pos rfl] at hp
      exact ⟨Ca, a, fd, e.ps, hm, hcl, hp, no_fn, hb⟩
  | j + 1 => by
    have ih := fns_ok (base := base) kn ok st tab j
    refine ⟨fun f hf => ?_, fun q hq => ?_, fun c hc => ?_⟩
    · obtain ⟨e, he, hc, rfl, hΓ⟩ := tab.fs f hf
      obtain ⟨a, fd, x, pl, F, hb⟩ := st e he
      unfold Place at pl
      rw [hc] at pl
      exact ⟨a, fd, e.ps, pl.1, pl.2, entry_ok kn (ok e he) hΓ F ih, hb⟩
    · obtain ⟨e, he, hc, hne, hn, hΓ⟩ := tab.ms q hq
      obtain ⟨a, fd, x, pl, F, hb⟩ := st e he
      unfold Place at pl
      rw [hc] at pl
      obtain ⟨Ca, hm, hcl, hp⟩ := pl
      rw [if_neg hne] at hp
      have q := entry_ok (base := base) kn (ok e he) hΓ F ih
      rw [hn] at q
      exact ⟨Ca, a, fd, e.ps, hm, hcl.1, hp, q, hb⟩
    · obtain ⟨e, he, hc, hn, hΓ⟩ := tab.mks c hc
      obtain ⟨a, fd, x, pl, F, hb⟩ := st e he
      unfold Place at pl
      rw [hc] at pl
      obtain ⟨Ca, hm, hcl, hp⟩ := pl
      rw [if_pos rfl] at hp
      have q := entry_ok (base := base) kn (ok e he) hΓ F ih
      rw [hn] at q
      exact ⟨Ca, a, fd, e.ps, hm, hcl, hp, q, hb⟩
end VI

/-! VIe1: from the evaluator to a law's row. -/
namespace VI
open PySem PySem.Spec PyProof.Rows L2
/-! ### constants of the module -/
mutual
def datB (K : PySem.W.Frag) : D → Value → Bool
  | .non, u => (match u with | .none => true | _ => false)
  | .bl b, u => (match u with | .bool c => decide (b = c) | _ => false)
  | .int i, u => (match u with | .int j _ => decide (i = j) | _ => false)
  | .str x, u => (match u with | .str s _ => decide (s = ⟨x.toArray⟩) | _ => false)
  | .tup xs, u => (match u with
    | .ref a => (match K.lookup a with
      | some ⟨.type c, none, .seq its _, _⟩ => decide (c = "tuple") && (decide (its.size ≤ sizeLine) && datBL K xs its.toList)
      | _ => false)
    | _ => false)
  | .lst xs, u => (match u with
    | .ref a => (match K.lookup a with
      | some ⟨.type c, none, .seq its _, _⟩ => decide (c = "list") && (decide (its.size ≤ sizeLine) && datBL K xs its.toList)
      | _ => false)
    | _ => false)
  | _, _ => false
def datBL (K : PySem.W.Frag) : List D → List Value → Bool
  | [], us => us.isEmpty
  | x :: r, us => (match us with
    | u :: s => datB K x u && datBL K r s
    | [] => false)
end
mutual
theorem datB_ok {K : PySem.W.Frag} : ∀ {d : D} {u : Value}, datB K d u = true → ∃ v, RelV v u ∧ ∀ (P : Program) (w : World) (Z : Hp) (β : List Addr), RepV P w K Z β d v
  | .non, u, h => by
    cases u <;> first
      | exact ⟨.non, rfl, fun P w Z β => by simp only [RepV]⟩
      | (simp only [datB, Bool.false_eq_true] at h; done)
  | .bl b, u, h => by
    cases u <;> first
      | (simp only [datB, decide_eq_true_eq] at h
         subst h
         exact ⟨.bl b, rfl, fun P w Z β => by simp only [RepV]⟩
         done)
      | (simp only [datB, Bool.false_eq_true] at h; done)
  | .int i, u, h => by
    cases u <;> first
      | (simp only [datB, decide_eq_true_eq] at h
         subst h
         exact ⟨.int i, ⟨_, rfl⟩, fun P w Z β => by simp only [RepV]⟩
         done)
      | (simp only [datB, Bool.false_eq_true] at h; done)
  | .str x, u, h => by
    cases u <;> first
      | (simp only [datB, decide_eq_true_eq] at h
         subst h
         exact ⟨.str _, ⟨_, rfl⟩, fun P w Z β => by simp only [RepV]⟩
         done)
      | (simp only [datB, Bool.false_eq_true] at h; done)
  | .tup xs, u, h => by
    cases u with
    | ref a =>
      simp only [datB] at h
      split at h
      · rename_i c its n sl e
        simp only [Bool.and_eq_true, decide_eq_true_eq] at h
        obtain ⟨rfl, hz, h⟩ := h
        obtain ⟨vs, rv, rp⟩ := datBL_ok h
        refine ⟨.ref a, rfl, fun P w Z β => ?_⟩
        simp only [RepV]
        exact ⟨a, vs, rfl, .inr ⟨_, its, n, e, rfl, rfl, hz, rv⟩, rp P w Z β⟩
      · cases h
    | _ => simp only [datB, Bool.false_eq_true] at h
  | .lst xs, u, h => by
    cases u with
    | ref a =>
      simp only [datB] at h
      split at h
      · rename_i c its n sl e
        simp only [Bool.and_eq_true, decide_eq_true_eq] at h
        obtain ⟨rfl, hz, h⟩ := h
        obtain ⟨vs, rv, rp⟩ := datBL_ok h
        refine ⟨.ref a, rfl, fun P w Z β => ?_⟩
        simp only [RepV]
        exact ⟨a, vs, rfl, .inr ⟨_, its, n, e, rfl, rfl, rfl, hz, rv⟩, rp P w Z β⟩
      · cases h
    | _ => simp only [datB, Bool.false_eq_true] at h
  | .dct _ _, u, h => by cases u <;> simp only [datB, Bool.false_eq_true] at h
  | .ref _, u, h => by cases u <;> simp only [datB, Bool.false_eq_true] at h
  | .exn _ _, u, h => by cases u <;> simp only [datB, Bool.false_eq_true] at h
theorem datBL_ok {K : PySem.W.Frag} : ∀ {ds : List D} {us : List Value}, datBL K ds us = true → ∃ vs, Vals vs us ∧ ∀ (P : Program) (w : World) (Z : Hp) (β : List Addr), RepL P w K Z β ds vs
  | [], us, h => by
    cases us with
    | nil => exact ⟨[], .nil, fun P w Z β => RepL.nil⟩
    | cons u s => cases h
  | x :: r, us, h => by
    cases us with
    | nil => simp only [datBL, Bool.false_eq_true] at h
    | cons u s =>
      simp only [datBL, Bool.and_eq_true] at h
      obtain ⟨v, r1, p1⟩ := datB_ok h.1
      obtain ⟨vs, r2, p2⟩ := datBL_ok h.2
      exact ⟨v :: vs, .cons r1 r2, fun P w Z β => RepL.cons (p1 P w Z β) (p2 P w Z β)⟩
end
theorem datB_dict {K : PySem.W.Frag} {d : D} {v : V} {p : Addr} {u : Value} (h : datB K d u = true) (r : RelV v u) (e : v = .ref p) : ∃ o, K.lookup p = some o ∧ o.dict = none := by
  subst e
  cases (show u = Value.ref p from r)
  cases d <;> simp only [datB, Bool.false_eq_true] at h
  · split at h
    · rename_i q
      exact ⟨_, q, rfl⟩
    · cases h
  · split at h
    · rename_i q
      exact ⟨_, q, rfl⟩
    · cases h
/-- what is asked of the module -/
def exB (free : List String) (cs : List (String × D)) (K : PySem.W.Frag) : Bool := (free.all fun x => He.eqO (PySem.W.nsIn K mainGlobals (Str.ofString x)) (some none)) && cs.all fun q => match PySem.W.nsIn K mainGlobals (Str.ofString q.1) with
  | some (some u) => datB K q.2 u
  | _ => false
theorem known_of {P : Program} {w : World} {K : PySem.W.Frag} {mg : Str → Option Value} {h : Heap} {free : List String} {cs : List (String × D)} (X : K.In h) (G : h.Ns mainGlobals mg) (c : exB free cs K = true) : Known P w K mg free cs := by
  unfold exB at c
  simp only [Bool.and_eq_true, List.all_eq_true] at c
  refine ⟨fun x hx => PySem.W.mg_none_of X G (He.eqO_ok (c.1 x hx)), fun q hq => ?_⟩
  have h2 := c.2 q hq
  split at h2
  · rename_i u e
    obtain ⟨v, r, p⟩ := datB_ok h2
    exact ⟨u, v, PySem.W.mg_of X G e, r, fun Z β => p P w Z β, fun q e1 => datB_dict h2 r e1⟩
  · cases h2
def atOf (e : Entry) : Str × Option Str := match e.cm with
  | none => (Str.ofString e.name, none)
  | some (c, m) => (Str.ofString c, some (Str.ofString m))
def dname (e : Entry) : Str := match e.cm with
  | none => Str.ofString e.name
  | some (_, m) => Str.ofString m
def defD (e : Entry) : He.DefD := ⟨atOf e, dname e, e.qual, e.params, e.body, e.scope, [], []⟩
def fasOf (e : Entry) : List He.Fa := match e.cm with
  | none => [.glo (Str.ofString e.name)]
  | some (c, m) => [.glo (Str.ofString c), .cls (Str.ofString c), if m = "__init__" then .mkr (Str.ofString c) else .meth (Str.ofString c) (Str.ofString m)] ++ FLD.map fun f => .noat (Str.ofString c) (Str.ofString f)
def faOf (es : List Entry) : List He.Fa := es.flatMap fasOf
def fnsOf (es : List Entry) : List He.DefD := es.map defD
/-- arguments are bound -/
def BindOk (e : Entry) : Prop := ∀ (kV doc pm : Value) (an : Option Addr) (cdv ct : Value) (us : List Value), us.length = e.ps.length → bindArgs (PySem.W.fnOf (dname e) e.qual e.params e.body e.scope .none kV doc pm an cdv ct) ⟨us, []⟩ = pure (e.ps.zip us)
theorem stands_of {K : PySem.W.Frag} {mg : Str → Option Value} {h : Heap} {es : List Entry} {e : Entry} (X : K.In h) (G : h.Ns mainGlobals mg) (c : He.SaysD (faOf es) (fnsOf es) K) (he : e ∈ es) (hb : BindOk e) :
    ∃ (a : Addr) (fd : FuncData) (x : Str), Place K mg a e ∧ FunD K x e.qual e.params e.body e.scope [] [] a fd ∧ Binds K fd e.ps [] ∧ ∀ (s : Shared) (us : List Value), us.length = e.ps.length → BindsTo s fd ⟨us, []⟩ (e.ps.zip us) := by
  have fa : ∀ f ∈ fasOf e, f.ok K = true := fun f hf => c.facts (List.mem_flatMap.mpr ⟨e, he, hf⟩)
  obtain ⟨fd, F⟩ := c.defs (d := defD e) (List.mem_map.mpr ⟨e, he, rfl⟩)
  refine ⟨He.fAd K (atOf e), fd, _, ?_, F, F.bindsN hb, fun s us hl => FunD.bindsA F hb s us hl⟩
  unfold Place
  unfold fasOf at fa
  have kp := F.kp
  show match e.cm with
    | none => _
    | some (c, m) => _
  cases hc : e.cm with
  | none =>
    rw [hc] at fa
    have ea : atOf e = (Str.ofString e.name, none) := by unfold atOf; rw [hc]
    have h1 := He.glo_ok X G (fa (.glo (Str.ofString e.name)) (by simp))
    have kp2 : PySem.W.keepIn K (.ref (He.fAd K (atOf e))) = true := F.kp
    rw [ea] at kp2 ⊢
    exact ⟨h1, kp2⟩
  | some q =>
    obtain ⟨cn, m⟩ := q
    rw [hc] at fa
    have ea : atOf e = (Str.ofString cn, some (Str.ofString m)) := by unfold atOf; rw [hc]
    rw [ea]
    have h1 := He.glo_ok X G (fa (.glo (Str.ofString cn)) (by simp))
    have h2 := He.cls_ok (fa (.cls (Str.ofString cn)) (by simp))
    refine ⟨_, h1, ⟨h2, fun f hf => He.noat_ok (fa (.noat (Str.ofString cn) (Str.ofString f)) (List.mem_append_right _ (List.mem_map.mpr ⟨f, hf, rfl⟩)))⟩, ?_⟩
    by_cases hm : m = "__init__"
    · rw [if_pos hm]
      subst hm
      exact He.mkr_ok (fa (.mkr (Str.ofString cn)) (by simp))
    · rw [if_neg hm]
      exact He.meth_ok (fa (.meth (Str.ofString cn) (Str.ofString m)) (by simp [hm]))
abbrev lawHook (n : Nat) (es : List Entry) (free : List String) (cs : List (String × D)) : PySem.W.Hook := He.hookX n (faOf es) (fnsOf es) [] [] (exB free cs)
/-- a law keeps its row where the evaluator says so -/
theorem law_V {l : PySem.W.OpenLaw} {n g j : Nat} {q : Program} {loose : List Str} {XP : (Str → Option Value) → Heap → Prop} {d : DefRec} {es : List Entry} {fs free : List String} {cs : List (String × D)} {ms : List (String × String)} {mks : List String} {Γ : Tab} {el : Entry} {x : Str}
    (hn : l.most = some n) (hn2 : n ≤ sizeLine) (hdf : d.params.defaults = []) (hdn : d.name = Str.ofString el.name) (hr : Room (2 * j + 3) callerA) (hcm : el.cm = none)
    (ok : ∀ e ∈ es, entryOk fs free cs ms mks e = true) (bind : ∀ e ∈ es, BindOk e) (tab : Tabs Γ es fs ms mks) (hel : el ∈ es) (hΓ : Γ el.name = some el.fn) (hps : el.ps = [x])
    (plain : ∀ ns : List Int, ns.length ≤ n → (∀ z ∈ ns, Builtin.Int.intBits z ≤ 1048576) → ∃ U', run Γ (j + 1) el.name [.lst (ns.map .int)] [] = some (.ok (.bl true) U')) :
    PySem.W.WalkO q loose XP (lawHook g es free cs).says l.row.toRowW d [] (fun f vs => PySem.call f vs) := by
  refine Att.attach_callB hn hdf fun w s₀ s₁ mg mb fa o pm cd doc a vs ns G Y ho hd hcd hmg hobj hints hlen hbits hg => ?_
  obtain ⟨K, KX, c⟩ := Y
  have kn : Known l.prog w K mg free cs := known_of KX G.T.g c.more
  have st : ∀ e ∈ es, Stands K mg e := fun e he => by
    obtain ⟨a, fd, x, h1, h3, h4, _⟩ := stands_of KX G.T.g c.t.d he (bind e he)
    exact ⟨a, fd, x, h1, h3, h4⟩
  obtain ⟨al, fd, x', pl, F, h4, h5⟩ := stands_of KX G.T.g c.t.d hel (bind el hel)
  unfold Place at pl
  rw [hcm] at pl
  obtain ⟨h1, h2⟩ := pl
  have e : al = fa := by
    rw [hdn, h1] at hmg
    injection hmg with e
    injection e
  subst e
  have hF : ∀ base : Heap, K.In base → base.Ns mainGlobals mg → FnOk l.prog w K mg base (L2.CX l.prog w) (2 * j + 3) al fd [x] (spV l.prog w K mg (run Γ (j + 1)) el.name) := fun base _ _ => by
    have q := entry_ok (base := base) kn (ok el hel) hΓ F (fns_ok (base := base) kn ok st tab j)
    rw [hps] at q
    exact q
  refine law_call KX G.T.g G.T.b G.T.builtins G.T.nolimit hg hobj hints (Nat.le_trans hlen hn2) hr hF (fun s u => by
    have := h5 s [u] (by rw [hps]; rfl)
    rw [hps] at this
    exact this) (fun H hO hS => ?_) fun H e s' hc => ?_
  · obtain ⟨U', hp⟩ := plain ns hlen hbits
    refine ⟨[], H, [], [], [.lst (ns.map .int)], _, ⟨ZLe.refl H, rfl, List.nodup_nil, by simp, by simp, by simp⟩, RepL.cons ?_ RepL.nil, hp, fun Z' β' H' v z b R r => ?_⟩
    · simp only [RepV]
      exact ⟨a, _, rfl, hS, RepL.ints ns⟩
    · simpa only [RepV] using r
  · obtain ⟨_, _, _, _, _, _, _, _, _, _, _, _, z⟩ := hc
    exact z
end VI

namespace LK
open VI PySem PySem.Spec PyProof.Rows L2
def inCls (s : Stmt) (j : Nat) : Stmt := match s with
  | .ClassDef _ _ _ body _ _ _ _ _ _ _ => body.getD j (.Pass ⟨0, 0, 0, 0⟩)
  | s => s
def top (i : Nat) : Stmt := PySem.Challenge.pw_quoteweave_k60_questions_read.main.body.getD i (.Pass ⟨0, 0, 0, 0⟩)
def e_made_of : VI.Entry := ⟨"made_of", ["word", "some", "sign"], ["word", "some"], fn_made_of, "made_of", defArgs (top 6), defBody (top 6), defScope (top 6), none⟩
def e_is_word : VI.Entry := ⟨"is_word", ["word"], ["word"], fn_is_word, "is_word", defArgs (top 7), defBody (top 7), defScope (top 7), none⟩
def e_is_keyword : VI.Entry := ⟨"is_keyword", ["word", "heads", "asked"], ["word"], fn_is_keyword, "is_keyword", defArgs (top 8), defBody (top 8), defScope (top 8), none⟩
def e_is_name : VI.Entry := ⟨"is_name", ["word"], ["word"], fn_is_name, "is_name", defArgs (top 9), defBody (top 9), defScope (top 9), none⟩
def e_number_in : VI.Entry := ⟨"number_in", ["word"], ["word"], fn_number_in, "number_in", defArgs (top 10), defBody (top 10), defScope (top 10), none⟩
def e_form_of : VI.Entry := ⟨"form_of", ["word"], ["word"], fn_form_of, "form_of", defArgs (top 13), defBody (top 13), defScope (top 13), none⟩
def e_question_of : VI.Entry := ⟨"question_of", ["words", "place", "form", "question", "kind", "word", "number"], ["words", "place"], fn_question_of, "question_of", defArgs (top 14), defBody (top 14), defScope (top 14), none⟩
def e_placed_questions : VI.Entry := ⟨"placed_questions", ["text", "found", "k", "row", "words", "word"], ["text"], fn_placed_questions, "placed_questions", defArgs (top 15), defBody (top 15), defScope (top 15), none⟩
def e_read_questions : VI.Entry := ⟨"read_questions", ["text", "place", "question"], ["text"], fn_read_questions, "read_questions", defArgs (top 16), defBody (top 16), defScope (top 16), none⟩
def e__law_draw : VI.Entry := ⟨"_law_draw", ["script", "k", "many", "cell", "number"], ["script", "k", "many"], fn__law_draw, "_law_draw", defArgs (top 18), defBody (top 18), defScope (top 18), none⟩
def e__law_name : VI.Entry := ⟨"_law_name", ["script", "k", "letters", "word", "j"], ["script", "k"], fn__law_name, "_law_name", defArgs (top 19), defBody (top 19), defScope (top 19), none⟩
def e__law_question : VI.Entry := ⟨"_law_question", ["script", "k", "pairs", "kind", "number"], ["script", "k"], fn__law_question, "_law_question", defArgs (top 20), defBody (top 20), defScope (top 20), none⟩
def e__law_row : VI.Entry := ⟨"_law_row", ["script", "k", "question", "row", "j", "part"], ["script", "k", "question"], fn__law_row, "_law_row", defArgs (top 21), defBody (top 21), defScope (top 21), none⟩
def e_law : VI.Entry := ⟨"law", ["script", "due", "rows", "k", "question", "text", "found", "one"], ["script"], fn_law, "law", defArgs (top 22), defBody (top 22), defScope (top 22), none⟩
def es : List VI.Entry := [e_made_of, e_is_word, e_is_keyword, e_is_name, e_number_in, e_form_of, e_question_of, e_placed_questions, e_read_questions, e__law_draw, e__law_name, e__law_question, e__law_row, e_law]
def fs : List String := ["made_of", "is_word", "is_keyword", "is_name", "number_in", "form_of", "question_of", "placed_questions", "read_questions", "_law_draw", "_law_name", "_law_question", "_law_row", "law"]
def ms : List (String × String) := []
def mks : List String := []
def free : List String := ["len", "range", "isinstance", "int", "str", "tuple", "list", "enumerate", "zip", "min", "all", "ValueError"]
def cs : List (String × D) := [("MOST_LETTERS", (.int 8)), ("MOST_FIGURES", (.int 9)), ("PAIRED", (.tup [(.str [115, 105, 110, 99, 101]), (.str [116, 101, 108, 108, 101, 114, 115]), (.str [119, 111, 114, 100, 105, 110, 103, 115]), (.str [97, 112, 97, 114, 116]), (.str [108, 101, 97, 110, 115]), (.str [104, 105, 100, 100, 101, 110]), (.str [99, 117, 116])]))]
theorem ok_made_of : entryOk fs free cs ms mks e_made_of = true := by decide +kernel
theorem b_made_of : BindOk e_made_of := fun _ _ _ _ _ _ us hl => match us, hl with
  | [_, _], _ => rfl
theorem ok_is_word : entryOk fs free cs ms mks e_is_word = true := by decide +kernel
theorem b_is_word : BindOk e_is_word := fun _ _ _ _ _ _ us hl => match us, hl with
  | [_], _ => rfl
theorem ok_is_keyword : entryOk fs free cs ms mks e_is_keyword = true := by decide +kernel
theorem b_is_keyword : BindOk e_is_keyword := fun _ _ _ _ _ _ us hl => match us, hl with
  | [_], _ => rfl
theorem ok_is_name : entryOk fs free cs ms mks e_is_name = true := by decide +kernel
theorem b_is_name : BindOk e_is_name := fun _ _ _ _ _ _ us hl => match us, hl with
  | [_], _ => rfl
theorem ok_number_in : entryOk fs free cs ms mks e_number_in = true := by decide +kernel
theorem b_number_in : BindOk e_number_in := fun _ _ _ _ _ _ us hl => match us, hl with
  | [_], _ => rfl
theorem ok_form_of : entryOk fs free cs ms mks e_form_of = true := by decide +kernel
theorem b_form_of : BindOk e_form_of := fun _ _ _ _ _ _ us hl => match us, hl with
  | [_], _ => rfl
theorem ok_question_of : entryOk fs free cs ms mks e_question_of = true := by decide +kernel
theorem b_question_of : BindOk e_question_of := fun _ _ _ _ _ _ us hl => match us, hl with
  | [_, _], _ => rfl
theorem ok_placed_questions : entryOk fs free cs ms mks e_placed_questions = true := by decide +kernel
theorem b_placed_questions : BindOk e_placed_questions := fun _ _ _ _ _ _ us hl => match us, hl with
  | [_], _ => rfl
theorem ok_read_questions : entryOk fs free cs ms mks e_read_questions = true := by decide +kernel
theorem b_read_questions : BindOk e_read_questions := fun _ _ _ _ _ _ us hl => match us, hl with
  | [_], _ => rfl
theorem ok__law_draw : entryOk fs free cs ms mks e__law_draw = true := by decide +kernel
theorem b__law_draw : BindOk e__law_draw := fun _ _ _ _ _ _ us hl => match us, hl with
  | [_, _, _], _ => rfl
theorem ok__law_name : entryOk fs free cs ms mks e__law_name = true := by decide +kernel
theorem b__law_name : BindOk e__law_name := fun _ _ _ _ _ _ us hl => match us, hl with
  | [_, _], _ => rfl
theorem ok__law_question : entryOk fs free cs ms mks e__law_question = true := by decide +kernel
theorem b__law_question : BindOk e__law_question := fun _ _ _ _ _ _ us hl => match us, hl with
  | [_, _], _ => rfl
theorem ok__law_row : entryOk fs free cs ms mks e__law_row = true := by decide +kernel
theorem b__law_row : BindOk e__law_row := fun _ _ _ _ _ _ us hl => match us, hl with
  | [_, _, _], _ => rfl
theorem ok_law : entryOk fs free cs ms mks e_law = true := by decide +kernel
theorem b_law : BindOk e_law := fun _ _ _ _ _ _ us hl => match us, hl with
  | [_], _ => rfl
theorem oks : ∀ e ∈ es, entryOk fs free cs ms mks e = true := by
  intro e he
  simp only [es, List.mem_cons, List.not_mem_nil, or_false] at he
  rcases he with rfl | rfl | rfl | rfl | rfl | rfl | rfl | rfl | rfl | rfl | rfl | rfl | rfl | rfl
  · exact ok_made_of
  · exact ok_is_word
  · exact ok_is_keyword
  · exact ok_is_name
  · exact ok_number_in
  · exact ok_form_of
  · exact ok_question_of
  · exact ok_placed_questions
  · exact ok_read_questions
  · exact ok__law_draw
  · exact ok__law_name
  · exact ok__law_question
  · exact ok__law_row
  · exact ok_law
theorem binds : ∀ e ∈ es, BindOk e := by
  intro e he
  simp only [es, List.mem_cons, List.not_mem_nil, or_false] at he
  rcases he with rfl | rfl | rfl | rfl | rfl | rfl | rfl | rfl | rfl | rfl | rfl | rfl | rfl | rfl
  · exact b_made_of
  · exact b_is_word
  · exact b_is_keyword
  · exact b_is_name
  · exact b_number_in
  · exact b_form_of
  · exact b_question_of
  · exact b_placed_questions
  · exact b_read_questions
  · exact b__law_draw
  · exact b__law_name
  · exact b__law_question
  · exact b__law_row
  · exact b_law
theorem tabs : Tabs tab es fs ms mks := by
  refine ⟨fun f hf => ?_, fun q hq => ?_, fun c hc => ?_⟩
  · simp only [fs, List.mem_cons, List.not_mem_nil, or_false] at hf
    rcases hf with rfl | rfl | rfl | rfl | rfl | rfl | rfl | rfl | rfl | rfl | rfl | rfl | rfl | rfl
    · exact ⟨e_made_of, by simp [es], rfl, rfl, rfl⟩
    · exact ⟨e_is_word, by simp [es], rfl, rfl, rfl⟩
    · exact ⟨e_is_keyword, by simp [es], rfl, rfl, rfl⟩
    · exact ⟨e_is_name, by simp [es], rfl, rfl, rfl⟩
    · exact ⟨e_number_in, by simp [es], rfl, rfl, rfl⟩
    · exact ⟨e_form_of, by simp [es], rfl, rfl, rfl⟩
    · exact ⟨e_question_of, by simp [es], rfl, rfl, rfl⟩
    · exact ⟨e_placed_questions, by simp [es], rfl, rfl, rfl⟩
    · exact ⟨e_read_questions, by simp [es], rfl, rfl, rfl⟩
    · exact ⟨e__law_draw, by simp [es], rfl, rfl, rfl⟩
    · exact ⟨e__law_name, by simp [es], rfl, rfl, rfl⟩
    · exact ⟨e__law_question, by simp [es], rfl, rfl, rfl⟩
    · exact ⟨e__law_row, by simp [es], rfl, rfl, rfl⟩
    · exact ⟨e_law, by simp [es], rfl, rfl, rfl⟩
  · simp [ms] at hq
  · simp [mks] at hc
def loose0 : List PySem.Str := ["WorldError", "BadRow", "MOST_LETTERS", "MOST_FIGURES", "made_of", "is_word", "is_keyword", "is_name", "number_in", "PAIRED", "form_of", "question_of", "placed_questions", "read_questions", "_law_draw", "_law_name", "_law_question", "_law_row"]
def loose : List PySem.Str := loose0
abbrev R : PySem.W.OpenRow := PySem.W.OpenLaw.row PySem.Challenge.rw_quoteweave_k60_questions_read
abbrev hk : PySem.W.Hook := lawHook 6 es free cs
def ob (s : PySem.W.SharedT) : He.AlX := He.obsX 6 (faOf es) (fnsOf es) [] [] (exB free cs) (HandSHeadRun.getT s)
theorem ob_eq (s : PySem.W.SharedT) : ob s = hk.obs s.abs := He.obsX_eq (HandSHeadRun.getT_eq s)
theorem run (w : World) : HandSHeadRun.RunEq R (PySem.W.view R.prog [22]) hk ob 4000 loose w := by
  intro os
  kernel_rfl
theorem plain : ∀ ns : List Int, ns.length ≤ 63 → (∀ z ∈ ns, Builtin.Int.intBits z ≤ 1048576) → ∃ U', VI.run tab 12 "law" [.lst (ns.map .int)] [] = some (.ok (.bl true) U') :=
  fun ns h hb => VI.plain_k60 ns h fun z hz => by
    rw [← VI.bits_eq]
    exact hb z hz
end LK
open PySem PySem.W PySem.Calls PyProof.Rows
theorem PySem.Challenge.cw_quoteweave_k60_questions_read_holds : PySem.Challenge.rw_quoteweave_k60_questions_read.Holds := by
  w_on; o_law
  refine HandSHeadRun.head_any (r := OpenLaw.row PySem.Challenge.rw_quoteweave_k60_questions_read) (q := view (OpenLaw.row PySem.Challenge.rw_quoteweave_k60_questions_read).prog [22]) (H := LK.hk) (ob := LK.ob) (M := 4000) (loose := LK.loose) (d := HandSHeadRun.topDef (OpenLaw.row PySem.Challenge.rw_quoteweave_k60_questions_read).prog 22) (kwd := []) LK.ob_eq
    (by kernel_rfl) (fun s => by kernel_rfl) LK.run (by kernel_rfl) (by kernel_rfl) (by kernel_rfl) (by rfl) (by first | assumption | decide +kernel) (by decide +kernel) ⟨rfl, rfl, rfl, rfl, rfl, by decide +kernel⟩ ?hw ?hc
  case hw => w_witness2
  case hc =>
    exact VI.law_V (l := PySem.Challenge.rw_quoteweave_k60_questions_read) (n := 63) (j := 11) (x := "script") (el := LK.e_law) rfl (by decide) (by kernel_rfl) (by kernel_rfl) ⟨rfl, by decide, by decide⟩ rfl LK.oks LK.binds LK.tabs (by simp [LK.es]) rfl rfl LK.plain
