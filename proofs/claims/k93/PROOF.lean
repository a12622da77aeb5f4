import PyProof.Rows.All
import Wide.All
import OpenK.AllK
import Wide.FinOn
import HandS.ForMost
import HandS.Exc
import HandS.ExcOwn
import HandS.CallSlots
import HandS.Wide
import HandS.Deep
import HandS.TupAny
import HandS.TupMul
import PyProof.StrOps2
import HandS.Codes
import HandS.Text
import PyProof.P3In
import PyProof.Rows.InDataRows
import HandS.IsInst
import HandS.RaiseMore
import KE.GoesNew
import KE.GoesZip
import HandS.SortKw
import HandS.Walk
import HandS.EndBits
import HandS.WordsExc
import HandS.Strs
import HandS.Conv
import HandS.ExcInit
import KE.KExcInit
import PyProof.ExcBaseAll.ValueError
import PyProof.ExcBaseAll.LookupError
import PyProof.ExcBaseAll.RuntimeError
import PyProof.ExcBaseAll.OverflowError
import HandS.Defaults
import HandS.HeadHook2
import HandS.HeadEnd
import HandS.Head0
import HandS.Head1
import HandS.Head2
import PyProof.StrLawsRepr
import PySem.Challenge.RW_fewtests_k93_texts_of_words_and_forms_re
section
set_option Elab.async false
set_option linter.all false
set_option maxRecDepth 100000
/-! MPD: a small language of pure values: values D, the store DS, the monad M, operations, syntax, the evaluator. -/
namespace MP

/-! ### values -/
inductive D where
  | non
  | bl (b : Bool)
  | int (i : Int)
  | str (s : List Nat)
  | tup (xs : List D)
  | lst (xs : List D)
  | ref (n : Nat)
  deriving Inhabited

mutual
def D.beq : D → D → Bool
  | .non, .non => true
  | .bl a, .bl b => a == b
  | .int a, .int b => decide (a = b)
  | .str a, .str b => decide (a = b)
  | .tup a, .tup b => D.beqs a b
  | .lst a, .lst b => D.beqs a b
  | .ref a, .ref b => a == b
  | _, _ => false
def D.beqs : List D → List D → Bool
  | [], [] => true
  | x :: xs, y :: ys => D.beq x y && D.beqs xs ys
  | _, _ => false
end
mutual
theorem D.eq_of_beq : ∀ a b : D, D.beq a b = true → a = b
  | .non, b, h => by cases b <;> simp_all [D.beq]
  | .bl _, b, h => by cases b <;> simp_all [D.beq]
  | .int _, b, h => by cases b <;> simp_all [D.beq]
  | .str _, b, h => by cases b <;> simp_all [D.beq]
  | .ref _, b, h => by cases b <;> simp_all [D.beq]
  | .tup xs, b, h => by
    cases b <;> simp only [D.beq, Bool.false_eq_true] at h
    rw [D.eq_of_beqs xs _ h]
  | .lst xs, b, h => by
    cases b <;> simp only [D.beq, Bool.false_eq_true] at h
    rw [D.eq_of_beqs xs _ h]
theorem D.eq_of_beqs : ∀ a b : List D, D.beqs a b = true → a = b
  | [], [], _ => rfl
  | [], _ :: _, h => by simp [D.beqs] at h
  | _ :: _, [], h => by simp [D.beqs] at h
  | x :: xs, y :: ys, h => by
    simp only [D.beqs, Bool.and_eq_true] at h
    rw [D.eq_of_beq x y h.1, D.eq_of_beqs xs ys h.2]
end
mutual
theorem D.beq_self : ∀ a : D, D.beq a a = true
  | .non => by simp [D.beq]
  | .bl _ => by simp [D.beq]
  | .int _ => by simp [D.beq]
  | .str _ => by simp [D.beq]
  | .ref _ => by simp [D.beq]
  | .tup xs => by simp only [D.beq]; exact D.beqs_self xs
  | .lst xs => by simp only [D.beq]; exact D.beqs_self xs
theorem D.beqs_self : ∀ a : List D, D.beqs a a = true
  | [] => by simp [D.beqs]
  | x :: xs => by simp only [D.beqs, D.beq_self x, D.beqs_self xs, Bool.and_self]
end
instance : DecidableEq D := fun a b => if h : D.beq a b = true then isTrue (D.eq_of_beq a b h) else isFalse fun e => h (by subst e; exact D.beq_self a)

/-- a mutable object -/
inductive MO where
  | lst (xs : List D)
  | ins (c : Nat) (fs : List (Nat × D))
  deriving DecidableEq
abbrev DS := List MO
/-- an exception that flies: its class, its fields -/
structure Exc where
  c : Nat
  fs : List (Nat × D)
  deriving DecidableEq

inductive R (α : Type) where
  | ok (a : α) (S : DS)
  | exc (x : Exc) (S : DS)
  | bad
abbrev M (α : Type) := DS → R α
@[inline] def M.pure {α : Type} (a : α) : M α := fun S => .ok a S
@[inline] def M.bind {α β : Type} (m : M α) (f : α → M β) : M β := fun S => match m S with
  | .ok a S' => f a S'
  | .exc x S' => .exc x S'
  | .bad => .bad
instance : Monad M where
  pure := M.pure
  bind := M.bind
def M.bad {α : Type} : M α := fun _ => .bad
def ofO {α : Type} : Option α → M α
  | some a => Pure.pure a
  | none => M.bad
/-- nothing flies out of it -/
def M.calm {α : Type} (m : M α) : M α := fun S => match m S with
  | .exc _ _ => .bad
  | r => r

/-! ### data as the library knows it -/
mutual
def D.py : D → PySem.PyData
  | .non => .none
  | .bl b => .bool b
  | .int i => .int i
  | .str s => .str ⟨s.toArray⟩
  | .tup xs => .tuple (D.pys xs)
  | .lst xs => .list (D.pys xs)
  | .ref _ => .none
def D.pys : List D → List PySem.PyData
  | [] => []
  | x :: xs => D.py x :: D.pys xs
end
mutual
/-- no reference, all signs of texts are code points, nested at most n deep -/
def D.shp : Nat → D → Bool
  | _, .non => true
  | _, .bl _ => true
  | _, .int _ => true
  | _, .str s => s.all (· < 0x110000)
  | 0, .tup xs => xs.isEmpty
  | n + 1, .tup xs => D.shps n xs
  | 0, .lst xs => xs.isEmpty
  | n + 1, .lst xs => D.shps n xs
  | _, .ref _ => false
def D.shps : Nat → List D → Bool
  | _, [] => true
  | n, x :: xs => D.shp n x && D.shps n xs
end
/- Python's == of data -/
mutual
def eqv : D → D → Bool
  | .non, .non => true
  | .bl a, .bl b => a == b
  | .bl a, .int j => (if a then 1 else 0) == j
  | .int i, .bl b => i == (if b then 1 else 0)
  | .int i, .int j => i == j
  | .str x, .str y => decide (x = y)
  | .lst xs, .lst ys => eqvs xs ys
  | .tup xs, .tup ys => eqvs xs ys
  | _, _ => false
def eqvs : List D → List D → Bool
  | [], [] => true
  | x :: xs, y :: ys => eqv x y && eqvs xs ys
  | _, _ => false
end
def eqD (a b : D) : Option Bool := if D.shp 60 a && D.shp 60 b then some (eqv a b) else none

/-- repr -/
def reprD (d : D) : Option (List Nat) :=
  if D.shp 60 d && PySem.PyData.showable d.py && decide ((PySem.PyData.shown d.py).length ≤ PySem.sizeLine) then some (PySem.PyData.shown d.py).cps.toList else none

/-! ### sequences -/
/-- a slice's border: i counted from the end if negative, cut to 0 .. n -/
def six (n : Nat) (i : Int) : Nat := if i < 0 then (n + i).toNat else min i.toNat n
def cut {α : Type} (xs : List α) (lo hi : D) : Option (List α) :=
  match lo, hi with
  | .non, .non => some xs
  | .int i, .non => some (xs.drop (six xs.length i))
  | .non, .int j => some (xs.take (six xs.length j))
  | .int i, .int j => some ((xs.take (six xs.length j)).drop (six xs.length i))
  | _, _ => none
/-- an item -/
def ix {α : Type} (xs : List α) (i : Int) : Option α := if i < 0 then (if 0 ≤ xs.length + i then xs[(xs.length + i).toNat]? else none) else xs[i.toNat]?
def ixN {α : Type} (xs : List α) (i : Int) : Option Nat :=
  let j := if i < 0 then xs.length + i else i
  if 0 ≤ j ∧ j < xs.length then some j.toNat else none
def signs (s : List Nat) : List D := s.map fun c => .str [c]
/-- what a for walks over -/
def items : D → Option (List D)
  | .tup xs => some xs
  | .lst xs => some xs
  | .str s => some (signs s)
  | _ => none
def enumFrom (n : Int) : List D → List D
  | [] => []
  | x :: xs => .tup [.int n, x] :: enumFrom (n + 1) xs
def zipD : List D → List D → List D
  | x :: xs, y :: ys => .tup [x, y] :: zipD xs ys
  | _, _ => []
def upto (lo : Int) : Nat → List D
  | 0 => []
  | n + 1 => .int lo :: upto (lo + 1) n
/-- split at one sign -/
def splitAt1 (c : Nat) : List Nat → List (List Nat)
  | [] => [[]]
  | a :: r => if a = c then [] :: splitAt1 c r else match splitAt1 c r with
    | [] => [[a]]
    | w :: ws => (a :: w) :: ws
abbrev joinBy := TL.joinL
def strsOf : List D → Option (List (List Nat))
  | [] => some []
  | .str s :: r => (strsOf r).map (s :: ·)
  | _ => none
def boolsOf : List D → Option (List Bool)
  | [] => some []
  | .bl b :: r => (boolsOf r).map (b :: ·)
  | _ => none
def intsOf : List D → Option (List Int)
  | [] => some []
  | .int b :: r => (intsOf r).map (b :: ·)
  | _ => none
/-- the digits of an int -/
def decI (i : Int) : List Nat := (PySem.Str.ofString (toString i)).cps.toList
def line : Nat := PySem.sizeLine

/-! ### operations -/
inductive BOp | add | sub | mul | fdiv | mod | pow
  deriving DecidableEq
inductive COp | eq | ne | lt | le | gt | ge | isN | notN | mem | notMem
  deriving DecidableEq

def mulFits (i j : Int) : Bool := decide (i.natAbs < 2 ^ 64) || decide (j.natAbs < 2 ^ 64) || decide (i.natAbs.log2 + j.natAbs.log2 < 1000000)
def binD : BOp → D → D → Option D
  | .add, .int i, .int j => some (.int (i + j))
  | .add, .str x, .str y => if x.length + y.length ≤ line then some (.str (x ++ y)) else none
  | .add, .tup x, .tup y => if x.length + y.length ≤ line then some (.tup (x ++ y)) else none
  | .add, .lst x, .lst y => if x.length + y.length ≤ line then some (.lst (x ++ y)) else none
  | .sub, .int i, .int j => some (.int (i - j))
  | .mul, .int i, .int j => if mulFits i j then some (.int (i * j)) else none
  | .mul, .str x, .int j => if x.length * j.toNat ≤ line ∧ j < 2 ^ 62 ∧ -(2 ^ 62) < j then some (.str (List.replicate j.toNat x).flatten) else none
  | .mul, .tup x, .int j => if x.length * j.toNat ≤ line ∧ j < 2 ^ 62 ∧ -(2 ^ 62) < j then some (.tup (List.replicate j.toNat x).flatten) else none
  | .mul, .lst x, .int j => if x.length * j.toNat ≤ line ∧ j < 2 ^ 62 ∧ -(2 ^ 62) < j then some (.lst (List.replicate j.toNat x).flatten) else none
  | .fdiv, .int i, .int j => if 0 < j ∧ j.natAbs.log2 < 9000 then some (.int (i / j)) else none
  | .mod, .int i, .int j => if 0 < j then some (.int (i % j)) else none
  | .pow, .int i, .int j => if 0 ≤ j ∧ j ≤ 1000000 ∧ i.natAbs < 2 ^ 64 then some (.int (i ^ j.toNat)) else none
  | _, _, _ => none

/-- the order of texts -/
def strLt (x y : List Nat) : Bool := decide (x < y)
def cmpD : COp → D → D → Option Bool
  | .eq, a, b => eqD a b
  | .ne, a, b => (eqD a b).map (!·)
  | .lt, .int i, .int j => some (decide (i < j))
  | .le, .int i, .int j => some (decide (i ≤ j))
  | .gt, .int i, .int j => some (decide (j < i))
  | .ge, .int i, .int j => some (decide (j ≤ i))
  | .lt, .str x, .str y => some (strLt x y)
  | .le, .str x, .str y => some (!strLt y x)
  | .gt, .str x, .str y => some (strLt y x)
  | .ge, .str x, .str y => some (!strLt x y)
  | .isN, a, .non => some (decide (a = .non))
  | .notN, a, .non => some (!decide (a = .non))
  | .mem, .str [c], .str y => some (decide (c ∈ y))
  | .notMem, .str [c], .str y => some (!decide (c ∈ y))
  | .mem, a, .tup ys => if D.shp 60 a && D.shps 59 ys then some (ys.any (eqv · a)) else none
  | .mem, a, .lst ys => if D.shp 60 a && D.shps 59 ys then some (ys.any (eqv · a)) else none
  | .notMem, a, .tup ys => if D.shp 60 a && D.shps 59 ys then some (!ys.any (eqv · a)) else none
  | .notMem, a, .lst ys => if D.shp 60 a && D.shps 59 ys then some (!ys.any (eqv · a)) else none
  | _, _, _ => none

/-- each once, in the order of their first places -/
def uniq {α : Type} [DecidableEq α] (acc : List α) : List α → List α
  | [] => acc
  | x :: xs => uniq (if x ∈ acc then acc else acc ++ [x]) xs
/-- built-ins of one argument whose value is no list -/
inductive B1 | len | int | str | repr | tuple | all | any | sum | lenset | rev | ord
  deriving DecidableEq
def b1D : B1 → D → Option D
  | .len, .str s => if s.length ≤ line then some (.int s.length) else none
  | .len, .tup s => some (.int s.length)
  | .len, .lst s => some (.int s.length)
  | .int, .int i => some (.int i)
  | .int, .bl b => some (.int (if b then 1 else 0))
  | .int, .str s => if s.length ≤ 640 then (PySem.intText? ⟨s.toArray⟩).map .int else none
  | .str, .int i => if i.natAbs.log2 < 1920 then some (.str (decI i)) else none
  | .str, .str s => some (.str s)
  | .repr, d => (reprD d).map .str
  | .tuple, .tup xs => some (.tup xs)
  | .tuple, .lst xs => some (.tup xs)
  | .all, .lst xs => (boolsOf xs).map fun bs => .bl (bs.all id)
  | .any, .lst xs => (boolsOf xs).map fun bs => .bl (bs.any id)
  | .sum, .lst xs => (intsOf xs).map fun is => .int is.sum
  | .lenset, .lst xs => if xs.length + 1 < 4096 then (match strsOf xs, intsOf xs with
    | some zs, _ => some (.int (uniq [] zs).length)
    | _, some zs => some (.int (uniq [] zs).length)
    | _, _ => none) else none
  | .rev, .str s => some (.str s.reverse)
  | .rev, .tup s => some (.tup s.reverse)
  | _, _ => none
/-- methods of texts, of two arguments -/
inductive B2 | join | index
  deriving DecidableEq
def b2D : B2 → D → D → Option D
  | .join, .str x, .lst ys => (strsOf ys).bind fun zs => if (zs.map (·.length)).sum + zs.length * x.length ≤ line then some (.str (joinBy x zs)) else none
  | .join, .str x, .tup ys => (strsOf ys).bind fun zs => if (zs.map (·.length)).sum + zs.length * x.length ≤ line then some (.str (joinBy x zs)) else none
  | _, _, _ => none
/-- new lists of values -/
inductive Lf | list | sorted
  deriving DecidableEq
def insStr (x : List Nat) : List (List Nat) → List (List Nat)
  | [] => [x]
  | y :: r => if x < y then x :: y :: r else y :: insStr x r
def sortStr : List (List Nat) → List (List Nat)
  | [] => []
  | x :: r => insStr x (sortStr r)
def insInt (x : Int) : List Int → List Int
  | [] => [x]
  | y :: r => if x < y then x :: y :: r else y :: insInt x r
def sortInt : List Int → List Int
  | [] => []
  | x :: r => insInt x (sortInt r)
def l1D : Lf → D → Option (List D)
  | .list, .tup xs => some xs
  | .list, .lst xs => some xs
  | .list, .str s => if s.length ≤ line then some (signs s) else none
  | .sorted, .lst xs => match strsOf xs, intsOf xs with
    | some zs, _ => if zs.length < 64 then some ((sortStr zs).map .str) else none
    | _, some zs => if zs.length < 64 then some ((sortInt zs).map .int) else none
    | _, _ => none
  | _, _ => none
inductive Lg | split | cat | rep
  deriving DecidableEq
def l2D : Lg → D → D → Option (List D)
  | .split, .str x, .str [c] => if x.length + 2 ≤ line ∧ c < 256 then some ((splitAt1 c x).map .str) else none
  | .cat, .lst x, .lst y => if x.length + y.length ≤ line then some (x ++ y) else none
  | .rep, .lst x, .int j => if x.length * j.toNat ≤ line ∧ j < 2 ^ 62 ∧ -(2 ^ 62) < j then some (List.replicate j.toNat x).flatten else none
  | _, _, _ => none
inductive Ty | int | bool | str | tuple | list
  deriving DecidableEq
def isinD : Ty → D → Option Bool
  | .int, .int _ => some true
  | .int, .bl _ => some true
  | .bool, .bl _ => some true
  | .str, .str _ => some true
  | .tuple, .tup _ => some true
  | .list, .lst _ => some true
  | _, .ref _ => none
  | _, _ => some false
def idxD : D → D → Option D
  | .tup xs, .int i => ix xs i
  | .lst xs, .int i => ix xs i
  | .str s, .int i => if s.length ≤ line then (ix s i).map fun c => .str [c] else none
  | _, _ => none
def slD : D → D → D → Option D
  | .str s, lo, hi => if s.length ≤ line then (cut s lo hi).map .str else none
  | .tup s, lo, hi => (cut s lo hi).map .tup
  | .lst s, lo, hi => (cut s lo hi).map .lst
  | _, _, _ => none

def slL : D → D → D → Option (List D)
  | .lst s, lo, hi => cut s lo hi
  | _, _, _ => none

/-! ### syntax -/
/-- a target -/
inductive Tg where
  | nm (i : Nat)
  | tp (ts : List Tg)
mutual
inductive E where
  | nop
  | var (i : Nat)
  | con (d : D)
  | glob (g : Nat) (d : D)
  | bin (op : BOp) (a b : E)
  | neg (a : E)
  | no (a : E)
  | and (a b : E)
  | or (a b : E)
  | cmp (op : COp) (a b : E)
  | chain (o1 o2 : COp) (a b c : E)
  | ite (c a b : E)
  | tup (es : Es)
  | fz (l : L)
  | al (l : L)
  | call (f : Nat) (es : Es) (dv : List D)
  | b1 (f : B1) (a : E)
  | b2 (f : B2) (a b : E)
  | idx (a i : E)
  | sl (a lo hi : E)
  | isin (a : E) (t : Ty)
  | pop (a : E) (i : E)
  | app (a : E) (b : E)
  | lindex (a b : E)
inductive Es where
  | nil
  | cons (e : E) (es : Es)
inductive L where
  | disp (es : Es)
  | comp (vs : List Nat) (el : E) (t : Tg) (s : Src) (c : E)
  | comp2 (vs vs2 : List Nat) (el : E) (t : Tg) (s : Src) (c : E) (t2 : Tg) (s2 : Src) (c2 : E)
  | l1 (f : Lf) (a : E)
  | l2 (f : Lg) (a b : E)
  | split (a b : E)
  | sl (a lo hi : E)
  | rng (a b : E)
inductive Src where
  | seq (e : E)
  | enum (e : E)
  | zip (a b : E) (strict : Bool)
  | rng (a b : E)
end
/-- a part of what a handler returns: a constant, a field of the exception -/
inductive HX where
  | con (d : D)
  | fld (f : Nat)
inductive HR where
  | one (x : HX)
  | tup (xs : List HX)
mutual
inductive S where
  | asg (t : Tg) (e : E)
  | par (i j : Nat) (a b : E)
  | own (i : Nat) (l : L)
  | aug (i : Nat) (op : BOp) (e : E)
  | expr (e : E)
  | ret (e : E)
  | retN
  | ite (c : E) (a b : Ss)
  | forS (t : Tg) (s : Src) (b : Ss)
  | whileS (c : E) (b : Ss)
  | brk
  | cont
  | pass
  | never
  | oapp (i : Nat) (e : E)
  | setI (a i e : E)
  | asg2 (a i b j e : E)
  | raise (c : Nat) (fids : List Nat) (es : Es)
  | tryR (b : Ss) (hs : List (Nat × HR))
inductive Ss where
  | nil
  | cons (s : S) (r : Ss)
end

/-! ### the evaluator -/
abbrev Env := List (Option D)
/-- what a mutable list holds; any other value is itself -/
def view (d : D) : M D := fun S => match d with
  | .ref n => match S[n]? with
    | some (.lst xs) => .ok (.lst xs) S
    | _ => .ok d S
  | _ => .ok d S
def alloc (o : MO) : M D := fun S => .ok (.ref S.length) (S ++ [o])
mutual
def bindT : Tg → D → Env → Option Env
  | .nm i, d, σ => some (σ.set i (some d))
  | .tp ts, .tup ds, σ => bindTs ts ds σ
  | .tp _, _, _ => none
def bindTs : List Tg → List D → Env → Option Env
  | [], [], σ => some σ
  | t :: ts, d :: ds, σ => (bindT t d σ).bind (bindTs ts ds)
  | _, _, _ => none
end
/-- a list, now -/
def chkL (d : D) : M Unit := fun S => match d with
  | .ref n => match S[n]? with
    | some (.lst _) => .ok () S
    | _ => .bad
  | .lst _ => .ok () S
  | _ => .bad
def lstM {α : Type} (x : D) (f : Nat → List D → M α) : M α := fun S => match x with
  | .ref n => match S[n]? with
    | some (.lst xs) => f n xs S
    | _ => .bad
  | _ => .bad
def wrM (n : Nat) (xs : List D) : M Unit := fun S => .ok () (S.set n (.lst xs))
def appM (x y : D) : M D := lstM x fun n xs => if xs.length < line then (do wrM n (xs ++ [y]); pure .non) else M.bad
def popM (x y : D) : M D := lstM x fun n xs => match y with
  | .non => (do let d ← ofO xs[xs.length - 1]?; wrM n xs.dropLast; pure d)
  | .int i => if i.natAbs < 2 ^ 62 then (do let j ← ofO (ixN xs i); let d ← ofO xs[j]?; wrM n (xs.eraseIdx j); pure d) else M.bad
  | _ => M.bad
def setM (x y z : D) : M Unit := lstM x fun n xs => match y with
  | .int i => (do let j ← ofO (ixN xs i); wrM n (xs.set j z))
  | _ => M.bad
/-- the first place of an equal one -/
def idxOf (y : D) : List D → Nat → Option Nat
  | [], _ => none
  | x :: xs, i => if eqv x y then some i else idxOf y xs (i + 1)
def lindexD (x y : D) : Option D := match x with
  | .lst xs => if D.shps 59 xs && D.shp 60 y then (idxOf y xs 0).map fun i => .int i else none
  | _ => none
def asB : D → Option Bool
  | .bl b => some b
  | _ => none
def asS : D → Option (List Nat)
  | .str z => some z
  | _ => none
abbrev CF := Nat → List D → M D

/-- what is walked: the mutable lists that must stay as they are, and the items -/
abbrev Guard := List (Nat × List D)
abbrev Walked := Guard × List D
def walkOf (d : D) : M Walked := fun S => match d with
  | .ref n => match S[n]? with
    | some (.lst xs) => .ok ([(n, xs)], xs) S
    | _ => .bad
  | _ => match items d with
    | some xs => .ok ([], xs) S
    | none => .bad
/-- the mutable lists still hold the items -/
def holdsG (S : DS) : Guard → Bool
  | [] => true
  | (n, xs) :: r => decide (S[n]? = some (.lst xs)) && holdsG S r
def stays (w : Guard) : M Unit := fun S => if holdsG S w then .ok () S else .bad
/-- a comprehension's turns: f says whether and what to put in -/
def compM (w : Guard) (f : D → List D → M (List D)) : List D → List D → M (List D)
  | [], acc => do stays w; pure acc
  | x :: xs, acc => do
    stays w
    let acc' ← f x acc
    compM w f xs acc'
def put1 (acc : List D) (y : D) : M (List D) := if acc.length < line then pure (acc ++ [y]) else M.bad
def wipeD (σ : Env) : List Nat → Env
  | [] => σ
  | v :: vs => (wipeD σ vs).set v none
def evB (m : M D) : M Bool := do ofO (asB (← m))

mutual
def evE (cf : CF) : E → Env → M D
  | .nop, _ => pure .non
  | .var i, σ => ofO (σ[i]?.bind id)
  | .con d, _ => pure d
  | .glob _ d, _ => pure d
  | .bin op a b, σ => do
    let x ← evE cf a σ
    let y ← evE cf b σ
    let x ← view x
    let y ← view y
    ofO (binD op x y)
  | .neg a, σ => do
    match (← evE cf a σ) with
    | .int i => pure (.int (-i))
    | _ => M.bad
  | .no a, σ => do
    let b ← evB (evE cf a σ)
    pure (.bl (!b))
  | .and a b, σ => do
    let x ← evB (evE cf a σ)
    if x then (do let y ← evB (evE cf b σ); pure (.bl y)) else pure (.bl false)
  | .or a b, σ => do
    let x ← evB (evE cf a σ)
    if x then pure (.bl true) else (do let y ← evB (evE cf b σ); pure (.bl y))
  | .cmp op a b, σ => do
    let x ← evE cf a σ
    let y ← evE cf b σ
    let x ← view x
    let y ← view y
    let r ← ofO (cmpD op x y)
    pure (.bl r)
  | .chain o1 o2 a b c, σ => do
    let x ← evE cf a σ
    let y ← evE cf b σ
    let r ← ofO (cmpD o1 x y)
    if r then (do let z ← evE cf c σ; let r ← ofO (cmpD o2 y z); pure (.bl r)) else pure (.bl false)
  | .ite c a b, σ => do
    let x ← evB (evE cf c σ)
    if x then evE cf a σ else evE cf b σ
  | .tup es, σ => do
    let xs ← evEs cf es σ
    pure (.tup xs)
  | .fz l, σ => do
    let xs ← evL cf l σ
    pure (.lst xs)
  | .al l, σ => do
    let xs ← evL cf l σ
    alloc (.lst xs)
  | .call f es dv, σ => do
    let xs ← evEs cf es σ
    cf f (xs ++ dv)
  | .b1 f a, σ => do
    let x ← evE cf a σ
    let x ← view x
    ofO (b1D f x)
  | .b2 f a b, σ => do
    let x ← evE cf a σ
    let z ← ofO (asS x)
    let y ← evE cf b σ
    let y ← view y
    ofO (b2D f (.str z) y)
  | .idx a i, σ => do
    let x ← evE cf a σ
    let y ← evE cf i σ
    let x ← view x
    ofO (idxD x y)
  | .sl a lo hi, σ => do
    let x ← evE cf a σ
    let l ← evP cf lo σ
    let h ← evP cf hi σ
    let x ← view x
    ofO (slD x l h)
  | .isin a t, σ => do
    let x ← evE cf a σ
    let x ← view x
    let b ← ofO (isinD t x)
    pure (.bl b)
  | .pop a i, σ => do
    let x ← evE cf a σ
    chkL x
    let y ← evP cf i σ
    popM x y
  | .app a b, σ => do
    let x ← evE cf a σ
    chkL x
    let y ← evE cf b σ
    appM x y
  | .lindex a b, σ => do
    let x ← evE cf a σ
    chkL x
    let y ← evE cf b σ
    let x ← view x
    let y ← view y
    ofO (lindexD x y)
def evEs (cf : CF) : Es → Env → M (List D)
  | .nil, _ => pure []
  | .cons e es, σ => do
    let x ← evE cf e σ
    let xs ← evEs cf es σ
    pure (x :: xs)
def evL (cf : CF) : L → Env → M (List D)
  | .disp es, σ => evEs cf es σ
  | .comp vs el t s c, σ => do
    let (w, xs) ← evSrc cf s σ
    M.calm (compM w (fun x acc => do
      let σ' ← ofO (bindT t x (wipeD σ vs))
      let b ← evC cf c σ'
      if b then (do let y ← evE cf el σ'; put1 acc y) else pure acc) xs [])
  | .comp2 vs vs2 el t s c t2 s2 c2, σ => do
    let (w, xs) ← evSrc cf s σ
    M.calm (compM w (fun x acc => do
      let σ' ← ofO (bindT t x (wipeD σ vs))
      let b ← evC cf c σ'
      if b then (do
        let (w2, xs2) ← evSrc cf s2 σ'
        compM w2 (fun x2 acc => do
          let σ2 ← ofO (bindT t2 x2 (wipeD σ' vs2))
          let b2 ← evC cf c2 σ2
          if b2 then (do let y ← evE cf el σ2; put1 acc y) else pure acc) xs2 acc) else pure acc) xs [])
  | .l1 f a, σ => do
    let x ← evE cf a σ
    let x ← view x
    ofO (l1D f x)
  | .l2 f a b, σ => do
    let x ← evE cf a σ
    let y ← evE cf b σ
    let x ← view x
    let y ← view y
    ofO (l2D f x y)
  | .split a b, σ => do
    let x ← evE cf a σ
    let z ← ofO (asS x)
    let y ← evE cf b σ
    ofO (l2D .split (.str z) y)
  | .sl a lo hi, σ => do
    let x ← evE cf a σ
    let l ← evP cf lo σ
    let h ← evP cf hi σ
    let x ← view x
    ofO (slL x l h)
  | .rng a b, σ => do
    let x ← evE cf a σ
    let y ← evE cf b σ
    match x, y with
    | .int i, .int j => if -(2 ^ 62) ≤ i ∧ i < 2 ^ 62 ∧ -(2 ^ 62) ≤ j ∧ j < 2 ^ 62 ∧ (j - i).toNat ≤ 2 ^ 24 then pure (upto i (j - i).toNat) else M.bad
    | _, _ => M.bad
def evP (cf : CF) : E → Env → M D
  | .nop, _ => pure .non
  | e, σ => do
    match (← evE cf e σ) with
    | .int i => pure (.int i)
    | _ => M.bad
def evC (cf : CF) : E → Env → M Bool
  | .nop, _ => pure true
  | e, σ => evB (evE cf e σ)
def evSrc (cf : CF) : Src → Env → M Walked
  | .seq e, σ => do walkOf (← evE cf e σ)
  | .enum e, σ => do
    let (w, xs) ← walkOf (← evE cf e σ)
    pure (w, enumFrom 0 xs)
  | .zip a b strict, σ => do
    let x ← evE cf a σ
    let y ← evE cf b σ
    let (w1, xs) ← walkOf x
    let (w2, ys) ← walkOf y
    if strict = true → xs.length = ys.length then pure (w1 ++ w2, zipD xs ys) else M.bad
  | .rng a b, σ => do
    let x ← evE cf a σ
    let y ← evE cf b σ
    match x, y with
    | .int i, .int j => if -(2 ^ 62) ≤ i ∧ i < 2 ^ 62 ∧ -(2 ^ 62) ≤ j ∧ j < 2 ^ 62 then pure ([], upto i (j - i).toNat) else M.bad
    | _, _ => M.bad
end

inductive Fl where
  | nx (σ : Env)
  | rt (d : D)
  | bk (σ : Env)
  | ct (σ : Env)
  | ex (x : Exc) (σ : Env)
/-- what flies out of an expression flies on from the statement, with the slots as they are -/
def M.fl (m : M Fl) (σ : Env) : M Fl := fun S => match m S with
  | .exc x S' => .ok (.ex x σ) S'
  | r => r

def forM' (w : Guard) (f : D → Env → M Fl) : List D → Env → M Fl
  | [], σ => do stays w; pure (.nx σ)
  | x :: xs, σ => do
    stays w
    match (← f x σ) with
    | .nx σ' => forM' w f xs σ'
    | .ct σ' => forM' w f xs σ'
    | .bk σ' => pure (.nx σ')
    | .rt d => pure (.rt d)
    | .ex x σ' => pure (.ex x σ')
def whileM (c : Env → M Bool) (f : Env → M Fl) : Nat → Env → M Fl
  | 0, _ => M.bad
  | n + 1, σ => M.fl (do
    if (← c σ) then (do
      match (← f σ) with
      | .nx σ' => whileM c f n σ'
      | .ct σ' => whileM c f n σ'
      | .bk σ' => pure (.nx σ')
      | .rt d => pure (.rt d)
      | .ex x σ' => pure (.ex x σ')) else pure (.nx σ)) σ

def twoD : D → Option (D × D)
  | .tup [a, b] => some (a, b)
  | _ => none
def M.throw {α : Type} (x : Exc) : M α := fun S => .exc x S
def hxD (x : Exc) : HX → Option D
  | .con d => some d
  | .fld f => x.fs.lookup f
def hxDs (x : Exc) : List HX → Option (List D)
  | [] => some []
  | h :: hs => (hxD x h).bind fun d => (hxDs x hs).map (d :: ·)
def hrD (x : Exc) : HR → Option D
  | .one h => hxD x h
  | .tup hs => (hxDs x hs).map .tup
/-- the first handler of the exception's class -/
def hdl (x : Exc) (σ : Env) : List (Nat × HR) → M Fl
  | [] => Pure.pure (.ex x σ)
  | (c, r) :: t => if c = x.c then (do let d ← ofO (hrD x r); Pure.pure (.rt d)) else hdl x σ t
mutual
def evS (cf : CF) (fuel : Nat) : S → Env → M Fl
  | .asg t e, σ => M.fl (do
    let x ← evE cf e σ
    let σ' ← ofO (bindT t x σ)
    pure (.nx σ')) σ
  | .par i j a b, σ => M.fl (do
    let x ← evE cf a σ
    let y ← evE cf b σ
    pure (.nx ((σ.set i (some x)).set j (some y)))) σ
  | .own i l, σ => M.fl (do
    let xs ← evL cf l σ
    pure (.nx (σ.set i (some (.lst xs))))) σ
  | .aug i op e, σ => M.fl (do
    let x ← ofO (σ[i]?.bind id)
    let y ← evE cf e σ
    let z ← ofO (binD op x y)
    pure (.nx (σ.set i (some z)))) σ
  | .expr e, σ => M.fl (do
    let _ ← evE cf e σ
    pure (.nx σ)) σ
  | .ret e, σ => M.fl (do
    let x ← evE cf e σ
    pure (.rt x)) σ
  | .retN, _ => pure (.rt .non)
  | .ite c a b, σ => M.fl (do
    let x ← evB (evE cf c σ)
    if x then evSs cf fuel a σ else evSs cf fuel b σ) σ
  | .forS t s b, σ => M.fl (do
    let (w, xs) ← evSrc cf s σ
    forM' w (fun x σ => do
      let σ' ← ofO (bindT t x σ)
      evSs cf fuel b σ') xs σ) σ
  | .whileS c b, σ => whileM (fun σ => evB (evE cf c σ)) (fun σ => evSs cf fuel b σ) fuel σ
  | .brk, σ => pure (.bk σ)
  | .cont, σ => pure (.ct σ)
  | .pass, σ => pure (.nx σ)
  | .never, _ => M.bad
  | .oapp i e, σ => M.fl (do
    let y ← evE cf e σ
    match σ[i]?.bind id with
    | some (.lst xs) => if xs.length < line then pure (.nx (σ.set i (some (.lst (xs ++ [y]))))) else M.bad
    | _ => M.bad) σ
  | .setI a i e, σ => M.fl (do
    let z ← evE cf e σ
    let x ← evE cf a σ
    let y ← evE cf i σ
    setM x y z
    pure (.nx σ)) σ
  | .asg2 a i b j e, σ => M.fl (do
    let z ← evE cf e σ
    let q ← ofO (twoD z)
    let x ← evE cf a σ
    let y ← evE cf i σ
    setM x y q.1
    let x ← evE cf b σ
    let y ← evE cf j σ
    setM x y q.2
    pure (.nx σ)) σ
  | .raise c fids es, σ => M.fl (do
    let ds ← evEs cf es σ
    M.throw ⟨c, fids.zip ds⟩) σ
  | .tryR b hs, σ => do
    match (← evSs cf fuel b σ) with
    | .ex x σ' => hdl x σ' hs
    | f => pure f
def evSs (cf : CF) (fuel : Nat) : Ss → Env → M Fl
  | .nil, σ => pure (.nx σ)
  | .cons s r, σ => do
    match (← evS cf fuel s σ) with
    | .nx σ' => evSs cf fuel r σ'
    | f => pure f
end

structure PFun where
  np : Nat
  ns : Nat
  own : List Bool
  body : Ss
def runF (cf : CF) (fuel : Nat) (F : PFun) (ds : List D) : M D := do
  if ds.length = F.np then (do
    match (← evSs cf fuel F.body (ds.map some ++ List.replicate (F.ns - F.np) none)) with
    | .rt d => pure d
    | .nx _ => pure .non
    | .ex x _ => fun S => .exc x S
    | _ => M.bad) else M.bad
/-- calls at most k deep -/
def callN (T : List PFun) (fuel : Nat) : Nat → CF
  | 0 => fun _ _ => M.bad
  | k + 1 => fun f ds => match T[f]? with
    | some F => runF (callN T fuel k) fuel F ds
    | none => M.bad
end MP
end
section
set_option Elab.async false
set_option linter.all false
set_option maxRecDepth 100000
/-! MPR: how values of MP stand in the abstract heap of HandS; steps; the reading of an expression. -/
namespace MP
open PySem PySem.Spec PyProof.Rows L2

/-! ### values -/
abbrev St := L2.St
def toS (s : List Nat) : Str := ⟨s.toArray⟩
theorem toS_cps (s : List Nat) : (toS s).cps.toList = s := rfl
theorem toS_of (x : Str) : toS x.cps.toList = x := by cases x; rfl
theorem toS_len (s : List Nat) : (toS s).length = s.length := by
  show s.toArray.size = s.length
  simp
theorem toS_app (x y : List Nat) : toS x ++ toS y = toS (x ++ y) := by
  show (⟨x.toArray ++ y.toArray⟩ : Str) = ⟨(x ++ y).toArray⟩
  simp

/-- a list that nobody writes any more -/
def Fz (K : PySem.W.Frag) (H : Hp) (a : Addr) (xs : List V) : Prop := (∃ o, H a = some (.frz o (.lst xs))) ∨
  ∃ (its : List Value) (n : Nat), K.lookup a = some { cls := .type "list", data := .seq its.toArray n } ∧ its.length ≤ sizeLine ∧ Vals xs its
mutual
inductive Rep (K : PySem.W.Frag) (ρ : List Addr) (H : Hp) : V → D → Prop
  | non : Rep K ρ H .non .non
  | bl (b : Bool) : Rep K ρ H (.bl b) (.bl b)
  | int (i : Int) : Rep K ρ H (.int i) (.int i)
  | str (s : List Nat) : Rep K ρ H (.str (toS s)) (.str s)
  | tup {a : Addr} {xs : List V} {ds : List D} : SqT K H a xs → Reps K ρ H xs ds → Rep K ρ H (.ref a) (.tup ds)
  | lst {a : Addr} {xs : List V} {ds : List D} : Fz K H a xs → Reps K ρ H xs ds → Rep K ρ H (.ref a) (.lst ds)
  | ref {a : Addr} {n : Nat} : ρ[n]? = some a → Rep K ρ H (.ref a) (.ref n)
inductive Reps (K : PySem.W.Frag) (ρ : List Addr) (H : Hp) : List V → List D → Prop
  | nil : Reps K ρ H [] []
  | cons {v : V} {vs : List V} {d : D} {ds : List D} : Rep K ρ H v d → Reps K ρ H vs ds → Reps K ρ H (v :: vs) (d :: ds)
end
/-- .. or a list of the frame's own, read on the spot -/
def RepB (K : PySem.W.Frag) (ρ : List Addr) (H : Hp) (v : V) (d : D) : Prop :=
  Rep K ρ H v d ∨ ∃ a xs ds, v = .ref a ∧ d = .lst ds ∧ H a = some (.lst xs) ∧ a ∉ ρ ∧ Reps K ρ H xs ds
/-- .. or what a mutable list holds now -/
def RepV (K : PySem.W.Frag) (ρ : List Addr) (H : Hp) (v : V) (d : D) : Prop :=
  Rep K ρ H v d ∨ ∃ a xs ds, v = .ref a ∧ d = .lst ds ∧ H a = some (.lst xs) ∧ Reps K ρ H xs ds
theorem RepB.v {K : PySem.W.Frag} {ρ : List Addr} {H : Hp} {v : V} {d : D} (h : RepB K ρ H v d) : RepV K ρ H v d := by
  rcases h with h | ⟨a, xs, ds, h1, h2, h3, _, h4⟩
  · exact .inl h
  · exact .inr ⟨a, xs, ds, h1, h2, h3, h4⟩

/-- from one abstract heap to a later one: what is not in the store stays, what is immutable stays, the store grows by new objects -/
structure Step (ρ : List Addr) (H : Hp) (ρ' : List Addr) (H' : Hp) : Prop where
  pre : ρ <+: ρ'
  keep : ∀ a o, H a = some o → a ∉ ρ → H' a = some o
  tups : ∀ a xs, H a = some (.tup xs) → H' a = some (.tup xs)
  frzs : ∀ a o u, H a = some (.frz o u) → H' a = some (.frz o u)
  new : ∀ a ∈ ρ', a ∈ ρ ∨ H a = none
  stay : ∀ a, a ∈ ρ → ∃ o, H' a = some o
/-- what values rest on stays -/
structure Mo (ρ : List Addr) (H : Hp) (ρ' : List Addr) (H' : Hp) : Prop where
  pre : ρ <+: ρ'
  tups : ∀ a xs, H a = some (.tup xs) → H' a = some (.tup xs)
  frzs : ∀ a o u, H a = some (.frz o u) → H' a = some (.frz o u)
theorem Step.mo {ρ ρ' : List Addr} {H H' : Hp} (h : Step ρ H ρ' H') : Mo ρ H ρ' H' := ⟨h.pre, h.tups, h.frzs⟩
section
variable {K : PySem.W.Frag} {ρ ρ1 ρ' : List Addr} {H H1 H' : Hp} {v : V} {d : D} {vs : List V} {ds : List D}
theorem Step.trans (a : Step ρ H ρ1 H1) (b : Step ρ1 H1 ρ' H') : Step ρ H ρ' H' where
  pre := a.pre.trans b.pre
  keep := fun c o h n => b.keep c o (a.keep c o h n) fun m => by
    rcases a.new c m with z | z
    · exact n z
    · rw [h] at z; cases z
  tups := fun c xs h => b.tups c xs (a.tups c xs h)
  frzs := fun c o u h => b.frzs c o u (a.frzs c o u h)
  new := fun c m => by
    rcases b.new c m with z | z
    · exact a.new c z
    · by_cases hm : c ∈ ρ
      · exact .inl hm
      · refine .inr ?_
        cases q : H c with
        | none => rfl
        | some o =>
          rw [a.keep c o q hm] at z
          cases z
  stay := fun c m => b.stay c (a.pre.subset m)
theorem Fz.mo (h : Mo ρ H ρ' H') {a : Addr} {xs : List V} (f : Fz K H a xs) : Fz K H' a xs := by
  rcases f with ⟨o, e⟩ | f
  · exact .inl ⟨o, h.frzs _ _ _ e⟩
  · exact .inr f
theorem SqT.mo (h : Mo ρ H ρ' H') {a : Addr} {xs : List V} (f : SqT K H a xs) : SqT K H' a xs := by
  rcases f with (f | ⟨o, f⟩) | f
  · exact .inl (.inl (h.tups _ _ f))
  · exact .inl (.inr ⟨o, h.frzs _ _ _ f⟩)
  · exact .inr f
theorem prefix_get {l l' : List Addr} {n : Nat} {a : Addr} (h : l <+: l') (e : l[n]? = some a) : l'[n]? = some a := by
  obtain ⟨r, rfl⟩ := h
  rw [List.getElem?_append_left (List.getElem?_eq_some_iff.mp e).1]
  exact e
mutual
theorem Rep.mo (h : Mo ρ H ρ' H') : ∀ (d : D) (v : V), Rep K ρ H v d → Rep K ρ' H' v d
  | .non, _, r => by cases r; exact .non
  | .bl b, _, r => by cases r; exact .bl b
  | .int i, _, r => by cases r; exact .int i
  | .str s, _, r => by cases r; exact .str s
  | .tup ds, _, r => by
    cases r with
    | tup h1 h2 => exact .tup (SqT.mo h h1) (Reps.mo h ds _ h2)
  | .lst ds, _, r => by
    cases r with
    | lst h1 h2 => exact .lst (h1.mo h) (Reps.mo h ds _ h2)
  | .ref n, _, r => by
    cases r with
    | ref h1 => exact .ref (prefix_get h.pre h1)
theorem Reps.mo (h : Mo ρ H ρ' H') : ∀ (ds : List D) (vs : List V), Reps K ρ H vs ds → Reps K ρ' H' vs ds
  | [], _, r => by cases r; exact .nil
  | d :: ds, _, r => by
    cases r with
    | cons h1 h2 => exact .cons (Rep.mo h d _ h1) (Reps.mo h ds _ h2)
end
theorem Rep.step (h : Step ρ H ρ' H') (r : Rep K ρ H v d) : Rep K ρ' H' v d := Rep.mo h.mo d v r
theorem Reps.step (h : Step ρ H ρ' H') (r : Reps K ρ H vs ds) : Reps K ρ' H' vs ds := Reps.mo h.mo ds vs r
theorem RepB.step (h : Step ρ H ρ' H') (r : RepB K ρ H v d) : RepB K ρ' H' v d := by
  rcases r with r | ⟨a, xs, ds, h1, h2, h3, h4, h5⟩
  · exact .inl (r.step h)
  · refine .inr ⟨a, xs, ds, h1, h2, h.keep _ _ h3 h4, fun m => ?_, h5.step h⟩
    rcases h.new a m with z | z
    · exact h4 z
    · rw [h3] at z; cases z
theorem Reps.length : ∀ {vs : List V} {ds : List D}, Reps K ρ H vs ds → vs.length = ds.length
  | _, _, .nil => rfl
  | _, _, .cons _ t => by rw [List.length_cons, List.length_cons, Reps.length t]
theorem Reps.get : ∀ {vs : List V} {ds : List D} {i : Nat} {d : D}, Reps K ρ H vs ds → ds[i]? = some d → ∃ v, vs[i]? = some v ∧ Rep K ρ H v d
  | _, _, _, _, .nil, e => by simp at e
  | _, _, 0, _, .cons r _, e => by simp at e; subst e; exact ⟨_, rfl, r⟩
  | _, _, i + 1, d, .cons _ t, e => by
    obtain ⟨v, h1, h2⟩ := Reps.get (i := i) (d := d) t (by simpa using e)
    exact ⟨v, by simpa using h1, h2⟩
theorem Reps.getV : ∀ {vs : List V} {ds : List D} {i : Nat} {v : V}, Reps K ρ H vs ds → vs[i]? = some v → ∃ d, ds[i]? = some d ∧ Rep K ρ H v d
  | _, _, _, _, .nil, e => by simp at e
  | _, _, 0, _, .cons r _, e => by simp at e; subst e; exact ⟨_, rfl, r⟩
  | _, _, i + 1, v, .cons _ t, e => by
    obtain ⟨d, h1, h2⟩ := Reps.getV (i := i) (v := v) t (by simpa using e)
    exact ⟨d, by simpa using h1, h2⟩
theorem Reps.app : ∀ {vs : List V} {ds : List D} {ws : List V} {es : List D}, Reps K ρ H vs ds → Reps K ρ H ws es → Reps K ρ H (vs ++ ws) (ds ++ es)
  | _, _, _, _, .nil, s => s
  | _, _, _, _, .cons r t, s => .cons r (Reps.app t s)
theorem Reps.drop : ∀ (n : Nat) {vs : List V} {ds : List D}, Reps K ρ H vs ds → Reps K ρ H (vs.drop n) (ds.drop n)
  | 0, _, _, r => r
  | _ + 1, _, _, .nil => .nil
  | n + 1, _, _, .cons _ t => Reps.drop n t
theorem Reps.take : ∀ (n : Nat) {vs : List V} {ds : List D}, Reps K ρ H vs ds → Reps K ρ H (vs.take n) (ds.take n)
  | 0, _, _, _ => .nil
  | _ + 1, _, _, .nil => .nil
  | n + 1, _, _, .cons r t => .cons r (Reps.take n t)
theorem Reps.set : ∀ {vs : List V} {ds : List D} (n : Nat) {v : V} {d : D}, Reps K ρ H vs ds → Rep K ρ H v d → Reps K ρ H (vs.set n v) (ds.set n d)
  | _, _, _, _, _, .nil, _ => .nil
  | _, _, 0, _, _, .cons _ t, q => .cons q t
  | _, _, n + 1, _, _, .cons r t, q => .cons r (Reps.set n t q)
theorem Reps.erase : ∀ {vs : List V} {ds : List D} (n : Nat), Reps K ρ H vs ds → Reps K ρ H (vs.eraseIdx n) (ds.eraseIdx n)
  | _, _, _, .nil => .nil
  | _, _, 0, .cons _ t => t
  | _, _, n + 1, .cons r t => .cons r (Reps.erase n t)
theorem Reps.rev : ∀ {vs : List V} {ds : List D}, Reps K ρ H vs ds → Reps K ρ H vs.reverse ds.reverse
  | _, _, .nil => .nil
  | _, _, .cons r t => by rw [List.reverse_cons, List.reverse_cons]; exact t.rev.app (.cons r .nil)
/-- a value has one datum's text, number .. -/
theorem Rep.int_inv {i : Int} (r : Rep K ρ H v (.int i)) : v = .int i := by cases r; rfl
theorem Rep.bl_inv {i : Bool} (r : Rep K ρ H v (.bl i)) : v = .bl i := by cases r; rfl
theorem Rep.str_inv {s : List Nat} (r : Rep K ρ H v (.str s)) : v = .str (toS s) := by cases r; rfl
theorem Rep.non_inv (r : Rep K ρ H v .non) : v = .non := by cases r; rfl
theorem RepV.int_inv {i : Int} (r : RepV K ρ H v (.int i)) : v = .int i := by
  rcases r with r | ⟨_, _, _, _, e, _⟩
  · exact r.int_inv
  · cases e
theorem RepV.bl_inv {i : Bool} (r : RepV K ρ H v (.bl i)) : v = .bl i := by
  rcases r with r | ⟨_, _, _, _, e, _⟩
  · exact r.bl_inv
  · cases e
theorem RepV.str_inv {s : List Nat} (r : RepV K ρ H v (.str s)) : v = .str (toS s) := by
  rcases r with r | ⟨_, _, _, _, e, _⟩
  · exact r.str_inv
  · cases e
theorem RepV.non_inv (r : RepV K ρ H v .non) : v = .non := by
  rcases r with r | ⟨_, _, _, _, e, _⟩
  · exact r.non_inv
  · cases e
theorem RepV.tup_inv (r : RepV K ρ H v (.tup ds)) : ∃ a xs, v = .ref a ∧ SqT K H a xs ∧ Reps K ρ H xs ds := by
  rcases r with r | ⟨_, _, _, _, e, _⟩
  · cases r with
    | tup h1 h2 => exact ⟨_, _, rfl, h1, h2⟩
  · cases e
theorem Fz.sql {a : Addr} {xs : List V} (f : Fz K H a xs) : SqL K H a xs := by
  rcases f with ⟨o, e⟩ | ⟨its, n, e, hz, r⟩
  · exact .inl (.inr ⟨o, e⟩)
  · exact .inr ⟨_, its.toArray, n, e, rfl, rfl, rfl, by rw [List.size_toArray]; exact hz, r⟩
theorem RepV.lst_inv (r : RepV K ρ H v (.lst ds)) : ∃ a xs, v = .ref a ∧ SqL K H a xs ∧ Reps K ρ H xs ds := by
  rcases r with r | ⟨a, xs, ds', e1, e, h3, h4⟩
  · cases r with
    | lst h1 h2 => exact ⟨_, _, rfl, h1.sql, h2⟩
  · cases e
    exact ⟨a, xs, e1, .of h3, h4⟩
theorem RepV.ref_inv {n : Nat} (r : RepV K ρ H v (.ref n)) : ∃ a, v = .ref a ∧ ρ[n]? = some a := by
  rcases r with r | ⟨_, _, _, _, e, _⟩
  · cases r with
    | ref h => exact ⟨_, rfl, h⟩
  · cases e

/-! ### the store -/
def RepO (K : PySem.W.Frag) (ρ : List Addr) (H : Hp) (a : Addr) : MO → Prop
  | .lst ds => ∃ xs, H a = some (.lst xs) ∧ Reps K ρ H xs ds
  | .ins _ _ => False
structure HS (K : PySem.W.Frag) (ρ : List Addr) (H : Hp) (S : DS) : Prop where
  nod : ρ.Nodup
  len : ρ.length = S.length
  obj : ∀ (n : Nat) (o : MO) (a : Addr), S[n]? = some o → ρ[n]? = some a → RepO K ρ H a o
theorem HS.at {S : DS} (h : HS K ρ H S) {n : Nat} {o : MO} (e : S[n]? = some o) : ∃ a, ρ[n]? = some a ∧ RepO K ρ H a o := by
  have hl : n < ρ.length := by rw [h.len]; exact (List.getElem?_eq_some_iff.mp e).1
  exact ⟨ρ[n], List.getElem?_eq_getElem hl, h.obj n o _ e (List.getElem?_eq_getElem hl)⟩
theorem HS.mut {S : DS} (h : HS K ρ H S) {a : Addr} (m : a ∈ ρ) : ∃ o, H a = some o ∧ Mut (some o) := by
  obtain ⟨n, hn, rfl⟩ := List.getElem_of_mem m
  have hs : n < S.length := by rw [← h.len]; exact hn
  have q := h.obj n _ _ (List.getElem?_eq_getElem hs) (List.getElem?_eq_getElem hn)
  cases e : S[n] with
  | lst ds =>
    rw [e] at q
    obtain ⟨xs, e, _⟩ := q
    exact ⟨_, e, trivial⟩
  | ins c fs =>
    rw [e] at q
    exact q.elim
theorem RepO.step {S : DS} (h : Step ρ H ρ' H') {a : Addr} {o : MO} (e : H' a = H a) (r : RepO K ρ H a o) : RepO K ρ' H' a o := by
  cases o with
  | lst ds =>
    obtain ⟨xs, e1, e2⟩ := r
    exact ⟨xs, e.trans e1, e2.step h⟩
  | ins c fs => exact r.elim
/-- all that was tracked is as it was -/
theorem Step.grow {S : DS} (hs : HS K ρ H S) (g : ∀ a o, H a = some o → H' a = some o) : Step ρ H ρ H' :=
  ⟨List.prefix_refl _, fun a o h _ => g a o h, fun a xs h => g _ _ h, fun a o u h => g _ _ h, fun a m => .inl m, fun a m => let ⟨o, e, _⟩ := hs.mut m; ⟨o, g _ _ e⟩⟩
theorem Step.refl {S : DS} (hs : HS K ρ H S) : Step ρ H ρ H := .grow hs fun _ _ h => h
theorem HS.grow {S : DS} (hs : HS K ρ H S) (g : ∀ a o, H a = some o → H' a = some o) : HS K ρ H' S :=
  ⟨hs.nod, hs.len, fun n o a h1 h2 => by
    have hm : a ∈ ρ := List.mem_of_getElem? h2
    obtain ⟨u, hu, _⟩ := hs.mut hm
    exact (hs.obj n o a h1 h2).step (S := S) (.grow hs g) ((g _ _ hu).trans hu.symm)⟩
theorem grow_upd {p : Addr} {o : HO} (h : H p = none) : ∀ a u, H a = some u → upd H p o a = some u := fun a u e => by
  rw [upd_ne (ne_of_none e h)]
  exact e
/-- a new list comes into the store -/
theorem HS.alloc {S : DS} (hs : HS K ρ H S) {a : Addr} {xs : List V} {ds : List D} (hn : a ∉ ρ) (e : H a = some (.lst xs)) (r : Reps K ρ H xs ds) :
    HS K (ρ ++ [a]) H (S ++ [.lst ds]) ∧ (∀ b, (b ∈ ρ ++ [a]) → b ∈ ρ ∨ b = a) ∧ ρ <+: ρ ++ [a] := by
  have pre : ρ <+: ρ ++ [a] := List.prefix_append _ _
  have mono : ∀ {vs : List V} {es : List D}, Reps K ρ H vs es → Reps K (ρ ++ [a]) H vs es := fun {vs es} q => Reps.mo ⟨pre, fun _ _ z => z, fun _ _ _ z => z⟩ es vs q
  refine ⟨⟨?_, by rw [List.length_append, List.length_append, hs.len] <;> rfl, fun n o b h1 h2 => ?_⟩, fun b m => ?_, pre⟩
  · rw [List.nodup_append]
    exact ⟨hs.nod, by simp, fun x hx y hy z => by
      have : y = a := by simpa using hy
      subst this
      subst z
      exact hn hx⟩
  · by_cases hl : n < ρ.length
    · rw [List.getElem?_append_left hl] at h2
      rw [List.getElem?_append_left (by rw [← hs.len]; exact hl)] at h1
      have q := hs.obj n o b h1 h2
      cases o with
      | lst es =>
        obtain ⟨ys, e1, e2⟩ := q
        exact ⟨ys, e1, mono e2⟩
      | ins c fs => exact q.elim
    · have hl2 : n < (ρ ++ [a]).length := (List.getElem?_eq_some_iff.mp h2).1
      rw [List.length_append] at hl2
      have hn' : n = ρ.length := by simp at hl2; omega
      subst hn'
      rw [List.getElem?_append_right (Nat.le_refl _)] at h2
      have hb : b = a := by simpa using h2.symm
      subst hb
      rw [hs.len, List.getElem?_append_right (Nat.le_refl _)] at h1
      have ho : o = .lst ds := by simpa using h1.symm
      subst ho
      exact ⟨xs, e, mono r⟩
  · rcases List.mem_append.mp m with z | z
    · exact .inl z
    · exact .inr (by simpa using z)
/-- a list that is new since H is frozen -/
theorem HS.freeze {S : DS} (hs : HS K ρ1 H1 S) (st : Step ρ H ρ1 H1) {a : Addr} {xs : List V} {o : Obj} (e : H1 a = some (.lst xs)) (n0 : H a = none) (n1 : a ∉ ρ1) :
    Step ρ H ρ1 (upd H1 a (.frz o (.lst xs))) ∧ HS K ρ1 (upd H1 a (.frz o (.lst xs))) S ∧ Mo ρ1 H1 ρ1 (upd H1 a (.frz o (.lst xs))) := by
  have ne : ∀ {b u}, H b = some u → b ≠ a := fun h => ne_of_none h n0
  have mo : Mo ρ1 H1 ρ1 (upd H1 a (.frz o (.lst xs))) := ⟨List.prefix_refl _, fun b ys h => by rw [upd_ne (ne_of h e (by intro z; cases z))]; exact h, fun b u w h => by rw [upd_ne (ne_of h e (by intro z; cases z))]; exact h⟩
  refine ⟨⟨st.pre, fun b u h nb => by rw [upd_ne (ne h)]; exact st.keep b u h nb, fun b ys h => mo.tups _ _ (st.tups b ys h), fun b u w h => mo.frzs _ _ _ (st.frzs b u w h), st.new, fun b m => ?_⟩, ⟨hs.nod, hs.len, fun n u b h1 h2 => ?_⟩, mo⟩
  · obtain ⟨u, h⟩ := st.stay b m
    exact ⟨u, by rw [upd_ne (fun z => n1 (by rw [← z]; exact st.pre.subset m))]; exact h⟩
  · have nb : b ≠ a := fun z => n1 (by rw [← z]; exact List.mem_of_getElem? h2)
    have q := hs.obj n u b h1 h2
    cases u with
    | lst ds =>
      obtain ⟨ys, e1, e2⟩ := q
      exact ⟨ys, by rw [upd_ne nb]; exact e1, Reps.mo mo ds ys e2⟩
    | ins c fs => exact q.elim
theorem HS.inj {S : DS} (hs : HS K ρ H S) {n m : Nat} {a : Addr} (h1 : ρ[n]? = some a) (h2 : ρ[m]? = some a) : n = m := by
  obtain ⟨l1, e1⟩ := List.getElem?_eq_some_iff.mp h1
  obtain ⟨l2, e2⟩ := List.getElem?_eq_some_iff.mp h2
  exact (List.getElem_inj hs.nod).mp (e1.trans e2.symm)
/-- a list of the store is written -/
theorem HS.write {S : DS} (hs : HS K ρ H S) {n : Nat} {a : Addr} {xs : List V} {old ds : List D} (e : ρ[n]? = some a) (hS : S[n]? = some (.lst old)) (r : Reps K ρ H xs ds) :
    Step ρ H ρ (upd H a (.lst xs)) ∧ HS K ρ (upd H a (.lst xs)) (S.set n (.lst ds)) := by
  have hm : a ∈ ρ := List.mem_of_getElem? e
  obtain ⟨b, eb, ys, eo, _⟩ := hs.at hS
  rw [e] at eb
  cases eb
  have st : Step ρ H ρ (upd H a (.lst xs)) := by
    refine ⟨List.prefix_refl _, fun b o h nb => ?_, fun b zs h => ?_, fun b o u h => ?_, fun b m => .inl m, fun b m => ?_⟩
    · rw [upd_ne (fun z => nb (by rw [z]; exact hm))]
      exact h
    · rw [upd_ne (ne_of h eo (by intro z; cases z))]
      exact h
    · rw [upd_ne (ne_of h eo (by intro z; cases z))]
      exact h
    · by_cases z : b = a
      · subst z
        exact ⟨_, upd_same⟩
      · obtain ⟨o, h, _⟩ := hs.mut m
        exact ⟨o, by rw [upd_ne z]; exact h⟩
  refine ⟨st, hs.nod, by rw [List.length_set]; exact hs.len, fun m o b h1 h2 => ?_⟩
  by_cases z : m = n
  · subst z
    rw [e] at h2
    cases h2
    rw [List.getElem?_set_self (List.getElem?_eq_some_iff.mp hS).1] at h1
    cases h1
    exact ⟨xs, upd_same, r.step st⟩
  · rw [List.getElem?_set_ne (Ne.symm z)] at h1
    have nb : b ≠ a := fun q => z (hs.inj h2 (by rw [q]; exact e))
    exact (hs.obj m o b h1 h2).step (S := S) st (upd_ne nb)
end

/-! ### the slots -/
def ownAt (own : List Bool) (i : Nat) : Bool := own[i]?.getD false
structure ES (K : PySem.W.Frag) (own : List Bool) (H0 : Hp) (ρ : List Addr) (H : Hp) (σ : St) (σd : Env) : Prop where
  len : σ.length = σd.length
  vl : ∀ (i : Nat) (d : D), ownAt own i = false → σd[i]? = some (some d) → ∃ v, σ[i]? = some (some v) ∧ Rep K ρ H v d
  ow : ∀ (i : Nat) (d : D), ownAt own i = true → σd[i]? = some (some d) → ∃ a xs ds, d = .lst ds ∧ σ[i]? = some (some (.ref a)) ∧ H a = some (.lst xs) ∧ H0 a = none ∧ a ∉ ρ ∧ Reps K ρ H xs ds
  sp : ∀ (i j : Nat) (a : Addr), i ≠ j → ownAt own i = true → ownAt own j = true → (∃ d, σd[i]? = some (some d)) → (∃ d, σd[j]? = some (some d)) → σ[i]? = some (some (.ref a)) → σ[j]? ≠ some (some (.ref a))
section
variable {K : PySem.W.Frag} {own : List Bool} {H0 : Hp} {ρ ρ1 ρ' : List Addr} {H H1 H' : Hp} {σ : St} {σd : Env}
theorem ES.step (e : ES K own H0 ρ H σ σd) (h : Step ρ H ρ' H') : ES K own H0 ρ' H' σ σd where
  len := e.len
  vl := fun i d h1 h2 => let ⟨v, h3, h4⟩ := e.vl i d h1 h2; ⟨v, h3, h4.step h⟩
  ow := fun i d h1 h2 => by
    obtain ⟨a, xs, ds, h3, h4, h5, h6, h7, h8⟩ := e.ow i d h1 h2
    refine ⟨a, xs, ds, h3, h4, h.keep _ _ h5 h7, h6, fun m => ?_, h8.step h⟩
    rcases h.new a m with z | z
    · exact h7 z
    · rw [h5] at z; cases z
  sp := e.sp
/-- a name's value -/
theorem ES.get (e : ES K own H0 ρ H σ σd) {i : Nat} {d : D} (h : σd[i]? = some (some d)) : ∃ v, σ[i]? = some (some v) ∧ RepB K ρ H v d ∧ (ownAt own i = false → Rep K ρ H v d) := by
  cases q : ownAt own i with
  | false =>
    obtain ⟨v, h1, h2⟩ := e.vl i d q h
    exact ⟨v, h1, .inl h2, fun _ => h2⟩
  | true =>
    obtain ⟨a, xs, ds, h3, h4, h5, h6, h7, h8⟩ := e.ow i d q h
    exact ⟨_, h4, .inr ⟨a, xs, ds, rfl, h3, h5, h7, h8⟩, fun z => by cases z⟩
/-- a name of any value is stored -/
theorem ES.set (e : ES K own H0 ρ H σ σd) {i : Nat} {v : V} {d : D} (hi : ownAt own i = false) (r : Rep K ρ H v d) : ES K own H0 ρ H (σ.set i (some v)) (σd.set i (some d)) where
  len := by rw [List.length_set, List.length_set]; exact e.len
  vl := fun j c h1 h2 => by
    by_cases z : i = j
    · subst z
      have hl : i < σd.length := by
        have := (List.getElem?_eq_some_iff.mp h2).1
        rwa [List.length_set] at this
      rw [List.getElem?_set_self hl] at h2
      cases h2
      exact ⟨v, by rw [List.getElem?_set_self (by rw [e.len]; exact hl)], r⟩
    · rw [List.getElem?_set_ne z] at h2
      obtain ⟨v', h3, h4⟩ := e.vl j c h1 h2
      exact ⟨v', by rw [List.getElem?_set_ne z]; exact h3, h4⟩
  ow := fun j c h1 h2 => by
    have z : i ≠ j := fun q => by rw [← q, hi] at h1; cases h1
    rw [List.getElem?_set_ne z] at h2
    obtain ⟨a, xs, ds, h3, h4, h5⟩ := e.ow j c h1 h2
    exact ⟨a, xs, ds, h3, by rw [List.getElem?_set_ne z]; exact h4, h5⟩
  sp := fun j k a hjk h1 h2 h3 h4 h5 => by
    have z : i ≠ j := fun q => by rw [← q, hi] at h1; cases h1
    have z' : i ≠ k := fun q => by rw [← q, hi] at h2; cases h2
    rw [List.getElem?_set_ne z] at h3 h5
    rw [List.getElem?_set_ne z'] at h4 ⊢
    exact e.sp j k a hjk h1 h2 h3 h4 h5
/-- a name of an own list is given a new one -/
theorem ES.setOwn (e : ES K own H0 ρ H σ σd) {i : Nat} {a : Addr} {xs : List V} {ds : List D} (hi : ownAt own i = true) (ha : H a = some (.lst xs)) (h0 : H0 a = none) (hρ : a ∉ ρ) (r : Reps K ρ H xs ds)
    (hn : ∀ j, j ≠ i → ownAt own j = true → (∃ d, σd[j]? = some (some d)) → σ[j]? ≠ some (some (.ref a))) : ES K own H0 ρ H (σ.set i (some (.ref a))) (σd.set i (some (.lst ds))) where
  len := by rw [List.length_set, List.length_set]; exact e.len
  vl := fun j c h1 h2 => by
    have z : i ≠ j := fun q => by rw [← q, hi] at h1; cases h1
    rw [List.getElem?_set_ne z] at h2
    obtain ⟨v', h3, h4⟩ := e.vl j c h1 h2
    exact ⟨v', by rw [List.getElem?_set_ne z]; exact h3, h4⟩
  ow := fun j c h1 h2 => by
    by_cases z : i = j
    · subst z
      have hl : i < σd.length := by
        have := (List.getElem?_eq_some_iff.mp h2).1
        rwa [List.length_set] at this
      rw [List.getElem?_set_self hl] at h2
      cases h2
      exact ⟨a, xs, ds, rfl, by rw [List.getElem?_set_self (by rw [e.len]; exact hl)], ha, h0, hρ, r⟩
    · rw [List.getElem?_set_ne z] at h2
      obtain ⟨b, ys, es, h3, h4, h5⟩ := e.ow j c h1 h2
      exact ⟨b, ys, es, h3, by rw [List.getElem?_set_ne z]; exact h4, h5⟩
  sp := fun j k b hjk h1 h2 h3 h4 h5 => by
    by_cases z : i = j
    · subst z
      have hl : i < σ.length := by
        have := (List.getElem?_eq_some_iff.mp h5).1
        rwa [List.length_set] at this
      rw [List.getElem?_set_self hl] at h5
      cases h5
      rw [List.getElem?_set_ne hjk] at h4 ⊢
      exact hn k (Ne.symm hjk) h2 h4
    · by_cases z' : i = k
      · subst z'
        intro h6
        have hl : i < σ.length := by
          have := (List.getElem?_eq_some_iff.mp h6).1
          rwa [List.length_set] at this
        rw [List.getElem?_set_self hl] at h6
        cases h6
        rw [List.getElem?_set_ne z] at h3 h5
        exact hn j (fun q => z q.symm) h1 h3 h5
      · rw [List.getElem?_set_ne z] at h3 h5
        rw [List.getElem?_set_ne z'] at h4 ⊢
        exact e.sp j k b hjk h1 h2 h3 h4 h5
end

/-! ### what an evaluation ends in -/
def Ok {α : Type} (m : R α) (P : α → DS → Prop) (X : Exc → DS → Prop) : Prop := match m with
  | .ok a S => P a S
  | .exc x S => X x S
  | .bad => False
section
variable {α β : Type} {m : M α} {f : α → M β} {S : DS} {P P' : α → DS → Prop} {Q : β → DS → Prop} {X X' : Exc → DS → Prop}
theorem Ok.bind : Ok ((m >>= f) S) Q X ↔ Ok (m S) (fun a S' => Ok (f a S') Q X) X := by
  show Ok (M.bind m f S) Q X ↔ _
  unfold M.bind Ok
  cases m S <;> exact Iff.rfl
theorem Ok.pure {a : α} : Ok ((Pure.pure a : M α) S) P X ↔ P a S := Iff.rfl
theorem Ok.mono {r : R α} (h : Ok r P X) (hp : ∀ a S, P a S → P' a S) (hx : ∀ x S, X x S → X' x S) : Ok r P' X' := by
  cases r with
  | ok a S => exact hp a S h
  | exc x S => exact hx x S h
  | bad => exact h
theorem Ok.ofO {o : Option α} : Ok ((ofO o : M α) S) P X ↔ ∃ a, o = some a ∧ P a S := by
  cases o with
  | none => exact ⟨fun h => h.elim, fun ⟨_, e, _⟩ => by cases e⟩
  | some a => exact ⟨fun h => ⟨a, rfl, h⟩, fun ⟨_, e, h⟩ => by cases e; exact h⟩
theorem Ok.bad : ¬ Ok ((M.bad : M α) S) P X := fun h => h
theorem Ok.calm : Ok (M.calm m S) P X ↔ Ok (m S) P (fun _ _ => False) := by
  unfold M.calm Ok
  cases m S <;> exact Iff.rfl
theorem Ok.fl {m : M Fl} {σ : Env} {P : Fl → DS → Prop} : Ok (M.fl m σ S) P X ↔ Ok (m S) P (fun x S' => P (.ex x σ) S') := by
  unfold M.fl Ok
  cases m S <;> exact Iff.rfl
end
end MP
end
section
set_option Elab.async false
set_option linter.all false
set_option maxRecDepth 100000
set_option maxHeartbeats 2000000
/-! MPE: readings of expressions; the operators. -/
namespace MP
open PySem PySem.Spec PyProof.Rows L2

structure Pm where
  K : PySem.W.Frag
  own : List Bool
  H0 : Hp
  ρ0 : List Addr
  cf : CF
  fuel : Nat
  W : WX
  xcls : Nat → Option Value
  xname : Nat → Str

/-- how an exception that flies stands: its class, its own dict -/
def XRepK (K : PySem.W.Frag) (xcls : Nat → Option Value) (xname : Nat → Str) (ρ : List Addr) (H : Hp) (x : Exc) (cls : Value) (dx : Option Addr) : Prop :=
  xcls x.c = some cls ∧ (x.fs ≠ [] → ∃ d vs, dx = some d ∧ H d = some (.xd vs) ∧ ∀ f dv, (f, dv) ∈ x.fs → ∃ v, vs.lookup (xname f) = some v ∧ Rep K ρ H v dv)
abbrev XRep (p : Pm) (ρ : List Addr) (H : Hp) (x : Exc) (cls : Value) (dx : Option Addr) : Prop := XRepK p.K p.xcls p.xname ρ H x cls dx
def XQ (p : Pm) (σ : St) (ρ : List Addr) (H : Hp) : Exc → DS → Prop := fun x S' =>
  ∀ ρ' H' cls dx, Step ρ H ρ' H' → HS p.K ρ' H' S' → XRep p ρ' H' x cls dx → p.W cls dx σ H'
theorem XQ.step {p : Pm} {σ : St} {ρ ρ' : List Addr} {H H' : Hp} (h : Step ρ H ρ' H') {x : Exc} {S : DS} (q : XQ p σ ρ H x S) : XQ p σ ρ' H' x S :=
  fun ρ2 H2 cls dx st hs xr => q ρ2 H2 cls dx (h.trans st) hs xr

def valE (own : List Bool) : E → Bool
  | .var i => !ownAt own i
  | .ite _ a b => valE own a && valE own b
  | _ => true
/-- an expression's reading -/
def tE (p : Pm) (e : E) : TE := fun σ H Q => ∃ ρ σd S, ES p.K p.own p.H0 ρ H σ σd ∧ HS p.K ρ H S ∧
  Ok (evE p.cf e σd S) (fun d S' => ∀ v ρ' H', Step ρ H ρ' H' → HS p.K ρ' H' S' → RepB p.K ρ' H' v d → (valE p.own e = true → Rep p.K ρ' H' v d) → Q v H') (XQ p σ ρ H)
def tT (p : Pm) (e : E) : TT := fun σ H Q => ∃ ρ σd S, ES p.K p.own p.H0 ρ H σ σd ∧ HS p.K ρ H S ∧
  Ok (evB (evE p.cf e σd) S) (fun b S' => ∀ ρ' H', Step ρ H ρ' H' → HS p.K ρ' H' S' → Q b H') (XQ p σ ρ H)
def tEs (p : Pm) (es : Es) : TA := fun σ H Q => ∃ ρ σd S, ES p.K p.own p.H0 ρ H σ σd ∧ HS p.K ρ H S ∧
  Ok (evEs p.cf es σd S) (fun ds S' => ∀ vs ρ' H', Step ρ H ρ' H' → HS p.K ρ' H' S' → Reps p.K ρ' H' vs ds → Q vs H') (XQ p σ ρ H)
/-- a new list -/
def tL (p : Pm) (l : L) : TE := fun σ H Q => ∃ ρ σd S, ES p.K p.own p.H0 ρ H σ σd ∧ HS p.K ρ H S ∧
  Ok (evL p.cf l σd S) (fun ds S' => ∀ a xs ρ' H', Step ρ H ρ' H' → HS p.K ρ' H' S' → H' a = some (.lst xs) → H a = none → a ∉ ρ' → Reps p.K ρ' H' xs ds → Q (.ref a) H') (XQ p σ ρ H)

section
variable {X : Cx} {e : Expr} {es : List Expr}
theorem PE.imp {t t' : TE} (h : PE X e t) (i : ∀ σ H Q, t' σ H Q → t σ H Q) : PE X e t' := ⟨fun pins s σ H Q I q => h.run pins s σ H Q I (i σ H Q q)⟩
theorem PT.imp {t t' : TT} (h : PT X e t) (i : ∀ σ H Q, t' σ H Q → t σ H Q) : PT X e t' := ⟨fun pins s σ H Q I q => h.run pins s σ H Q I (i σ H Q q)⟩
theorem PW.imp {t t' : TT} (h : PW X e t) (i : ∀ σ H Q, t' σ H Q → t σ H Q) : PW X e t' := ⟨fun wh pins s σ H Q I q => h.run wh pins s σ H Q I (i σ H Q q)⟩
theorem PA.imp {t t' : TA} (h : PA X es t) (i : ∀ σ H Q, t' σ H Q → t σ H Q) : PA X es t' := ⟨fun pos pins s σ H Q I q => h.run pos pins s σ H Q I (i σ H Q q)⟩

/-- nobody writes it from now on -/
theorem Inv.freeze {pins : List (Addr × Obj)} {σ : St} {H : Hp} {s : Shared} {a : Addr} {xs : List V} (I : Inv X pins σ H s) (h : H a = some (.lst xs)) : ∃ o, Inv X pins σ (upd H a (.frz o (.lst xs))) s := by
  obtain ⟨z, its, n, r, e⟩ := I.hok a _ h
  refine ⟨_, I.write (h' := s.heap) (t' := s.toks) (x := a) (e := a) (by rw [h]; trivial) (.inl rfl) (fun _ _ _ q => q) ⟨_, e⟩ ⟨e, z, its, n, r, e⟩⟩
/-- wanted of a new list that nobody writes from now on -/
def Fzn (Q : VK) : VK := fun v H' => ∃ a xs, v = .ref a ∧ H' a = some (.lst xs) ∧ ∀ o, Q v (upd H' a (.frz o (.lst xs)))
theorem EP.fz {pins : List (Addr × Obj)} {σ : St} {Q : VK} {u : Value} {s : Shared} (h : EP X pins σ (Fzn Q) u s) : EP X pins σ Q u s := by
  obtain ⟨v, H1, I1, r1, a, xs, e1, hl, q1⟩ := h
  obtain ⟨o, I2⟩ := Inv.freeze I1 hl
  exact ⟨v, _, I2, r1, q1 o⟩
theorem PE.frozen {t : TE} (h : PE X e t) : PE X e (fun σ H Q => t σ H (Fzn Q)) :=
  ⟨fun pins s σ H Q I q => thn (h.run pins s σ H _ I q) fun u s1 e => EP.fz e⟩
def RdK (K : PySem.W.Frag) (H : Hp) (a : Addr) (xs : List V) : Prop := H a = some (.lst xs) ∨ Fz K H a xs
theorem Inv.lstR {pins : List (Addr × Obj)} {σ : St} {H : Hp} {s : Shared} {a : Addr} {xs : List V} (I : Inv X pins σ H s) (h : RdK X.K H a xs) :
    xs.length ≤ sizeLine ∧ ∃ (its : List Value) (n : Nat), Vals xs its ∧ xs.length = its.length ∧ s.heap.get? a = some { cls := .type "list", data := .seq its.toArray n } := by
  have base : Rd H a (.lst xs) → xs.length ≤ sizeLine ∧ ∃ (its : List Value) (n : Nat), Vals xs its ∧ xs.length = its.length ∧ s.heap.get? a = some { cls := .type "list", data := .seq its.toArray n } := fun h => by
    obtain ⟨z, its, n, r, e⟩ := h.ok I.hok
    exact ⟨z, its, n, r, r.length, e⟩
  rcases h with h | h | ⟨its, n, e, hz, r⟩
  · exact base (.inl h)
  · exact base (.inr h)
  · exact ⟨by rw [r.length]; exact hz, its, n, r, r.length, I.kIn a _ e⟩
end

/-! ### evaluation, one after another -/
section
variable {p : Pm} {σ : St} {H : Hp} {ρ : List Addr} {σd : Env} {S : DS} {α : Type} {P : α → DS → Prop}
theorem seq1 {pa : E} {k : D → M α} {R : V → Hp → Prop} (es : ES p.K p.own p.H0 ρ H σ σd) (hs : HS p.K ρ H S) (h : Ok ((evE p.cf pa σd >>= k) S) P (XQ p σ ρ H))
    (f : ∀ vx x ρ1 H1 S1, Step ρ H ρ1 H1 → HS p.K ρ1 H1 S1 → ES p.K p.own p.H0 ρ1 H1 σ σd → RepB p.K ρ1 H1 vx x → (valE p.own pa = true → Rep p.K ρ1 H1 vx x) → Ok (k x S1) P (XQ p σ ρ1 H1) → R vx H1) : tE p pa σ H R := by
  refine ⟨ρ, σd, S, es, hs, (Ok.bind.mp h).mono (fun d S1 q v ρ1 H1 st hs1 r rv => ?_) fun _ _ q => q⟩
  exact f v d ρ1 H1 S1 st hs1 (es.step st) r rv (q.mono (fun _ _ q => q) fun _ _ q => q.step st)
theorem seq2 {pa pb : E} {k : D → D → M α} {R : V → V → Hp → Prop} (es : ES p.K p.own p.H0 ρ H σ σd) (hs : HS p.K ρ H S) (h : Ok ((evE p.cf pa σd >>= fun x => evE p.cf pb σd >>= k x) S) P (XQ p σ ρ H))
    (f : ∀ vx vy x y ρ2 H2 S2, Step ρ H ρ2 H2 → HS p.K ρ2 H2 S2 → ES p.K p.own p.H0 ρ2 H2 σ σd → RepB p.K ρ2 H2 vx x → RepB p.K ρ2 H2 vy y → (valE p.own pa = true → Rep p.K ρ2 H2 vx x) → (valE p.own pb = true → Rep p.K ρ2 H2 vy y) →
      Ok (k x y S2) P (XQ p σ ρ2 H2) → R vx vy H2) : tE p pa σ H (fun vx H1 => tE p pb σ H1 fun vy H2 => R vx vy H2) := by
  refine seq1 es hs h fun vx x ρ1 H1 S1 st hs1 es1 r rv h1 => ?_
  refine seq1 es1 hs1 h1 fun vy y ρ2 H2 S2 st2 hs2 es2 r2 rv2 h2 => ?_
  exact f vx vy x y ρ2 H2 S2 (st.trans st2) hs2 es2 (r.step st2) r2 (fun z => (rv z).step st2) rv2 h2
theorem view_ok {k : D → M α} {v : V} {d : D} {X : Exc → DS → Prop} (hs : HS p.K ρ H S) (r : RepB p.K ρ H v d) (h : Ok ((view d >>= k) S) P X) : ∃ d', RepV p.K ρ H v d' ∧ Ok (k d' S) P X := by
  have base : RepV p.K ρ H v d ∧ (view d S = .ok d S → Ok (k d S) P X) := ⟨r.v, fun e => by
    have := Ok.bind.mp h
    rw [e] at this
    exact this⟩
  cases d with
  | ref n =>
    cases e : S[n]? with
    | none =>
      refine ⟨.ref n, base.1, base.2 ?_⟩
      show (match S[n]? with | some (.lst xs) => _ | _ => _) = _
      rw [e]
    | some o =>
      cases o with
      | ins c fs =>
        refine ⟨.ref n, base.1, base.2 ?_⟩
        show (match S[n]? with | some (.lst xs) => _ | _ => _) = _
        rw [e]
      | lst xs =>
        have hv : view (.ref n) S = .ok (.lst xs) S := by
          show (match S[n]? with | some (.lst xs) => _ | _ => _) = _
          rw [e]
        have h2 := Ok.bind.mp h
        rw [hv] at h2
        refine ⟨.lst xs, ?_, h2⟩
        obtain ⟨a, ea, ys, e1, e2⟩ := hs.at e
        obtain ⟨b, rfl, eb⟩ := r.v.ref_inv
        rw [ea] at eb
        cases eb
        exact .inr ⟨a, ys, xs, rfl, rfl, e1, e2⟩
  | _ => exact ⟨_, base.1, base.2 rfl⟩
end

/-! ### operators on values -/
theorem RepV.lst_rd {K : PySem.W.Frag} {ρ : List Addr} {H : Hp} {v : V} {ds : List D} (r : RepV K ρ H v (.lst ds)) : ∃ a xs, v = .ref a ∧ RdK K H a xs ∧ Reps K ρ H xs ds := by
  rcases r with r | ⟨a, xs, ds', e1, e, h3, h4⟩
  · cases r with
    | lst h1 h2 => exact ⟨_, _, rfl, .inr h1, h2⟩
  · cases e
    exact ⟨a, xs, e1, .inl h3, h4⟩
/-- a result: a value that may rest on new immutable objects -/
def Res (K : PySem.W.Frag) (ρ : List Addr) (H : Hp) (d : D) (Q : VK) : Prop := ∀ v H', (∀ a o, H a = some o → H' a = some o) → Rep K ρ H' v d → Q v H'
def rB (K : PySem.W.Frag) (f : D → D → Option D) : R2 := fun x y H Q => ∃ ρ S a b d, HS K ρ H S ∧ RepV K ρ H x a ∧ RepV K ρ H y b ∧ f a b = some d ∧ Res K ρ H d Q
def rOne (K : PySem.W.Frag) (f : D → Option D) : List V → Hp → VK → Prop := fun xs H Q => ∃ ρ S x a d, xs = [x] ∧ HS K ρ H S ∧ RepV K ρ H x a ∧ f a = some d ∧ Res K ρ H d Q
section
variable {K : PySem.W.Frag} {ρ : List Addr} {H : Hp} {Q : VK} {S : DS}
theorem Res.int {i : Int} (r : Res K ρ H (.int i) Q) : Q (.int i) H := r _ _ (fun _ _ h => h) (.int i)
theorem Res.bl {i : Bool} (r : Res K ρ H (.bl i) Q) : Q (.bl i) H := r _ _ (fun _ _ h => h) (.bl i)
theorem Res.str {s : List Nat} (r : Res K ρ H (.str s) Q) : Q (.str (toS s)) H := r _ _ (fun _ _ h => h) (.str s)
theorem Res.str' {s : List Nat} {z : Str} (r : Res K ρ H (.str s) Q) (e : z = toS s) : Q (.str z) H := by subst e; exact r.str
theorem Res.same {v : V} {d : D} (r : Res K ρ H d Q) (q : Rep K ρ H v d) : Q v H := r _ _ (fun _ _ h => h) q
theorem Reps.grow {H' : Hp} {vs : List V} {ds : List D} (hs : HS K ρ H S) (g : ∀ a o, H a = some o → H' a = some o) (r : Reps K ρ H vs ds) : Reps K ρ H' vs ds := r.step (.grow hs g)
theorem Res.tup {ds : List D} {xs : List V} (r : Res K ρ H (.tup ds) Q) (hs : HS K ρ H S) (q : Reps K ρ H xs ds) : ∀ a, H a = none → Q (.ref a) (upd H a (.tup xs)) := fun a n =>
  r _ _ (grow_upd n) (.tup (.of upd_same) (q.grow hs (grow_upd n)))
theorem Res.lst {ds : List D} {xs : List V} (r : Res K ρ H (.lst ds) Q) (hs : HS K ρ H S) (q : Reps K ρ H xs ds) : ∀ a, H a = none → Fzn Q (.ref a) (upd H a (.lst xs)) := fun a n =>
  ⟨a, xs, rfl, upd_same, fun o => by
    rw [upd_upd]
    exact r _ _ (grow_upd n) (.lst (.inl ⟨o, upd_same⟩) (q.grow hs (grow_upd n)))⟩
theorem Reps.ne_nil {vs : List V} {ds : List D} (r : Reps K ρ H vs ds) (h : ds = []) : vs = [] := by
  cases r with
  | nil => rfl
  | cons _ _ => cases h
theorem Reps.nil_of {vs : List V} {ds : List D} (r : Reps K ρ H vs ds) (h : vs = []) : ds = [] := by
  cases r with
  | nil => rfl
  | cons _ _ => cases h
theorem Reps.repl {vs : List V} {ds : List D} (r : Reps K ρ H vs ds) : ∀ n : Nat, Reps K ρ H (List.replicate n vs).flatten (List.replicate n ds).flatten
  | 0 => .nil
  | n + 1 => by
    rw [List.replicate_succ, List.replicate_succ, List.flatten_cons, List.flatten_cons]
    exact r.app (Reps.repl r n)
end
end MP
end
section
set_option Elab.async false
set_option linter.all false
set_option maxRecDepth 100000
set_option maxHeartbeats 2000000
/-! MPO: binary operators, comparisons. -/
namespace MP
open PySem PySem.Spec PyProof.Rows L2

/-! ### tuple * int at the borders -/
theorem tuple_mul1 (l : Addr) (items : Array Value) (n : Nat) (dd : Option Addr) (sl : Array (Option Value)) (x : Int) (u : Tok) (c0 : (decide (x < -(2 ^ 63)) || decide (x ≥ 2 ^ 63)) = false) (c1 : (items.isEmpty || x == 1) = true) :
    Meets (Builtin.«tuple.__mul__» ⟨[.ref l, .int x u], []⟩) (fun _ R s => s.heap.get? l = some { cls := .type "tuple", dict := dd, data := .seq items n, slots := sl } ∧ R (.ok (.ret (Value.ref l))) s) :=
  .of_wp fun prog w A R s h => by
    obtain ⟨hp, g, d, tk, os⟩ := s
    obtain ⟨hl, h⟩ := h
    have f1 := AutoSeq1.idx_int
    wp_walk using wpAny_loadPart' hl
    repeat (first
      | (refine wpAny_ite_false (decide_eq_false (by rw [c0]; exact Bool.false_ne_true)) ?_; wp_walk using wpAny_loadPart' hl)
      | (refine wpAny_ite_true (decide_eq_true c1) ?_; wp_walk using wpAny_loadPart' hl))
    exact ⟨_, rfl, h⟩
theorem tuple_mul0 (l : Addr) (items : Array Value) (n : Nat) (dd : Option Addr) (sl : Array (Option Value)) (x : Int) (u : Tok) (c0 : (decide (x < -(2 ^ 63)) || decide (x ≥ 2 ^ 63)) = false) (c1 : (items.isEmpty || x == 1) = false) (c2 : (decide (x ≤ 0) || items.isEmpty) = true) :
    Meets (Builtin.«tuple.__mul__» ⟨[.ref l, .int x u], []⟩) (fun _ R s => s.heap.get? l = some { cls := .type "tuple", dict := dd, data := .seq items n, slots := sl } ∧
      R (.ok (.ret (Value.ref s.heap.objs.size))) { s with heap := s.heap.push { cls := Value.type "tuple", data := Data.seq #[] }, toks := s.toks }) :=
  .of_wp fun prog w A R s h => by
    obtain ⟨hp, g, d, tk, os⟩ := s
    obtain ⟨hl, h⟩ := h
    have f1 := AutoSeq1.idx_int
    wp_walk using wpAny_loadPart' hl
    repeat (first
      | (refine wpAny_ite_false (decide_eq_false (by rw [c0]; exact Bool.false_ne_true)) ?_; wp_walk using wpAny_loadPart' hl)
      | (refine wpAny_ite_false (decide_eq_false (by rw [c1]; exact Bool.false_ne_true)) ?_; wp_walk using wpAny_loadPart' hl)
      | (refine wpAny_ite_true (decide_eq_true c2) ?_; wp_walk using wpAny_loadPart' hl))
    exact ⟨_, rfl, h⟩
section
variable {X : Cx}
def rRepA (K : PySem.W.Frag) : R2 := fun x y H Q => ∃ l k xs, x = .ref l ∧ y = .int k ∧ SqT K H l xs ∧ xs.length * k.toNat ≤ sizeLine ∧ -(2 ^ 62) < k ∧ k < 2 ^ 62 ∧
  ((xs = [] ∨ k = 1) → Q (.ref l) H) ∧ (¬ (xs = [] ∨ k = 1) → ∀ p, H p = none → Q (.ref p) (upd H p (.tup (List.replicate k.toNat xs).flatten)))
theorem op_repA : OpR X (binaryOp .Mult) (rRepA X.K) := by
  intro pins s σ H x y v u Q I rx ry h
  obtain ⟨l, k, xs, rfl, rfl, hT, hz, h1, h2, q1, q2⟩ := h
  cases rx
  obtain ⟨t, rfl⟩ := ry
  obtain ⟨its, r, ⟨⟨cls, dd, data, sl⟩, ho, hc, n, hd⟩, hs⟩ := I.tuple hT
  simp only at hc hd
  subst hc hd
  have hle : its.length = xs.length := r.length.symm
  have c0 : (decide (k < -(2 ^ 63)) || decide (k ≥ 2 ^ 63)) = false := by
    rw [decide_eq_false (by omega), decide_eq_false (by omega)] <;> rfl
  have hemp : its.toArray.isEmpty = decide (xs = []) := by
    cases its with
    | nil =>
      have : xs = [] := List.eq_nil_of_length_eq_zero (by simpa using hle.symm)
      simp [this]
    | cons a b =>
      have : xs ≠ [] := fun e => by rw [e] at hle; simp at hle
      simp [this]
  by_cases hw : xs = [] ∨ k = 1
  · have c1 : (its.toArray.isEmpty || k == 1) = true := by
      rw [hemp]
      rcases hw with e | e <;> simp [e]
    exact wpAny_binaryOp_repeat_ref (T := "tuple") (U := "int") (by decide) ⟨_, ho, rfl⟩ (fun s' => typeIs_int s' k t) noFill_tuple_mul F.fills_int_mul F.slot_int_rmul repeat_tuple F.slot_int_index.lookup
      (call_meets F.slot_int_rmul (typeIs_int s k t) F.entry_int_rmul (F.args_int_rmul_2 _ _) (int_rmul_tuple k t l its.toArray n dd sl)
        ⟨ho, rfl, ⟨_, ho, rfl⟩, call_meets F.slot_tuple_mul ⟨_, ho, rfl⟩ F.entry_tuple_mul (F.args_tuple_mul_2 _ _) (tuple_mul1 l its.toArray n dd sl k t c0 c1) ⟨ho, ⟨.ref l, H, I, rfl, q1 hw⟩⟩⟩)
  · have hne : xs ≠ [] := fun e => hw (.inl e)
    have hk1 : k ≠ 1 := fun e => hw (.inr e)
    have hi : its.toArray.isEmpty = false := by rw [hemp]; exact decide_eq_false hne
    have c1 : (its.toArray.isEmpty || k == 1) = false := by
      rw [hi, Bool.false_or]
      exact beq_eq_false_iff_ne.mpr hk1
    by_cases h0 : k ≤ 0
    · have c2 : (decide (k ≤ 0) || its.toArray.isEmpty) = true := by rw [decide_eq_true h0]; rfl
      refine wpAny_binaryOp_repeat_ref (T := "tuple") (U := "int") (by decide) ⟨_, ho, rfl⟩ (fun s' => typeIs_int s' k t) noFill_tuple_mul F.fills_int_mul F.slot_int_rmul repeat_tuple F.slot_int_index.lookup
        (call_meets F.slot_int_rmul (typeIs_int s k t) F.entry_int_rmul (F.args_int_rmul_2 _ _) (int_rmul_tuple k t l its.toArray n dd sl)
          ⟨ho, rfl, ⟨_, ho, rfl⟩, call_meets F.slot_tuple_mul ⟨_, ho, rfl⟩ F.entry_tuple_mul (F.args_tuple_mul_2 _ _) (tuple_mul0 l its.toArray n dd sl k t c0 c1 c2) ⟨ho, ?_⟩⟩)
      have e0 : k.toNat = 0 := by omega
      have q3 := q2 hw _ (I.hok.fresh (Nat.le_refl _))
      rw [e0] at q3
      refine ⟨.ref s.heap.objs.size, _, I.laid (t' := s.toks) (o := .tup []) (fun b ob q => Heap.get?_push_of_some _ q) (Nat.le_refl _) ?_, rfl, q3⟩
      exact ⟨Nat.zero_le _, [], .nil, IsTup.new _ _⟩
    · have h0' : 0 < k := by omega
      have flen : (List.replicate k.toNat its).flatten.length ≤ sizeLine := by
        rw [PyProof.Rows.lm_len_rep_flat, hle, Nat.mul_comm]
        exact hz
      have hm : ((its.toArray.size : Nat) : Int) * k ≤ (sizeLine : Nat) := by
        have : ((its.toArray.size : Nat) : Int) * k = ((xs.length * k.toNat : Nat) : Int) := by
          rw [List.size_toArray, hle, Int.natCast_mul, Int.toNat_of_nonneg (by omega)]
        rw [this]
        exact Int.ofNat_le.mpr hz
      rw [sizeLine_eq] at hm
      have c2 : (decide (k ≤ 0) || its.toArray.isEmpty) = false := by
        rw [hi, Bool.or_false]
        exact decide_eq_false h0
      have c4 : Builtin.Tuple.tupleTooMany (((its.toArray.size : Nat) : Int) * k) = false := by
        unfold Builtin.Tuple.tupleTooMany
        rw [sizeLine_eq]
        exact decide_eq_false (by omega)
      refine wpAny_binaryOp_repeat_ref (T := "tuple") (U := "int") (by decide) ⟨_, ho, rfl⟩ (fun s' => typeIs_int s' k t) noFill_tuple_mul F.fills_int_mul F.slot_int_rmul repeat_tuple F.slot_int_index.lookup
        (call_meets F.slot_int_rmul (typeIs_int s k t) F.entry_int_rmul (F.args_int_rmul_2 _ _) (int_rmul_tuple k t l its.toArray n dd sl)
          ⟨ho, rfl, ⟨_, ho, rfl⟩, call_meets F.slot_tuple_mul ⟨_, ho, rfl⟩ F.entry_tuple_mul (F.args_tuple_mul_2 _ _) (tuple_mulW l its.toArray n dd sl k t c0 c1 c2 (by omega) c4 (by rw [size_rep, List.size_toArray]; exact flen)) ⟨ho, ?_⟩⟩)
      rw [size_rep]
      refine ⟨.ref s.heap.objs.size, _, I.laid (t' := s.toks) (o := .tup (List.replicate k.toNat xs).flatten) (fun b ob q => Heap.get?_push_of_some _ q) (Nat.le_refl _) ?_, rfl, q2 hw _ (I.hok.fresh (Nat.le_refl _))⟩
      exact ⟨by rw [PyProof.Rows.lm_len_rep_flat, Nat.mul_comm]; exact hz, _, r.rep k.toNat, IsTup.new _ _⟩
/-- list + list, list * int, of lists that are read -/
def rCatR (K : PySem.W.Frag) : R2 := fun x y H Q => ∃ l b xs zs, x = .ref l ∧ y = .ref b ∧ RdK K H l xs ∧ RdK K H b zs ∧ xs.length + zs.length ≤ sizeLine ∧ ∀ p, H p = none → Q (.ref p) (upd H p (.lst (xs ++ zs)))
theorem op_catR : OpR X (binaryOp .Add) (rCatR X.K) := by
  intro pins s σ H x y v u Q I rx ry h
  obtain ⟨l, b, xs, zs, rfl, rfl, hH, hB, hz, q⟩ := h
  cases rx
  cases ry
  obtain ⟨z, its, n, r, hl, e⟩ := Inv.lstR I hH
  obtain ⟨z2, its2, n2, r2, hl2, e2⟩ := Inv.lstR I hB
  refine PySem.P.add_list e e2 ?_ (by rw [List.size_toArray, List.size_toArray]; omega)
  have ea : its.toArray ++ its2.toArray = (its ++ its2).toArray := by simp
  rw [ea]
  exact ⟨.ref _, _, I.lnew (t' := s.toks) (r.append r2) (by rw [List.length_append]; omega), rfl, q _ I.fresh⟩
def rRepR (K : PySem.W.Frag) : R2 := fun x y H Q => ∃ l k xs, x = .ref l ∧ y = .int k ∧ RdK K H l xs ∧ -(2 ^ 63) ≤ k ∧ k < 2 ^ 63 ∧ xs.length * k.toNat ≤ sizeLine ∧
  ∀ p, H p = none → Q (.ref p) (upd H p (.lst (List.replicate k.toNat xs).flatten))
theorem op_repR : OpR X (binaryOp .Mult) (rRepR X.K) := by
  intro pins s σ H x y v u Q I rx ry h
  obtain ⟨l, k, xs, rfl, rfl, hH, h1, h2, hz, q⟩ := h
  cases rx
  obtain ⟨t, rfl⟩ := ry
  obtain ⟨z, its, n, r, hl, e⟩ := Inv.lstR I hH
  have hlen : its.toArray.size * k.toNat ≤ sizeLine := by rw [List.size_toArray, ← hl]; exact hz
  have hcap : ¬ its.toArray.size * k.toNat > (2 ^ 63 - 1) / 8 := by
    have : (sizeLine : Nat) ≤ (2 ^ 63 - 1) / 8 := by decide
    omega
  have hfit : ¬ (!Builtin.List.listFitsIndex k) = true := by
    rw [fitsIndex_both h1 h2]
    exact Bool.false_ne_true
  have hlong : ¬ Builtin.List.listTooLong (its.toArray.size * k.toNat) = true := by
    rw [notLongL hlen]
    exact Bool.false_ne_true
  have hnew : List.foldl (fun x1 x2 => x1 ++ x2) #[] (List.replicate (if its.toArray.isEmpty = true then 0 else k.toNat) its.toArray) = (List.replicate k.toNat its).flatten.toArray := by
    have f0 : ∀ m : Nat, List.foldl (fun x1 x2 => x1 ++ x2) #[] (List.replicate m its.toArray) = (List.replicate m its).flatten.toArray := fun m => by
      have := foldl_rep its m []
      rw [List.nil_append] at this
      exact this
    rw [f0]
    cases its with
    | nil => simp
    | cons a r' => rw [if_neg (by simp)]
  refine wpAny_binaryOp_repeat_ref (T := "list") (U := "int") (by decide) ⟨_, e, rfl⟩ (fun s' => typeIs_int s' k t) noFill_list_mul F.fills_int_mul F.slot_int_rmul repeat_list F.slot_int_index.lookup
    (call_meets F.slot_int_rmul (typeIs_int s k t) F.entry_int_rmul (F.args_int_rmul_2 _ _) (int___rmul___int_list k t l its.toArray n)
      ⟨e, rfl, ⟨_, e, rfl⟩, call_meets F.slot_list_mul ⟨_, e, rfl⟩ F.entry_list_mul (F.args_list_mul_2 _ _) (AutoListH.list___mul___list_int_3 l its.toArray n k t hfit hcap hlong) ⟨e, ?_⟩⟩)
  rw [hnew]
  exact ⟨.ref _, _, I.lnew (t' := s.toks) (r.rep k.toNat) (by rw [PyProof.Rows.lm_len_rep_flat, Nat.mul_comm]; exact hz), rfl, q _ I.fresh⟩
/-- text * int -/
theorem op_repS : OpR X (binaryOp .Mult) (fun x y H Q => ∃ z k, x = .str (toS z) ∧ y = .int k ∧ z.length * k.toNat ≤ sizeLine ∧ -(2 ^ 62) < k ∧ k < 2 ^ 62 ∧ Q (.str (toS (List.replicate k.toNat z).flatten)) H) := by
  intro pins s σ H x y v u Q I rx ry h
  obtain ⟨z, k, rfl, rfl, hz, h1, h2, q⟩ := h
  obtain ⟨t, rfl⟩ := rx
  obtain ⟨t', rfl⟩ := ry
  have hl : (toS z).length = z.length := toS_len z
  have fin : ∀ (w : Str) (tk : Tok) (s' : Shared), Inv X pins σ H s' → w = toS (List.replicate k.toNat z).flatten → EP X pins σ Q (.str w tk) s' := fun w tk s' I' e => by
    subst e
    exact ⟨.str (toS (List.replicate k.toNat z).flatten), H, I', ⟨tk, rfl⟩, q⟩
  have rep : ∀ m : Nat, (⟨(List.replicate m (toS z).cps).foldl (· ++ ·) #[]⟩ : Str) = toS (List.replicate m z).flatten := fun m => by
    have aux : ∀ (m : Nat) (acc : List Nat), List.foldl (fun (x1 x2 : Array Nat) => x1 ++ x2) acc.toArray (List.replicate m z.toArray) = (acc ++ (List.replicate m z).flatten).toArray := by
      intro m
      induction m with
      | zero => intro acc; simp
      | succ m ih =>
        intro acc
        rw [List.replicate_succ, List.foldl_cons, List.append_toArray, ih, List.replicate_succ, List.flatten_cons, List.append_assoc]
    have := aux m []
    rw [List.nil_append] at this
    show (⟨List.foldl (fun (x1 x2 : Array Nat) => x1 ++ x2) #[] (List.replicate m z.toArray)⟩ : Str) = _
    rw [this]
    rfl
  refine PySem.P.mul_str (by rw [decide_eq_false (by omega), decide_eq_false (by omega)] <;> rfl) (fun hk he => ?_) (fun hk he => ?_) ?_
  · rw [hl]
    have hk' : 0 < k := by omega
    have e1 : ((z.length : Nat) : Int) * k ≤ (sizeLine : Nat) := by
      have : ((z.length : Nat) : Int) * k = ((z.length * k.toNat : Nat) : Int) := by rw [Int.natCast_mul, Int.toNat_of_nonneg (by omega)]
      rw [this]
      exact Int.ofNat_le.mpr hz
    rw [sizeLine_eq] at e1
    intro hgt
    have h3 : (2 ^ 63 - 1) / k < (z.length : Int) := hgt
    have h4 := (Int.ediv_lt_iff_lt_mul hk').mp h3
    omega
  · rw [hl]
    unfold Builtin.Str.tooLong
    first
      | exact decide_eq_false (by omega)
      | (simp only [decide_eq_false_iff_not]; omega)
  · by_cases hk : k < 1
    · rw [if_pos hk]
      have e0 : k.toNat = 0 := by omega
      exact ⟨by show Str.empty.length ≤ _; exact Nat.zero_le _, fin _ _ _ (I.tok _) (by rw [e0]; rfl)⟩
    · rw [if_neg hk]
      by_cases he : (k == 1 || (toS z).length == 0) = true
      · rw [if_pos he]
        refine fin _ _ _ I ?_
        rw [Bool.or_eq_true] at he
        rcases he with e | e
        · have e1 : k = 1 := by simpa using e
          subst e1
          show toS z = toS (List.replicate 1 z).flatten
          simp
        · have e1 : z = [] := by
            rw [hl] at e
            exact List.eq_nil_of_length_eq_zero (by simpa using e)
          subst e1
          have : ∀ m : Nat, (List.replicate m ([] : List Nat)).flatten = [] := fun m => by
            induction m with
            | zero => rfl
            | succ m ih => rw [List.replicate_succ, List.flatten_cons, ih]; rfl
          rw [this]
      · rw [if_neg he, rep]
        refine ⟨?_, fin _ _ _ (I.tok _) rfl⟩
        show (toS (List.replicate k.toNat z).flatten).length ≤ _
        rw [toS_len, PyProof.Rows.lm_len_rep_flat, Nat.mul_comm]
        exact hz
end

/-! ### the operators of the language -/
def opOf : BOp → Operator
  | .add => .Add | .sub => .Sub | .mul => .Mult | .fdiv => .FloorDiv | .mod => .Mod | .pow => .Pow
section
variable {X : Cx} {K : PySem.W.Frag}
theorem nil_repl {α : Type} : ∀ m : Nat, (List.replicate m ([] : List α)).flatten = []
  | 0 => rfl
  | m + 1 => by rw [List.replicate_succ, List.flatten_cons, nil_repl m]; rfl
theorem op_add (hK : K = X.K) : OpR X (binaryOp .Add) (rB K (binD .add)) := by
  subst hK
  intro pins s σ H x y v u Q I rx ry h
  obtain ⟨ρ, S, a, b, d, hs, ra, rb, hf, q⟩ := h
  cases a <;> cases b <;> first | (simp [binD] at hf; done) | skip
  case int.int i j =>
    simp only [binD, Option.some.injEq] at hf
    subst hf
    exact L2.op_add pins s σ H x y v u Q I rx ry ⟨i, j, ra.int_inv, rb.int_inv, q.int⟩
  case str.str i j =>
    simp only [binD] at hf
    split at hf
    · rename_i hl
      cases hf
      exact op_add_str pins s σ H x y v u Q I rx ry ⟨_, _, ra.str_inv, rb.str_inv, by rw [toS_len, toS_len]; exact hl, by rw [toS_app]; exact q.str⟩
    · cases hf
  case tup.tup xs ys =>
    simp only [binD] at hf
    split at hf
    · rename_i hl
      cases hf
      obtain ⟨a, vs, e1, t1, r1⟩ := ra.tup_inv
      obtain ⟨b, ws, e2, t2, r2⟩ := rb.tup_inv
      refine op_catA pins s σ H x y v u Q I rx ry ⟨a, b, vs, ws, e1, e2, t1, t2, by rw [r1.length, r2.length]; exact hl, fun z => ?_, fun _ z => ?_, fun _ _ => ?_⟩
      · refine q.same (.tup t2 ?_)
        rw [r1.nil_of z]
        exact r2
      · refine q.same (.tup t1 ?_)
        rw [r2.nil_of z, List.append_nil]
        exact r1
      · exact q.tup hs (r1.app r2)
    · cases hf
  case lst.lst xs ys =>
    simp only [binD] at hf
    split at hf
    · rename_i hl
      cases hf
      obtain ⟨a, vs, e1, t1, r1⟩ := ra.lst_rd
      obtain ⟨b, ws, e2, t2, r2⟩ := rb.lst_rd
      exact thn (op_catR pins s σ H x y v u (Fzn Q) I rx ry ⟨a, b, vs, ws, e1, e2, t1, t2, by rw [r1.length, r2.length]; exact hl, q.lst hs (r1.app r2)⟩) fun _ _ e => EP.fz e
    · cases hf
theorem op_sub' (hK : K = X.K) : OpR X (binaryOp .Sub) (rB K (binD .sub)) := by
  subst hK
  intro pins s σ H x y v u Q I rx ry h
  obtain ⟨ρ, S, a, b, d, hs, ra, rb, hf, q⟩ := h
  cases a <;> cases b <;> first | (simp [binD] at hf; done) | skip
  case int.int i j =>
    simp only [binD, Option.some.injEq] at hf
    subst hf
    exact L2.op_sub pins s σ H x y v u Q I rx ry ⟨i, j, ra.int_inv, rb.int_inv, q.int⟩
theorem natAbs_bounds {i : Int} (h : i.natAbs < 2 ^ 64) : -(2 ^ 64) < i ∧ i < 2 ^ 64 := by omega
theorem op_mul' (hK : K = X.K) : OpR X (binaryOp .Mult) (rB K (binD .mul)) := by
  subst hK
  intro pins s σ H x y v u Q I rx ry h
  obtain ⟨ρ, S, a, b, d, hs, ra, rb, hf, q⟩ := h
  cases a <;> cases b <;> first | (simp [binD] at hf; done) | skip
  case int.int i j =>
    simp only [binD] at hf
    split at hf
    · rename_i hl
      cases hf
      unfold mulFits at hl
      rw [Bool.or_eq_true, Bool.or_eq_true, decide_eq_true_eq, decide_eq_true_eq, decide_eq_true_eq] at hl
      rcases hl with (hl | hl) | hl
      · exact L2.op_mul pins s σ H x y v u Q I rx ry ⟨i, j, ra.int_inv, rb.int_inv, .inl (natAbs_bounds hl), q.int⟩
      · exact L2.op_mul pins s σ H x y v u Q I rx ry ⟨i, j, ra.int_inv, rb.int_inv, .inr (natAbs_bounds hl), q.int⟩
      · exact op_mulW pins s σ H x y v u Q I rx ry ⟨i, j, ra.int_inv, rb.int_inv, hl, q.int⟩
    · cases hf
  case str.int z k =>
    simp only [binD] at hf
    split at hf
    · rename_i hl
      cases hf
      exact op_repS pins s σ H x y v u Q I rx ry ⟨z, k, ra.str_inv, rb.int_inv, hl.1, hl.2.2, hl.2.1, q.str⟩
    · cases hf
  case tup.int xs k =>
    simp only [binD] at hf
    split at hf
    · rename_i hl
      cases hf
      obtain ⟨a, vs, e1, t1, r1⟩ := ra.tup_inv
      refine op_repA pins s σ H x y v u Q I rx ry ⟨a, k, vs, e1, rb.int_inv, t1, by rw [r1.length]; exact hl.1, hl.2.2, hl.2.1, fun z => q.same (.tup t1 ?_), fun _ => q.tup hs (r1.repl _)⟩
      rcases z with z | z
      · subst z
        have e : xs = [] := r1.nil_of rfl
        subst e
        rw [nil_repl]
        exact .nil
      · subst z
        show Reps X.K ρ H vs (List.replicate 1 xs).flatten
        simpa using r1
    · cases hf
  case lst.int xs k =>
    simp only [binD] at hf
    split at hf
    · rename_i hl
      cases hf
      obtain ⟨a, vs, e1, t1, r1⟩ := ra.lst_rd
      exact thn (op_repR pins s σ H x y v u (Fzn Q) I rx ry ⟨a, k, vs, e1, rb.int_inv, t1, by omega, by omega, by rw [r1.length]; exact hl.1, q.lst hs (r1.repl _)⟩) fun _ _ e => EP.fz e
    · cases hf
theorem op_fdiv' (hK : K = X.K) : OpR X (binaryOp .FloorDiv) (rB K (binD .fdiv)) := by
  subst hK
  intro pins s σ H x y v u Q I rx ry h
  obtain ⟨ρ, S, a, b, d, hs, ra, rb, hf, q⟩ := h
  cases a <;> cases b <;> first | (simp [binD] at hf; done) | skip
  case int.int i j =>
    simp only [binD] at hf
    split at hf
    · rename_i hl
      cases hf
      exact op_fdivW pins s σ H x y v u Q I rx ry ⟨i, j, ra.int_inv, rb.int_inv, hl, q.int⟩
    · cases hf
theorem op_mod' (hK : K = X.K) : OpR X (binaryOp .Mod) (rB K (binD .mod)) := by
  subst hK
  intro pins s σ H x y v u Q I rx ry h
  obtain ⟨ρ, S, a, b, d, hs, ra, rb, hf, q⟩ := h
  cases a <;> cases b <;> first | (simp [binD] at hf; done) | skip
  case int.int i j =>
    simp only [binD] at hf
    split at hf
    · rename_i hl
      cases hf
      exact L2.op_mod pins s σ H x y v u Q I rx ry ⟨i, j, ra.int_inv, rb.int_inv, hl, q.int⟩
    · cases hf
theorem op_pow' (hK : K = X.K) : OpR X (binaryOp .Pow) (rB K (binD .pow)) := by
  subst hK
  intro pins s σ H x y v u Q I rx ry h
  obtain ⟨ρ, S, a, b, d, hs, ra, rb, hf, q⟩ := h
  cases a <;> cases b <;> first | (simp [binD] at hf; done) | skip
  case int.int i j =>
    simp only [binD] at hf
    split at hf
    · rename_i hl
      cases hf
      exact L2.op_pow pins s σ H x y v u Q I rx ry ⟨i, j, ra.int_inv, rb.int_inv, hl, q.int⟩
    · cases hf
theorem op_bin (hK : K = X.K) (op : BOp) : OpR X (binaryOp (opOf op)) (rB K (binD op)) := by
  cases op
  · exact op_add hK
  · exact op_sub' hK
  · exact op_mul' hK
  · exact op_fdiv' hK
  · exact op_mod' hK
  · exact op_pow' hK
end
end MP
end
section
set_option Elab.async false
set_option linter.all false
set_option maxRecDepth 100000
set_option maxHeartbeats 2000000
/-! MPC: comparisons. -/
namespace MP
open PySem PySem.Spec PyProof.Rows L2

/-! ### data -/
section
variable {K : PySem.W.Frag} {ρ : List Addr} {H : Hp}
mutual
theorem Rep.dp : ∀ (d : D) (n : Nat) (v : V), D.shp n d = true → Rep K ρ H v d → Dp K H v d.py
  | .non, _, _, _, r => by cases r; exact .non
  | .bl b, _, _, _, r => by cases r; exact .bl b
  | .int i, _, _, _, r => by cases r; exact .int i
  | .str s, _, _, _, r => by cases r; exact .str _
  | .tup ds, 0, _, h, r => by
    cases r with
    | tup h1 h2 =>
      have : ds = [] := by simpa [D.shp] using h
      subst this
      cases h2
      exact .tup h1 .nil
  | .tup ds, n + 1, _, h, r => by
    cases r with
    | tup h1 h2 => exact .tup h1 (Reps.dp ds n _ (by simpa [D.shp] using h) h2)
  | .lst ds, 0, _, h, r => by
    cases r with
    | lst h1 h2 =>
      have : ds = [] := by simpa [D.shp] using h
      subst this
      cases h2
      exact .lst h1.sql .nil
  | .lst ds, n + 1, _, h, r => by
    cases r with
    | lst h1 h2 => exact .lst h1.sql (Reps.dp ds n _ (by simpa [D.shp] using h) h2)
  | .ref _, n, _, h, _ => by cases n <;> simp [D.shp] at h
theorem Reps.dp : ∀ (ds : List D) (n : Nat) (vs : List V), D.shps n ds = true → Reps K ρ H vs ds → DpAll K H vs (D.pys ds)
  | [], _, _, _, r => by cases r; exact .nil
  | d :: ds, n, _, h, r => by
    rw [D.shps, Bool.and_eq_true] at h
    cases r with
    | cons h1 h2 => exact .cons (Rep.dp d n _ h.1 h1) (Reps.dp ds n _ h.2 h2)
end
theorem RepV.dp {d : D} {v : V} (n : Nat) (h : D.shp n d = true) (r : RepV K ρ H v d) : Dp K H v d.py := by
  rcases r with r | ⟨a, xs, ds, rfl, rfl, h3, h4⟩
  · exact r.dp d n v h
  · cases n with
    | zero =>
      have : ds = [] := by simpa [D.shp] using h
      subst this
      cases h4
      exact .lst (.of h3) .nil
    | succ n => exact .lst (.of h3) (Reps.dp ds n _ (by simpa [D.shp] using h) h4)
end
mutual
theorem shp_can : ∀ (d : D) (n : Nat), D.shp n d = true → PyData.canLay0 d.py = true ∧ PyData.depth d.py ≤ n + 1
  | .non, _, _ => ⟨rfl, Nat.zero_le _⟩
  | .bl b, _, _ => ⟨rfl, Nat.zero_le _⟩
  | .int i, _, _ => ⟨rfl, Nat.zero_le _⟩
  | .str s, n, h => by
    refine ⟨?_, Nat.zero_le _⟩
    have h' : s.all (· < 0x110000) = true := by cases n <;> exact h
    show PyData.strOk ⟨s.toArray⟩ = true
    unfold PyData.strOk
    show s.toArray.all (· < 0x110000) = true
    simpa using h'
  | .tup ds, 0, h => by
    have : ds = [] := by simpa [D.shp] using h
    subst this
    exact ⟨rfl, Nat.le_refl _⟩
  | .tup ds, n + 1, h => by
    obtain ⟨h1, h2⟩ := shps_can ds n (by simpa [D.shp] using h)
    exact ⟨by simp only [D.py, PyData.canLay0]; exact h1, by simp only [D.py, PyData.depth]; omega⟩
  | .lst ds, 0, h => by
    have : ds = [] := by simpa [D.shp] using h
    subst this
    exact ⟨rfl, Nat.le_refl _⟩
  | .lst ds, n + 1, h => by
    obtain ⟨h1, h2⟩ := shps_can ds n (by simpa [D.shp] using h)
    exact ⟨by simp only [D.py, PyData.canLay0]; exact h1, by simp only [D.py, PyData.depth]; omega⟩
  | .ref _, n, h => by cases n <;> simp [D.shp] at h
theorem shps_can : ∀ (ds : List D) (n : Nat), D.shps n ds = true → PyData.canLayAll0 (D.pys ds) = true ∧ PyData.depthAll (D.pys ds) ≤ n + 1
  | [], _, _ => ⟨rfl, Nat.zero_le _⟩
  | d :: ds, n, h => by
    rw [D.shps, Bool.and_eq_true] at h
    obtain ⟨h1, h2⟩ := shp_can d n h.1
    obtain ⟨h3, h4⟩ := shps_can ds n h.2
    refine ⟨by simp only [D.pys, PyData.canLayAll0, h1, h3, Bool.and_self], ?_⟩
    simp only [D.pys, PyData.depthAll]
    omega
end
theorem shp_shaped {d : D} {n : Nat} (h : D.shp n d = true) (hn : n ≤ 63) : SeqAt.shaped d.py = true := by
  obtain ⟨h1, h2⟩ := shp_can d n h
  unfold SeqAt.shaped
  rw [h1, decide_eq_true (by omega : PyData.depth d.py ≤ 64)]
  rfl
theorem toS_inj {x y : List Nat} : (toS x == toS y) = decide (x = y) := by
  by_cases h : x = y
  · subst h; simp
  · rw [decide_eq_false h]
    have : ¬ toS x = toS y := fun e => h (by
      have := congrArg (fun z : Str => z.cps.toList) e
      simpa [toS] using this)
    exact beq_eq_false_iff_ne.mpr this
mutual
theorem eqv_py : ∀ (a b : D) (n m : Nat), D.shp n a = true → D.shp m b = true → PyData.eqv a.py b.py = eqv a b
  | .non, b, n, m, h1, h2 => by cases b <;> first | rfl | (cases m <;> simp [D.shp] at h2)
  | .bl x, b, n, m, h1, h2 => by cases b <;> first | rfl | (cases m <;> simp [D.shp] at h2)
  | .int x, b, n, m, h1, h2 => by cases b <;> first | rfl | (cases m <;> simp [D.shp] at h2)
  | .str x, b, n, m, h1, h2 => by
    cases b <;> first | rfl | (cases m <;> simp [D.shp] at h2; done) | skip
    simp only [D.py, PyData.eqv, eqv]
    exact toS_inj
  | .ref _, _, n, _, h1, _ => by cases n <;> simp [D.shp] at h1
  | .tup xs, b, n, m, h1, h2 => by
    cases b <;> first | rfl | (cases m <;> simp [D.shp] at h2; done) | skip
    rename_i ys
    simp only [D.py, PyData.eqv, eqv]
    have g1 : D.shps (n - 1) xs = true := by
      cases n with
      | zero =>
        have : xs = [] := by simpa [D.shp] using h1
        subst this
        rfl
      | succ n => simpa [D.shp] using h1
    have g2 : D.shps (m - 1) ys = true := by
      cases m with
      | zero =>
        have : ys = [] := by simpa [D.shp] using h2
        subst this
        rfl
      | succ m => simpa [D.shp] using h2
    exact eqvs_py xs ys _ _ g1 g2
  | .lst xs, b, n, m, h1, h2 => by
    cases b <;> first | rfl | (cases m <;> simp [D.shp] at h2; done) | skip
    rename_i ys
    simp only [D.py, PyData.eqv, eqv]
    have g1 : D.shps (n - 1) xs = true := by
      cases n with
      | zero =>
        have : xs = [] := by simpa [D.shp] using h1
        subst this
        rfl
      | succ n => simpa [D.shp] using h1
    have g2 : D.shps (m - 1) ys = true := by
      cases m with
      | zero =>
        have : ys = [] := by simpa [D.shp] using h2
        subst this
        rfl
      | succ m => simpa [D.shp] using h2
    exact eqvs_py xs ys _ _ g1 g2
theorem eqvs_py : ∀ (a b : List D) (n m : Nat), D.shps n a = true → D.shps m b = true → PyData.eqvAll (D.pys a) (D.pys b) = eqvs a b
  | [], b, _, _, _, _ => by cases b <;> rfl
  | x :: xs, [], _, _, _, _ => rfl
  | x :: xs, y :: ys, n, m, h1, h2 => by
    rw [D.shps, Bool.and_eq_true] at h1 h2
    simp only [D.pys, PyData.eqvAll, eqvs]
    rw [eqv_py x y n m h1.1 h2.1, eqvs_py xs ys n m h1.2 h2.2]
end
theorem pys_any (a : D) (n m : Nat) (ha : D.shp n a = true) : ∀ ys : List D, D.shps m ys = true → ((D.pys ys).any fun z => PyData.eqv z a.py) = ys.any fun z => eqv z a
  | [], _ => rfl
  | y :: ys, h => by
    rw [D.shps, Bool.and_eq_true] at h
    simp only [D.pys, List.any_cons]
    rw [eqv_py y a m n h.1 ha, pys_any a n m ha ys h.2]
theorem shps_shp {n : Nat} {ys : List D} (h : D.shps n ys = true) : D.shp (n + 1) (.lst ys) = true ∧ D.shp (n + 1) (.tup ys) = true := ⟨by simpa [D.shp] using h, by simpa [D.shp] using h⟩

/-! ### the comparisons of the language -/
def copOf : COp → CmpOp
  | .eq => .Eq | .ne => .NotEq | .lt => .Lt | .le => .LtE | .gt => .Gt | .ge => .GtE | .isN => .Is | .notN => .IsNot | .mem => .In | .notMem => .NotIn
def rC (K : PySem.W.Frag) (f : D → D → Option Bool) : R2 := fun x y H Q => ∃ ρ S a b c, HS K ρ H S ∧ RepV K ρ H x a ∧ RepV K ρ H y b ∧ f a b = some c ∧ Q (.bl c) H
section
variable {X : Cx} {K : PySem.W.Frag}
theorem cmp_eq (hK : K = X.K) (hu : X.A.units + 64 < cLine) : OpR X (compareOp .Eq) (rC K (cmpD .eq)) := by
  subst hK
  intro pins s σ H x y v u Q I rx ry h
  obtain ⟨ρ, S, a, b, c, hs, ra, rb, hf, q⟩ := h
  simp only [cmpD, eqD] at hf
  split at hf
  · rename_i hsh
    rw [Bool.and_eq_true] at hsh
    cases hf
    exact op_eqD hu pins s σ H x y v u Q I rx ry ⟨_, _, ra.dp 60 hsh.1, rb.dp 60 hsh.2, shp_shaped hsh.1 (by decide), shp_shaped hsh.2 (by decide), by rw [eqv_py a b 60 60 hsh.1 hsh.2]; exact q⟩
  · cases hf
theorem cmp_ne (hK : K = X.K) (hu : X.A.units + 64 < cLine) : OpR X (compareOp .NotEq) (rC K (cmpD .ne)) := by
  subst hK
  intro pins s σ H x y v u Q I rx ry h
  obtain ⟨ρ, S, a, b, c, hs, ra, rb, hf, q⟩ := h
  simp only [cmpD, eqD] at hf
  split at hf
  · rename_i hsh
    rw [Bool.and_eq_true] at hsh
    simp only [Option.map_some, Option.some.injEq] at hf
    subst hf
    exact op_neD hu pins s σ H x y v u Q I rx ry ⟨_, _, ra.dp 60 hsh.1, rb.dp 60 hsh.2, shp_shaped hsh.1 (by decide), shp_shaped hsh.2 (by decide), by rw [eqv_py a b 60 60 hsh.1 hsh.2]; exact q⟩
  · cases hf
theorem cmp_lt (hK : K = X.K) : OpR X (compareOp .Lt) (rC K (cmpD .lt)) := by
  subst hK
  intro pins s σ H x y v u Q I rx ry h
  obtain ⟨ρ, S, a, b, c, hs, ra, rb, hf, q⟩ := h
  cases a <;> cases b <;> first | (simp [cmpD] at hf; done) | skip
  case int.int i j =>
    simp only [cmpD, Option.some.injEq] at hf
    subst hf
    exact L2.op_lt pins s σ H x y v u Q I rx ry ⟨i, j, ra.int_inv, rb.int_inv, q⟩
  case str.str i j =>
    simp only [cmpD, Option.some.injEq] at hf
    subst hf
    exact L2.op_lt_str pins s σ H x y v u Q I rx ry ⟨_, _, ra.str_inv, rb.str_inv, q⟩
theorem cmp_le (hK : K = X.K) : OpR X (compareOp .LtE) (rC K (cmpD .le)) := by
  subst hK
  intro pins s σ H x y v u Q I rx ry h
  obtain ⟨ρ, S, a, b, c, hs, ra, rb, hf, q⟩ := h
  cases a <;> cases b <;> first | (simp [cmpD] at hf; done) | skip
  case int.int i j =>
    simp only [cmpD, Option.some.injEq] at hf
    subst hf
    exact L2.op_le pins s σ H x y v u Q I rx ry ⟨i, j, ra.int_inv, rb.int_inv, q⟩
  case str.str i j =>
    simp only [cmpD, Option.some.injEq] at hf
    subst hf
    exact L2.op_le_str pins s σ H x y v u Q I rx ry ⟨_, _, ra.str_inv, rb.str_inv, q⟩
theorem cmp_gt (hK : K = X.K) : OpR X (compareOp .Gt) (rC K (cmpD .gt)) := by
  subst hK
  intro pins s σ H x y v u Q I rx ry h
  obtain ⟨ρ, S, a, b, c, hs, ra, rb, hf, q⟩ := h
  cases a <;> cases b <;> first | (simp [cmpD] at hf; done) | skip
  case int.int i j =>
    simp only [cmpD, Option.some.injEq] at hf
    subst hf
    exact L2.op_gt pins s σ H x y v u Q I rx ry ⟨i, j, ra.int_inv, rb.int_inv, q⟩
  case str.str i j =>
    simp only [cmpD, Option.some.injEq] at hf
    subst hf
    exact L2.op_gt_str pins s σ H x y v u Q I rx ry ⟨_, _, ra.str_inv, rb.str_inv, q⟩
theorem cmp_ge (hK : K = X.K) : OpR X (compareOp .GtE) (rC K (cmpD .ge)) := by
  subst hK
  intro pins s σ H x y v u Q I rx ry h
  obtain ⟨ρ, S, a, b, c, hs, ra, rb, hf, q⟩ := h
  cases a <;> cases b <;> first | (simp [cmpD] at hf; done) | skip
  case int.int i j =>
    simp only [cmpD, Option.some.injEq] at hf
    subst hf
    exact L2.op_ge pins s σ H x y v u Q I rx ry ⟨i, j, ra.int_inv, rb.int_inv, q⟩
  case str.str i j =>
    simp only [cmpD, Option.some.injEq] at hf
    subst hf
    exact L2.op_ge_str pins s σ H x y v u Q I rx ry ⟨_, _, ra.str_inv, rb.str_inv, q⟩
theorem RepV.non_iff {ρ : List Addr} {H : Hp} {x : V} {a : D} (r : RepV K ρ H x a) : decide (x = V.non) = decide (a = D.non) := by
  rcases r with r | ⟨_, _, _, rfl, rfl, _⟩
  · cases r <;> simp
  · simp
theorem cmp_isN (hK : K = X.K) : OpR X (compareOp .Is) (rC K (cmpD .isN)) := by
  subst hK
  intro pins s σ H x y v u Q I rx ry h
  obtain ⟨ρ, S, a, b, c, hs, ra, rb, hf, q⟩ := h
  cases b <;> first | (simp [cmpD] at hf; done) | skip
  simp only [cmpD, Option.some.injEq] at hf
  subst hf
  exact op_isN pins s σ H x y v u Q I rx ry ⟨rb.non_inv, by rw [ra.non_iff]; exact q⟩
theorem cmp_notN (hK : K = X.K) : OpR X (compareOp .IsNot) (rC K (cmpD .notN)) := by
  subst hK
  intro pins s σ H x y v u Q I rx ry h
  obtain ⟨ρ, S, a, b, c, hs, ra, rb, hf, q⟩ := h
  cases b <;> first | (simp [cmpD] at hf; done) | skip
  simp only [cmpD, Option.some.injEq] at hf
  subst hf
  exact op_notN pins s σ H x y v u Q I rx ry ⟨rb.non_inv, by rw [ra.non_iff]; exact q⟩
theorem cmp_mem (hK : K = X.K) (hu : X.A.units + 65 < cLine) : OpR X (compareOp .In) (rC K (cmpD .mem)) := by
  subst hK
  intro pins s σ H x y v u Q I rx ry h
  obtain ⟨ρ, S, a, b, c, hs, ra, rb, hf, q⟩ := h
  cases b <;> first | (simp [cmpD] at hf; done) | skip
  case str ys =>
    cases a <;> first | (simp [cmpD] at hf; done) | skip
    rename_i xs
    match xs with
    | [] => simp [cmpD] at hf
    | _ :: _ :: _ => simp [cmpD] at hf
    | [z] =>
      simp only [cmpD, Option.some.injEq] at hf
      subst hf
      exact op_in_sign pins s σ H x y v u Q I rx ry ⟨z, _, ra.str_inv, rb.str_inv, q⟩
  case tup ys =>
    have hf' : (if (D.shp 60 a && D.shps 59 ys) = true then some (ys.any (eqv · a)) else none) = some c := by
      rw [← hf]
      cases a <;> first | rfl | (rename_i z; match z with | [] => rfl | [_] => rfl | _ :: _ :: _ => rfl)
    split at hf'
    · rename_i hsh
      rw [Bool.and_eq_true] at hsh
      cases hf'
      have d2 := rb.dp 60 (shps_shp hsh.2).2
      obtain ⟨as, r1⟩ := Dp.reads I a.py x v (ra.dp 60 hsh.1) rx
      obtain ⟨bs, r2⟩ := Dp.reads I (.tuple (D.pys ys)) y u d2 ry
      exact SeqAt.in_tuple_reads r2 r1 (SeqAt.canLay_of_shaped (shp_shaped (shps_shp hsh.2).2 (by decide))) (SeqAt.canLay_of_shaped (shp_shaped hsh.1 (by decide))) (room_in_shaped (shp_shaped hsh.1 (by decide)) hu) ⟨.bl _, H, I, rfl, by rw [pys_any a 60 59 hsh.1 ys hsh.2]; exact q⟩
    · cases hf'
  case lst ys =>
    have hf' : (if (D.shp 60 a && D.shps 59 ys) = true then some (ys.any (eqv · a)) else none) = some c := by
      rw [← hf]
      cases a <;> first | rfl | (rename_i z; match z with | [] => rfl | [_] => rfl | _ :: _ :: _ => rfl)
    split at hf'
    · rename_i hsh
      rw [Bool.and_eq_true] at hsh
      cases hf'
      have d2 := rb.dp 60 (shps_shp hsh.2).1
      obtain ⟨as, r1⟩ := Dp.reads I a.py x v (ra.dp 60 hsh.1) rx
      obtain ⟨bs, r2⟩ := Dp.reads I (.list (D.pys ys)) y u d2 ry
      exact SeqAt.in_list_reads r2 r1 (SeqAt.canLay_of_shaped (shp_shaped (shps_shp hsh.2).1 (by decide))) (SeqAt.canLay_of_shaped (shp_shaped hsh.1 (by decide))) (room_in_shaped (shp_shaped hsh.1 (by decide)) hu) ⟨.bl _, H, I, rfl, by rw [pys_any a 60 59 hsh.1 ys hsh.2]; exact q⟩
    · cases hf'
theorem cmp_notMem (hK : K = X.K) (hu : X.A.units + 65 < cLine) : OpR X (compareOp .NotIn) (rC K (cmpD .notMem)) := by
  subst hK
  intro pins s σ H x y v u Q I rx ry h
  obtain ⟨ρ, S, a, b, c, hs, ra, rb, hf, q⟩ := h
  cases b <;> first | (simp [cmpD] at hf; done) | skip
  case str ys =>
    cases a <;> first | (simp [cmpD] at hf; done) | skip
    rename_i xs
    match xs with
    | [] => simp [cmpD] at hf
    | _ :: _ :: _ => simp [cmpD] at hf
    | [z] =>
      simp only [cmpD, Option.some.injEq] at hf
      subst hf
      exact op_notIn_sign pins s σ H x y v u Q I rx ry ⟨z, _, ra.str_inv, rb.str_inv, q⟩
  case tup ys =>
    have hf' : (if (D.shp 60 a && D.shps 59 ys) = true then some (!ys.any (eqv · a)) else none) = some c := by
      rw [← hf]
      cases a <;> first | rfl | (rename_i z; match z with | [] => rfl | [_] => rfl | _ :: _ :: _ => rfl)
    split at hf'
    · rename_i hsh
      rw [Bool.and_eq_true] at hsh
      cases hf'
      have d2 := rb.dp 60 (shps_shp hsh.2).2
      obtain ⟨as, r1⟩ := Dp.reads I a.py x v (ra.dp 60 hsh.1) rx
      obtain ⟨bs, r2⟩ := Dp.reads I (.tuple (D.pys ys)) y u d2 ry
      exact SeqAt.notIn_tuple_reads r2 r1 (SeqAt.canLay_of_shaped (shp_shaped (shps_shp hsh.2).2 (by decide))) (SeqAt.canLay_of_shaped (shp_shaped hsh.1 (by decide))) (room_in_shaped (shp_shaped hsh.1 (by decide)) hu) ⟨.bl _, H, I, rfl, by rw [pys_any a 60 59 hsh.1 ys hsh.2]; exact q⟩
    · cases hf'
  case lst ys =>
    have hf' : (if (D.shp 60 a && D.shps 59 ys) = true then some (!ys.any (eqv · a)) else none) = some c := by
      rw [← hf]
      cases a <;> first | rfl | (rename_i z; match z with | [] => rfl | [_] => rfl | _ :: _ :: _ => rfl)
    split at hf'
    · rename_i hsh
      rw [Bool.and_eq_true] at hsh
      cases hf'
      have d2 := rb.dp 60 (shps_shp hsh.2).1
      obtain ⟨as, r1⟩ := Dp.reads I a.py x v (ra.dp 60 hsh.1) rx
      obtain ⟨bs, r2⟩ := Dp.reads I (.list (D.pys ys)) y u d2 ry
      exact SeqAt.notIn_list_reads r2 r1 (SeqAt.canLay_of_shaped (shp_shaped (shps_shp hsh.2).1 (by decide))) (SeqAt.canLay_of_shaped (shp_shaped hsh.1 (by decide))) (room_in_shaped (shp_shaped hsh.1 (by decide)) hu) ⟨.bl _, H, I, rfl, by rw [pys_any a 60 59 hsh.1 ys hsh.2]; exact q⟩
    · cases hf'
theorem op_cmp (hK : K = X.K) (hu : X.A.units + 65 < cLine) (op : COp) : OpR X (compareOp (copOf op)) (rC K (cmpD op)) := by
  cases op
  · exact cmp_eq hK (by omega)
  · exact cmp_ne hK (by omega)
  · exact cmp_lt hK
  · exact cmp_le hK
  · exact cmp_gt hK
  · exact cmp_ge hK
  · exact cmp_isN hK
  · exact cmp_notN hK
  · exact cmp_mem hK hu
  · exact cmp_notMem hK hu
end
end MP
end
section
set_option Elab.async false
set_option linter.all false
set_option maxRecDepth 100000
set_option maxHeartbeats 2000000
/-! MPB: built-ins by values. -/
namespace MP
open PySem PySem.Spec PyProof.Rows L2

/-! ### slices, places -/
theorem six_eq (n : Nat) (i : Int) (d : Nat) : HT.sIx n d (some i) = six n i := by
  show (if i < 0 then (i + (n : Int)).toNat else min i.toNat n) = _
  unfold six
  rw [Int.add_comm]
theorem six_le (n : Nat) (i : Int) : six n i ≤ n := by
  unfold six
  split
  · omega
  · exact Nat.min_le_right _ _
/-- a slice's borders as the library has them -/
def bord : D → Option (Option Int)
  | .non => some none
  | .int i => some (some i)
  | _ => none
theorem cut_eq {α : Type} {xs ys : List α} {lo hi : D} (h : cut xs lo hi = some ys) : ∃ l u, bord lo = some l ∧ bord hi = some u ∧ ys = (xs.drop (HT.sIx xs.length 0 l)).take (HT.sIx xs.length xs.length u - HT.sIx xs.length 0 l) := by
  have key : ∀ a b : Nat, a ≤ xs.length → b ≤ xs.length → (xs.take b).drop a = (xs.drop a).take (b - a) := fun a b _ _ => by
    rw [List.drop_take]
  cases lo <;> first | (simp [cut] at h; done) | skip
  case non =>
    cases hi <;> first | (simp [cut] at h; done) | skip
    case non =>
      simp only [cut, Option.some.injEq] at h
      subst h
      refine ⟨none, none, rfl, rfl, ?_⟩
      rw [HT.sIx_none, HT.sIx_none]
      simp
    case int j =>
      simp only [cut, Option.some.injEq] at h
      subst h
      refine ⟨none, some j, rfl, rfl, ?_⟩
      rw [HT.sIx_none, six_eq]
      simp
  case int i =>
    cases hi <;> first | (simp [cut] at h; done) | skip
    case non =>
      simp only [cut, Option.some.injEq] at h
      subst h
      refine ⟨some i, none, rfl, rfl, ?_⟩
      rw [HT.sIx_none, six_eq]
      have := six_le xs.length i
      rw [List.take_of_length_le (by rw [List.length_drop]; omega)]
    case int j =>
      simp only [cut, Option.some.injEq] at h
      subst h
      refine ⟨some i, some j, rfl, rfl, ?_⟩
      rw [six_eq, six_eq, key _ _ (six_le _ _) (six_le _ _)]
theorem ix_at {α : Type} {xs : List α} {i : Int} {v : α} (h : ix xs i = some v) : atI xs i = some v := by
  unfold ix at h
  unfold atI L2.ixN
  split at h
  · rename_i hn
    split at h
    · rename_i h0
      rw [if_neg (by omega), if_pos (by omega)]
      show xs[(i + (xs.length : Int)).toNat]? = _
      rw [Int.add_comm]
      exact h
    · cases h
  · rename_i hn
    have hl : i.toNat < xs.length := (List.getElem?_eq_some_iff.mp h).1
    rw [if_pos (by omega), if_pos (by omega)]
    exact h
theorem ixN_eq {α : Type} {xs : List α} {i : Int} {j : Nat} (h : ixN xs i = some j) : L2.ixN xs.length i = some j ∧ j < xs.length := by
  unfold ixN at h
  unfold L2.ixN
  by_cases hn : i < 0
  · simp only [if_pos hn] at h
    by_cases hh : 0 ≤ (xs.length : Int) + i ∧ (xs.length : Int) + i < xs.length
    · rw [if_pos hh] at h
      rw [if_neg (by omega), if_pos (by omega), Int.add_comm]
      refine ⟨h, ?_⟩
      have := Option.some.inj h
      omega
    · rw [if_neg hh] at h
      cases h
  · simp only [if_neg hn] at h
    by_cases hh : 0 ≤ i ∧ i < xs.length
    · rw [if_pos hh] at h
      rw [if_pos hh.1, if_pos hh.2]
      refine ⟨h, ?_⟩
      have := Option.some.inj h
      omega
    · rw [if_neg hh] at h
      cases h
section
variable {X : Cx} {K : PySem.W.Frag}
def rCut (K : PySem.W.Frag) : V → Option Int → Option Int → Hp → VK → Prop := fun x lo hi H Q => ∃ ρ S a l u d, HS K ρ H S ∧ RepV K ρ H x a ∧ bord l = some lo ∧ bord u = some hi ∧ slD a l u = some d ∧ Res K ρ H d Q
theorem bord_inj {l : D} {a b : Option Int} (h : bord l = some a) (h' : bord l = some b) : a = b := Option.some.inj (h.symm.trans h')
theorem SlR.fz {r : V → Option Int → Option Int → Hp → VK → Prop} (h : SlR X r) : SlR X (fun x lo hi H Q => r x lo hi H (Fzn Q)) := by
  intro pins s σ H x v vl vu lo hi sl Q I rx hs pl pu q
  obtain ⟨T, id, h1, h2, h3⟩ := h pins s σ H x v vl vu lo hi sl (Fzn Q) I rx hs pl pu q
  exact ⟨T, id, h1, h2, thn h3 fun _ _ e => EP.fz e⟩
theorem sl_any (hK : K = X.K) : SlR X (rCut K) := by
  subst hK
  intro pins s σ H x v vl vu lo hi sl Q I rx hsl pl pu h
  obtain ⟨ρ, S, a, l, u, d, hs, ra, b1, b2, hf, q⟩ := h
  cases a <;> first | (simp [slD] at hf; done) | skip
  case str z =>
    simp only [slD] at hf
    split at hf
    · rename_i hl
      obtain ⟨ys, hc, rfl⟩ := Option.map_eq_some_iff.mp hf
      obtain ⟨l', u', e1, e2, rfl⟩ := cut_eq hc
      cases bord_inj b1 e1
      cases bord_inj b2 e2
      refine sl_str pins s σ H x v vl vu lo hi sl Q I rx hsl pl pu ⟨_, ra.str_inv, by rw [toS_len]; exact hl, q.str' ?_⟩
      unfold cutS
      rw [toS_len]
      rfl
    · cases hf
  case tup xs =>
    simp only [slD] at hf
    obtain ⟨ys, hc, rfl⟩ := Option.map_eq_some_iff.mp hf
    obtain ⟨l', u', e1, e2, rfl⟩ := cut_eq hc
    cases bord_inj b1 e1
    cases bord_inj b2 e2
    obtain ⟨a, vs, ex, t1, r1⟩ := ra.tup_inv
    refine sl_tupA pins s σ H x v vl vu lo hi sl Q I rx hsl pl pu ⟨a, vs, ex, t1, fun w => q.same (.tup t1 ?_), fun w => q.tup hs ?_⟩
    · rw [r1.length] at w
      rw [w.1, w.2, List.drop_zero, Nat.sub_zero, List.take_length]
      exact r1
    · unfold cutV
      rw [r1.length]
      exact (r1.drop _).take _
  case lst xs =>
    simp only [slD] at hf
    obtain ⟨ys, hc, rfl⟩ := Option.map_eq_some_iff.mp hf
    obtain ⟨l', u', e1, e2, rfl⟩ := cut_eq hc
    cases bord_inj b1 e1
    cases bord_inj b2 e2
    obtain ⟨a, vs, ex, t1, r1⟩ := ra.lst_inv
    refine SlR.fz sl_list pins s σ H x v vl vu lo hi sl Q I rx hsl pl pu ⟨a, vs, ex, t1, q.lst hs ?_⟩
    unfold cutV
    rw [r1.length]
    exact (r1.drop _).take _
theorem ix_any (hK : K = X.K) : IxR X (rB K idxD) := by
  subst hK
  intro value slice pins s σ H x y v u Q I rx ry h hsub
  obtain ⟨ρ, S, a, b, d, hs, ra, rb, hf, q⟩ := h
  cases a <;> first | (simp [idxD] at hf; done) | skip
  all_goals cases b <;> first | (simp [idxD] at hf; done) | skip
  case tup.int xs i =>
    simp only [idxD] at hf
    obtain ⟨a, vs, ex, t1, r1⟩ := ra.tup_inv
    obtain ⟨j, h1, h2, _⟩ := atI_get (ix_at hf)
    obtain ⟨w, hw, rw'⟩ := r1.get h2
    refine ix_tup value slice pins s σ H x y v u Q I rx ry ⟨a, vs, i, w, ex, rb.int_inv, t1, ?_, q.same rw'⟩ hsub
    have e := ix_at hf
    unfold atI at e ⊢
    rw [r1.length]
    obtain ⟨j', e1, e2⟩ := Option.bind_eq_some_iff.mp e
    have : j' = j := by
      have := (ixN_seq e1).1
      rw [h1] at this
      exact (Option.some.inj this).symm
    rw [e1]
    subst this
    exact hw
  case lst.int xs i =>
    simp only [idxD] at hf
    obtain ⟨a, vs, ex, t1, r1⟩ := ra.lst_inv
    obtain ⟨j, h1, h2, _⟩ := atI_get (ix_at hf)
    obtain ⟨w, hw, rw'⟩ := r1.get h2
    refine ix_list value slice pins s σ H x y v u Q I rx ry ⟨a, vs, i, w, ex, rb.int_inv, t1, ?_, q.same rw'⟩ hsub
    have e := ix_at hf
    unfold atI at e ⊢
    rw [r1.length]
    obtain ⟨j', e1, e2⟩ := Option.bind_eq_some_iff.mp e
    have : j' = j := by
      have := (ixN_seq e1).1
      rw [h1] at this
      exact (Option.some.inj this).symm
    rw [e1]
    subst this
    exact hw
  case str.int z i =>
    simp only [idxD] at hf
    split at hf
    · rename_i hl
      obtain ⟨c, hc, rfl⟩ := Option.map_eq_some_iff.mp hf
      exact ix_str value slice pins s σ H x y v u Q I rx ry ⟨toS z, i, c, ra.str_inv, rb.int_inv, by rw [toS_len]; exact hl, ix_at hc, q.str' rfl⟩ hsub
    · cases hf

/-! ### built-ins -/
theorem strs_reps {ρ : List Addr} {H : Hp} : ∀ {ds : List D} {vs : List V} {zs : List (List Nat)}, strsOf ds = some zs → Reps K ρ H vs ds → vs = (zs.map toS).map V.str
  | [], _, zs, h, r => by
    cases r
    cases h
    rfl
  | d :: ds, _, zs, h, r => by
    cases r with
    | cons r1 r2 =>
      cases d <;> first | (simp [strsOf] at h; done) | skip
      simp only [strsOf] at h
      obtain ⟨ws, h1, rfl⟩ := Option.map_eq_some_iff.mp h
      rw [r1.str_inv, strs_reps h1 r2]
      rfl
theorem bools_reps {ρ : List Addr} {H : Hp} : ∀ {ds : List D} {vs : List V} {zs : List Bool}, boolsOf ds = some zs → Reps K ρ H vs ds → vs = zs.map V.bl
  | [], _, zs, h, r => by
    cases r
    cases h
    rfl
  | d :: ds, _, zs, h, r => by
    cases r with
    | cons r1 r2 =>
      cases d <;> first | (simp [boolsOf] at h; done) | skip
      simp only [boolsOf] at h
      obtain ⟨ws, h1, rfl⟩ := Option.map_eq_some_iff.mp h
      rw [r1.bl_inv, bools_reps h1 r2]
      rfl
theorem ints_reps {ρ : List Addr} {H : Hp} : ∀ {ds : List D} {vs : List V} {zs : List Int}, intsOf ds = some zs → Reps K ρ H vs ds → vs = zs.map V.int
  | [], _, zs, h, r => by
    cases r
    cases h
    rfl
  | d :: ds, _, zs, h, r => by
    cases r with
    | cons r1 r2 =>
      cases d <;> first | (simp [intsOf] at h; done) | skip
      simp only [intsOf] at h
      obtain ⟨ws, h1, rfl⟩ := Option.map_eq_some_iff.mp h
      rw [r1.int_inv, ints_reps h1 r2]
      rfl
theorem toS_S (s : List Nat) : toS s = SX.S s := rfl
theorem decI_eq (i : Int) : toS (decI i) = Str.ofString (toString i) := toS_of _
theorem b_len (hK : K = X.K) : CallR X (.builtin "len") (rOne K (b1D .len)) := by
  subst hK
  intro pins s σ H xs us Q I r h
  obtain ⟨ρ, S, x, a, d, rfl, hs, ra, hf, q⟩ := h
  cases a <;> first | (simp [b1D] at hf; done) | skip
  case str z =>
    simp only [b1D] at hf
    split at hf
    · rename_i hl
      cases hf
      exact call_len_str pins s σ H _ us Q I r ⟨toS z, by rw [ra.str_inv], by rw [toS_len]; exact hl, by rw [toS_len]; exact q.int⟩
    · cases hf
  case tup ds =>
    simp only [b1D, Option.some.injEq] at hf
    subst hf
    obtain ⟨a, vs, rfl, t1, r1⟩ := ra.tup_inv
    exact call_len_seq pins s σ H _ us Q I r ⟨a, vs, rfl, .inr t1, by rw [r1.length]; exact q.int⟩
  case lst ds =>
    simp only [b1D, Option.some.injEq] at hf
    subst hf
    obtain ⟨a, vs, rfl, t1, r1⟩ := ra.lst_inv
    exact call_len_seq pins s σ H _ us Q I r ⟨a, vs, rfl, .inl t1, by rw [r1.length]; exact q.int⟩
theorem b_int (hK : K = X.K) : CallR X (.type "int") (rOne K (b1D .int)) := by
  subst hK
  intro pins s σ H xs us Q I r h
  obtain ⟨ρ, S, x, a, d, rfl, hs, ra, hf, q⟩ := h
  cases a <;> first | (simp [b1D] at hf; done) | skip
  case int i =>
    simp only [b1D, Option.some.injEq] at hf
    subst hf
    exact call_int1 pins s σ H _ us Q I r (.inl ⟨i, by rw [ra.int_inv], q.int⟩)
  case bl i =>
    simp only [b1D, Option.some.injEq] at hf
    subst hf
    exact call_int1 pins s σ H _ us Q I r (.inr ⟨i, by rw [ra.bl_inv], q.int⟩)
  case str z =>
    simp only [b1D] at hf
    split at hf
    · rename_i hl
      obtain ⟨n, hn, rfl⟩ := Option.map_eq_some_iff.mp hf
      exact call_int_str pins s σ H _ us Q I r ⟨toS z, n, by rw [ra.str_inv], hn, by rw [toS_len]; exact hl, q.int⟩
    · cases hf
theorem b_str (hK : K = X.K) : CallR X (.type "str") (rOne K (b1D .str)) := by
  subst hK
  intro pins s σ H xs us Q I r h
  obtain ⟨ρ, S, x, a, d, rfl, hs, ra, hf, q⟩ := h
  cases a <;> first | (simp [b1D] at hf; done) | skip
  case int i =>
    simp only [b1D] at hf
    split at hf
    · rename_i hl
      cases hf
      exact call_str_int pins s σ H _ us Q I r ⟨i, by rw [ra.int_inv], hl, q.str' (decI_eq i).symm⟩
    · cases hf
  case str z =>
    simp only [b1D, Option.some.injEq] at hf
    subst hf
    exact SkE.call_str_str pins s σ H _ us Q I r ⟨toS z, by rw [ra.str_inv], q.str⟩
theorem b_tuple (hK : K = X.K) : CallR X (.type "tuple") (rOne K (b1D .tuple)) := by
  subst hK
  intro pins s σ H xs us Q I r h
  obtain ⟨ρ, S, x, a, d, rfl, hs, ra, hf, q⟩ := h
  cases a <;> first | (simp [b1D] at hf; done) | skip
  case tup ds =>
    simp only [b1D, Option.some.injEq] at hf
    subst hf
    obtain ⟨a, vs, rfl, t1, r1⟩ := ra.tup_inv
    exact call_tuple_of pins s σ H _ us Q I r ⟨a, vs, rfl, .inr ⟨t1, q.same (.tup t1 r1)⟩⟩
  case lst ds =>
    simp only [b1D, Option.some.injEq] at hf
    subst hf
    obtain ⟨a, vs, rfl, t1, r1⟩ := ra.lst_inv
    exact call_tuple_of pins s σ H _ us Q I r ⟨a, vs, rfl, .inl ⟨t1, q.tup hs r1⟩⟩
theorem b_all (hK : K = X.K) (hc : X.calm = true) : CallR X (.builtin "all") (rOne K (b1D .all)) := by
  subst hK
  intro pins s σ H xs us Q I r h
  obtain ⟨ρ, S, x, a, d, rfl, hs, ra, hf, q⟩ := h
  cases a <;> first | (simp [b1D] at hf; done) | skip
  case lst ds =>
    simp only [b1D] at hf
    obtain ⟨bs, hb, rfl⟩ := Option.map_eq_some_iff.mp hf
    obtain ⟨a, vs, rfl, t1, r1⟩ := ra.lst_inv
    rw [bools_reps hb r1] at t1
    exact cr_all hc pins s σ H _ us Q I r ⟨a, bs, rfl, t1, q.bl⟩
theorem b_any (hK : K = X.K) (hc : X.calm = true) : CallR X (.builtin "any") (rOne K (b1D .any)) := by
  subst hK
  intro pins s σ H xs us Q I r h
  obtain ⟨ρ, S, x, a, d, rfl, hs, ra, hf, q⟩ := h
  cases a <;> first | (simp [b1D] at hf; done) | skip
  case lst ds =>
    simp only [b1D] at hf
    obtain ⟨bs, hb, rfl⟩ := Option.map_eq_some_iff.mp hf
    obtain ⟨a, vs, rfl, t1, r1⟩ := ra.lst_inv
    rw [bools_reps hb r1] at t1
    exact cr_any hc pins s σ H _ us Q I r ⟨a, bs, rfl, t1, q.bl⟩
theorem b_sum (hK : K = X.K) (hc : X.calm = true) : CallR X (.builtin "sum") (rOne K (b1D .sum)) := by
  subst hK
  intro pins s σ H xs us Q I r h
  obtain ⟨ρ, S, x, a, d, rfl, hs, ra, hf, q⟩ := h
  cases a <;> first | (simp [b1D] at hf; done) | skip
  case lst ds =>
    simp only [b1D] at hf
    obtain ⟨bs, hb, rfl⟩ := Option.map_eq_some_iff.mp hf
    obtain ⟨a, vs, rfl, t1, r1⟩ := ra.lst_inv
    rw [ints_reps hb r1] at t1
    exact cr_sum hc pins s σ H _ us Q I r ⟨a, bs, rfl, t1, q.int⟩
/-- isinstance -/
def tyN : Ty → String
  | .int => "int" | .bool => "bool" | .str => "str" | .tuple => "tuple" | .list => "list"
theorem b_isin (hK : K = X.K) (T : Ty) : CallR X (.builtin "isinstance") (fun xs H Q => ∃ ρ S x a b, xs = [x, .ty (tyN T)] ∧ HS K ρ H S ∧ RepV K ρ H x a ∧ isinD T a = some b ∧ Q (.bl b) H) := by
  subst hK
  intro pins s σ H xs us Q I r h
  obtain ⟨ρ, S, x, a, b, rfl, hs, ra, hf, q⟩ := h
  have go : ∀ (t : String), TyX X.K H x (.type t) → kitB t (tyN T) = some b → wpAny (model X.prog X.w) X.A (call (.builtin "isinstance") us) (EP X pins σ Q) X.xe s := fun t h1 h2 =>
    call_isi pins s σ H _ us Q I r ⟨x, _, .type t, .type (tyN T), b, rfl, .ty _, h1, kit_ty h2, q⟩
  cases a
  case non =>
    obtain rfl := ra.non_inv
    refine go "NoneType" (.base .non) ?_
    cases T <;> (simp only [isinD, Option.some.injEq] at hf; subst hf; decide +kernel)
  case bl i =>
    obtain rfl := ra.bl_inv
    refine go "bool" (.base (.bl i)) ?_
    cases T <;> (simp only [isinD, Option.some.injEq] at hf; subst hf; decide +kernel)
  case int i =>
    obtain rfl := ra.int_inv
    refine go "int" (.base (.int i)) ?_
    cases T <;> (simp only [isinD, Option.some.injEq] at hf; subst hf; decide +kernel)
  case str z =>
    obtain rfl := ra.str_inv
    refine go "str" (.base (.str _)) ?_
    cases T <;> (simp only [isinD, Option.some.injEq] at hf; subst hf; decide +kernel)
  case tup ds =>
    obtain ⟨p, vs, rfl, t1, r1⟩ := ra.tup_inv
    have ty : TyX X.K H (.ref p) (.type "tuple") := by
      rcases t1 with (t | ⟨o, t⟩) | ⟨o, its, n, hk, hc, _⟩
      · exact .base (.tup t)
      · exact .fTuple t
      · exact .kTuple hk hc
    refine go "tuple" ty ?_
    cases T <;> (simp only [isinD, Option.some.injEq] at hf; subst hf; decide +kernel)
  case lst ds =>
    obtain ⟨p, vs, rfl, t1, r1⟩ := ra.lst_rd
    have ty : TyX X.K H (.ref p) (.type "list") := by
      rcases t1 with t | ⟨o, t⟩ | ⟨its, n, hk, _⟩
      · exact .base (.lst t)
      · exact .base (.frz t)
      · exact .kList hk rfl
    refine go "list" ty ?_
    cases T <;> (simp only [isinD, Option.some.injEq] at hf; subst hf; decide +kernel)
  case ref n => cases T <;> simp [isinD] at hf

/-! ### methods of texts -/
theorem split_ne (c : Nat) (l : List Nat) : splitAt1 c l ≠ [] := by
  cases l with
  | nil => simp [splitAt1]
  | cons a r =>
    simp only [splitAt1]
    split
    · simp
    · split <;> simp
theorem spl_at1 (c : Nat) : ∀ (l acc : List Nat), TL.spl [c] 0 acc l = match splitAt1 c l with
    | [] => [acc]
    | w :: ws => (acc ++ w) :: ws
  | [], acc => by
    show [acc] = (acc ++ []) :: []
    rw [List.append_nil]
  | a :: r, acc => by
    by_cases h : a = c
    · subst h
      have hp : TL.pre [a] (a :: r) = true := by simp [TL.pre]
      rw [TL.spl_hit hp]
      simp only [splitAt1, if_true]
      rw [show ([a] : List Nat).length - 1 = 0 from rfl, spl_at1 a r []]
      cases e : splitAt1 a r with
      | nil => exact absurd e (split_ne a r)
      | cons w ws => simp
    · have hp : ¬ TL.pre [c] (a :: r) = true := by simp [TL.pre, h]
      have e1 : TL.spl [c] 0 acc (a :: r) = TL.spl [c] 0 (acc ++ [a]) r := if_neg hp
      rw [e1, spl_at1 c r (acc ++ [a])]
      simp only [splitAt1, if_neg h]
      cases e : splitAt1 c r with
      | nil => simp
      | cons w ws => simp
theorem split_at1 (c : Nat) (l : List Nat) (hc : c < 256) : Txt.split (toS l) (toS [c]) = (splitAt1 c l).map toS := by
  have e := SX.split_S (a := l) (b := [c]) (by simp) (by simp [hc])
  rw [toS_S, toS_S, e, spl_at1]
  cases e : splitAt1 c l with
  | nil => exact absurd e (split_ne c l)
  | cons w ws => simp [toS_S]
end
end MP
end
section
set_option Elab.async false
set_option linter.all false
set_option maxRecDepth 100000
set_option maxHeartbeats 2000000
/-! MPS: each expression of the language keeps its reading. -/
namespace MP
open PySem PySem.Spec PyProof.Rows L2

structure Good (X : Cx) (p : Pm) : Prop where
  K : p.K = X.K
  calm : X.calm = true
  nd : X.N.Nodup
  un : X.A.units + 65 < cLine
  gd : X.A.guards = some []
  tk : Takes X p.W

section
variable {X : Cx} {p : Pm} {a b c e : Expr} {pa pb pc : E} {pos : Pos}

/-! ### leaves -/
theorem se_var (g : Good X p) {i : Nat} {x : Str} (hN : X.N[i]? = some x) (hv : Vis X.env.scope x) (hd : (x == ("__debug__" : Str)) = false) (hcd : (x == ("__classdict__" : Str)) = false) : PE X (.Name x pos) (tE p (.var i)) :=
  PE.imp (pe_var hN hv hd hcd) fun σ H Q ⟨ρ, σd, S, es, hs, h⟩ => by
    rw [evE] at h
    obtain ⟨d, hd, q⟩ := Ok.ofO.mp h
    have hd' : σd[i]? = some (some d) := by
      cases e : σd[i]? with
      | none => rw [e] at hd; cases hd
      | some o => rw [e] at hd; exact congrArg some hd
    obtain ⟨v, h1, h2, h3⟩ := es.get hd'
    refine ⟨v, h1, q v ρ H (.refl hs) hs h2 fun z => h3 ?_⟩
    have z' : (!ownAt p.own i) = true := z
    simpa using z'
theorem se_lit {t : TE} {d : D} {v : V} (h : PE X e t) (ht : ∀ σ H Q, Q v H → t σ H Q) (hr : ∀ ρ H, Rep p.K ρ H v d) (he : ∀ σ, evE p.cf pa σ = Pure.pure d) : PE X e (tE p pa) :=
  PE.imp h fun σ H Q ⟨ρ, σd, S, es, hs, h⟩ => by
    rw [he] at h
    exact ht σ H Q (h v ρ H (.refl hs) hs (.inl (hr ρ H)) fun _ => hr ρ H)
theorem se_int {i : Int} {j : Nat} : PE X (.Constant (.int i) j pos) (tE p (.con (.int i))) := se_lit pe_int (fun _ _ _ q => q) (fun _ _ => .int i) fun _ => by rw [evE]
theorem se_bl {i : Bool} {j : Nat} : PE X (.Constant (.bool i) j pos) (tE p (.con (.bl i))) := se_lit pe_bl (fun _ _ _ q => q) (fun _ _ => .bl i) fun _ => by rw [evE]
theorem se_non {j : Nat} : PE X (.Constant .none j pos) (tE p (.con .non)) := se_lit pe_non (fun _ _ _ q => q) (fun _ _ => .non) fun _ => by rw [evE]
theorem se_str {z : List Nat} {x : Str} {j : Nat} (hx : x = toS z) : PE X (.Constant (.str x) j pos) (tE p (.con (.str z))) := by
  subst hx
  exact se_lit pe_str (fun _ _ _ q => q) (fun _ _ => .str z) fun _ => by rw [evE]
theorem se_glob {x : Str} {g : Nat} {d : D} {v : V} {u : Value} (hg : Gl X x) (hm : X.mg x = some u) (r : RelV v u) (hd : (x == ("__debug__" : Str)) = false) (hr : ∀ ρ H, Rep p.K ρ H v d) : PE X (.Name x pos) (tE p (.glob g d)) :=
  se_lit (pe_glob hg hm r hd) (fun _ _ _ q => q) hr fun _ => by rw [evE]

/-! ### operators -/
theorem se_bin (g : Good X p) (op : BOp) (ha : PE X a (tE p pa)) (hb : PE X b (tE p pb)) : PE X (.BinOp a (opOf op) b pos) (tE p (.bin op pa pb)) :=
  PE.imp (pe_op (op_bin g.K op) ha hb) fun σ H Q ⟨ρ, σd, S, es, hs, h⟩ => by
    rw [evE] at h
    refine seq2 es hs h fun vx vy x y ρ2 H2 S2 st hs2 es2 rx ry _ _ h2 => ?_
    obtain ⟨x', rx', h3⟩ := view_ok hs2 rx h2
    obtain ⟨y', ry', h4⟩ := view_ok hs2 ry h3
    obtain ⟨d, hd, hp⟩ := Ok.ofO.mp h4
    exact ⟨ρ2, S2, x', y', d, hs2, rx', ry', hd, fun v H3 gr r => hp v ρ2 H3 (st.trans (.grow hs2 gr)) (hs2.grow gr) (.inl r) fun _ => r⟩
theorem se_neg (ha : PE X a (tE p pa)) : PE X (.UnaryOp .USub a pos) (tE p (.neg pa)) :=
  PE.imp (pe_un un_neg ha) fun σ H Q ⟨ρ, σd, S, es, hs, h⟩ => by
    rw [evE] at h
    refine seq1 es hs h fun vx x ρ2 H2 S2 st hs2 es2 rx rv h2 => ?_
    cases x <;> first | exact h2.elim | skip
    case int i => exact ⟨i, rx.v.int_inv, h2 (.int (-i)) ρ2 H2 st hs2 (.inl (.int _)) fun _ => .int _⟩
theorem se_cmp (g : Good X p) (op : COp) (ha : PE X a (tE p pa)) (hb : PE X b (tE p pb)) (hm : behindInMarks (copOf op) b = false) : PE X (.Compare a [copOf op] [b] pos) (tE p (.cmp op pa pb)) :=
  PE.imp (pe_cmpR (op_cmp g.K g.un op) ha hb hm) fun σ H Q ⟨ρ, σd, S, es, hs, h⟩ => by
    rw [evE] at h
    refine seq2 es hs h fun vx vy x y ρ2 H2 S2 st hs2 es2 rx ry _ _ h2 => ?_
    obtain ⟨x', rx', h3⟩ := view_ok hs2 rx h2
    obtain ⟨y', ry', h4⟩ := view_ok hs2 ry h3
    obtain ⟨d, hd, hp⟩ := Ok.ofO.mp (Ok.bind.mp h4)
    exact ⟨ρ2, S2, x', y', d, hs2, rx', ry', hd, hp (.bl d) ρ2 H2 st hs2 (.inl (.bl d)) fun _ => .bl d⟩
/-- what a truth is taken of is a bool -/
theorem asB_ok {α : Type} {P : α → DS → Prop} {XX : Exc → DS → Prop} {k : Bool → M α} {x : D} {S : DS} (h : Ok (((ofO (asB x) : M Bool) >>= k) S) P XX) : ∃ t, x = .bl t ∧ Ok (k t S) P XX := by
  obtain ⟨t, ht, q⟩ := Ok.ofO.mp (Ok.bind.mp h)
  cases x <;> first | (simp [asB] at ht; done) | skip
  simp only [asB, Option.some.injEq] at ht
  subst ht
  exact ⟨_, rfl, q⟩
theorem bindA {α β γ : Type} {m : M α} {f : α → M β} {k : β → M γ} {S : DS} {P : γ → DS → Prop} {XX : Exc → DS → Prop} (h : Ok (((m >>= f) >>= k) S) P XX) : Ok ((m >>= fun x => f x >>= k) S) P XX := by
  refine Ok.bind.mpr ((Ok.bind.mp (Ok.bind.mp h)).mono (fun a S' q => Ok.bind.mpr q) fun _ _ q => q)
theorem evB_seq {α : Type} {P : α → DS → Prop} {k : Bool → M α} {ρ : List Addr} {σ : St} {σd : Env} {H : Hp} {S : DS} {R : V → Hp → Prop} (es : ES p.K p.own p.H0 ρ H σ σd) (hs : HS p.K ρ H S) (h : Ok ((evB (evE p.cf pa σd) >>= k) S) P (XQ p σ ρ H))
    (f : ∀ t ρ1 H1 S1, Step ρ H ρ1 H1 → HS p.K ρ1 H1 S1 → ES p.K p.own p.H0 ρ1 H1 σ σd → Ok (k t S1) P (XQ p σ ρ1 H1) → R (.bl t) H1) : tE p pa σ H R := by
  unfold evB at h
  refine seq1 es hs (bindA h) fun vx x ρ1 H1 S1 st hs1 es1 rx _ h1 => ?_
  obtain ⟨t, rfl, h2⟩ := asB_ok h1
  have := rx.v.bl_inv
  subst this
  exact f t ρ1 H1 S1 st hs1 es1 h2
/-- a value that is a bool, as a test -/
theorem pt_of (ha : PE X a (tE p pa)) (he : ∀ whole, isTrue a X.env whole = (do let v ← whole; standAt a.pos; holding [v] (truthy v))) : PT X a (tT p pa) :=
  PT.imp (pt_val ha he) fun σ H Q ⟨ρ, σd, S, es, hs, h⟩ => by
    refine evB_seq (k := fun b => Pure.pure b) (P := fun b S' => ∀ ρ' H', Step ρ H ρ' H' → HS p.K ρ' H' S' → Q b H') es hs ?_ fun t ρ1 H1 S1 st hs1 es1 h1 => ⟨t, rfl, h1 ρ1 H1 st hs1⟩
    exact Ok.bind.mpr (h.mono (fun b S' q => q) fun _ _ q => q)
/-- and back: a test's answer as a value -/
theorem seqT {α : Type} {P : α → DS → Prop} {k : Bool → M α} {ρ : List Addr} {σ : St} {σd : Env} {H : Hp} {S : DS} {R : Bool → Hp → Prop} (es : ES p.K p.own p.H0 ρ H σ σd) (hs : HS p.K ρ H S) (h : Ok ((evB (evE p.cf pa σd) >>= k) S) P (XQ p σ ρ H))
    (f : ∀ t ρ1 H1 S1, Step ρ H ρ1 H1 → HS p.K ρ1 H1 S1 → ES p.K p.own p.H0 ρ1 H1 σ σd → Ok (k t S1) P (XQ p σ ρ1 H1) → R t H1) : tT p pa σ H R := by
  refine ⟨ρ, σd, S, es, hs, (Ok.bind.mp h).mono (fun t S1 q ρ1 H1 st hs1 => ?_) fun _ _ q => q⟩
  exact f t ρ1 H1 S1 st hs1 (es.step st) (q.mono (fun _ _ q => q) fun _ _ q => q.step st)
theorem se_no (ha : PE X a (tE p pa)) : PE X (.UnaryOp .Not a pos) (tE p (.no pa)) :=
  PE.imp (pe_not ha) fun σ H Q ⟨ρ, σd, S, es, hs, h⟩ => by
    rw [evE] at h
    exact evB_seq es hs h fun t ρ1 H1 S1 st hs1 es1 h1 => ⟨t, rfl, h1 (.bl (!t)) ρ1 H1 st hs1 (.inl (.bl _)) fun _ => .bl _⟩
theorem st_no (ha : PT X a (tT p pa)) : PT X (.UnaryOp .Not a pos) (tT p (.no pa)) :=
  PT.imp (pt_not ha) fun σ H Q ⟨ρ, σd, S, es, hs, h⟩ => by
    unfold evB at h
    rw [evE] at h
    exact seqT es hs (bindA h) fun t ρ1 H1 S1 st hs1 es1 h1 => h1 ρ1 H1 st hs1
section
variable {rest : List Expr}
theorem se_and (ha : PE X a (tE p pa)) (hb : PE X (.BoolOp .And (b :: rest) pos) (tE p pb)) : PE X (.BoolOp .And (a :: b :: rest) pos) (tE p (.and pa pb)) :=
  PE.imp (pe_and ha hb) fun σ H Q ⟨ρ, σd, S, es, hs, h⟩ => by
    rw [evE] at h
    refine evB_seq es hs h fun t ρ1 H1 S1 st hs1 es1 h1 => ⟨t, rfl, ?_⟩
    cases t with
    | true =>
      refine iteT (evB_seq (k := fun b => Pure.pure (D.bl b)) es1 hs1 h1 fun t2 ρ2 H2 S2 st2 hs2 es2 h2 => ?_)
      exact h2 (.bl t2) ρ2 H2 (st.trans st2) hs2 (.inl (.bl _)) fun _ => .bl _
    | false => exact iteF (h1 (.bl false) ρ1 H1 st hs1 (.inl (.bl _)) fun _ => .bl _)
theorem se_or (ha : PE X a (tE p pa)) (hb : PE X (.BoolOp .Or (b :: rest) pos) (tE p pb)) : PE X (.BoolOp .Or (a :: b :: rest) pos) (tE p (.or pa pb)) :=
  PE.imp (pe_or ha hb) fun σ H Q ⟨ρ, σd, S, es, hs, h⟩ => by
    rw [evE] at h
    refine evB_seq es hs h fun t ρ1 H1 S1 st hs1 es1 h1 => ⟨t, rfl, ?_⟩
    cases t with
    | true => exact iteT (h1 (.bl true) ρ1 H1 st hs1 (.inl (.bl _)) fun _ => .bl _)
    | false =>
      refine iteF (evB_seq (k := fun b => Pure.pure (D.bl b)) es1 hs1 h1 fun t2 ρ2 H2 S2 st2 hs2 es2 h2 => ?_)
      exact h2 (.bl t2) ρ2 H2 (st.trans st2) hs2 (.inl (.bl _)) fun _ => .bl _
theorem evB_bl {α : Type} {m : M Bool} {k : Bool → M α} {S : DS} {P : α → DS → Prop} {XX : Exc → DS → Prop} (h : Ok (((m >>= fun y => (Pure.pure (D.bl y) : M D)) >>= fun x => ofO (asB x) >>= k) S) P XX) : Ok ((m >>= k) S) P XX :=
  Ok.bind.mpr ((Ok.bind.mp (Ok.bind.mp h)).mono (fun b S' q => by
    have q2 : Ok ((ofO (asB (D.bl b)) >>= k) S') P XX := q
    obtain ⟨t, e, q3⟩ := asB_ok q2
    cases e
    exact q3) fun _ _ q => q)
theorem st_and (ha : PT X a (tT p pa)) (hb : PW X (.BoolOp .And (b :: rest) pos) (tT p pb)) : PW X (.BoolOp .And (a :: b :: rest) pos) (tT p (.and pa pb)) :=
  PW.imp (pw_and ha hb) fun σ H Q ⟨ρ, σd, S, es, hs, h⟩ => by
    unfold evB at h
    rw [evE] at h
    refine seqT es hs (bindA h) fun t ρ1 H1 S1 st hs1 es1 h1 => ?_
    cases t with
    | true =>
      refine iteT (seqT (k := fun b => Pure.pure b) (P := fun b S' => ∀ ρ' H', Step ρ H ρ' H' → HS p.K ρ' H' S' → Q b H') es1 hs1 (evB_bl (k := fun b => Pure.pure b) ?_) fun t2 ρ2 H2 S2 st2 hs2 es2 h2 => h2 ρ2 H2 (st.trans st2) hs2)
      exact Ok.bind.mpr ((Ok.bind.mp h1).mono (fun x S' q => by
        obtain ⟨t, ht, q⟩ := Ok.ofO.mp q
        exact Ok.bind.mpr (Ok.ofO.mpr ⟨t, ht, q⟩)) fun _ _ q => q)
    | false => exact iteF (h1 ρ1 H1 st hs1)
theorem st_or (ha : PT X a (tT p pa)) (hb : PW X (.BoolOp .Or (b :: rest) pos) (tT p pb)) : PW X (.BoolOp .Or (a :: b :: rest) pos) (tT p (.or pa pb)) :=
  PW.imp (pw_or ha hb) fun σ H Q ⟨ρ, σd, S, es, hs, h⟩ => by
    unfold evB at h
    rw [evE] at h
    refine seqT es hs (bindA h) fun t ρ1 H1 S1 st hs1 es1 h1 => ?_
    cases t with
    | true => exact iteT (h1 ρ1 H1 st hs1)
    | false =>
      refine iteF (seqT (k := fun b => Pure.pure b) (P := fun b S' => ∀ ρ' H', Step ρ H ρ' H' → HS p.K ρ' H' S' → Q b H') es1 hs1 (evB_bl (k := fun b => Pure.pure b) ?_) fun t2 ρ2 H2 S2 st2 hs2 es2 h2 => h2 ρ2 H2 (st.trans st2) hs2)
      exact Ok.bind.mpr ((Ok.bind.mp h1).mono (fun x S' q => by
        obtain ⟨t, ht, q⟩ := Ok.ofO.mp q
        exact Ok.bind.mpr (Ok.ofO.mpr ⟨t, ht, q⟩)) fun _ _ q => q)
end

/-! ### chains, choices -/
theorem chain_reading (o1 o2 : COp) {σ : St} {H : Hp} {Q : VK} (h : tE p (.chain o1 o2 pa pb pc) σ H Q) : tChain (rC p.K (cmpD o1)) (rC p.K (cmpD o2)) (tE p pa) (tE p pb) (tE p pc) σ H Q := by
  obtain ⟨ρ, σd, S, es, hs, h⟩ := h
  rw [evE] at h
  refine seq2 es hs h fun vx vy x y ρ2 H2 S2 st hs2 es2 rx ry rvx rvy h2 => ?_
  obtain ⟨d, hd, h3⟩ := Ok.ofO.mp (Ok.bind.mp h2)
  refine ⟨ρ2, S2, x, y, d, hs2, rx.v, ry.v, hd, d, rfl, ?_⟩
  cases d with
  | true =>
    refine iteT (seq1 es2 hs2 h3 fun vz z ρ3 H3 S3 st3 hs3 es3 rz _ h4 => ?_)
    obtain ⟨d2, hd2, h5⟩ := Ok.ofO.mp (Ok.bind.mp h4)
    exact ⟨ρ3, S3, y, z, d2, hs3, (ry.step st3).v, rz.v, hd2, h5 (.bl d2) ρ3 H3 (st.trans st3) hs3 (.inl (.bl _)) fun _ => .bl _⟩
  | false => exact iteF (h3 (.bl false) ρ2 H2 st hs2 (.inl (.bl _)) fun _ => .bl _)
theorem se_chain (g : Good X p) (o1 o2 : COp) (ha : PE X a (tE p pa)) (hb : PE X b (tE p pb)) (hc : PE X c (tE p pc)) (hm : lastMarks [copOf o1, copOf o2] [b, c] = false) :
    PE X (.Compare a [copOf o1, copOf o2] [b, c] pos) (tE p (.chain o1 o2 pa pb pc)) :=
  PE.imp (pe_chain (op_cmp g.K g.un o1) (op_cmp g.K g.un o2) ha hb hc hm) fun σ H Q h => chain_reading o1 o2 h
theorem se_ite (ht : PT X c (tT p pc)) (ha : PE X a (tE p pa)) (hb : PE X b (tE p pb)) : PE X (.IfExp c a b pos) (tE p (.ite pc pa pb)) :=
  PE.imp (pe_ifExp ht ha hb) fun σ H Q ⟨ρ, σd, S, es, hs, h⟩ => by
    rw [evE] at h
    refine seqT es hs h fun t ρ1 H1 S1 st hs1 es1 h1 => ?_
    cases t with
    | true => exact iteT ⟨ρ1, σd, S1, es1, hs1, h1.mono (fun d S' q v ρ' H' st' hs' r rv => q v ρ' H' (st.trans st') hs' r fun z => rv (by have z' : (valE p.own pa && valE p.own pb) = true := z; rw [Bool.and_eq_true] at z'; exact z'.1)) fun _ _ q => q⟩
    | false => exact iteF ⟨ρ1, σd, S1, es1, hs1, h1.mono (fun d S' q v ρ' H' st' hs' r rv => q v ρ' H' (st.trans st') hs' r fun z => rv (by have z' : (valE p.own pa && valE p.own pb) = true := z; rw [Bool.and_eq_true] at z'; exact z'.2)) fun _ _ q => q⟩

/-! ### displays, argument lists -/
theorem ses_nil : PA X [] (tEs p .nil) :=
  PA.imp pa_nil fun σ H Q ⟨ρ, σd, S, es, hs, h⟩ => by
    rw [evEs] at h
    exact h [] ρ H (.refl hs) hs .nil
theorem ses_cons {es : List Expr} {pes : Es} (ha : PE X a (tE p pa)) (hr : PA X es (tEs p pes)) (hv : valE p.own pa = true) (hst : starEach (a :: es) X.env = (false, eval a X.env) :: starEach es X.env) : PA X (a :: es) (tEs p (.cons pa pes)) :=
  PA.imp (pa_cons ha hr hst) fun σ H Q ⟨ρ, σd, S, es, hs, h⟩ => by
    rw [evEs] at h
    refine seq1 es hs h fun vx x ρ1 H1 S1 st hs1 es1 rx rv h1 => ?_
    refine ⟨ρ1, σd, S1, es1, hs1, (Ok.bind.mp h1).mono (fun ds S2 q vs ρ2 H2 st2 hs2 rs => ?_) fun _ _ q => q⟩
    exact q (vx :: vs) ρ2 H2 (st.trans st2) hs2 (.cons ((rv hv).step st2) rs)
theorem se_tup {es : List Expr} {pes : Es} {k : Nat} (h : PA X es (tEs p pes)) (hn : es.length ≤ sizeLine) (hl : ∀ cf σ S P XX, Ok (evEs cf pes σ S) P XX → Ok (evEs cf pes σ S) (fun ds S' => P ds S' ∧ ds.length = es.length) XX) : PE X (.Tuple es k pos) (tE p (.tup pes)) :=
  PE.imp (pe_tup h) fun σ H Q ⟨ρ, σd, S, es, hs, h⟩ => by
    rw [evE] at h
    refine ⟨ρ, σd, S, es, hs, (hl _ _ _ _ _ (Ok.bind.mp h)).mono (fun ds S1 ⟨q, hlen⟩ vs ρ1 H1 st hs1 rs => ⟨by rw [rs.length, hlen]; exact hn, fun a na => ?_⟩) fun _ _ q => q⟩
    have gr := grow_upd (o := .tup vs) na
    have rep : Rep p.K ρ1 (upd H1 a (.tup vs)) (.ref a) (.tup ds) := .tup (.of upd_same) (rs.grow hs1 gr)
    exact q (.ref a) ρ1 _ (st.trans (.grow hs1 gr)) (hs1.grow gr) (.inl rep) fun _ => rep
theorem sl_disp {es : List Expr} {pes : Es} (h : PA X es (tEs p pes)) (hn : es.length ≤ sizeLine) (hl : ∀ cf σ S P XX, Ok (evEs cf pes σ S) P XX → Ok (evEs cf pes σ S) (fun ds S' => P ds S' ∧ ds.length = es.length) XX) : PE X (.List es pos) (tL p (.disp pes)) :=
  PE.imp (pe_lst h) fun σ H Q ⟨ρ, σd, S, es, hs, h⟩ => by
    rw [evL] at h
    refine ⟨ρ, σd, S, es, hs, (hl _ _ _ _ _ h).mono (fun ds S1 ⟨q, hlen⟩ vs ρ1 H1 st hs1 rs => ⟨by rw [rs.length, hlen]; exact hn, fun a na => ?_⟩) fun _ _ q => q⟩
    have gr := grow_upd (o := .lst vs) na
    refine q a vs ρ1 _ (st.trans (.grow hs1 gr)) (hs1.grow gr) upd_same ?_ (fun m => ?_) (rs.grow hs1 gr)
    · cases e : H a with
      | none => rfl
      | some o =>
        by_cases hm : a ∈ ρ
        · obtain ⟨o', e'⟩ := st.stay a hm
          rw [na] at e'
          cases e'
        · rw [st.keep a o e hm] at na
          cases na
    · obtain ⟨o, e, _⟩ := hs1.mut m
      rw [na] at e
      cases e
/-- a new list that nobody writes -/
theorem se_fz {l : L} (h : PE X e (tL p l)) : PE X e (tE p (.fz l)) :=
  PE.imp (PE.frozen h) fun σ H Q ⟨ρ, σd, S, es, hs, h⟩ => by
    rw [evE] at h
    refine ⟨ρ, σd, S, es, hs, (Ok.bind.mp h).mono (fun ds S1 q a xs ρ1 H1 st hs1 e1 n0 n1 rs => ⟨a, xs, rfl, e1, fun o => ?_⟩) fun _ _ q => q⟩
    obtain ⟨f1, f2, f3⟩ := hs1.freeze st (o := o) e1 n0 n1
    have rep : Rep p.K ρ1 (upd H1 a (.frz o (.lst xs))) (.ref a) (.lst ds) := .lst (.inl ⟨o, upd_same⟩) (Reps.mo f3 ds xs rs)
    exact q (.ref a) ρ1 _ f1 f2 (.inl rep) fun _ => rep
theorem fresh_of {ρ ρ1 : List Addr} {H H1 : Hp} {a : Addr} (st : Step ρ H ρ1 H1) (na : H1 a = none) : H a = none := by
  cases e : H a with
  | none => rfl
  | some o =>
    by_cases hm : a ∈ ρ
    · obtain ⟨o', e'⟩ := st.stay a hm
      rw [na] at e'
      cases e'
    · rw [st.keep a o e hm] at na
      cases na
theorem notin_of {K : PySem.W.Frag} {ρ1 : List Addr} {H1 : Hp} {S : DS} {a : Addr} (hs1 : HS K ρ1 H1 S) (na : H1 a = none) : a ∉ ρ1 := fun m => by
  obtain ⟨o, e, _⟩ := hs1.mut m
  rw [na] at e
  cases e
/-- a new list comes into the store -/
theorem se_al {l : L} (h : PE X e (tL p l)) : PE X e (tE p (.al l)) :=
  PE.imp h fun σ H Q ⟨ρ, σd, S, es, hs, h⟩ => by
    rw [evE] at h
    refine ⟨ρ, σd, S, es, hs, (Ok.bind.mp h).mono (fun ds S1 q a xs ρ1 H1 st hs1 e1 n0 n1 rs => ?_) fun _ _ q => q⟩
    obtain ⟨h1, h2, h3⟩ := hs1.alloc n1 e1 rs
    have st2 : Step ρ H (ρ1 ++ [a]) H1 := ⟨st.pre.trans h3, st.keep, st.tups, st.frzs, fun b m => (h2 b m).elim (st.new b) fun z => .inr (by rw [z]; exact n0), st.stay⟩
    have rep : Rep p.K (ρ1 ++ [a]) H1 (.ref a) (.ref S1.length) := .ref (by rw [← hs1.len, List.getElem?_append_right (Nat.le_refl _), Nat.sub_self]; rfl)
    exact q (.ref a) _ _ st2 h1 (.inl rep) fun _ => rep

/-! ### built-ins -/
theorem one_reading {f : D → Option D} {k : D → Option D} {σ : St} {H : Hp} {Q : VK} {ρ : List Addr} {σd : Env} {S : DS} (es : ES p.K p.own p.H0 ρ H σ σd) (hs : HS p.K ρ H S)
    (h : Ok ((evE p.cf pa σd >>= fun x => view x >>= fun x => ofO (f x)) S) (fun d S' => ∀ v ρ' H', Step ρ H ρ' H' → HS p.K ρ' H' S' → RepB p.K ρ' H' v d → Rep p.K ρ' H' v d → Q v H') (XQ p σ ρ H)) :
    tE p pa σ H (fun x H1 => rOne p.K f [x] H1 Q) := by
  refine seq1 es hs h fun vx x ρ1 H1 S1 st hs1 es1 rx _ h1 => ?_
  obtain ⟨x', rx', h2⟩ := view_ok hs1 rx h1
  obtain ⟨d, hd, hp⟩ := Ok.ofO.mp h2
  exact ⟨ρ1, S1, vx, x', d, rfl, hs1, rx', hd, fun v H3 gr r => hp v ρ1 H3 (st.trans (.grow hs1 gr)) (hs1.grow gr) (.inl r) r⟩
theorem se_b1B (f : B1) {x id : Str} {bid : String} {pn : Pos} (hc : CallR X (.builtin bid) (rOne p.K (b1D f))) (hg : Gl X x) (hm : X.mg x = none) (hv : bootBuiltins x = some (.builtin bid)) (ha : PE X a (tE p pa)) (hn : x ≠ "__name__") (hdb : (x == ("__debug__" : Str)) = false)
    (hst : starEach [a] X.env = (false, eval a X.env) :: starEach [] X.env) (hpl : (backTo pos (starEach [] X.env)).any (·.1) = false) : PE X (.Call (.Name x pn) [a] [] pos) (tE p (.b1 f pa)) :=
  PE.imp (pe_callB hc hg hm hv (pa_cons ha pa_nil hst) hn hdb hst hpl) fun σ H Q ⟨ρ, σd, S, es, hs, h⟩ => by
    rw [evE] at h
    exact one_reading (k := fun _ => none) es hs (h.mono (fun d S' q v ρ' H' st hs' r r' => q v ρ' H' st hs' r fun _ => r') fun _ _ q => q)
theorem se_b1T (f : B1) {x : Str} {T : String} {pn : Pos} (hc : CallR X (.type T) (rOne p.K (b1D f))) (hg : Gl X x) (hm : X.mg x = none) (hv : bootBuiltins x = some (.type T)) (ha : PE X a (tE p pa)) (hn : x ≠ "__name__") (hdb : (x == ("__debug__" : Str)) = false)
    (hst : starEach [a] X.env = (false, eval a X.env) :: starEach [] X.env) (hpl : (backTo pos (starEach [] X.env)).any (·.1) = false) : PE X (.Call (.Name x pn) [a] [] pos) (tE p (.b1 f pa)) :=
  PE.imp (pe_callTy hc hg hm hv (pa_cons ha pa_nil hst) hn hdb hst hpl) fun σ H Q ⟨ρ, σd, S, es, hs, h⟩ => by
    rw [evE] at h
    exact one_reading (k := fun _ => none) es hs (h.mono (fun d S' q v ρ' H' st hs' r r' => q v ρ' H' st hs' r fun _ => r') fun _ _ q => q)
end
end MP
end
section
set_option Elab.async false
set_option linter.all false
set_option maxRecDepth 100000
set_option maxHeartbeats 2000000
/-! MPT: places, slices, methods, calls of own defs. -/
namespace MP
open PySem PySem.Spec PyProof.Rows L2
section
variable {X : Cx} {p : Pm} {a b c e : Expr} {pa pb pc : E} {pos : Pos}

theorem se_isin (g : Good X p) (T : Ty) {x : Str} {pn pt : Pos} (hgi : Gl X "isinstance") (hmi : X.mg "isinstance" = none) (hvi : bootBuiltins "isinstance" = some (.builtin "isinstance")) (hg : Gl X x) (hm : X.mg x = none) (hv : bootBuiltins x = some (.type (tyN T))) (hn : x ≠ "__name__") (hdb : (x == ("__debug__" : Str)) = false)
    (ha : PE X a (tE p pa)) (hst : starEach [a, .Name x pt] X.env = (false, eval a X.env) :: starEach [.Name x pt] X.env) (hpl : (backTo pos (starEach [.Name x pt] X.env)).any (·.1) = false) : PE X (.Call (.Name "isinstance" pn) [a, .Name x pt] [] pos) (tE p (.isin pa T)) :=
  PE.imp (pe_callB (b_isin g.K T) hgi hmi hvi (pa_cons ha (pa_cons (pe_bltn (v := .ty (tyN T)) hg hm hv rfl hn hdb) pa_nil) hst) (by decide) (by decide) hst hpl) fun σ H Q ⟨ρ, σd, S, es, hs, h⟩ => by
    rw [evE] at h
    refine seq1 es hs h fun vx x ρ1 H1 S1 st hs1 es1 rx _ h1 => ?_
    obtain ⟨x', rx', h2⟩ := view_ok hs1 rx h1
    obtain ⟨d, hd, hp⟩ := Ok.ofO.mp (Ok.bind.mp h2)
    exact ⟨ρ1, S1, vx, x', d, rfl, hs1, rx', hd, hp (.bl d) ρ1 H1 st hs1 (.inl (.bl _)) fun _ => .bl _⟩
theorem se_idx (g : Good X p) (ha : PE X a (tE p pa)) (hb : PE X b (tE p pb)) (hs : PlainIx b) : PE X (.Subscript a b pos) (tE p (.idx pa pb)) :=
  PE.imp (pe_ix (ix_any g.K) ha hb hs) fun σ H Q ⟨ρ, σd, S, es, hs, h⟩ => by
    rw [evE] at h
    refine seq2 es hs h fun vx vy x y ρ2 H2 S2 st hs2 es2 rx ry _ _ h2 => ?_
    obtain ⟨x', rx', h3⟩ := view_ok hs2 rx h2
    obtain ⟨d, hd, hp⟩ := Ok.ofO.mp h3
    exact ⟨ρ2, S2, x', y, d, hs2, rx', ry.v, hd, fun v H3 gr r => hp v ρ2 H3 (st.trans (.grow hs2 gr)) (hs2.grow gr) (.inl r) fun _ => r⟩

/-! ### slices -/
def tP (p : Pm) (e : E) : TO := fun σ H Q => ∃ ρ σd S, ES p.K p.own p.H0 ρ H σ σd ∧ HS p.K ρ H S ∧
  Ok (evP p.cf e σd S) (fun d S' => ∀ l ρ' H', Step ρ H ρ' H' → HS p.K ρ' H' S' → bord d = some l → Q l H') (XQ p σ ρ H)
theorem PO.imp {o : Option Expr} {t t' : TO} (h : PO X o t) (i : ∀ σ H Q, t' σ H Q → t σ H Q) : PO X o t' := ⟨fun pins s σ H Q I q => h.run pins s σ H Q I (i σ H Q q)⟩
theorem sp_none : PO X none (tP p .nop) := PO.imp po_none fun σ H Q ⟨ρ, σd, S, es, hs, h⟩ => by
  rw [evP] at h
  exact h none ρ H (.refl hs) hs rfl
theorem sp_some (ha : PE X a (tE p pa)) (hn : pa ≠ .nop) : PO X (some a) (tP p pa) := PO.imp (po_some ha) fun σ H Q ⟨ρ, σd, S, es, hs, h⟩ => by
  rw [evP] at h
  · refine seq1 es hs h fun vx x ρ1 H1 S1 st hs1 es1 rx rv h1 => ?_
    cases x <;> first | exact h1.elim | skip
    case int i => exact ⟨i, rx.v.int_inv, h1 (some i) ρ1 H1 st hs1 rfl⟩
  · exact hn
theorem seqP {α : Type} {pa : E} {k : D → M α} {P : α → DS → Prop} {σ : St} {H : Hp} {ρ : List Addr} {σd : Env} {S : DS} {R : Option Int → Hp → Prop} (es : ES p.K p.own p.H0 ρ H σ σd) (hs : HS p.K ρ H S) (h : Ok ((evP p.cf pa σd >>= k) S) P (XQ p σ ρ H))
    (f : ∀ l d ρ1 H1 S1, Step ρ H ρ1 H1 → HS p.K ρ1 H1 S1 → ES p.K p.own p.H0 ρ1 H1 σ σd → bord d = some l → Ok (k d S1) P (XQ p σ ρ1 H1) → R l H1) : tP p pa σ H R := by
  refine ⟨ρ, σd, S, es, hs, (Ok.bind.mp h).mono (fun d S1 q l ρ1 H1 st hs1 hb => ?_) fun _ _ q => q⟩
  exact f l d ρ1 H1 S1 st hs1 (es.step st) hb (q.mono (fun _ _ q => q) fun _ _ q => q.step st)
theorem se_sl (g : Good X p) {lo hi : Option Expr} {pl ph : E} {p2 : Pos} (ha : PE X a (tE p pa)) (hl : PO X lo (tP p pl)) (hh : PO X hi (tP p ph)) : PE X (.Subscript a (.Slice lo hi none p2) pos) (tE p (.sl pa pl ph)) :=
  PE.imp (pe_slice (sl_any g.K) ha hl hh) fun σ H Q ⟨ρ, σd, S, es, hs, h⟩ => by
    rw [evE] at h
    refine seq1 es hs h fun vx x ρ1 H1 S1 st hs1 es1 rx rv h1 => ?_
    refine seqP es1 hs1 h1 fun l dl ρ2 H2 S2 st2 hs2 es2 hbl h2 => ?_
    refine seqP es2 hs2 h2 fun u du ρ3 H3 S3 st3 hs3 es3 hbu h3 => ?_
    obtain ⟨x', rx', h4⟩ := view_ok hs3 ((rx.step st2).step st3) h3
    obtain ⟨d, hd, hp⟩ := Ok.ofO.mp h4
    exact ⟨ρ3, S3, x', dl, du, d, hs3, rx', hbl, hbu, hd, fun v H4 gr r => hp v ρ3 H4 (((st.trans st2).trans st3).trans (.grow hs3 gr)) (hs3.grow gr) (.inl r) fun _ => r⟩

/-! ### new lists by operators -/
/-- a result: a new list -/
def ResL (K : PySem.W.Frag) (ρ : List Addr) (H : Hp) (ds : List D) (Q : VK) : Prop := ∀ a xs, H a = none → Reps K ρ (upd H a (.lst xs)) xs ds → Q (.ref a) (upd H a (.lst xs))
theorem ResL.of {K : PySem.W.Frag} {ρ : List Addr} {H : Hp} {S : DS} {ds : List D} {xs : List V} {Q : VK} (r : ResL K ρ H ds Q) (hs : HS K ρ H S) (q : Reps K ρ H xs ds) : ∀ a, H a = none → Q (.ref a) (upd H a (.lst xs)) := fun a n => r a xs n (q.grow hs (grow_upd n))
theorem tL_res {σ : St} {ρ ρ1 : List Addr} {H H1 : Hp} {S1 : DS} {ds : List D} {Q : VK} (st : Step ρ H ρ1 H1) (hs1 : HS p.K ρ1 H1 S1)
    (hp : ∀ a xs ρ' H', Step ρ H ρ' H' → HS p.K ρ' H' S1 → H' a = some (.lst xs) → H a = none → a ∉ ρ' → Reps p.K ρ' H' xs ds → Q (.ref a) H') : ResL p.K ρ1 H1 ds Q := fun a xs n rs =>
  hp a xs ρ1 _ (st.trans (.grow hs1 (grow_upd n))) (hs1.grow (grow_upd n)) upd_same (fresh_of st n) (notin_of hs1 n) rs
def rCutL (K : PySem.W.Frag) : V → Option Int → Option Int → Hp → VK → Prop := fun x lo hi H Q => ∃ ρ S a l u ds, HS K ρ H S ∧ RepV K ρ H x a ∧ bord l = some lo ∧ bord u = some hi ∧ slL a l u = some ds ∧ ResL K ρ H ds Q
theorem sl_lst {K : PySem.W.Frag} (hK : K = X.K) : SlR X (rCutL K) := by
  subst hK
  intro pins s σ H x v vl vu lo hi sl Q I rx hsl pl pu h
  obtain ⟨ρ, S, a, l, u, d, hs, ra, b1, b2, hf, q⟩ := h
  cases a <;> first | (simp [slL] at hf; done) | skip
  case lst xs =>
    simp only [slL] at hf
    obtain ⟨l', u', e1, e2, rfl⟩ := cut_eq hf
    cases bord_inj b1 e1
    cases bord_inj b2 e2
    obtain ⟨a, vs, ex, t1, r1⟩ := ra.lst_inv
    refine sl_list pins s σ H x v vl vu lo hi sl Q I rx hsl pl pu ⟨a, vs, ex, t1, q.of hs ?_⟩
    unfold cutV
    rw [r1.length]
    exact (r1.drop _).take _
theorem sl_sl (g : Good X p) {lo hi : Option Expr} {pl ph : E} {p2 : Pos} (ha : PE X a (tE p pa)) (hl : PO X lo (tP p pl)) (hh : PO X hi (tP p ph)) : PE X (.Subscript a (.Slice lo hi none p2) pos) (tL p (.sl pa pl ph)) :=
  PE.imp (pe_slice (sl_lst g.K) ha hl hh) fun σ H Q ⟨ρ, σd, S, es, hs, h⟩ => by
    rw [evL] at h
    refine seq1 es hs h fun vx x ρ1 H1 S1 st hs1 es1 rx rv h1 => ?_
    refine seqP es1 hs1 h1 fun l dl ρ2 H2 S2 st2 hs2 es2 hbl h2 => ?_
    refine seqP es2 hs2 h2 fun u du ρ3 H3 S3 st3 hs3 es3 hbu h3 => ?_
    obtain ⟨x', rx', h4⟩ := view_ok hs3 ((rx.step st2).step st3) h3
    obtain ⟨d, hd, hp⟩ := Ok.ofO.mp h4
    exact ⟨ρ3, S3, x', dl, du, d, hs3, rx', hbl, hbu, hd, tL_res (σ := σ) ((st.trans st2).trans st3) hs3 hp⟩
def rBL (K : PySem.W.Frag) (f : D → D → Option (List D)) : R2 := fun x y H Q => ∃ ρ S a b ds, HS K ρ H S ∧ RepV K ρ H x a ∧ RepV K ρ H y b ∧ f a b = some ds ∧ ResL K ρ H ds Q
theorem op_catL {K : PySem.W.Frag} (hK : K = X.K) : OpR X (binaryOp .Add) (rBL K (l2D .cat)) := by
  subst hK
  intro pins s σ H x y v u Q I rx ry h
  obtain ⟨ρ, S, a, b, d, hs, ra, rb, hf, q⟩ := h
  cases a <;> cases b <;> first | (simp [l2D] at hf; done) | skip
  case lst.lst xs ys =>
    simp only [l2D] at hf
    split at hf
    · rename_i hl
      cases hf
      obtain ⟨a, vs, e1, t1, r1⟩ := ra.lst_rd
      obtain ⟨b, ws, e2, t2, r2⟩ := rb.lst_rd
      exact op_catR pins s σ H x y v u Q I rx ry ⟨a, b, vs, ws, e1, e2, t1, t2, by rw [r1.length, r2.length]; exact hl, q.of hs (r1.app r2)⟩
    · cases hf
theorem op_repL {K : PySem.W.Frag} (hK : K = X.K) : OpR X (binaryOp .Mult) (rBL K (l2D .rep)) := by
  subst hK
  intro pins s σ H x y v u Q I rx ry h
  obtain ⟨ρ, S, a, b, d, hs, ra, rb, hf, q⟩ := h
  cases a <;> cases b <;> first | (simp [l2D] at hf; done) | skip
  case lst.int xs k =>
    simp only [l2D] at hf
    split at hf
    · rename_i hl
      cases hf
      obtain ⟨a, vs, e1, t1, r1⟩ := ra.lst_rd
      exact op_repR pins s σ H x y v u Q I rx ry ⟨a, k, vs, e1, rb.int_inv, t1, by omega, by omega, by rw [r1.length]; exact hl.1, q.of hs (r1.repl _)⟩
    · cases hf
theorem sl_op (f : Lg) {op : Operator} (hr : OpR X (binaryOp op) (rBL p.K (l2D f))) (ha : PE X a (tE p pa)) (hb : PE X b (tE p pb)) : PE X (.BinOp a op b pos) (tL p (.l2 f pa pb)) :=
  PE.imp (pe_op hr ha hb) fun σ H Q ⟨ρ, σd, S, es, hs, h⟩ => by
    rw [evL] at h
    refine seq2 es hs h fun vx vy x y ρ2 H2 S2 st hs2 es2 rx ry _ _ h2 => ?_
    obtain ⟨x', rx', h3⟩ := view_ok hs2 rx h2
    obtain ⟨y', ry', h4⟩ := view_ok hs2 ry h3
    obtain ⟨d, hd, hp⟩ := Ok.ofO.mp h4
    exact ⟨ρ2, S2, x', y', d, hs2, rx', ry', hd, tL_res (σ := σ) st hs2 hp⟩

/-! ### methods of texts -/
theorem se_join (g : Good X p) {apos : Pos} (ha : PE X a (tE p pa)) (hb : PE X b (tE p pb)) (hs1 : starEach [b] X.env = [(false, eval b X.env)]) (hbase : attributeBase a "join" X.env (eval a X.env) = eval a X.env) (hline : (apos.endLine == pos.line) = true) :
    PE X (.Call (.Attribute a "join" apos) [b] [] pos) (tE p (.b2 .join pa pb)) :=
  PE.imp (pe_join ha hb hs1 hbase hline) fun σ H Q ⟨ρ, σd, S, es, hs, h⟩ => by
    rw [evE] at h
    refine seq1 es hs h fun vx x ρ1 H1 S1 st hs1 es1 rx rvx h1 => ?_
    obtain ⟨z, hz0, h1⟩ := Ok.ofO.mp (Ok.bind.mp h1)
    cases x <;> first | (simp [asS] at hz0; done) | skip
    case str z' =>
      simp only [asS, Option.some.injEq] at hz0
      subst hz0
      refine ⟨⟨_, rx.v.str_inv⟩, seq1 es1 hs1 h1 fun vy y ρ2 H2 S2 st2 hs2 es2 ry rvy h2 => ?_⟩
      obtain ⟨y', ry', h4⟩ := view_ok hs2 ry h2
      obtain ⟨d, hd, hp⟩ := Ok.ofO.mp h4
      have hvx := (rx.step st2).v.str_inv
      cases y' <;> first | (simp [b2D] at hd; done) | skip
      case lst ds =>
        simp only [b2D] at hd
        obtain ⟨zs, hz, hd⟩ := Option.bind_eq_some_iff.mp hd
        split at hd
        · rename_i hl
          cases hd
          obtain ⟨q, ws, ex, t1, r1⟩ := ry'.lst_inv
          rw [strs_reps hz r1] at t1
          have e : Txt.join (toS z') (zs.map toS) = toS (joinBy z' zs) := SX.join_S z' zs
          refine ⟨toS z', q, zs.map toS, hvx, by rw [ex], by rw [g.K] at t1; exact .inl t1, ?_, ?_⟩
          · rw [toS_len, List.length_map, show (zs.map toS).map (·.length) = zs.map (·.length) from SX.lens zs]
            exact hl
          · rw [e]
            exact hp _ ρ2 H2 (st.trans st2) hs2 (.inl (.str _)) fun _ => .str _
        · cases hd
      case tup ds =>
        simp only [b2D] at hd
        obtain ⟨zs, hz, hd⟩ := Option.bind_eq_some_iff.mp hd
        split at hd
        · rename_i hl
          cases hd
          obtain ⟨q, ws, ex, t1, r1⟩ := ry'.tup_inv
          rw [strs_reps hz r1] at t1
          have e : Txt.join (toS z') (zs.map toS) = toS (joinBy z' zs) := SX.join_S z' zs
          refine ⟨toS z', q, zs.map toS, hvx, by rw [ex], by rw [g.K] at t1; exact .inr t1, ?_, ?_⟩
          · rw [toS_len, List.length_map, show (zs.map toS).map (·.length) = zs.map (·.length) from SX.lens zs]
            exact hl
          · rw [e]
            exact hp _ ρ2 H2 (st.trans st2) hs2 (.inl (.str _)) fun _ => .str _
        · cases hd

theorem sl_split (g : Good X p) {apos : Pos} (ha : PE X a (tE p pa)) (hb : PE X b (tE p pb)) (hs1 : starEach [b] X.env = [(false, eval b X.env)]) (hbase : attributeBase a "split" X.env (eval a X.env) = eval a X.env) (hline : (apos.endLine == pos.line) = true) :
    PE X (.Call (.Attribute a "split" apos) [b] [] pos) (tL p (.split pa pb)) :=
  PE.imp (pe_split ha hb hs1 hbase hline) fun σ H Q ⟨ρ, σd, S, es, hs, h⟩ => by
    rw [evL] at h
    refine seq1 es hs h fun vx x ρ1 H1 S1 st hs1 es1 rx rvx h1 => ?_
    obtain ⟨z, hz0, h1⟩ := Ok.ofO.mp (Ok.bind.mp h1)
    cases x <;> first | (simp [asS] at hz0; done) | skip
    case str z' =>
      simp only [asS, Option.some.injEq] at hz0
      subst hz0
      refine ⟨⟨_, rx.v.str_inv⟩, seq1 es1 hs1 h1 fun vy y ρ2 H2 S2 st2 hs2 es2 ry rvy h2 => ?_⟩
      obtain ⟨d, hd, hp⟩ := Ok.ofO.mp h2
      have hvx := (rx.step st2).v.str_inv
      cases y <;> first | (simp [l2D] at hd; done) | skip
      case str w =>
        match w with
        | [] => simp [l2D] at hd
        | _ :: _ :: _ => simp [l2D] at hd
        | [c] =>
          simp only [l2D] at hd
          split at hd
          · rename_i hl
            cases hd
            refine ⟨toS z', toS [c], hvx, by rw [ry.v.str_inv], rfl, by rw [toS_len]; exact hl.1, ?_⟩
            rw [split_at1 c z' hl.2]
            have rep : ∀ {K : PySem.W.Frag} {ρ : List Addr} {H : Hp} (l : List (List Nat)), Reps K ρ H ((l.map toS).map V.str) (l.map D.str) := by
              intro K ρ H l
              induction l with
              | nil => exact .nil
              | cons x l ih => exact .cons (.str x) ih
            exact (tL_res (σ := σ) (st.trans st2) hs2 hp).of hs2 (rep _)
          · cases hd
end
end MP
end
section
set_option Elab.async false
set_option linter.all false
set_option maxRecDepth 100000
set_option maxHeartbeats 2000000
/-! MPI: what a loop walks: lists, tuples, texts, enumerate, zip over any of them. -/
namespace MP
open PySem PySem.Spec PyProof.Rows L2

/-! ### one sequence -/
inductive Kd where
  | l (a : Addr)
  | t (a : Addr)
  | s (x : Str)
def Kd.v : Kd → V
  | .l a => .ref a
  | .t a => .ref a
  | .s x => .str x
def sgn (x : Str) : List V := x.cps.toList.map fun c => V.str ⟨#[c]⟩
def Kd.is (K : PySem.W.Frag) (H : Hp) : Kd → List V → Prop
  | .l a, xs => SqL K H a xs
  | .t a, xs => SqT K H a xs
  | .s x, xs => xs = sgn x
def Kd.at : Kd → Addr → Nat → Heap → Prop
  | .l a, it, i, h => h.IsListIter it a i
  | .t a, it, i, h => h.IsTupleIter it a i
  | .s x, it, i, h => ∃ t, h.IsStrIter it (strIterType x) x t i
def Kd.ap : Kd → Addr → Prop
  | .l a, b => a ≠ b
  | .t a, b => a ≠ b
  | .s _, _ => True
def Kd.fp : Kd → Addr → List Addr
  | .l a, it => [it, a]
  | .t a, it => [it, a]
  | .s _, it => [it]
theorem Kd.mem (k : Kd) (it : Addr) : it ∈ k.fp it := by cases k <;> exact List.mem_cons_self ..
theorem Kd.notin {k : Kd} {it b : Addr} (h : k.ap b) (n : b ≠ it) : b ∉ k.fp it := by
  cases k <;> simp only [Kd.fp, List.mem_cons, List.not_mem_nil, or_false, not_or] <;> first | exact ⟨n, fun z => h z.symm⟩ | exact n
theorem sgn_get {x : Str} {i : Nat} {c : Nat} (h : x.cps[i]? = some c) : (sgn x)[i]? = some (.str ⟨#[c]⟩) := by
  unfold sgn
  rw [List.getElem?_map, Array.getElem?_toList, h]
  rfl
section
variable {X : Cx} {pins : List (Addr × Obj)} {σ : St} {H : Hp} {s : Shared}
theorem Kd.inj (I : Inv X pins σ H s) {k : Kd} {xs ys : List V} (h1 : k.is X.K H xs) (h2 : k.is X.K H ys) : xs = ys := by
  cases k with
  | l a => exact I.list_inj h1 h2
  | t a => exact I.tuple_inj h1 h2
  | s x =>
    have e1 : xs = sgn x := h1
    have e2 : ys = sgn x := h2
    rw [e1, e2]
theorem Kd.obj {k : Kd} {it : Addr} {i : Nat} {h : Heap} (st : k.at it i h) : ∃ o, h.get? it = some o ∧ ∀ v, o.data ≠ .cell v := by
  cases k with
  | l a => obtain ⟨o, e, c, d⟩ := st; exact ⟨o, e, fun v z => by rw [d] at z; cases z⟩
  | t a => obtain ⟨o, e, c, d⟩ := st; exact ⟨o, e, fun v z => by rw [d] at z; cases z⟩
  | s x => obtain ⟨t, o, e, c, d⟩ := st; exact ⟨o, e, fun v z => by rw [d] at z; cases z⟩
theorem Kd.keep {k : Kd} {it : Addr} {i : Nat} {h h' : Heap} (st : k.at it i h) (kk : ∀ o, h.get? it = some o → h'.get? it = some o) : k.at it i h' := by
  cases k with
  | l a => exact Heap.IsListIter.at st kk
  | t a => exact Heap.IsTupleIter.at st kk
  | s x => obtain ⟨t, o, e, r⟩ := st; exact ⟨t, o, kk o e, r⟩
theorem valsR {xs : List V} {us : List Value} {i : Nat} {u : Value} (r : Vals xs us) (e : us[i]? = some u) : ∃ x, xs[i]? = some x ∧ RelV x u := by
  have hl := r.length
  have hi : i < xs.length := by rw [hl]; exact (List.getElem?_eq_some_iff.mp e).1
  obtain ⟨u', e', ru⟩ := r.get (List.getElem?_eq_getElem hi)
  rw [e] at e'
  cases e'
  exact ⟨_, List.getElem?_eq_getElem hi, ru⟩
theorem Kd.draws (I : Inv X pins σ H s) (hc : X.calm = true) {k : Kd} {it : Addr} {i : Nat} {xs : List V} (hap : k.ap it) (h : k.is X.K H xs) (st : k.at it i s.heap) :
    ∃ P Sx, Draws X.prog X.w X.A.in1 it (k.fp it) xs.length P Sx ∧ Sx i s.heap ∧ (∀ j u, P j u → ∃ x, xs[j]? = some x ∧ RelV x u) ∧ (∀ j h, Sx j h → k.at it j h) := by
  have hh := I.ok.hd hc
  cases k with
  | l a =>
    obtain ⟨its, rv, p, hz⟩ := I.list h
    have e := rv.length
    refine ⟨fun i v => its.toArray[i]? = some v, fun i h => h.IsListIter it a i ∧ h.IsList a its.toArray, ?_, ⟨st, p.isList⟩, ?_, fun j h q => q.1⟩
    · have D := Draws.list (prog := X.prog) (w := X.w) (A := X.A.in1) hh it a hap its.toArray
      rw [List.size_toArray, ← e] at D
      exact D
    · intro j u q
      have q' : its[j]? = some u := by simpa using q
      exact valsR rv q'
  | t a =>
    obtain ⟨its, rv, p, hz⟩ := I.tuple h
    have e := rv.length
    refine ⟨fun i v => its.toArray[i]? = some v, fun i h => h.IsTupleIter it a i ∧ h.IsTuple a its.toArray, ?_, ⟨st, p⟩, ?_, fun j h q => q.1⟩
    · have D := Draws.tuple (prog := X.prog) (w := X.w) (A := X.A.in1) hh it a hap its.toArray
      rw [List.size_toArray, ← e] at D
      exact D
    · intro j u q
      have q' : its[j]? = some u := by simpa using q
      exact valsR rv q'
  | s x =>
    obtain ⟨t, st⟩ := st
    have ex : xs = sgn x := h
    subst ex
    refine ⟨fun i v => ∃ c u, x.cps[i]? = some c ∧ v = .str ⟨#[c]⟩ u, fun i h => h.IsStrIter it (strIterType x) x t i, ?_, st, ?_, fun j h q => ⟨t, q⟩⟩
    · have D := Draws.text (prog := X.prog) (w := X.w) (A := X.A.in1) hh it x t
      rw [show (sgn x).length = x.cps.size by simp [sgn]]
      exact D
    · intro j u ⟨c, u', e1, e2⟩
      subst e2
      exact ⟨_, sgn_get e1, ⟨_, rfl⟩⟩
end

theorem Turn.weak {P : Program} {w : World} {K : PySem.W.Frag} {tg : Expr} {J J' : It} {fp : List Addr} {it : Addr} {tn : Nat → Heap → Prop} (T : Turn P w K tg J fp it tn) (h1 : ∀ i H, J'.go i H → J.go i H) (h2 : ∀ i H x H', J.yld i H x H' → J'.yld i H x H') (h3 : ∀ i H, J'.stop i H → J.stop i H) : Turn P w K tg J' fp it tn where
  mem := T.mem
  obj := T.obj
  keep := T.keep
  item := fun X a b c d i pins s σ H E I hf st hg => thn (T.item X a b c d i pins s σ H E I hf st (h1 _ _ hg)) fun r s1 ⟨u, hr, h4⟩ => ⟨u, hr, thn h4 fun _ s2 ⟨x, H', q1, q2, q3, q4⟩ => ⟨x, H', q1, q2, h2 _ _ _ _ q3, q4⟩⟩
  done := fun X a b c d i pins s σ H E I hf st hg => T.done X a b c d i pins s σ H E I hf st (h3 _ _ hg)
  self := T.self
def Itk (K : PySem.W.Frag) (k : Kd) : It :=
  ⟨fun i H => ∃ xs x, k.is K H xs ∧ xs[i]? = some x, fun i H x H' => H' = H ∧ ∀ xs, k.is K H xs → xs[i]? = some x, fun i H => ∃ xs, k.is K H xs ∧ xs.length = i⟩
theorem turn_kd {P : Program} {w : World} {K : PySem.W.Frag} {tg : Expr} (k : Kd) {it : Addr} {h : Heap} (st : k.at it 0 h) : ∃ tn, Turn P w K tg (Itk K k) [it] it tn ∧ tn 0 h := by
  cases k with
  | l a => exact ⟨_, Turn.weak (turn_list a it) (fun i H h => h) (fun i H x H' h => h) fun i H ⟨xs, h1, h2⟩ => ⟨xs, h1, Nat.le_of_eq h2⟩, st⟩
  | t a => exact ⟨_, Turn.weak (turn_tuple a it) (fun i H h => h) (fun i H x H' h => h) fun i H ⟨xs, h1, h2⟩ => ⟨xs, h1, Nat.le_of_eq h2⟩, st⟩
  | s x =>
    obtain ⟨t, st⟩ := st
    refine ⟨_, Turn.weak (turn_str it x t (strIterType x) ?_) (fun i H ⟨xs, y, h1, h2⟩ => ?_) (fun i H y H' ⟨h1, c, h2, h3⟩ => ⟨h1, fun xs e => ?_⟩) (fun i H ⟨xs, h1, h2⟩ => ?_), st⟩
    · unfold strIterType
      split
      · exact .inl rfl
      · exact .inr rfl
    · have e : xs = sgn x := h1
      subst e
      have := (List.getElem?_eq_some_iff.mp h2).1
      rw [show (sgn x).length = x.cps.size by simp [sgn]] at this
      exact this
    · have e' : xs = sgn x := e
      subst e'
      subst h3
      exact sgn_get h2
    · have e : xs = sgn x := h1
      subst e
      rw [show (sgn x).length = x.cps.size by simp [sgn]] at h2
      exact Nat.le_of_eq h2
/-- a new iterator -/
def Kd.ob : Kd → Tok → Obj
  | .l a, _ => { cls := .type "list_iterator", data := .fields #[.ref a, .int 0 0] }
  | .t a, _ => { cls := .type "tuple_iterator", data := .fields #[.ref a, .int 0 0] }
  | .s x, u => { cls := .type (strIterType x), data := .fields #[.str x u, .int 0 0] }
theorem Kd.at0 {k : Kd} {t : Tok} {it : Addr} {h : Heap} (e : h.get? it = some (k.ob t)) : k.at it 0 h := by
  cases k with
  | l a => exact ⟨_, e, rfl, rfl⟩
  | t a => exact ⟨_, e, rfl, rfl⟩
  | s x => exact ⟨t, _, e, rfl, rfl⟩
section
variable {X : Cx} {pins : List (Addr × Obj)} {σ : St} {H : Hp} {s : Shared}
theorem Kd.begins (I : Inv X pins σ H s) {k : Kd} {xs : List V} {u : Value} (h : k.is X.K H xs) (r : RelV k.v u) : ∃ t Hh, Begins u (k.ob t) Hh ∧ Hh s.heap ∧ ∀ b, s.heap.objs.size ≤ b → k.ap b := by
  cases k with
  | l a =>
    cases r
    obtain ⟨its, rv, p, hz⟩ := I.list h
    exact ⟨0, _, begins_list a its.toArray, p.isList, fun b hb => Nat.ne_of_lt (Nat.lt_of_lt_of_le p.lt hb)⟩
  | t a =>
    cases r
    obtain ⟨its, rv, p, hz⟩ := I.tuple h
    exact ⟨0, _, begins_tuple a its.toArray, p, fun b hb => Nat.ne_of_lt (Nat.lt_of_lt_of_le (by obtain ⟨o, e, _⟩ := p; exact Heap.lt_size e) hb)⟩
  | s x =>
    obtain ⟨t, e⟩ := r
    subst e
    exact ⟨t, _, begins_text x t, trivial, fun b hb => trivial⟩
end
/-- a sequence is walked -/
def iKd (K : PySem.W.Frag) (te : TE) : TI := fun σ H R => te σ H fun v H1 => ∃ k xs, v = Kd.v k ∧ k.is K H1 xs ∧ R (Itk K k) H1
theorem pi_kd {X : Cx} {tg e : Expr} {te : TE} (he : PE X e te) : PI X tg e (iKd X.K te) := by
  refine ⟨fun pins s σ H R I h => ?_⟩
  refine thn (he.run pins s σ H _ I h) fun u s1 ⟨v, H1, I1, r1, k, xs, ev, hk, q⟩ => ?_
  subst ev
  obtain ⟨t, Hh, B, hb, ap⟩ := Kd.begins I1 hk r1
  refine B.iter _ _ _ _ _ _ hb ?_
  have e : (s1.heap.push (k.ob t)).get? s1.heap.objs.size = some (k.ob t) := Heap.get?_push_size _ B.free
  obtain ⟨tn, T, st⟩ := turn_kd (P := X.prog) (w := X.w) (K := X.K) (tg := tg) k (Kd.at0 e)
  exact pi_one (tk := s1.toks) I1 _ T st q

/-! ### enumerate -/
def Itek (K : PySem.W.Frag) (k : Kd) : It :=
  ⟨fun i H => ∃ (xs : List V) (x : V), k.is K H xs ∧ xs[i]? = some x, fun i H v H' => ∃ T x, v = .ref T ∧ H T = none ∧ H' = upd H T (.tup [.int (i : Nat), x]) ∧ ∀ xs, k.is K H xs → xs[i]? = some x, fun i H => ∃ xs : List V, k.is K H xs ∧ xs.length = i⟩
theorem turn_enumK {P : Program} {w : World} {K : PySem.W.Frag} {elts : List Expr} {kk : Nat} {tpos : Pos} {k : Kd} {e it : Addr} (hne : e ≠ it) (a1 : k.ap e) (a2 : k.ap it) :
    Turn P w K (.Tuple elts kk tpos) (Itek K k) [e, it] e (fun i h => (∃ old, IsEnum h e it ((i : Nat) : Int) old) ∧ k.at it i h) where
  mem := by simp
  obj := fun i h st b hb => by
    obtain ⟨⟨old, he⟩, h2⟩ := st
    obtain ⟨o, ho, hd⟩ := Kd.obj h2
    have e' : b = e ∨ b = it := by simpa using hb
    rcases e' with z | z
    · rw [z]; exact ⟨_, he, fun v q => nomatch q⟩
    · rw [z]; exact ⟨o, ho, hd⟩
  keep := fun i h h' st k => let ⟨⟨old, he⟩, hi⟩ := st; ⟨⟨old, k e (by simp) _ he⟩, Kd.keep hi fun o q => k it (by simp) o q⟩
  item := by
    intro X hP hw hK hc i pins s σ H E I hf st hg
    subst hP hw hK
    obtain ⟨he, hit⟩ := st
    obtain ⟨xs, x, hq, hx⟩ := hg
    obtain ⟨P, Sx, D, st, hY, hat⟩ := Kd.draws I hc a2 hq hit
    have W := GoesN.enumFrom (elts := elts) (x1 := kk) (pos := tpos) 0 D e hne (Kd.notin a1 hne) (Kd.mem k it)
    have hlt := (List.getElem?_eq_some_iff.mp hx).1
    refine thn (W.goes i s (fun v s2 => ∃ x H', Inv X pins σ H' s2 ∧ RelV x v ∧ (Itek X.K k).yld i H x H' ∧ ((∃ old, IsEnum s2.heap e it ((i + 1 : Nat) : Int) old) ∧ k.at it (i + 1) s2.heap) ∧ ∀ b ∈ [e, it], H' b = none) E hlt ⟨?_, st⟩ fun v h' tk hy st' hk htk => ?_) fun r s1 ⟨v, hr, h4⟩ => ⟨v, hr, h4⟩
    · obtain ⟨old, he⟩ := he
      exact ⟨old, by rw [Int.zero_add]; exact he⟩
    · obtain ⟨T, t, u, ev, hT, hu, hT2⟩ := hy
      subst ev
      obtain ⟨x', hx', ru⟩ := hY i u hu
      have new : ObjOk X.prog X.w (upd H T (.tup [.int (i : Nat), x'])) h' T (.tup [.int (i : Nat), x']) := by
        refine ⟨by show 2 ≤ sizeLine; decide, [.int (0 + (i : Int)) t, u], .cons ⟨t, by rw [Int.zero_add]⟩ (.cons ru .nil), hT2⟩
      have I1 : Inv X pins σ (upd H T (.tup [.int (i : Nat), x'])) { s with heap := h', toks := tk } := I.turnedNew (ch := [e, it]) hk hf hT new
      refine ⟨.ref T, _, I1, rfl, ⟨T, x', rfl, I.hok.fresh hT, rfl, fun ys hys => by rw [Kd.inj I hys hq]; exact hx'⟩, ⟨?_, hat _ _ st'.2⟩, fun b hb => ?_⟩
      · obtain ⟨old, he'⟩ := st'.1
        exact ⟨old, by rw [Int.zero_add] at he'; exact he'⟩
      · have hb' : b < s.heap.objs.size := by
          have e' : b = e ∨ b = it := by simpa using hb
          rcases e' with z | z
          · rw [z]; obtain ⟨old, he⟩ := he; exact Heap.lt_size he
          · rw [z]; obtain ⟨o, ho, _⟩ := Kd.obj hit; exact Heap.lt_size ho
        rw [upd_ne (Nat.ne_of_lt (Nat.lt_of_lt_of_le hb' hT))]
        exact (hf b hb).1
  done := by
    intro X hP hw hK hc i pins s σ H E I hf st hg
    subst hP hw hK
    obtain ⟨he, hit⟩ := st
    obtain ⟨xs, hq, hx⟩ := hg
    obtain ⟨P, Sx, D, st, hY, hat⟩ := Kd.draws I hc a2 hq hit
    have W := GoesN.enumFrom (elts := elts) (x1 := kk) (pos := tpos) 0 D e hne (Kd.notin a1 hne) (Kd.mem k it)
    refine W.stops s (fun s1 => Inv X pins σ H s1) E ⟨?_, by rw [hx]; exact st⟩ fun h' tk hk htk => I.turnedL (ch := [e, it]) hk hf
    obtain ⟨old, he⟩ := he
    exact ⟨old, by rw [Int.zero_add, hx]; exact he⟩
  self := fun A i s Q E st h => let ⟨⟨_, he⟩, _⟩ := st; wpAny_pyIter_enum he h
set_option maxHeartbeats 1000000 in
theorem meets_enumerate_newB1 {v : Value} {o : Obj} {H : Heap → Prop} (B : Begins v o H) :
    Meets (Builtin.«enumerate.__new__» ⟨[.type "enumerate", v], []⟩) (fun _ R s => H s.heap ∧
      R (.ok (.ret (.ref (s.heap.push o).objs.size))) { s with heap := (s.heap.push o).push { cls := .type "enumerate", data := .fields #[.none, .bool false, .ref s.heap.objs.size, rawInt 0, .none, .none] } }) :=
  .of_wp fun prog w A R s h => by
    obtain ⟨hp, g, d, tk, os⟩ := s; obtain ⟨h1, h⟩ := h
    have hsub := sub_enumerate
    have q1 : ∀ {A' : Around} {E : Value → Shared → Prop} {Q : Value → Shared → Prop}, Q (.ref hp.objs.size) ⟨hp.push o, g, d, tk, os⟩ → wpAny (model prog w) A' (pyIter v) Q E ⟨hp, g, d, tk, os⟩ :=
      fun q => B.iter prog w _ _ ⟨hp, g, d, tk, os⟩ _ h1 q
    wp_walk using q1
    refine wpAny_stack_any fun st => wpAny_pure ?_
    split
    · rename_i c _ _ _ _ _
      cases (c == Value.type "enumerate")
      · wp_walk using q1
        exact ⟨_, rfl, h⟩
      · wp_walk using q1
        exact ⟨_, rfl, h⟩
    · wp_walk using q1
      exact ⟨_, rfl, h⟩
theorem enum_begins1 {prog : Program} {w : World} {A : Around} {E : Value → Shared → Prop} {s : Shared} {v : Value} {o : Obj} {H : Heap → Prop} {Q : Value → Shared → Prop} (B : Begins v o H) (h1 : H s.heap)
    (h : ∀ h', IsEnum h' (s.heap.objs.size + 1) s.heap.objs.size 0 .none → h'.get? s.heap.objs.size = some o → h'.objs.size = s.heap.objs.size + 2 →
      (∀ b o, s.heap.get? b = some o → h'.get? b = some o) → Q (.ref (s.heap.objs.size + 1)) { s with heap := h' }) :
    wpAny (model prog w) A (call (.type "enumerate") [v]) Q E s := by
  refine callType_new F.called_enumerate (by decide) (F.typeCall_enumerate_1 _) (F.newCall_enumerate_1 _) (fun obj => F.args_object_init_2 obj _) F.entry_enumerate_new
    (meets_enumerate_newB1 B) ⟨h1, ?_⟩
  have hz : (s.heap.push o).objs.size = s.heap.objs.size + 1 := Heap.size_push ..
  show _ ∧ _
  rw [hz]
  have he : IsEnum ((s.heap.push o).push { cls := .type "enumerate", data := .fields #[.none, .bool false, .ref s.heap.objs.size, rawInt 0, .none, .none] }) (s.heap.objs.size + 1) s.heap.objs.size 0 .none := by
    have := Heap.get?_push_size (s.heap.push o) (o := { cls := .type "enumerate", data := .fields #[.none, .bool false, .ref s.heap.objs.size, rawInt 0, .none, .none] }) rfl
    rw [hz] at this; exact this
  refine ⟨⟨_, he, rfl⟩, h _ he (Heap.get?_push_of_some _ (Heap.get?_push_size _ B.free)) (by rw [Heap.size_push, hz]) fun b o x => Heap.get?_push_of_some _ (Heap.get?_push_of_some _ x)⟩
def iEnumK (K : PySem.W.Frag) (ta : TA) : TI := fun σ H R => ta σ H fun vs H1 => ∃ k xs, vs = [Kd.v k] ∧ k.is K H1 xs ∧ R (Itek K k) H1
theorem pi_enumK {X : Cx} {e : Expr} {ta : TA} {p pos tpos : Pos} {elts : List Expr} {kk : Nat} (hg : Gl X "enumerate") (hm : X.mg "enumerate" = none) (ha : PA X [e] ta) (hs : starEach [e] X.env = (false, eval e X.env) :: starEach [] X.env) (hpl : (backTo pos (starEach [] X.env)).any (·.1) = false) :
    PI X (.Tuple elts kk tpos) (.Call (.Name "enumerate" p) [e] [] pos) (iEnumK X.K ta) := by
  refine ⟨fun pins s σ H R I h => ?_⟩
  refine Call_ (ld_blt I hg hm boot_enumerate (PyProof.Rows.callWith_type1 (thn (ha.run pos pins s σ H _ I h) fun us s1 ⟨vs, H1, I1, r1, k, xs, ev, hk, q⟩ => ?_) hs hpl))
  subst ev
  cases r1 with
  | cons r rr =>
    cases rr
    obtain ⟨t, Hh, B, hb, ap⟩ := Kd.begins I1 hk r
    refine enum_begins1 B hb fun h' he hit hsz hkk => wpAny_pyIter_enum he ?_
    have I2 : Inv X pins σ H1 { s1 with heap := h' } := I1.kept (t' := s1.toks) hkk
    refine ⟨s1.heap.objs.size + 1, [s1.heap.objs.size + 1, s1.heap.objs.size], _, _, H1, rfl, I2, turn_enumK (k := k) (Nat.succ_ne_self _) (ap _ (Nat.le_succ _)) (ap _ (Nat.le_refl _)), ⟨⟨.none, he⟩, Kd.at0 hit⟩, fun b hb => ?_, q⟩
    have e' : b = s1.heap.objs.size + 1 ∨ b = s1.heap.objs.size := by simpa using hb
    have hle : s1.heap.objs.size ≤ b := by
      rcases e' with z | z
      · rw [z]; exact Nat.le_add_right _ _
      · rw [z]; exact Nat.le_refl _
    exact I1.fpOk hle (I1.hok.fresh hle)
end MP
end
section
set_option Elab.async false
set_option linter.all false
set_option maxRecDepth 100000
set_option maxHeartbeats 2000000
/-! MPZ: zip over any two sequences, strict or not. -/
namespace MP
open PySem PySem.Spec PyProof.Rows L2

/-! ### the strict one -/
abbrev IsZipS (h : Heap) (z TI TO : Addr) (f0 : Value) : Prop :=
  h.get? z = some { cls := .type "zip", dict := none, data := .fields #[f0, .bool false, .bool true, .ref TI, .ref TO], slots := #[] }
section
variable {prog : Program} {w : World} {A : Around} {E : Value → Shared → Prop} {s : Shared} {z TI TO i1 i2 : Addr} {fp1 fp2 : List Addr} {n1 n2 i : Nat} {P1 P2 : Nat → Value → Prop} {St1 St2 : Nat → Heap → Prop} {a1 a2 : Value}
theorem nextOrEnd_item {it : Addr} {fp : List Addr} {n : Nat} {P : Nat → Value → Prop} {Sx : Nat → Heap → Prop} (D : Draws prog w A it fp n P Sx) {Q : Option Value → Shared → Prop} (hi : i < n) (st : Sx i s.heap)
    (h : ∀ x h' tk, P i x → Sx (i + 1) h' → Heap.SameBut it s.heap h' → Q (some x) { s with heap := h', toks := tk }) : wpAny (model prog w) A (Builtin.SmallTypes.nextOrEnd (.ref it)) Q E s := by
  unfold Builtin.SmallTypes.nextOrEnd
  exact wpAny_bind (wpAny_attempt (D.item i s _ _ hi st fun x h' tk a b c => wpAny_pure (h x h' tk a b c)))
theorem nextOrEnd_end {it : Addr} {fp : List Addr} {n : Nat} {P : Nat → Value → Prop} {Sx : Nat → Heap → Prop} (D : Draws prog w A it fp n P Sx) {Q : Option Value → Shared → Prop} (st : Sx n s.heap)
    (h : ∀ h', Heap.ExtBut it s.heap h' → Q none { s with heap := h' }) : wpAny (model prog w) A (Builtin.SmallTypes.nextOrEnd (.ref it)) Q E s := by
  unfold Builtin.SmallTypes.nextOrEnd
  refine wpAny_bind (wpAny_attempt (D.done s _ _ st fun h' e hk he => ?_))
  obtain ⟨o, ho, hc⟩ := he
  refine wpAny_bind (wpAny_isInstance (T := "StopIteration") (b := true) ⟨o, ho, hc⟩ isSubtype_stop ?_)
  exact wpAny_pure (h h' hk)
theorem zipS_next_item {Q : Value → Shared → Prop} (S : ZipSep2 z TI TO i1 i2 fp1 fp2) (D1 : Draws prog w A i1 fp1 n1 P1 St1) (D2 : Draws prog w A i2 fp2 n2 P2 St2)
    (hz : IsZipS s.heap z TI TO .none) (hTI : IsTupOf2 s.heap TI (.ref i1) (.ref i2)) (hTO : IsTupOf2 s.heap TO a1 a2) (st1 : St1 i s.heap) (st2 : St2 i s.heap) (hlt1 : i < n1) (hlt2 : i < n2)
    (hQ : ∀ x1 x2 h' tk, P1 i x1 → P2 i x2 → IsZipS h' z TI TO (rawInt s.heap.objs.size) → IsTupOf2 h' TO x1 x2 → St1 (i + 1) h' → St2 (i + 1) h' → IsTupOf2 h' s.heap.objs.size x1 x2 → h'.objs.size = s.heap.objs.size + 1 →
      (∀ c o, c ≠ z → c ≠ TO → c ≠ i1 → c ≠ i2 → s.heap.get? c = some o → h'.get? c = some o) → Q (.ref s.heap.objs.size) { s with heap := h', toks := tk }) :
    wpAny (model prog w) A (Builtin.«zip.__next__» ⟨[.ref z], []⟩) (fun fin s' => ∃ v, fin = .done (.ret v) ∧ Q v s') E s := by
  obtain ⟨hp, g, d, tk0, os⟩ := s
  show wpAny _ _ (field (.ref z) 2 >>= _) _ _ _
  refine wpAny_bind (wpAny_field hz rfl (x := .bool true) rfl ?_)
  show wpAny _ _ (field (.ref z) 3 >>= _) _ _ _
  refine wpAny_bind (wpAny_field hz rfl (x := .ref TI) rfl ?_)
  refine wpAny_bind (wpAny_seqItems hTI rfl ?_)
  show wpAny _ _ (Builtin.SmallTypes.ownedTupleIsFree (.ref z) >>= _) _ _ _
  refine wpAny_bind ?_
  unfold Builtin.SmallTypes.ownedTupleIsFree
  refine wpAny_bind (wpAny_field hz rfl (x := .none) rfl (wpAny_pure ?_))
  simp only [if_true]
  refine wpAny_bind (wpAny_rule ?_)
  refine wpAny_bind (wpAny_field hz rfl (x := .ref TO) rfl ?_)
  refine wpAny_bind (wpAny_setField_rec hz (by simp) fun g0 hz0 hs0 => ?_)
  replace hz0 : IsZipS g0 z TI TO .ellipsis := hz0
  replace hs0 : Heap.SameBut z hp g0 := hs0
  refine wpAny_bind ?_
  simp only [List.zipIdx_cons, List.zipIdx_nil, List.forIn_cons, List.forIn_nil]
  refine wpAny_bind (wpAny_bind (wpAny_onRaise ?_))
  show wpAny _ _ (Builtin.SmallTypes.nextOrEnd (.ref i1)) _ _ ⟨g0, g, d, tk0, os⟩
  refine nextOrEnd_item D1 hlt1 (D1.over st1 hs0 S.zf1) fun x1 p1 tk1 hx1 sn1 hp1 => ?_
  replace hp1 : Heap.SameBut i1 g0 p1 := hp1
  have hU1 : IsTupOf2 p1 TO a1 a2 := hp1.extBut _ _ S.Ti1 (hs0.extBut _ _ S.TOz hTO)
  refine wpAny_bind (wpAny_seqItems (s := ⟨p1, g, d, tk1, os⟩) hU1 rfl ?_)
  refine wpAny_bind (updateSeq_IsTupOf2 (s := ⟨p1, g, d, tk1, os⟩) hU1 fun g1 hT1 hs1 => ?_)
  replace hT1 : IsTupOf2 g1 TO x1 a2 := hT1
  replace hs1 : Heap.SameBut TO p1 g1 := hs1
  refine wpAny_bind (wpAny_letGo (wpAny_pure ?_))
  refine wpAny_bind (wpAny_bind (wpAny_onRaise ?_))
  show wpAny _ _ (Builtin.SmallTypes.nextOrEnd (.ref i2)) _ _ ⟨g1, g, d, tk1, os⟩
  refine nextOrEnd_item D2 hlt2 (D2.over (D2.over (D2.over st2 hs0 S.zf2) hp1 S.sep1_2) hs1 S.Tf2) fun x2 p2 tk2 hx2 sn2 hp2 => ?_
  replace hp2 : Heap.SameBut i2 g1 p2 := hp2
  have hU2 : IsTupOf2 p2 TO x1 a2 := hp2.extBut _ _ S.Ti2 hT1
  refine wpAny_bind (wpAny_seqItems (s := ⟨p2, g, d, tk2, os⟩) hU2 rfl ?_)
  refine wpAny_bind (updateSeq_IsTupOf2 (s := ⟨p2, g, d, tk2, os⟩) hU2 fun g2 hT2 hs2 => ?_)
  replace hT2 : IsTupOf2 g2 TO x1 x2 := hT2
  replace hs2 : Heap.SameBut TO p2 g2 := hs2
  refine wpAny_bind (wpAny_letGo (wpAny_pure (wpAny_pure ?_)))
  refine wpAny_bind (wpAny_seqItems (s := ⟨g2, g, d, tk2, os⟩) hT2 rfl ?_)
  refine wpAny_bind (wpAny_newTuple ?_)
  have hsz : g2.objs.size = hp.objs.size := by rw [hs2.1, hp2.1, hs1.1, hp1.1, hs0.1]
  have hzz : IsZipS g2 z TI TO .ellipsis := (hs2.extBut _ _ S.TOz.symm (hp2.extBut _ _ S.zi2 (hs1.extBut _ _ S.TOz.symm (hp1.extBut _ _ S.zi1 hz0))))
  have hkk : ∀ c o, c ≠ z → c ≠ TO → c ≠ i1 → c ≠ i2 → hp.get? c = some o → g2.get? c = some o := fun c o cz cT c1 c2 e =>
    (hs2.extBut _ _ cT (hp2.extBut _ _ c2 (hs1.extBut _ _ cT (hp1.extBut _ _ c1 (hs0.extBut _ _ cz e)))))
  have hj1 : St1 (i + 1) g2 := (D1.over (D1.over (D1.over sn1 hs1 S.Tf1) hp2 S.sep2_1) hs2 S.Tf1)
  have hj2 : St2 (i + 1) g2 := (D2.over sn2 hs2 S.Tf2)
  have hzlt : z < g2.objs.size := Heap.lt_size hzz
  show wpAny _ _ (Builtin.SmallTypes.ownedTupleHandOut (.ref z) (.ref g2.objs.size) >>= _) _ _ ⟨g2.push { cls := .type "tuple", data := .seq #[x1, x2] }, g, d, tk2, os⟩
  refine wpAny_bind ?_
  unfold Builtin.SmallTypes.ownedTupleHandOut
  have hz₆ : IsZipS (g2.push { cls := .type "tuple", data := .seq #[x1, x2] }) z TI TO .ellipsis := Heap.get?_push_of_some _ hzz
  refine wpAny_bind (wpAny_setField_rec hz₆ (by simp) fun h₇ hz₇ hs₇ => ?_)
  replace hz₇ : IsZipS h₇ z TI TO (rawInt g2.objs.size) := hz₇
  refine wpAny_setField_rec hz₇ (by simp) fun h₈ hz₈ hs₈ => ?_
  replace hz₈ : IsZipS h₈ z TI TO (rawInt g2.objs.size) := hz₈
  replace hs₇ : Heap.SameBut z (g2.push { cls := .type "tuple", data := .seq #[x1, x2] }) h₇ := hs₇
  replace hs₈ : Heap.SameBut z h₇ h₈ := hs₈
  have up : ∀ c o, c ≠ z → g2.get? c = some o → h₈.get? c = some o := fun c o c1 e => hs₈.extBut _ _ c1 (hs₇.extBut _ _ c1 (Heap.get?_push_of_some _ e))
  have hT₈ : IsTupOf2 h₈ g2.objs.size x1 x2 := hs₈.extBut _ _ (Nat.ne_of_gt hzlt) (hs₇.extBut _ _ (Nat.ne_of_gt hzlt) (Heap.get?_push_size _ rfl))
  have hz8 : h₈.objs.size = g2.objs.size + 1 := by rw [hs₈.1, hs₇.1, Heap.size_push]
  rw [hsz] at hz₈ hT₈ hz8
  refine wpAny_pure ⟨_, rfl, ?_⟩
  show Q (.ref g2.objs.size) ⟨h₈, g, d, tk2, os⟩
  rw [hsz]
  exact hQ x1 x2 h₈ tk2 hx1 hx2 hz₈ (up _ _ S.TOz hT2) (D1.frame _ _ _ hj1 fun b hb o e => up b o (fun q => S.zf1 (q ▸ hb)) e) (D2.frame _ _ _ hj2 fun b hb o e => up b o (fun q => S.zf2 (q ▸ hb)) e) hT₈ hz8 fun c o cz cT c1 c2 e => up c o cz (hkk c o cz cT c1 c2 e)
theorem zipS_next_end {n : Nat} {Q : PySem.Fin → Shared → Prop} (S : ZipSep2 z TI TO i1 i2 fp1 fp2) (D1 : Draws prog w A i1 fp1 n P1 St1) (D2 : Draws prog w A i2 fp2 n P2 St2) (hh : A.handled = none)
    (hz : IsZipS s.heap z TI TO .none) (hTI : IsTupOf2 s.heap TI (.ref i1) (.ref i2)) (hTO : IsTupOf2 s.heap TO a1 a2) (st1 : St1 n s.heap) (st2 : St2 n s.heap)
    (hE : ∀ h' tk e, (∀ c o, c ≠ z → c ≠ TO → c ≠ i1 → c ≠ i2 → s.heap.get? c = some o → h'.get? c = some o) → (∃ o, h'.get? e = some o ∧ o.cls = .type "StopIteration") → E (.ref e) { s with heap := h', toks := tk }) :
    wpAny (model prog w) A (Builtin.«zip.__next__» ⟨[.ref z], []⟩) Q E s := by
  obtain ⟨hp, g, d, tk0, os⟩ := s
  show wpAny _ _ (field (.ref z) 2 >>= _) _ _ _
  refine wpAny_bind (wpAny_field hz rfl (x := .bool true) rfl ?_)
  show wpAny _ _ (field (.ref z) 3 >>= _) _ _ _
  refine wpAny_bind (wpAny_field hz rfl (x := .ref TI) rfl ?_)
  refine wpAny_bind (wpAny_seqItems hTI rfl ?_)
  show wpAny _ _ (Builtin.SmallTypes.ownedTupleIsFree (.ref z) >>= _) _ _ _
  refine wpAny_bind ?_
  unfold Builtin.SmallTypes.ownedTupleIsFree
  refine wpAny_bind (wpAny_field hz rfl (x := .none) rfl (wpAny_pure ?_))
  simp only [if_true]
  refine wpAny_bind (wpAny_rule ?_)
  refine wpAny_bind (wpAny_field hz rfl (x := .ref TO) rfl ?_)
  refine wpAny_bind (wpAny_setField_rec hz (by simp) fun g0 hz0 hs0 => ?_)
  replace hz0 : IsZipS g0 z TI TO .ellipsis := hz0
  replace hs0 : Heap.SameBut z hp g0 := hs0
  refine wpAny_bind ?_
  simp only [List.zipIdx_cons, List.zipIdx_nil, List.forIn_cons, List.forIn_nil]
  refine wpAny_bind (wpAny_bind (wpAny_onRaise ?_))
  show wpAny _ _ (Builtin.SmallTypes.nextOrEnd (.ref i1)) _ _ ⟨g0, g, d, tk0, os⟩
  refine nextOrEnd_end D1 (D1.over st1 hs0 S.zf1) fun q hq => ?_
  replace hq : Heap.ExtBut i1 g0 q := hq
  have hzq : IsZipS q z TI TO .ellipsis := hq _ _ S.zi1 hz0
  refine wpAny_bind (wpAny_setField_rec (s := ⟨q, g, d, tk0, os⟩) hzq (by simp) fun q' _ hq' => ?_)
  replace hq' : Heap.SameBut z q q' := hq'
  refine wpAny_bind ?_
  refine wpAny_bind (s := ⟨q', g, d, tk0, os⟩) ?_
  simp only [List.drop_succ_cons, List.drop_zero, List.zipIdx_cons, List.zipIdx_nil, List.forIn_cons, List.forIn_nil]
  have s2q : St2 n q' := D2.frame _ _ _ (D2.over st2 hs0 S.zf2) fun b hb o e => hq'.extBut _ _ (fun x => S.zf2 (x ▸ hb)) (hq _ _ (fun x => S.sep1_2 (x ▸ hb)) e)
  refine wpAny_bind (wpAny_bind (nextOrEnd_end (s := ⟨q', g, d, tk0, os⟩) D2 s2q fun q2 hq2 => ?_))
  replace hq2 : Heap.ExtBut i2 q' q2 := hq2
  refine wpAny_pure (wpAny_pure ?_)
  refine wpAny_bind (wpAny_rule ?_)
  show wpAny _ _ (newExc (.type "StopIteration") [] >>= _) _ _ _
  refine wpAny_bind ?_
  simp only [newExc, newTuple]
  refine wpAny_bind (wpAny_newObj_type ?_ (by size_fits))
  refine wpAny_bind (m := firstArgMember _ _) (wpAny_of_eq (a := Value.none) (by first | rfl | (simp only [firstArgMember]; rfl)) ?_)
  refine wpAny_newObj_type ?_ (by size_fits)
  simp only [raiseNew]
  refine wpAny_bind (wpAny_handled ?_)
  rw [hh]
  refine wpAny_bind (wpAny_pure (wpAny_throw ?_))
  refine hE _ _ _ (fun c o cz cT c1 c2 x => Heap.get?_push_of_some _ (Heap.get?_push_of_some _ (hq2 _ _ c2 (hq'.extBut _ _ cz (hq _ _ c1 (hs0.extBut _ _ cz x)))))) ⟨_, Heap.get?_push_size _ rfl, rfl⟩
theorem pyIter_zipS {f0 : Value} {Q : Value → Shared → Prop} (hz : IsZipS s.heap z TI TO f0) (h : Q (.ref z) s) : wpAny (model prog w) A (pyIter (.ref z)) Q E s := by
  have hT : s.TypeIs (.ref z) "zip" := ⟨_, hz, rfl⟩
  refine wpAny_pyIter_slot hT F.slot_zip_iter (wpAny_call_entry F.slot_zip_iter hT F.entry_zip_iter ?_ (F.args_zip_iter_1 _))
  show wpAny _ _ (ret (.ref z)) _ _ s
  exact wpAny_pure ⟨_, rfl, "zip", _, hT, F.slot_zip_next.lookup, h⟩
theorem letGo_zipS {elts : List Expr} {x1} {pos : Pos} {T : Addr} {Q : Unit → Shared → Prop} (hz : IsZipS s.heap z TI TO (rawInt T))
    (hQ : ∀ h', IsZipS h' z TI TO .none → Heap.SameBut z s.heap h' → Q () { s with heap := h' }) :
    wpAny (model prog w) A (letOwnedTupleGo (.Tuple elts x1 pos) (.ref z) (.ref T)) Q E s := by
  unfold letOwnedTupleGo
  refine wpAny_bind (wpAny_load hz ?_)
  show wpAny _ _ (if (["enumerate", "zip", "dict_itemiterator", "dict_reverseitemiterator", "odict_iterator", "itertools.zip_longest", "itertools.pairwise"].contains "zip" &&
      (#[rawInt T, .bool false, .bool true, .ref TI, .ref TO] : Array Value)[0]? == some (rawInt T)) = true then _ else _) Q E s
  rw [if_pos (by simp)]
  refine wpAny_bind (wpAny_rule ?_)
  show wpAny _ _ (setField (.ref z) 0 .none) Q E s
  exact wpAny_setField_rec hz (by simp) fun h' hz' hs' => hQ h' hz' hs'
/-- zip of two iterators that give as much -/
theorem WalksT.zipS {n : Nat} (S : ZipSep2 z TI TO i1 i2 fp1 fp2) (hh : A.handled = none) (D1 : Draws prog w A.in1 i1 fp1 n P1 St1) (D2 : Draws prog w A.in1 i2 fp2 n P2 St2) :
    WalksT prog w A z (z :: TI :: TO :: (fp1 ++ fp2)) [z, TO, i1, i2] n
      (fun i vals => ∃ x1 x2, P1 i x1 ∧ P2 i x2 ∧ vals = #[x1, x2])
      (fun i h => IsZipS h z TI TO .none ∧ IsTupOf2 h TI (.ref i1) (.ref i2) ∧ (∃ a1 a2, IsTupOf2 h TO a1 a2) ∧ St1 i h ∧ St2 i h)
      (fun i T h => IsZipS h z TI TO (rawInt T) ∧ IsTupOf2 h TI (.ref i1) (.ref i2) ∧ (∃ a1 a2, IsTupOf2 h TO a1 a2) ∧ St1 (i + 1) h ∧ St2 (i + 1) h ∧ T ≠ z ∧ T ≠ TO ∧ T ≠ i1 ∧ T ≠ i2) where
  sub := fun c hc => by
    have hc' : c = z ∨ c = TO ∨ c = i1 ∨ c = i2 := by simpa using hc
    rcases hc' with rfl | rfl | rfl | rfl
    · exact List.mem_cons_self ..
    · exact List.mem_cons_of_mem _ (List.mem_cons_of_mem _ (List.mem_cons_self ..))
    · exact List.mem_cons_of_mem _ (List.mem_cons_of_mem _ (List.mem_cons_of_mem _ (List.mem_append_left _ S.mem1)))
    · exact List.mem_cons_of_mem _ (List.mem_cons_of_mem _ (List.mem_cons_of_mem _ (List.mem_append_right _ S.mem2)))
  frame := fun i h h' hst hk => by
    obtain ⟨hz, hTI, ⟨a1, a2, hTO⟩, st1, st2⟩ := hst
    exact ⟨hk z (List.mem_cons_self ..) _ hz, hk TI (List.mem_cons_of_mem _ (List.mem_cons_self ..)) _ hTI, ⟨a1, a2, hk TO (List.mem_cons_of_mem _ (List.mem_cons_of_mem _ (List.mem_cons_self ..))) _ hTO⟩,
      D1.frame _ _ _ st1 fun b hb o e => hk b (List.mem_cons_of_mem _ (List.mem_cons_of_mem _ (List.mem_cons_of_mem _ (List.mem_append_left _ hb)))) o e, D2.frame _ _ _ st2 fun b hb o e => hk b (List.mem_cons_of_mem _ (List.mem_cons_of_mem _ (List.mem_cons_of_mem _ (List.mem_append_right _ hb)))) o e⟩
  item := fun i s Q E hi hst hQ => by
    obtain ⟨hz, hTI, ⟨a1, a2, hTO⟩, st1, st2⟩ := hst
    have hT : s.TypeIs (.ref z) "zip" := ⟨_, hz, rfl⟩
    unfold pyNext
    refine wpAny_bind (wpAny_attempt (wpAny_callSpecial?_slot (name := Str.ofString "__next__") hT F.slot_zip_next (wpAny_call_entry F.slot_zip_next hT F.entry_zip_next
      (zipS_next_item S D1 D2 hz hTI hTO st1 st2 hi hi fun x1 x2 h' tk y1 y2 b1 b2 d1 d2 b5 b6 hk => wpAny_pure ?_) (F.args_zip_next_1 _))))
    have lt : ∀ {c o}, s.heap.get? c = some o → s.heap.objs.size ≠ c := fun e => Nat.ne_of_gt (Heap.lt_size e)
    have l1 : s.heap.objs.size ≠ i1 := by obtain ⟨_, e⟩ := D1.live _ _ st1; exact lt e
    have l2 : s.heap.objs.size ≠ i2 := by obtain ⟨_, e⟩ := D2.live _ _ st2; exact lt e
    exact hQ s.heap.objs.size #[x1, x2] h' tk ⟨x1, x2, y1, y2, rfl⟩ (Nat.le_refl _) ⟨_, b5, rfl, _, rfl⟩
      ⟨b1, hk _ _ S.TIz S.TITO S.TIi1 S.TIi2 hTI, ⟨_, _, b2⟩, d1, d2, lt hz, lt hTO, l1, l2⟩
      fun c o hc e => hk c o (fun x => hc (by simp [x])) (fun x => hc (by simp [x])) (fun x => hc (by simp [x])) (fun x => hc (by simp [x])) e
  go := fun elts k pos i T s Q E hm hQ => by
    obtain ⟨hz, hTI, ⟨a1, a2, hTO⟩, st1, st2, _⟩ := hm
    refine letGo_zipS hz fun h' hz' hs' => hQ h' ⟨hz', hs'.extBut _ _ S.TIz hTI, ⟨a1, a2, hs'.extBut _ _ S.TOz hTO⟩, D1.over st1 hs' S.zf1, D2.over st2 hs' S.zf2⟩ fun c o hc e => hs'.extBut _ _ (fun x => hc (by simp [x])) e
  apart := fun i T h hm hT => by
    obtain ⟨_, _, _, _, _, tz, tT, t1, t2⟩ := hm
    have hT' : T = z ∨ T = TO ∨ T = i1 ∨ T = i2 := by simpa using hT
    rcases hT' with e | e | e | e
    · exact tz e
    · exact tT e
    · exact t1 e
    · exact t2 e
  done := fun s Q E hst hQ => by
    obtain ⟨hz, hTI, ⟨a1, a2, hTO⟩, st1, st2⟩ := hst
    have hT : s.TypeIs (.ref z) "zip" := ⟨_, hz, rfl⟩
    unfold pyNext
    refine wpAny_bind (wpAny_attempt (wpAny_callSpecial?_slot (name := Str.ofString "__next__") hT F.slot_zip_next
      (wpAny_call_entry F.slot_zip_next hT F.entry_zip_next (zipS_next_end S D1 D2 hh hz hTI hTO st1 st2 fun h' tk e hk he => ?_) (F.args_zip_next_1 _))))
    obtain ⟨o, ho, hc⟩ := he
    refine wpAny_bind (wpAny_isInstance (T := "StopIteration") (b := true) ⟨o, ho, hc⟩ isSubtype_stop ?_)
    exact wpAny_pure (hQ h' tk fun c o hc e => hk c o (fun x => hc (by simp [x])) (fun x => hc (by simp [x])) (fun x => hc (by simp [x])) (fun x => hc (by simp [x])) e)
  self := fun i s Q E hst hQ => pyIter_zipS hst.1 hQ
end

/-! ### zip(a, b, strict=True) begins -/
abbrev zsZ (h : Heap) (o1 o2 : Obj) : Heap := (gzO2 h o1 o2).push { cls := .type "zip", data := .fields #[.none, .bool false, .bool true, .ref ((h.push o1).push o2).objs.size, .ref (gzT2 h o1 o2).objs.size] }
theorem meets_zipS_new {v1 v2 : Value} {o1 o2 : Obj} {H1 H2 : Heap → Prop} (B1 : Begins v1 o1 H1) (B2 : Begins v2 o2 H2) :
    Meets (Builtin.«zip.__new__» ⟨[.type "zip", v1, v2], [("strict", .bool true)]⟩) (fun _ R s => (H1 s.heap ∧ H2 s.heap) ∧
      R (.ok (.ret (.ref (gzO2 s.heap o1 o2).objs.size))) { s with heap := zsZ s.heap o1 o2 }) :=
  .of_wp fun prog w A R s h => by
    obtain ⟨hp, g, d, tk, os⟩ := s; obtain ⟨⟨h1, h2⟩, h⟩ := h
    have hsub := sub_zip
    have q1 : ∀ {A' : Around} {E : Value → Shared → Prop} {Q : Value → Shared → Prop}, Q (.ref hp.objs.size) ⟨(hp.push o1), g, d, tk, os⟩ → wpAny (model prog w) A' (pyIter v1) Q E ⟨hp, g, d, tk, os⟩ :=
      fun q => B1.iter prog w _ _ ⟨hp, g, d, tk, os⟩ _ (B1.keeps _ _ h1 fun b o' e => e) q
    have q2 : ∀ {A' : Around} {E : Value → Shared → Prop} {Q : Value → Shared → Prop}, Q (.ref (hp.push o1).objs.size) ⟨((hp.push o1).push o2), g, d, tk, os⟩ → wpAny (model prog w) A' (pyIter v2) Q E ⟨(hp.push o1), g, d, tk, os⟩ :=
      fun q => B2.iter prog w _ _ ⟨(hp.push o1), g, d, tk, os⟩ _ (B2.keeps _ _ h2 fun b o' e => (Heap.get?_push_of_some _ e)) q
    wp_walk using q1, q2
    exact ⟨_, rfl, h⟩
end MP
end
section
set_option Elab.async false
set_option linter.all false
set_option maxRecDepth 100000
set_option maxHeartbeats 2000000
/-! MPY: zip called with strict=True. -/
namespace MP
open PySem PySem.Spec PyProof.Rows L2
section
variable {prog : Program} {w : World} {A : Around} {E : Value → Shared → Prop} {s : Shared}
theorem callType_meetsK {T newId initId : String} {Bn Bi : Builtin} {args : List Value} {kw : List (Str × Value)} {Sp : PySem.Spec} {Q Q₁ : Value → Shared → Prop} (ft : TypeCalled T newId initId)
    (hct : checkTypeCall T ⟨args, kw⟩ = pure ()) (hcn : checkBuiltinCall newId ⟨.type T :: args, kw⟩ = pure ())
    (entryN : entryFor table newId = some Bn) (entryI : entryFor table initId = some Bi) (g : Meets (Bn ⟨.type T :: args, kw⟩) Sp)
    (h : Sp A.in1 (wants Q₁ E) s)
    (hnext : ∀ obj s₁, Q₁ obj s₁ → s₁.TypeIs obj T ∧ argsOk initId ⟨obj :: args, kw⟩ ∧ ∃ Si, Meets (Bi ⟨obj :: args, kw⟩) Si ∧ Si A.in1 (wants (fun r s₂ => r = .none ∧ Q obj s₂) E) s₁) :
    wpAny (model prog w) A (call (.type T) args kw) Q E s := by
  obtain ⟨c, tl, hmro⟩ := ft.mro
  have hmade := ft.made
  have hsub := ft.sub
  refine wpAny_call (codeAny_of_tree ?_)
  show wpAny _ _ (callAny (.type T) _) _ _ _
  refine wpAny_pure ⟨Code.quiet_builtin _ (by decide +kernel), codeAny_builtin F.entry_type_call ?_⟩
  rw [Around.under_plain (weight_type_call_type T args kw) (units_type_call_type T args kw)]
  have h1 := ft.notType
  have h2 := ft.canCreate
  repeat (any_goals (first | assumption | wp_step))
  refine codeAny_mono (codeAny_call_builtin ft.plain entryN (wpAny_of_eq hcn (g prog w A.in1 _ s h))) fun r s₁ hr => ?_
  cases r with
  | error e => exact hr
  | ok fl =>
    cases fl with
    | ret obj =>
      obtain ⟨hT, hok, Si, gi, hsi⟩ := hnext _ _ hr
      have hli := ft.init.lookup
      have hbi := ft.init.bind obj
      repeat (any_goals (first | assumption | wp_step))
      refine codeAny_mono (codeAny_call_builtin ft.init.plain entryI (ft.init.check _ _ _ _ _ _ _ _ hT hok (gi prog w A.in1 _ s₁ hsi))) fun r₂ s₂ hr₂ => ?_
      cases r₂ with
      | error e => exact hr₂
      | ok fl₂ =>
        cases fl₂ with
        | ret r =>
          obtain ⟨rfl, hq⟩ := hr₂
          repeat (any_goals (first | assumption | wp_step))
        | _ => exact hr₂.elim
    | _ => exact hr.elim
theorem object_init_meetsK {T newId : String} {self a : Value} {rest : List Value} {kw : List (Str × Value)} (hl : typeLookup (.type T) "__init__" = pure (some (.builtin "object.__init__")))
    (hm : Bind.madeBy (.type T) = pure (some newId)) (hne : (some newId != some "object.__new__") = true) :
    Meets (Builtin.«object.__init__» ⟨self :: a :: rest, kw⟩) (fun _ R s => s.TypeIs self T ∧ R (.ok (.ret .none)) s) := by
  refine Meets.of_wp fun prog w A R s hs => ?_
  obtain ⟨hT, hq⟩ := hs
  repeat (any_goals (first | assumption | wp_step))
  exact ⟨_, rfl, hq⟩
end
theorem typeCall_zipS (a b : Value) : checkTypeCall "zip" ⟨[a, b], [("strict", .bool true)]⟩ = pure () := by kernel_rfl
theorem newCall_zipS (a b : Value) : checkBuiltinCall "zip.__new__" ⟨[.type "zip", a, b], [("strict", .bool true)]⟩ = pure () := by kernel_rfl
theorem initArgs_zipS (a b c : Value) : argsOk "object.__init__" ⟨[a, b, c], [("strict", .bool true)]⟩ := by
  unfold argsOk; rw [signature?_of (id := "object.__init__") (n := ['_', '_', 't', 'i', 'n', 'i', '_', '_']) (o := ['t', 'c', 'e', 'j', 'b', 'o']) (by kernel_rfl) F.owner_object]; kernel_rfl
section
variable {prog : Program} {w : World} {A : Around} {E : Value → Shared → Prop} {s : Shared}
theorem zipS_begins {v1 v2 : Value} {o1 o2 : Obj} {H1 H2 : Heap → Prop} {Q : Value → Shared → Prop} (B1 : Begins v1 o1 H1) (B2 : Begins v2 o2 H2) (h1 : H1 s.heap) (h2 : H2 s.heap)
    (h : ∀ h', IsZipS h' (s.heap.objs.size + 4) (s.heap.objs.size + 2) (s.heap.objs.size + 3) .none → IsTupOf2 h' (s.heap.objs.size + 2) (.ref s.heap.objs.size) (.ref (s.heap.objs.size + 1)) →
      IsTupOf2 h' (s.heap.objs.size + 3) .none .none → h'.get? s.heap.objs.size = some o1 → h'.get? (s.heap.objs.size + 1) = some o2 → h'.objs.size = s.heap.objs.size + 5 →
      (∀ c o, s.heap.get? c = some o → h'.get? c = some o) → Q (.ref (s.heap.objs.size + 4)) { s with heap := h' }) :
    wpAny (model prog w) A (call (.type "zip") [v1, v2] [("strict", .bool true)]) Q E s := by
  refine callType_meetsK (Q₁ := fun obj s₁ => s₁.TypeIs obj "zip" ∧ Q obj s₁) F.called_zip (typeCall_zipS _ _) (newCall_zipS _ _) F.entry_zip_new F.entry_object_init (meets_zipS_new B1 B2) ⟨⟨h1, h2⟩, ?_⟩
    fun obj s1 hq => ⟨hq.1, initArgs_zipS _ _ _, _, object_init_meetsK F.called_zip.init.lookup F.called_zip.made (by decide), hq.1, rfl, hq.2⟩
  have z1 : (s.heap.push o1).objs.size = s.heap.objs.size + 1 := by rw [Heap.size_push]
  have z2 : ((s.heap.push o1).push o2).objs.size = s.heap.objs.size + 2 := by rw [Heap.size_push, z1]
  have zT : (gzT2 s.heap o1 o2).objs.size = s.heap.objs.size + 3 := by rw [Heap.size_push, z2]
  have zO : (gzO2 s.heap o1 o2).objs.size = s.heap.objs.size + 4 := by rw [Heap.size_push, zT]
  have zZ : (zsZ s.heap o1 o2).objs.size = s.heap.objs.size + 5 := by rw [Heap.size_push, zO]
  have gZ : (zsZ s.heap o1 o2).get? (gzO2 s.heap o1 o2).objs.size = some { cls := .type "zip", data := .fields #[.none, .bool false, .bool true, .ref ((s.heap.push o1).push o2).objs.size, .ref (gzT2 s.heap o1 o2).objs.size] } := Heap.get?_push_size _ rfl
  have gO : (zsZ s.heap o1 o2).get? (gzT2 s.heap o1 o2).objs.size = some { cls := .type "tuple", data := .seq #[.none, .none] } := Heap.get?_push_of_some _ (Heap.get?_push_size _ rfl)
  have gT : (zsZ s.heap o1 o2).get? ((s.heap.push o1).push o2).objs.size = some { cls := .type "tuple", data := .seq #[.ref s.heap.objs.size, .ref (s.heap.push o1).objs.size] } := Heap.get?_push_of_some _ (Heap.get?_push_of_some _ (Heap.get?_push_size _ rfl))
  have g1 : (zsZ s.heap o1 o2).get? s.heap.objs.size = some o1 := Heap.get?_push_of_some _ (Heap.get?_push_of_some _ (Heap.get?_push_of_some _ (Heap.get?_push_of_some _ (Heap.get?_push_size _ B1.free))))
  have g2 : (zsZ s.heap o1 o2).get? (s.heap.push o1).objs.size = some o2 := Heap.get?_push_of_some _ (Heap.get?_push_of_some _ (Heap.get?_push_of_some _ (Heap.get?_push_size _ B2.free)))
  rw [zO, zT, z2] at gZ
  rw [zT] at gO
  rw [z2, z1] at gT
  rw [z1] at g2
  show _ ∧ _
  rw [zO]
  exact ⟨⟨_, gZ, rfl⟩, h _ gZ gT gO g1 g2 zZ fun c o e => Heap.get?_push_of_some _ (Heap.get?_push_of_some _ (Heap.get?_push_of_some _ (Heap.get?_push_of_some _ (Heap.get?_push_of_some _ e))))⟩
end
theorem callWith_type_kw {M : Model} {A : Around} {E : Value → Shared → Prop} {s : Shared} {pos : Pos} {T : String} {first : List Value} {args : List (Bool × Sem Value)} {keywords : List (Option Str × Sem Value)} {Q : Value → Shared → Prop}
    (hplain : args.any (·.1) = false) (hkw : keywords.any (·.1.isNone) = false)
    (h : wpAny M A (evalArgs (.type T) true args keywords) (fun a s₁ => wpAny M A (call (.type T) (first ++ a.pos) a.kw) Q E s₁) E s) :
    wpAny M A (callWith pos (.type T) first args keywords) Q E s := by
  unfold callWith
  refine wpAny_bind (wpAny_holding (wpAny_mono h (fun a s₁ h₁ => wpAny_bind (wpAny_standAt ?_)) fun _ _ x => x))
  simp only [hplain, hkw, Bool.or_false]
  refine wpAny_bind (wpAny_pure ?_)
  exact wpAny_bind (wpAny_mono h₁ (fun r s₂ hr => wpAny_bind (wpAny_holding (wpAny_point (wpAny_pure hr)))) fun _ _ x => x)

/-! ### the turns of a zip -/
def IsZipB (b : Bool) (h : Heap) (z TI TO : Addr) (f0 : Value) : Prop :=
  h.get? z = some { cls := .type "zip", dict := none, data := .fields #[f0, .bool false, .bool b, .ref TI, .ref TO], slots := #[] }
def Itzk (K : PySem.W.Frag) (b : Bool) (k1 k2 : Kd) : It :=
  ⟨fun i H => ∃ (xs ys : List V) (x y : V), k1.is K H xs ∧ k2.is K H ys ∧ xs[i]? = some x ∧ ys[i]? = some y ∧ (b = true → xs.length = ys.length),
    fun i H v H' => ∃ T x y, v = .ref T ∧ H T = none ∧ H' = upd H T (.tup [x, y]) ∧ (∀ xs, k1.is K H xs → xs[i]? = some x) ∧ ∀ ys, k2.is K H ys → ys[i]? = some y,
    fun i H => ∃ xs ys : List V, k1.is K H xs ∧ k2.is K H ys ∧ i = min xs.length ys.length ∧ (b = true → xs.length = ys.length)⟩
structure ZipAp (z TI TO i1 i2 : Addr) (k1 k2 : Kd) : Prop where
  TIz : TI ≠ z
  TOz : TO ≠ z
  i1z : i1 ≠ z
  i2z : i2 ≠ z
  TITO : TI ≠ TO
  TIi1 : TI ≠ i1
  TIi2 : TI ≠ i2
  TOi1 : TO ≠ i1
  TOi2 : TO ≠ i2
  i12 : i1 ≠ i2
  k1z : k1.ap z
  k1T : k1.ap TO
  k11 : k1.ap i1
  k12 : k1.ap i2
  k2z : k2.ap z
  k2T : k2.ap TO
  k21 : k2.ap i1
  k22 : k2.ap i2
theorem ZipAp.sep {z TI TO i1 i2 : Addr} {k1 k2 : Kd} (D : ZipAp z TI TO i1 i2 k1 k2) : ZipSep2 z TI TO i1 i2 (k1.fp i1) (k2.fp i2) where
  TIz := D.TIz
  TOz := D.TOz
  TITO := D.TITO
  TIi1 := D.TIi1
  mem1 := Kd.mem _ _
  zf1 := Kd.notin D.k1z D.i1z.symm
  Tf1 := Kd.notin D.k1T D.TOi1
  TIi2 := D.TIi2
  mem2 := Kd.mem _ _
  zf2 := Kd.notin D.k2z D.i2z.symm
  Tf2 := Kd.notin D.k2T D.TOi2
  sep1_2 := Kd.notin D.k21 D.i12
  sep2_1 := Kd.notin D.k12 D.i12.symm
theorem goes_zipB {prog : Program} {w : World} {A : Around} {elts : List Expr} {x1 : Nat} {pos : Pos} {z TI TO i1 i2 : Addr} {fp1 fp2 : List Addr} {n1 n2 : Nat} {P1 P2 : Nat → Value → Prop} {St1 St2 : Nat → Heap → Prop} (b : Bool) (hb : b = true → n1 = n2) (hh : A.handled = none) (S : ZipSep2 z TI TO i1 i2 fp1 fp2) (D1 : Draws prog w A.in1 i1 fp1 n1 P1 St1) (D2 : Draws prog w A.in1 i2 fp2 n2 P2 St2) :
    GoesN prog w A (.Tuple elts x1 pos) z (z :: TI :: TO :: (fp1 ++ fp2)) [z, TO, i1, i2] (min n1 n2) (fun i h₀ v h => ∃ T x y, v = .ref T ∧ h₀.objs.size ≤ T ∧ P1 i x ∧ P2 i y ∧ h.IsTuple T #[x, y])
      (fun i h => IsZipB b h z TI TO .none ∧ IsTupOf2 h TI (.ref i1) (.ref i2) ∧ (∃ a1 a2, IsTupOf2 h TO a1 a2) ∧ St1 i h ∧ St2 i h) := by
  cases b with
  | false => exact GoesN.zip2 S D1 D2
  | true =>
    have e := hb rfl
    subst e
    rw [Nat.min_self]
    exact (GoesN.ofWalksT (WalksT.zipS S hh D1 D2)).mono fun i h₀ v h _ ⟨T, vals, ev, hn, ⟨x, y, hx, hy, evs⟩, hT⟩ => ⟨T, x, y, ev, hn, hx, hy, evs ▸ hT⟩
theorem turn_zipK {P : Program} {w : World} {K : PySem.W.Frag} {elts : List Expr} {kk : Nat} {tpos : Pos} {b : Bool} {k1 k2 : Kd} {z TI TO i1 i2 : Addr} (D : ZipAp z TI TO i1 i2 k1 k2) :
    Turn P w K (.Tuple elts kk tpos) (Itzk K b k1 k2) [z, TI, TO, i1, i2] z (fun i h => IsZipB b h z TI TO .none ∧ IsTupOf2 h TI (.ref i1) (.ref i2) ∧ (∃ x y, IsTupOf2 h TO x y) ∧ k1.at i1 i h ∧ k2.at i2 i h) where
  mem := by simp
  obj := fun i h st c hc => by
    obtain ⟨hz, hTI, ⟨x, y, hTO⟩, h1, h2⟩ := st
    have e' : c = z ∨ c = TI ∨ c = TO ∨ c = i1 ∨ c = i2 := by simpa using hc
    rcases e' with q | q | q | q | q
    · rw [q]; exact ⟨_, hz, fun v q => nomatch q⟩
    · rw [q]; exact ⟨_, hTI, fun v q => nomatch q⟩
    · rw [q]; exact ⟨_, hTO, fun v q => nomatch q⟩
    · rw [q]; exact Kd.obj h1
    · rw [q]; exact Kd.obj h2
  keep := fun i h h' st k => by
    obtain ⟨hz, hTI, ⟨x, y, hTO⟩, h1, h2⟩ := st
    exact ⟨k z (by simp) _ hz, k TI (by simp) _ hTI, ⟨x, y, k TO (by simp) _ hTO⟩, Kd.keep h1 fun o q => k i1 (by simp) o q, Kd.keep h2 fun o q => k i2 (by simp) o q⟩
  item := by
    intro X hP hw hK hc i pins s σ H E I hf st hg
    subst hP hw hK
    obtain ⟨hz, hTI, ⟨x0, y0, hTO⟩, h1, h2⟩ := st
    obtain ⟨xs, ys, x, y, hqx, hqy, hx, hy, hbl⟩ := hg
    obtain ⟨P1, S1, D1, st1, hY1, hat1⟩ := Kd.draws I hc D.k11 hqx h1
    obtain ⟨P2, S2, D2, st2, hY2, hat2⟩ := Kd.draws I hc D.k22 hqy h2
    have W := goes_zipB (elts := elts) (x1 := kk) (pos := tpos) b hbl (I.ok.hd hc) D.sep D1 D2
    have l1 := (List.getElem?_eq_some_iff.mp hx).1
    have l2 := (List.getElem?_eq_some_iff.mp hy).1
    have hf4 : ∀ c ∈ [z, TO, i1, i2], FpOk X pins H c := fun c hc => hf c (by
      have e' : c = z ∨ c = TO ∨ c = i1 ∨ c = i2 := by simpa using hc
      rcases e' with q | q | q | q <;> simp [q])
    refine thn (W.goes i s (fun v s2 => ∃ x H', Inv X pins σ H' s2 ∧ RelV x v ∧ (Itzk X.K b k1 k2).yld i H x H' ∧ (IsZipB b s2.heap z TI TO .none ∧ IsTupOf2 s2.heap TI (.ref i1) (.ref i2) ∧ (∃ x y, IsTupOf2 s2.heap TO x y) ∧ k1.at i1 (i + 1) s2.heap ∧ k2.at i2 (i + 1) s2.heap) ∧ ∀ c ∈ [z, TI, TO, i1, i2], H' c = none) E (by omega) ⟨hz, hTI, ⟨x0, y0, hTO⟩, st1, st2⟩ fun v h' tk hy' st' hk htk => ?_) fun r s1 ⟨v, hr, h4⟩ => ⟨v, hr, h4⟩
    obtain ⟨T, u1, u2, ev, hT, hu1, hu2, hT2⟩ := hy'
    subst ev
    obtain ⟨x', hx', ru1⟩ := hY1 i u1 hu1
    obtain ⟨y', hy'', ru2⟩ := hY2 i u2 hu2
    have new : ObjOk X.prog X.w (upd H T (.tup [x', y'])) h' T (.tup [x', y']) := ⟨by show 2 ≤ sizeLine; decide, [u1, u2], .cons ru1 (.cons ru2 .nil), hT2⟩
    have I1 : Inv X pins σ (upd H T (.tup [x', y'])) { s with heap := h', toks := tk } := I.turnedNew (ch := [z, TO, i1, i2]) hk hf4 hT new
    refine ⟨.ref T, _, I1, rfl, ⟨T, x', y', rfl, I.hok.fresh hT, rfl, fun l hl => by rw [Kd.inj I hl hqx]; exact hx', fun l hl => by rw [Kd.inj I hl hqy]; exact hy''⟩, ⟨st'.1, st'.2.1, st'.2.2.1, hat1 _ _ st'.2.2.2.1, hat2 _ _ st'.2.2.2.2⟩, fun c hcm => ?_⟩
    have hlt : c < s.heap.objs.size := by
      have e' : c = z ∨ c = TI ∨ c = TO ∨ c = i1 ∨ c = i2 := by simpa using hcm
      rcases e' with q | q | q | q | q
      · rw [q]; exact Heap.lt_size hz
      · rw [q]; exact Heap.lt_size hTI
      · rw [q]; exact Heap.lt_size hTO
      · rw [q]; obtain ⟨_, e1, _⟩ := Kd.obj h1; exact Heap.lt_size e1
      · rw [q]; obtain ⟨_, e2, _⟩ := Kd.obj h2; exact Heap.lt_size e2
    rw [upd_ne (Nat.ne_of_lt (Nat.lt_of_lt_of_le hlt hT))]
    exact (hf c hcm).1
  done := by
    intro X hP hw hK hc i pins s σ H E I hf st hg
    subst hP hw hK
    obtain ⟨hz, hTI, ⟨x0, y0, hTO⟩, h1, h2⟩ := st
    obtain ⟨xs, ys, hqx, hqy, hend, hbl⟩ := hg
    obtain ⟨P1, S1, D1, st1, hY1, hat1⟩ := Kd.draws I hc D.k11 hqx h1
    obtain ⟨P2, S2, D2, st2, hY2, hat2⟩ := Kd.draws I hc D.k22 hqy h2
    have W := goes_zipB (elts := elts) (x1 := kk) (pos := tpos) b hbl (I.ok.hd hc) D.sep D1 D2
    have hf4 : ∀ c ∈ [z, TO, i1, i2], FpOk X pins H c := fun c hc => hf c (by
      have e' : c = z ∨ c = TO ∨ c = i1 ∨ c = i2 := by simpa using hc
      rcases e' with q | q | q | q <;> simp [q])
    refine W.stops s (fun s1 => Inv X pins σ H s1) E ⟨hz, hTI, ⟨x0, y0, hTO⟩, by rw [← hend]; exact st1, by rw [← hend]; exact st2⟩ fun h' tk hk htk => I.turnedL (ch := [z, TO, i1, i2]) hk hf4
  self := fun A i s Q E st h => by
    cases b with
    | false => exact wpAny_pyIter_zip st.1 h
    | true => exact pyIter_zipS st.1 h
def iZipK (K : PySem.W.Frag) (b : Bool) (ta : TA) : TI := fun σ H R => ta σ H fun vs H1 => ∃ k1 k2 xs ys, vs = [Kd.v k1, Kd.v k2] ∧ k1.is K H1 xs ∧ k2.is K H1 ys ∧ R (Itzk K b k1 k2) H1
section
variable {X : Cx} {e e2 : Expr} {ta : TA} {p pos tpos : Pos} {elts : List Expr} {kk : Nat}
theorem zip_got {pins : List (Addr × Obj)} {σ : St} {H : Hp} {s1 : Shared} {h' : Heap} {R : It → Hp → Prop} {b : Bool} {k1 k2 : Kd} {t1 t2 : Tok} (I1 : Inv X pins σ H s1) (ap1 : ∀ b, s1.heap.objs.size ≤ b → k1.ap b) (ap2 : ∀ b, s1.heap.objs.size ≤ b → k2.ap b)
    (hz : IsZipB b h' (s1.heap.objs.size + 4) (s1.heap.objs.size + 2) (s1.heap.objs.size + 3) .none) (hTI : IsTupOf2 h' (s1.heap.objs.size + 2) (.ref s1.heap.objs.size) (.ref (s1.heap.objs.size + 1))) (hTO : IsTupOf2 h' (s1.heap.objs.size + 3) .none .none)
    (h1 : h'.get? s1.heap.objs.size = some (k1.ob t1)) (h2 : h'.get? (s1.heap.objs.size + 1) = some (k2.ob t2)) (hk : ∀ c o, s1.heap.get? c = some o → h'.get? c = some o) (q : R (Itzk X.K b k1 k2) H) :
    PIE X pins σ (.Tuple elts kk tpos) R (.ref (s1.heap.objs.size + 4)) { s1 with heap := h' } := by
  have I2 : Inv X pins σ H { s1 with heap := h' } := I1.kept (t' := s1.toks) hk
  have le : ∀ n, s1.heap.objs.size ≤ s1.heap.objs.size + n := fun n => Nat.le_add_right _ _
  refine ⟨s1.heap.objs.size + 4, [s1.heap.objs.size + 4, s1.heap.objs.size + 2, s1.heap.objs.size + 3, s1.heap.objs.size, s1.heap.objs.size + 1], _, _, H, rfl, I2, turn_zipK (b := b) (k1 := k1) (k2 := k2) ?_, ⟨hz, hTI, ⟨_, _, hTO⟩, Kd.at0 h1, Kd.at0 h2⟩, fun c hcm => ?_, q⟩
  · constructor <;> first | (show @Ne Nat _ _; omega) | exact ap1 _ (le _) | exact ap2 _ (le _) | exact ap1 _ (Nat.le_refl _) | exact ap2 _ (Nat.le_refl _)
  · have e' : c = s1.heap.objs.size + 4 ∨ c = s1.heap.objs.size + 2 ∨ c = s1.heap.objs.size + 3 ∨ c = s1.heap.objs.size ∨ c = s1.heap.objs.size + 1 := by simpa using hcm
    have hle : s1.heap.objs.size ≤ c := by
      rcases e' with z | z | z | z | z
      · rw [z]; exact le _
      · rw [z]; exact le _
      · rw [z]; exact le _
      · rw [z]; exact Nat.le_refl _
      · rw [z]; exact le _
    exact I1.fpOk hle (I1.hok.fresh hle)
theorem pi_zipK (hg : Gl X "zip") (hm : X.mg "zip" = none) (ha : PA X [e, e2] ta)
    (hs : starEach [e, e2] X.env = (false, eval e X.env) :: starEach [e2] X.env) (hpl : (backTo pos (starEach [e2] X.env)).any (·.1) = false) :
    PI X (.Tuple elts kk tpos) (.Call (.Name "zip" p) [e, e2] [] pos) (iZipK X.K false ta) := by
  refine ⟨fun pins s σ H R I h => ?_⟩
  refine Call_ (ld_blt I hg hm PyProof.Rows.boot_zip (PyProof.Rows.callWith_type1 (thn (ha.run pos pins s σ H _ I h) fun us s1 ⟨vs, H1, I1, r1, q1⟩ => ?_) hs hpl))
  obtain ⟨k1, k2, xs, ys, ex, hqx, hqy, q⟩ := q1
  subst ex
  cases r1 with
  | cons r rr =>
    cases rr with
    | cons r' rr =>
      cases rr
      obtain ⟨t1, Hh1, B1, hb1, ap1⟩ := Kd.begins I1 hqx r
      obtain ⟨t2, Hh2, B2, hb2, ap2⟩ := Kd.begins I1 hqy r'
      exact zip_begins2 B1 B2 hb1 hb2 fun h' hz hTI hTO h1 h2 hsz hk => wpAny_pyIter_zip hz (zip_got I1 ap1 ap2 hz hTI hTO h1 h2 hk q)
theorem pi_zipSK {j : Nat} {kp cp : Pos} (hg : Gl X "zip") (hm : X.mg "zip" = none) (ha : PA X [e, e2] ta)
    (hs : starEach [e, e2] X.env = (false, eval e X.env) :: starEach [e2] X.env) (hpl : (backTo pos (starEach [e2] X.env)).any (·.1) = false) :
    PI X (.Tuple elts kk tpos) (.Call (.Name "zip" p) [e, e2] [⟨some "strict", .Constant (.bool true) j cp, kp⟩] pos) (iZipK X.K true ta) := by
  refine ⟨fun pins s σ H R I h => ?_⟩
  refine wpAny_Call_Name_kw (ld_blt I hg hm PyProof.Rows.boot_zip ?_)
  have hs' : backTo pos (starEach [e, e2] X.env) = (false, eval e X.env) :: backTo pos (starEach [e2] X.env) := by rw [hs]; rfl
  refine callWith_type_kw (by rw [hs']; show (false || (backTo pos (starEach [e2] X.env)).any (·.1)) = false; rw [hpl]; rfl) rfl ?_
  rw [hs']
  refine evalArgs_kwB rfl ?_
  rw [← hs']
  refine thn (ha.run pos pins s σ H _ I h) fun us s1 ⟨vs, H1, I1, r1, q1⟩ => ?_
  refine thn ((pk_cons (nm := some "strict") (kpos := kp) (pe_bl (X := X) (b := true) (j := j) (pos := cp)) pk_nil).run pos pins s1 σ H1 (fun vs2 H2 => vs2 = [.bl true] ∧ H2 = H1) I1 ⟨rfl, rfl⟩) fun ws s2 ⟨zs, H2, I2, r2, e1, e2⟩ => ?_
  subst e1
  subst e2
  cases r2 with
  | cons r2 rr2 =>
    cases rr2
    cases r2
    obtain ⟨k1, k2, xs, ys, ex, hqx, hqy, q⟩ := q1
    subst ex
    cases r1 with
    | cons r rr =>
      cases rr with
      | cons r' rr =>
        cases rr
        obtain ⟨t1, Hh1, B1, hb1, ap1⟩ := Kd.begins I2 hqx r
        obtain ⟨t2, Hh2, B2, hb2, ap2⟩ := Kd.begins I2 hqy r'
        exact zipS_begins B1 B2 hb1 hb2 fun h' hz hTI hTO h1 h2 hsz hk => pyIter_zipS hz (zip_got I2 ap1 ap2 hz hTI hTO h1 h2 hk q)
end
end MP
end
section
set_option Elab.async false
set_option linter.all false
set_option maxRecDepth 100000
set_option maxHeartbeats 2000000
/-! MPL: sources of loops, targets, comprehensions. -/
namespace MP
open PySem PySem.Spec PyProof.Rows L2

/-! ### what stands while a loop walks -/
structure GAt (K : PySem.W.Frag) (ρ0 : List Addr) (H0 : Hp) (w : Guard) (ρ : List Addr) (H : Hp) (S : DS) : Prop where
  mo : Mo ρ0 H0 ρ H
  hs : HS K ρ H S
  g : holdsG S w = true
def GH (K : PySem.W.Frag) (ρ0 : List Addr) (H0 : Hp) (w : Guard) (H : Hp) : Prop := ∃ ρ S, GAt K ρ0 H0 w ρ H S
def YH (K : PySem.W.Frag) (ρ0 : List Addr) (H0 : Hp) (w : Guard) (ds : List D) : Nat → Hp → V → Hp → Prop := fun i H x H' =>
  (∀ a o, H a = some o → H' a = some o) ∧ ∀ ρ S, GAt K ρ0 H0 w ρ H S → ∃ d, ds[i]? = some d ∧ Rep K ρ H' x d
abbrev SrcOk (K : PySem.W.Frag) (ρ0 : List Addr) (H0 : Hp) (w : Guard) (J : It) (ds : List D) : Prop := Walk J ds.length (GH K ρ0 H0 w) (YH K ρ0 H0 w ds)
/-- a sequence holds the data ds -/
def KdOk (K : PySem.W.Frag) (ρ0 : List Addr) (H0 : Hp) (w : Guard) (k : Kd) (ds : List D) : Prop := ∀ ρ H S, GAt K ρ0 H0 w ρ H S → ∃ xs, k.is K H xs ∧ Reps K ρ H xs ds
theorem reps_signs {K : PySem.W.Frag} {ρ : List Addr} {H : Hp} : ∀ s : List Nat, Reps K ρ H (sgn (toS s)) (signs s) := by
  intro s
  unfold sgn signs
  rw [toS_cps]
  induction s with
  | nil => exact .nil
  | cons c r ih => exact .cons (.str [c]) ih
theorem holdsG_app {S : DS} : ∀ {w1 w2 : Guard}, holdsG S (w1 ++ w2) = true ↔ holdsG S w1 = true ∧ holdsG S w2 = true
  | [], w2 => by simp [holdsG]
  | (n, xs) :: r, w2 => by
    show holdsG S ((n, xs) :: (r ++ w2)) = true ↔ _
    simp only [holdsG, Bool.and_eq_true, holdsG_app (w1 := r), and_assoc]
theorem KdOk.left {K : PySem.W.Frag} {ρ0 : List Addr} {H0 : Hp} {w1 w2 : Guard} {k : Kd} {ds : List D} (h : KdOk K ρ0 H0 w1 k ds) : KdOk K ρ0 H0 (w1 ++ w2) k ds := fun ρ H S g => h ρ H S ⟨g.mo, g.hs, (holdsG_app.mp g.g).1⟩
theorem KdOk.right {K : PySem.W.Frag} {ρ0 : List Addr} {H0 : Hp} {w1 w2 : Guard} {k : Kd} {ds : List D} (h : KdOk K ρ0 H0 w2 k ds) : KdOk K ρ0 H0 (w1 ++ w2) k ds := fun ρ H S g => h ρ H S ⟨g.mo, g.hs, (holdsG_app.mp g.g).2⟩
section
variable {K : PySem.W.Frag} {ρ ρ0 : List Addr} {H H0 : Hp} {S : DS} {w : Guard} {k : Kd} {ds : List D} {v : V} {d : D}
theorem kd_of (hs : HS K ρ H S) (r : Rep K ρ H v d) {α : Type} {f : Walked → M α} {P : α → DS → Prop} {X : Exc → DS → Prop} (h : Ok ((walkOf d >>= f) S) P X) : ∃ k w ds, v = Kd.v k ∧ KdOk K ρ H w k ds ∧ GAt K ρ H w ρ H S ∧ Ok (f (w, ds) S) P X := by
  have mo : Mo ρ H ρ H := (Step.refl hs).mo
  cases r with
  | non => exact h.elim
  | bl b => exact h.elim
  | int i => exact h.elim
  | str s => exact ⟨.s (toS s), [], signs s, rfl, fun ρ' H' S' g => ⟨_, rfl, reps_signs s⟩, ⟨mo, hs, rfl⟩, h⟩
  | tup h1 h2 => exact ⟨.t _, [], _, rfl, fun ρ' H' S' g => ⟨_, SqT.mo g.mo h1, Reps.mo g.mo _ _ h2⟩, ⟨mo, hs, rfl⟩, h⟩
  | lst h1 h2 => exact ⟨.l _, [], _, rfl, fun ρ' H' S' g => ⟨_, (h1.mo g.mo).sql, Reps.mo g.mo _ _ h2⟩, ⟨mo, hs, rfl⟩, h⟩
  | @ref a n h1 =>
    have h2 := Ok.bind.mp h
    cases e : S[n]? with
    | none =>
      have : walkOf (.ref n) S = .bad := by show (match S[n]? with | some (.lst xs) => _ | _ => _) = _; rw [e]
      rw [this] at h2
      exact h2.elim
    | some o =>
      cases o with
      | ins c fs =>
        have : walkOf (.ref n) S = .bad := by show (match S[n]? with | some (.lst xs) => _ | _ => _) = _; rw [e]
        rw [this] at h2
        exact h2.elim
      | lst xs =>
        have : walkOf (.ref n) S = .ok ([(n, xs)], xs) S := by show (match S[n]? with | some (.lst xs) => _ | _ => _) = _; rw [e]
        rw [this] at h2
        refine ⟨.l a, [(n, xs)], xs, rfl, fun ρ' H' S' g => ?_, ⟨mo, hs, by simp [holdsG, e]⟩, h2⟩
        have e' : S'[n]? = some (.lst xs) := by
          have := g.g
          simp only [holdsG, Bool.and_true, decide_eq_true_eq] at this
          exact this
        obtain ⟨b, eb, ys, e1, e2⟩ := g.hs.at e'
        have := prefix_get g.mo.pre h1
        rw [eb] at this
        cases this
        exact ⟨ys, .of e1, e2⟩
theorem src_kd (h : KdOk K ρ0 H0 w k ds) : SrcOk K ρ0 H0 w (Itk K k) ds where
  goes := fun i H hi ⟨ρ, S, g⟩ => by
    obtain ⟨xs, h1, h2⟩ := h ρ H S g
    have hl := h2.length
    exact ⟨xs, _, h1, List.getElem?_eq_getElem (by rw [hl]; exact hi)⟩
  stops := fun H ⟨ρ, S, g⟩ => by
    obtain ⟨xs, h1, h2⟩ := h ρ H S g
    exact ⟨xs, h1, h2.length⟩
  yields := fun i H x H' hi _ y => by
    obtain ⟨rfl, y⟩ := y
    refine ⟨fun _ _ z => z, fun ρ S g => ?_⟩
    obtain ⟨xs, h1, h2⟩ := h ρ H' S g
    exact h2.getV (y xs h1)
theorem enumFrom_length : ∀ (ds : List D) (n : Int), (enumFrom n ds).length = ds.length
  | [], _ => rfl
  | d :: ds, n => by rw [enumFrom, List.length_cons, List.length_cons, enumFrom_length ds]
theorem enumFrom_get : ∀ (ds : List D) (n : Int) (i : Nat) (d : D), ds[i]? = some d → (enumFrom n ds)[i]? = some (.tup [.int (n + (i : Nat)), d])
  | d' :: ds, n, 0, d, h => by
    rw [List.getElem?_cons_zero] at h
    cases h
    rw [enumFrom, List.getElem?_cons_zero]
    simp
  | d' :: ds, n, i + 1, d, h => by
    rw [List.getElem?_cons_succ] at h
    rw [enumFrom, List.getElem?_cons_succ, enumFrom_get ds (n + 1) i d h]
    congr 4
    omega
theorem src_enum (h : KdOk K ρ0 H0 w k ds) : SrcOk K ρ0 H0 w (Itek K k) (enumFrom 0 ds) where
  goes := fun i H hi ⟨ρ, S, g⟩ => by
    obtain ⟨xs, h1, h2⟩ := h ρ H S g
    have hl := h2.length
    rw [enumFrom_length] at hi
    exact ⟨xs, _, h1, List.getElem?_eq_getElem (by rw [hl]; exact hi)⟩
  stops := fun H ⟨ρ, S, g⟩ => by
    obtain ⟨xs, h1, h2⟩ := h ρ H S g
    exact ⟨xs, h1, by rw [enumFrom_length]; exact h2.length⟩
  yields := fun i H x H' hi _ y => by
    obtain ⟨T, x', rfl, n, rfl, y⟩ := y
    refine ⟨grow_upd n, fun ρ S g => ?_⟩
    obtain ⟨xs, h1, h2⟩ := h ρ H S g
    obtain ⟨d, hd, r⟩ := h2.getV (y xs h1)
    refine ⟨_, enumFrom_get ds 0 i d hd, .tup (.of upd_same) (.cons ?_ (.cons (r.step (.grow g.hs (grow_upd n))) .nil))⟩
    rw [Int.zero_add]
    exact .int _
theorem zipD_length : ∀ (xs ys : List D), (zipD xs ys).length = min xs.length ys.length
  | [], _ => by simp [zipD]
  | _ :: _, [] => by simp [zipD]
  | x :: xs, y :: ys => by rw [zipD, List.length_cons, List.length_cons, List.length_cons, zipD_length xs ys]; omega
theorem zipD_get : ∀ (xs ys : List D) (i : Nat) (x y : D), xs[i]? = some x → ys[i]? = some y → (zipD xs ys)[i]? = some (.tup [x, y])
  | x' :: xs, y' :: ys, 0, x, y, h1, h2 => by
    rw [List.getElem?_cons_zero] at h1 h2
    cases h1
    cases h2
    rw [zipD, List.getElem?_cons_zero]
  | x' :: xs, y' :: ys, i + 1, x, y, h1, h2 => by
    rw [List.getElem?_cons_succ] at h1 h2
    rw [zipD, List.getElem?_cons_succ, zipD_get xs ys i x y h1 h2]
theorem src_zip {b : Bool} {k2 : Kd} {es : List D} (h : KdOk K ρ0 H0 w k ds) (h' : KdOk K ρ0 H0 w k2 es) (hb : b = true → ds.length = es.length) : SrcOk K ρ0 H0 w (Itzk K b k k2) (zipD ds es) where
  goes := fun i H hi ⟨ρ, S, g⟩ => by
    obtain ⟨xs, h1, h2⟩ := h ρ H S g
    obtain ⟨ys, h3, h4⟩ := h' ρ H S g
    have hl := h2.length
    have hl2 := h4.length
    rw [zipD_length] at hi
    exact ⟨xs, ys, _, _, h1, h3, List.getElem?_eq_getElem (by omega), List.getElem?_eq_getElem (by omega), fun z => by rw [hl, hl2]; exact hb z⟩
  stops := fun H ⟨ρ, S, g⟩ => by
    obtain ⟨xs, h1, h2⟩ := h ρ H S g
    obtain ⟨ys, h3, h4⟩ := h' ρ H S g
    have hl := h2.length
    have hl2 := h4.length
    exact ⟨xs, ys, h1, h3, by rw [zipD_length, hl, hl2], fun z => by rw [hl, hl2]; exact hb z⟩
  yields := fun i H x H' hi _ y => by
    obtain ⟨T, x', y', rfl, n, rfl, y1, y2⟩ := y
    refine ⟨grow_upd n, fun ρ S g => ?_⟩
    obtain ⟨xs, h1, h2⟩ := h ρ H S g
    obtain ⟨ys, h3, h4⟩ := h' ρ H S g
    obtain ⟨d, hd, r⟩ := h2.getV (y1 xs h1)
    obtain ⟨d2, hd2, r2⟩ := h4.getV (y2 ys h3)
    exact ⟨_, zipD_get ds es i d d2 hd hd2, .tup (.of upd_same) (.cons (r.step (.grow g.hs (grow_upd n))) (.cons (r2.step (.grow g.hs (grow_upd n))) .nil))⟩
theorem upto_length : ∀ (n : Nat) (lo : Int), (upto lo n).length = n
  | 0, _ => rfl
  | n + 1, lo => by rw [upto, List.length_cons, upto_length n]
theorem upto_get : ∀ (n : Nat) (lo : Int) (i : Nat), i < n → (upto lo n)[i]? = some (.int (lo + (i : Nat)))
  | n + 1, lo, 0, _ => by rw [upto, List.getElem?_cons_zero]; simp
  | n + 1, lo, i + 1, h => by
    rw [upto, List.getElem?_cons_succ, upto_get n (lo + 1) i (by omega)]
    congr 2
    omega
theorem src_rng {lo : Int} {n : Nat} : SrcOk K ρ0 H0 w (Itr lo n) (upto lo n) where
  goes := fun i H hi _ => by rw [upto_length] at hi; exact hi
  stops := fun H _ => by
    show n ≤ (upto lo n).length
    rw [upto_length]
    exact Nat.le_refl _
  yields := fun i H x H' hi _ y => by
    obtain ⟨rfl, rfl⟩ := y
    rw [upto_length] at hi
    exact ⟨fun _ _ z => z, fun ρ S g => ⟨_, upto_get n lo i hi, .int _⟩⟩
end

/-! ### a source's reading -/
def tSrc (p : Pm) (s : Src) : TI := fun σ H R => ∃ ρ σd S, ES p.K p.own p.H0 ρ H σ σd ∧ HS p.K ρ H S ∧
  Ok (evSrc p.cf s σd S) (fun wd S' => ∀ J ρ' H', Step ρ H ρ' H' → HS p.K ρ' H' S' → SrcOk p.K ρ' H' wd.1 J wd.2 → R J H') (XQ p σ ρ H)
section
variable {X : Cx} {p : Pm} {a b e : Expr} {pa pb : E} {pos tpos : Pos} {tg : Expr}
theorem PI.imp {t t' : TI} (h : PI X tg e t) (i : ∀ σ H R, t' σ H R → t σ H R) : PI X tg e t' := ⟨fun pins s σ H R I q => h.run pins s σ H R I (i σ H R q)⟩
theorem ss_seq (g : Good X p) (ha : PE X a (tE p pa)) (hv : valE p.own pa = true) : PI X tg a (tSrc p (.seq pa)) :=
  PI.imp (pi_kd ha) fun σ H R ⟨ρ, σd, S, es, hs, h⟩ => by
    rw [evSrc] at h
    refine seq1 (k := walkOf) es hs h fun vx x ρ1 H1 S1 st hs1 es1 rx rv h1 => ?_
    obtain ⟨k, w, ds, rfl, hk, hg, hq⟩ := kd_of (f := fun z => Pure.pure z) hs1 (rv hv) (Ok.bind.mpr (h1.mono (fun _ _ q => q) fun _ _ q => q))
    obtain ⟨xs, hx, _⟩ := hk _ _ _ hg
    exact ⟨k, xs, rfl, by rw [← g.K]; exact hx, by rw [← g.K]; exact hq _ ρ1 H1 st hs1 (src_kd hk)⟩
theorem ss_enum (g : Good X p) {pn : Pos} {elts : List Expr} {kk : Nat} (hg : Gl X "enumerate") (hm : X.mg "enumerate" = none) (ha : PE X a (tE p pa)) (hv : valE p.own pa = true)
    (hst : starEach [a] X.env = (false, eval a X.env) :: starEach [] X.env) (hpl : (backTo pos (starEach [] X.env)).any (·.1) = false) : PI X (.Tuple elts kk tpos) (.Call (.Name "enumerate" pn) [a] [] pos) (tSrc p (.enum pa)) :=
  PI.imp (pi_enumK hg hm (pa_cons ha pa_nil hst) hst hpl) fun σ H R ⟨ρ, σd, S, es, hs, h⟩ => by
    rw [evSrc] at h
    refine seq1 es hs h fun vx x ρ1 H1 S1 st hs1 es1 rx rv h1 => ?_
    obtain ⟨k, w, ds, rfl, hk, hg, hq⟩ := kd_of hs1 (rv hv) h1
    obtain ⟨xs, hx, _⟩ := hk _ _ _ hg
    exact ⟨k, xs, rfl, by rw [← g.K]; exact hx, by rw [← g.K]; exact hq _ ρ1 H1 st hs1 (src_enum hk)⟩
theorem zip_reading (g : Good X p) (bs : Bool) {σ : St} {H : Hp} {R : It → Hp → Prop} (hva : valE p.own pa = true) (hvb : valE p.own pb = true) (h : tSrc p (.zip pa pb bs) σ H R) : iZipK X.K bs (tCons (tE p pa) (tCons (tE p pb) tNil)) σ H R := by
  obtain ⟨ρ, σd, S, es, hs, h⟩ := h
  rw [evSrc] at h
  refine seq2 es hs h fun vx vy x y ρ1 H1 S1 st hs1 es1 rx ry rvx rvy h1 => ?_
  obtain ⟨k, w, ds, rfl, hk, hg, h2⟩ := kd_of hs1 (rvx hva) h1
  obtain ⟨k', w', ds', rfl, hk', hg', h3⟩ := kd_of hs1 (rvy hvb) h2
  obtain ⟨xs, hx, _⟩ := hk _ _ _ hg
  obtain ⟨ys, hy, _⟩ := hk' _ _ _ hg'
  refine ⟨k, k', xs, ys, rfl, by rw [← g.K]; exact hx, by rw [← g.K]; exact hy, ?_⟩
  have h3 : Ok ((if bs = true → ds.length = ds'.length then (Pure.pure (w ++ w', zipD ds ds') : M Walked) else M.bad) S1) _ _ := h3
  split at h3
  · rename_i hb
    rw [← g.K]
    exact h3 _ ρ1 H1 st hs1 (src_zip hk.left hk'.right hb)
  · exact h3.elim
theorem ss_zip (g : Good X p) {pn : Pos} {elts : List Expr} {kk : Nat} (hg : Gl X "zip") (hm : X.mg "zip" = none) (ha : PE X a (tE p pa)) (hb : PE X b (tE p pb)) (hva : valE p.own pa = true) (hvb : valE p.own pb = true)
    (hst : starEach [a, b] X.env = (false, eval a X.env) :: starEach [b] X.env) (hst2 : starEach [b] X.env = (false, eval b X.env) :: starEach [] X.env) (hpl : (backTo pos (starEach [b] X.env)).any (·.1) = false) : PI X (.Tuple elts kk tpos) (.Call (.Name "zip" pn) [a, b] [] pos) (tSrc p (.zip pa pb false)) :=
  PI.imp (pi_zipK hg hm (pa_cons ha (pa_cons hb pa_nil hst2) hst) hst hpl) fun σ H R h => zip_reading g false hva hvb h
theorem ss_zipS (g : Good X p) {pn kp cp : Pos} {j : Nat} {elts : List Expr} {kk : Nat} (hg : Gl X "zip") (hm : X.mg "zip" = none) (ha : PE X a (tE p pa)) (hb : PE X b (tE p pb)) (hva : valE p.own pa = true) (hvb : valE p.own pb = true)
    (hst : starEach [a, b] X.env = (false, eval a X.env) :: starEach [b] X.env) (hst2 : starEach [b] X.env = (false, eval b X.env) :: starEach [] X.env) (hpl : (backTo pos (starEach [b] X.env)).any (·.1) = false) : PI X (.Tuple elts kk tpos) (.Call (.Name "zip" pn) [a, b] [⟨some "strict", .Constant (.bool true) j cp, kp⟩] pos) (tSrc p (.zip pa pb true)) :=
  PI.imp (pi_zipSK hg hm (pa_cons ha (pa_cons hb pa_nil hst2) hst) hst hpl) fun σ H R h => zip_reading g true hva hvb h
theorem rng_reading {σ : St} {H : Hp} {R : It → Hp → Prop} (h : tSrc p (.rng pa pb) σ H R) : iRng2 (tCons (tE p pa) (tCons (tE p pb) tNil)) σ H R := by
  obtain ⟨ρ, σd, S, es, hs, h⟩ := h
  rw [evSrc] at h
  refine seq2 es hs h fun vx vy x y ρ1 H1 S1 st hs1 es1 rx ry rvx rvy h1 => ?_
  cases x <;> first | exact h1.elim | skip
  cases y <;> first | exact h1.elim | skip
  case int.int i j =>
    have h1 : Ok ((if -(2 ^ 62) ≤ i ∧ i < 2 ^ 62 ∧ -(2 ^ 62) ≤ j ∧ j < 2 ^ 62 then (Pure.pure ([], upto i (j - i).toNat) : M Walked) else M.bad) S1) _ _ := h1
    split at h1
    · rename_i hb
      have e1 := rx.v.int_inv
      have e2 := ry.v.int_inv
      subst e1
      subst e2
      exact ⟨i, j, rfl, hb, h1 _ ρ1 H1 st hs1 src_rng⟩
    · exact h1.elim
theorem ss_rng2 {pn : Pos} (hg : Gl X "range") (hm : X.mg "range" = none) (ha : PE X a (tE p pa)) (hb : PE X b (tE p pb))
    (hst : starEach [a, b] X.env = (false, eval a X.env) :: starEach [b] X.env) (hst2 : starEach [b] X.env = (false, eval b X.env) :: starEach [] X.env) (hs3 : starEach [a, b] X.env = [(false, eval a X.env), (false, eval b X.env)]) (hs4 : starEach [b] X.env = [(false, eval b X.env)]) : PI X tg (.Call (.Name "range" pn) [a, b] [] pos) (tSrc p (.rng pa pb)) :=
  PI.imp (pi_range2 hg hm (pa_cons ha (pa_cons hb pa_nil hst2) hst) hs3 hs4) fun σ H R h => rng_reading h
theorem ss_rng1 {pn : Pos} (hg : Gl X "range") (hm : X.mg "range" = none) (hb : PE X b (tE p pb)) (hst2 : starEach [b] X.env = (false, eval b X.env) :: starEach [] X.env) (hs4 : starEach [b] X.env = [(false, eval b X.env)]) : PI X tg (.Call (.Name "range" pn) [b] [] pos) (tSrc p (.rng (.con (.int 0)) pb)) :=
  PI.imp (pi_range1 hg hm (pa_cons hb pa_nil hst2) hs4) fun σ H R ⟨ρ, σd, S, es, hs, h⟩ => by
    rw [evSrc] at h
    have h0 : Ok ((evE p.cf pb σd >>= fun y => match (D.int 0), y with
      | .int i, .int j => if -(2 ^ 62) ≤ i ∧ i < 2 ^ 62 ∧ -(2 ^ 62) ≤ j ∧ j < 2 ^ 62 then (Pure.pure ([], upto i (j - i).toNat) : M Walked) else M.bad
      | _, _ => M.bad) S) (fun wd S' => ∀ J ρ' H', Step ρ H ρ' H' → HS p.K ρ' H' S' → SrcOk p.K ρ' H' wd.1 J wd.2 → R J H') (XQ p σ ρ H) := by
      rw [evE] at h
      exact h
    refine seq1 es hs h0 fun vy y ρ1 H1 S1 st hs1 es1 ry rvy h1 => ?_
    cases y <;> first | exact h1.elim | skip
    case int j =>
      have h1 : Ok ((if -(2 ^ 62) ≤ (0 : Int) ∧ (0 : Int) < 2 ^ 62 ∧ -(2 ^ 62) ≤ j ∧ j < 2 ^ 62 then (Pure.pure ([], upto 0 (j - 0).toNat) : M Walked) else M.bad) S1) _ _ := h1
      split at h1
      · rename_i hb
        have e2 := ry.v.int_inv
        subst e2
        refine ⟨j, rfl, hb.2.2.1, hb.2.2.2, ?_⟩
        have := h1 (Itr 0 (j - 0).toNat) ρ1 H1 st hs1 src_rng
        rw [Int.sub_zero] at this
        exact this
      · exact h1.elim
end
end MP
end
section
set_option Elab.async false
set_option linter.all false
set_option maxRecDepth 100000
set_option maxHeartbeats 2000000
/-! MPM: targets, comprehensions. -/
namespace MP
open PySem PySem.Spec PyProof.Rows L2

/-! ### targets -/
mutual
def Tg.names : Tg → List Nat
  | .nm i => [i]
  | .tp ts => Tg.namess ts
def Tg.namess : List Tg → List Nat
  | [] => []
  | t :: ts => t.names ++ Tg.namess ts
end
theorem wipe_set {i : Nat} {x : Option V} {σ : St} : ∀ vs : List Nat, (i ∈ vs → wipe (σ.set i x) vs = wipe σ vs) ∧ (i ∉ vs → wipe (σ.set i x) vs = (wipe σ vs).set i x)
  | [] => ⟨fun h => by simp at h, fun _ => rfl⟩
  | v :: vs => by
    obtain ⟨h1, h2⟩ := wipe_set (i := i) (x := x) (σ := σ) vs
    refine ⟨fun h => ?_, fun h => ?_⟩
    · unfold wipe
      by_cases hm : i ∈ vs
      · rw [h1 hm]
      · have e : i = v := by
          rcases List.mem_cons.mp h with z | z
          · exact z
          · exact absurd z hm
        subst e
        rw [h2 hm, List.set_set]
    · unfold wipe
      have hn : i ≠ v := fun z => h (by rw [z]; exact List.mem_cons_self ..)
      rw [h2 fun z => h (List.mem_cons_of_mem _ z), List.set_comm _ _ hn]
theorem wipe_wipe {σ : St} {vs : List Nat} : ∀ {ws : List Nat}, (∀ i ∈ ws, i ∈ vs) → wipe (wipe σ ws) vs = wipe σ vs
  | [], _ => rfl
  | w :: ws, h => by
    rw [show wipe σ (w :: ws) = (wipe σ ws).set w none from rfl, (wipe_set vs).1 (h w (List.mem_cons_self ..))]
    exact wipe_wipe fun i hi => h i (List.mem_cons_of_mem _ hi)
theorem ES.unset {K : PySem.W.Frag} {own : List Bool} {H0 : Hp} {ρ : List Addr} {H : Hp} {σ : St} {σd : Env} (e : ES K own H0 ρ H σ σd) (i : Nat) : ES K own H0 ρ H (σ.set i none) (σd.set i none) where
  len := by rw [List.length_set, List.length_set]; exact e.len
  vl := fun j d h1 h2 => by
    by_cases z : i = j
    · subst z
      by_cases hl : i < σd.length
      · rw [List.getElem?_set_self hl] at h2; cases h2
      · rw [List.getElem?_eq_none (by rw [List.length_set]; omega)] at h2; cases h2
    · rw [List.getElem?_set_ne z] at h2 ⊢
      exact e.vl j d h1 h2
  ow := fun j d h1 h2 => by
    by_cases z : i = j
    · subst z
      by_cases hl : i < σd.length
      · rw [List.getElem?_set_self hl] at h2; cases h2
      · rw [List.getElem?_eq_none (by rw [List.length_set]; omega)] at h2; cases h2
    · rw [List.getElem?_set_ne z] at h2
      obtain ⟨a, xs, ds, h3, h4, h5⟩ := e.ow j d h1 h2
      exact ⟨a, xs, ds, h3, by rw [List.getElem?_set_ne z]; exact h4, h5⟩
  sp := fun j k a hjk h1 h2 h3 h4 h5 h6 => by
    have nj : i ≠ j := fun z => by
      subst z
      obtain ⟨d, h3⟩ := h3
      by_cases hl : i < σd.length
      · rw [List.getElem?_set_self hl] at h3; cases h3
      · rw [List.getElem?_eq_none (by rw [List.length_set]; omega)] at h3; cases h3
    have nk : i ≠ k := fun z => by
      subst z
      obtain ⟨d, h4⟩ := h4
      by_cases hl : i < σd.length
      · rw [List.getElem?_set_self hl] at h4; cases h4
      · rw [List.getElem?_eq_none (by rw [List.length_set]; omega)] at h4; cases h4
    rw [List.getElem?_set_ne nj] at h3 h5
    rw [List.getElem?_set_ne nk] at h4 h6
    exact e.sp j k a hjk h1 h2 h3 h4 h5 h6
theorem ES.wipe {K : PySem.W.Frag} {own : List Bool} {H0 : Hp} {ρ : List Addr} {H : Hp} {σ : St} {σd : Env} (e : ES K own H0 ρ H σ σd) : ∀ vs : List Nat, ES K own H0 ρ H (L2.wipe σ vs) (wipeD σd vs)
  | [] => e
  | v :: vs => (ES.wipe e vs).unset v
def OutV (σ' σ : St) (ns : List Nat) : Prop := ∀ vs : List Nat, (∀ i ∈ ns, i ∈ vs) → wipe σ' vs = wipe σ vs
def tG (p : Pm) (t : Tg) : TG := fun v σ H Q => ∃ ρ d σd σd', ES p.K p.own p.H0 ρ H σ σd ∧ Rep p.K ρ H v d ∧ bindT t d σd = some σd' ∧ ∀ σ', ES p.K p.own p.H0 ρ H σ' σd' → OutV σ' σ t.names → Q σ' H
def tGs (p : Pm) (ts : List Tg) : TGs := fun vs σ H Q => ∃ ρ ds σd σd', ES p.K p.own p.H0 ρ H σ σd ∧ Reps p.K ρ H vs ds ∧ bindTs ts ds σd = some σd' ∧ ∀ σ', ES p.K p.own p.H0 ρ H σ' σd' → OutV σ' σ (Tg.namess ts) → Q σ' H
section
variable {X : Cx} {p : Pm} {pos : Pos}
theorem PG.imp {e : Expr} {t t' : TG} (h : PG X e t) (i : ∀ v σ H Q, t' v σ H Q → t v σ H Q) : PG X e t' := ⟨fun pins s σ H v u Q I r q => h.run pins s σ H v u Q I r (i v σ H Q q)⟩
theorem PGs.imp {e : List Expr} {t t' : TGs} (h : PGs X e t) (i : ∀ v σ H Q, t' v σ H Q → t v σ H Q) : PGs X e t' := ⟨fun pins s σ H v u Q I r q => h.run pins s σ H v u Q I r (i v σ H Q q)⟩
theorem sg_nm (g : Good X p) {i : Nat} {x : Str} (hi : X.N[i]? = some x) (hx : Loc X.env.scope x) (hf : X.fn x = true ∨ X.env.scope.names.lookup x = some .local) (ho : ownAt p.own i = false) : PG X (.Name x pos) (tG p (.nm i)) :=
  PG.imp (pg_name g.nd hi hx hf) fun v σ H Q ⟨ρ, d, σd, σd', es, r, hb, q⟩ => by
    rw [bindT] at hb
    cases hb
    refine q _ (es.set ho r) fun vs hvs => ?_
    exact (wipe_set vs).1 (hvs i (by simp [Tg.names]))
theorem sgs_nil : PGs X [] (tGs p []) :=
  PGs.imp pgs_nil fun vs σ H Q ⟨ρ, ds, σd, σd', es, r, hb, q⟩ => by
    cases ds with
    | nil =>
      rw [bindTs] at hb
      cases hb
      cases r
      exact ⟨rfl, q σ es fun _ _ => rfl⟩
    | cons d ds => simp [bindTs] at hb
theorem sgs_cons {e : Expr} {es : List Expr} {t : Tg} {ts : List Tg} (h : PG X e (tG p t)) (hr : PGs X es (tGs p ts)) (hc : (assignEach (e :: es) X.env).map (·.2) = assign e X.env :: (assignEach es X.env).map (·.2)) : PGs X (e :: es) (tGs p (t :: ts)) :=
  PGs.imp (pgs_cons h hr hc) fun vs σ H Q ⟨ρ, ds, σd, σd', es, r, hb, q⟩ => by
    cases ds with
    | nil => simp [bindTs] at hb
    | cons d ds =>
      rw [bindTs] at hb
      obtain ⟨σ1, h1, h2⟩ := Option.bind_eq_some_iff.mp hb
      cases r with
      | cons r rr =>
        refine ⟨_, _, rfl, ρ, d, σd, σ1, es, r, h1, fun σ' es' o1 => ⟨ρ, ds, σ1, σd', es', rr, h2, fun σ2 es2 o2 => q σ2 es2 fun vs hvs => ?_⟩⟩
        rw [o2 vs fun i hi => hvs i (by rw [Tg.namess]; exact List.mem_append_right _ hi), o1 vs fun i hi => hvs i (by rw [Tg.namess]; exact List.mem_append_left _ hi)]
theorem bindTs_len : ∀ {ts : List Tg} {ds : List D} {σ σ' : Env}, bindTs ts ds σ = some σ' → ds.length = ts.length
  | [], [], _, _, _ => rfl
  | [], _ :: _, _, _, h => by simp [bindTs] at h
  | _ :: _, [], _, _, h => by simp [bindTs] at h
  | t :: ts, d :: ds, σ, σ', h => by
    rw [bindTs] at h
    obtain ⟨σ1, h1, h2⟩ := Option.bind_eq_some_iff.mp h
    rw [List.length_cons, List.length_cons, bindTs_len h2]
theorem sg_tp (g : Good X p) {es : List Expr} {ts : List Tg} {k : Nat} (h : PGs X es (tGs p ts)) (hn : (assignEach es X.env).length = ts.length) (hst : (assignEach es X.env).findIdx? (·.1) = none) : PG X (.Tuple es k pos) (tG p (.tp ts)) :=
  PG.imp (pg_tup g.calm h hn hst) fun v σ H Q ⟨ρ, d, σd, σd', es, r, hb, q⟩ => by
    cases d <;> first | (simp [bindT] at hb; done) | skip
    case tup ds =>
      rw [bindT] at hb
      cases r with
      | tup h1 h2 =>
        exact ⟨_, _, rfl, by rw [← g.K]; exact h1, by rw [h2.length, bindTs_len hb], ρ, ds, σd, σd', es, h2, hb, fun σ' es' o => q σ' es' (by rw [Tg.names]; exact o)⟩
end

/-! ### the frame's own lists are not touched -/
theorem wipe_out {σ : St} {j : Nat} : ∀ {ws : List Nat}, j ∉ ws → (wipe σ ws)[j]? = σ[j]?
  | [], _ => rfl
  | w :: ws, h => by
    rw [show wipe σ (w :: ws) = (wipe σ ws).set w none from rfl, List.getElem?_set_ne fun z => h (by rw [z]; exact List.mem_cons_self ..)]
    exact wipe_out fun z => h (List.mem_cons_of_mem _ z)
theorem wipeD_out {σ : Env} {j : Nat} : ∀ {ws : List Nat}, j ∉ ws → (wipeD σ ws)[j]? = σ[j]?
  | [], _ => rfl
  | w :: ws, h => by
    rw [show wipeD σ (w :: ws) = (wipeD σ ws).set w none from rfl, List.getElem?_set_ne fun z => h (by rw [z]; exact List.mem_cons_self ..)]
    exact wipeD_out fun z => h (List.mem_cons_of_mem _ z)
mutual
theorem bindT_out : ∀ (t : Tg) (d : D) (σ σ' : Env) (j : Nat), bindT t d σ = some σ' → j ∉ t.names → σ'[j]? = σ[j]?
  | .nm i, d, σ, σ', j, h, n => by
    rw [bindT] at h
    cases h
    exact List.getElem?_set_ne fun z => n (by rw [z]; simp [Tg.names])
  | .tp ts, d, σ, σ', j, h, n => by
    cases d <;> first | (simp [bindT] at h; done) | skip
    case tup ds =>
      rw [bindT] at h
      exact bindTs_out ts ds σ σ' j h (by rw [Tg.names] at n; exact n)
theorem bindTs_out : ∀ (ts : List Tg) (ds : List D) (σ σ' : Env) (j : Nat), bindTs ts ds σ = some σ' → j ∉ Tg.namess ts → σ'[j]? = σ[j]?
  | [], [], σ, σ', j, h, n => by rw [bindTs] at h; cases h; rfl
  | [], _ :: _, _, _, _, h, _ => by simp [bindTs] at h
  | _ :: _, [], _, _, _, h, _ => by simp [bindTs] at h
  | t :: ts, d :: ds, σ, σ', j, h, n => by
    rw [bindTs] at h
    obtain ⟨σ1, h1, h2⟩ := Option.bind_eq_some_iff.mp h
    rw [Tg.namess, List.mem_append, not_or] at n
    rw [bindTs_out ts ds σ1 σ' j h2 n.2, bindT_out t d σ σ1 j h1 n.1]
end
/-- no own list stands at D -/
def NoD (own : List Bool) (σ : St) (σd : Env) (D : Addr) : Prop := ∀ j, ownAt own j = true → (∃ d, σd[j]? = some (some d)) → σ[j]? ≠ some (some (.ref D))
section
variable {K : PySem.W.Frag} {own : List Bool} {H0 : Hp} {ρ : List Addr} {H : Hp} {σ σ' : St} {σd σd' : Env} {D : Addr}
theorem NoD.of (e : ES K own H0 ρ H σ σd) (n : H D = none) : NoD own σ σd D := fun j hj ⟨d, hd⟩ z => by
  obtain ⟨a, xs, ds, h3, h4, h5, _⟩ := e.ow j d hj hd
  rw [z] at h4
  cases h4
  rw [n] at h5
  cases h5
theorem NoD.out (h : NoD own σ σd D) {ns : List Nat} (hn : ∀ i ∈ ns, ownAt own i = false) (h1 : ∀ j, j ∉ ns → σ'[j]? = σ[j]?) (h2 : ∀ j, j ∉ ns → σd'[j]? = σd[j]?) : NoD own σ' σd' D := fun j hj hd => by
  have nj : j ∉ ns := fun m => by rw [hn j m] at hj; cases hj
  rw [h1 j nj]
  rw [h2 j nj] at hd
  exact h j hj hd
theorem NoD.wipe (h : NoD own σ σd D) {vs : List Nat} (hn : ∀ i ∈ vs, ownAt own i = false) : NoD own (L2.wipe σ vs) (wipeD σd vs) D := h.out hn (fun _ => wipe_out) fun _ => wipeD_out
theorem NoD.bind (h : NoD own σ σd D) {t : Tg} {d : MP.D} (hn : ∀ i ∈ t.names, ownAt own i = false) (hb : bindT t d σd = some σd') (ho : OutV σ' σ t.names) : NoD own σ' σd' D :=
  h.out hn (fun j nj => by rw [← wipe_out nj, ho _ fun i hi => hi, wipe_out nj]) fun j nj => bindT_out t d σd σd' j hb nj
theorem ES.put (e : ES K own H0 ρ H σ σd) (h : NoD own σ σd D) {o : HO} (mo : Mo ρ H ρ (upd H D o)) : ES K own H0 ρ (upd H D o) σ σd where
  len := e.len
  vl := fun i d h1 h2 => let ⟨v, h3, h4⟩ := e.vl i d h1 h2; ⟨v, h3, Rep.mo mo d v h4⟩
  ow := fun i d h1 h2 => by
    obtain ⟨a, xs, ds, h3, h4, h5, h6, h7, h8⟩ := e.ow i d h1 h2
    refine ⟨a, xs, ds, h3, h4, ?_, h6, h7, Reps.mo mo ds xs h8⟩
    rw [upd_ne fun z => h i h1 ⟨d, h2⟩ (by rw [h4, z])]
    exact h5
  sp := e.sp
end

/-! ### tests of a clause -/
def tC (p : Pm) (c : E) : TT := fun σ H Q => ∃ ρ σd S, ES p.K p.own p.H0 ρ H σ σd ∧ HS p.K ρ H S ∧
  Ok (evC p.cf c σd S) (fun b S' => ∀ ρ' H', Step ρ H ρ' H' → HS p.K ρ' H' S' → Q b H') (XQ p σ ρ H)
section
variable {X : Cx} {p : Pm} {c : Expr} {pc : E}
theorem PTs.imp {es : List Expr} {t t' : TT} (h : PTs X es t) (i : ∀ σ H Q, t' σ H Q → t σ H Q) : PTs X es t' := ⟨fun pins s σ H Q I q => h.run pins s σ H Q I (i σ H Q q)⟩
theorem sc_none : PTs X [] (tC p .nop) := PTs.imp pts_nil fun σ H Q ⟨ρ, σd, S, es, hs, h⟩ => by
  rw [evC] at h
  exact h ρ H (.refl hs) hs
theorem sc_one (h : PT X c (tT p pc)) (hn : pc ≠ .nop) : PTs X [c] (tC p pc) := PTs.imp (pts_one h) fun σ H Q ⟨ρ, σd, S, es, hs, h⟩ => by
  rw [evC] at h
  · exact ⟨ρ, σd, S, es, hs, h⟩
  · exact hn
end

/-! ### the list that a comprehension fills -/
structure Ac (K : PySem.W.Frag) (ρ1 : List Addr) (H1 : Hp) (D : Addr) (ρ : List Addr) (H : Hp) (S : DS) (vs : List V) (ds : List MP.D) : Prop where
  st : Step ρ1 H1 ρ H
  hs : HS K ρ H S
  at' : H D = some (.lst vs)
  ni : D ∉ ρ
  rp : Reps K ρ H vs ds
section
variable {K : PySem.W.Frag} {ρ ρ1 ρ' : List Addr} {H H1 H' : Hp} {D : Addr} {S S' : DS} {vs : List V} {ds : List MP.D}
theorem Ac.step (a : Ac K ρ1 H1 D ρ H S vs ds) (st : Step ρ H ρ' H') (hs : HS K ρ' H' S') : Ac K ρ1 H1 D ρ' H' S' vs ds :=
  ⟨a.st.trans st, hs, st.keep _ _ a.at' a.ni, (fun m => (st.new D m).elim a.ni fun z => by
    rw [a.at'] at z
    cases z), a.rp.step st⟩
/-- a list that is new since H is written -/
theorem HS.put (hs : HS K ρ1 H1 S) (st : Step ρ H ρ1 H1) {a : Addr} {xs ys : List V} (e : H1 a = some (.lst xs)) (n0 : H a = none) (n1 : a ∉ ρ1) :
    Step ρ H ρ1 (upd H1 a (.lst ys)) ∧ HS K ρ1 (upd H1 a (.lst ys)) S ∧ Mo ρ1 H1 ρ1 (upd H1 a (.lst ys)) := by
  have ne : ∀ {b u}, H b = some u → b ≠ a := fun h => ne_of_none h n0
  have mo : Mo ρ1 H1 ρ1 (upd H1 a (.lst ys)) := ⟨List.prefix_refl _, fun b ys h => by rw [upd_ne (ne_of h e (by intro z; cases z))]; exact h, fun b u w h => by rw [upd_ne (ne_of h e (by intro z; cases z))]; exact h⟩
  refine ⟨⟨st.pre, fun b u h nb => by rw [upd_ne (ne h)]; exact st.keep b u h nb, fun b ys h => mo.tups _ _ (st.tups b ys h), fun b u w h => mo.frzs _ _ _ (st.frzs b u w h), st.new, fun b m => ?_⟩, ⟨hs.nod, hs.len, fun n u b h1 h2 => ?_⟩, mo⟩
  · obtain ⟨u, h⟩ := st.stay b m
    exact ⟨u, by rw [upd_ne (fun z => n1 (by rw [← z]; exact st.pre.subset m))]; exact h⟩
  · have nb : b ≠ a := fun z => n1 (by rw [← z]; exact List.mem_of_getElem? h2)
    have q := hs.obj n u b h1 h2
    cases u with
    | lst ds =>
      obtain ⟨ys, e1, e2⟩ := q
      exact ⟨ys, by rw [upd_ne nb]; exact e1, Reps.mo mo ds ys e2⟩
    | ins c fs => exact q.elim
theorem Ac.put (a : Ac K ρ1 H1 D ρ H S vs ds) (n0 : H1 D = none) {y : V} {d : MP.D} (r : Rep K ρ H y d) : Ac K ρ1 H1 D ρ (upd H D (.lst (vs ++ [y]))) S (vs ++ [y]) (ds ++ [d]) := by
  obtain ⟨h1, h2, h3⟩ := HS.put (ys := vs ++ [y]) a.hs a.st a.at' n0 a.ni
  exact ⟨h1, h2, upd_same, a.ni, (Reps.mo h3 _ _ a.rp).app (.cons (Rep.mo h3 _ _ r) .nil)⟩
theorem Mo.trans {ρ2 : List Addr} {H2 : Hp} (a : Mo ρ H ρ1 H1) (b : Mo ρ1 H1 ρ2 H2) : Mo ρ H ρ2 H2 := ⟨a.pre.trans b.pre, fun c xs h => b.tups c xs (a.tups c xs h), fun c o u h => b.frzs c o u (a.frzs c o u h)⟩
theorem Ac.putMo (a : Ac K ρ1 H1 D ρ H S vs ds) (n0 : H1 D = none) {ys : List V} : Mo ρ H ρ (upd H D (.lst ys)) := (HS.put (ys := ys) a.hs a.st a.at' n0 a.ni).2.2
theorem Ac.start (hs : HS K ρ1 H1 S) (n0 : H1 D = none) : Ac K ρ1 H1 D ρ1 (upd H1 D (.lst [])) S [] [] :=
  ⟨.grow hs (grow_upd n0), hs.grow (grow_upd n0), upd_same, notin_of hs n0, .nil⟩
end
theorem compM_holds {w : Guard} {f : D → List D → M (List D)} {xs acc : List D} {S : DS} {P : List D → DS → Prop} {XX : Exc → DS → Prop} (h : Ok (compM w f xs acc S) P XX) : holdsG S w = true := by
  cases e : holdsG S w with
  | true => rfl
  | false =>
    have hb : stays w S = .bad := by unfold stays; rw [e]; rfl
    cases xs with
    | nil =>
      rw [compM] at h
      have h := Ok.bind.mp h
      rw [hb] at h
      exact h.elim
    | cons x xs =>
      rw [compM] at h
      have h := Ok.bind.mp h
      rw [hb] at h
      exact h.elim
theorem stays_ok {w : Guard} {S : DS} (e : holdsG S w = true) : stays w S = .ok () S := by unfold stays; rw [e]; rfl
theorem compM_cons {w : Guard} {f : D → List D → M (List D)} {x : D} {xs acc : List D} {S : DS} {P : List D → DS → Prop} {XX : Exc → DS → Prop} (h : Ok (compM w f (x :: xs) acc S) P XX) :
    Ok (f x acc S) (fun acc' S' => Ok (compM w f xs acc' S') P XX) XX := by
  have e := compM_holds h
  rw [compM] at h
  have h := Ok.bind.mp h
  rw [stays_ok e] at h
  exact Ok.bind.mp h
theorem compM_nil {w : Guard} {f : D → List D → M (List D)} {acc : List D} {S : DS} {P : List D → DS → Prop} {XX : Exc → DS → Prop} (h : Ok (compM w f [] acc S) P XX) : P acc S := by
  have e := compM_holds h
  rw [compM] at h
  have h := Ok.bind.mp h
  rw [stays_ok e] at h
  exact h
theorem drop_at {xs : List D} {i : Nat} {d : D} (h : xs[i]? = some d) : xs.drop i = d :: xs.drop (i + 1) := by
  obtain ⟨hl, rfl⟩ := List.getElem?_eq_some_iff.mp h
  exact List.drop_eq_getElem_cons hl
def Pm.calm (p : Pm) : Pm := { p with W := fun _ _ _ _ => False }
abbrev noX : Exc → DS → Prop := fun _ _ => False
theorem put1_ok {acc : List D} {y : D} {S : DS} {P : List D → DS → Prop} {XX : Exc → DS → Prop} (h : Ok (put1 acc y S) P XX) : acc.length < line ∧ P (acc ++ [y]) S := by
  unfold put1 at h
  split at h
  · rename_i hl
    exact ⟨hl, h⟩
  · exact h.elim
/-- turns, whatever is done in one -/
theorem walk_it {J : It} {n : Nat} {G : Hp → Prop} {Y : Nat → Hp → V → Hp → Prop} (w : Walk J n G Y) {B : (Hp → Prop) → V → Hp → Prop} {H1 : Hp} {Qd : Hp → Prop} (Pv : Nat → Hp → Prop) (h0 : Pv 0 H1) (hG : ∀ i H, i ≤ n → Pv i H → G H)
    (hs : ∀ i x H H', i < n → Pv i H → Y i H x H' → B (Pv (i + 1)) x H') (hd : ∀ H, Pv n H → Qd H) :
    ∃ W : Nat → Nat → Hp → Prop, (∃ m, W 0 m H1) ∧ ∀ i m H, W i m H → (J.stop i H ∧ Qd H) ∨ (J.go i H ∧ ∃ Nx : Hp → Prop, (∀ H', Nx H' → ∃ m', m' < m ∧ W (i + 1) m' H') ∧ ∀ x H', J.yld i H x H' → B Nx x H') := by
  refine ⟨fun i m H => m = n - i ∧ i ≤ n ∧ Pv i H, ⟨n, by simp, Nat.zero_le _, h0⟩, ?_⟩
  rintro i m H ⟨rfl, hi, q⟩
  have z := hG i H hi q
  by_cases hlt : i < n
  · exact .inr ⟨w.goes i H hlt z, Pv (i + 1), fun H' p' => ⟨n - (i + 1), by omega, rfl, hlt, p'⟩, fun x H' y => hs i x H H' hlt q (w.yields i H x H' hlt z y)⟩
  · have e : i = n := by omega
    subst e
    exact .inl ⟨w.stops H z, hd H q⟩
section
variable {p : Pm}
/-- one turn's tests and item: what stands behind it -/
theorem turn_reading {el c : E} {σ2 : St} {σd2 : Env} {ρ1 ρ : List Addr} {H1 H : Hp} {D : Addr} {S : DS} {vs : List V} {ds : List MP.D} {P : List MP.D → DS → Prop} {Nx : Hp → Prop} (n0 : H1 D = none) (a : Ac p.K ρ1 H1 D ρ H S vs ds) (es : ES p.K p.own p.H0 ρ H σ2 σd2) (hv : valE p.own el = true)
    (h : Ok ((evC p.cf c σd2 >>= fun b => if b = true then (evE p.cf el σd2 >>= fun y => put1 ds y) else pure ds) S) P noX) (hN : ∀ ρ' H' S' vs' ds', Ac p.K ρ1 H1 D ρ' H' S' vs' ds' → (∀ {σ σd}, NoD p.own σ σd D → ES p.K p.own p.H0 ρ H σ σd → ES p.K p.own p.H0 ρ' H' σ σd) → Mo ρ H ρ' H' → P ds' S' → Nx H') :
    tC p.calm c σ2 H fun b H3 => if b = true then tE p.calm el σ2 H3 (fun y H4 => ∃ acc, H4 D = some (.lst acc) ∧ acc.length < sizeLine ∧ Nx (upd H4 D (.lst (acc ++ [y])))) else Nx H3 := by
  refine ⟨ρ, σd2, S, es, a.hs, (Ok.bind.mp h).mono (fun b S2 q ρ2 H2 st2 hs2 => ?_) fun _ _ q => q.elim⟩
  have a2 := a.step st2 hs2
  cases b with
  | false =>
    exact iteF (hN _ _ _ _ _ a2 (fun _ e => e.step st2) st2.mo q)
  | true =>
    refine iteT ⟨ρ2, σd2, S2, es.step st2, hs2, (Ok.bind.mp q).mono (fun y S3 q2 v ρ3 H3 st3 hs3 rb rv => ?_) fun _ _ q => q.elim⟩
    have a3 := a2.step st3 hs3
    obtain ⟨hl, q3⟩ := put1_ok q2
    exact ⟨vs, a3.at', by rw [a3.rp.length]; exact hl, hN _ _ _ _ _ (a3.put n0 (rv hv)) (fun n e => ((e.step st2).step st3).put n (a3.putMo n0)) (Mo.trans (Mo.trans st2.mo st3.mo) (a3.putMo n0)) q3⟩
theorem comp_reading {vs : List Nat} {el c : E} {t : Tg} {s : Src} {σ : St} {H : Hp} {Q : VK} (hv : valE p.own el = true) (hn : ∀ i ∈ t.names, i ∈ vs) (h : tL p (.comp vs el t s c) σ H Q) : tLc (tSrc p s) (tG p.calm t) (tC p.calm c) (tE p.calm el) vs σ H Q := by
  obtain ⟨ρ, σd, S, es, hs, h⟩ := h
  rw [evL] at h
  refine ⟨ρ, σd, S, es, hs, (Ok.bind.mp h).mono (fun wd S1 q J ρ1 H1 st hs1 src D hD => ?_) fun _ _ q => q⟩
  obtain ⟨w, xs⟩ := wd
  have q1 := Ok.calm.mp q
  generalize hf : (fun x acc => do
      let σ' ← ofO (bindT t x (wipeD σd vs))
      let b ← evC p.cf c σ'
      if b then (do let y ← evE p.cf el σ'; put1 acc y) else pure acc : MP.D → List MP.D → M (List MP.D)) = f at q1
  refine lc_it src (fun i Hi => ∃ ρi Si vi di, Ac p.K ρ1 H1 D ρi Hi Si vi di ∧ Ok (compM w f (xs.drop i) di Si) _ noX) ⟨ρ1, S1, [], [], Ac.start hs1 hD, q1⟩ (fun i Hi hi ⟨ρi, Si, vi, di, a, q⟩ => ⟨ρi, Si, a.st.mo, a.hs, compM_holds q⟩) (fun i x Hi H' hi ⟨ρi, Si, vi, di, a, q⟩ ⟨hg, hy⟩ => ?_) fun Hi ⟨ρi, Si, vi, di, a, q⟩ => ?_
  · obtain ⟨d, hd, rx⟩ := hy ρi Si ⟨a.st.mo, a.hs, compM_holds q⟩
    rw [drop_at hd] at q
    have q2 := compM_cons q
    rw [show f d di = _ from (congrFun (congrFun hf d) di).symm] at q2
    have q2 := Ok.bind.mp q2
    obtain ⟨σ', hb, q3⟩ := Ok.ofO.mp q2
    have a2 := a.step (.grow a.hs hg) (a.hs.grow hg)
    have es2 : ES p.K p.own p.H0 ρi H' (L2.wipe σ vs) (wipeD σd vs) := ((es.step st).step a2.st).wipe vs
    refine ⟨ρi, d, wipeD σd vs, σ', es2, rx, hb, fun σ2 es3 ho => ⟨?_, turn_reading hD a2 es3 hv q3 fun ρ4 H4 S4 v4 d4 a4 _ _ q4 => ⟨ρ4, S4, v4, d4, a4, q4⟩⟩⟩
    rw [ho vs hn]
    exact wipe_wipe fun i hi => hi
  · rw [List.drop_length] at q
    exact (compM_nil q) D vi ρi Hi (st.trans a.st) a.hs a.at' (fresh_of st hD) a.ni a.rp
theorem comp2_reading {vs vs2 : List Nat} {el c c2 : E} {t t2 : Tg} {s s2 : Src} {σ : St} {H : Hp} {Q : VK} (hv : valE p.own el = true) (hown : ∀ i ∈ vs, ownAt p.own i = false) (hn : ∀ i ∈ t.names, i ∈ vs) (hn2 : ∀ i ∈ t2.names, i ∈ vs2) (h : tL p (.comp2 vs vs2 el t s c t2 s2 c2) σ H Q) :
    tLc2 (tSrc p s) (tG p.calm t) (tC p.calm c) (tSrc p.calm s2) (tG p.calm t2) (tC p.calm c2) (tE p.calm el) vs vs2 σ H Q := by
  have hownt : ∀ i ∈ t.names, ownAt p.own i = false := fun i hi => hown i (hn i hi)
  obtain ⟨ρ, σd, S, es, hs, h⟩ := h
  rw [evL] at h
  refine ⟨ρ, σd, S, es, hs, (Ok.bind.mp h).mono (fun wd S1 q J ρ1 H1 st hs1 src D hD => ?_) fun _ _ q => q⟩
  obtain ⟨w, xs⟩ := wd
  have q1 := Ok.calm.mp q
  generalize hf : (fun x acc => do
      let σ' ← ofO (bindT t x (wipeD σd vs))
      let b ← evC p.cf c σ'
      if b then (do
        let (w2, xs2) ← evSrc p.cf s2 σ'
        compM w2 (fun x2 acc => do
          let σ2 ← ofO (bindT t2 x2 (wipeD σ' vs2))
          let b2 ← evC p.cf c2 σ2
          if b2 then (do let y ← evE p.cf el σ2; put1 acc y) else pure acc) xs2 acc) else pure acc : MP.D → List MP.D → M (List MP.D)) = f at q1
  refine walk_it src (fun i Hi => ∃ ρi Si vi di, Ac p.K ρ1 H1 D ρi Hi Si vi di ∧ Ok (compM w f (xs.drop i) di Si) _ noX) ⟨ρ1, S1, [], [], Ac.start hs1 hD, q1⟩ (fun i Hi hi ⟨ρi, Si, vi, di, a, q⟩ => ⟨ρi, Si, a.st.mo, a.hs, compM_holds q⟩) (fun i x Hi H' hi ⟨ρi, Si, vi, di, a, q⟩ ⟨hg, hy⟩ => ?_) fun Hi ⟨ρi, Si, vi, di, a, q⟩ => ?_
  · obtain ⟨d, hd, rx⟩ := hy ρi Si ⟨a.st.mo, a.hs, compM_holds q⟩
    rw [drop_at hd] at q
    have q2 := compM_cons q
    rw [show f d di = _ from (congrFun (congrFun hf d) di).symm] at q2
    have q2 := Ok.bind.mp q2
    obtain ⟨σ', hb, q3⟩ := Ok.ofO.mp q2
    have a2 := a.step (.grow a.hs hg) (a.hs.grow hg)
    have es2 : ES p.K p.own p.H0 ρi H' (L2.wipe σ vs) (wipeD σd vs) := ((es.step st).step a2.st).wipe vs
    refine ⟨ρi, d, wipeD σd vs, σ', es2, rx, hb, fun σ2 es3 ho => ⟨by rw [ho vs hn]; exact wipe_wipe fun i hi => hi, ρi, σ', Si, es3, a2.hs, (Ok.bind.mp q3).mono (fun b S3 q4 ρ3 H3 st3 hs3 => ?_) fun _ _ q => q.elim⟩⟩
    have a3 := a2.step st3 hs3
    have es4 := es3.step st3
    cases b with
    | false => exact iteF ⟨ρ3, S3, vi, di, a3, q4⟩
    | true =>
      refine iteT ⟨ρ3, σ', S3, es4, hs3, (Ok.bind.mp q4).mono (fun wd2 S4 q5 J1 ρ4 H4 st4 hs4 src2 => ?_) fun _ _ q => q.elim⟩
      obtain ⟨w2, xs2⟩ := wd2
      have a4 := a3.step st4 hs4
      have es5 := es4.step st4
      have nd : NoD p.own σ2 σ' D := ((NoD.of (es.step st) hD).wipe hown).bind hownt hb ho
      generalize hf2 : (fun x2 acc => do
          let σ2 ← ofO (bindT t2 x2 (wipeD σ' vs2))
          let b2 ← evC p.cf c2 σ2
          if b2 then (do let y ← evE p.cf el σ2; put1 acc y) else pure acc : MP.D → List MP.D → M (List MP.D)) = f2 at q5
      refine walk_it src2 (fun j Hj => ∃ ρj Sj vj dj, Mo ρ4 H4 ρj Hj ∧ ES p.K p.own p.H0 ρj Hj σ2 σ' ∧ Ac p.K ρ1 H1 D ρj Hj Sj vj dj ∧ Ok (compM w2 f2 (xs2.drop j) dj Sj) (fun acc' S' => Ok (compM w f (xs.drop (i + 1)) acc' S') _ noX) noX) ⟨ρ4, S4, vi, di, (Step.refl hs4).mo, es5, a4, q5⟩
        (fun j Hj hj ⟨ρj, Sj, vj, dj, stj, esj, a, q⟩ => ⟨ρj, Sj, stj, a.hs, compM_holds q⟩) (fun j x2 Hj H'' hj ⟨ρj, Sj, vj, dj, stj, esj, a, q⟩ ⟨hg2, hy2⟩ => ?_) fun Hj ⟨ρj, Sj, vj, dj, stj, esj, a, q⟩ => ?_
      · obtain ⟨d2, hd2, rx2⟩ := hy2 ρj Sj ⟨stj, a.hs, compM_holds q⟩
        rw [drop_at hd2] at q
        have q6 := compM_cons q
        rw [show f2 d2 dj = _ from (congrFun (congrFun hf2 d2) dj).symm] at q6
        have q6 := Ok.bind.mp q6
        obtain ⟨σ3', hb2, q7⟩ := Ok.ofO.mp q6
        have a5 := a.step (.grow a.hs hg2) (a.hs.grow hg2)
        have g5 : Step ρj Hj ρj H'' := .grow a.hs hg2
        have es6 : ES p.K p.own p.H0 ρj H'' (L2.wipe σ2 vs2) (wipeD σ' vs2) := (esj.step g5).wipe vs2
        refine ⟨ρj, d2, wipeD σ' vs2, σ3', es6, rx2, hb2, fun σ3 es7 ho2 => ⟨by rw [ho2 vs2 hn2]; exact wipe_wipe fun i hi => hi, ?_⟩⟩
        exact turn_reading hD a5 es7 hv q7 fun ρ6 H6 S6 v6 d6 a6 e6 m6 q8 => ⟨ρ6, S6, v6, d6, Mo.trans (Mo.trans stj g5.mo) m6, e6 nd (esj.step g5), a6, q8⟩
      · rw [List.drop_length] at q
        exact ⟨ρj, Sj, vj, dj, a, compM_nil q⟩
  · rw [List.drop_length] at q
    exact (compM_nil q) D vi ρi Hi (st.trans a.st) a.hs a.at' (fresh_of st hD) a.ni a.rp
end
end MP
end
section
set_option Elab.async false
set_option linter.all false
set_option maxRecDepth 100000
set_option maxHeartbeats 2000000
/-! MPW: statements. -/
namespace MP
open PySem PySem.Spec PyProof.Rows L2

/-- what a statement's end is to give, ρ H the state at its start -/
def FQ (p : Pm) (E : Ends) (ρ : List Addr) (H : Hp) : Fl → DS → Prop
  | .nx σd', S' => ∀ σ' ρ' H', Mo ρ H ρ' H' → Step p.ρ0 p.H0 ρ' H' → ES p.K p.own p.H0 ρ' H' σ' σd' → HS p.K ρ' H' S' → E.nx σ' H'
  | .bk σd', S' => ∀ σ' ρ' H', Mo ρ H ρ' H' → Step p.ρ0 p.H0 ρ' H' → ES p.K p.own p.H0 ρ' H' σ' σd' → HS p.K ρ' H' S' → E.bk σ' H'
  | .ct σd', S' => ∀ σ' ρ' H', Mo ρ H ρ' H' → Step p.ρ0 p.H0 ρ' H' → ES p.K p.own p.H0 ρ' H' σ' σd' → HS p.K ρ' H' S' → E.ct σ' H'
  | .rt d, S' => ∀ v ρ' H', Mo ρ H ρ' H' → Step p.ρ0 p.H0 ρ' H' → HS p.K ρ' H' S' → Rep p.K ρ' H' v d → E.rt v H'
  | .ex x σd', S' => ∀ σ' ρ' H' cls dx, Mo ρ H ρ' H' → Step p.ρ0 p.H0 ρ' H' → ES p.K p.own p.H0 ρ' H' σ' σd' → HS p.K ρ' H' S' → XRep p ρ' H' x cls dx → p.W cls dx σ' H'
theorem FQ.mo {p : Pm} {E : Ends} {ρ ρ1 : List Addr} {H H1 : Hp} {f : Fl} {S : DS} (m : Mo ρ H ρ1 H1) (h : FQ p E ρ H f S) : FQ p E ρ1 H1 f S := by
  cases f with
  | nx σd => exact fun σ' ρ' H' m' => h σ' ρ' H' (m.trans m')
  | bk σd => exact fun σ' ρ' H' m' => h σ' ρ' H' (m.trans m')
  | ct σd => exact fun σ' ρ' H' m' => h σ' ρ' H' (m.trans m')
  | rt d => exact fun σ' ρ' H' m' => h σ' ρ' H' (m.trans m')
  | ex x σd => exact fun σ' ρ' H' c dx m' => h σ' ρ' H' c dx (m.trans m')
structure At (p : Pm) (ρ : List Addr) (H : Hp) (σ : St) (σd : Env) (S : DS) : Prop where
  es : ES p.K p.own p.H0 ρ H σ σd
  hs : HS p.K ρ H S
  st : Step p.ρ0 p.H0 ρ H
def tS (p : Pm) (s : S) : TS := fun E σ H => ∃ ρ σd S XX, At p ρ H σ σd S ∧ Ok (evS p.cf p.fuel s σd S) (FQ p E ρ H) XX
def tSs (p : Pm) (s : Ss) : TS := fun E σ H => ∃ ρ σd S XX, At p ρ H σ σd S ∧ Ok (evSs p.cf p.fuel s σd S) (FQ p E ρ H) XX
section
variable {X : Cx} {p : Pm} {pos : Pos} {a b c e : Expr} {pa pb pc : E} {s : Stmt} {ss : List Stmt} {ps : S} {pss : Ss}
theorem PS.imp {t t' : TS} (h : PS X s t) (i : ∀ E σ H, t' E σ H → t E σ H) : PS X s t' := ⟨fun pins s σ H E I q => h.run pins s σ H E I (i E σ H q)⟩
theorem PSs.imp {t t' : TS} (h : PSs X ss t) (i : ∀ E σ H, t' E σ H → t E σ H) : PSs X ss t' := ⟨fun pins s σ H E I q => h.run pins s σ H E I (i E σ H q)⟩
/-- what flies out of an expression -/
theorem fl_in {E : Ends} {ρ : List Addr} {H : Hp} {σ : St} {σd : Env} {S : DS} {m : M Fl} {XX : Exc → DS → Prop} (at' : At p ρ H σ σd S) (h : Ok (M.fl m σd S) (FQ p E ρ H) XX) : Ok (m S) (FQ p E ρ H) (XQ p σ ρ H) :=
  (Ok.fl.mp h).mono (fun _ _ q => q) fun x S' q ρ' H' cls dx st hs xr => q σ ρ' H' cls dx st.mo (at'.st.trans st) (at'.es.step st) hs xr
theorem Ok.pureE {α : Type} {a : α} {S : DS} {P : α → DS → Prop} {XX : Exc → DS → Prop} (h : Ok ((Pure.pure a : M α) S) P XX) : P a S := h
theorem At.step {ρ ρ' : List Addr} {H H' : Hp} {σ : St} {σd : Env} {S S' : DS} (a : At p ρ H σ σd S) (st : Step ρ H ρ' H') (hs : HS p.K ρ' H' S') : At p ρ' H' σ σd S' := ⟨a.es.step st, hs, a.st.trans st⟩

/-! ### simple ones -/
theorem sts_nil : PSs X [] (tSs p .nil) := PSs.imp pss_nil fun E σ H ⟨ρ, σd, S, XX, at', h⟩ => by
  rw [evSs] at h
  exact h σ ρ H (Step.refl at'.hs).mo at'.st at'.es at'.hs
theorem sts_cons (h1 : PS X s (tS p ps)) (h2 : PSs X ss (tSs p pss)) : PSs X (s :: ss) (tSs p (.cons ps pss)) := PSs.imp (pss_cons h1 h2) fun E σ H ⟨ρ, σd, S, XX, at', h⟩ => by
  rw [evSs] at h
  refine ⟨ρ, σd, S, XX, at', (Ok.bind.mp h).mono (fun f S' q => ?_) fun _ _ q => q⟩
  cases f with
  | nx σd' => exact fun σ' ρ' H' m st es hs => ⟨ρ', σd', S', XX, ⟨es, hs, st⟩, Ok.mono q (fun f S q => q.mo m) fun _ _ q => q⟩
  | bk σd' => exact q
  | ct σd' => exact q
  | rt d => exact q
  | ex x σd' => exact q
theorem st_pass : PS X (.Pass pos) (tS p .pass) := PS.imp ps_pass fun E σ H ⟨ρ, σd, S, XX, at', h⟩ => by
  rw [evS] at h
  exact h σ ρ H (Step.refl at'.hs).mo at'.st at'.es at'.hs
theorem st_brk : PS X (.Break pos) (tS p .brk) := PS.imp ps_break fun E σ H ⟨ρ, σd, S, XX, at', h⟩ => by
  rw [evS] at h
  exact h σ ρ H (Step.refl at'.hs).mo at'.st at'.es at'.hs
theorem st_cont : PS X (.Continue pos) (tS p .cont) := PS.imp ps_continue fun E σ H ⟨ρ, σd, S, XX, at', h⟩ => by
  rw [evS] at h
  exact h σ ρ H (Step.refl at'.hs).mo at'.st at'.es at'.hs
theorem st_doc {x : Str} {j : Nat} {pos' : Pos} : PS X (.Expr (.Constant (.str x) j pos) pos') (tS p .pass) := PS.imp ps_doc fun E σ H ⟨ρ, σd, S, XX, at', h⟩ => by
  rw [evS] at h
  exact h σ ρ H (Step.refl at'.hs).mo at'.st at'.es at'.hs
theorem st_never : PS X s (tS p .never) := PS.imp ps_never fun E σ H ⟨ρ, σd, S, XX, at', h⟩ => by
  rw [evS] at h
  exact h.elim
theorem st_retN : PS X (.Return none pos) (tS p .retN) := PS.imp ps_retN fun E σ H ⟨ρ, σd, S, XX, at', h⟩ => by
  rw [evS] at h
  exact h .non ρ H (Step.refl at'.hs).mo at'.st at'.hs .non
theorem st_expr (he : PE X a (tE p pa)) (hs : swapsWith a none pos.line X.env = pure false) : PS X (.Expr a pos) (tS p (.expr pa)) := PS.imp (ps_expr he hs) fun E σ H ⟨ρ, σd, S, XX, at', h⟩ => by
  rw [evS] at h
  refine seq1 at'.es at'.hs (fl_in at' h) fun vx x ρ1 H1 S1 st hs1 es1 rx rv h1 => ?_
  exact h1.pureE σ ρ1 H1 st.mo (at'.st.trans st) es1 hs1
theorem st_ret (he : PE X a (tE p pa)) (hv : valE p.own pa = true) : PS X (.Return (some a) pos) (tS p (.ret pa)) := PS.imp (ps_ret he) fun E σ H ⟨ρ, σd, S, XX, at', h⟩ => by
  rw [evS] at h
  refine seq1 at'.es at'.hs (fl_in at' h) fun vx x ρ1 H1 S1 st hs1 es1 rx rv h1 => ?_
  exact h1.pureE vx ρ1 H1 st.mo (at'.st.trans st) hs1 (rv hv)
theorem st_if {pt pf : Ss} {sa sb : List Stmt} (hc : PT X c (tT p pc)) (ha : PSs X sa (tSs p pt)) (hb : PSs X sb (tSs p pf)) : PS X (.If c sa sb pos) (tS p (.ite pc pt pf)) := PS.imp (ps_if hc ha hb) fun E σ H ⟨ρ, σd, S, XX, at', h⟩ => by
  rw [evS] at h
  refine seqT at'.es at'.hs (fl_in at' h) fun t ρ1 H1 S1 st hs1 es1 h1 => ?_
  cases t with
  | true => exact iteT ⟨ρ1, σd, S1, _, at'.step st hs1, h1.mono (fun f S q => q.mo st.mo) fun _ _ q => q⟩
  | false => exact iteF ⟨ρ1, σd, S1, _, at'.step st hs1, h1.mono (fun f S q => q.mo st.mo) fun _ _ q => q⟩

/-! ### stores -/
theorem asg_reading {t : Tg} {E : Ends} {σ : St} {H : Hp} (hv : valE p.own pa = true) (h : tS p (.asg t pa) E σ H) : tAsg (tE p pa) (tG p t) E σ H := by
  obtain ⟨ρ, σd, S, XX, at', h⟩ := h
  rw [evS] at h
  refine seq1 at'.es at'.hs (fl_in at' h) fun vx x ρ1 H1 S1 st hs1 es1 rx rv h1 => ?_
  obtain ⟨σ1, hb, h2⟩ := Ok.ofO.mp (Ok.bind.mp h1)
  exact ⟨ρ1, x, σd, σ1, es1, rv hv, hb, fun σ' es' _ => h2.pureE σ' ρ1 H1 st.mo (at'.st.trans st) es' hs1⟩
theorem st_asg {tg : Expr} {t : Tg} (he : PE X a (tE p pa)) (hg : PG X tg (tG p t)) (hv : valE p.own pa = true) (hs : swapsWithSole [tg] a pos.line X.env = pure false) (hw : swappedStores [tg] a X.env = pure none)
    (h1 : (assignEach [tg] X.env).map (·.2) = [assign tg X.env]) : PS X (.Assign [tg] a pos) (tS p (.asg t pa)) := PS.imp (ps_asg he hg hs hw h1) fun E σ H h => asg_reading hv h
theorem set_reading {i : Nat} {E : Ends} {σ : St} {H : Hp} (ho : ownAt p.own i = false) (hv : valE p.own pa = true) (h : tS p (.asg (.nm i) pa) E σ H) : tAsg (tE p pa) (gName i) E σ H := by
  obtain ⟨ρ, σd, S, XX, at', h⟩ := h
  rw [evS] at h
  refine seq1 at'.es at'.hs (fl_in at' h) fun vx x ρ1 H1 S1 st hs1 es1 rx rv h1 => ?_
  obtain ⟨σ1, hb, h2⟩ := Ok.ofO.mp (Ok.bind.mp h1)
  rw [bindT] at hb
  cases hb
  exact h2.pureE _ ρ1 H1 st.mo (at'.st.trans st) (es1.set ho (rv hv)) hs1
theorem st_set (g : Good X p) {i : Nat} {x : Str} {pn : Pos} (hi : X.N[i]? = some x) (hx : Loc X.env.scope x) (he : PE X a (tE p pa)) (hv : valE p.own pa = true) (ho : ownAt p.own i = false) (hs : swapsWith a (some (.Name x pn)) pos.line X.env = pure false) (hf : X.fn x = true ∨ X.env.scope.names.lookup x = some .local) :
    PS X (.Assign [.Name x pn] a pos) (tS p (.asg (.nm i) pa)) := PS.imp (ps_set g.nd hi hx he hs hf) fun E σ H h => set_reading ho hv h
theorem st_par (g : Good X p) {i j : Nat} {x y : Str} {px py pt pt2 : Pos} {kt k2 : Nat} (hi : X.N[i]? = some x) (hj : X.N[j]? = some y) (hij : i ≠ j) (hx : X.env.scope.names.lookup x = some .local) (hy : X.env.scope.names.lookup y = some .local)
    (ha : PE X a (tE p pa)) (hb : PE X b (tE p pb)) (hva : valE p.own pa = true) (hvb : valE p.own pb = true) (hoi : ownAt p.own i = false) (hoj : ownAt p.own j = false) (hst : starEach [a, b] X.env = (false, eval a X.env) :: starEach [b] X.env) (hst2 : starEach [b] X.env = (false, eval b X.env) :: starEach [] X.env)
    (hw : swappedStores [.Tuple [.Name x px, .Name y py] kt pt] (.Tuple [a, b] k2 pt2) X.env = pure (some [x, y])) (hs : swapsWithSole [.Tuple [.Name x px, .Name y py] kt pt] (.Tuple [a, b] k2 pt2) pos.line X.env = pure false) :
    PS X (.Assign [.Tuple [.Name x px, .Name y py] kt pt] (.Tuple [a, b] k2 pt2) pos) (tS p (.par i j pa pb)) :=
  PS.imp (ps_par g.calm g.nd hi hj hij hx hy (pa_cons ha (pa_cons hb pa_nil hst2) hst) hw hs) fun E σ H ⟨ρ, σd, S, XX, at', h⟩ => by
    rw [evS] at h
    refine seq2 at'.es at'.hs (fl_in at' h) fun vx vy x y ρ1 H1 S1 st hs1 es1 rx ry rvx rvy h1 => ?_
    exact ⟨vx, vy, rfl, h1.pureE _ ρ1 H1 st.mo (at'.st.trans st) ((es1.set hoi (rvx hva)).set hoj (rvy hvb)) hs1⟩
/-- a new list of the frame's own -/
theorem own_reading {i : Nat} {l : L} {E : Ends} {σ : St} {H : Hp} (ho : ownAt p.own i = true) (h : tS p (.own i l) E σ H) : tAsg (tL p l) (gName i) E σ H := by
  obtain ⟨ρ, σd, S, XX, at', h⟩ := h
  rw [evS] at h
  refine ⟨ρ, σd, S, at'.es, at'.hs, (Ok.bind.mp (fl_in at' h)).mono (fun ds S1 q a xs ρ1 H1 st hs1 e1 n0 n1 rs => ?_) fun _ _ q => q⟩
  have es1 := at'.es.step st
  have n00 : p.H0 a = none := fresh_of at'.st n0
  refine q.pureE _ ρ1 H1 st.mo (at'.st.trans st) (es1.setOwn ho e1 n00 n1 rs fun j _ hj hd z => ?_) hs1
  exact NoD.of at'.es n0 j hj hd z
theorem st_own (g : Good X p) {i : Nat} {l : L} {x : Str} {pn : Pos} (hi : X.N[i]? = some x) (hx : Loc X.env.scope x) (he : PE X a (tL p l)) (ho : ownAt p.own i = true) (hs : swapsWith a (some (.Name x pn)) pos.line X.env = pure false) (hf : X.fn x = true ∨ X.env.scope.names.lookup x = some .local) :
    PS X (.Assign [.Name x pn] a pos) (tS p (.own i l)) := PS.imp (ps_set g.nd hi hx he hs hf) fun E σ H h => own_reading ho h
end
end MP
end
section
set_option Elab.async false
set_option linter.all false
set_option maxRecDepth 100000
set_option maxHeartbeats 2000000
/-! MPX: loops, comprehensions as expressions and as stores. -/
namespace MP
open PySem PySem.Spec PyProof.Rows L2

/-! ### comprehensions -/
section
variable {X : Cx} {p : Pm} {pos spos : Pos} {tg tg1 iter iter1 elt : Expr} {ifs ifs1 : List Expr} {scope : Scope} {own : List (Str × Nat)} {el c c2 : E} {t t2 : Tg} {s s2 : Src} {vs vs2 : List Nat}
/-- what a comprehension's parts are to keep -/
structure LcOk (X : Cx) (p : Pm) (tg iter elt : Expr) (ifs : List Expr) (scope : Scope) (own : List (Str × Nat)) (vs : List Nat) (el : E) (t : Tg) (s : Src) (c : E) : Prop where
  src : PI X tg iter (tSrc p s)
  blk : BlkOk X.N X.env.scope scope own
  vsE : own.map (·.2) = vs
  tgt : ∀ (s : Shared) (H : Hp) (C : Addr) (cl : List (Str × Addr)) (fp : List Addr), PG (X.blk s H scope (compEnvC scope cl C X.env) fp) tg (tG p.calm t)
  tst : ∀ (s : Shared) (H : Hp) (C : Addr) (cl : List (Str × Addr)) (fp : List Addr), PTs (X.blk s H scope (compEnvC scope cl C X.env) fp) ifs (tC p.calm c)
  elt : ∀ (s : Shared) (H : Hp) (C : Addr) (cl : List (Str × Addr)) (fp : List Addr), PE (X.blk s H scope (compEnvC scope cl C X.env) fp) elt (tE p.calm el)
  fold : ∀ x, foldedSetIterable iter X.env x = pure x
  val : valE p.own el = true
  nam : ∀ i ∈ t.names, i ∈ vs
theorem sl_comp (g : Good X p) (k : LcOk X p tg iter elt ifs scope own vs el t s c) : PE X (.ListComp elt [⟨tg, iter, ifs, 0⟩] scope pos) (tL p (.comp vs el t s c)) := by
  obtain ⟨h1, h2, rfl, h4, h5, h6, h7, h8, h9⟩ := k
  exact PE.imp (pe_lc g.calm g.nd h1 h2 h4 h5 h6 h7) fun σ H Q h => comp_reading h8 h9 h
structure Lc2Ok (X : Cx) (p : Pm) (tg iter tg1 iter1 elt : Expr) (ifs ifs1 : List Expr) (scope : Scope) (own : List (Str × Nat)) (vs vs2 : List Nat) (el : E) (t : Tg) (s : Src) (c : E) (t2 : Tg) (s2 : Src) (c2 : E) : Prop where
  src : PI X tg iter (tSrc p s)
  blk : BlkOk X.N X.env.scope scope own
  vsE : own.map (·.2) = vs
  sub : ∀ i ∈ vs2, i ∈ vs
  tgt : ∀ (s : Shared) (H : Hp) (C : Addr) (cl : List (Str × Addr)) (fp : List Addr), PG (X.blk s H scope (compEnvC scope cl C X.env) fp) tg (tG p.calm t)
  tst : ∀ (s : Shared) (H : Hp) (C : Addr) (cl : List (Str × Addr)) (fp : List Addr), PTs (X.blk s H scope (compEnvC scope cl C X.env) fp) ifs (tC p.calm c)
  src2 : ∀ (s : Shared) (H : Hp) (C : Addr) (cl : List (Str × Addr)) (fp : List Addr), PI (X.blk s H scope (compEnvC scope cl C X.env) fp) tg1 iter1 (tSrc p.calm s2)
  tgt2 : ∀ (s : Shared) (H : Hp) (C : Addr) (cl : List (Str × Addr)) (fp : List Addr), PG (X.blk s H scope (compEnvC scope cl C X.env) fp) tg1 (tG p.calm t2)
  tst2 : ∀ (s : Shared) (H : Hp) (C : Addr) (cl : List (Str × Addr)) (fp : List Addr), PTs (X.blk s H scope (compEnvC scope cl C X.env) fp) ifs1 (tC p.calm c2)
  elt : ∀ (s : Shared) (H : Hp) (C : Addr) (cl : List (Str × Addr)) (fp : List Addr), PE (X.blk s H scope (compEnvC scope cl C X.env) fp) elt (tE p.calm el)
  fold : ∀ x, foldedSetIterable iter X.env x = pure x
  fold2 : ∀ env x, foldedSetIterable iter1 env x = pure x
  val : valE p.own el = true
  own' : ∀ i ∈ vs, ownAt p.own i = false
  nam : ∀ i ∈ t.names, i ∈ vs
  nam2 : ∀ i ∈ t2.names, i ∈ vs2
theorem sl_comp2 (g : Good X p) (k : Lc2Ok X p tg iter tg1 iter1 elt ifs ifs1 scope own vs vs2 el t s c t2 s2 c2) : PE X (.ListComp elt [⟨tg, iter, ifs, 0⟩, ⟨tg1, iter1, ifs1, 0⟩] scope pos) (tL p (.comp2 vs vs2 el t s c t2 s2 c2)) := by
  obtain ⟨h1, h2, rfl, h3, h4, h5, h6, h7, h8, h9, h10, h11, h12, h13, h14, h15⟩ := k
  exact PE.imp (pe_lc2 g.calm g.nd h1 h2 h3 h4 h5 h6 h7 h8 h9 h10 h11) fun σ H Q h => comp2_reading h12 h13 h14 h15 h
/-- a statement whose new list nobody writes from then on -/
theorem PS.frz {st : Stmt} {t : TS} (h : PS X st t) : PS X st (fun E σ H => t { E with nx := fun σ' H' => ∃ a xs, H' a = some (.lst xs) ∧ ∀ o, E.nx σ' (upd H' a (.frz o (.lst xs))) } σ H) := by
  refine ⟨fun pins s σ H E I q => thn (h.run pins s σ H _ I q) fun f s1 e => ?_⟩
  cases f with
  | next =>
    obtain ⟨σ', H', I', a, xs, e, q⟩ := e
    obtain ⟨o, I2⟩ := Inv.freeze I' e
    exact ⟨σ', _, I2, q o⟩
  | brk => exact e
  | cont => exact e
  | ret v => exact e
theorem fz_reading {i : Nat} {l : L} {E : Ends} {σ : St} {H : Hp} (ho : ownAt p.own i = false) (h : tS p (.asg (.nm i) (.fz l)) E σ H) : tAsg (tL p l) (gName i) { E with nx := fun σ' H' => ∃ a xs, H' a = some (.lst xs) ∧ ∀ o, E.nx σ' (upd H' a (.frz o (.lst xs))) } σ H := by
  obtain ⟨ρ, σd, S, XX, at', h⟩ := h
  rw [evS] at h
  have h := fl_in at' h
  rw [evE] at h
  refine ⟨ρ, σd, S, at'.es, at'.hs, (Ok.bind.mp (Ok.bind.mp h)).mono (fun ds S1 q a xs ρ1 H1 st hs1 e1 n0 n1 rs => ⟨a, xs, e1, fun o => ?_⟩) fun _ _ q => q⟩
  obtain ⟨f1, f2, f3⟩ := hs1.freeze st (o := o) e1 n0 n1
  have rep : Rep p.K ρ1 (upd H1 a (.frz o (.lst xs))) (.ref a) (.lst ds) := .lst (.inl ⟨o, upd_same⟩) (Reps.mo f3 ds xs rs)
  have q : Ok ((ofO (bindT (.nm i) (.lst ds) σd) >>= fun σ' => Pure.pure (Fl.nx σ')) S1) (FQ p E ρ H) (XQ p σ ρ H) := q
  obtain ⟨σ1, hb, h2⟩ := Ok.ofO.mp (Ok.bind.mp q)
  rw [bindT] at hb
  cases hb
  exact h2.pureE _ ρ1 _ f1.mo (at'.st.trans f1) ((at'.es.step f1).set ho rep) f2
theorem al_reading {i : Nat} {l : L} {E : Ends} {σ : St} {H : Hp} (ho : ownAt p.own i = false) (h : tS p (.asg (.nm i) (.al l)) E σ H) : tAsg (tL p l) (gName i) E σ H := by
  obtain ⟨ρ, σd, S, XX, at', h⟩ := h
  rw [evS] at h
  have h := fl_in at' h
  rw [evE] at h
  refine ⟨ρ, σd, S, at'.es, at'.hs, (Ok.bind.mp (Ok.bind.mp h)).mono (fun ds S1 q a xs ρ1 H1 st hs1 e1 n0 n1 rs => ?_) fun _ _ q => q⟩
  obtain ⟨h1, h2, h3⟩ := hs1.alloc n1 e1 rs
  have st2 : Step ρ H (ρ1 ++ [a]) H1 := ⟨st.pre.trans h3, st.keep, st.tups, st.frzs, fun b m => (h2 b m).elim (st.new b) fun z => .inr (by rw [z]; exact n0), fun b m => st.stay b m⟩
  have rep : Rep p.K (ρ1 ++ [a]) H1 (.ref a) (.ref S1.length) := .ref (by rw [← hs1.len, List.getElem?_append_right (Nat.le_refl _), Nat.sub_self]; rfl)
  have q : Ok ((ofO (bindT (.nm i) (.ref S1.length) σd) >>= fun σ' => Pure.pure (Fl.nx σ')) (S1 ++ [.lst ds])) (FQ p E ρ H) (XQ p σ ρ H) := q
  obtain ⟨σ1, hb, h4⟩ := Ok.ofO.mp (Ok.bind.mp q)
  rw [bindT] at hb
  cases hb
  exact h4.pureE _ _ H1 st2.mo (at'.st.trans st2) ((at'.es.step st2).set ho rep) h1
variable {i : Nat} {y : Str} {py : Pos}
theorem lc_own (g : Good X p) (hi : X.N[i]? = some y) (hyl : X.env.scope.names.lookup y = some .local) (hsw : swapsWith (.ListComp elt [⟨tg, iter, ifs, 0⟩] scope pos) (some (.Name y py)) spos.line X.env = pure true) (ho : ownAt p.own i = true)
    (k : LcOk X p tg iter elt ifs scope own vs el t s c) : PS X (.Assign [.Name y py] (.ListComp elt [⟨tg, iter, ifs, 0⟩] scope pos) spos) (tS p (.own i (.comp vs el t s c))) := by
  obtain ⟨h1, h2, rfl, h4, h5, h6, h7, h8, h9⟩ := k
  exact PS.imp (ps_setLc g.calm g.nd hi hyl hsw h1 h2 h4 h5 h6 h7) fun E σ H h => comp_reading h8 h9 (own_reading ho h)
theorem lc_fz (g : Good X p) (hi : X.N[i]? = some y) (hyl : X.env.scope.names.lookup y = some .local) (hsw : swapsWith (.ListComp elt [⟨tg, iter, ifs, 0⟩] scope pos) (some (.Name y py)) spos.line X.env = pure true) (ho : ownAt p.own i = false)
    (k : LcOk X p tg iter elt ifs scope own vs el t s c) : PS X (.Assign [.Name y py] (.ListComp elt [⟨tg, iter, ifs, 0⟩] scope pos) spos) (tS p (.asg (.nm i) (.fz (.comp vs el t s c)))) := by
  obtain ⟨h1, h2, rfl, h4, h5, h6, h7, h8, h9⟩ := k
  exact PS.imp (PS.frz (ps_setLc g.calm g.nd hi hyl hsw h1 h2 h4 h5 h6 h7)) fun E σ H h => comp_reading h8 h9 (fz_reading ho h)
theorem lc_al (g : Good X p) (hi : X.N[i]? = some y) (hyl : X.env.scope.names.lookup y = some .local) (hsw : swapsWith (.ListComp elt [⟨tg, iter, ifs, 0⟩] scope pos) (some (.Name y py)) spos.line X.env = pure true) (ho : ownAt p.own i = false)
    (k : LcOk X p tg iter elt ifs scope own vs el t s c) : PS X (.Assign [.Name y py] (.ListComp elt [⟨tg, iter, ifs, 0⟩] scope pos) spos) (tS p (.asg (.nm i) (.al (.comp vs el t s c)))) := by
  obtain ⟨h1, h2, rfl, h4, h5, h6, h7, h8, h9⟩ := k
  exact PS.imp (ps_setLc g.calm g.nd hi hyl hsw h1 h2 h4 h5 h6 h7) fun E σ H h => comp_reading h8 h9 (al_reading ho h)
theorem lc2_fz (g : Good X p) (hi : X.N[i]? = some y) (hyl : X.env.scope.names.lookup y = some .local) (hsw : swapsWith (.ListComp elt [⟨tg, iter, ifs, 0⟩, ⟨tg1, iter1, ifs1, 0⟩] scope pos) (some (.Name y py)) spos.line X.env = pure true) (ho : ownAt p.own i = false)
    (k : Lc2Ok X p tg iter tg1 iter1 elt ifs ifs1 scope own vs vs2 el t s c t2 s2 c2) : PS X (.Assign [.Name y py] (.ListComp elt [⟨tg, iter, ifs, 0⟩, ⟨tg1, iter1, ifs1, 0⟩] scope pos) spos) (tS p (.asg (.nm i) (.fz (.comp2 vs vs2 el t s c t2 s2 c2)))) := by
  obtain ⟨h1, h2, rfl, h3, h4, h5, h6, h7, h8, h9, h10, h11, h12, h13, h14, h15⟩ := k
  exact PS.imp (PS.frz (ps_setLc2 g.calm g.nd hi hyl hsw h1 h2 h3 h4 h5 h6 h7 h8 h9 h10 h11)) fun E σ H h => comp2_reading h12 h13 h14 h15 (fz_reading ho h)
theorem lc2_al (g : Good X p) (hi : X.N[i]? = some y) (hyl : X.env.scope.names.lookup y = some .local) (hsw : swapsWith (.ListComp elt [⟨tg, iter, ifs, 0⟩, ⟨tg1, iter1, ifs1, 0⟩] scope pos) (some (.Name y py)) spos.line X.env = pure true) (ho : ownAt p.own i = false)
    (k : Lc2Ok X p tg iter tg1 iter1 elt ifs ifs1 scope own vs vs2 el t s c t2 s2 c2) : PS X (.Assign [.Name y py] (.ListComp elt [⟨tg, iter, ifs, 0⟩, ⟨tg1, iter1, ifs1, 0⟩] scope pos) spos) (tS p (.asg (.nm i) (.al (.comp2 vs vs2 el t s c t2 s2 c2)))) := by
  obtain ⟨h1, h2, rfl, h3, h4, h5, h6, h7, h8, h9, h10, h11, h12, h13, h14, h15⟩ := k
  exact PS.imp (ps_setLc2 g.calm g.nd hi hyl hsw h1 h2 h3 h4 h5 h6 h7 h8 h9 h10 h11) fun E σ H h => comp2_reading h12 h13 h14 h15 (al_reading ho h)
end

/-! ### for, while -/
theorem forM_holds {w : Guard} {f : D → Env → M Fl} {xs : List D} {σ : Env} {S : DS} {P : Fl → DS → Prop} {XX : Exc → DS → Prop} (h : Ok (forM' w f xs σ S) P XX) : holdsG S w = true := by
  cases e : holdsG S w with
  | true => rfl
  | false =>
    have hb : stays w S = .bad := by unfold stays; rw [e]; rfl
    cases xs with
    | nil =>
      rw [forM'] at h
      have h := Ok.bind.mp h
      rw [hb] at h
      exact h.elim
    | cons x xs =>
      rw [forM'] at h
      have h := Ok.bind.mp h
      rw [hb] at h
      exact h.elim
theorem forM_nil {w : Guard} {f : D → Env → M Fl} {σ : Env} {S : DS} {P : Fl → DS → Prop} {XX : Exc → DS → Prop} (h : Ok (forM' w f [] σ S) P XX) : P (.nx σ) S := by
  have e := forM_holds h
  rw [forM'] at h
  have h := Ok.bind.mp h
  rw [stays_ok e] at h
  exact h
def forK (w : Guard) (f : D → Env → M Fl) (xs : List D) : Fl → M Fl
  | .nx σ' => forM' w f xs σ'
  | .ct σ' => forM' w f xs σ'
  | .bk σ' => pure (.nx σ')
  | .rt d => pure (.rt d)
  | .ex x σ' => pure (.ex x σ')
theorem forM_cons {w : Guard} {f : D → Env → M Fl} {x : D} {xs : List D} {σ : Env} {S : DS} {P : Fl → DS → Prop} {XX : Exc → DS → Prop} (h : Ok (forM' w f (x :: xs) σ S) P XX) :
    Ok (f x σ S) (fun fl S' => Ok (forK w f xs fl S') P XX) XX := by
  have e := forM_holds h
  rw [forM'] at h
  have h := Ok.bind.mp h
  rw [stays_ok e] at h
  refine (Ok.bind.mp h).mono (fun fl S' q => ?_) fun _ _ q => q
  cases fl <;> exact q
section
variable {X : Cx} {p : Pm} {pos : Pos} {tg iter c : Expr} {body : List Stmt} {t : Tg} {s : Src} {pb : Ss} {pc : E}
theorem for_reading {E : Ends} {σ : St} {H : Hp} (h : tS p (.forS t s pb) E σ H) : tFor (tSrc p s) (tG p t) (tSs p pb) E σ H := by
  obtain ⟨ρ, σd, S, XX, at', h⟩ := h
  rw [evS] at h
  have h := fl_in at' h
  refine ⟨ρ, σd, S, at'.es, at'.hs, (Ok.bind.mp h).mono (fun wd S1 q J ρ1 H1 st hs1 src => ?_) fun _ _ q => q⟩
  obtain ⟨w, xs⟩ := wd
  generalize hf : (fun x σ => do
      let σ' ← ofO (bindT t x σ)
      evSs p.cf p.fuel pb σ' : D → Env → M Fl) = f at q
  have q : Ok (forM' w f xs σd S1) (FQ p E ρ H) (XQ p σ ρ H) := q
  refine for_it src (fun i σ' Hi => ∃ ρi σi Si, At p ρi Hi σ' σi Si ∧ Mo ρ1 H1 ρi Hi ∧ Ok (forM' w f (xs.drop i) σi Si) (FQ p E ρ H) (XQ p σ ρ H)) ⟨ρ1, σd, S1, at'.step st hs1, (Step.refl hs1).mo, q⟩ (fun i σ' Hi hi ⟨ρi, σi, Si, a, m, q⟩ => ⟨ρi, Si, m, a.hs, forM_holds q⟩) (fun i x σ' Hi H' hi ⟨ρi, σi, Si, a, m, q⟩ ⟨hg, hy⟩ => ?_) fun σ' Hi ⟨ρi, σi, Si, a, m, q⟩ => ?_
  · obtain ⟨d, hd, rx⟩ := hy ρi Si ⟨m, a.hs, forM_holds q⟩
    rw [drop_at hd] at q
    have q2 := forM_cons q
    rw [show f d σi = _ from (congrFun (congrFun hf d) σi).symm] at q2
    obtain ⟨σ1, hb, q3⟩ := Ok.ofO.mp (Ok.bind.mp q2)
    have g1 : Step ρi Hi ρi H' := .grow a.hs hg
    refine ⟨ρi, d, σi, σ1, a.es.step g1, rx, hb, fun σ2 es2 _ => ⟨ρi, σ1, Si, _, ⟨es2, a.hs.grow hg, a.st.trans g1⟩, q3.mono (fun fl S3 q4 => ?_) fun _ _ q => q⟩⟩
    have mm : Mo ρ H ρi H' := (st.mo.trans m).trans g1.mo
    cases fl with
    | nx σd' => exact fun σ4 ρ4 H4 m4 st4 es4 hs4 => ⟨ρ4, σd', S3, ⟨es4, hs4, st4⟩, (m.trans g1.mo).trans m4, q4⟩
    | ct σd' => exact fun σ4 ρ4 H4 m4 st4 es4 hs4 => ⟨ρ4, σd', S3, ⟨es4, hs4, st4⟩, (m.trans g1.mo).trans m4, q4⟩
    | bk σd' => exact fun σ4 ρ4 H4 m4 st4 es4 hs4 => (Ok.pureE q4) σ4 ρ4 H4 (mm.trans m4) st4 es4 hs4
    | rt d => exact fun v ρ4 H4 m4 st4 hs4 r => (Ok.pureE q4) v ρ4 H4 (mm.trans m4) st4 hs4 r
    | ex x σd' => exact fun σ4 ρ4 H4 cls dx m4 st4 es4 hs4 xr => (Ok.pureE q4) σ4 ρ4 H4 cls dx (mm.trans m4) st4 es4 hs4 xr
  · rw [List.drop_length] at q
    exact (forM_nil q) σ' ρi Hi (st.mo.trans m) a.st a.es a.hs
theorem st_for (g : Good X p) (hp : PassesOwn (model X.prog X.w) X.A X.env X.xe) (hi : PI X tg iter (tSrc p s)) (hg : PG X tg (tG p t)) (hb : PSs X body (tSs p pb)) (hs : ∀ x, foldedSetIterable iter X.env x = pure x) : PS X (.For tg iter body [] pos) (tS p (.forS t s pb)) :=
  PS.imp (ps_for hp g.calm hi hg hb hs) fun E σ H h => for_reading h
theorem while_reading {E : Ends} {σ : St} {H : Hp} (h : tS p (.whileS pc pb) E σ H) : tWhile (tT p pc) (tSs p pb) E σ H := by
  obtain ⟨ρ, σd, S, XX, at', h⟩ := h
  rw [evS] at h
  refine ⟨fun n σ' H' => ∃ ρ' σd' S' XX, At p ρ' H' σ' σd' S' ∧ Mo ρ H ρ' H' ∧ Ok (whileM (fun σ => evB (evE p.cf pc σ)) (fun σ => evSs p.cf p.fuel pb σ) n σd' S') (FQ p E ρ H) XX, ⟨p.fuel, ρ, σd, S, XX, at', (Step.refl at'.hs).mo, h⟩, ?_⟩
  rintro n σ' H' ⟨ρ', σd', S', XX, a, m, h⟩
  cases n with
  | zero =>
    rw [whileM] at h
    exact h.elim
  | succ n =>
    rw [whileM] at h
    have h : Ok _ (FQ p E ρ H) (fun x S' => _) := Ok.fl.mp h
    have h2 : Ok ((evB (evE p.cf pc σd') >>= fun b => if b = true then (evSs p.cf p.fuel pb σd' >>= fun fl => match fl with
      | .nx σ' => whileM (fun σ => evB (evE p.cf pc σ)) (fun σ => evSs p.cf p.fuel pb σ) n σ'
      | .ct σ' => whileM (fun σ => evB (evE p.cf pc σ)) (fun σ => evSs p.cf p.fuel pb σ) n σ'
      | .bk σ' => pure (.nx σ')
      | .rt d => pure (.rt d)
      | .ex x σ' => pure (.ex x σ')) else pure (.nx σd')) S') (FQ p E ρ H) (XQ p σ' ρ' H') := h.mono (fun _ _ q => q) fun x S2 q ρ2 H2 cls dx st hs xr => q σ' ρ2 H2 cls dx (m.trans st.mo) (a.st.trans st) (a.es.step st) hs xr
    refine seqT a.es a.hs h2 fun b ρ1 H1 S1 st hs1 es1 h1 => ?_
    have mm : Mo ρ H ρ1 H1 := m.trans st.mo
    cases b with
    | false => exact iteF ((Ok.pureE h1) σ' ρ1 H1 mm (a.st.trans st) es1 hs1)
    | true =>
      refine iteT ⟨fun σ' H' => ∃ ρ' σd' S' XX, At p ρ' H' σ' σd' S' ∧ Mo ρ H ρ' H' ∧ Ok (whileM (fun σ => evB (evE p.cf pc σ)) (fun σ => evSs p.cf p.fuel pb σ) n σd' S') (FQ p E ρ H) XX, fun σ' H' q => ⟨n, Nat.lt_succ_self _, q⟩, ρ1, σd', S1, _, a.step st hs1, (Ok.bind.mp h1).mono (fun fl S3 q4 => ?_) fun _ _ q => q⟩
      cases fl with
      | nx σd' => exact fun σ4 ρ4 H4 m4 st4 es4 hs4 => ⟨ρ4, σd', S3, _, ⟨es4, hs4, st4⟩, mm.trans m4, q4⟩
      | ct σd' => exact fun σ4 ρ4 H4 m4 st4 es4 hs4 => ⟨ρ4, σd', S3, _, ⟨es4, hs4, st4⟩, mm.trans m4, q4⟩
      | bk σd' => exact fun σ4 ρ4 H4 m4 st4 es4 hs4 => (Ok.pureE q4) σ4 ρ4 H4 (mm.trans m4) st4 es4 hs4
      | rt d => exact fun v ρ4 H4 m4 st4 hs4 r => (Ok.pureE q4) v ρ4 H4 (mm.trans m4) st4 hs4 r
      | ex x σd' => exact fun σ4 ρ4 H4 cls dx m4 st4 es4 hs4 xr => (Ok.pureE q4) σ4 ρ4 H4 cls dx (mm.trans m4) st4 es4 hs4 xr
theorem st_while (hp : PassesOwn (model X.prog X.w) X.A X.env X.xe) (hc : PT X c (tT p pc)) (hb : PSs X body (tSs p pb)) : PS X (.While c body [] pos) (tS p (.whileS pc pb)) :=
  PS.imp (ps_while hp hc hb) fun E σ H h => while_reading h
end
end MP
end
section
set_option Elab.async false
set_option linter.all false
set_option maxRecDepth 100000
set_option maxHeartbeats 2000000
/-! MPF: defs, calls, the law's call. -/
namespace MP
open PySem PySem.Spec PyProof.Rows L2

/-- a def keeps its promise where no guard stands around -/
structure FnG (P : Program) (w : World) (K : PySem.W.Frag) (mg : Str → Option Value) (base : Heap) (k : Nat) (f : Addr) (fd : FuncData) (ps : List Str) (sp : Sp) : Prop where
  len : ∀ vs H Q E, sp vs H Q E → vs.length = ps.length
  run : ∀ (A : Around) (outer : List PySem.Env) (s : Shared) (H : Hp) (args : Args) (us : List Value) (vs : List V) (Q : VK) (E : XK), A.guards = some [] → Room k A → Env0 P w K mg base A outer s H → BindsTo s fd args (ps.zip us) → Vals vs us → sp vs H Q E →
    codeAny (model P w) A (.call (.ref f) args) (CR (L2.CX P w) outer P w H s Q E) s
section
variable {X : Cx} {W : WX} {k : Nat} {f : Addr} {fd : FuncData} {ps : List Str} {sp : Sp} {dvs : List V} {ds : List Value} {x : Str} {p pos : Pos} {es : List Expr} {t : TA}
theorem run_fnG {pins : List (Addr × Obj)} {σ : St} {H : Hp} {s : Shared} {Q : VK} {us : List Value} {vs : List V} (F : FnG X.prog X.w X.K X.mg X.base k f fd ps sp) (hgd : X.A.guards = some []) (hr : Room k X.A) (hb : Binds X.K fd ps ds) (hd : Vals dvs ds) (tk : Takes X W)
    (I : Inv X pins σ H s) (r : Vals vs us) (h : sp (vs ++ dvs) H Q (WE W σ)) : wpAny (model X.prog X.w) X.A (call (.ref f) us) (EP X pins σ Q) X.xe s := by
  have r2 : Vals (vs ++ dvs) (us ++ ds) := r.append hd
  have hl : (us ++ ds).length = ps.length := by rw [← r2.length]; exact F.len _ _ _ _ h
  refine wpAny_call (codeAny_mono (F.run X.A X.stack s H ⟨us, []⟩ (us ++ ds) (vs ++ dvs) Q (WE W σ) hgd hr I.env0 (hb s us I.kIn hl) r2 h) fun r s' hq => ?_)
  cases r with
  | error e => exact passAt tk σ pins H s e s' I hq
  | ok fl =>
    cases fl with
    | ret u => exact I.after hq
    | next => exact False.elim hq
    | brk => exact False.elim hq
    | cont => exact False.elim hq
theorem pe_callG {e : Expr} (F : FnG X.prog X.w X.K X.mg X.base k f fd ps sp) (hgd : X.A.guards = some []) (hr : Room k X.A) (hg : Gl X x) (hm : X.mg x = some (.ref f)) (hk : PySem.W.keepIn X.K (.ref f) = true) (hb : Binds X.K fd ps ds) (hd : Vals dvs ds) (tk : Takes X W)
    (ha : PA X (e :: es) t) (hdb : (x == ("__debug__" : Str)) = false) (he : starEach (e :: es) X.env = (false, eval e X.env) :: starEach es X.env) (hpl : (backTo pos (starEach es X.env)).any (·.1) = false) :
    PE X (.Call (.Name x p) (e :: es) [] pos) (tCallSD sp dvs (WE W) t) := by
  refine ⟨fun pins s σ H Q I h => ?_⟩
  refine wpAny_Call_Name_kw (ld_glob I hg hm ?_ hdb)
  refine PySem.W.callWith_K (h₀ := X.base) I.ok.mod.kin hk (thn (ha.run pos pins s σ H _ I h) fun us s1 ⟨vs, H1, I1, r, q⟩ => ⟨I1.kIn, ?_⟩) he hpl
  exact run_fnG F hgd hr hb hd tk I1 r q
theorem pe_callG0 (F : FnG X.prog X.w X.K X.mg X.base k f fd ps sp) (hgd : X.A.guards = some []) (hr : Room k X.A) (hg : Gl X x) (hm : X.mg x = some (.ref f)) (hk : PySem.W.keepIn X.K (.ref f) = true) (hb : Binds X.K fd ps ds) (hd : Vals dvs ds) (tk : Takes X W)
    (hdb : (x == ("__debug__" : Str)) = false) : PE X (.Call (.Name x p) [] [] pos) (tCallSD sp dvs (WE W) tNil) := by
  refine ⟨fun pins s σ H Q I h => ?_⟩
  refine wpAny_Call_Name_kw (ld_glob I hg hm ?_ hdb)
  exact PySem.W.callWith_K0 I.kIn hk (run_fnG (us := []) F hgd hr hb hd tk I .nil h)
end
theorem fnG_of {P : Program} {w : World} {K : PySem.W.Frag} {mg : Str → Option Value} {base : Heap} {k : Nat} {f : Addr} {name qual : Str} {params : Arguments} {body : List Stmt} {scope : Scope} {dV kV doc pm cdv ct oc : Value} {an od : Option Addr}
    {osl : Array (Option Value)} {N ps : List Str} {sp : Sp} (lk : K.lookup f = some ⟨oc, od, .func (PySem.W.fnOf name qual params body scope dV kV doc pm an cdv ct), osl⟩) (hcd : PySem.W.codeIn K cdv qual = true) (S : FnScope N ps scope)
    (len : ∀ vs H Q E, sp vs H Q E → vs.length = ps.length)
    (hbody : ∀ (A : Around) (outer : List PySem.Env) (s : Shared) (H : Hp) (vs : List V) (Q : VK) (E : XK), A.guards = some [] → Room k (A.deeper (envOfC qual scope s.heap.objs.size f cdv)) → sp vs H Q E →
      ∃ t, PSs (cxOf (L2.CX P w) P w K mg base N qual scope f cdv A outer s H E) body t ∧ t { nx := fun _ H' => Q .non H', rt := Q } (start N vs) H) :
    FnG P w K mg base (k + 1) f (PySem.W.fnOf name qual params body scope dV kV doc pm an cdv ct) ps sp := by
  refine ⟨len, fun A outer s H args us vs Q E hgd hr e0 hb r hsp => ?_⟩
  have hl := len _ _ _ _ hsp
  have KX : K.In s.heap := e0.mod.kin.keeps fun b o e => (e0.bs b o e).1
  have lim : s.heap.NoLimit := e0.mod.nolimit.keeps fun b o e => (e0.bs b o e).1
  have hkind : ∀ y ∈ ps.zip us, scope.names.lookup y.1 = some .local ∨ (scope.names.lookup y.1 = some .cell ∧ ((cellsFrom (s.heap.objs.size + 1) scope.names []).lookup y.1).isSome = true) := fun ⟨n, v⟩ hy => by
    rcases S.par n (List.of_mem_zip hy).1 with q | q
    · exact .inl q
    · exact .inr ⟨q, PySem.W.cellsFrom_some _ _ _ (.inl q)⟩
  refine codeAny_call_function hr.depth (KX _ _ lk) rfl S.co S.gen rfl (PySem.W.codeRec_of KX hcd) (hb _ _ _ _ ?_)
  refine wpAny_newFunctionEnv_cells S.kind hkind fun env he s1 x => ?_
  subst he
  refine ⟨lim.keeps x.toInCall.keep, codeAny_func ?_⟩
  obtain ⟨t, ht, hq⟩ := hbody A outer s H vs Q E hgd (hr.deeper _) hsp
  have I : Inv (cxOf (L2.CX P w) P w K mg base N qual scope f cdv A outer s H E) [] (start N vs) H s1 := inv_start S hr.hd e0 hl r x
  refine wpAny_mono (ht.run [] s1 (start N vs) H _ I hq) (fun fl s' hs => ?_) fun e s' hs => hs
  have fin : ∀ {σ' : St} {H' : Hp} {v : V} {u : Value}, Inv (cxOf (L2.CX P w) P w K mg base N qual scope f cdv A outer s H E) [] σ' H' s' → RelV v u → Q v H' → CE outer P w H s Q u s' :=
    fun {σ' H' v u} J rv q => ⟨v, H', J.os, J.bare, J.base, J.hok, rv, q⟩
  cases fl with
  | ret u =>
    obtain ⟨v, σ', H', J, rv, q⟩ := hs
    exact fin J rv q
  | next =>
    obtain ⟨σ', H', J, q⟩ := hs
    exact fin (v := V.non) (u := Value.none) J rfl q
  | brk =>
    obtain ⟨_, _, _, q⟩ := hs
    exact False.elim q
  | cont =>
    obtain ⟨_, _, _, q⟩ := hs
    exact False.elim q

/-! ### the law's call -/
/-- the script stands as a list that nobody writes -/
theorem law_callG {P : Program} {w : World} {K : PySem.W.Frag} {mg mb : Str → Option Value} {k : Nat} {fa a : Addr} {fd : FuncData} {x : Str} {sp : Sp} {s₁ : Shared} {vs : List Value} {ns : List Int}
    (KX : K.In s₁.heap) (hns : s₁.heap.Ns mainGlobals mg) (hb : s₁.heap.Ns builtinsNs mb) (hbb : ∀ x : Str, x ≠ "__name__" → mb x = bootBuiltins x) (hlim : s₁.heap.NoLimit) (hg : s₁.gens = #[])
    (ha : s₁.heap.get? a = some { cls := .type "list", data := .seq vs.toArray }) (hi : IntsAre vs ns) (hl : ns.length ≤ sizeLine) (hr : Room k callerA)
    (F : ∀ base : Heap, K.In base → base.Ns mainGlobals mg → FnG P w K mg base k fa fd [x] sp) (hbind : ∀ (s : Shared) (u : Value), BindsTo s fd ⟨[u], []⟩ [(x, u)])
    (hsp : ∀ H : Hp, Only H → Fz K H a (ns.map V.int) → sp [.ref a] H (fun v _ => v = .bl true) fun _ _ _ => False) :
    codeAny (model P w) callerA (.call (.ref fa) ⟨[.ref a], []⟩) (fun r s' => r = .ok (.ret (.bool true)) ∧ OldK s₁.heap s'.heap ∧ s'.os = s₁.os ∧ AllBare s'.gens) s₁ := by
  have rv := vals_ints hi
  have lenV := hi.length
  have hCX : ∀ H e s', L2.CX P w [] H s₁ (fun _ _ _ => False) e s' → False := fun H e s' h => by
    obtain ⟨_, _, _, _, _, _, _, _, _, _, _, _, z⟩ := h
    exact z.elim
  have core : ∀ H : Hp, Only H → Fz K H a (ns.map V.int) → HOk P w H s₁.heap → (∀ b, H b ≠ none → b = a) → (H a ≠ none → K.lookup a = none) →
      codeAny (model P w) callerA (.call (.ref fa) ⟨[.ref a], []⟩) (fun r s' => r = .ok (.ret (.bool true)) ∧ OldK s₁.heap s'.heap ∧ s'.os = s₁.os ∧ AllBare s'.gens) s₁ := by
    intro H hO hS hok hA hK
    have base_of : ∀ {b : Addr} {o : Obj}, s₁.heap.get? b = some o → H b = none → (hidT s₁.heap H).get? b = some o := fun e n => hidT_get e n
    have noA : ∀ {b : Addr} {o : Obj} {es : Array DictEntry} {ep : Nat}, s₁.heap.get? b = some o → o.data = .dict es ep → H b = none := fun {b o es ep} e d => by
      cases q : H b with
      | none => rfl
      | some u =>
        have e' : b = a := hA b (by rw [q]; simp)
        subst e'
        rw [ha] at e; cases e
        have d' : Data.seq vs.toArray _ = Data.dict es ep := d
        cases d'
    have nsK : ∀ {b : Addr} {m : Str → Option Value}, s₁.heap.Ns b m → (hidT s₁.heap H).Ns b m := fun {b m} ⟨o, es, ep, e, d, r⟩ => ⟨o, es, ep, base_of e (noA e d), d, r⟩
    have hKb : K.In (hidT s₁.heap H) := fun b o e => base_of (KX b o e) (by
      cases q : H b with
      | none => rfl
      | some u =>
        have e' : b = a := hA b (by rw [q]; simp)
        subst e'
        rw [hK (by rw [q]; simp)] at e; cases e)
    have hM : Mod K mg (hidT s₁.heap H) := ⟨hKb, nsK hns, ⟨mb, nsK hb, hbb⟩, let ⟨mc, h1, h2⟩ := hlim; ⟨mc, nsK h1, h2⟩⟩
    have e0 : Env0 P w K mg (hidT s₁.heap H) callerA [] s₁ H := ⟨rfl, hM, fun b o e => of_hidT e, Nat.le_of_eq (hidT_size _ _), trivial, fun b hb => absurd (show b ∈ ([] : List Addr) from hb) (by simp), hok, .of_eq hg⟩
    refine codeAny_mono ((F _ hKb (nsK hns)).run callerA [] s₁ H ⟨[.ref a], []⟩ [.ref a] [.ref a] _ _ rfl hr e0 (hbind s₁ (.ref a)) (.cons rfl .nil) (hsp H hO hS)) fun r s' h => ?_
    cases r with
    | error e => exact (hCX H e s' h).elim
    | ok fl =>
      cases fl with
      | next => exact False.elim h
      | brk => exact False.elim h
      | cont => exact False.elim h
      | ret u =>
        obtain ⟨v, H', os, bare, un, hok', r', q⟩ := h
        have q' : v = .bl true := q
        subst q'
        obtain rfl : u = Value.bool true := r'
        refine ⟨rfl, OldK.of_keep fun b o e => ?_, os, bare⟩
        cases q : H b with
        | none => exact un.keep b o e q (by intro z; exact absurd (show b ∈ ([] : List Addr) from z) (by simp)) (by simp)
        | some u =>
          rcases hO b with z | ⟨ob, xs, z⟩
          · rw [q] at z; cases z
          · have z2 := un.frzs b ob _ z
            obtain ⟨e1, _⟩ := hok b _ z
            obtain ⟨e2, _⟩ := hok' b _ z2
            rw [e] at e1; cases e1
            exact e2
  cases hk : K.lookup a with
  | some o =>
    have e := KX a o hk
    rw [ha] at e
    cases e
    refine core (fun _ => none) (fun _ => .inl rfl) (.inr ⟨vs, _, hk, by rw [lenV]; exact hl, rv⟩) (fun b u z => by have z' : (none : Option HO) = some u := z; cases z') (fun b z => absurd rfl z) fun z => absurd rfl z
  | none =>
    refine core (fun b => if b = a then some (.frz { cls := .type "list", data := .seq vs.toArray } (.lst (ns.map V.int))) else none) (fun b => ?_) (.inl ⟨{ cls := .type "list", data := .seq vs.toArray }, if_pos rfl⟩) (fun b u z => ?_) (fun b z => ?_) fun _ => hk
    · by_cases hb : b = a
      · exact .inr ⟨_, _, if_pos hb⟩
      · exact .inl (if_neg hb)
    · by_cases hb : b = a
      · have z' := (if_pos hb).symm.trans z
        cases z'
        subst hb
        exact ⟨ha, by rw [List.length_map]; exact hl, vs, _, rv, ha⟩
      · have z' := (if_neg hb).symm.trans z
        cases z'
    · by_cases hb : b = a
      · exact hb
      · exact absurd (if_neg hb) z
theorem walk_ofG {l : PySem.W.OpenLaw} {n k : Nat} {q : Program} {loose : List Str} {XP : (Str → Option Value) → Heap → Prop} {YP : World → Heap → Prop} {d : DefRec} {K : Params → PySem.W.Frag} {sp : World → Sp} {x : Str}
    (hn : l.most = some n) (hn2 : n ≤ sizeLine) (hdf : d.params.defaults = []) (hr : Room k callerA)
    (hY : ∀ (w : World) (h : Heap), YP w h → (K w.params).In h)
    (F : ∀ (w : World) (mg : Str → Option Value) (fa : Addr) (h : Heap), (K w.params).In h → h.Ns mainGlobals mg → mg d.name = some (.ref fa) →
      ∃ fd : FuncData, (∀ (s : Shared) (u : Value), BindsTo s fd ⟨[u], []⟩ [(x, u)]) ∧
        ∀ base : Heap, (K w.params).In base → base.Ns mainGlobals mg → FnG l.prog w (K w.params) mg base k fa fd [x] (sp w))
    (hsp : ∀ (w : World) (H : Hp) (a : Addr) (ns : List Int), ns.length ≤ n → (∀ z ∈ ns, Builtin.Int.intBits z ≤ 1048576) → Only H → Fz (K w.params) H a (ns.map V.int) → sp w [.ref a] H (fun v _ => v = .bl true) fun _ _ _ => False) :
    PySem.W.WalkO q loose XP YP l.row.toRowW d [] (fun f vs => PySem.call f vs) := by
  refine Att.attach_callB hn hdf fun w s₀ s₁ mg mb fa o pm cd doc a vs ns G Y ho hd hcd hmg hobj hints hlen hbits hg => ?_
  have KX := hY w _ Y
  obtain ⟨fd, hb, hF⟩ := F w mg fa _ KX G.T.g hmg
  exact law_callG KX G.T.g G.T.b G.T.builtins G.T.nolimit hg hobj hints (Nat.le_trans hlen hn2) hr hF hb (fun H hO hS => hsp w H a ns hlen hbits hO hS)
end MP
end
section
set_option Elab.async false
set_option linter.all false
set_option maxRecDepth 100000
set_option maxHeartbeats 2000000
/-! MPV: methods of lists, stores into lists, calls. -/
namespace MP
open PySem PySem.Spec PyProof.Rows L2

section
variable {K : PySem.W.Frag} {ρ : List Addr} {H : Hp} {S : DS} {v : V} {d : D}
theorem chk_ok {α : Type} {k : Unit → M α} {P : α → DS → Prop} {XX : Exc → DS → Prop} (hs : HS K ρ H S) (r : RepB K ρ H v d) (h : Ok ((chkL d >>= k) S) P XX) : (∃ a xs, v = .ref a ∧ SqL K H a xs) ∧ Ok (k () S) P XX := by
  have h := Ok.bind.mp h
  cases d <;> first | exact h.elim | skip
  case lst ds =>
    obtain ⟨a, xs, e, s, _⟩ := r.v.lst_inv
    exact ⟨⟨a, xs, e, s⟩, h⟩
  case ref =>
    rename_i n _
    obtain ⟨a, rfl, ea⟩ := r.v.ref_inv
    cases e : S[n]? with
    | none =>
      have : chkL (.ref n) S = .bad := by show (match S[n]? with | some (.lst _) => _ | _ => _) = _; rw [e]
      rw [this] at h
      exact h.elim
    | some o =>
      cases o with
      | ins c fs =>
        have : chkL (.ref n) S = .bad := by show (match S[n]? with | some (.lst _) => _ | _ => _) = _; rw [e]
        rw [this] at h
        exact h.elim
      | lst xs =>
        have : chkL (.ref n) S = .ok () S := by show (match S[n]? with | some (.lst _) => _ | _ => _) = _; rw [e]
        rw [this] at h
        obtain ⟨b, eb, ys, e1, e2⟩ := hs.at e
        rw [ea] at eb
        cases eb
        exact ⟨⟨a, ys, rfl, .of e1⟩, h⟩
theorem ref_at (hs : HS K ρ H S) (r : RepV K ρ H v (.ref n)) (e : S[n]? = some (.lst ds)) : ∃ a xs, v = .ref a ∧ ρ[n]? = some a ∧ H a = some (.lst xs) ∧ Reps K ρ H xs ds := by
  obtain ⟨a, rfl, ea⟩ := r.ref_inv
  obtain ⟨b, eb, ys, e1, e2⟩ := hs.at e
  rw [ea] at eb
  cases eb
  exact ⟨a, ys, rfl, ea, e1, e2⟩
end
theorem intP {α : Type} {y : D} {k : D → M α} {S : DS} {P : α → DS → Prop} {XX : Exc → DS → Prop} (h : Ok (((match y with | .int i => Pure.pure (.int i) | _ => M.bad : M D) >>= k) S) P XX) : ∃ i, y = .int i ∧ Ok (k (.int i) S) P XX := by
  cases y with
  | int i => exact ⟨i, rfl, h⟩
  | _ => exact h.elim
theorem evP_eq {cf : CF} {e : E} {σ : Env} (hn : e ≠ .nop) : evP cf e σ = (evE cf e σ >>= fun y => match y with | .int i => Pure.pure (.int i) | _ => M.bad) := by
  cases e <;> first | exact absurd rfl hn | (simp only [evP]; done) | (simp only [evP]; rfl) | rfl
/-- a list of the store -/
theorem lstM_ok {α : Type} {K : PySem.W.Frag} {ρ : List Addr} {H : Hp} {S : DS} {v : V} {x : D} {f : Nat → List D → M α} {P : α → DS → Prop} {XX : Exc → DS → Prop} (hs : HS K ρ H S) (r : RepV K ρ H v x) (h : Ok (lstM x f S) P XX) :
    ∃ n a xs ds, v = .ref a ∧ ρ[n]? = some a ∧ S[n]? = some (.lst ds) ∧ H a = some (.lst xs) ∧ Reps K ρ H xs ds ∧ Ok (f n ds S) P XX := by
  cases x <;> first | exact h.elim | skip
  rename_i n
  cases e : S[n]? with
  | none =>
    have : lstM (.ref n) f S = .bad := by show (match S[n]? with | some (.lst xs) => _ | _ => _) = _; rw [e]
    rw [this] at h
    exact h.elim
  | some o =>
    cases o with
    | ins c fs =>
      have : lstM (.ref n) f S = .bad := by show (match S[n]? with | some (.lst xs) => _ | _ => _) = _; rw [e]
      rw [this] at h
      exact h.elim
    | lst ds =>
      have : lstM (.ref n) f S = f n ds S := by show (match S[n]? with | some (.lst xs) => _ | _ => _) = _; rw [e]
      rw [this] at h
      obtain ⟨a, xs, e1, e2, e3, e4⟩ := ref_at hs r e
      exact ⟨n, a, xs, ds, e1, e2, e, e3, e4, h⟩
theorem wrM_ok {α : Type} {K : PySem.W.Frag} {ρ : List Addr} {H : Hp} {S : DS} {n : Nat} {a : Addr} {xs : List V} {old ds : List D} {k : Unit → M α} {P : α → DS → Prop} {XX : Exc → DS → Prop} (hs : HS K ρ H S) (e : ρ[n]? = some a) (hS : S[n]? = some (.lst old)) (r : Reps K ρ H xs ds)
    (h : Ok ((wrM n ds >>= k) S) P XX) : Step ρ H ρ (upd H a (.lst xs)) ∧ HS K ρ (upd H a (.lst xs)) (S.set n (.lst ds)) ∧ Ok (k () (S.set n (.lst ds))) P XX := ⟨(hs.write e hS r).1, (hs.write e hS r).2, h⟩
theorem Reps.dropLast {K : PySem.W.Frag} {ρ : List Addr} {H : Hp} {vs : List V} {ds : List D} (r : Reps K ρ H vs ds) : Reps K ρ H vs.dropLast ds.dropLast := by
  rw [List.dropLast_eq_take, List.dropLast_eq_take, r.length]
  exact r.take _
section
variable {X : Cx} {p : Pm} {a b c e : Expr} {pa pb pc : E} {pos apos : Pos}
theorem se_app (g : Good X p) (ha : PE X a (tE p pa)) (hb : PE X b (tE p pb)) (hv : valE p.own pb = true) (hbase : attributeBase a "append" X.env (eval a X.env) = eval a X.env)
    (hfew : ((backTo pos (starEach [b] X.env)).all (fun x => !x.1) && (backToKw pos (keywordEach [] X.env)).all (fun x => x.1.isSome) && decide ([b].length + ([] : List Keyword).length + (if ([] : List Keyword).isEmpty then 0 else 1) < 30)) = true)
    (hline : (apos.endLine == pos.line) = true) (hst : starEach [b] X.env = (false, eval b X.env) :: starEach [] X.env) (hpl : (backTo pos (starEach [] X.env)).any (·.1) = false) : PE X (.Call (.Attribute a "append" apos) [b] [] pos) (tE p (.app pa pb)) :=
  PE.imp (pe_bm F.plainAttrs_list F.slot_list_append F.type_list_append mt_append ha (pa_cons hb pa_nil hst) hbase hfew hline hst hpl) fun σ H Q ⟨ρ, σd, S, es, hs, h⟩ => by
    rw [evE] at h
    refine seq1 es hs h fun vx x ρ1 H1 S1 st hs1 es1 rx _ h1 => ?_
    obtain ⟨⟨q, xs, rfl, hq⟩, h1⟩ := chk_ok hs1 rx h1
    refine ⟨.inl ⟨rfl, xs, by rw [← g.K]; exact hq⟩, seq1 (k := appM x) es1 hs1 h1 fun vy y ρ2 H2 S2 st2 hs2 es2 ry rvy h2 => ?_⟩
    unfold appM at h2
    obtain ⟨n, a', zs, ds, ea, er, e, eh, rs, h3⟩ := lstM_ok hs2 (rx.step st2).v h2
    split at h3
    · rename_i hl
      obtain ⟨w1, w2, h4⟩ := wrM_ok hs2 er e (rs.app (.cons (rvy hv) .nil)) h3
      exact ⟨a', zs, vy, ea, rfl, eh, by rw [rs.length]; exact hl, h4 .non ρ2 _ ((st.trans st2).trans w1) w2 (.inl .non) fun _ => .non⟩
    · exact h3.elim
theorem se_pop (g : Good X p) (ha : PE X a (tE p pa)) (hbase : attributeBase a "pop" X.env (eval a X.env) = eval a X.env) (hline : (apos.endLine == pos.line) = true) : PE X (.Call (.Attribute a "pop" apos) [] [] pos) (tE p (.pop pa .nop)) :=
  PE.imp (pe_bm0 F.plainAttrs_list F.slot_list_pop F.type_list_pop mt_pop ha hbase hline) fun σ H Q ⟨ρ, σd, S, es, hs, h⟩ => by
    rw [evE] at h
    refine seq1 es hs h fun vx x ρ1 H1 S1 st hs1 es1 rx _ h1 => ?_
    obtain ⟨⟨q, xs, rfl, hq⟩, h1⟩ := chk_ok hs1 rx h1
    refine ⟨.inl ⟨rfl, xs, by rw [← g.K]; exact hq⟩, ?_⟩
    rw [evP] at h1
    have h2 : Ok (popM x .non S1) _ _ := h1
    unfold popM at h2
    obtain ⟨n, a', zs, ds, ea, er, e, eh, rs, h3⟩ := lstM_ok hs1 rx.v h2
    simp only at h3
    obtain ⟨d, hd, h4⟩ := Ok.ofO.mp (Ok.bind.mp h3)
    obtain ⟨w1, w2, h5⟩ := wrM_ok hs1 er e rs.dropLast h4
    obtain ⟨y, hy, ry⟩ := rs.get hd
    exact ⟨a', zs, y, ea, rfl, eh, by rw [rs.length]; exact hy, h5 y ρ1 _ (st.trans w1) w2 (.inl (ry.step w1)) fun _ => ry.step w1⟩
theorem se_popAt (g : Good X p) (ha : PE X a (tE p pa)) (hb : PE X b (tE p pb)) (hn : pb ≠ .nop) (hbase : attributeBase a "pop" X.env (eval a X.env) = eval a X.env)
    (hfew : ((backTo pos (starEach [b] X.env)).all (fun x => !x.1) && (backToKw pos (keywordEach [] X.env)).all (fun x => x.1.isSome) && decide ([b].length + ([] : List Keyword).length + (if ([] : List Keyword).isEmpty then 0 else 1) < 30)) = true)
    (hline : (apos.endLine == pos.line) = true) (hst : starEach [b] X.env = (false, eval b X.env) :: starEach [] X.env) (hpl : (backTo pos (starEach [] X.env)).any (·.1) = false) : PE X (.Call (.Attribute a "pop" apos) [b] [] pos) (tE p (.pop pa pb)) :=
  PE.imp (pe_bm F.plainAttrs_list F.slot_list_pop F.type_list_pop mt_popAt ha (pa_cons hb pa_nil hst) hbase hfew hline hst hpl) fun σ H Q ⟨ρ, σd, S, es, hs, h⟩ => by
    rw [evE] at h
    refine seq1 es hs h fun vx x ρ1 H1 S1 st hs1 es1 rx _ h1 => ?_
    obtain ⟨⟨q, xs, rfl, hq⟩, h1⟩ := chk_ok hs1 rx h1
    refine ⟨.inl ⟨rfl, xs, by rw [← g.K]; exact hq⟩, ?_⟩
    rw [evP_eq hn] at h1
    refine seq1 es1 hs1 (bindA h1) fun vy y ρ2 H2 S2 st2 hs2 es2 ry rvy h2 => ?_
    obtain ⟨i, rfl, h2⟩ := intP h2
    unfold popM at h2
    obtain ⟨n, a', zs, ds, ea, er, e, eh, rs, h3⟩ := lstM_ok hs2 (rx.step st2).v h2
    simp only at h3
    split at h3
    · rename_i hi
      obtain ⟨j, hj, h4⟩ := Ok.ofO.mp (Ok.bind.mp h3)
      obtain ⟨d, hd, h5⟩ := Ok.ofO.mp (Ok.bind.mp h4)
      obtain ⟨w1, w2, h6⟩ := wrM_ok hs2 er e (rs.erase j) h5
      obtain ⟨z, hz, rz⟩ := rs.get hd
      have q1 := (L2.ixN_seq (ixN_eq hj).1).1
      rw [← rs.length] at q1
      exact ⟨a', zs, i, j, z, ea, by rw [ry.v.int_inv], eh, by omega, by omega, q1, hz, h6 z ρ2 _ ((st.trans st2).trans w1) w2 (.inl (rz.step w1)) fun _ => rz.step w1⟩
    · exact h3.elim
theorem pys_get : ∀ {xs : List D} {i : Nat}, (D.pys xs)[i]? = (xs[i]?).map D.py
  | [], i => by simp [D.pys]
  | x :: xs, 0 => by simp [D.pys]
  | x :: xs, i + 1 => by
    simp only [D.pys, List.getElem?_cons_succ]
    exact pys_get
theorem idxOf_spec {y : D} : ∀ {xs : List D} {i j : Nat}, idxOf y xs i = some j → i ≤ j ∧ (∃ z, xs[j - i]? = some z ∧ eqv z y = true) ∧ ∀ m z, m < j - i → xs[m]? = some z → eqv z y = false
  | [], _, _, h => by simp [idxOf] at h
  | x :: xs, i, j, h => by
    rw [idxOf] at h
    split at h
    · rename_i hx
      cases h
      exact ⟨Nat.le_refl _, ⟨x, by simp, hx⟩, fun m z hm => by omega⟩
    · rename_i hx
      obtain ⟨h1, ⟨z, h2, h3⟩, h4⟩ := idxOf_spec h
      refine ⟨by omega, ⟨z, ?_, h3⟩, fun m z' hm hz => ?_⟩
      · rw [show j - i = (j - (i + 1)) + 1 by omega, List.getElem?_cons_succ]
        exact h2
      · cases m with
        | zero =>
          rw [List.getElem?_cons_zero] at hz
          cases hz
          simpa using hx
        | succ m =>
          rw [List.getElem?_cons_succ] at hz
          exact h4 m z' (by omega) hz
theorem shps_get {n : Nat} : ∀ {xs : List D} {i : Nat} {x : D}, D.shps n xs = true → xs[i]? = some x → D.shp n x = true
  | [], _, _, _, h => by simp at h
  | y :: xs, 0, x, hs, h => by
    rw [D.shps, Bool.and_eq_true] at hs
    rw [List.getElem?_cons_zero] at h
    cases h
    exact hs.1
  | y :: xs, i + 1, x, hs, h => by
    rw [D.shps, Bool.and_eq_true] at hs
    rw [List.getElem?_cons_succ] at h
    exact shps_get hs.2 h
theorem se_lindex (g : Good X p) (ha : PE X a (tE p pa)) (hb : PE X b (tE p pb)) (hbase : attributeBase a "index" X.env (eval a X.env) = eval a X.env)
    (hfew : ((backTo pos (starEach [b] X.env)).all (fun x => !x.1) && (backToKw pos (keywordEach [] X.env)).all (fun x => x.1.isSome) && decide ([b].length + ([] : List Keyword).length + (if ([] : List Keyword).isEmpty then 0 else 1) < 30)) = true)
    (hline : (apos.endLine == pos.line) = true) (hst : starEach [b] X.env = (false, eval b X.env) :: starEach [] X.env) (hpl : (backTo pos (starEach [] X.env)).any (·.1) = false) : PE X (.Call (.Attribute a "index" apos) [b] [] pos) (tE p (.lindex pa pb)) :=
  PE.imp (pe_bm F.plainAttrs_list F.slot_list_index F.type_list_index (mt_indexD g.un) ha (pa_cons hb pa_nil hst) hbase hfew hline hst hpl) fun σ H Q ⟨ρ, σd, S, es, hs, h⟩ => by
    rw [evE] at h
    refine seq1 es hs h fun vx x ρ1 H1 S1 st hs1 es1 rx _ h1 => ?_
    obtain ⟨⟨q, xs, rfl, hq⟩, h1⟩ := chk_ok hs1 rx h1
    refine ⟨.inl ⟨rfl, xs, by rw [← g.K]; exact hq⟩, seq1 es1 hs1 h1 fun vy y ρ2 H2 S2 st2 hs2 es2 ry rvy h2 => ?_⟩
    obtain ⟨x', rx', h3⟩ := view_ok hs2 (rx.step st2) h2
    obtain ⟨y', ry', h4⟩ := view_ok hs2 ry h3
    obtain ⟨d, hd, hp⟩ := Ok.ofO.mp h4
    cases x' <;> first | (simp [lindexD] at hd; done) | skip
    case lst ds =>
      simp only [lindexD] at hd
      split at hd
      · rename_i hsh
        rw [Bool.and_eq_true] at hsh
        cases e : idxOf y' ds 0 with
        | none => rw [e] at hd; cases hd
        | some j =>
          rw [e] at hd
          cases hd
          obtain ⟨h5, ⟨z, h6, h7⟩, h8⟩ := idxOf_spec e
          rw [Nat.sub_zero] at h6 h8
          have sl : D.shp 60 (.lst ds) = true := (shps_shp hsh.1).1
          refine ⟨q, vy, y'.py, D.pys ds, j, z.py, rfl, rfl, by rw [← g.K]; exact rx'.dp 60 sl, by rw [← g.K]; exact ry'.dp 60 hsh.2, shp_shaped sl (by decide), shp_shaped hsh.2 (by decide), ?_, ?_, fun m z' hm hz => ?_, hp _ ρ2 H2 (st.trans st2) hs2 (.inl (.int _)) fun _ => .int _⟩
          · rw [pys_get, h6]; rfl
          · rw [eqv_py z y' 59 60 (shps_get hsh.1 h6) hsh.2]; exact h7
          · rw [pys_get] at hz
            cases e' : ds[m]? with
            | none => rw [e'] at hz; cases hz
            | some z2 =>
              rw [e'] at hz
              cases hz
              rw [eqv_py z2 y' 59 60 (shps_get hsh.1 e') hsh.2]
              exact h8 m z2 hm e'
      · cases hd
end
end MP
end
section
set_option Elab.async false
set_option linter.all false
set_option maxRecDepth 100000
set_option maxHeartbeats 4000000
/-! MPN: len(set(xs)), xs a list of texts or of ints. -/
namespace MP
open PySem PySem.Spec PyProof.Rows L2

def uniqTo {α : Type} [DecidableEq α] (xs : List α) (i : Nat) : List α := uniq [] (xs.take i)
theorem uniq_snoc {α : Type} [DecidableEq α] : ∀ (xs : List α) (acc : List α) (x : α), uniq acc (xs ++ [x]) = (if x ∈ uniq acc xs then uniq acc xs else uniq acc xs ++ [x])
  | [], acc, x => rfl
  | y :: xs, acc, x => by
    rw [List.cons_append, uniq, uniq]
    exact uniq_snoc xs _ x
theorem uniqTo_succ {α : Type} [DecidableEq α] {xs : List α} {i : Nat} {x : α} (h : xs[i]? = some x) : uniqTo xs (i + 1) = (if x ∈ uniqTo xs i then uniqTo xs i else uniqTo xs i ++ [x]) := by
  obtain ⟨hl, rfl⟩ := List.getElem?_eq_some_iff.mp h
  unfold uniqTo
  rw [← uniq_snoc, List.take_append_getElem hl]
theorem uniq_len {α : Type} [DecidableEq α] : ∀ (xs acc : List α), (uniq acc xs).length ≤ acc.length + xs.length
  | [], acc => Nat.le_refl _
  | x :: xs, acc => by
    rw [uniq]
    have := uniq_len xs (if x ∈ acc then acc else acc ++ [x])
    split at this
    · rename_i h
      rw [if_pos h, List.length_cons]
      omega
    · rename_i h
      rw [if_neg h, List.length_cons]
      rw [List.length_append, List.length_singleton] at this
      omega
theorem uniqTo_len {α : Type} [DecidableEq α] (xs : List α) (i : Nat) : (uniqTo xs i).length ≤ i := by
  have := uniq_len (xs.take i) []
  rw [List.length_take, List.length_nil] at this
  unfold uniqTo
  omega
section
variable {prog : Program} {w : World} {A : Around} {R : Result → Shared → Prop} {I : Addr} {fp wr : List Addr} {G : Array GenState → Array GenState → Prop} {n : Nat} {P : Nat → Value → Prop} {St : Nat → Shared → Prop}
  {Kt : Type} [DecidableEq Kt] [BEq Kt] [LawfulBEq Kt] {knd : PySem.KeyKind prog w Kt}
theorem set_loopK (W : WalksS prog w A.in1 I fp wr G n P St) (S : Addr) (hSf : S ∉ fp) (xs : List Kt) (hsz : xs.length = n) (hb : n + 1 < scanBound)
    (hval : ∀ i v, P i v → ∃ x, xs[i]? = some x ∧ knd.is x v = true ∧ v.scannable = true) :
    ∀ (k i : Nat) (s : Shared), n - i = k → i ≤ n → St i s →
      s.heap.SetOf knd S (fun k' => decide (k' ∈ uniqTo xs i)) (uniqTo xs i).length →
      (∀ s', Moved (S :: wr) G s s' → s'.heap.SetOf knd S (fun k' => decide (k' ∈ uniqTo xs n)) (uniqTo xs n).length → R (.ok (.ret .none)) s') →
      codeAny (model prog w) A (.builtin "set.update.loop" ⟨[.ref S, .ref I], []⟩) R s := by
  have hSw : S ∉ wr := fun h => hSf (W.sub _ h)
  have hsub : ∀ b ∈ wr, b ∈ S :: wr := fun b hb => List.mem_cons_of_mem _ hb
  intro k
  induction k with
  | zero =>
    intro i s hk hi hst hS hR
    have hin : i = n := by omega
    subst hin
    refine codeAny_builtin PyProof.Rows.F.entry_set_update_loop ?_
    rw [Around.under_plainId PyProof.Rows.F.plain_set_update_loop _]
    show wpAny _ A.in1 (pyNext (.ref I) >>= _) _ _ s
    refine wpAny_bind (W.done s _ _ hst fun s' hm => ?_)
    show wpAny _ A.in1 (ret Value.none) _ _ s'
    exact wpAny_pure (hR s' (hm.mono hsub) (by
      obtain ⟨o, es, ep, t, ho, rest⟩ := hS
      exact ⟨o, es, ep, t, hm.heap S _ hSw ho, rest⟩))
  | succ k ih =>
    intro i s hk hi hst hS hR
    have hlt : i < n := by omega
    refine codeAny_builtin PyProof.Rows.F.entry_set_update_loop ?_
    rw [Around.under_plainId PyProof.Rows.F.plain_set_update_loop _]
    show wpAny _ A.in1 (pyNext (.ref I) >>= _) _ _ s
    refine wpAny_bind (W.item i s _ _ hlt hst fun v s' hP hst' hm => ?_)
    obtain ⟨x, hx, hv, hsc⟩ := hval i v hP
    have hS' : s'.heap.SetOf knd S (fun k' => decide (k' ∈ uniqTo xs i)) (uniqTo xs i).length := by
      obtain ⟨o, es, ep, tb, ho, rest⟩ := hS
      exact ⟨o, es, ep, tb, hm.heap S _ hSw ho, rest⟩
    show wpAny _ A.in1 (holding [v] (setAdd S v) >>= _) _ _ s'
    refine wpAny_bind (wpAny_holding ?_)
    unfold setAdd
    refine wpAny_holding ?_
    refine wpAny_bind (knd.pyHash (k := x) hv ?_)
    have hroom : (uniqTo xs i).length + 1 < scanBound := by have := uniqTo_len xs i; omega
    refine wpAny_setAddHashed_of (knd := knd) (s := { s' with toks := s'.toks + 1 }) hv hsc hS' hroom fun h' hsb hS2 => ?_
    have hSi : h'.SetOf knd S (fun k' => decide (k' ∈ uniqTo xs (i + 1))) (uniqTo xs (i + 1)).length := by
      rw [uniqTo_succ hx]
      by_cases hm : x ∈ uniqTo xs i
      · refine SetOf_congr hS2 (fun k' => ?_) (by simp [hm])
        rw [if_pos hm]
        by_cases e : k' = x
        · subst e; simp [hm]
        · simp [e]
      · refine SetOf_congr hS2 (fun k' => ?_) (by simp [hm])
        rw [if_neg hm]
        by_cases e : k' = x
        · subst e; simp
        · simp [e]
    refine wpAny_pure ⟨plainId_quiet PyProof.Rows.F.plain_set_update_loop _, ih (i + 1) _ (by omega) hlt (W.frame _ s' _ _ hst' (Nat.le_succ _) fun b hb o e => ?_) hSi fun s'' hm'' hS'' => ?_⟩
    · rw [hsb.2 b (fun h : b = S => hSf (by rw [← h]; exact hb))]; exact e
    · refine hR s'' (Moved.trans W.gtrans ((hm.mono hsub).then_heap (Nat.le_succ _) fun b o hb e => ?_) hm'') hS''
      rw [hsb.2 b (fun h : b = S => hb (by rw [h]; exact List.mem_cons_self))]; exact e
end
section
variable {prog : Program} {w : World} {A : Around} {E : Value → Shared → Prop} {s : Shared} {Kt : Type} [DecidableEq Kt] [BEq Kt] [LawfulBEq Kt] {knd : PySem.KeyKind prog w Kt}
theorem set_listK {l : Addr} {items : Array Value} {xs : List Kt} {Q : Value → Shared → Prop}
    (hh : A.handled = none) (hl : s.heap.IsList l items) (hsz : xs.length = items.size) (hi : ∀ (i : Nat) (v : Value), items[i]? = some v → ∃ x, xs[i]? = some x ∧ knd.is x v = true ∧ v.scannable = true) (hn1 : xs.length + 1 < scanBound)
    (h : ∀ (h' : Heap) (tk : Nat), h'.SetOf knd s.heap.objs.size (fun k' => decide (k' ∈ uniq [] xs)) (uniq [] xs).length →
      (∀ b o, b < s.heap.objs.size → s.heap.get? b = some o → h'.get? b = some o) → Q (.ref s.heap.objs.size) { s with heap := h', toks := tk }) :
    wpAny (model prog w) A (call (.type "set") [.ref l]) Q E s := by
  obtain ⟨c, tl, hmro⟩ := PySem.F.called_set.mro
  have hmade := PySem.F.called_set.made
  have hsub := PySem.F.called_set.sub
  refine wpAny_call (codeAny_of_tree ?_)
  show wpAny _ _ (callAny (.type "set") _) _ _ _
  refine wpAny_pure ⟨Code.quiet_builtin _ (by decide +kernel), codeAny_builtin PySem.F.entry_type_call ?_⟩
  rw [Around.under_plain (weight_type_call_type "set" [.ref l] []) rfl]
  have h1 := PySem.F.called_set.notType
  have h2 := PySem.F.called_set.canCreate
  have hct := PySem.F.typeCall_set_1 (.ref l)
  repeat (any_goals (first | assumption | wp_step))
  refine codeAny_mono (code_set_new_1 (.ref l) (E := E) (Q₁ := fun obj s₁ => ∃ led : Bool, obj = .ref s.heap.objs.size ∧ s₁ = { s with heap := s.heap.push { cls := .type "set", dict := none, data := .set #[] 0 (.fresh 0 0 led) } }) fun led => ⟨led, rfl, rfl⟩) fun r s₁ hr => ?_
  cases r with
  | error e => exact hr
  | ok fl =>
    cases fl with
    | ret obj =>
      obtain ⟨led, rfl, rfl⟩ := hr
      have hS : (s.heap.push { cls := .type "set", dict := none, data := .set #[] 0 (.fresh 0 0 led) }).get? s.heap.objs.size = some { cls := .type "set", dict := none, data := .set #[] 0 (.fresh 0 0 led) } := Heap.get?_push_size _ rfl
      have hT : Shared.TypeIs { s with heap := s.heap.push { cls := .type "set", dict := none, data := .set #[] 0 (.fresh 0 0 led) } } (.ref s.heap.objs.size) "set" := ⟨_, hS, rfl⟩
      have hli := PySem.F.called_set.init.lookup
      have hbi := PySem.F.called_set.init.bind (.ref s.heap.objs.size)
      repeat (any_goals (first | assumption | wp_step))
      refine codeAny_mono (codeAny_call_builtin (R := wants (fun r s₂ => r = .none ∧ ∃ h' tk, s₂ = { s with heap := h', toks := tk } ∧
          h'.SetOf knd s.heap.objs.size (fun k' => decide (k' ∈ uniq [] xs)) (uniq [] xs).length ∧
          (∀ b o, b < s.heap.objs.size → s.heap.get? b = some o → h'.get? b = some o)) E) PySem.F.called_set.init.plain PySem.F.entry_set_init (check_set_init_1 hT ?_)) fun r₂ s₂ hr₂ => ?_
      · obtain ⟨ol, hol, hcl, nl, hdl⟩ := hl
        obtain ⟨ocls, odict, odata, oslots⟩ := ol
        simp only at hcl hdl
        subst hcl; subst hdl
        have hol' : (s.heap.push { cls := .type "set", dict := none, data := .set #[] 0 (.fresh 0 0 led) }).get? l = some { cls := .type "list", dict := odict, data := .seq items nl, slots := oslots } := Heap.get?_push_of_some _ hol
        have hsls := PySem.F.sub_list_set
        have hslf := PySem.F.sub_list_frozenset
        have hne : (Value.type "list" == Value.type "dict") = false := by decide
        have hl1 : (s.heap.push { cls := .type "set", dict := none, data := .set #[] 0 (.fresh 0 0 led) }).IsList l items := ⟨_, hol', rfl, nl, rfl⟩
        unfold Builtin.«set.__init__» noKeywords Builtin.Frozenset.updateFrom
        generalize hPI : pyIter = PI
        wp_walk
        subst hPI
        refine wpAny_pyIter_list hl1 ?_
        refine wpAny_bind (wpAny_runValue ?_)
        have hlS : l < s.heap.objs.size := Heap.lt_size hol
        have hh3 : A.in1.in1.in1.handled = none := by simp [hh]
        have hneI : l ≠ (s.heap.push { cls := .type "set", dict := none, data := .set #[] 0 (.fresh 0 0 led) }).objs.size := by
          rw [Heap.size_push]; exact Nat.ne_of_lt (Nat.lt_succ_of_lt hlS)
        have hSf : s.heap.objs.size ∉ [(s.heap.push { cls := .type "set", dict := none, data := .set #[] 0 (.fresh 0 0 led) }).objs.size, l] := by
          rw [Heap.size_push]; simp only [List.mem_cons, List.mem_singleton, List.not_mem_nil, or_false, not_or]
          exact ⟨Nat.ne_of_lt (Nat.lt_succ_self _), Nat.ne_of_gt hlS⟩
        refine set_loopK (knd := knd) ((Walks.list hh3 _ l hneI items).toS) s.heap.objs.size
          hSf xs hsz (by rw [← hsz]; exact hn1) hi (items.size - 0) 0 _ (by omega) (Nat.zero_le _)
          ⟨⟨_, Heap.get?_push_size _ rfl, rfl, rfl⟩, (hl1.push _)⟩ ?hS0 ?hR
        case hS0 =>
          have hget : ((s.heap.push { cls := .type "set", dict := none, data := .set #[] 0 (.fresh 0 0 led) }).push { cls := .type "list_iterator", data := .fields #[.ref l, .int 0 0] }).get? s.heap.objs.size
              = some { cls := .type "set", dict := none, data := .set #[] 0 (.fresh 0 0 led) } := Heap.get?_push_of_some _ hS
          exact PyProof.Rows.SetOf_congr ((PyProof.Rows.setObjOf_fresh (knd := knd) led).setOf hget (by unfold scanBound; omega)) (fun _ => by simp [uniqTo, uniq]) rfl
        case hR =>
          intro s' hm hS'
          obtain ⟨h', g', d', tk', os'⟩ := s'
          have eg : g' = s.gens := hm.gens
          have ed : d' = s.drawn := hm.drawn
          have eo : os' = s.os := hm.os
          subst eg; subst ed; subst eo
          show wpAny _ _ _ _ _ _
          refine wpAny_pure ?_
          show wpAny _ _ (ret Value.none) _ _ _
          have et : uniqTo xs items.size = uniq [] xs := by unfold uniqTo; rw [← hsz, List.take_length]
          rw [et] at hS'
          refine wpAny_pure ⟨rfl, h', tk', rfl, hS', fun b o hb e => ?_⟩
          have hb1 : b ≠ s.heap.objs.size := Nat.ne_of_lt hb
          have hb2 : b ≠ (s.heap.push { cls := .type "set", dict := none, data := .set #[] 0 (.fresh 0 0 led) }).objs.size := by
            rw [Heap.size_push]; exact Nat.ne_of_lt (Nat.lt_succ_of_lt hb)
          exact hm.heap b o (by simp only [List.mem_cons, List.mem_singleton, List.not_mem_nil, or_false, not_or]; exact ⟨hb1, hb2⟩) (Heap.get?_push_of_some _ (Heap.get?_push_of_some _ e))
      · cases r₂ with
        | error e => exact hr₂
        | ok fl₂ =>
          cases fl₂ with
          | ret r =>
            obtain ⟨rfl, h', tk, rfl, hS', hk'⟩ := hr₂
            repeat (any_goals (first | assumption | wp_step))
            exact h _ _ hS' hk'
          | _ => exact hr₂.elim
    | _ => exact hr.elim
end

/-! ### the rule -/
theorem strsOf_eq : ∀ {ds : List D} {zs : List (List Nat)}, strsOf ds = some zs → ds = zs.map D.str
  | [], zs, h => by rw [strsOf] at h; cases h; rfl
  | d :: ds, zs, h => by
    cases d <;> first | (simp [strsOf] at h; done) | skip
    rw [strsOf] at h
    obtain ⟨r, hr, rfl⟩ := Option.map_eq_some_iff.mp h
    rw [strsOf_eq hr]
    rfl
theorem intsOf_eq : ∀ {ds : List D} {zs : List Int}, intsOf ds = some zs → ds = zs.map D.int
  | [], zs, h => by rw [intsOf] at h; cases h; rfl
  | d :: ds, zs, h => by
    cases d <;> first | (simp [intsOf] at h; done) | skip
    rw [intsOf] at h
    obtain ⟨r, hr, rfl⟩ := Option.map_eq_some_iff.mp h
    rw [intsOf_eq hr]
    rfl
section
variable {X : Cx} {p : Pm} {a : Expr} {pa : E} {pos q : Pos}
/-- len(set(xs)) by values -/
def tLs (K : PySem.W.Frag) (ta : TE) : TE := fun σ H Q => ta σ H fun x H1 => ∃ ρ S d e, HS K ρ H1 S ∧ RepV K ρ H1 x d ∧ b1D .lenset d = some (.int e) ∧ Q (.int e) H1
theorem toS_inj' {x y : List Nat} (h : toS x = toS y) : x = y := by
  have := toS_inj (x := x) (y := y)
  rw [h, beq_self_eq_true] at this
  exact of_decide_eq_true this.symm
theorem uniq_map {α β : Type} [DecidableEq α] [DecidableEq β] {f : α → β} (hf : ∀ x y, f x = f y → x = y) : ∀ (xs acc : List α), uniq (acc.map f) (xs.map f) = (uniq acc xs).map f
  | [], acc => rfl
  | x :: xs, acc => by
    rw [List.map_cons, uniq, uniq, ← uniq_map hf xs]
    congr 1
    by_cases h : x ∈ acc
    · rw [if_pos h, if_pos (List.mem_map_of_mem h)]
    · rw [if_neg h, if_neg fun m => ?_, List.map_append]
      · rfl
      · obtain ⟨y, hy, e⟩ := List.mem_map.mp m
        rw [hf y x e] at hy
        exact h hy
theorem pe_ls {pn pn2 : Pos} (hK : p.K = X.K) (hc : X.calm = true) (hg : Gl X "len") (hm : X.mg "len" = none) (hg2 : Gl X "set") (hm2 : X.mg "set" = none) {ta : TE} (ha : PE X a ta)
    (na : starEach [a] X.env = (false, eval a X.env) :: starEach [] X.env) (n2 : starEach [.Call (.Name "set" pn2) [a] [] q] X.env = (false, eval (.Call (.Name "set" pn2) [a] [] q) X.env) :: starEach [] X.env) : PE X (.Call (.Name "len" pn) [.Call (.Name "set" pn2) [a] [] q] [] pos) (tLs p.K ta) := by
  refine ⟨fun pins s σ H Q I h => ?_⟩
  refine Call_ (ld_blt I hg hm boot_len ?_)
  refine PyProof.Rows.callWith_builtin1 (PyProof.Rows.args_cons ?_ n2) n2 rfl
  refine Call_ (ld_blt I hg2 hm2 boot_set ?_)
  refine PyProof.Rows.callWith_type1 (PyProof.Rows.args_cons (thn (ha.run pins s σ H _ I h) fun v s1 ⟨x, H1, I1, r1, q1⟩ => PyProof.Rows.args_nil ?_) na) na rfl
  obtain ⟨ρ, S, d, e, hs, rx, hd, q1⟩ := q1
  rw [hK] at rx hs
  cases d <;> first | (simp [b1D] at hd; done) | skip
  rename_i ds
  obtain ⟨l, vs, rfl, hq, rs⟩ := rx.lst_inv
  cases r1
  obtain ⟨its, rv, pl, hz⟩ := I1.list hq
  have hlen := rv.length
  have hlen2 := rs.length
  simp only [b1D] at hd
  split at hd
  · rename_i hl
    have fin : ∀ {Kt : Type} [DecidableEq Kt] [BEq Kt] [LawfulBEq Kt] (knd : PySem.KeyKind X.prog X.w Kt) (ks : List Kt), ks.length = ds.length → (e : Int) = ((uniq [] ks).length : Nat) → (∀ (i : Nat) (v : Value), its.toArray[i]? = some v → ∃ x, ks[i]? = some x ∧ knd.is x v = true ∧ v.scannable = true) →
        wpAny (model X.prog X.w) X.A (call (.type "set") [.ref l]) (fun v s₁ => wpAny (model X.prog X.w) X.A (spliced (backTo pos (starEach [] X.env))) (fun vs s₂ => wpAny (model X.prog X.w) X.A (call (.builtin "len") (v :: vs)) (EP X pins σ Q) X.xe s₂) X.xe s₁) X.xe s1 := by
      intro Kt _ _ _ knd ks hk he hv
      refine set_listK (knd := knd) (xs := ks) (I1.ok.hd hc) pl.isList (by rw [hk, ← hlen2, hlen, List.size_toArray]) hv (by unfold scanBound; omega) fun h' tk hS hkk => PyProof.Rows.args_nil ?_
      obtain ⟨o, es, ep, t, ho, hex, hd, _, _, _, hf, hn⟩ := hS
      have I2 : Inv X pins σ H1 { s1 with heap := h', toks := tk } := I1.kept fun b o e => hkk b o (Heap.lt_size e) e
      have hul := uniq_len ks []
      rw [List.length_nil] at hul
      refine call_len_set ho hex hd hf (by rw [hn]; omega) ⟨.int e, H1, I2.tok _, ⟨_, by rw [hn, he]⟩, q1⟩
    cases e1 : strsOf ds with
    | some zs =>
      rw [e1] at hd
      simp only [Option.some.injEq, D.int.injEq] at hd
      have ed := strsOf_eq e1
      refine fin (PySem.strKind X.prog X.w) (zs.map toS) (by rw [ed, List.length_map, List.length_map]) ?_ fun i v hv => ?_
      · have := uniq_map (f := toS) (fun x y h => toS_inj' h) zs []
        rw [List.map_nil] at this
        rw [this, List.length_map]
        exact hd.symm
      · have hv' : its[i]? = some v := by simpa using hv
        obtain ⟨x, hx, rxv⟩ := valsR rv hv'
        obtain ⟨d, hd', rd⟩ := rs.getV hx
        rw [ed, List.getElem?_map] at hd'
        cases e2 : zs[i]? with
        | none => rw [e2] at hd'; cases hd'
        | some z =>
          rw [e2] at hd'
          cases hd'
          have := rd.str_inv
          subst this
          obtain ⟨t, rfl⟩ := rxv
          exact ⟨toS z, by rw [List.getElem?_map, e2]; rfl, strKind_is _ _ _ _, rfl⟩
    | none =>
      rw [e1] at hd
      cases e2 : intsOf ds with
      | none => rw [e2] at hd; cases hd
      | some zs =>
        rw [e2] at hd
        simp only [Option.some.injEq, D.int.injEq] at hd
        have ed := intsOf_eq e2
        refine fin (PySem.intKind X.prog X.w) zs (by rw [ed, List.length_map]) hd.symm fun i v hv => ?_
        have hv' : its[i]? = some v := by simpa using hv
        obtain ⟨x, hx, rxv⟩ := valsR rv hv'
        obtain ⟨d, hd', rd⟩ := rs.getV hx
        rw [ed, List.getElem?_map] at hd'
        cases e2 : zs[i]? with
        | none => rw [e2] at hd'; cases hd'
        | some z =>
          rw [e2] at hd'
          cases hd'
          have := rd.int_inv
          subst this
          obtain ⟨t, rfl⟩ := rxv
          exact ⟨z, rfl, intKind_is _ _ _ _, rfl⟩
  · cases hd
theorem lenset_int {d e : D} (h : b1D .lenset d = some e) : ∃ i, e = .int i := by
  cases d <;> first | (simp [b1D] at h; done) | skip
  simp only [b1D] at h
  split at h
  · split at h
    · cases h; exact ⟨_, rfl⟩
    · cases h; exact ⟨_, rfl⟩
    · cases h
  · cases h
theorem se_lenset (g : Good X p) {pn pn2 : Pos} (hg : Gl X "len") (hm : X.mg "len" = none) (hg2 : Gl X "set") (hm2 : X.mg "set" = none) (ha : PE X a (tE p pa))
    (na : starEach [a] X.env = (false, eval a X.env) :: starEach [] X.env) (n2 : starEach [.Call (.Name "set" pn2) [a] [] q] X.env = (false, eval (.Call (.Name "set" pn2) [a] [] q) X.env) :: starEach [] X.env) : PE X (.Call (.Name "len" pn) [.Call (.Name "set" pn2) [a] [] q] [] pos) (tE p (.b1 .lenset pa)) :=
  PE.imp (pe_ls g.K g.calm hg hm hg2 hm2 ha na n2) fun σ H Q ⟨ρ, σd, S, es, hs, h⟩ => by
    rw [evE] at h
    refine seq1 es hs h fun vx x ρ1 H1 S1 st hs1 es1 rx _ h1 => ?_
    obtain ⟨x', rx', h2⟩ := view_ok hs1 rx h1
    obtain ⟨d, hd, hp⟩ := Ok.ofO.mp h2
    obtain ⟨i, rfl⟩ := lenset_int hd
    exact ⟨ρ1, S1, x', i, hs1, rx', hd, hp _ ρ1 H1 st hs1 (.inl (.int _)) fun _ => .int _⟩
end
end MP
end
section
set_option Elab.async false
set_option linter.all false
set_option maxRecDepth 100000
set_option maxHeartbeats 4000000
/-! MPQ: repr, list(..), sorted(..). -/
namespace MP
open PySem PySem.Spec PyProof.Rows L2

/-! ### repr -/
section
variable {X : Cx} {K : PySem.W.Frag}
theorem b_repr (hK : K = X.K) (hg : X.A.guards = some []) (hu : X.A.units + 65 < cLine) : CallR X (.builtin "repr") (rOne K (b1D .repr)) := by
  subst hK
  intro pins s σ H xs us Q I r h
  obtain ⟨ρ, S, x, a, d, rfl, hs, ra, hf, q⟩ := h
  simp only [b1D] at hf
  obtain ⟨z, hz, rfl⟩ := Option.map_eq_some_iff.mp hf
  unfold reprD at hz
  split at hz
  · rename_i hc
    cases hz
    rw [Bool.and_eq_true, Bool.and_eq_true] at hc
    obtain ⟨⟨h1, h2⟩, h3⟩ := hc
    have h3 := of_decide_eq_true h3
    obtain ⟨u, rfl, ru⟩ := vals1 r
    obtain ⟨as, rd⟩ := Dp.reads I a.py x u (ra.dp 60 h1) ru
    obtain ⟨c1, c2⟩ := shp_can a 60 h1
    have fin : ∀ (h' : Heap) (u : Tok) (tk : Nat), (∀ b o, s.heap.get? b = some o → h'.get? b = some o) → EP X pins σ Q (.str (PyData.shown a.py) u) { s with heap := h', toks := tk } := fun h' u tk hk =>
      ⟨.str _, H, I.kept hk, ⟨u, rfl⟩, q.str' (toS_of _).symm⟩
    cases a with
    | non =>
      have := rd
      cases rd
      exact PySem.P.repr_of_none (fin _ _ _ fun _ _ e => e)
    | bl b =>
      cases rd
      exact PySem.P.repr_of_bool (fin _ _ _ fun _ _ e => e)
    | int i =>
      cases rd
      exact PySem.P.repr_of_int (by simpa [D.py, PyData.showable] using h2) (fin _ _ _ fun _ _ e => e)
    | str z =>
      cases rd
      exact PySem.P.repr_of_str (fin _ _ _ fun _ _ e => e) h3
    | tup ds =>
      obtain ⟨p, vs, rfl, _⟩ := ra.tup_inv
      cases ru
      exact repr_of_reads' rd h2 (PyData.noDict_hsm (PyData.hasDict_of_canLay _ c1)) hg (by omega) (fun _ _ e => e) fin h3
    | lst ds =>
      obtain ⟨p, vs, rfl, _⟩ := ra.lst_inv
      cases ru
      exact repr_of_reads' rd h2 (PyData.noDict_hsm (PyData.hasDict_of_canLay _ c1)) hg (by omega) (fun _ _ e => e) fin h3
    | ref n => simp [D.shp] at h1
  · cases hz
end

/-! ### sorted -/
theorem ltn_asymm {x y : List Nat} (h1 : ¬ x < y) (h2 : ¬ y < x) : x = y := List.le_antisymm (List.not_lt.mp h2) (List.not_lt.mp h1)
theorem insStr_perm (x : List Nat) : ∀ ys, (insStr x ys).Perm (x :: ys)
  | [] => .refl _
  | y :: r => by
    rw [insStr]
    split
    · exact .refl _
    · exact ((insStr_perm x r).cons y).trans (.swap x y r)
theorem sortStr_perm : ∀ xs, (sortStr xs).Perm xs
  | [] => .refl _
  | x :: r => by
    rw [sortStr]
    exact (insStr_perm x _).trans ((sortStr_perm r).cons x)
theorem insStr_sorted (x : List Nat) : ∀ ys : List (List Nat), ys.Pairwise (fun a b => ¬ b < a) → (insStr x ys).Pairwise (fun a b => ¬ b < a)
  | [], _ => by simp [insStr]
  | y :: r, h => by
    obtain ⟨h1, h2⟩ := List.pairwise_cons.mp h
    rw [insStr]
    split
    · rename_i hlt
      refine List.pairwise_cons.mpr ⟨fun z hz => ?_, h⟩
      rcases List.mem_cons.mp hz with rfl | hz
      · exact List.not_lt.mpr (List.le_of_lt hlt)
      · exact List.not_lt.mpr (List.le_trans (List.le_of_lt hlt) (List.not_lt.mp (h1 z hz)))
    · rename_i hlt
      refine List.pairwise_cons.mpr ⟨fun z hz => ?_, insStr_sorted x r h2⟩
      rcases List.mem_cons.mp ((insStr_perm x r).mem_iff.mp hz) with rfl | hz
      · exact hlt
      · exact h1 z hz
theorem sortStr_sorted : ∀ xs : List (List Nat), (sortStr xs).Pairwise (fun a b => ¬ b < a)
  | [] => .nil
  | x :: r => insStr_sorted x _ (sortStr_sorted r)
theorem insInt_perm (x : Int) : ∀ ys, (insInt x ys).Perm (x :: ys)
  | [] => .refl _
  | y :: r => by
    rw [insInt]
    split
    · exact .refl _
    · exact ((insInt_perm x r).cons y).trans (.swap x y r)
theorem sortInt_perm : ∀ xs, (sortInt xs).Perm xs
  | [] => .refl _
  | x :: r => by
    rw [sortInt]
    exact (insInt_perm x _).trans ((sortInt_perm r).cons x)
theorem insInt_sorted (x : Int) : ∀ ys : List Int, ys.Pairwise (· ≤ ·) → (insInt x ys).Pairwise (· ≤ ·)
  | [], _ => by simp [insInt]
  | y :: r, h => by
    obtain ⟨h1, h2⟩ := List.pairwise_cons.mp h
    rw [insInt]
    split
    · rename_i hlt
      refine List.pairwise_cons.mpr ⟨fun z hz => ?_, h⟩
      rcases List.mem_cons.mp hz with rfl | hz
      · omega
      · have := h1 z hz
        omega
    · rename_i hlt
      refine List.pairwise_cons.mpr ⟨fun z hz => ?_, insInt_sorted x r h2⟩
      rcases List.mem_cons.mp ((insInt_perm x r).mem_iff.mp hz) with rfl | hz
      · omega
      · exact h1 z hz
theorem sortInt_sorted : ∀ xs : List Int, (sortInt xs).Pairwise (· ≤ ·)
  | [] => .nil
  | x :: r => insInt_sorted x _ (sortInt_sorted r)
theorem ltCps_eq : ∀ x y : List Nat, PySem.Spec.ltCps x y = decide (x < y)
  | [], [] => by simp [PySem.Spec.ltCps]
  | [], _ :: _ => by simp [PySem.Spec.ltCps]
  | _ :: _, [] => by simp [PySem.Spec.ltCps]
  | a :: r, b :: t => by
    rw [PySem.Spec.ltCps, ltCps_eq r t]
    by_cases h : a < b
    · simp [h, List.cons_lt_cons_iff]
    · by_cases e : a = b
      · subst e
        simp [List.cons_lt_cons_iff]
      · simp [h, e, List.cons_lt_cons_iff]
theorem rising_pw : ∀ (r : List Str) (x : Str), risingS x r = true → (x :: r).Pairwise (fun a b => ¬ b.cps.toList < a.cps.toList)
  | [], x, _ => by simp
  | y :: r, x, h => by
    rw [risingS, Bool.and_eq_true] at h
    have h1 : ¬ y.cps.toList < x.cps.toList := by
      have := h.1
      rw [ltCps_eq] at this
      simpa using this
    have ih := rising_pw r y h.2
    obtain ⟨h2, h3⟩ := List.pairwise_cons.mp ih
    refine List.pairwise_cons.mpr ⟨fun z hz => ?_, ih⟩
    rcases List.mem_cons.mp hz with rfl | hz
    · exact h1
    · exact List.not_lt.mpr (List.le_trans (List.not_lt.mp h1) (List.not_lt.mp (h2 z hz)))
theorem sortedS_pw (ys : List Str) (h : sortedS ys = true) : ys.Pairwise (fun a b => ¬ b.cps.toList < a.cps.toList) := by
  cases ys with
  | nil => exact .nil
  | cons y r => exact rising_pw r y h
theorem sorted_uniq {zs : List (List Nat)} {ys : List Str} (hp : ys.Perm (zs.map toS)) (hs : sortedS ys = true) : ys = (sortStr zs).map toS := by
  refine List.Perm.eq_of_pairwise (le := fun a b => ¬ b.cps.toList < a.cps.toList) (fun a b _ _ h1 h2 => ?_) (sortedS_pw ys hs) ?_ (hp.trans ((sortStr_perm zs).map toS).symm)
  · have := ltn_asymm h2 h1
    rw [← toS_of a, ← toS_of b, this]
  · exact List.pairwise_map.mpr (sortStr_sorted zs)
theorem sortedI_uniq {zs ys : List Int} (hp : ys.Perm zs) (hs : ys.Pairwise (· ≤ ·)) : ys = sortInt zs :=
  List.Perm.eq_of_pairwise (le := (· ≤ ·)) (fun a b _ _ h1 h2 => Int.le_antisymm h1 h2) hs (sortInt_sorted zs) (hp.trans (sortInt_perm zs).symm)

/-! ### new lists by one argument -/
def rOneL (K : PySem.W.Frag) (f : D → Option (List D)) : List V → Hp → VK → Prop := fun xs H Q => ∃ ρ S x a ds, xs = [x] ∧ HS K ρ H S ∧ RepV K ρ H x a ∧ f a = some ds ∧ ResL K ρ H ds Q
theorem reps_strs {K : PySem.W.Frag} {ρ : List Addr} {H : Hp} : ∀ zs : List (List Nat), Reps K ρ H ((zs.map toS).map V.str) (zs.map D.str)
  | [] => .nil
  | z :: zs => .cons (.str z) (reps_strs zs)
theorem reps_ints {K : PySem.W.Frag} {ρ : List Addr} {H : Hp} : ∀ zs : List Int, Reps K ρ H (zs.map V.int) (zs.map D.int)
  | [] => .nil
  | z :: zs => .cons (.int z) (reps_ints zs)
section
variable {X : Cx} {K : PySem.W.Frag}
theorem b_sorted (hK : K = X.K) : CallR X (.builtin "sorted") (rOneL K (l1D .sorted)) := by
  subst hK
  intro pins s σ H xs us Q I r h
  obtain ⟨ρ, S, x, a, ds, rfl, hs, ra, hf, q⟩ := h
  cases a <;> first | (simp [l1D] at hf; done) | skip
  rename_i es
  obtain ⟨p, vs, rfl, t1, r1⟩ := ra.lst_inv
  simp only [l1D] at hf
  cases e1 : strsOf es with
  | some zs =>
    rw [e1] at hf
    simp only at hf
    split at hf
    · rename_i h64
      cases hf
      rw [strs_reps e1 r1] at t1
      refine cr_sortedS pins s σ H _ us Q I r ⟨p, zs.map toS, rfl, t1, by rw [List.length_map]; exact h64, fun ys b hp hso hn => ?_⟩
      rw [sorted_uniq hp hso]
      exact q.of hs (reps_strs _) b hn
    · cases hf
  | none =>
    rw [e1] at hf
    cases e2 : intsOf es with
    | none => rw [e2] at hf; cases hf
    | some zs =>
      rw [e2] at hf
      simp only at hf
      split at hf
      · rename_i h64
        cases hf
        rw [ints_reps e2 r1] at t1
        refine cr_sorted pins s σ H _ us Q I r ⟨p, zs, rfl, t1, h64, fun ys b hp hso hn => ?_⟩
        rw [sortedI_uniq hp hso]
        exact q.of hs (reps_ints _) b hn
      · cases hf
theorem vals_signs (x : Str) (acc : Array Value) (h : ItemsOf (SignAt x) acc x.cps.size) : Vals (sgn x) acc.toList := by
  refine vals_of_at ?_ fun j y u h1 h2 => ?_
  · rw [show acc.toList.length = acc.size from Array.length_toList, h.1]
    simp [sgn]
  · obtain ⟨c, t, e1, e2⟩ := h.2 j u (by rw [← Array.getElem?_toList]; exact h2)
    rw [sgn_get e1] at h1
    cases h1
    subst e2
    exact ⟨t, rfl⟩
theorem b_list (hK : K = X.K) (hc : X.calm = true) : CallR X (.type "list") (rOneL K (l1D .list)) := by
  subst hK
  intro pins s σ H xs us Q I r h
  obtain ⟨ρ, S, x, a, ds, rfl, hs, ra, hf, q⟩ := h
  cases a <;> first | (simp [l1D] at hf; done) | skip
  case tup es =>
    simp only [l1D, Option.some.injEq] at hf
    subst hf
    obtain ⟨p, vs, rfl, t1, r1⟩ := ra.tup_inv
    exact call_list_of pins s σ H _ us Q I r ⟨p, vs, rfl, .inr t1, q.of hs r1⟩
  case lst es =>
    simp only [l1D, Option.some.injEq] at hf
    subst hf
    obtain ⟨p, vs, rfl, t1, r1⟩ := ra.lst_inv
    exact call_list_of pins s σ H _ us Q I r ⟨p, vs, rfl, .inl t1, q.of hs r1⟩
  case str z =>
    simp only [l1D] at hf
    split at hf
    · rename_i hl
      cases hf
      have := ra.str_inv
      subst this
      obtain ⟨u, rfl, t, rfl⟩ := vals1 r
      have hsz : (toS z).cps.size ≤ sizeLine := by
        have := toS_len z
        show (toS z).length ≤ sizeLine
        rw [this]
        exact hl
      refine call_list_str (I.ok.hd hc) (toS z) t (fun h' tk acc c hk ho hi => ?_) hsz
      have hlen : (sgn (toS z)).length ≤ sizeLine := by
        rw [show (sgn (toS z)).length = (toS z).cps.size by simp [sgn]]
        exact hsz
      refine ⟨.ref s.heap.objs.size, upd H s.heap.objs.size (.lst (sgn (toS z))), I.laid (t' := tk) hk (Nat.le_refl _) ⟨hlen, acc.toList, c, vals_signs _ _ hi, ?_⟩, rfl, q.of hs (reps_signs z) _ (I.hok.fresh (Nat.le_refl _))⟩
      rw [Array.toArray_toList]
      exact ho
    · cases hf
end
section
variable {X : Cx} {p : Pm} {a b e : Expr} {pa pb : E} {pos : Pos}
theorem oneL_reading {f : D → Option (List D)} {σ : St} {H : Hp} {Q : VK} {ρ : List Addr} {σd : Env} {S : DS} (es : ES p.K p.own p.H0 ρ H σ σd) (hs : HS p.K ρ H S)
    (h : Ok ((evE p.cf pa σd >>= fun x => view x >>= fun x => ofO (f x)) S) (fun ds S' => ∀ a xs ρ' H', Step ρ H ρ' H' → HS p.K ρ' H' S' → H' a = some (.lst xs) → H a = none → a ∉ ρ' → Reps p.K ρ' H' xs ds → Q (.ref a) H') (XQ p σ ρ H)) :
    tE p pa σ H (fun x H1 => rOneL p.K f [x] H1 Q) := by
  refine seq1 es hs h fun vx x ρ1 H1 S1 st hs1 es1 rx _ h1 => ?_
  obtain ⟨x', rx', h2⟩ := view_ok hs1 rx h1
  obtain ⟨d, hd, hp⟩ := Ok.ofO.mp h2
  exact ⟨ρ1, S1, vx, x', d, rfl, hs1, rx', hd, tL_res (σ := σ) st hs1 hp⟩
theorem sl_l1B (f : Lf) {x id : Str} {bid : String} {pn : Pos} (hc : CallR X (.builtin bid) (rOneL p.K (l1D f))) (hg : Gl X x) (hm : X.mg x = none) (hv : bootBuiltins x = some (.builtin bid)) (ha : PE X a (tE p pa)) (hn : x ≠ "__name__") (hdb : (x == ("__debug__" : Str)) = false)
    (hst : starEach [a] X.env = (false, eval a X.env) :: starEach [] X.env) (hpl : (backTo pos (starEach [] X.env)).any (·.1) = false) : PE X (.Call (.Name x pn) [a] [] pos) (tL p (.l1 f pa)) :=
  PE.imp (pe_callB hc hg hm hv (pa_cons ha pa_nil hst) hn hdb hst hpl) fun σ H Q ⟨ρ, σd, S, es, hs, h⟩ => by
    rw [evL] at h
    exact oneL_reading es hs h
theorem sl_l1T (f : Lf) {x : Str} {T : String} {pn : Pos} (hc : CallR X (.type T) (rOneL p.K (l1D f))) (hg : Gl X x) (hm : X.mg x = none) (hv : bootBuiltins x = some (.type T)) (ha : PE X a (tE p pa)) (hn : x ≠ "__name__") (hdb : (x == ("__debug__" : Str)) = false)
    (hst : starEach [a] X.env = (false, eval a X.env) :: starEach [] X.env) (hpl : (backTo pos (starEach [] X.env)).any (·.1) = false) : PE X (.Call (.Name x pn) [a] [] pos) (tL p (.l1 f pa)) :=
  PE.imp (pe_callTy hc hg hm hv (pa_cons ha pa_nil hst) hn hdb hst hpl) fun σ H Q ⟨ρ, σd, S, es, hs, h⟩ => by
    rw [evL] at h
    exact oneL_reading es hs h
end
end MP
end
section
set_option Elab.async false
set_option linter.all false
set_option maxRecDepth 100000
set_option maxHeartbeats 4000000
/-! MPJ: calls of own defs, stores into lists, a def by its body. -/
namespace MP
open PySem PySem.Spec PyProof.Rows L2

def Es.len : Es → Nat
  | .nil => 0
  | .cons _ es => es.len + 1
theorem evEs_len (cf : CF) : ∀ (pes : Es) (σ : Env) (S : DS) (P : List D → DS → Prop) (XX : Exc → DS → Prop), Ok (evEs cf pes σ S) P XX → Ok (evEs cf pes σ S) (fun ds S' => P ds S' ∧ ds.length = pes.len) XX
  | .nil, σ, S, P, XX, h => by
    rw [evEs] at h ⊢
    exact ⟨h, rfl⟩
  | .cons e es, σ, S, P, XX, h => by
    rw [evEs] at h ⊢
    refine Ok.bind.mpr ((Ok.bind.mp h).mono (fun x S1 q => ?_) fun _ _ q => q)
    have q := Ok.bind.mp q
    refine Ok.bind.mpr ((evEs_len cf es σ S1 _ XX q).mono (fun xs S2 q2 => ?_) fun _ _ q => q)
    exact ⟨q2.1, by rw [List.length_cons, q2.2, Es.len]⟩
/-- what a def does, by its evaluator -/
def spG (K : PySem.W.Frag) (cf : CF) (f : Nat) (xcls : Nat → Option Value) (xname : Nat → Str) : Sp := fun vs H Q E => ∃ ρ ds S, HS K ρ H S ∧ Reps K ρ H vs ds ∧
  Ok (cf f ds S) (fun d S' => ∀ v ρ' H', Step ρ H ρ' H' → HS K ρ' H' S' → Rep K ρ' H' v d → Q v H') (fun x S' => ∀ ρ' H' cls dx, Step ρ H ρ' H' → HS K ρ' H' S' → XRepK K xcls xname ρ' H' x cls dx → E cls dx H')
section
variable {X : Cx} {p : Pm} {a b e : Expr} {es : List Expr} {pa pb pc : E} {pes : Es} {pos : Pos}
theorem call_reading {f : Nat} {dv : List D} {dvs : List V} (hdv : ∀ ρ H, Reps p.K ρ H dvs dv) {σ : St} {H : Hp} {Q : VK} (h : tE p (.call f pes dv) σ H Q) : tCallSD (spG p.K p.cf f p.xcls p.xname) dvs (WE p.W) (tEs p pes) σ H Q := by
  obtain ⟨ρ, σd, S, es, hs, h⟩ := h
  rw [evE] at h
  refine ⟨ρ, σd, S, es, hs, (Ok.bind.mp h).mono (fun ds S1 q vs ρ1 H1 st hs1 rs => ?_) fun _ _ q => q⟩
  exact ⟨ρ1, ds ++ dv, S1, hs1, rs.app (hdv _ _), Ok.mono q (fun d S2 q2 v ρ2 H2 st2 hs2 r => q2 v ρ2 H2 (st.trans st2) hs2 (.inl r) fun _ => r) fun x S2 q2 ρ2 H2 cls dx st2 hs2 xr => q2 ρ2 H2 cls dx (st.trans st2) hs2 xr⟩
theorem se_call (g : Good X p) {f k : Nat} {adr : Addr} {fd : FuncData} {ps : List Str} {x : Str} {pn : Pos} {dv : List D} {dvs : List V} {ds : List Value} (F : FnG X.prog X.w X.K X.mg X.base k adr fd ps (spG p.K p.cf f p.xcls p.xname)) (hr : Room k X.A) (hg : Gl X x) (hm : X.mg x = some (.ref adr)) (hk : PySem.W.keepIn X.K (.ref adr) = true)
    (hb : Binds X.K fd ps ds) (hd : Vals dvs ds) (hdv : ∀ ρ H, Reps p.K ρ H dvs dv) (ha : PA X (e :: es) (tEs p pes)) (hdb : (x == ("__debug__" : Str)) = false) (he : starEach (e :: es) X.env = (false, eval e X.env) :: starEach es X.env) (hpl : (backTo pos (starEach es X.env)).any (·.1) = false) :
    PE X (.Call (.Name x pn) (e :: es) [] pos) (tE p (.call f pes dv)) := PE.imp (pe_callG F g.gd hr hg hm hk hb hd g.tk ha hdb he hpl) fun σ H Q h => call_reading hdv h
theorem se_call0 (g : Good X p) {f k : Nat} {adr : Addr} {fd : FuncData} {ps : List Str} {x : Str} {pn : Pos} {dv : List D} {dvs : List V} {ds : List Value} (F : FnG X.prog X.w X.K X.mg X.base k adr fd ps (spG p.K p.cf f p.xcls p.xname)) (hr : Room k X.A) (hg : Gl X x) (hm : X.mg x = some (.ref adr)) (hk : PySem.W.keepIn X.K (.ref adr) = true)
    (hb : Binds X.K fd ps ds) (hd : Vals dvs ds) (hdv : ∀ ρ H, Reps p.K ρ H dvs dv) (hdb : (x == ("__debug__" : Str)) = false) :
    PE X (.Call (.Name x pn) [] [] pos) (tE p (.call f .nil dv)) := PE.imp (pe_callG0 F g.gd hr hg hm hk hb hd g.tk hdb) fun σ H Q h => by
  have h' := call_reading hdv h
  obtain ⟨ρ, σd, S, es, hs, h'⟩ := h'
  rw [evEs] at h'
  exact h' [] ρ H (.refl hs) hs .nil

/-! ### tests -/
theorem st_cmp (g : Good X p) (op : COp) (ha : PE X a (tE p pa)) (hb : PE X b (tE p pb)) (hm : behindInMarks (copOf op) b = false) : PT X (.Compare a [copOf op] [b] pos) (tT p (.cmp op pa pb)) :=
  PT.imp (pt_cmpR (op_cmp g.K g.un op) ha hb hm) fun σ H Q ⟨ρ, σd, S, es, hs, h⟩ => by
    unfold evB at h
    rw [evE] at h
    have h : Ok ((evE p.cf pa σd >>= fun x => evE p.cf pb σd >>= fun y => view x >>= fun x => view y >>= fun y => ofO (cmpD op x y) >>= fun r => (Pure.pure r : M Bool)) S) (fun b S' => ∀ ρ' H', Step ρ H ρ' H' → HS p.K ρ' H' S' → Q b H') (XQ p σ ρ H) := by
      refine Ok.bind.mpr ((Ok.bind.mp (Ok.bind.mp h)).mono (fun x S1 q => Ok.bind.mpr ((Ok.bind.mp q).mono (fun y S2 q => Ok.bind.mpr ((Ok.bind.mp q).mono (fun x' S3 q => Ok.bind.mpr ((Ok.bind.mp q).mono (fun y' S4 q => Ok.bind.mpr ((Ok.bind.mp q).mono (fun r S5 q => ?_) fun _ _ q => q)) fun _ _ q => q)) fun _ _ q => q)) fun _ _ q => q)) fun _ _ q => q)
      obtain ⟨t, ht, q⟩ := Ok.ofO.mp (Ok.pureE q)
      cases ht
      exact q
    refine seq2 es hs h fun vx vy x y ρ2 H2 S2 st hs2 es2 rx ry _ _ h2 => ?_
    obtain ⟨x', rx', h3⟩ := view_ok hs2 rx h2
    obtain ⟨y', ry', h4⟩ := view_ok hs2 ry h3
    obtain ⟨d, hd, hp⟩ := Ok.ofO.mp (Ok.bind.mp h4)
    exact ⟨ρ2, S2, x', y', d, hs2, rx', ry', hd, d, rfl, (Ok.pureE hp) ρ2 H2 st hs2⟩
theorem st_chain (g : Good X p) {c : Expr} (o1 o2 : COp) (ha : PE X a (tE p pa)) (hb : PE X b (tE p pb)) (hc : PE X c (tE p pc)) (hm : lastMarks [copOf o1, copOf o2] [b, c] = false) :
    PT X (.Compare a [copOf o1, copOf o2] [b, c] pos) (tT p (.chain o1 o2 pa pb pc)) :=
  PT.imp (pt_chain (op_cmp g.K g.un o1) (op_cmp g.K g.un o2) ha hb hc hm) fun σ H Q ⟨ρ, σd, S, es, hs, h⟩ => chain_reading o1 o2 ⟨ρ, σd, S, es, hs, (Ok.bind.mp h).mono (fun d S1 q v ρ1 H1 st hs1 r _ => by
    obtain ⟨t, ht, q⟩ := Ok.ofO.mp q
    cases d <;> first | (simp [asB] at ht; done) | skip
    simp only [asB, Option.some.injEq] at ht
    subst ht
    exact ⟨_, r.v.bl_inv, q ρ1 H1 st hs1⟩) fun _ _ q => q⟩

/-! ### a[i] = e -/
theorem st_setI {ot it ev : Expr} {tp : Pos} (hv : valE p.own pc = true) (ho : PE X ot (tE p pa)) (hi : PE X it (tE p pb)) (he : PE X ev (tE p pc)) (hs : swapsWithSole [.Subscript ot it tp] ev pos.line X.env = pure false) (hw : swappedStores [.Subscript ot it tp] ev X.env = pure none)
    (h1 : (assignEach [.Subscript ot it tp] X.env).map (·.2) = [assign (.Subscript ot it tp) X.env])
    (hasg : ∀ v, assign (.Subscript ot it tp) X.env v = (do
      let ov ← holding [v] (eval ot X.env)
      let iv ← holding [v, ov] (eval it X.env)
      standAt tp
      holding [v, ov, iv] (setItem ov iv v)
      release [v, ov, iv] [])) : PS X (.Assign [.Subscript ot it tp] ev pos) (tS p (.setI pa pb pc)) :=
  PS.imp (ps_asg he (pg_sub ho hi set_list hasg) hs hw h1) fun E σ H ⟨ρ, σd, S, XX, at', h⟩ => by
    rw [evS] at h
    refine seq1 at'.es at'.hs (fl_in at' h) fun vz z ρ1 H1 S1 st hs1 es1 rz rvz h1 => ?_
    refine seq2 es1 hs1 h1 fun vx vy x y ρ2 H2 S2 st2 hs2 es2 rx ry rvx rvy h2 => ?_
    have h2 := Ok.bind.mp h2
    unfold setM at h2
    obtain ⟨n, a', zs, ds, ea, er, e, eh, rs, h3⟩ := lstM_ok hs2 rx.v h2
    have hy : ∃ i, y = .int i := by cases y <;> first | exact h3.elim | exact ⟨_, rfl⟩
    obtain ⟨i, rfl⟩ := hy
    obtain ⟨j, hj, h4⟩ := Ok.ofO.mp (Ok.bind.mp h3)
    have rz2 := (rvz hv).step st2
    have h4' : Ok ((wrM n (ds.set j z) >>= fun u => (Pure.pure u : M Unit)) S2) _ _ := Ok.bind.mpr (Ok.mono h4 (fun _ _ q => q) fun _ _ q => q)
    obtain ⟨w1, w2, h5⟩ := wrM_ok hs2 er e (rs.set j rz2) h4'
    have q1 := (ixN_eq hj).1
    rw [← rs.length] at q1
    exact ⟨a', zs, i, j, ea, ry.v.int_inv, eh, q1, (Ok.pureE h5) σ ρ2 _ ((st.trans st2).trans w1).mo (at'.st.trans ((st.trans st2).trans w1)) (es2.step w1) w2⟩

/-! ### list(range(..)) -/
theorem rng_reps {K : PySem.W.Frag} {ρ : List Addr} {H : Hp} : ∀ (n : Nat) (lo : Int) (f : Nat → Int) , (∀ i, f i = lo + (i : Nat)) → Reps K ρ H ((List.range n).map fun i => V.int (f i)) (upto lo n)
  | 0, lo, f, hf => .nil
  | n + 1, lo, f, hf => by
    rw [List.range_succ_eq_map, List.map_cons, upto, List.map_map]
    refine .cons (by rw [hf]; simpa using Rep.int (K := K) (ρ := ρ) (H := H) lo) (rng_reps n (lo + 1) (fun i => f (i + 1)) fun i => ?_)
    rw [hf]
    omega
end
section
variable {X : Cx} {p : Pm} {a b e : Expr} {pa pb : E} {pos q : Pos}
theorem rgL_reading {x y : V} {dx dy : D} {ρ ρ1 : List Addr} {H H1 : Hp} {S1 : DS} {σ : St} {Q : VK} (st : Step ρ H ρ1 H1) (hs1 : HS p.K ρ1 H1 S1) (rx : RepB p.K ρ1 H1 x dx) (ry : RepB p.K ρ1 H1 y dy)
    (h : Ok ((match (generalizing := false) dx, dy with
    | .int i, .int j => if -(2 ^ 62) ≤ i ∧ i < 2 ^ 62 ∧ -(2 ^ 62) ≤ j ∧ j < 2 ^ 62 ∧ (j - i).toNat ≤ 2 ^ 24 then Pure.pure (upto i (j - i).toNat) else M.bad
    | _, _ => M.bad : M (List D)) S1) (fun ds S' => ∀ a xs ρ' H', Step ρ H ρ' H' → HS p.K ρ' H' S' → H' a = some (.lst xs) → H a = none → a ∉ ρ' → Reps p.K ρ' H' xs ds → Q (.ref a) H') (XQ p σ ρ1 H1)) :
    ∃ i j, x = .int i ∧ y = .int j ∧ RgOk i j ∧ ∀ q, H1 q = none → Q (.ref q) (upd H1 q (.lst (rgV i j))) := by
  have hx : ∃ i, dx = .int i := by cases dx <;> first | exact h.elim | exact ⟨_, rfl⟩
  obtain ⟨i, rfl⟩ := hx
  have hy : ∃ i, dy = .int i := by cases dy <;> first | exact h.elim | exact ⟨_, rfl⟩
  obtain ⟨j, rfl⟩ := hy
  have h : Ok ((if -(2 ^ 62) ≤ i ∧ i < 2 ^ 62 ∧ -(2 ^ 62) ≤ j ∧ j < 2 ^ 62 ∧ (j - i).toNat ≤ 2 ^ 24 then (Pure.pure (upto i (j - i).toNat) : M (List D)) else M.bad) S1) _ _ := h
  split at h
  · rename_i hb
    exact ⟨i, j, rx.v.int_inv, ry.v.int_inv, hb, (tL_res (σ := σ) st hs1 (Ok.pureE h)).of hs1 (rng_reps _ i (fun n => i + (n : Nat)) fun _ => rfl)⟩
  · exact h.elim
theorem sl_rng2 (g : Good X p) {pn pn2 : Pos} (hg : Gl X "list") (hm : X.mg "list" = none) (hg2 : Gl X "range") (hm2 : X.mg "range" = none) (ha : PE X a (tE p pa)) (hb : PE X b (tE p pb))
    (na : starEach [a, b] X.env = (false, eval a X.env) :: starEach [b] X.env) (nb : starEach [b] X.env = (false, eval b X.env) :: starEach [] X.env) (hp : (backTo q (starEach [b] X.env)).any (·.1) = false)
    (nr : starEach [.Call (.Name "range" pn2) [a, b] [] q] X.env = (false, eval (.Call (.Name "range" pn2) [a, b] [] q) X.env) :: starEach [] X.env) : PE X (.Call (.Name "list" pn) [.Call (.Name "range" pn2) [a, b] [] q] [] pos) (tL p (.rng pa pb)) :=
  PE.imp (pe_listRg g.calm hg hm (prg_2 hg2 hm2 ha hb na nb hp) nr) fun σ H Q ⟨ρ, σd, S, es, hs, h⟩ => by
    rw [evL] at h
    refine seq2 es hs h fun vx vy x y ρ1 H1 S1 st hs1 es1 rx ry rvx rvy h1 => ?_
    exact rgL_reading st hs1 rx ry h1
theorem sl_rng1 (g : Good X p) {pn pn2 : Pos} (hg : Gl X "list") (hm : X.mg "list" = none) (hg2 : Gl X "range") (hm2 : X.mg "range" = none) (hb : PE X b (tE p pb))
    (nb : starEach [b] X.env = (false, eval b X.env) :: starEach [] X.env)
    (nr : starEach [.Call (.Name "range" pn2) [b] [] q] X.env = (false, eval (.Call (.Name "range" pn2) [b] [] q) X.env) :: starEach [] X.env) : PE X (.Call (.Name "list" pn) [.Call (.Name "range" pn2) [b] [] q] [] pos) (tL p (.rng (.con (.int 0)) pb)) :=
  PE.imp (pe_listRg g.calm hg hm (prg_1 hg2 hm2 hb nb) nr) fun σ H Q ⟨ρ, σd, S, es, hs, h⟩ => by
    rw [evL] at h
    have h0 : Ok ((evE p.cf pb σd >>= fun y => match (D.int 0), y with
      | .int i, .int j => if -(2 ^ 62) ≤ i ∧ i < 2 ^ 62 ∧ -(2 ^ 62) ≤ j ∧ j < 2 ^ 62 ∧ (j - i).toNat ≤ 2 ^ 24 then (Pure.pure (upto i (j - i).toNat) : M (List D)) else M.bad
      | _, _ => M.bad) S) (fun ds S' => ∀ a xs ρ' H', Step ρ H ρ' H' → HS p.K ρ' H' S' → H' a = some (.lst xs) → H a = none → a ∉ ρ' → Reps p.K ρ' H' xs ds → Q (.ref a) H') (XQ p σ ρ H) := by
      rw [evE] at h
      exact h
    refine seq1 es hs h0 fun vy y ρ1 H1 S1 st hs1 es1 ry rvy h1 => ?_
    obtain ⟨i, j, ei, e2, ok, q⟩ := rgL_reading (x := .int 0) st hs1 (.inl (.int 0)) ry h1
    cases ei
    exact ⟨j, e2, ok, q⟩
end
end MP
end
section
set_option Elab.async false
set_option linter.all false
set_option maxRecDepth 100000
set_option maxHeartbeats 4000000
/-! MPK: the checker: does a text of the program read as a text of the small language? -/
namespace MP
open PySem PySem.Spec PyProof.Rows L2

/-! ### tables -/
/-- a def: its name, the defaults that may fill up a call -/
structure FT where
  x : Str
  dvs : List (List D)
/-- an own exception class: its name, its fields -/
structure XT where
  x : Str
  fids : List Nat
  deriving DecidableEq
structure Tbl where
  fns : List FT
  gls : List (Str × D)
  xcs : List XT := []
  fnm : List Str := []
/-- where a text stands -/
structure Cc where
  sc : Scope
  N : List Str
  own : List Bool
  bl : Option Scope
def Cc.fnOk (c : Cc) (x : Str) : Bool := match c.bl with
  | none => true
  | some s => s.names.lookup x == some .cell
def nmOk (x : Str) : Bool := !(x == ("__debug__" : Str)) && !(x == ("__classdict__" : Str)) && !(x == ("__name__" : Str))
def vis (sc : Scope) (x : Str) : Bool := sc.names.lookup x == some .local || sc.names.lookup x == some .cell || sc.names.lookup x == some .free
def loc (sc : Scope) (x : Str) : Bool := sc.names.lookup x == some .local || sc.names.lookup x == some .cell
def glo (sc : Scope) (x : Str) : Bool := sc.names.lookup x == some .globalImplicit && nmOk x
def bnames : List Str := ["len", "set", "int", "str", "repr", "tuple", "all", "any", "sum", "list", "sorted", "isinstance", "bool", "enumerate", "zip", "range", "ord", "max", "min", "dict", "abs", "reversed"]
def gblt (sc : Scope) (x : Str) : Bool := glo sc x && bnames.contains x
def isStar : Expr → Bool
  | .Starred _ _ => true
  | _ => false
def isSet : Expr → Bool
  | .Set _ _ _ => true
  | _ => false
def isCallE : Expr → Bool
  | .Call _ _ _ _ => true
  | _ => false
def plainI : Expr → Bool
  | .Slice _ _ _ _ => false
  | .Starred _ _ => false
  | .Tuple _ _ _ => false
  | _ => true
def isTst : Expr → Bool
  | .IfExp _ _ _ _ => false
  | _ => true
def isNop : E → Bool
  | .nop => true
  | _ => false
def conK : D → Const → Bool
  | .non, .none => true
  | .bl a, .bool b => a == b
  | .int a, .int b => a == b
  | .str a, .str b => b == toS a
  | _, _ => false
def bopOk : Operator → BOp → Bool := fun o b => decide (o = opOf b)
def b1N : B1 → Option Str
  | .len => some "len"
  | .int => some "int"
  | .str => some "str"
  | .repr => some "repr"
  | .tuple => some "tuple"
  | .all => some "all"
  | .any => some "any"
  | .sum => some "sum"
  | _ => none
def tyS : Ty → Str
  | .int => "int"
  | .bool => "bool"
  | .str => "str"
  | .tuple => "tuple"
  | .list => "list"
def l1N : Lf → Str
  | .list => "list"
  | .sorted => "sorted"
/-- name(args), no keywords -/
def asCall : Expr → Option (Str × List Expr)
  | .Call (.Name x _) es [] _ => some (x, es)
  | _ => none
/-- o.m(args), no keywords, on one line -/
def asMeth : Expr → Option (Expr × Str × List Expr)
  | .Call (.Attribute o m ap) es [] pos => if ap.endLine == pos.line && !isCallE o then some (o, m, es) else none
  | _ => none
def blkS (scope sc : Scope) : Scope := relS scope sc
def ownOf (N : List Str) (vs : List Nat) : List (Str × Nat) := vs.filterMap fun i => (N[i]?).map fun x => (x, i)
def blkOk (N : List Str) (sc scope : Scope) (vs : List Nat) : Bool :=
  decide (scope.kind = .function) && decide ((ownOf N vs).map (·.2) = vs) &&
  scope.names.all (fun y => decide (scope.names.lookup y.1 = some y.2)) &&
  scope.names.all (fun y => !decide (y.2 = .free) || decide (sc.names.lookup y.1 = some .cell) || decide (sc.names.lookup y.1 = some .free)) &&
  scope.names.all (fun y => !(decide (y.2 = .local) || decide (y.2 = .cell)) || ((ownOf N vs).map (·.1)).contains y.1 || !N.contains y.1)
mutual
def ckT (c : Cc) : Tg → Expr → Bool
  | .nm i, .Name x _ => c.N[i]? == some x && loc c.sc x && (c.fnOk x || c.sc.names.lookup x == some .local) && !ownAt c.own i
  | .tp ts, .Tuple es _ _ => ckTs c ts es
  | _, _ => false
def ckTs (c : Cc) : List Tg → List Expr → Bool
  | [], [] => true
  | t :: ts, e :: es => !isStar e && ckT c t e && ckTs c ts es
  | _, _ => false
end
def isTup : Expr → Bool
  | .Tuple _ _ _ => true
  | _ => false
def subs (as bs : List Nat) : Bool := as.all fun i => bs.contains i
mutual
def ckE (T : Tbl) : Cc → E → Expr → Bool
  | c, .var i, .Name x _ => c.N[i]? == some x && vis c.sc x && nmOk x
  | c, .con d, .Constant k _ _ => conK d k
  | c, .glob g d, .Name x _ => glo c.sc x && decide (T.gls[g]? = some (x, d))
  | c, .bin op a b, .BinOp l o r _ => bopOk o op && ckE T c a l && ckE T c b r
  | c, .neg a, .UnaryOp .USub x _ => ckE T c a x
  | c, .no a, .UnaryOp .Not x _ => isTst x && ckE T c a x
  | c, .and a b, .BoolOp .And (x :: y :: r) pos => isTst x && ckE T c a x && (match r with
    | [] => isTst y && ckE T c b y
    | _ :: _ => ckE T c b (.BoolOp .And (y :: r) pos))
  | c, .or a b, .BoolOp .Or (x :: y :: r) pos => isTst x && ckE T c a x && (match r with
    | [] => isTst y && ckE T c b y
    | _ :: _ => ckE T c b (.BoolOp .Or (y :: r) pos))
  | c, .cmp op a b, .Compare l [o] [r] _ => decide (o = copOf op) && !isSet r && ckE T c a l && ckE T c b r
  | c, .chain o1 o2 a b d, .Compare l [q1, q2] [m, r] _ => decide (q1 = copOf o1) && decide (q2 = copOf o2) && !isSet r && ckE T c a l && ckE T c b m && ckE T c d r
  | c, .ite t a b, .IfExp x y z _ => isTst x && ckE T c t x && ckE T c a y && ckE T c b z
  | c, .tup es, .Tuple xs _ _ => decide (xs.length ≤ line) && ckEs T c es xs
  | c, .fz l, e => ckL T c l e
  | c, .al l, e => ckL T c l e
  | c, .call f es dv, e => match asCall e with
    | some (x, xs) => glo c.sc x && (match T.fns[f]? with | some F => F.x == x && F.dvs.contains dv | none => false) && ckEs T c es xs
    | none => false
  | c, .b1 .lenset a, .Call (.Name x _) [.Call (.Name y _) [z] [] _] [] _ => x == ("len" : Str) && y == ("set" : Str) && gblt c.sc x && gblt c.sc y && !isStar z && ckE T c a z
  | c, .b1 f a, e => match asCall e, b1N f with
    | some (x, [y]), some x' => x == x' && gblt c.sc x && !isStar y && ckE T c a y
    | _, _ => false
  | c, .b2 .join a b, e => match asMeth e with
    | some (o, m, [y]) => m == ("join" : Str) && !isStar y && ckE T c a o && ckE T c b y
    | _ => false
  | c, .idx a i, .Subscript o s _ => plainI s && ckE T c a o && ckE T c i s
  | c, .sl a lo hi, .Subscript o (.Slice l h none _) _ => ckE T c a o &&
    (match l with | none => isNop lo | some x => !isNop lo && ckE T c lo x) && (match h with | none => isNop hi | some x => !isNop hi && ckE T c hi x)
  | c, .isin a t, e => match asCall e with
    | some (x, [y, .Name tx _]) => x == ("isinstance" : Str) && tx == tyS t && gblt c.sc x && gblt c.sc tx && !isStar y && ckE T c a y
    | _ => false
  | c, .pop a i, e => match asMeth e with
    | some (o, m, []) => m == ("pop" : Str) && isNop i && ckE T c a o
    | some (o, m, [y]) => m == ("pop" : Str) && !isStar y && !isNop i && ckE T c a o && ckE T c i y
    | _ => false
  | c, .app a b, e => match asMeth e with
    | some (o, m, [y]) => m == ("append" : Str) && !isStar y && valE c.own b && ckE T c a o && ckE T c b y
    | _ => false
  | c, .lindex a b, e => match asMeth e with
    | some (o, m, [y]) => m == ("index" : Str) && !isStar y && ckE T c a o && ckE T c b y
    | _ => false
  | _, _, _ => false
def ckEs (T : Tbl) : Cc → Es → List Expr → Bool
  | _, .nil, [] => true
  | c, .cons e es, x :: xs => !isStar x && valE c.own e && ckE T c e x && ckEs T c es xs
  | _, _, _ => false
def ckL (T : Tbl) : Cc → L → Expr → Bool
  | c, .disp es, .List xs _ => decide (xs.length ≤ line) && ckEs T c es xs
  | c, .comp vs el t s d, .ListComp x [⟨tg, it, ifs, 0⟩] scope _ => blkOk c.N c.sc scope vs && subs t.names vs && valE c.own el && !isSet it && ckSrc T c s it tg &&
    ckT ⟨blkS scope c.sc, c.N, c.own, some scope⟩ t tg && (match ifs with | [] => isNop d | [y] => isTst y && !isNop d && ckE T ⟨blkS scope c.sc, c.N, c.own, some scope⟩ d y | _ => false) && ckE T ⟨blkS scope c.sc, c.N, c.own, some scope⟩ el x
  | c, .comp2 vs vs2 el t s d t2 s2 d2, .ListComp x [⟨tg, it, ifs, 0⟩, ⟨tg2, it2, ifs2, 0⟩] scope _ => blkOk c.N c.sc scope vs && subs vs2 vs && vs.all (fun i => !ownAt c.own i) && subs t.names vs && subs t2.names vs2 && valE c.own el && !isSet it && !isSet it2 && ckSrc T c s it tg &&
    ckT ⟨blkS scope c.sc, c.N, c.own, some scope⟩ t tg && (match ifs with | [] => isNop d | [y] => isTst y && !isNop d && ckE T ⟨blkS scope c.sc, c.N, c.own, some scope⟩ d y | _ => false) &&
    ckSrc T ⟨blkS scope c.sc, c.N, c.own, some scope⟩ s2 it2 tg2 && ckT ⟨blkS scope c.sc, c.N, c.own, some scope⟩ t2 tg2 && (match ifs2 with | [] => isNop d2 | [y] => isTst y && !isNop d2 && ckE T ⟨blkS scope c.sc, c.N, c.own, some scope⟩ d2 y | _ => false) && ckE T ⟨blkS scope c.sc, c.N, c.own, some scope⟩ el x
  | c, .l1 f a, e => match asCall e with
    | some (x, [y]) => x == l1N f && gblt c.sc x && !isStar y && ckE T c a y
    | _ => false
  | c, .l2 .cat a b, .BinOp l .Add r _ => ckE T c a l && ckE T c b r
  | c, .l2 .rep a b, .BinOp l .Mult r _ => ckE T c a l && ckE T c b r
  | c, .split a b, e => match asMeth e with
    | some (o, m, [y]) => m == ("split" : Str) && !isStar y && ckE T c a o && ckE T c b y
    | _ => false
  | c, .sl a lo hi, .Subscript o (.Slice l h none _) _ => ckE T c a o &&
    (match l with | none => isNop lo | some x => !isNop lo && ckE T c lo x) && (match h with | none => isNop hi | some x => !isNop hi && ckE T c hi x)
  | c, .rng a b, .Call (.Name x _) [.Call (.Name y _) [u, v] [] _] [] _ => x == ("list" : Str) && y == ("range" : Str) && gblt c.sc x && gblt c.sc y && !isStar u && !isStar v && ckE T c a u && ckE T c b v
  | c, .rng (.con (.int 0)) b, .Call (.Name x _) [.Call (.Name y _) [v] [] _] [] _ => x == ("list" : Str) && y == ("range" : Str) && gblt c.sc x && gblt c.sc y && !isStar v && ckE T c b v
  | _, _, _ => false
def ckSrc (T : Tbl) : Cc → Src → Expr → Expr → Bool
  | c, .seq e, it, _ => valE c.own e && ckE T c e it
  | c, .enum e, it, tg => isTup tg && valE c.own e && (match asCall it with
    | some (x, [y]) => x == ("enumerate" : Str) && gblt c.sc x && !isStar y && ckE T c e y
    | _ => false)
  | c, .zip a b false, it, tg => isTup tg && valE c.own a && valE c.own b && (match asCall it with
    | some (x, [y, z]) => x == ("zip" : Str) && gblt c.sc x && !isStar y && !isStar z && ckE T c a y && ckE T c b z
    | _ => false)
  | c, .zip a b true, .Call (.Name x _) [y, z] [⟨some k, .Constant (.bool true) _ _, _⟩] _, tg => isTup tg && valE c.own a && valE c.own b && x == ("zip" : Str) && k == ("strict" : Str) && gblt c.sc x && !isStar y && !isStar z && ckE T c a y && ckE T c b z
  | c, .rng (.con (.int 0)) b, .Call (.Name x _) [y] [] _, _ => x == ("range" : Str) && gblt c.sc x && !isStar y && ckE T c b y
  | c, .rng a b, .Call (.Name x _) [y, z] [] _, _ => x == ("range" : Str) && gblt c.sc x && !isStar y && !isStar z && ckE T c a y && ckE T c b z
  | _, _, _, _ => false
end
end MP
end
section
set_option Elab.async false
set_option linter.all false
set_option maxRecDepth 100000
set_option maxHeartbeats 4000000
/-! MPEX: own exception classes over any built-in base whose __init__ calls the base's and stores its arguments. -/
namespace MP
section
open PySem PySem.W PySem.Calls PyProof.Rows PySem.HandSPX Builtin Builtin.ObjectAttr
variable {prog : Program} {w : World} {A : Around} {R : Result → Shared → Prop} {hp : Heap} {gs : Array GenState} {dr : Drawn} {tk0 : Nat} {os : OsState} {K : PySem.W.Frag} {nam : Str} {tk : Tok} {v : Value} {x C : Addr} {fv : Array Value} {cd : ClassData}
/-- the way of a store into an exception up to its own dict -/
theorem xst_way {dd : Option Addr} {od : Option Obj} (Y : K.In hp) (I : InstAt hp x { cls := .ref C, dict := dd, data := .fields fv } C od) (hcd : clsIn K C = some cd) (hpass : refuseLoop (.ref x) "__setattr__" cd.mro = pure ())
    (hob : cd.mro.contains (.type "object") = true) (hno : findIn K (.ref C) nam = some none)
    (hq : wpAny (model prog w) A.in1 (storeInOwnDict (.ref x) (.ref C) (.str nam tk) nam v false) (fun fin s' => match fin with | .done f => R (.ok f) s' | .again c' => c'.quiet = true ∧ codeAny (model prog w) A c' R s') (fun e s' => R (.error e) s') ⟨hp, gs, dr, tk0, os⟩) :
    codeAny (model prog w) A (.call (.builtin "object.__setattr__") ⟨[.ref x, .str nam tk, v], []⟩) R ⟨hp, gs, dr, tk0, os⟩ := by
  have F0 := PySem.F.store_object
  have hne : cd.mro.isEmpty = false := by
    cases e : cd.mro with
    | nil => rw [e] at hob; cases hob
    | cons a r => rfl
  have isO : Looks (model prog w) hp (isInstance (.ref x) (.type "object")) true :=
    I.type.andThen (looks_mroIn Y (by unfold mroIn; rw [hcd, Option.bind_some, if_neg (by rw [hne]; decide), hob]))
  refine codeAny_call_builtin F0.slot.plain F0.entry (check_slot (M := model prog w) (s := ⟨hp, gs, dr, tk0, os⟩) (i := "object.__setattr__") F0.kind F0.split isO (F0.args (.ref x) (.str nam tk) v) ?_)
  have hm : Looks (model prog w) hp (mroOf (.ref C)) cd.mro := (looks_clsIn Y hcd).andThen .now
  rw [osa_eq, refuse_eq]
  refine wpAny_bind (wpAny_bind (I.type.at (wpAny_bind (hm.at ?_))))
  rw [hpass]
  have L0 : Looks (model prog w) hp (storeTaker? none) none := .now
  exact wpAny_pure (wpAny_bind (I.type.at (wpAny_bind ((looks_findIn Y hno).at (wpAny_bind (L0.at hq))))))
theorem xst_first (Y : K.In hp) (hx : hp.get? x = some { cls := .ref C, data := .fields fv }) (hcd : clsIn K C = some cd) (hpass : refuseLoop (.ref x) "__setattr__" cd.mro = pure ()) (hob : cd.mro.contains (.type "object") = true) (hd : cd.hasDict = true)
    (hno : findIn K (.ref C) nam = some none)
    (hq : ∀ h1 t1 dx, (∀ b o, b ≠ x → hp.get? b = some o → h1.get? b = some o) → hp.objs.size ≤ dx → dx ≠ x → h1.get? x = some { cls := .ref C, dict := some dx, data := .fields fv } → h1.Ns1 dx (fun y => if y = nam then some v else none) →
      R (.ok (.ret .none)) ⟨h1, gs, dr, t1, os⟩) :
    codeAny (model prog w) A (.call (.builtin "object.__setattr__") ⟨[.ref x, .str nam tk, v], []⟩) R ⟨hp, gs, dr, tk0, os⟩ := by
  refine xst_way (od := none) Y ⟨hx, rfl, rfl, trivial⟩ hcd hpass hob hno ?_
  have hc2 : Looks (model prog w) hp (classData C) cd := looks_clsIn Y hcd
  have xne : x ≠ hp.objs.size := Nat.ne_of_lt (Heap.lt_size hx)
  obtain ⟨c1, c2, c3, c4, c5, c6, c7, c8, c9, c10, c11⟩ := cd
  obtain rfl : c6 = true := hd
  unfold storeInOwnDict ownDictForStores
  repeat (first | with_reducible refine store_in_new ?_ ?_ | with_reducible refine wpAny_loadPart_at hx ?_ | with_reducible refine hc2.at ?_ | wp_step)
  · exact ⟨_, #[], _, (Heap.get?_update_ne _ _ _ _ xne.symm).trans (Heap.get?_push_at rfl rfl), rfl, fun e he => absurd he (by simp), fun _ => rfl⟩
  · intro h1 t1 n1 same
    have hx1 : (hp.push { cls := .type "dict", data := .dict #[] }).get? x = some { cls := .ref C, data := .fields fv } := Heap.get?_push_of_some _ hx
    exact hq h1 t1 hp.objs.size (fun b o hb ho => (same.2 b (Nat.ne_of_lt (Heap.lt_size ho))).trans ((Heap.get?_update_ne _ _ _ _ hb).trans (Heap.get?_push_of_some _ ho))) (Nat.le_refl _) xne.symm
      ((same.2 x xne).trans (Heap.get?_update_self _ hx1 rfl)) n1
theorem xst_more {dx : Addr} {m0 : Str → Option Value} {nl : List Str} (Y : K.In hp) (hx : hp.get? x = some { cls := .ref C, dict := some dx, data := .fields fv }) (hn : hp.Ns1 dx m0) (hw : Within m0 nl) (hz : nl.length ≤ 1000) (hcd : clsIn K C = some cd)
    (hpass : refuseLoop (.ref x) "__setattr__" cd.mro = pure ()) (hob : cd.mro.contains (.type "object") = true) (hd : cd.hasDict = true) (hno : findIn K (.ref C) nam = some none)
    (hq : ∀ h1 t1, (∀ b o, b ≠ dx → hp.get? b = some o → h1.get? b = some o) → h1.Ns1 dx (fun y => if y = nam then some v else m0 y) → R (.ok (.ret .none)) ⟨h1, gs, dr, t1, os⟩) :
    codeAny (model prog w) A (.call (.builtin "object.__setattr__") ⟨[.ref x, .str nam tk, v], []⟩) R ⟨hp, gs, dr, tk0, os⟩ := by
  obtain ⟨oD, _, _, eD, _, _⟩ := hn.count hw
  refine xst_way (od := some oD) Y ⟨hx, rfl, rfl, eD⟩ hcd hpass hob hno ?_
  have hc2 : Looks (model prog w) hp (classData C) cd := looks_clsIn Y hcd
  obtain ⟨c1, c2, c3, c4, c5, c6, c7, c8, c9, c10, c11⟩ := cd
  obtain rfl : c6 = true := hd
  unfold storeInOwnDict ownDictForStores
  repeat (first | with_reducible refine PySem.OEX.store_in_old hn hw hz ?_ | with_reducible refine wpAny_loadPart_at hx ?_ | with_reducible refine hc2.at ?_ | wp_step)
  intro h1 t1 n1 same
  exact hq h1 t1 (fun b o hb ho => (same.2 b hb).trans ho) n1
end
open PySem PySem.Spec PyProof.Rows L2
/-- a built-in exception's class -/
structure BaseF (B newId initId : String) (bmB : List Value) : Prop where
  base : ExcBaseFacts B newId initId bmB
  st : PySem.StoreFacts B bmB "object.__setattr__" "object"
  obj : bmB.contains (.type "object") = true
  typ : typeOf (.type B) = pure (.type "type")
  boot : bootBuiltins (Str.ofString B) = some (.type B)
  stub : Manifest.isStub B = false
  nn : Str.ofString B ≠ "__name__"
  dbg : (Str.ofString B == ("__debug__" : Str)) = false
  ini : ∀ K : PySem.W.Frag, PySem.W.findCls K (.type B) (.type "type") "__init__" = some (.val (.builtin initId))
  hand : PySem.W.handedIn (.builtin initId) = true
theorem bf_Value : BaseF "ValueError" "ValueError.__new__" "ValueError.__init__" [.type "ValueError", .type "Exception", .type "BaseException", .type "object"] :=
  ⟨PySem.F.excBase_ValueError, PySem.F.store_ValueError, by decide +kernel, by kernel_rfl, PyProof.Rows.Boot.«ValueError», by decide +kernel, by decide +kernel, by decide +kernel, fun K => by kernel_rfl, by decide +kernel⟩
theorem bf_Lookup : BaseF "LookupError" "LookupError.__new__" "LookupError.__init__" [.type "LookupError", .type "Exception", .type "BaseException", .type "object"] :=
  ⟨PySem.F.excBase_LookupError, PySem.F.store_LookupError, by decide +kernel, by kernel_rfl, PyProof.Rows.Boot.«LookupError», by decide +kernel, by decide +kernel, by decide +kernel, fun K => by kernel_rfl, by decide +kernel⟩
theorem bf_Runtime : BaseF "RuntimeError" "RuntimeError.__new__" "RuntimeError.__init__" [.type "RuntimeError", .type "Exception", .type "BaseException", .type "object"] :=
  ⟨PySem.F.excBase_RuntimeError, PySem.F.store_RuntimeError, by decide +kernel, by kernel_rfl, PyProof.Rows.Boot.«RuntimeError», by decide +kernel, by decide +kernel, by decide +kernel, fun K => by kernel_rfl, by decide +kernel⟩
theorem bf_Overflow : BaseF "OverflowError" "OverflowError.__new__" "OverflowError.__init__" [.type "OverflowError", .type "ArithmeticError", .type "Exception", .type "BaseException", .type "object"] :=
  ⟨PySem.F.excBase_OverflowError, PySem.F.store_OverflowError, by decide +kernel, by kernel_rfl, PyProof.Rows.Boot.«OverflowError», by decide +kernel, by decide +kernel, by decide +kernel, fun K => by kernel_rfl, by decide +kernel⟩
/-- what the written part says of an exception's class over the built-in B -/
structure XcB (K : PySem.W.Frag) (C : Addr) (B newId initId : String) (bmB : List Value) : Prop where
  bf : BaseF B newId initId bmB
  cls : ∃ nm q N bs bm sn sub ab col dd k0 k1 k2 k3 k5, K.lookup C = some (excClassObj nm q C N bs bm true sn sub ab col dd k0 k1 k2 k3 k5 newId) ∧ PySem.W.excTail bmB bm = true
  sa : PySem.W.findIn K (.ref C) "__setattr__" = some (some (.builtin "object.__setattr__"))
  exC : PySem.W.subIn K (.ref C) (.type "BaseException") = some true
  tyC : PySem.W.typeIn K (.ref C) = some (.type "type")
  kC : PySem.W.keepIn K (.ref C) = true
section
variable {X : Cx} {pins : List (Addr × Obj)} {σ : L2.St} {H : Hp} {s : Shared} {a C dx : Addr} {f : Str} {y : V} {u : Value} {fs : List (Str × V)} {Q : Unit → Shared → Prop} {E : Value → Shared → Prop} {A : Around} {B newId initId : String} {bmB : List Value}
theorem XcB.cd (T : XcB X.K C B newId initId bmB) : ∃ cd bm, PySem.W.clsIn X.K C = some cd ∧ cd.mro = .ref C :: bm ∧ PySem.W.excTail bmB (.ref C :: bm) = true ∧ cd.hasDict = true ∧ (∀ self, refuseLoop self "__setattr__" cd.mro = pure ()) ∧ cd.mro.contains (.type "object") = true := by
  obtain ⟨nm, q, N, bs, bm, sn, sub, ab, col, dd, k0, k1, k2, k3, k5, e, ht⟩ := T.cls
  have ht2 : PySem.W.excTail bmB (.ref C :: bm) = true := ht
  refine ⟨{ name := nm, bases := bs, mro := .ref C :: bm, ns := N, qualname := q, hasDict := true, slotNames := sn, subclasses := sub, abstract := ab, collection := col, hasDel := false }, bm, ?_, rfl, ht2, rfl, fun self => PySem.W.excTail_pass self (T.bf.st.passes self) _ ht2, ?_⟩
  · unfold PySem.W.clsIn
    rw [e]
  · exact (PySem.W.excTail_contains "object" _ ht2).trans T.bf.obj
/-- self.f = y at a fresh exception -/
theorem xinv_first (T : XcB X.K C B newId initId bmB) (I : Inv X pins σ H s) (e : H a = some (exo a C none)) (hno : PySem.W.findIn X.K (.ref C) f = some none) (ry : RelV y u)
    (h : ∀ dx s', H dx = none → dx ≠ a → Inv X pins σ (upd (upd H dx (exd dx [(f, y)])) a (exo a C (some dx))) s' → Q () s') : wpAny (model X.prog X.w) A (setAttr (.ref a) f u) Q E s := by
  obtain ⟨cd, bm, hcd, _, _, hdd, hps, hob⟩ := T.cd
  obtain ⟨t1, ho⟩ := exo_at I.hok e
  obtain ⟨hp, g, d, t, os⟩ := s
  refine PySem.W.set_plain I.kIn (ox := { cls := .ref C, data := .fields #[.ref t1, .none, .none, .none, .bool false, .none] }) (od := none) ⟨ho, rfl, rfl, trivial⟩ T.sa (xst_first I.kIn ho hcd (hps _) hob hdd hno fun h1 t2 dx kp big ne hx hn => ?_)
  have free : H dx = none := I.hok.fresh big
  have old : ∀ {b : Addr} {o : Obj}, hp.get? b = some o → b ≠ dx := fun q => Nat.ne_of_lt (Nat.lt_of_lt_of_le (Heap.lt_size q) big)
  have off : ∀ {b : Addr}, H b = none → b ≠ a := fun {b} n z => by rw [z, e] at n; cases n
  have U : Un X.fs [] H (upd (upd H dx (exd dx [(f, y)])) a (exo a C (some dx))) hp h1 :=
    ⟨fun b o q n _ _ => kp b o (off n) q, fun b o q n _ _ => ⟨o.slots, kp b o (off n) q⟩, fun b o q n _ => by rw [upd_ne (off n), upd_ne (old q), n],
      fun b o q _ => by
        by_cases z : b = a
        · subst z
          exact ⟨_, hx⟩
        · exact ⟨o, kp b o z q⟩,
      fun b xs q => by rw [upd_ne (at_ne e q exo_tup), upd_ne (ne_of_none q free), q], fun b o v q => by rw [upd_ne (at_ne e q exo_frz), upd_ne (ne_of_none q free), q],
      fun b ps q => ⟨#[], by rw [upd_ne (at_ne e q exo_tbl), upd_ne (ne_of_none q free), q]; simp⟩⟩
  refine h dx _ free ne (I.un (t' := t2) U fun b o q => ?_)
  by_cases za : b = a
  · subst za
    rw [upd_same] at q
    cases q
    exact exo_ok hx
  rw [upd_ne za] at q
  by_cases zd : b = dx
  · subst zd
    rw [upd_same] at q
    cases q
    exact exd_ok hn (relO_put (fs := []) ry fun _ => trivial)
  rw [upd_ne zd] at q
  refine (I.hok b o q).stay (fun c v hc z => kp c v ?_ z) (fun c hc => ?_) fun c xs hc => ?_
  · rcases hc with rfl | hc
    · exact za
    · exact at_ne e hc exo_own
  · rw [upd_ne (at_ne e hc exo_own), upd_ne (ne_of_none hc free), hc]
  · rw [upd_ne (at_ne e hc exo_tup), upd_ne (ne_of_none hc free), hc]
/-- .. at one that has its dict -/
theorem xinv_more (T : XcB X.K C B newId initId bmB) (I : Inv X pins σ H s) (e : H a = some (exo a C (some dx))) (ed : H dx = some (exd dx fs)) (hl : fs.length ≤ 900) (hno : PySem.W.findIn X.K (.ref C) f = some none) (ry : RelV y u)
    (h : ∀ s', Inv X pins σ (upd H dx (exd dx ((f, y) :: fs))) s' → Q () s') : wpAny (model X.prog X.w) A (setAttr (.ref a) f u) Q E s := by
  obtain ⟨cd, bm, hcd, _, _, hdd, hps, hob⟩ := T.cd
  obtain ⟨t1, ho⟩ := exo_at I.hok e
  obtain ⟨mA, hns, rel⟩ := exd_at I.hok ed
  obtain ⟨hp, g, d, t, os⟩ := s
  obtain ⟨oD, _, _, eD, _, _⟩ := hns.count (within_of rel)
  refine PySem.W.set_plain I.kIn (ox := { cls := .ref C, dict := some dx, data := .fields #[.ref t1, .none, .none, .none, .bool false, .none] }) (od := some oD) ⟨ho, rfl, rfl, eD⟩ T.sa
    (xst_more I.kIn ho hns (within_of rel) (by rw [List.length_map]; omega) hcd (hps _) hob hdd hno fun h1 t2 kp hn => ?_)
  have there : ∃ o, h1.get? dx = some o := by
    obtain ⟨o, _, _, q, _⟩ := hn
    exact ⟨o, q⟩
  exact h _ (I.write (t' := t2) (x := dx) (e := dx) (o := exd dx ((f, y) :: fs)) (by rw [ed]; trivial) (.inl rfl) kp there (exd_ok hn (relO_put ry rel)))
/-- B.__init__(self, ..) -/
theorem xinv_init {us : List Value} {Q : Value → Shared → Prop} (T : XcB X.K C B newId initId bmB) (I : Inv X pins σ H s) (e : H a = some (exo a C none)) (hl : us.length ≤ sizeLine) (h : ∀ s', Inv X pins σ H s' → Q .none s') :
    wpAny (model X.prog X.w) A (call (.builtin initId) (.ref a :: us)) Q E s := by
  obtain ⟨nm, q, N, bs, bm, sn, sub, ab, col, dd, k0, k1, k2, k3, k5, hC, ht⟩ := T.cls
  obtain ⟨t1, ho⟩ := exo_at I.hok e
  obtain ⟨hp, g, d, t, os⟩ := s
  refine wpAny_call (PySem.HandSPX.init_base T.bf.base (fun Y => PySem.W.excTail_contains Y bm ht) (I.kIn _ _ hC) ho hl fun h1 t2 kp hx => ?_)
  have same : upd H a (exo a C none) = H := funext fun b => (Classical.em (b = a)).elim (fun z => by rw [z, upd_same, e]) fun z => upd_ne z
  have J := I.write (t' := t) (x := a) (e := a) (o := exo a C none) (by rw [e]; trivial) (.inl rfl) kp ⟨_, hx⟩ (exo_ok hx)
  rw [same] at J
  exact h _ J
end
/-! ### readings and rules -/
/-- B.__init__(self, ..) -/
def tXin (K : PySem.W.Frag) (B newId initId : String) (bmB : List Value) (ta : TA) : TE := fun σ H Q => ta σ H fun vs H1 => ∃ (a C : Addr) (ws : List V), vs = .ref a :: ws ∧ ws.length ≤ 1000 ∧ XcB K C B newId initId bmB ∧ H1 a = some (exo a C none) ∧ Q .non H1
/-- self.f = e -/
def tXst (K : PySem.W.Frag) (f : Str) (to te : TE) : TS := fun D σ H => te σ H fun y H1 => to σ H1 fun x H2 => ∃ (a C : Addr) (B newId initId : String) (bmB : List Value), x = .ref a ∧ XcB K C B newId initId bmB ∧ PySem.W.findIn K (.ref C) f = some none ∧
  ((H2 a = some (exo a C none) ∧ ∀ dx, H2 dx = none → dx ≠ a → D.nx σ (upd (upd H2 dx (exd dx [(f, y)])) a (exo a C (some dx)))) ∨
    ∃ (dx : Addr) (fs : List (Str × V)), H2 a = some (exo a C (some dx)) ∧ H2 dx = some (exd dx fs) ∧ fs.length ≤ 900 ∧ D.nx σ (upd H2 dx (exd dx ((f, y) :: fs))))
section
variable {X : Cx} {o e : Expr} {es : List Expr} {to te : TE} {ta : TA} {f : Str} {p p' p1 p2 pos : Pos} {B newId initId : String} {bmB : List Value}
theorem pe_xinit {pl : Sem Bool} (bf : BaseF B newId initId bmB) (hg : Gl X (Str.ofString B)) (hm : X.mg (Str.ofString B) = none) (ha : PA X (e :: es) ta)
    (hc : eval (.Call (.Attribute (.Name (Str.ofString B) p1) "__init__" p2) (e :: es) [] pos) X.env = (do
      let ov ← eval (.Name (Str.ofString B) p1) X.env
      standAt p2.atName
      let (f, first) ← holding [ov] (getMethod ov "__init__" pl)
      callWith pos f first (backTo pos (starEach (e :: es) X.env)) (backToKw pos (keywordEach [] X.env))))
    (he : starEach (e :: es) X.env = (false, eval e X.env) :: starEach es X.env) (hpl : (backTo pos (starEach es X.env)).any (·.1) = false) :
    PE X (.Call (.Attribute (.Name (Str.ofString B) p1) "__init__" p2) (e :: es) [] pos) (tXin X.K B newId initId bmB ta) := by
  refine ⟨fun pins s σ H Q I h => ?_⟩
  refine PySem.W.methodCall_KW (ld_blt I hg hm bf.boot ?_ bf.nn bf.dbg) hc
  obtain ⟨m, fr⟩ := I.fr
  refine PySem.W.method_type fr I.ok.mod.kin bf.typ bf.stub (bf.ini _) bf.hand ?_
  refine PyProof.Rows.callWith_method1 (pos := pos) (thn (ha.run pos pins _ σ H _ (I.tok _) h) fun us s1 ⟨vs, H1, I1, r1, a, C, ws, ev, hl, T, ea, q⟩ => ?_) he hpl
  subst ev
  cases r1 with
  | @cons _ u0 _ ur ra rw' =>
    obtain rfl : u0 = Value.ref a := ra
    refine xinv_init T I1 ea ?_ fun s' J => ⟨.non, H1, J, rfl, q⟩
    rw [← Paired.length rw', sizeLine_eq]
    omega
theorem ps_xst (ho : PE X o to) (he : PE X e te) (hs : swapsWith e (some (.Attribute o f p')) pos.line X.env = pure false) : PS X (.Assign [.Attribute o f p'] e pos) (tXst X.K f to te) := by
  refine ⟨fun pins s σ H D I h => plainObj_wpAny_Assign_Attribute (thn (he.run pins s σ H _ I h) fun v s1 ⟨y, H1, I1, r1, q1⟩ => thn (ho.run pins s1 σ H1 _ I1 q1) fun u s2 ⟨x, H2, I2, r2, a, C, B, ni, ii, bm, ex, T, hno, q⟩ => ?_) hs⟩
  subst ex
  obtain rfl : u = Value.ref a := r2
  rcases q with ⟨ea, q⟩ | ⟨dx, fs, ea, ed, hl, q⟩
  · exact xinv_first T I2 ea hno r1 fun dx s' n ne J => ⟨σ, _, J, q dx n ne⟩
  · exact xinv_more T I2 ea ed hl hno r1 fun s' J => ⟨σ, _, J, q⟩
/-- C(e, ..), C's own __init__ keeping sp -/
theorem pmk_x {CX : CXT} {x : Str} {C fI : Addr} {k : Nat} {fd : FuncData} {ps : List Str} {sp : Sp} {ds : List Value} {dvs : List V} (T : XcB X.K C B newId initId bmB) (iC : PySem.W.findIn X.K (.ref C) "__init__" = some (some (.ref fI))) (tI : PySem.W.typeIn X.K (.ref fI) = some (.type "function"))
    (F1 : FnOk X.prog X.w X.K X.mg X.base CX k fI fd ps sp) (hr : Room (k + 1) X.A) (hb : Binds X.K fd ps ds) (hd : Vals dvs ds) (hx : Passes CX X (fun _ _ _ => False)) (hg : Gl X x) (hm : X.mg x = some (.ref C)) (ha : PA X (e :: es) ta)
    (hdb : (x == ("__debug__" : Str)) = false) (he : starEach (e :: es) X.env = (false, eval e X.env) :: starEach es X.env) (hpl : (backTo pos (starEach es X.env)).any (·.1) = false) :
    PMk X (.Call (.Name x p) (e :: es) [] pos) (tMkO C sp dvs ta) := by
  intro pins s σ H Q I h
  obtain ⟨nm, q, N, bs, bm, sn, sub, ab, col, dd, k0, k1, k2, k3, k5, hC, ht⟩ := T.cls
  refine wpAny_Call_Name_kw (ld_glob I hg hm ?_ hdb)
  refine PySem.W.callWith_K (h₀ := X.base) I.ok.mod.kin T.kC (thn (ha.run pos pins s σ H _ I h) fun us s1 ⟨vs, H1, I1, r1, hz, q1⟩ => ⟨I1.kIn, ?_⟩) he hpl
  show wpAny _ _ (call (.ref C) us) _ _ _
  obtain ⟨hp, g, dr, tk, os⟩ := s1
  -- the new exception stands behind the tuple of its arguments
  have big : hp.objs.size ≤ hp.objs.size + 1 := Nat.le_succ _
  have q2 := q1 (hp.objs.size + 1) (I1.hok.fresh big)
  have kp : ∀ b o, hp.get? b = some o → ((hp.push (PySem.W.kdv_tup us)).push (PySem.HandSPX.excO C hp.objs.size)).get? b = some o := fun b o z => Heap.get?_push_of_some _ (Heap.get?_push_of_some _ z)
  have at0 : ((hp.push (PySem.W.kdv_tup us)).push (PySem.HandSPX.excO C hp.objs.size)).get? (hp.objs.size + 1) = some (PySem.HandSPX.excO C hp.objs.size) := by heap_get
  have I2 : Inv X pins σ (upd H1 (hp.objs.size + 1) (exo (hp.objs.size + 1) C none)) ⟨(hp.push (PySem.W.kdv_tup us)).push (PySem.HandSPX.excO C hp.objs.size), g, dr, tk, os⟩ := I1.laid (t' := tk) kp big (exo_ok at0)
  have r2 : Vals (V.ref (hp.objs.size + 1) :: (vs ++ dvs)) (Value.ref (hp.objs.size + 1) :: (us ++ ds)) := .cons rfl (r1.append hd)
  have len2 : (Value.ref (hp.objs.size + 1) :: us ++ ds).length = ps.length := r2.length.symm.trans (F1.len _ _ _ _ q2)
  have lenu : us.length ≤ sizeLine := by
    rw [← Paired.length r1, sizeLine_eq]
    omega
  refine wpAny_call (PySem.HandSPX.call_own T.bf.base (fun Y => PySem.W.excTail_contains Y bm ht) (I1.kIn _ _ hC) (PySem.W.looks_findIn I1.kIn iC) (fun self => PySem.W.bind_fn I1.kIn self tI) lenu ?_)
  refine codeAny_mono (F1.run _ X.stack _ _ ⟨Value.ref (hp.objs.size + 1) :: us, []⟩ (Value.ref (hp.objs.size + 1) :: (us ++ ds)) _ _ (fun _ _ _ => False) (hr.make C us []) (I2.env0.make C us []) (hb _ (Value.ref (hp.objs.size + 1) :: us) I2.kIn len2) r2 q2) fun r s2 z => ?_
  cases r with
  | error er => exact hx pins σ _ _ er s2 I2 z
  | ok fl =>
    cases fl with
    | ret u =>
      obtain ⟨v, H2, os2, bare2, un2, hok2, rv, ev, d, fs, ea, ed, hd1, q3⟩ := z
      subst ev
      obtain ⟨h2, g2, d2, t2, os'⟩ := s2
      exact ⟨rv, mk_end (raises_own T.exC T.tyC) I1 big kp un2 hok2 os2 bare2 ea ed hd1 q3⟩
    | next => exact z.elim
    | brk => exact z.elim
    | cont => exact z.elim
end
end MP
end
section
set_option Elab.async false
set_option linter.all false
set_option maxRecDepth 100000
set_option maxHeartbeats 4000000
/-! MPEI: the __init__ of an own exception class. -/
namespace MP
open PySem PySem.Spec PyProof.Rows L2
/-- what an own exception's __init__ promises: its fields stand in its dict -/
def spX (C : Addr) (fs : List Str) : Sp := fun vs H Q _ => ∃ (a : Addr) (us : List V), vs = .ref a :: us ∧ us.length = fs.length ∧ H a = some (exo a C none) ∧
  ∀ d H2, H d = none → d ≠ a → H2 a = some (exo a C (some d)) → H2 d = some (exd d (fs.zip us).reverse) → (∀ b, b ≠ a → b ≠ d → H2 b = H b) → Q .non H2
def initCall (B : Str) : Stmt → Bool
  | .Expr (.Call (.Attribute (.Name b _) i ap) [.Name s _, .Constant (.str _) _ _] [] pos) _ => ap.endLine == pos.line && b == B && i == ("__init__" : Str) && s == ("self" : Str)
  | _ => false
def initSt (f : Str) : Stmt → Bool
  | .Assign [.Attribute (.Name s _) g _] (.Name h _) _ => s == ("self" : Str) && g == f && h == f
  | _ => false
def initFs : List Str → List Stmt → Bool
  | [], [] => true
  | f :: fs, s :: ss => initSt f s && initFs fs ss
  | _, _ => false
def ckInit (B : Str) (fs : List Str) (sc : Scope) (body : List Stmt) : Bool := scOkX ("self" :: fs) sc && (sc.names.lookup B == some .globalImplicit) && (match body with
  | s :: ss => initCall B s && initFs fs ss
  | _ => false)
where scOkX (N : List Str) (sc : Scope) : Bool := decide (sc.kind = .function) && !sc.isCoroutine && !sc.isGenerator && decide N.Nodup && N.all (fun x => sc.names.lookup x == some .local) && (sc.names.all fun y => !decide (y.2 = .free)) &&
  N.all fun x => !(x == ("__debug__" : Str)) && !(x == ("__classdict__" : Str))
section
variable {X : Cx} {C : Addr} {B newId initId : String} {bmB : List Value}
theorem sw_name {e : Expr} {x : Str} {pn : Pos} (env : PySem.Env) (tg : Option Expr) (line : Nat) : swapsWith (.Name x pn) tg line env = pure false := rfl
theorem init_ev (env : PySem.Env) (b : Str) (p1 p2 p3 p4 pos : Pos) (m : Str) (j : Nat) (hl : (p2.endLine == pos.line) = true) : eval (.Call (.Attribute (.Name b p1) "__init__" p2) [.Name "self" p3, .Constant (.str m) j p4] [] pos) env = (do
      let ov ← eval (.Name b p1) env
      standAt p2.atName
      let (f, first) ← holding [ov] (getMethod ov "__init__" (do return (← importBound (.Name b p1) env).getD true))
      callWith pos f first (backTo pos (starEach [.Name "self" p3, .Constant (.str m) j p4] env)) (backToKw pos (keywordEach [] env))) := by
  have key : methodCallPos true (.Name b p1) env p2 pos = pure pos := by
    unfold methodCallPos
    rw [hl]
    rfl
  have e : eval (.Call (.Attribute (.Name b p1) "__init__" p2) [.Name "self" p3, .Constant (.str m) j p4] [] pos) env = (do
      let ov ← eval (.Name b p1) env
      standAt p2.atName
      let (f, first) ← holding [ov] (calleeOf true (.Name b p1) env ov "__init__")
      let callPos ← methodCallPos true (.Name b p1) env p2 pos
      callWith callPos f first (backTo pos (starEach [.Name "self" p3, .Constant (.str m) j p4] env)) (backToKw pos (keywordEach [] env))) := rfl
  rw [e, key]
  rfl
/-- B.__init__(self, ".."), as a statement -/
theorem ps_initCall (bf : BaseF B newId initId bmB) (T : XcB X.K C B newId initId bmB) {s : Stmt} (hs : initCall (Str.ofString B) s = true) (hg : Gl X (Str.ofString B)) (hm : X.mg (Str.ofString B) = none) (h0 : X.N[0]? = some ("self" : Str)) (hv : Vis X.env.scope "self") :
    PS X s (fun D σ H => ∃ a, σ[0]? = some (some (.ref a)) ∧ H a = some (exo a C none) ∧ D.nx σ H) := by
  unfold initCall at hs
  split at hs
  · rename_i b p1 i p2 sf p3 m j p4 p5 p6
    simp only [Bool.and_eq_true, beq_iff_eq] at hs
    obtain ⟨⟨⟨hl, rfl⟩, rfl⟩, rfl⟩ := hs
    have ev := init_ev X.env (Str.ofString B) p1 p2 p3 p4 p5 m j (by rw [hl, beq_self_eq_true])
    refine PS.imp (ps_expr (pe_xinit bf hg hm (pa_cons (pe_var h0 hv) (pa_cons pe_str pa_nil rfl) rfl) ev rfl rfl) (by rfl)) fun D σ H ⟨a, h1, h2, h3⟩ => ?_
    exact ⟨.ref a, h1, a, C, [.str m], rfl, by simp, T, h2, h3⟩
  · cases hs
/-- self.f = f -/
theorem ps_initSt (T : XcB X.K C B newId initId bmB) {f : Str} {i : Nat} {s : Stmt} (hs : initSt f s = true) (hno : PySem.W.findIn X.K (.ref C) f = some none) (h0 : X.N[0]? = some ("self" : Str)) (hv : Vis X.env.scope "self") (hi : X.N[i]? = some f) (hvf : Vis X.env.scope f)
    (hd : (f == ("__debug__" : Str)) = false) (hcd : (f == ("__classdict__" : Str)) = false) :
    PS X s (fun D σ H => ∃ a y, σ[0]? = some (some (.ref a)) ∧ σ[i]? = some (some y) ∧
      ((H a = some (exo a C none) ∧ ∀ dx, H dx = none → dx ≠ a → D.nx σ (upd (upd H dx (exd dx [(f, y)])) a (exo a C (some dx)))) ∨
        ∃ (dx : Addr) (fs : List (Str × V)), H a = some (exo a C (some dx)) ∧ H dx = some (exd dx fs) ∧ fs.length ≤ 900 ∧ D.nx σ (upd H dx (exd dx ((f, y) :: fs))))) := by
  unfold initSt at hs
  split at hs
  · rename_i sf p1 g p2 h p3 p4
    simp only [Bool.and_eq_true, beq_iff_eq] at hs
    obtain ⟨⟨rfl, rfl⟩, rfl⟩ := hs
    refine PS.imp (ps_xst (pe_var h0 hv) (pe_var hi hvf hd hcd) rfl) fun D σ H ⟨a, y, h1, h2, h3⟩ => ?_
    exact ⟨y, h2, .ref a, h1, a, C, B, newId, initId, bmB, rfl, T, hno, h3⟩
  · cases hs
end
/-- fields i .. of a new exception are stored -/
theorem initFs_ok {X : Cx} {C : Addr} {B newId initId : String} {bmB : List Value} (T : XcB X.K C B newId initId bmB) (h0 : X.N[0]? = some ("self" : Str)) (hv : Vis X.env.scope "self") : ∀ (fs : List Str) (ss : List Stmt) (i : Nat), initFs fs ss = true →
    (∀ f ∈ fs, PySem.W.findIn X.K (.ref C) f = some none ∧ Vis X.env.scope f ∧ (f == ("__debug__" : Str)) = false ∧ (f == ("__classdict__" : Str)) = false) → (∀ j f, fs[j]? = some f → X.N[i + j]? = some f) →
    ∃ t, PSs X ss t ∧ ∀ (D : Ends) (σ : L2.St) (H : Hp) (a dx : Addr) (us : List V) (old : List (Str × V)), σ[0]? = some (some (.ref a)) → us.length = fs.length → (∀ j u, us[j]? = some u → σ[i + j]? = some (some u)) → H a = some (exo a C (some dx)) → H dx = some (exd dx old) → dx ≠ a → old.length + fs.length ≤ 900 →
      (∀ H2, H2 a = some (exo a C (some dx)) → H2 dx = some (exd dx ((fs.zip us).reverse ++ old)) → (∀ b, b ≠ a → b ≠ dx → H2 b = H b) → D.nx σ H2) → t D σ H
  | [], [], i, _, _, _ => ⟨_, pss_nil, fun D σ H a dx us old h1 hl h2 h3 h4 hne h5 h6 => by
      have : us = [] := List.length_eq_zero_iff.mp hl
      subst this
      exact h6 H h3 h4 fun _ _ _ => rfl⟩
  | f :: fs, s :: ss, i, hs, hf, hN => by
    rw [initFs, Bool.and_eq_true] at hs
    obtain ⟨q1, q2, q3, q4⟩ := hf f (List.mem_cons_self ..)
    obtain ⟨t, ht, hq⟩ := initFs_ok T h0 hv fs ss (i + 1) hs.2 (fun g hg => hf g (List.mem_cons_of_mem _ hg)) fun j g hj => by
      have := hN (j + 1) g (by simpa using hj)
      rw [show i + 1 + j = i + (j + 1) by omega]
      exact this
    refine ⟨_, pss_cons (ps_initSt T hs.1 q1 h0 hv (hN 0 f rfl) q2 q3 q4) ht, fun D σ H a dx us old h1 hl h2 h3 h4 hne h5 h6 => ?_⟩
    cases us with
    | nil => cases hl
    | cons u us =>
      refine ⟨a, u, h1, h2 0 u rfl, .inr ⟨dx, old, h3, h4, by simp only [List.length_cons] at h5; omega, ?_⟩⟩
      have ha : upd H dx (exd dx ((f, u) :: old)) a = some (exo a C (some dx)) := by rw [upd_ne (Ne.symm hne)]; exact h3
      refine hq D σ _ a dx us ((f, u) :: old) h1 (by simpa using hl) (fun j v hj => ?_) ha upd_same hne (by simp only [List.length_cons] at h5 ⊢; omega) fun H2 g1 g2 g3 => h6 H2 g1 ?_ fun b b1 b2 => ?_
      · have := h2 (j + 1) v (by simpa using hj)
        rw [show i + 1 + j = i + (j + 1) by omega]
        exact this
      · rw [g2]
        simp
      · rw [g3 b b1 b2, upd_ne b2]
  | [], _ :: _, _, h, _, _ => by cases h
  | _ :: _, [], _, h, _, _ => by cases h
theorem scOkX_ok {N : List Str} {sc : Scope} (h : ckInit.scOkX N sc = true) : FnScope N N sc ∧ ∀ x ∈ N, sc.names.lookup x = some .local ∧ (x == ("__debug__" : Str)) = false ∧ (x == ("__classdict__" : Str)) = false := by
  unfold ckInit.scOkX at h
  simp only [Bool.and_eq_true, decide_eq_true_eq, Bool.not_eq_true', List.all_eq_true, beq_iff_eq, decide_eq_false_iff_not] at h
  obtain ⟨⟨⟨⟨⟨⟨h1, h2⟩, h3⟩, h4⟩, h5⟩, h6⟩, h7⟩ := h
  exact ⟨⟨h1, h2, h3, h4, by simp, fun x hx => .inl (h5 x hx), h6⟩, fun x hx => ⟨h5 x hx, (h7 x hx).1, (h7 x hx).2⟩⟩
theorem init_fn {P : Program} {w : World} {K : PySem.W.Frag} {mg : Str → Option Value} {base : Heap} {CX : CXT} {x qual : Str} {params : Arguments} {body : List Stmt} {scope : Scope} {fI C : Addr} {fd : FuncData} {B newId initId : String} {bmB : List Value} {f : Str} {fs : List Str}
    (F : FunD K x qual params body scope [] [] fI fd) (hc : ckInit (Str.ofString B) (f :: fs) scope body = true) (T : XcB K C B newId initId bmB) (hno : ∀ g ∈ f :: fs, PySem.W.findIn K (.ref C) g = some none) (hm : mg (Str.ofString B) = none) (hl : fs.length ≤ 50) :
    FnOk P w K mg base CX 1 fI fd ("self" :: f :: fs) (spX C (f :: fs)) := by
  unfold ckInit at hc
  simp only [Bool.and_eq_true, beq_iff_eq] at hc
  obtain ⟨⟨h1, h2⟩, h3⟩ := hc
  obtain ⟨SC, hN⟩ := scOkX_ok h1
  refine F.ok SC (fun vs H Q E ⟨a, us, e, l, _⟩ => by rw [e]; simpa using l) fun cdv A outer s H vs Q E hr ⟨a, us, e, l, ha, hq⟩ => ?_
  subst e
  match body, h3 with
  | s0 :: s1 :: ss, h3 =>
    simp only [initFs, Bool.and_eq_true] at h3
    obtain ⟨g0, g1, g2⟩ := h3
    let X := cxOf CX P w K mg base ("self" :: f :: fs) qual scope fI cdv A outer s H E
    have vis : ∀ y ∈ ("self" : Str) :: f :: fs, Vis X.env.scope y := fun y hy => .inl (hN y hy).1
    have hv := vis "self" (List.mem_cons_self ..)
    have hvf := vis f (by simp)
    have hf := hN f (by simp)
    have hg : Gl X (Str.ofString B) := h2
    have T' : XcB X.K C B newId initId bmB := T
    obtain ⟨t, ht, tq⟩ := initFs_ok (X := X) T' rfl hv fs ss 2 g2 (fun g hg' => ⟨hno g (List.mem_cons_of_mem _ hg'), vis g (by simp [hg']), (hN g (by simp [hg'])).2⟩) (fun j g hj => by
      show (("self" : Str) :: f :: fs)[2 + j]? = some g
      rw [show 2 + j = j + 1 + 1 by omega]
      simpa using hj)
    refine ⟨_, pss_cons (ps_initCall T'.bf T' g0 hg hm rfl hv) (pss_cons (ps_initSt T' g1 (hno f (by simp)) rfl hv (i := 1) rfl hvf hf.2.1 hf.2.2) ht), ?_⟩
    cases us with
    | nil => cases l
    | cons u us =>
      have st : ∀ j, (L2.start ("self" :: f :: fs) (V.ref a :: u :: us))[j]? = ((V.ref a :: u :: us)[j]?).map some := fun j => by
        have el : (V.ref a :: u :: us).length = (("self" : Str) :: f :: fs).length := by simpa using l
        unfold L2.start
        rw [el, Nat.sub_self, List.replicate_zero, List.append_nil, List.getElem?_map]
      refine ⟨a, by rw [st]; rfl, ha, a, u, by rw [st]; rfl, by rw [st]; rfl, .inl ⟨ha, fun dx hdx hne => ?_⟩⟩
      refine tq _ _ _ a dx us [(f, u)] (by rw [st]; rfl) (by simpa using l) (fun j v hj => ?_) upd_same (by rw [upd_ne hne, upd_same]) hne (by simp only [List.length_cons, List.length_nil]; omega) fun H2 q1 q2 q3 => ?_
      · rw [st, show 2 + j = j + 1 + 1 by omega]
        simp [hj]
      · refine hq dx H2 hdx hne q1 ?_ fun b b1 b2 => ?_
        · rw [q2]
          simp
        · rw [q3 b b1 b2, upd_ne b1, upd_ne b2]
  | [_], h3 => simp [initFs] at h3
  | [], h3 => cases h3
end MP
end
section
set_option Elab.async false
set_option linter.all false
set_option maxRecDepth 100000
set_option maxHeartbeats 4000000
/-! MPEL: a statement keeps the number of slots. -/
namespace MP
def FlLen (n : Nat) : Fl → Prop
  | .nx σ => σ.length = n
  | .bk σ => σ.length = n
  | .ct σ => σ.length = n
  | .ex _ σ => σ.length = n
  | .rt _ => True
def LenM (n : Nat) (m : M Fl) : Prop := ∀ S fl S', m S = .ok fl S' → FlLen n fl
theorem bind_oks {α β : Type} {m : M α} {f : α → M β} {S S' : DS} {b : β} (e : (m >>= f) S = .ok b S') : ∃ a S1, m S = .ok a S1 ∧ f a S1 = .ok b S' := by
  have e : M.bind m f S = R.ok b S' := e
  unfold M.bind at e
  split at e
  · rename_i a S1 h
    exact ⟨a, S1, h, e⟩
  · cases e
  · cases e
theorem LenM.bind {α : Type} {n : Nat} {m : M α} {f : α → M Fl} (h : ∀ a, LenM n (f a)) : LenM n (m >>= f) := fun S fl S' e => by
  obtain ⟨a, S1, _, e2⟩ := bind_oks e
  exact h a S1 fl S' e2
theorem LenM.bindF {n : Nat} {m : M Fl} {f : Fl → M Fl} (hm : LenM n m) (h : ∀ a, FlLen n a → LenM n (f a)) : LenM n (m >>= f) := fun S fl S' e => by
  obtain ⟨a, S1, e1, e2⟩ := bind_oks e
  exact h a (hm _ _ _ e1) S1 fl S' e2
theorem LenM.bindE {n : Nat} {o : Option Env} {f : Env → M Fl} (h : ∀ a, o = some a → LenM n (f a)) : LenM n (ofO o >>= f) := fun S fl S' e => by
  cases o with
  | none => cases e
  | some a => exact h a rfl S fl S' e
theorem LenM.pure {n : Nat} {f : Fl} (h : FlLen n f) : LenM n (Pure.pure f) := fun S fl S' e => by cases e; exact h
theorem LenM.bad {n : Nat} : LenM n M.bad := fun S fl S' e => by cases e
theorem LenM.throw {n : Nat} {x : Exc} : LenM n (M.throw x) := fun S fl S' e => by cases e
theorem LenM.ite {n : Nat} {c : Prop} [Decidable c] {a b : M Fl} (ha : LenM n a) (hb : LenM n b) : LenM n (if c then a else b) := by split <;> assumption
theorem LenM.fl {n : Nat} {m : M Fl} {σ : Env} (h : LenM n m) (hσ : σ.length = n) : LenM n (M.fl m σ) := fun S fl S' e => by
  unfold M.fl at e
  cases hm : m S with
  | ok a S1 => rw [hm] at e; cases e; exact h _ _ _ hm
  | exc x S1 => rw [hm] at e; cases e; exact hσ
  | bad => rw [hm] at e; cases e
mutual
theorem bdT_len : ∀ (t : Tg) (d : D) (σ σ' : Env), bindT t d σ = some σ' → σ'.length = σ.length
  | .nm i, d, σ, σ', h => by
    rw [bindT] at h
    cases h
    exact List.length_set ..
  | .tp ts, d, σ, σ', h => by
    cases d <;> first | (rw [bindT] at h; exact bdTs_len ts _ σ σ' h) | (simp [bindT] at h)
theorem bdTs_len : ∀ (ts : List Tg) (ds : List D) (σ σ' : Env), bindTs ts ds σ = some σ' → σ'.length = σ.length
  | [], [], σ, σ', h => by simp [bindTs] at h; rw [h]
  | [], _ :: _, σ, σ', h => by simp [bindTs] at h
  | _ :: _, [], σ, σ', h => by simp [bindTs] at h
  | t :: ts, d :: ds, σ, σ', h => by
    rw [bindTs] at h
    obtain ⟨σ1, h1, h2⟩ := Option.bind_eq_some_iff.mp h
    rw [bdTs_len ts ds σ1 σ' h2, bdT_len t d σ σ1 h1]
end
theorem forM_len {n : Nat} {w : Guard} {f : D → Env → M Fl} (hf : ∀ x σ, σ.length = n → LenM n (f x σ)) : ∀ (xs : List D) (σ : Env), σ.length = n → LenM n (forM' w f xs σ)
  | [], σ, h => by
    unfold forM'
    exact LenM.bind fun _ => LenM.pure h
  | x :: xs, σ, h => by
    unfold forM'
    refine LenM.bind fun _ => LenM.bindF (hf x σ h) fun a ha => ?_
    cases a with
    | nx σ' => exact forM_len hf xs σ' ha
    | ct σ' => exact forM_len hf xs σ' ha
    | bk σ' => exact LenM.pure ha
    | rt d => exact LenM.pure trivial
    | ex x σ' => exact LenM.pure ha
theorem whileM_len {n : Nat} {c : Env → M Bool} {f : Env → M Fl} (hf : ∀ σ, σ.length = n → LenM n (f σ)) : ∀ (k : Nat) (σ : Env), σ.length = n → LenM n (whileM c f k σ)
  | 0, σ, h => by unfold whileM; exact LenM.bad
  | k + 1, σ, h => by
    unfold whileM
    refine LenM.fl (LenM.bind fun b => LenM.ite (LenM.bindF (hf σ h) fun a ha => ?_) (LenM.pure h)) h
    cases a with
    | nx σ' => exact whileM_len hf k σ' ha
    | ct σ' => exact whileM_len hf k σ' ha
    | bk σ' => exact LenM.pure ha
    | rt d => exact LenM.pure trivial
    | ex x σ' => exact LenM.pure ha
theorem hdl_len {n : Nat} {x : Exc} {σ : Env} (h : σ.length = n) : ∀ hs : List (Nat × HR), LenM n (hdl x σ hs)
  | [] => LenM.pure h
  | (c, r) :: t => by
    unfold hdl
    exact LenM.ite (LenM.bind fun _ => LenM.pure trivial) (hdl_len h t)
section
variable {cf : CF} {fuel n : Nat}
mutual
theorem evS_len : ∀ (s : S) (σ : Env), σ.length = n → LenM n (evS cf fuel s σ)
  | .asg t e, σ, h => by
    rw [evS]
    exact LenM.fl (LenM.bind fun x => LenM.bindE fun σ' e => LenM.pure (by show σ'.length = n; rw [bdT_len _ _ _ _ e, h])) h
  | .par i j a b, σ, h => by
    rw [evS]
    exact LenM.fl (LenM.bind fun x => LenM.bind fun y => LenM.pure (by show (List.set _ _ _).length = n; rw [List.length_set, List.length_set, h])) h
  | .own i l, σ, h => by
    rw [evS]
    exact LenM.fl (LenM.bind fun x => LenM.pure (by show (List.set _ _ _).length = n; rw [List.length_set, h])) h
  | .aug i op e, σ, h => by
    rw [evS]
    exact LenM.fl (LenM.bind fun x => LenM.bind fun y => LenM.bind fun z => LenM.pure (by show (List.set _ _ _).length = n; rw [List.length_set, h])) h
  | .expr e, σ, h => by
    rw [evS]
    exact LenM.fl (LenM.bind fun x => LenM.pure h) h
  | .ret e, σ, h => by
    rw [evS]
    exact LenM.fl (LenM.bind fun x => LenM.pure trivial) h
  | .retN, σ, h => by rw [evS]; exact LenM.pure trivial
  | .ite c a b, σ, h => by
    rw [evS]
    exact LenM.fl (LenM.bind fun x => LenM.ite (evSs_len a σ h) (evSs_len b σ h)) h
  | .forS t s b, σ, h => by
    rw [evS]
    exact LenM.fl (LenM.bind fun x => forM_len (fun y σ1 h1 => LenM.bindE fun σ2 e => evSs_len b σ2 (by rw [bdT_len _ _ _ _ e, h1])) _ σ h) h
  | .whileS c b, σ, h => by
    rw [evS]
    exact whileM_len (fun σ1 h1 => evSs_len b σ1 h1) _ σ h
  | .brk, σ, h => by rw [evS]; exact LenM.pure h
  | .cont, σ, h => by rw [evS]; exact LenM.pure h
  | .pass, σ, h => by rw [evS]; exact LenM.pure h
  | .never, σ, h => by rw [evS]; exact LenM.bad
  | .oapp i e, σ, h => by
    rw [evS]
    refine LenM.fl (LenM.bind fun y => ?_) h
    split
    · exact LenM.ite (LenM.pure (by show (List.set _ _ _).length = n; rw [List.length_set, h])) LenM.bad
    · exact LenM.bad
  | .setI a i e, σ, h => by
    rw [evS]
    exact LenM.fl (LenM.bind fun z => LenM.bind fun x => LenM.bind fun y => LenM.bind fun _ => LenM.pure h) h
  | .asg2 a i b j e, σ, h => by
    rw [evS]
    exact LenM.fl (LenM.bind fun z => LenM.bind fun x => LenM.bind fun y => LenM.bind fun _ => LenM.bind fun _ => LenM.bind fun _ => LenM.bind fun _ => LenM.bind fun _ => LenM.pure h) h
  | .raise c fids es, σ, h => by
    rw [evS]
    exact LenM.fl (LenM.bind fun ds => LenM.throw) h
  | .tryR b hs, σ, h => by
    rw [evS]
    refine LenM.bindF (evSs_len b σ h) fun a ha => ?_
    cases a with
    | ex x σ' => exact hdl_len ha hs
    | nx σ' => exact LenM.pure ha
    | bk σ' => exact LenM.pure ha
    | ct σ' => exact LenM.pure ha
    | rt d => exact LenM.pure trivial
theorem evSs_len : ∀ (s : Ss) (σ : Env), σ.length = n → LenM n (evSs cf fuel s σ)
  | .nil, σ, h => by rw [evSs]; exact LenM.pure h
  | .cons s r, σ, h => by
    rw [evSs]
    refine LenM.bindF (evS_len s σ h) fun a ha => ?_
    cases a with
    | nx σ' => exact evSs_len r σ' ha
    | ex x σ' => exact LenM.pure ha
    | bk σ' => exact LenM.pure ha
    | ct σ' => exact LenM.pure ha
    | rt d => exact LenM.pure trivial
end
end
end MP
end
section
set_option Elab.async false
set_option linter.all false
set_option maxRecDepth 100000
set_option maxHeartbeats 4000000
/-! MPET: raise, try. -/
namespace MP
open PySem PySem.Spec PyProof.Rows L2
def CXn : CXT := fun _ _ _ _ _ _ => False
theorem passN {X : Cx} {E : XK} : Passes CXn X E := fun _ _ _ _ _ _ _ h => h.elim
/-- what stands of an own exception class, number c -/
structure XF (P : Program) (w : World) (K : PySem.W.Frag) (mg : Str → Option Value) (base : Heap) (xcls : Nat → Option Value) (xname : Nat → Str) (c : Nat) (x : Str) (fids : List Nat) : Prop where
  ex : ∃ (C fI : Addr) (fd : FuncData) (B ni ii : String) (bm : List Value), mg x = some (.ref C) ∧ xcls c = some (.ref C) ∧ XcB K C B ni ii bm ∧ PySem.W.findIn K (.ref C) "__init__" = some (some (.ref fI)) ∧ PySem.W.typeIn K (.ref fI) = some (.type "function") ∧
    FnOk P w K mg base CXn 1 fI fd ("self" :: fids.map xname) (spX C (fids.map xname)) ∧ Binds K fd ("self" :: fids.map xname) []
  nd : (fids.map xname).Nodup
  few : fids.length ≤ 50
theorem lookup_mem {α : Type} {n : Str} {u : α} : ∀ {l : List (Str × α)}, (l.map (·.1)).Nodup → (n, u) ∈ l → l.lookup n = some u
  | (m, w) :: l, hn, hm => by
    simp only [List.map_cons, List.nodup_cons] at hn
    rcases List.mem_cons.mp hm with e | hm
    · cases e
      simp [List.lookup]
    · have hne : n ≠ m := fun e => hn.1 (by rw [← e]; exact List.mem_map.mpr ⟨(n, u), hm, rfl⟩)
      have e : (n == m) = false := by simpa using hne
      simp only [List.lookup, e]
      exact lookup_mem hn.2 hm
theorem lookup_rz {names : List Str} {us : List V} (hn : names.Nodup) (hl : names.length = us.length) {j : Nat} {n : Str} {u : V} (h1 : names[j]? = some n) (h2 : us[j]? = some u) : ((names.zip us).reverse).lookup n = some u := by
  refine lookup_mem ?_ ?_
  · rw [List.map_reverse, (List.reverse_perm _).nodup_iff]
    have e : (names.zip us).map (·.1) = names := by
      rw [← List.unzip_fst, List.unzip_zip hl]
    rw [e]
    exact hn
  · rw [List.mem_reverse]
    refine List.mem_of_getElem? (i := j) ?_
    rw [List.getElem?_zip_eq_some]
    exact ⟨h1, h2⟩
section
variable {X : Cx} {p : Pm} {e : Expr} {es : List Expr} {pes : Es} {pn pos pos' : Pos}
theorem st_raise (g : Good X p) {c : Nat} {x : Str} {fids : List Nat} (F : XF X.prog X.w X.K X.mg X.base p.xcls p.xname c x fids) (hr : Room 2 X.A) (ha : PA X (e :: es) (tEs p pes)) (hlen : pes.len = fids.length) (hg : Gl X x) (hdb : (x == ("__debug__" : Str)) = false)
    (he : starEach (e :: es) X.env = (false, eval e X.env) :: starEach es X.env) (hpl : (backTo pos (starEach es X.env)).any (·.1) = false) : PS X (.Raise (some (.Call (.Name x pn) (e :: es) [] pos)) none pos') (tS p (.raise c fids pes)) := by
  obtain ⟨C, fI, fd, B, ni, ii, bm, f1, f2, T, f3, f4, f5, f6⟩ := F.ex
  refine PS.imp (ps_raise g.calm g.tk (pmk_x T f3 f4 f5 hr f6 .nil passN hg f1 ha hdb he hpl)) fun E σ H ⟨ρ, σd, S, XX, at', h⟩ => ?_
  rw [evS] at h
  have h := fl_in at' h
  refine ⟨ρ, σd, S, at'.es, at'.hs, (evEs_len p.cf pes σd S _ _ (Ok.bind.mp h)).mono (fun ds S1 q vs ρ1 H1 st hs1 rs => ?_) fun _ _ q => q⟩
  obtain ⟨q, hl⟩ := q
  have lv : vs.length = (fids.map p.xname).length := by rw [rs.length, hl, hlen, List.length_map]
  refine ⟨by rw [lv, List.length_map]; have := F.few; omega, fun a ha1 => ⟨a, vs, by rw [List.append_nil], lv, upd_same, fun d H2 hd hda k1 k2 k3 => ?_⟩⟩
  have hd1 : H1 d = none := by rwa [upd_ne hda] at hd
  refine ⟨rfl, d, _, k1, k2, hd1, ?_⟩
  have grow : ∀ b o, H1 b = some o → upd (del H2 a) d (.xd ((fids.map p.xname).zip vs).reverse) b = some o := fun b o hb => by
    have n1 : b ≠ a := ne_of_none hb ha1
    have n2 : b ≠ d := ne_of_none hb hd1
    rw [upd_ne n2, del_ne n1, k3 b n1 n2, upd_ne n1, hb]
  have st2 := Step.grow hs1 grow
  have q : XQ p σ ρ H ⟨c, fids.zip ds⟩ S1 := q
  refine q ρ1 _ (.ref C) (some d) (st.trans st2) (hs1.grow grow) ⟨f2, fun _ => ⟨d, _, rfl, upd_same, fun f dv hm => ?_⟩⟩
  obtain ⟨j, hj⟩ := List.getElem?_of_mem hm
  rw [List.getElem?_zip_eq_some] at hj
  obtain ⟨v, hv, rv⟩ := rs.get hj.2
  exact ⟨v, lookup_rz F.nd (by rw [lv]) (by rw [List.getElem?_map, hj.1]; rfl) hv, rv.step st2⟩
end
/-! ### try, with clauses that name the exception -/
abbrev SuT := Addr → Value → Option Addr → TS
/-- the ends of a suite whose name, slot i, is gone behind it -/
def gone (i : Nat) (D : Ends) : Ends := { nx := fun τ J => D.nx (τ.set i none) J, rt := D.rt, bk := fun τ J => D.bk (τ.set i none) J, ct := fun τ J => D.ct (τ.set i none) J }
/-- what the clauses wish of what flies out of the body -/
def wHs (K : PySem.W.Frag) (Wout : WX) (D : Ends) : List (Value × Nat × SuT) → WX
  | [] => Wout
  | (c, i, ts) :: r => fun cls d σ H => ∃ b, PySem.W.exmOne K cls c = some b ∧ (b = true → ∀ a, H a = none → ts a cls d (gone i D) (σ.set i (some (.ref a))) H) ∧ (b = false → wHs K Wout D r cls d σ H)
inductive HdA (X : Cx) : List ExceptHandler → List (Value × Nat × SuT) → Prop
  | nil : HdA X [] []
  | cons {x n : Str} {c : Value} {i : Nat} {ts : SuT} {s₀ : Stmt} {rest : List Stmt} {np hp : Pos} {hds : List ExceptHandler} {l : List (Value × Nat × SuT)} (hc : Names X x c) (hi : X.N[i]? = some n) (hl : X.env.kindOf n = some .local)
      (hsu : ∀ (a : Addr) (oe : Obj) (cls : Value) (d : Option Addr) (pn : List (Addr × Obj)), Zc cls d oe → (∃ vs, oe.data = .fields vs) → PSs (X.suite a ((a, oe) :: pn)) (s₀ :: rest) (ts a cls d)) (r : HdA X hds l) :
      HdA X (.ExceptHandler (some (.Name x np)) (some n) (s₀ :: rest) hp :: hds) ((c, i, ts) :: l)
section
variable {X : Cx} {body : List Stmt} {h₀ : ExceptHandler} {hds : List ExceptHandler} {l : List (Value × Nat × SuT)} {pos : Pos} {tb : WX → TS} {Wout : WX}
theorem ps_try_hs (hst : X.stack = X.env :: X.outer) (hfr : X.env.frame = some X.env.locals) (hnd : X.N.Nodup) (tk : Takes X Wout)
    (hb : ∀ (W : WX) (pn : List (Addr × Obj)) (xe : Value → Shared → Prop), Takes (X.tr pn xe) W → PassesOwn (model X.prog X.w) X.A X.env xe → PSs (X.tr pn xe) body (tb W))
    (hh : HdA X (h₀ :: hds) l) : PS X (.Try body (h₀ :: hds) [] [] pos) (fun D σ H => tb (wHs X.K Wout D l) D σ H) := by
  refine ⟨fun pins s σ H D I h => wpAny_Try_except ?_⟩
  have okX := I.ok
  have frm : X.A.frames = some (X.env :: X.outer) := okX.frames.trans (congrArg some hst)
  -- the body's run, with the clauses as the way of what flies
  refine wpAny_mono ((hb (wHs X.K Wout D l) (X.pn ++ pins) (fun e z => wpAny (model X.prog X.w) X.A (noteFrame e X.env) (fun _ z => wpAny (model X.prog X.w) X.A (setFlight e none) (fun _ z => wpAny (model X.prog X.w) X.A (handleBy e X.env (h₀ :: hds)) (SP X pins D) X.xe z) X.xe z) X.xe z)
    (fun u sF xx => ?fly) PassesOwn.looking).run [] s σ H D (I.toTry _) h) (fun f sE q => ?ends) fun _ _ q => q
  case ends =>
    cases f with
    | ret u =>
      obtain ⟨v, τ, J, IJ, rv, q⟩ := q
      exact ⟨v, τ, J, IJ.ofTry okX, rv, q⟩
    | next =>
      obtain ⟨τ, J, IJ, q⟩ := q
      exact wpAny_execs_nil ⟨τ, J, IJ.ofTry okX, q⟩
    | brk =>
      obtain ⟨τ, J, IJ, q⟩ := q
      exact ⟨τ, J, IJ.ofTry okX, q⟩
    | cont =>
      obtain ⟨τ, J, IJ, q⟩ := q
      exact ⟨τ, J, IJ.ofTry okX, q⟩
  case fly =>
    obtain ⟨a, B, sI, pins', τ, J, cls, d, rfl, IT, nb, up, sky, na, os, ag, wish⟩ := xx
    have IJ : Inv X pins τ J sI := IT.ofTry okX
    rw [hst] at sky
    show wpAny (model X.prog X.w) X.A (noteFrame (.ref a) X.env) _ _ _
    refine Sky.land Zc.steady frm hfr sky fun hL fl upL => ?_
    have IL : Inv X pins τ J { sF with heap := hL } := IJ.landed nb fl.1 (up.trans upL) os ag
    obtain ⟨oL, vL, eL, zL, dL⟩ := fl.there
    -- the exception is no frame
    have out : a ∉ frs (X.env :: X.outer) := fun hm => by
      obtain ⟨_, o1, e1, hno⟩ := fl.2.2.1.mem hm
      rw [eL] at e1
      cases e1
      exact hno _ dL
    have aL : a ≠ X.env.locals := fun z => out (List.mem_filterMap.mpr ⟨X.env, List.mem_cons_self, by rw [hfr, z]⟩)
    have aF : a ∉ X.fs := fun hm => by
      obtain ⟨e1, m1, m2⟩ := List.mem_filterMap.mp hm
      exact out (List.mem_filterMap.mpr ⟨e1, List.mem_cons_of_mem _ m1, m2⟩)
    have inS := IL.suite eL dL na aL aF
    -- clause by clause
    have go : ∀ {cl : List ExceptHandler} {ll : List (Value × Nat × SuT)}, HdA X cl ll → wHs X.K Wout D ll cls d τ J → wpAny (model X.prog X.w) X.A (handleBy (.ref a) X.env cl) (SP X pins D) X.xe { sF with heap := hL } := fun {cl ll} hk => by
      induction hk with
      | nil =>
        intro wish
        refine wpAny_handleBy_nil ?_
        obtain ⟨_, _, _, o2, v2, T2, _, _, e2, _, d2, f2, _⟩ := id fl
        have leave : wpAny (model X.prog X.w) X.A (setFlight (.ref a) X.env.frame) (fun _ z => wpAny (model X.prog X.w) X.A (throw (.ref a) : Sem Flow) (SP X pins D) X.xe z) X.xe { sF with heap := hL } := by
          rw [hfr]
          refine HandSPX.setFlight_upZ fl fun h4 sk up4 => wpAny_throw (tk _ _ ⟨a, B, sI, pins, τ, J, cls, d, rfl, IJ, nb, (up.trans upL).trans up4, .inr (.inr (by rw [hst]; exact sk)), na, os, ag, wish⟩)
        unfold PySem.passOn
        refine wpAny_bind (wpAny_field e2 d2 f2 ?_)
        rw [if_neg (show ¬ ((Value.ref T2 == Value.none) = true) by simp)]
        first
          | exact wpAny_bind leave
          | exact wpAny_bind (wpAny_pure (wpAny_bind leave))
      | @cons x n c i ts s₀ rest np hp hds2 l2 hc hi hl hsu r ih =>
        intro wish
        obtain ⟨b, eb, yes, no⟩ := wish
        refine wpAny_handleBy_cons (codeAny_handlers_test ?_) (by intro z; cases z)
        have ty : PySem.W.Looks (model X.prog X.w) hL (typeOf (.ref a)) cls := fun A Q E s1 k q => wpAny_typeOf_ref (k _ _ eL) (by rw [zL.1]; exact q)
        have matches' := PySem.W.exm_one (M := model X.prog X.w) IL.kIn ty eb
        have nam : ∀ {Q : Value → Shared → Prop} {E : Value → Shared → Prop}, Q c { sF with heap := hL } → wpAny (model X.prog X.w) (X.A.mark (some (.ref a))) (eval (.Name x np) X.env) Q E { sF with heap := hL } := fun {Q E} q => by
          obtain ⟨n1, n2, n3 | ⟨n3, n4, n5⟩⟩ := hc
          · exact ld_glob (X := X.suite a ((a, oL) :: (X.pn ++ pins))) inS n1 n3 q n2
          · exact ld_blt (X := X.suite a ((a, oL) :: (X.pn ++ pins))) inS n1 n3 n4 q n5 n2
        refine nam (matches'.here ?_)
        cases b with
        | false =>
          show wpAny _ X.A (handleBy (.ref a) X.env hds2) _ _ _
          exact ih (no rfl)
        | true =>
          refine codeAny_handlers_suite_as (HandSPX.lands_againZ fl fun h4 fl4 up4 => ?_)
          have I4 : Inv X pins τ J { sF with heap := h4 } := IJ.landed nb fl4.1 ((up.trans upL).trans up4) os ag
          obtain ⟨o4, v4, e4, z4, d4⟩ := fl4.there
          refine store_ok (X := X.suite a ((a, o4) :: (X.pn ++ pins))) (v := .ref a) (I4.suite e4 d4 na aL aF) hnd hi (.inl hl) rfl (fun s5 I5 => ?_) (.inr hl)
          refine wpAny_mono ((hsu a o4 cls d (X.pn ++ pins) z4 ⟨_, d4⟩).run [] s5 _ J _ I5 (yes rfl a na)) (fun f s6 q => ?_) fun _ _ z => z.elim
          have fin : ∀ {τ6 : L2.St} {J6 : Hp} {Q : Shared → Prop}, Inv (X.suite a ((a, o4) :: (X.pn ++ pins))) [] τ6 J6 s6 → (∀ s7, Inv X pins (τ6.set i none) J6 s7 → Q s7) →
              wpAny (model X.prog X.w) X.A (do bindName X.env n .none; unbindBehindTheSuite X.env n hp) (fun _ s7 => Q s7) X.xe s6 := fun {τ6 J6 Q} I6 q => gone_ok (I6.unsuite okX) hnd hi hl q
          cases f with
          | ret u =>
            obtain ⟨v6, τ6, J6, I6, r6, q⟩ := q
            exact fin I6 fun s7 I7 => ⟨_, _, _, I7, r6, q⟩
          | next =>
            obtain ⟨τ6, J6, I6, q⟩ := q
            exact fin I6 fun s7 I7 => ⟨_, _, I7, q⟩
          | brk =>
            obtain ⟨τ6, J6, I6, q⟩ := q
            exact fin I6 fun s7 I7 => ⟨_, _, I7, q⟩
          | cont =>
            obtain ⟨τ6, J6, I6, q⟩ := q
            exact fin I6 fun s7 I7 => ⟨_, _, I7, q⟩
    exact go hh wish
end
/-! ### what a clause returns -/
/-- .. of a class: a caught one's fields are read -/
structure XGet (K : PySem.W.Frag) (C : Addr) : Prop where
  ga : PySem.W.findIn K (.ref C) "__getattribute__" = some (some (.builtin "BaseException.__getattribute__"))
  gg : PySem.W.findIn K (.ref C) "__getattr__" = some none
  hd : PySem.W.hasDictIn K C = true
  exC : PySem.W.subIn K (.ref C) (.type "BaseException") = some true
def tGetX (C a : Addr) (cls : Value) (d : Option Addr) (f : Str) (te : TE) : TE := fun σ H Q => te σ H fun x H1 => x = .ref a ∧ cls = .ref C ∧ ∃ (dd : Addr) (fl : List (Str × V)) (v : V), d = some dd ∧ H1 dd = some (.xd fl) ∧ fl.lookup f = some v ∧ Q v H1
section
variable {X : Cx} {C a : Addr} {oe : Obj} {cls : Value} {d : Option Addr} {pn : List (Addr × Obj)}
theorem pe_getX {f : Str} {e : Expr} {te : TE} {pos : Pos} (T : XGet X.K C) (hno : PySem.W.findIn X.K (.ref C) f = some none) (hz : Zc cls d oe) (hf : ∃ vs, oe.data = .fields vs) (he : PE (X.suite a ((a, oe) :: pn)) e te)
    (hb : attributeBase e f X.env (eval e X.env) = eval e X.env) : PE (X.suite a ((a, oe) :: pn)) (.Attribute e f pos) (tGetX C a cls d f te) := by
  refine ⟨fun pins s σ H Q I h => attr_of hb (thn (he.run pins s σ H _ I h) fun u s1 ⟨x, H1, I1, rx, ex, ec, dd, fl, v, ed, ea, hl, q⟩ => ?_)⟩
  subst ex ec ed
  obtain rfl : u = Value.ref a := rx
  obtain ⟨ha, _⟩ := I1.pin (a, oe) (List.mem_append_left _ List.mem_cons_self)
  obtain ⟨vs, hd⟩ := hf
  obtain ⟨mA, hns, hr⟩ : ObjOk X.prog X.w H1 s1.heap dd (.xd fl) := I1.hok dd _ ea
  obtain ⟨od, ho, look⟩ := lookIn_ns hns
  obtain ⟨u, hu, ru⟩ := RelO.some_of (v := v) (o := mA f) (by rw [← hl]; exact hr f)
  have J : PySem.W.InstAt s1.heap a oe C (some od) := ⟨ha, hz.1, by unfold PySem.W.notCls; rw [hd] <;> rfl, by rw [hz.2]; exact ho⟩
  exact HandSPX.exc_get I1.kIn J T.ga T.gg T.exC (PySem.W.findObj_own T.hd hno rfl (by rw [look, hu])) (handed_of ru) ⟨v, H1, I1.tok _, ru, q⟩
end
/-- the exception x stands in slot i, at a, its class C, its dict d -/
structure AtX (p : Pm) (i : Nat) (a C : Addr) (d : Option Addr) (x : Exc) (σ : L2.St) (ρ : List Addr) (H : Hp) (S : DS) : Prop where
  sl : σ[i]? = some (some (.ref a))
  hs : HS p.K ρ H S
  xr : XRep p ρ H x (.ref C) d
/-- a part of what a clause returns -/
def HxOk (X : Cx) (p : Pm) (i : Nat) (C a : Addr) (oe : Obj) (d : Option Addr) (pn : List (Addr × Obj)) (h : HX) (ex : Expr) : Prop := ∃ te, PE (X.suite a ((a, oe) :: pn)) ex te ∧
  ∀ x σ ρ H S Q dv, AtX p i a C d x σ ρ H S → hxD x h = some dv → (∀ v, Rep p.K ρ H v dv → Q v H) → te σ H Q
def HxsOk (X : Cx) (p : Pm) (i : Nat) (C a : Addr) (oe : Obj) (d : Option Addr) (pn : List (Addr × Obj)) (h : List HX) (ex : List Expr) : Prop := ∃ ta, PA (X.suite a ((a, oe) :: pn)) ex ta ∧
  ∀ x σ ρ H S Q dvs, AtX p i a C d x σ ρ H S → hxDs x h = some dvs → (∀ vs, Reps p.K ρ H vs dvs → Q vs H) → ta σ H Q
def HrOk (X : Cx) (p : Pm) (i : Nat) (C a : Addr) (oe : Obj) (d : Option Addr) (pn : List (Addr × Obj)) (h : HR) (ex : Expr) : Prop := ∃ te, PE (X.suite a ((a, oe) :: pn)) ex te ∧
  ∀ x σ ρ H S Q dv, AtX p i a C d x σ ρ H S → hrD x h = some dv → (∀ v H', Step ρ H ρ H' → HS p.K ρ H' S → Rep p.K ρ H' v dv → Q v H') → te σ H Q
section
variable {X : Cx} {p : Pm} {i : Nat} {C a : Addr} {oe : Obj} {d : Option Addr} {pn : List (Addr × Obj)}
theorem dp_con {dv : D} {q : Const} {j : Nat} {pos : Pos} (h : conK dv q = true) : HxOk X p i C a oe d pn (.con dv) (.Constant q j pos) := by
  cases dv <;> cases q <;> first | exact (Bool.false_ne_true h).elim | skip
  · exact ⟨_, pe_non, fun x σ ρ H S Q d h e q => by cases e; exact q _ .non⟩
  · have := eq_of_beq (show (_ == _) = true from h)
    subst this
    exact ⟨_, pe_bl, fun x σ ρ H S Q d h e q => by cases e; exact q _ (.bl _)⟩
  · have := eq_of_beq (show (_ == _) = true from h)
    subst this
    exact ⟨_, pe_int, fun x σ ρ H S Q d h e q => by cases e; exact q _ (.int _)⟩
  · have := eq_of_beq (show (_ == _) = true from h)
    subst this
    exact ⟨_, pe_str, fun x σ ρ H S Q d h e q => by cases e; exact q _ (.str _)⟩
theorem fld_mem {β : Type} {f : Nat} {v : β} : ∀ {l : List (Nat × β)}, l.lookup f = some v → (f, v) ∈ l
  | (g, w) :: l, h => by
    simp only [List.lookup] at h
    split at h
    · rename_i e
      have : f = g := by simpa using e
      subst this
      cases h
      exact List.mem_cons_self ..
    · exact List.mem_cons_of_mem _ (fld_mem h)
theorem dp_fld {f : Nat} {n : Str} {pos pn' : Pos} (T : XGet X.K C) (hno : PySem.W.findIn X.K (.ref C) (p.xname f) = some none) (hz : Zc (.ref C) d oe) (hf : ∃ vs, oe.data = .fields vs) (hN : X.N[i]? = some n) (hv : Vis X.env.scope n) (h1 : (n == ("__debug__" : Str)) = false) (h2 : (n == ("__classdict__" : Str)) = false) :
    HxOk X p i C a oe d pn (.fld f) (.Attribute (.Name n pn') (p.xname f) pos) := by
  refine ⟨_, pe_getX T hno hz hf (pe_var (X := X.suite a ((a, oe) :: pn)) hN hv h1 h2) rfl, fun x σ ρ H S Q dv hx e q => ?_⟩
  have hm := fld_mem e
  obtain ⟨dd, fl, e1, e2, e3⟩ := hx.xr.2 (List.ne_nil_of_mem hm)
  obtain ⟨v, e4, rv⟩ := e3 f dv hm
  exact ⟨_, hx.sl, rfl, rfl, dd, fl, v, e1, e2, e4, q v rv⟩
theorem hxs_nil : HxsOk X p i C a oe d pn [] [] := ⟨_, pa_nil, fun x σ ρ H S Q dvs _ e q => by cases e; exact q [] .nil⟩
theorem hxs_cons {h : HX} {hs : List HX} {e : Expr} {es : List Expr} (h1 : HxOk X p i C a oe d pn h e) (h2 : HxsOk X p i C a oe d pn hs es) (hst : starEach (e :: es) X.env = (false, eval e X.env) :: starEach es X.env) : HxsOk X p i C a oe d pn (h :: hs) (e :: es) := by
  obtain ⟨te, p1, q1⟩ := h1
  obtain ⟨ta, p2, q2⟩ := h2
  refine ⟨_, pa_cons p1 p2 hst, fun x σ ρ H S Q dvs hx e q => ?_⟩
  rw [hxDs] at e
  obtain ⟨dv, e1, e2⟩ := Option.bind_eq_some_iff.mp e
  obtain ⟨ds, e3, rfl⟩ := Option.map_eq_some_iff.mp e2
  exact q1 x σ ρ H S _ dv hx e1 fun v rv => q2 x σ ρ H S _ ds hx e3 fun vs rvs => q (v :: vs) (.cons rv rvs)
theorem hr_one {h : HX} {e : Expr} (h1 : HxOk X p i C a oe d pn h e) : HrOk X p i C a oe d pn (.one h) e := by
  obtain ⟨te, p1, q1⟩ := h1
  exact ⟨te, p1, fun x σ ρ H S Q dv hx e q => q1 x σ ρ H S _ dv hx e fun v rv => q v H (Step.refl hx.hs) hx.hs rv⟩
theorem hr_tup {hs : List HX} {es : List Expr} {k : Nat} {pos : Pos} (h1 : HxsOk X p i C a oe d pn hs es) (hl : hs.length ≤ sizeLine) : HrOk X p i C a oe d pn (.tup hs) (.Tuple es k pos) := by
  obtain ⟨ta, p1, q1⟩ := h1
  refine ⟨_, pe_tup p1, fun x σ ρ H S Q dv hx e q => ?_⟩
  obtain ⟨ds, e1, rfl⟩ := Option.map_eq_some_iff.mp e
  have len : ∀ {hs : List HX} {ds : List D}, hxDs x hs = some ds → ds.length = hs.length := by
    intro hs
    induction hs with
    | nil => intro ds e; cases e; rfl
    | cons h hs ih =>
      intro ds e
      rw [hxDs] at e
      obtain ⟨dv, _, e2⟩ := Option.bind_eq_some_iff.mp e
      obtain ⟨ds', e3, rfl⟩ := Option.map_eq_some_iff.mp e2
      rw [List.length_cons, List.length_cons, ih e3]
  refine q1 x σ ρ H S _ ds hx e1 fun vs rvs => ⟨by rw [rvs.length, len e1]; exact hl, fun t ht => ?_⟩
  have gr := grow_upd (o := .tup vs) ht
  exact q (.ref t) _ (.grow hx.hs gr) (hx.hs.grow gr) (.tup (.of upd_same) (rvs.grow hx.hs gr))
end
/-- a clause: except x as n: return .. -/
structure HdOk (X : Cx) (p : Pm) (h : ExceptHandler) (c : Nat) (r : HR) : Prop where
  ex : ∃ (x n : Str) (np rp hp : Pos) (e : Expr) (C : Addr) (i : Nat), h = .ExceptHandler (some (.Name x np)) (some n) [.Return (some e) rp] hp ∧ Names X x (.ref C) ∧ X.N[i]? = some n ∧ X.env.kindOf n = some .local ∧ p.xcls c = some (.ref C) ∧
    ∀ (a : Addr) (oe : Obj) (d : Option Addr) (pn : List (Addr × Obj)), Zc (.ref C) d oe → (∃ vs, oe.data = .fields vs) → HrOk X p i C a oe d pn r e
/-- what a clause's suite gives -/
def tSu (p : Pm) (C : Addr) (i : Nat) (r : HR) : SuT := fun a cls d D σ H => ∃ x ρ S dv, cls = .ref C ∧ AtX p i a C d x σ ρ H S ∧ hrD x r = some dv ∧ ∀ v H', Step ρ H ρ H' → HS p.K ρ H' S → Rep p.K ρ H' v dv → D.rt v H'
inductive HdsOkX (X : Cx) (p : Pm) : List ExceptHandler → List (Nat × HR) → Prop
  | nil : HdsOkX X p [] []
  | cons {h : ExceptHandler} {c : Nat} {r : HR} {hs : List ExceptHandler} {rs : List (Nat × HR)} : HdOk X p h c r → HdsOkX X p hs rs → HdsOkX X p (h :: hs) ((c, r) :: rs)
/-- the clauses as the layer wants them -/
structure HLink (p : Pm) (c : Nat) (r : HR) (q : Value × Nat × SuT) : Prop where
  ex : ∃ C, q = (.ref C, q.2.1, tSu p C q.2.1 r) ∧ p.xcls c = some (.ref C)
inductive HLinks (p : Pm) : List (Nat × HR) → List (Value × Nat × SuT) → Prop
  | nil : HLinks p [] []
  | cons {c : Nat} {r : HR} {q : Value × Nat × SuT} {rs : List (Nat × HR)} {l : List (Value × Nat × SuT)} : HLink p c r q → HLinks p rs l → HLinks p ((c, r) :: rs) (q :: l)
section
variable {X : Cx} {p : Pm}
theorem HdsOkX.links {hs : List ExceptHandler} {rs : List (Nat × HR)} (h : HdsOkX X p hs rs) : ∃ l, HdA X hs l ∧ HLinks p rs l := by
  induction h with
  | nil => exact ⟨[], .nil, .nil⟩
  | cons h1 _ ih =>
    obtain ⟨l, h2, h3⟩ := ih
    obtain ⟨x, n, np, rp, hp, e, C, i, rfl, hn, hi, hk, hx, hr⟩ := h1.ex
    refine ⟨(.ref C, i, tSu p C i _) :: l, .cons hn hi hk (fun a oe cls d pn hz hf => ?_) h2, .cons ⟨C, rfl, hx⟩ h3⟩
    by_cases hc : cls = .ref C
    · subst hc
      obtain ⟨te, h4, h5⟩ := hr a oe d pn hz hf
      exact PSs.imp (pss_one (ps_ret h4)) fun D σ H ⟨x, ρ, S, dv, _, hat, hd, q⟩ => h5 x σ ρ H S _ dv hat hd q
    · exact PSs.imp (pss_one ps_never) fun D σ H ⟨x, ρ, S, dv, e, _⟩ => absurd e hc
/-- the clauses give what the evaluator's give -/
theorem hdl_ok (hexm : ∀ c1 c2 v1 v2, p.xcls c1 = some v1 → p.xcls c2 = some v2 → PySem.W.exmOne p.K v1 v2 = some (decide (c1 = c2))) {E : Ends} {ρ : List Addr} {H : Hp} {x : Exc} {σd : Env} {S' : DS} {XX : Exc → DS → Prop} {rs : List (Nat × HR)} {l : List (Value × Nat × SuT)} (hl : HLinks p rs l)
    (hN : ∀ q ∈ l, ∀ σ' : L2.St, σ'.length = σd.length → q.2.1 < σ'.length)
    (h : Ok (hdl x σd rs S') (FQ p E ρ H) XX) : ∀ σ' ρ' H' cls dx, Mo ρ H ρ' H' → Step p.ρ0 p.H0 ρ' H' → ES p.K p.own p.H0 ρ' H' σ' σd → HS p.K ρ' H' S' → XRep p ρ' H' x cls dx → wHs p.K p.W E l cls dx σ' H' := by
  induction hl with
  | nil => exact fun σ' ρ' H' cls dx m st es hs xr => Ok.pureE h σ' ρ' H' cls dx m st es hs xr
  | @cons c r q rs l hq _ ih =>
    intro σ' ρ' H' cls dx m st es hs xr
    obtain ⟨C, eq, hx⟩ := hq.ex
    rw [hdl] at h
    have hx' : q.1 = .ref C := by rw [eq]
    have e1 := hexm x.c c cls (.ref C) xr.1 hx
    obtain ⟨q1, qi, qt⟩ := q
    simp only at hx' eq
    cases hx'
    obtain rfl : qt = tSu p C qi r := by cases eq; rfl
    by_cases hc : c = x.c
    · rw [if_pos hc] at h
      refine ⟨true, by rw [e1, decide_eq_true hc.symm], fun _ a na => ?_, fun z => by cases z⟩
      have hcls : cls = .ref C := by
        have := xr.1
        rw [← hc, hx] at this
        cases this
        rfl
      subst hcls
      obtain ⟨dv, hd, h2⟩ := Ok.ofO.mp (Ok.bind.mp h)
      have hlt := hN _ (List.mem_cons_self ..) σ' es.len
      refine ⟨x, ρ', S', dv, rfl, ⟨by rw [List.getElem?_set_self hlt], hs, xr⟩, hd, fun v H2 st2 hs2 rv => ?_⟩
      exact Ok.pureE h2 v ρ' H2 (m.trans st2.mo) (st.trans st2) hs2 rv
    · rw [if_neg hc] at h
      refine ⟨false, by rw [e1, decide_eq_false (fun z => hc z.symm)], fun z => Bool.noConfusion z, fun _ => ?_⟩
      exact ih (fun q hq => hN q (List.mem_cons_of_mem _ hq)) h σ' ρ' H' cls dx m st es hs xr
theorem st_try (g : Good X p) (hst : X.stack = X.env :: X.outer) (hfr : X.env.frame = some X.env.locals) (hexm : ∀ c1 c2 v1 v2, p.xcls c1 = some v1 → p.xcls c2 = some v2 → PySem.W.exmOne p.K v1 v2 = some (decide (c1 = c2))) {body : List Stmt} {b : Ss} {h : ExceptHandler} {hs : List ExceptHandler} {rs : List (Nat × HR)} {pos : Pos}
    (hb : ∀ (W : WX) (pn : List (Addr × Obj)) (xe : Value → Shared → Prop), Takes (X.tr pn xe) W → PassesOwn (model X.prog X.w) X.A X.env xe → PSs (X.tr pn xe) body (tSs { p with W := W } b))
    (hh : HdsOkX X p (h :: hs) rs) : PS X (.Try body (h :: hs) [] [] pos) (tS p (.tryR b rs)) := by
  obtain ⟨l, ha, hl⟩ := hh.links
  refine ⟨fun pins s σ H E I0 ⟨ρ, σd, S, XX, at', h⟩ => (ps_try_hs hst hfr g.nd g.tk hb ha).run pins s σ H E I0 ?_⟩
  have hlen : σ.length = X.N.length := I0.len
  rw [evS] at h
  refine ⟨ρ, σd, S, XX, ⟨at'.es, at'.hs, at'.st⟩, ?_⟩
  have h := Ok.bind.mp h
  cases ev : evSs p.cf p.fuel b σd S with
  | bad => rw [ev] at h; exact h
  | exc x S1 => rw [ev] at h; exact h
  | ok fl S1 =>
    rw [ev] at h
    cases fl with
    | nx σd' => exact h
    | bk σd' => exact h
    | ct σd' => exact h
    | rt d => exact h
    | ex x σd' =>
      have e1 : σd'.length = σd.length := evSs_len b σd rfl _ _ _ ev
      have e2 : σd.length = X.N.length := by rw [← hlen, at'.es.len]
      have hN : ∀ q ∈ l, ∀ σ' : L2.St, σ'.length = σd'.length → q.2.1 < σ'.length := fun q hq σ' hσ => by
        rw [hσ, e1, e2]
        have : ∀ {hds : List ExceptHandler} {l : List (Value × Nat × SuT)}, HdA X hds l → ∀ q ∈ l, q.2.1 < X.N.length := by
          intro hds l hA
          induction hA with
          | nil => intro q hq; cases hq
          | cons hc hi hl hsu r ih =>
            intro q hq
            rcases List.mem_cons.mp hq with rfl | hq
            · exact (List.getElem?_eq_some_iff.mp hi).1
            · exact ih q hq
        exact this ha q hq
      have := hdl_ok (p := p) hexm hl hN h
      rw [← g.K]
      exact this
end
/-! ### a[i], b[j] = e -/
section
variable {X : Cx} {p : Pm}
theorem sub_reading {a i : E} {σ : L2.St} {ρ : List Addr} {H : Hp} {σd : Env} {S : DS} {z : D} {vz : V} {k : Unit → M Fl} {P : Fl → DS → Prop} {Q : L2.St → Hp → Prop} (es : ES p.K p.own p.H0 ρ H σ σd) (hs : HS p.K ρ H S) (rz : Rep p.K ρ H vz z)
    (h : Ok ((evE p.cf a σd >>= fun x => evE p.cf i σd >>= fun y => setM x y z >>= k) S) P (XQ p σ ρ H))
    (f : ∀ ρ1 H1 S1, Step ρ H ρ1 H1 → HS p.K ρ1 H1 S1 → ES p.K p.own p.H0 ρ1 H1 σ σd → Ok (k () S1) P (XQ p σ ρ1 H1) → Q σ H1) : gSub (tE p a) (tE p i) rSetL vz σ H Q := by
  refine seq2 es hs h fun vx vy x y ρ2 H2 S2 st2 hs2 es2 rx ry rvx rvy h2 => ?_
  have h2 := Ok.bind.mp h2
  unfold setM at h2
  obtain ⟨n, a', zs, ds, ea, er, e, eh, rs, h3⟩ := lstM_ok hs2 rx.v h2
  have hy : ∃ i, y = .int i := by cases y <;> first | exact h3.elim | exact ⟨_, rfl⟩
  obtain ⟨i, rfl⟩ := hy
  obtain ⟨j, hj, h4⟩ := Ok.ofO.mp (Ok.bind.mp h3)
  have h4' : Ok ((wrM n (ds.set j z) >>= fun u => (Pure.pure u : M Unit)) S2) _ _ := Ok.bind.mpr (Ok.mono h4 (fun _ _ q => q) fun _ _ q => q)
  obtain ⟨w1, w2, h5⟩ := wrM_ok hs2 er e (rs.set j (rz.step st2)) h4'
  have q1 := (ixN_eq hj).1
  rw [← rs.length] at q1
  have h6 : Ok (k () (S2.set n (.lst (ds.set j z)))) P (XQ p σ ρ2 H2) := Ok.pureE h5
  exact ⟨a', zs, i, j, ea, ry.v.int_inv, eh, q1, f ρ2 _ _ (st2.trans w1) w2 (es2.step w1) (Ok.mono h6 (fun _ _ q => q) fun _ _ q => q.step w1)⟩
theorem st_asg2 (g : Good X p) {pa pi pb pj pe : E} {o1 i1 o2 i2 ev : Expr} {t1 t2 pt pos : Pos} {kt : Nat} (hv : valE p.own pe = true) (h1 : PE X o1 (tE p pa)) (h2 : PE X i1 (tE p pi)) (h3 : PE X o2 (tE p pb)) (h4 : PE X i2 (tE p pj)) (he : PE X ev (tE p pe))
    (hs : swapsWithSole [.Tuple [.Subscript o1 i1 t1, .Subscript o2 i2 t2] kt pt] ev pos.line X.env = pure false) (hw : swappedStores [.Tuple [.Subscript o1 i1 t1, .Subscript o2 i2 t2] kt pt] ev X.env = pure none)
    (a1 : ∀ v, assign (.Subscript o1 i1 t1) X.env v = (do
      let ov ← holding [v] (eval o1 X.env)
      let iv ← holding [v, ov] (eval i1 X.env)
      standAt t1
      holding [v, ov, iv] (setItem ov iv v)
      release [v, ov, iv] []))
    (a2 : ∀ v, assign (.Subscript o2 i2 t2) X.env v = (do
      let ov ← holding [v] (eval o2 X.env)
      let iv ← holding [v, ov] (eval i2 X.env)
      standAt t2
      holding [v, ov, iv] (setItem ov iv v)
      release [v, ov, iv] [])) : PS X (.Assign [.Tuple [.Subscript o1 i1 t1, .Subscript o2 i2 t2] kt pt] ev pos) (tS p (.asg2 pa pi pb pj pe)) :=
  PS.imp (ps_asg he (pg_tup g.calm (pgs_cons (pg_sub h1 h2 set_list a1) (pgs_cons (pg_sub h3 h4 set_list a2) pgs_nil rfl) rfl) rfl rfl) hs hw rfl) fun E σ H ⟨ρ, σd, S, XX, at', h⟩ => by
    rw [evS] at h
    refine seq1 at'.es at'.hs (fl_in at' h) fun vz z ρ1 H1 S1 st hs1 es1 rz rvz h1 => ?_
    obtain ⟨⟨z1, z2⟩, hz, h2⟩ := Ok.ofO.mp (Ok.bind.mp h1)
    have hz' : z = .tup [z1, z2] := by
      unfold twoD at hz
      split at hz
      · cases hz; rfl
      · cases hz
    subst hz'
    obtain ⟨a, xs, rfl, hq, rs⟩ := rz.v.tup_inv
    cases rs with
    | @cons v1 _ _ _ r1 rs =>
    cases rs with
    | @cons v2 _ _ _ r2 rs =>
    cases rs
    rw [g.K] at hq
    refine ⟨a, _, rfl, hq, rfl, v1, [v2], rfl, sub_reading es1 hs1 r1 h2 fun ρ2 H2 S2 st2 hs2 es2 h3 => ⟨v2, [], rfl, sub_reading es2 hs2 (r2.step st2) h3 fun ρ3 H3 S3 st3 hs3 es3 h4 => ⟨rfl, ?_⟩⟩⟩
    exact (Ok.pureE h4) σ ρ3 H3 ((st.trans st2).trans st3).mo (at'.st.trans ((st.trans st2).trans st3)) es3 hs3
end
end MP
end
section
set_option Elab.async false
set_option linter.all false
set_option maxRecDepth 100000
set_option maxHeartbeats 8000000
/-! MPG: the checker is right about expressions. -/
namespace MP
open PySem PySem.Spec PyProof.Rows L2

structure Facts (T : Tbl) (P : Program) (w : World) (K : PySem.W.Frag) (mg : Str → Option Value) (base : Heap) (k : Nat) (cf : CF) (xcls : Nat → Option Value) (xname : Nat → Str) : Prop where
  blt : ∀ x, bnames.contains x = true → mg x = none
  gls : ∀ (g : Nat) (x : Str) (d : D), T.gls[g]? = some (x, d) → ∃ v u, mg x = some u ∧ RelV v u ∧ ∀ ρ H, Rep K ρ H v d
  fns : ∀ (f : Nat) (F : FT) (dv : List D), T.fns[f]? = some F → F.dvs.contains dv = true → ∃ adr fd ps ds dvs, mg F.x = some (.ref adr) ∧ PySem.W.keepIn K (.ref adr) = true ∧ Binds K fd ps ds ∧ Vals dvs ds ∧ (∀ ρ H, Reps K ρ H dvs dv) ∧ FnG P w K mg base k adr fd ps (spG K cf f xcls xname)
  xcs : ∀ (c : Nat) (t : XT), T.xcs[c]? = some t → XF P w K mg base xcls xname c t.x t.fids
  xget : ∀ (c : Nat) (t : XT), T.xcs[c]? = some t → ∃ C, mg t.x = some (.ref C) ∧ xcls c = some (.ref C) ∧ XGet K C ∧ ∀ f ∈ t.fids, PySem.W.findIn K (.ref C) (xname f) = some none
  fnm : ∀ (f : Nat) (n : Str), T.fnm[f]? = some n → xname f = n
  exm : ∀ c1 c2 v1 v2, xcls c1 = some v1 → xcls c2 = some v2 → PySem.W.exmOne K v1 v2 = some (decide (c1 = c2))
structure Cok (X : Cx) (p : Pm) (T : Tbl) (c : Cc) (k : Nat) : Prop where
  good : Good X p
  sc : X.env.scope = c.sc
  N : X.N = c.N
  own : p.own = c.own
  fn : ∀ x, c.fnOk x = true → X.fn x = true
  room : Room k X.A
  room2 : Room 2 X.A
  fac : Facts T X.prog X.w X.K X.mg X.base k p.cf p.xcls p.xname
section
variable {X : Cx} {p : Pm} {T : Tbl} {c : Cc} {k : Nat}
theorem Cok.blk (C : Cok X p T c k) (s : Shared) (H : Hp) (scope : Scope) (D : Addr) (cl : List (Str × Addr)) (fp : List Addr) : Cok (X.blk s H scope (compEnvC scope cl D X.env) fp) p.calm T ⟨blkS scope c.sc, c.N, c.own, some scope⟩ k where
  good := ⟨C.good.K, C.good.calm, C.good.nd, C.good.un, C.good.gd, takes0⟩
  sc := by
    show relS scope X.env.scope = relS scope c.sc
    rw [C.sc]
  N := C.N
  own := C.own
  fn := fun x h => h
  room := C.room
  room2 := C.room2
  fac := C.fac
theorem Cok.tr (C : Cok X p T c k) {W : WX} {pn : List (Addr × Obj)} {xe : Value → Shared → Prop} (tk : Takes (X.tr pn xe) W) : Cok (X.tr pn xe) { p with W := W } T c k where
  good := ⟨C.good.K, C.good.calm, C.good.nd, C.good.un, C.good.gd, tk⟩
  sc := C.sc
  N := C.N
  own := C.own
  fn := C.fn
  room := C.room
  room2 := C.room2
  fac := C.fac
theorem star1 {e : Expr} (h : isStar e = false) (es : List Expr) (env : PySem.Env) : starEach (e :: es) env = (false, eval e env) :: starEach es env := by
  cases e <;> first | rfl | (simp [isStar] at h)
theorem nostar (es : List Expr) (env : PySem.Env) (pos : Pos) (h : ∀ e ∈ es, isStar e = false) : (backTo pos (starEach es env)).any (·.1) = false := by
  induction es with
  | nil => rfl
  | cons e es ih =>
    rw [star1 (h e (List.mem_cons_self ..))]
    show (false || (backTo pos (starEach es env)).any (·.1)) = false
    rw [ih fun e he => h e (List.mem_cons_of_mem _ he)]
    rfl
theorem glo_gl (C : Cok X p T c k) {x : Str} (h : glo c.sc x = true) : Gl X x ∧ (x == ("__debug__" : Str)) = false ∧ (x == ("__classdict__" : Str)) = false ∧ x ≠ "__name__" := by
  unfold glo nmOk at h
  simp only [Bool.and_eq_true, Bool.not_eq_true', beq_iff_eq] at h
  refine ⟨?_, h.2.1.1, h.2.1.2, fun e => ?_⟩
  · show X.env.kindOf x = _
    unfold Env.kindOf
    rw [C.sc]
    exact h.1
  · have := h.2.2
    rw [e, beq_self_eq_true] at this
    cases this
theorem gblt_ok (C : Cok X p T c k) {x : Str} (h : gblt c.sc x = true) : Gl X x ∧ X.mg x = none ∧ (x == ("__debug__" : Str)) = false ∧ x ≠ "__name__" := by
  unfold gblt at h
  rw [Bool.and_eq_true] at h
  obtain ⟨h1, h2, _, h3⟩ := glo_gl C h.1
  exact ⟨h1, C.fac.blt x h.2, h2, h3⟩
theorem vis_ok (C : Cok X p T c k) {x : Str} (h : vis c.sc x = true) : Vis X.env.scope x := by
  unfold vis at h
  rw [C.sc]
  simp only [Bool.or_eq_true, beq_iff_eq] at h
  rcases h with (h | h) | h
  · exact .inl h
  · exact .inr (.inl h)
  · exact .inr (.inr h)
theorem loc_ok (C : Cok X p T c k) {x : Str} (h : loc c.sc x = true) : Loc X.env.scope x := by
  unfold loc at h
  rw [C.sc]
  simp only [Bool.or_eq_true, beq_iff_eq] at h
  exact h
theorem nm_ok {x : Str} (h : nmOk x = true) : (x == ("__debug__" : Str)) = false ∧ (x == ("__classdict__" : Str)) = false := by
  unfold nmOk at h
  simp only [Bool.and_eq_true, Bool.not_eq_true'] at h
  exact ⟨h.1.1, h.1.2⟩
theorem noset {o : CmpOp} {e : Expr} (h : isSet e = false) : behindInMarks o e = false := by
  cases e <;> first | rfl | (simp [isSet] at h)
theorem nofold {e : Expr} (h : isSet e = false) (env : PySem.Env) (x : Value) : foldedSetIterable e env x = pure x := by
  cases e <;> first | rfl | (simp [isSet] at h)
theorem nobase {e : Expr} (h : isCallE e = false) (m : Str) (env : PySem.Env) : attributeBase e m env (eval e env) = eval e env := by
  cases e <;> first | rfl | (simp [isCallE] at h)
theorem plain_ix {e : Expr} (h : plainI e = true) : PlainIx e := by
  intro o i
  cases e <;> first | rfl | (simp [plainI] at h)
theorem asCall_eq {e : Expr} {x : Str} {es : List Expr} (h : asCall e = some (x, es)) : ∃ pn pos, e = .Call (.Name x pn) es [] pos := by
  unfold asCall at h
  split at h
  · cases h; exact ⟨_, _, rfl⟩
  · cases h
theorem asMeth_eq {e o : Expr} {m : Str} {es : List Expr} (h : asMeth e = some (o, m, es)) : ∃ ap pos, e = .Call (.Attribute o m ap) es [] pos ∧ (ap.endLine == pos.line) = true ∧ isCallE o = false := by
  unfold asMeth at h
  split at h
  · split at h
    · rename_i hc
      rw [Bool.and_eq_true, Bool.not_eq_true'] at hc
      cases h
      exact ⟨_, _, rfl, hc.1, hc.2⟩
    · cases h
  · cases h
theorem few1 {b : Expr} (h : isStar b = false) (env : PySem.Env) (pos : Pos) : ((backTo pos (starEach [b] env)).all (fun x => !x.1) && (backToKw pos (keywordEach [] env)).all (fun x => x.1.isSome) && decide ([b].length + ([] : List Keyword).length + (if ([] : List Keyword).isEmpty then 0 else 1) < 30)) = true := by
  rw [star1 h]
  rfl
/-! ### targets -/
mutual
theorem ckT_ok (C : Cok X p T c k) : ∀ (t : Tg) (e : Expr), ckT c t e = true → PG X e (tG p t)
  | .nm i, e, h => by
    cases e <;> first | (simp [ckT] at h; done) | skip
    rename_i x pos
    simp only [ckT, Bool.and_eq_true, Bool.or_eq_true, beq_iff_eq, Bool.not_eq_true'] at h
    refine sg_nm C.good (by rw [C.N]; exact h.1.1.1) (loc_ok C h.1.1.2) ?_ (by rw [C.own]; exact h.2)
    rcases h.1.2 with h | h
    · exact .inl (C.fn x h)
    · exact .inr (by rw [C.sc]; exact h)
  | .tp ts, e, h => by
    cases e <;> first | (simp [ckT] at h; done) | skip
    rename_i es q pos
    simp only [ckT] at h
    obtain ⟨h1, h2, h3⟩ := ckTs_ok C ts es h
    exact sg_tp C.good h1 h2 h3
theorem ckTs_ok (C : Cok X p T c k) : ∀ (ts : List Tg) (es : List Expr), ckTs c ts es = true → PGs X es (tGs p ts) ∧ (assignEach es X.env).length = ts.length ∧ (assignEach es X.env).findIdx? (·.1) = none
  | [], [], _ => ⟨sgs_nil, rfl, rfl⟩
  | [], _ :: _, h => by simp [ckTs] at h
  | _ :: _, [], h => by simp [ckTs] at h
  | t :: ts, e :: es, h => by
    simp only [ckTs, Bool.and_eq_true, Bool.not_eq_true'] at h
    have ha : assignEach (e :: es) X.env = (false, assign e X.env) :: assignEach es X.env := by
      have := h.1.1
      cases e <;> first | rfl | (simp [isStar] at this)
    obtain ⟨h1, h2, h3⟩ := ckTs_ok C ts es h.2
    refine ⟨sgs_cons (ckT_ok C t e h.1.2) h1 (by rw [ha]; rfl), by rw [ha, List.length_cons, h2, List.length_cons], ?_⟩
    rw [ha, List.findIdx?_cons, h3]
    rfl
end
/-! ### a block's scope -/
theorem blk_ok (C : Cok X p T c k) {scope : Scope} {vs : List Nat} (h : blkOk c.N c.sc scope vs = true) : BlkOk X.N X.env.scope scope (ownOf c.N vs) ∧ (ownOf c.N vs).map (·.2) = vs := by
  unfold blkOk at h
  simp only [Bool.and_eq_true, decide_eq_true_eq, List.all_eq_true, Bool.or_eq_true, Bool.not_eq_true', decide_eq_false_iff_not] at h
  obtain ⟨⟨⟨⟨h1, h2⟩, h3⟩, h4⟩, h5⟩ := h
  refine ⟨⟨h1, h3, fun q hq => ?_, fun y hy e => ?_, fun y hy e => ?_⟩, h2⟩
  · unfold ownOf at hq
    obtain ⟨i, hi, e⟩ := List.mem_filterMap.mp hq
    obtain ⟨x, hx, rfl⟩ := Option.map_eq_some_iff.mp e
    rw [C.N]
    exact hx
  · rw [C.sc]
    rcases h4 y hy with (z | z) | z
    · exact absurd e z
    · exact .inl z
    · exact .inr z
  · rcases h5 y hy with (z | z) | z
    · rcases e with e | e
      · exact absurd e (by simp at z; exact z.1)
      · exact absurd e (by simp at z; exact z.2)
    · exact .inl (List.contains_iff_mem.mp z)
    · rw [C.N]
      exact .inr fun m => by
        rw [List.contains_iff_mem.mpr m] at z
        cases z
theorem subs_ok {as bs : List Nat} (h : subs as bs = true) : ∀ i ∈ as, i ∈ bs := fun i hi => List.contains_iff_mem.mp (List.all_eq_true.mp h i hi)
end
end MP
end
section
set_option Elab.async false
set_option linter.all false
set_option maxRecDepth 100000
set_option maxHeartbeats 16000000
/-! MPH: the checker is right about expressions: the induction. -/
namespace MP
open PySem PySem.Spec PyProof.Rows L2

def SoE (X : Cx) (p : Pm) (e : E) (ex : Expr) : Prop := PE X ex (tE p e) ∧ (isTst ex = true → PT X ex (tT p e)) ∧ (∀ op vs pos, ex = .BoolOp op vs pos → PW X ex (tT p e))
theorem SoE.of {X : Cx} {p : Pm} {e : E} {ex : Expr} (h : PE X ex (tE p e)) (he : ∀ whole, isTrue ex X.env whole = (do let v ← whole; standAt ex.pos; holding [v] (truthy v))) (hb : ∀ op vs pos, ex ≠ .BoolOp op vs pos) : SoE X p e ex :=
  ⟨h, fun _ => pt_of h he, fun op vs pos e => absurd e (hb op vs pos)⟩
theorem SoE.pt {X : Cx} {p : Pm} {e : E} {ex : Expr} (h : SoE X p e ex) (ht : isTst ex = true) : PT X ex (tT p e) := h.2.1 ht
theorem con_ok {X : Cx} {p : Pm} {d : D} {q : Const} {j : Nat} {pos : Pos} (h : conK d q = true) : PE X (.Constant q j pos) (tE p (.con d)) := by
  cases d <;> cases q <;> first | exact (Bool.false_ne_true h).elim | skip
  · exact se_non
  · have := eq_of_beq (show (_ == _) = true from h)
    subst this
    exact se_bl
  · have := eq_of_beq (show (_ == _) = true from h)
    subst this
    exact se_int
  · exact se_str (eq_of_beq (show (_ == _) = true from h))
theorem b1_ok {X : Cx} {p : Pm} {T : Tbl} {c : Cc} {k : Nat} (C : Cok X p T c k) {f : B1} {x : Str} {y : Expr} {a : E} {pn pos : Pos} (hn : b1N f = some x) (hg : gblt c.sc x = true) (hs : isStar y = false) (ha : PE X y (tE p a)) : PE X (.Call (.Name x pn) [y] [] pos) (tE p (.b1 f a)) := by
  obtain ⟨g1, g2, g3, g4⟩ := gblt_ok C hg
  have s1 := star1 hs [] X.env
  have B : ∀ {bid : String}, CallR X (.builtin bid) (rOne p.K (b1D f)) → bootBuiltins x = some (.builtin bid) → PE X (.Call (.Name x pn) [y] [] pos) (tE p (.b1 f a)) := fun hc hv => se_b1B (id := x) f hc g1 g2 hv ha g4 g3 s1 rfl
  have Ty : ∀ {bid : String}, CallR X (.type bid) (rOne p.K (b1D f)) → bootBuiltins x = some (.type bid) → PE X (.Call (.Name x pn) [y] [] pos) (tE p (.b1 f a)) := fun hc hv => se_b1T f hc g1 g2 hv ha g4 g3 s1 rfl
  cases f <;> first | (simp [b1N] at hn; done) | skip
  all_goals (simp only [b1N, Option.some.injEq] at hn; subst hn)
  · exact B (b_len C.good.K) (by decide +kernel)
  · exact Ty (b_int C.good.K) (by decide +kernel)
  · exact Ty (b_str C.good.K) (by decide +kernel)
  · exact B (b_repr C.good.K C.good.gd C.good.un) (by decide +kernel)
  · exact Ty (b_tuple C.good.K) (by decide +kernel)
  · exact B (b_all C.good.K C.good.calm) (by decide +kernel)
  · exact B (b_any C.good.K C.good.calm) (by decide +kernel)
  · exact B (b_sum C.good.K C.good.calm) (by decide +kernel)
theorem isin_ok {X : Cx} {p : Pm} {T : Tbl} {c : Cc} {k : Nat} (C : Cok X p T c k) {t : Ty} {x tx : Str} {y : Expr} {a : E} {pn pt pos : Pos} (hx : x = "isinstance") (ht : tx = tyS t) (hg : gblt c.sc x = true) (hg2 : gblt c.sc tx = true) (hs : isStar y = false) (ha : PE X y (tE p a)) :
    PE X (.Call (.Name x pn) [y, .Name tx pt] [] pos) (tE p (.isin a t)) := by
  obtain ⟨g1, g2, g3, g4⟩ := gblt_ok C hg
  obtain ⟨h1, h2, h3, h4⟩ := gblt_ok C hg2
  subst hx
  have hv : bootBuiltins tx = some (.type (tyN t)) := by subst ht; cases t <;> decide +kernel
  exact se_isin C.good t g1 g2 (by decide +kernel) h1 h2 hv h4 h3 ha (star1 hs _ _) (by rw [star1 rfl]; rfl)
section
variable (T : Tbl) (k : Nat)
mutual
theorem soE : ∀ (e : E) {X : Cx} {p : Pm} {c : Cc} (C : Cok X p T c k) (ex : Expr), ckE T c e ex = true → SoE X p e ex
  | .nop, X, p, c, C, ex, h => by cases ex <;> exact (Bool.false_ne_true h).elim
  | .var i, X, p, c, C, ex, h => by
    cases ex <;> first | exact (Bool.false_ne_true h).elim | skip
    simp only [ckE, Bool.and_eq_true, beq_iff_eq] at h
    obtain ⟨h2, h3⟩ := nm_ok h.2
    exact .of (se_var C.good (by rw [C.N]; exact h.1.1) (vis_ok C h.1.2) h2 h3) (fun _ => rfl) (by intros; intro z; cases z)
  | .con d, X, p, c, C, ex, h => by
    cases ex <;> first | exact (Bool.false_ne_true h).elim | skip
    simp only [ckE] at h
    exact .of (con_ok h) (fun _ => rfl) (by intros; intro z; cases z)
  | .glob g d, X, p, c, C, ex, h => by
    cases ex <;> first | exact (Bool.false_ne_true h).elim | skip
    simp only [ckE, Bool.and_eq_true, decide_eq_true_eq] at h
    obtain ⟨h1, h2, h3, h4⟩ := glo_gl C h.1
    obtain ⟨v, u, g1, g2, g3⟩ := C.fac.gls g _ d h.2
    exact .of (se_glob h1 g1 g2 h2 fun ρ H => by rw [C.good.K]; exact g3 ρ H) (fun _ => rfl) (by intros; intro z; cases z)
  | .bin op a b, X, p, c, C, ex, h => by
    cases ex <;> first | exact (Bool.false_ne_true h).elim | skip
    simp only [ckE, Bool.and_eq_true, bopOk, decide_eq_true_eq] at h
    obtain ⟨⟨rfl, h1⟩, h2⟩ := h
    exact .of (se_bin C.good op (soE a C _ h1).1 (soE b C _ h2).1) (fun _ => rfl) (by intros; intro z; cases z)
  | .neg a, X, p, c, C, ex, h => by
    cases ex <;> first | exact (Bool.false_ne_true h).elim | skip
    rename_i op x pos
    cases op <;> first | exact (Bool.false_ne_true h).elim | skip
    simp only [ckE] at h
    exact .of (se_neg (soE a C _ h).1) (fun _ => rfl) (by intros; intro z; cases z)
  | .no a, X, p, c, C, ex, h => by
    cases ex <;> first | exact (Bool.false_ne_true h).elim | skip
    rename_i op x pos
    cases op <;> first | exact (Bool.false_ne_true h).elim | skip
    simp only [ckE, Bool.and_eq_true] at h
    have s := soE a C _ h.2
    exact ⟨se_no s.1, fun _ => st_no (s.pt h.1), fun op vs pos e => by cases e⟩
  | .and a b, X, p, c, C, ex, h => by
    cases ex <;> first | exact (Bool.false_ne_true h).elim | skip
    rename_i op vs pos
    cases op <;> first | exact (Bool.false_ne_true h).elim | skip
    match vs, h with
    | [], h => exact (Bool.false_ne_true h).elim
    | [_], h => exact (Bool.false_ne_true h).elim
    | x :: y :: [], h =>
      simp only [ckE, Bool.and_eq_true] at h
      have s1 := soE a C _ h.1.2
      have s2 := soE b C _ h.2.2
      have w := st_and (pos := pos) (s1.pt h.1.1) (pw_and1 (s2.pt h.2.1))
      exact ⟨se_and s1.1 (pe_one s2.1), fun _ => w.pt, fun _ _ _ e => w⟩
    | x :: y :: z :: r, h =>
      simp only [ckE, Bool.and_eq_true] at h
      have s1 := soE a C _ h.1.2
      have s2 := soE b C _ h.2
      have w := st_and (pos := pos) (s1.pt h.1.1) (s2.2.2 _ _ _ rfl)
      exact ⟨se_and s1.1 s2.1, fun _ => w.pt, fun _ _ _ e => w⟩
  | .or a b, X, p, c, C, ex, h => by
    cases ex <;> first | exact (Bool.false_ne_true h).elim | skip
    rename_i op vs pos
    cases op <;> first | exact (Bool.false_ne_true h).elim | skip
    match vs, h with
    | [], h => exact (Bool.false_ne_true h).elim
    | [_], h => exact (Bool.false_ne_true h).elim
    | x :: y :: [], h =>
      simp only [ckE, Bool.and_eq_true] at h
      have s1 := soE a C _ h.1.2
      have s2 := soE b C _ h.2.2
      have w := st_or (pos := pos) (s1.pt h.1.1) (pw_or1 (s2.pt h.2.1))
      exact ⟨se_or s1.1 (pe_one s2.1), fun _ => w.pt, fun _ _ _ e => w⟩
    | x :: y :: z :: r, h =>
      simp only [ckE, Bool.and_eq_true] at h
      have s1 := soE a C _ h.1.2
      have s2 := soE b C _ h.2
      have w := st_or (pos := pos) (s1.pt h.1.1) (s2.2.2 _ _ _ rfl)
      exact ⟨se_or s1.1 s2.1, fun _ => w.pt, fun _ _ _ e => w⟩
  | .cmp op a b, X, p, c, C, ex, h => by
    cases ex <;> first | exact (Bool.false_ne_true h).elim | skip
    rename_i l os rs pos
    match os, rs, h with
    | [], _, h => exact (Bool.false_ne_true h).elim
    | [_], [], h => exact (Bool.false_ne_true h).elim
    | [_], _ :: _ :: _, h => exact (Bool.false_ne_true h).elim
    | _ :: _ :: _, _, h => exact (Bool.false_ne_true h).elim
    | [o], [r], h =>
      simp only [ckE, Bool.and_eq_true, decide_eq_true_eq, Bool.not_eq_true'] at h
      obtain ⟨⟨⟨rfl, h1⟩, h2⟩, h3⟩ := h
      have s1 := soE a C _ h2
      have s2 := soE b C _ h3
      exact ⟨se_cmp C.good op s1.1 s2.1 (noset h1), fun _ => st_cmp C.good op s1.1 s2.1 (noset h1), fun op vs pos e => by cases e⟩
  | .chain o1 o2 a b d, X, p, c, C, ex, h => by
    cases ex <;> first | exact (Bool.false_ne_true h).elim | skip
    rename_i l os rs pos
    match os, rs, h with
    | [q1, q2], [m, r], h =>
      simp only [ckE, Bool.and_eq_true, decide_eq_true_eq, Bool.not_eq_true'] at h
      obtain ⟨⟨⟨⟨⟨rfl, rfl⟩, h1⟩, h2⟩, h3⟩, h4⟩ := h
      have s1 := soE a C _ h2
      have s2 := soE b C _ h3
      have s3 := soE d C _ h4
      have hm : lastMarks [copOf o1, copOf o2] [m, r] = false := noset h1
      exact ⟨se_chain C.good o1 o2 s1.1 s2.1 s3.1 hm, fun _ => st_chain C.good o1 o2 s1.1 s2.1 s3.1 hm, fun op vs pos e => by cases e⟩
    | [], _, h => exact (Bool.false_ne_true h).elim
    | [_], _, h => exact (Bool.false_ne_true h).elim
    | _ :: _ :: _ :: _, _, h => exact (Bool.false_ne_true h).elim
    | [_, _], [], h => exact (Bool.false_ne_true h).elim
    | [_, _], [_], h => exact (Bool.false_ne_true h).elim
    | [_, _], _ :: _ :: _ :: _, h => exact (Bool.false_ne_true h).elim
  | .ite t a b, X, p, c, C, ex, h => by
    cases ex <;> first | exact (Bool.false_ne_true h).elim | skip
    simp only [ckE, Bool.and_eq_true] at h
    exact ⟨se_ite ((soE t C _ h.1.1.2).pt h.1.1.1) (soE a C _ h.1.2).1 (soE b C _ h.2).1, fun z => (Bool.false_ne_true z).elim, fun op vs pos e => by cases e⟩
  | .tup es, X, p, c, C, ex, h => by
    cases ex <;> first | exact (Bool.false_ne_true h).elim | skip
    simp only [ckE, Bool.and_eq_true, decide_eq_true_eq] at h
    obtain ⟨h1, h2⟩ := soEs es C _ h.2
    refine .of (se_tup h1 h.1 fun cf σ S P XX q => ?_) (fun _ => rfl) (by intros; intro z; cases z)
    rw [h2]
    exact evEs_len cf es σ S P XX q
  | .fz l, X, p, c, C, ex, h => by
    have s := soL l C ex (by cases ex <;> exact h)
    exact .of (se_fz s.1) s.2.1 s.2.2
  | .al l, X, p, c, C, ex, h => by
    have s := soL l C ex (by cases ex <;> exact h)
    exact .of (se_al s.1) s.2.1 s.2.2
  | .call f es dv, X, p, c, C, ex, h => by
    have h : (match asCall ex with
      | some (x, xs) => glo c.sc x && (match T.fns[f]? with | some F => F.x == x && F.dvs.contains dv | none => false) && ckEs T c es xs
      | none => false) = true := by cases ex <;> exact h
    cases e1 : asCall ex with
    | none => rw [e1] at h; exact (Bool.false_ne_true h).elim
    | some q =>
      obtain ⟨x, xs⟩ := q
      rw [e1] at h
      obtain ⟨pn, pos, rfl⟩ := asCall_eq e1
      replace h : (glo c.sc x && (match T.fns[f]? with | some F => F.x == x && F.dvs.contains dv | none => false) && ckEs T c es xs) = true := h
      simp only [Bool.and_eq_true] at h
      cases e2 : T.fns[f]? with
      | none => rw [e2] at h; exact (Bool.false_ne_true h.1.2).elim
      | some F =>
        rw [e2] at h
        simp only [Bool.and_eq_true, beq_iff_eq] at h
        obtain ⟨⟨h1, rfl, h2⟩, h3⟩ := h
        obtain ⟨g1, g2, g3, g4⟩ := glo_gl C h1
        obtain ⟨adr, fd, ps, ds, dvs, f1, f2, f3, f4, f5, f6⟩ := C.fac.fns f F dv e2 h2
        obtain ⟨s1, s2⟩ := soEs es C xs h3
        have st := soStar es C xs h3
        have f6' : FnG X.prog X.w X.K X.mg X.base k adr fd ps (spG p.K p.cf f p.xcls p.xname) := by rw [C.good.K]; exact f6
        have f5' : ∀ ρ H, Reps p.K ρ H dvs dv := by rw [C.good.K]; exact f5
        cases xs with
        | nil =>
          cases es with
          | nil => exact .of (se_call0 C.good f6' C.room g1 f1 f2 f3 f4 f5' g2) (fun _ => rfl) (by intros; intro z; cases z)
          | cons e es => exact (Bool.false_ne_true h3).elim
        | cons y ys =>
          exact .of (se_call C.good f6' C.room g1 f1 f2 f3 f4 f5' s1 g2 (star1 (st y (List.mem_cons_self ..)) _ _) (nostar _ _ _ fun e he => st e (List.mem_cons_of_mem _ he))) (fun _ => rfl) (by intros; intro z; cases z)
  | .b1 f a, X, p, c, C, ex, h => by
    have go : (match asCall ex, b1N f with
      | some (x, [y]), some x' => x == x' && gblt c.sc x && !isStar y && ckE T c a y
      | _, _ => false) = true → SoE X p (.b1 f a) ex := fun h => by
      cases e1 : asCall ex with
      | none => rw [e1] at h; exact (Bool.false_ne_true h).elim
      | some q =>
        obtain ⟨x, xs⟩ := q
        rw [e1] at h
        match xs, e1, h with
        | [], _, h => exact (Bool.false_ne_true h).elim
        | _ :: _ :: _, _, h => exact (Bool.false_ne_true h).elim
        | [y], e1, h =>
          cases e2 : b1N f with
          | none => rw [e2] at h; exact (Bool.false_ne_true h).elim
          | some x' =>
            rw [e2] at h
            simp only [Bool.and_eq_true, beq_iff_eq, Bool.not_eq_true'] at h
            obtain ⟨⟨⟨rfl, h1⟩, h2⟩, h3⟩ := h
            obtain ⟨pn, pos, rfl⟩ := asCall_eq e1
            exact .of (b1_ok C e2 h1 h2 (soE a C _ h3).1) (fun _ => rfl) (by intros; intro z; cases z)
    by_cases hf : f = .lenset
    · subst hf
      rw [ckE.eq_def] at h
      split at h <;> first | (exfalso; simp_all; done) | skip
      · rename_i c1 c2 e1 e2 a2 x q1 y q2 z q3 q4 heq
        cases heq
        simp only [Bool.and_eq_true, beq_iff_eq, Bool.not_eq_true'] at h
        obtain ⟨⟨⟨⟨⟨rfl, rfl⟩, h1⟩, h2⟩, h3⟩, h4⟩ := h
        obtain ⟨g1, g2, g3, g4⟩ := gblt_ok C h1
        obtain ⟨k1, k2, k3, k4⟩ := gblt_ok C h2
        exact .of (se_lenset C.good g1 g2 k1 k2 (soE a C _ h4).1 (star1 h3 _ _) (star1 rfl _ _)) (fun _ => rfl) (by intros; intro z; cases z)
      · rename_i c1 e1 c2 e2 e3 f2 a2 heq hno
        cases heq
        cases e4 : asCall e1 with
        | none => rw [e4] at h; exact (Bool.false_ne_true h).elim
        | some q =>
          obtain ⟨x, xs⟩ := q
          rw [e4] at h
          match xs, h with
          | [], h => exact (Bool.false_ne_true h).elim
          | [_], h => exact (Bool.false_ne_true h).elim
          | _ :: _ :: _, h => exact (Bool.false_ne_true h).elim
    · refine go ?_
      rw [ckE] at h
      · exact h
      · intros
        simp_all
  | .b2 f a b, X, p, c, C, ex, h => by
    cases f
    · have h : (match asMeth ex with
        | some (o, m, [y]) => m == ("join" : Str) && !isStar y && ckE T c a o && ckE T c b y
        | _ => false) = true := by cases ex <;> exact h
      cases e1 : asMeth ex with
      | none => rw [e1] at h; exact (Bool.false_ne_true h).elim
      | some q =>
        obtain ⟨o, m, xs⟩ := q
        rw [e1] at h
        match xs, e1, h with
        | [], _, h => exact (Bool.false_ne_true h).elim
        | _ :: _ :: _, _, h => exact (Bool.false_ne_true h).elim
        | [y], e1, h =>
          replace h : (m == ("join" : Str) && !isStar y && ckE T c a o && ckE T c b y) = true := h
          simp only [Bool.and_eq_true, beq_iff_eq, Bool.not_eq_true'] at h
          obtain ⟨⟨⟨rfl, h1⟩, h2⟩, h3⟩ := h
          obtain ⟨ap, pos, rfl, hl, hc⟩ := asMeth_eq e1
          exact .of (se_join C.good (soE a C _ h2).1 (soE b C _ h3).1 (star1 h1 _ _) (nobase hc _ _) hl) (fun _ => rfl) (by intros; intro z; cases z)
    · cases ex <;> exact (Bool.false_ne_true h).elim
  | .idx a i, X, p, c, C, ex, h => by
    cases ex <;> first | exact (Bool.false_ne_true h).elim | skip
    simp only [ckE, Bool.and_eq_true] at h
    exact .of (se_idx C.good (soE a C _ h.1.2).1 (soE i C _ h.2).1 (plain_ix h.1.1)) (fun _ => rfl) (by intros; intro z; cases z)
  | .sl a lo hi, X, p, c, C, ex, h => by
    cases ex <;> first | exact (Bool.false_ne_true h).elim | skip
    rename_i o sx pos
    cases sx <;> first | exact (Bool.false_ne_true h).elim | skip
    rename_i l u st q
    cases st <;> first | exact (Bool.false_ne_true h).elim | skip
    simp only [ckE, Bool.and_eq_true] at h
    obtain ⟨⟨h1, h2⟩, h3⟩ := h
    have P1 : PO X l (tP p lo) := by
      cases l with
      | none => cases lo <;> first | exact (Bool.false_ne_true h2).elim | exact sp_none
      | some x =>
        simp only [Bool.and_eq_true, Bool.not_eq_true'] at h2
        exact sp_some (soE lo C _ h2.2).1 fun z => by rw [z] at h2; exact Bool.noConfusion h2.1
    have P2 : PO X u (tP p hi) := by
      cases u with
      | none => cases hi <;> first | exact (Bool.false_ne_true h3).elim | exact sp_none
      | some x =>
        simp only [Bool.and_eq_true, Bool.not_eq_true'] at h3
        exact sp_some (soE hi C _ h3.2).1 fun z => by rw [z] at h3; exact Bool.noConfusion h3.1
    exact .of (se_sl C.good (soE a C _ h1).1 P1 P2) (fun _ => rfl) (by intros; intro z; cases z)
  | .isin a t, X, p, c, C, ex, h => by
    have h : (match asCall ex with
      | some (x, [y, .Name tx _]) => x == ("isinstance" : Str) && tx == tyS t && gblt c.sc x && gblt c.sc tx && !isStar y && ckE T c a y
      | _ => false) = true := by cases ex <;> exact h
    split at h
    · rename_i x y tx pt e1
      simp only [Bool.and_eq_true, beq_iff_eq, Bool.not_eq_true'] at h
      obtain ⟨⟨⟨⟨⟨h1, h2⟩, h3⟩, h4⟩, h5⟩, h6⟩ := h
      obtain ⟨pn, pos, rfl⟩ := asCall_eq e1
      exact .of (isin_ok C h1 h2 h3 h4 h5 (soE a C _ h6).1) (fun _ => rfl) (by intros; intro z; cases z)
    · exact (Bool.false_ne_true h).elim
  | .pop a i, X, p, c, C, ex, h => by
    have h : (match asMeth ex with
      | some (o, m, []) => m == ("pop" : Str) && isNop i && ckE T c a o
      | some (o, m, [y]) => m == ("pop" : Str) && !isStar y && !isNop i && ckE T c a o && ckE T c i y
      | _ => false) = true := by cases ex <;> exact h
    split at h
    · rename_i o m e1
      simp only [Bool.and_eq_true, beq_iff_eq] at h
      obtain ⟨⟨rfl, h1⟩, h2⟩ := h
      obtain ⟨ap, pos, rfl, hl, hc⟩ := asMeth_eq e1
      have hi : i = .nop := by cases i <;> first | exact (Bool.false_ne_true h1).elim | rfl
      subst hi
      exact .of (se_pop C.good (soE a C _ h2).1 (nobase hc _ _) hl) (fun _ => rfl) (by intros; intro z; cases z)
    · rename_i o m y e1
      simp only [Bool.and_eq_true, beq_iff_eq, Bool.not_eq_true'] at h
      obtain ⟨⟨⟨⟨rfl, h1⟩, h2⟩, h3⟩, h4⟩ := h
      obtain ⟨ap, pos, rfl, hl, hc⟩ := asMeth_eq e1
      exact .of (se_popAt C.good (soE a C _ h3).1 (soE i C _ h4).1 (fun z => by rw [z] at h2; exact Bool.noConfusion h2) (nobase hc _ _) (few1 h1 _ _) hl (star1 h1 _ _) rfl) (fun _ => rfl) (by intros; intro z; cases z)
    · exact (Bool.false_ne_true h).elim
  | .app a b, X, p, c, C, ex, h => by
    have h : (match asMeth ex with
      | some (o, m, [y]) => m == ("append" : Str) && !isStar y && valE c.own b && ckE T c a o && ckE T c b y
      | _ => false) = true := by cases ex <;> exact h
    split at h
    · rename_i o m y e1
      simp only [Bool.and_eq_true, beq_iff_eq, Bool.not_eq_true'] at h
      obtain ⟨⟨⟨⟨rfl, h1⟩, h2⟩, h3⟩, h4⟩ := h
      obtain ⟨ap, pos, rfl, hl, hc⟩ := asMeth_eq e1
      exact .of (se_app C.good (soE a C _ h3).1 (soE b C _ h4).1 (by rw [C.own]; exact h2) (nobase hc _ _) (few1 h1 _ _) hl (star1 h1 _ _) rfl) (fun _ => rfl) (by intros; intro z; cases z)
    · exact (Bool.false_ne_true h).elim
  | .lindex a b, X, p, c, C, ex, h => by
    have h : (match asMeth ex with
      | some (o, m, [y]) => m == ("index" : Str) && !isStar y && ckE T c a o && ckE T c b y
      | _ => false) = true := by cases ex <;> exact h
    split at h
    · rename_i o m y e1
      simp only [Bool.and_eq_true, beq_iff_eq, Bool.not_eq_true'] at h
      obtain ⟨⟨⟨rfl, h1⟩, h2⟩, h3⟩ := h
      obtain ⟨ap, pos, rfl, hl, hc⟩ := asMeth_eq e1
      exact .of (se_lindex C.good (soE a C _ h2).1 (soE b C _ h3).1 (nobase hc _ _) (few1 h1 _ _) hl (star1 h1 _ _) rfl) (fun _ => rfl) (by intros; intro z; cases z)
    · exact (Bool.false_ne_true h).elim
theorem soEs : ∀ (es : Es) {X : Cx} {p : Pm} {c : Cc} (C : Cok X p T c k) (xs : List Expr), ckEs T c es xs = true → PA X xs (tEs p es) ∧ xs.length = es.len
  | .nil, X, p, c, C, [], h => ⟨ses_nil, rfl⟩
  | .nil, X, p, c, C, _ :: _, h => (Bool.false_ne_true h).elim
  | .cons e es, X, p, c, C, [], h => (Bool.false_ne_true h).elim
  | .cons e es, X, p, c, C, x :: xs, h => by
    simp only [ckEs, Bool.and_eq_true, Bool.not_eq_true'] at h
    obtain ⟨h1, h2⟩ := soEs es C xs h.2
    exact ⟨ses_cons (soE e C x h.1.2).1 h1 (by rw [C.own]; exact h.1.1.2) (star1 h.1.1.1 _ _), by rw [List.length_cons, h2, Es.len]⟩
theorem soStar : ∀ (es : Es) {X : Cx} {p : Pm} {c : Cc} (C : Cok X p T c k) (xs : List Expr), ckEs T c es xs = true → ∀ x ∈ xs, isStar x = false
  | .nil, X, p, c, C, [], h => fun x hx => by simp at hx
  | .nil, X, p, c, C, _ :: _, h => (Bool.false_ne_true h).elim
  | .cons e es, X, p, c, C, [], h => (Bool.false_ne_true h).elim
  | .cons e es, X, p, c, C, x :: xs, h => by
    simp only [ckEs, Bool.and_eq_true, Bool.not_eq_true'] at h
    intro y hy
    rcases List.mem_cons.mp hy with rfl | hy
    · exact h.1.1.1
    · exact soStar es C xs h.2 y hy
theorem soL : ∀ (l : L) {X : Cx} {p : Pm} {c : Cc} (C : Cok X p T c k) (ex : Expr), ckL T c l ex = true → PE X ex (tL p l) ∧ (∀ whole, isTrue ex X.env whole = (do let v ← whole; standAt ex.pos; holding [v] (truthy v))) ∧ (∀ op vs pos, ex ≠ .BoolOp op vs pos)
  | .disp es, X, p, c, C, ex, h => by
    rw [ckL.eq_def] at h
    split at h <;> first | (exfalso; simp_all; done) | skip
    rename_i heq
    cases heq
    simp only [Bool.and_eq_true, decide_eq_true_eq] at h
    obtain ⟨h1, h2⟩ := soEs es C _ h.2
    refine ⟨sl_disp h1 h.1 fun cf σ S P XX q => ?_, fun _ => rfl, by intros; intro z; cases z⟩
    rw [h2]
    exact evEs_len cf es σ S P XX q
  | .comp vs el t s d, X, p, c, C, ex, h => by
    rw [ckL.eq_def] at h
    split at h <;> first | (exfalso; simp_all; done) | skip
    rename_i c c' l' e' vs' el' t' s' d' x tg it ifs scope pos heq
    cases heq
    simp only [Bool.and_eq_true, Bool.not_eq_true'] at h
    obtain ⟨⟨⟨⟨⟨⟨⟨h1, h2⟩, h3⟩, h4⟩, h5⟩, h6⟩, h7⟩, h8⟩ := h
    obtain ⟨b1, b2⟩ := blk_ok C h1
    refine ⟨sl_comp C.good (own := ownOf c.N vs) ⟨soSrc s C _ _ h5, b1, b2, fun s H D cl fp => ckT_ok (C.blk s H scope D cl fp) t tg h6, fun s H D cl fp => ?_, fun s H D cl fp => (soE el (C.blk s H scope D cl fp) _ h8).1, nofold h4 _, by rw [C.own]; exact h3, subs_ok h2⟩, fun _ => rfl, by intros; intro z; cases z⟩
    match ifs, h7 with
    | [], h7 =>
      have hd : d = .nop := by cases d <;> first | exact (Bool.false_ne_true h7).elim | rfl
      subst hd
      exact sc_none
    | [y], h7 =>
      simp only [Bool.and_eq_true, Bool.not_eq_true'] at h7
      exact sc_one ((soE d (C.blk s H scope D cl fp) _ h7.2).pt h7.1.1) fun z => by rw [z] at h7; exact Bool.noConfusion h7.1.2
    | _ :: _ :: _, h7 => exact (Bool.false_ne_true h7).elim
  | .comp2 vs vs2 el t s d t2 s2 d2, X, p, c, C, ex, h => by
    rw [ckL.eq_def] at h
    split at h <;> first | (exfalso; simp_all; done) | skip
    rename_i c c' l' e' vs' vs2' el' t' s' d' t2' s2' d2' x tg it ifs tg2 it2 ifs2 scope pos heq
    cases heq
    simp only [Bool.and_eq_true, Bool.not_eq_true'] at h
    obtain ⟨⟨⟨⟨⟨⟨⟨⟨⟨⟨⟨⟨⟨⟨h1, h2⟩, h3⟩, h4⟩, h5⟩, h6⟩, h7⟩, h8⟩, h9⟩, h10⟩, h11⟩, h12⟩, h13⟩, h14⟩, h15⟩ := h
    obtain ⟨b1, b2⟩ := blk_ok C h1
    have tst : ∀ (d : E) (ifs : List Expr) (s : Shared) (H : Hp) (D : Addr) (cl : List (Str × Addr)) (fp : List Addr), (∀ y, ifs = [y] → isNop d = false → ckE T ⟨blkS scope c.sc, c.N, c.own, some scope⟩ d y = true → SoE (X.blk s H scope (compEnvC scope cl D X.env) fp) p.calm d y) →
        (match ifs with | [] => isNop d | [y] => isTst y && !isNop d && ckE T ⟨blkS scope c.sc, c.N, c.own, some scope⟩ d y | _ => false) = true → PTs (X.blk s H scope (compEnvC scope cl D X.env) fp) ifs (tC p.calm d) := fun d ifs s H D cl fp so h7 => by
      match ifs, h7, so with
      | [], h7, so =>
        have hd : d = .nop := by cases d <;> first | exact (Bool.false_ne_true h7).elim | rfl
        subst hd
        exact sc_none
      | [y], h7, so =>
        simp only [Bool.and_eq_true, Bool.not_eq_true'] at h7
        exact sc_one ((so y rfl h7.1.2 h7.2).pt h7.1.1) fun z => by rw [z] at h7; exact Bool.noConfusion h7.1.2
      | _ :: _ :: _, h7, so => exact (Bool.false_ne_true h7).elim
    exact ⟨sl_comp2 C.good (own := ownOf c.N vs) ⟨soSrc s C _ _ h9, b1, b2, subs_ok h2, fun s H D cl fp => ckT_ok (C.blk s H scope D cl fp) t tg h10,
      fun s H D cl fp => tst d ifs s H D cl fp (fun y _ _ hy => soE d (C.blk s H scope D cl fp) y hy) h11, fun s H D cl fp => soSrc s2 (C.blk s H scope D cl fp) _ _ h12, fun s H D cl fp => ckT_ok (C.blk s H scope D cl fp) t2 tg2 h13,
      fun s H D cl fp => tst d2 ifs2 s H D cl fp (fun y _ _ hy => soE d2 (C.blk s H scope D cl fp) y hy) h14, fun s H D cl fp => (soE el (C.blk s H scope D cl fp) _ h15).1, nofold h7 _, fun env => nofold h8 env,
      by rw [C.own]; exact h6, fun i hi => by rw [C.own]; simpa using List.all_eq_true.mp h3 i hi, subs_ok h4, subs_ok h5⟩, fun _ => rfl, by intros; intro z; cases z⟩
  | .l1 f a, X, p, c, C, ex, h => by
    rw [ckL.eq_def] at h
    split at h <;> first | (exfalso; simp_all; done) | skip
    rename_i heq
    cases heq
    split at h
    · rename_i x y e1
      simp only [Bool.and_eq_true, beq_iff_eq, Bool.not_eq_true'] at h
      obtain ⟨⟨⟨hx, h1⟩, h2⟩, h3⟩ := h
      obtain ⟨pn, pos, rfl⟩ := asCall_eq e1
      obtain ⟨g1, g2, g3, g4⟩ := gblt_ok C h1
      have ha := (soE a C _ h3).1
      refine ⟨?_, fun _ => rfl, by intros; intro z; cases z⟩
      cases f
      · exact sl_l1T .list (b_list C.good.K C.good.calm) g1 g2 (by rw [hx]; decide +kernel) ha g4 g3 (star1 h2 _ _) rfl
      · exact sl_l1B (id := x) .sorted (b_sorted C.good.K) g1 g2 (by rw [hx]; decide +kernel) ha g4 g3 (star1 h2 _ _) rfl
    · exact (Bool.false_ne_true h).elim
  | .l2 f a b, X, p, c, C, ex, h => by
    rw [ckL.eq_def] at h
    split at h <;> first | (exfalso; simp_all; done) | skip
    · rename_i heq
      cases heq
      simp only [Bool.and_eq_true] at h
      exact ⟨sl_op .cat (op_catL C.good.K) (soE a C _ h.1).1 (soE b C _ h.2).1, fun _ => rfl, by intros; intro z; cases z⟩
    · rename_i heq
      cases heq
      simp only [Bool.and_eq_true] at h
      exact ⟨sl_op .rep (op_repL C.good.K) (soE a C _ h.1).1 (soE b C _ h.2).1, fun _ => rfl, by intros; intro z; cases z⟩
  | .split a b, X, p, c, C, ex, h => by
    rw [ckL.eq_def] at h
    split at h <;> first | (exfalso; simp_all; done) | skip
    rename_i heq
    cases heq
    split at h
    · rename_i o m y e1
      simp only [Bool.and_eq_true, beq_iff_eq, Bool.not_eq_true'] at h
      obtain ⟨⟨⟨rfl, h1⟩, h2⟩, h3⟩ := h
      obtain ⟨ap, pos, rfl, hl, hc⟩ := asMeth_eq e1
      exact ⟨sl_split C.good (soE a C _ h2).1 (soE b C _ h3).1 (star1 h1 _ _) (nobase hc _ _) hl, fun _ => rfl, by intros; intro z; cases z⟩
    · exact (Bool.false_ne_true h).elim
  | .sl a lo hi, X, p, c, C, ex, h => by
    rw [ckL.eq_def] at h
    split at h <;> first | (exfalso; simp_all; done) | skip
    rename_i o l u q pos heq
    cases heq
    simp only [Bool.and_eq_true] at h
    obtain ⟨⟨h1, h2⟩, h3⟩ := h
    have P1 : PO X l (tP p lo) := by
      cases l with
      | none => cases lo <;> first | exact (Bool.false_ne_true h2).elim | exact sp_none
      | some x =>
        simp only [Bool.and_eq_true, Bool.not_eq_true'] at h2
        exact sp_some (soE lo C _ h2.2).1 fun z => by rw [z] at h2; exact Bool.noConfusion h2.1
    have P2 : PO X u (tP p hi) := by
      cases u with
      | none => cases hi <;> first | exact (Bool.false_ne_true h3).elim | exact sp_none
      | some x =>
        simp only [Bool.and_eq_true, Bool.not_eq_true'] at h3
        exact sp_some (soE hi C _ h3.2).1 fun z => by rw [z] at h3; exact Bool.noConfusion h3.1
    exact ⟨sl_sl C.good (soE a C _ h1).1 P1 P2, fun _ => rfl, by intros; intro z; cases z⟩
  | .rng a b, X, p, c, C, ex, h => by
    rw [ckL.eq_def] at h
    split at h <;> first | (exfalso; simp_all; done) | skip
    · rename_i heq
      cases heq
      simp only [Bool.and_eq_true, Bool.not_eq_true', beq_iff_eq] at h
      obtain ⟨⟨⟨⟨⟨⟨⟨rfl, rfl⟩, h1⟩, h2⟩, h3⟩, h4⟩, h5⟩, h6⟩ := h
      obtain ⟨g1, g2, g3, g4⟩ := gblt_ok C h1
      obtain ⟨k1, k2, k3, k4⟩ := gblt_ok C h2
      exact ⟨sl_rng2 C.good g1 g2 k1 k2 (soE a C _ h5).1 (soE b C _ h6).1 (star1 h3 _ _) (star1 h4 _ _) (by rw [star1 h4]; rfl) (star1 rfl _ _), fun _ => rfl, by intros; intro z; cases z⟩
    · rename_i heq
      cases heq
      simp only [Bool.and_eq_true, Bool.not_eq_true', beq_iff_eq] at h
      obtain ⟨⟨⟨⟨⟨rfl, rfl⟩, h1⟩, h2⟩, h3⟩, h4⟩ := h
      obtain ⟨g1, g2, g3, g4⟩ := gblt_ok C h1
      obtain ⟨k1, k2, k3, k4⟩ := gblt_ok C h2
      exact ⟨sl_rng1 C.good g1 g2 k1 k2 (soE b C _ h4).1 (star1 h3 _ _) (star1 rfl _ _), fun _ => rfl, by intros; intro z; cases z⟩
theorem soSrc : ∀ (s : Src) {X : Cx} {p : Pm} {c : Cc} (C : Cok X p T c k) (it tg : Expr), ckSrc T c s it tg = true → PI X tg it (tSrc p s)
  | .seq e, X, p, c, C, it, tg, h => by
    have h : (valE c.own e && ckE T c e it) = true := by cases it <;> exact h
    rw [Bool.and_eq_true] at h
    exact ss_seq C.good (soE e C _ h.2).1 (by rw [C.own]; exact h.1)
  | .enum e, X, p, c, C, it, tg, h => by
    replace h : (isTup tg && valE c.own e && (match asCall it with
      | some (x, [y]) => x == ("enumerate" : Str) && gblt c.sc x && !isStar y && ckE T c e y
      | _ => false)) = true := by cases it <;> exact h
    rw [Bool.and_eq_true, Bool.and_eq_true] at h
    obtain ⟨⟨h1, h2⟩, h⟩ := h
    cases tg <;> first | exact (Bool.false_ne_true h1).elim | skip
    split at h
    · rename_i x y e1
      simp only [Bool.and_eq_true, beq_iff_eq, Bool.not_eq_true'] at h
      obtain ⟨⟨⟨rfl, h3⟩, h4⟩, h5⟩ := h
      obtain ⟨pn, pos, rfl⟩ := asCall_eq e1
      obtain ⟨g1, g2, g3, g4⟩ := gblt_ok C h3
      exact ss_enum C.good g1 g2 (soE e C _ h5).1 (by rw [C.own]; exact h2) (star1 h4 _ _) rfl
    · exact (Bool.false_ne_true h).elim
  | .zip a b false, X, p, c, C, it, tg, h => by
    replace h : (isTup tg && valE c.own a && valE c.own b && (match asCall it with
      | some (x, [y, z]) => x == ("zip" : Str) && gblt c.sc x && !isStar y && !isStar z && ckE T c a y && ckE T c b z
      | _ => false)) = true := by cases it <;> exact h
    rw [Bool.and_eq_true, Bool.and_eq_true, Bool.and_eq_true] at h
    obtain ⟨⟨⟨h1, h2⟩, h2b⟩, h⟩ := h
    cases tg <;> first | exact (Bool.false_ne_true h1).elim | skip
    split at h
    · rename_i x y z e1
      simp only [Bool.and_eq_true, beq_iff_eq, Bool.not_eq_true'] at h
      obtain ⟨⟨⟨⟨⟨rfl, h3⟩, h4⟩, h5⟩, h6⟩, h7⟩ := h
      obtain ⟨pn, pos, rfl⟩ := asCall_eq e1
      obtain ⟨g1, g2, g3, g4⟩ := gblt_ok C h3
      exact ss_zip C.good g1 g2 (soE a C _ h6).1 (soE b C _ h7).1 (by rw [C.own]; exact h2) (by rw [C.own]; exact h2b) (star1 h4 _ _) (star1 h5 _ _) (by rw [star1 h5]; rfl)
    · exact (Bool.false_ne_true h).elim
  | .zip a b true, X, p, c, C, it, tg, h => by
    rw [ckSrc.eq_def] at h
    split at h <;> first | (exfalso; simp_all; done) | skip
    rename_i c tg c' s' it' tg' a' b' x q1 y z kk kn cp kp pos heq
    cases heq
    simp only [Bool.and_eq_true, beq_iff_eq, Bool.not_eq_true'] at h
    obtain ⟨⟨⟨⟨⟨⟨⟨⟨⟨h1, h2⟩, h2b⟩, rfl⟩, rfl⟩, h3⟩, h4⟩, h5⟩, h6⟩, h7⟩ := h
    cases tg <;> first | exact (Bool.false_ne_true h1).elim | skip
    obtain ⟨g1, g2, g3, g4⟩ := gblt_ok C h3
    exact ss_zipS C.good g1 g2 (soE a C _ h6).1 (soE b C _ h7).1 (by rw [C.own]; exact h2) (by rw [C.own]; exact h2b) (star1 h4 _ _) (star1 h5 _ _) (by rw [star1 h5]; rfl)
  | .rng a b, X, p, c, C, it, tg, h => by
    rw [ckSrc.eq_def] at h
    split at h <;> first | (exfalso; simp_all; done) | skip
    · rename_i heq
      cases heq
      simp only [Bool.and_eq_true, beq_iff_eq, Bool.not_eq_true'] at h
      obtain ⟨⟨⟨rfl, h3⟩, h4⟩, h5⟩ := h
      obtain ⟨g1, g2, g3, g4⟩ := gblt_ok C h3
      exact ss_rng1 g1 g2 (soE b C _ h5).1 (star1 h4 _ _) (star1 h4 _ _)
    · rename_i heq
      cases heq
      simp only [Bool.and_eq_true, beq_iff_eq, Bool.not_eq_true'] at h
      obtain ⟨⟨⟨⟨⟨rfl, h3⟩, h4⟩, h5⟩, h6⟩, h7⟩ := h
      obtain ⟨g1, g2, g3, g4⟩ := gblt_ok C h3
      exact ss_rng2 g1 g2 (soE a C _ h6).1 (soE b C _ h7).1 (star1 h4 _ _) (star1 h5 _ _) (by rw [star1 h4, star1 h5]; rfl) (star1 h5 _ _)
end
end
end MP
end
section
set_option Elab.async false
set_option linter.all false
set_option maxRecDepth 100000
set_option maxHeartbeats 16000000
/-! MPST: the checker of statements. -/
namespace MP
open PySem PySem.Spec PyProof.Rows L2

/-! ### the compiler's ways with stores -/
def compS : Expr → Option Scope
  | .ListComp _ _ s _ => some s
  | .SetComp _ _ s _ => some s
  | .DictComp _ _ _ s _ => some s
  | _ => none
def bKind (sc : Scope) : ScopeKind := if sc.kind.isAnnotationScope then .function else sc.kind
def swN (sc : Scope) (t : Str) (pos : Pos) (value : Expr) : Bool := match compS value with
  | none => false
  | some s => bKind sc == .function && sc.names.lookup t == some .local && pos.line == value.pos.line && !(s.names.any fun (n, k) => n == t && (k == .local || k == .cell))
theorem swN_ok {env : PySem.Env} {sc : Scope} (h : env.scope = sc) (t : Str) (pos : Pos) (value : Expr) (line : Nat) : swapsWith value (some (.Name t pos)) line env = pure (swN sc t pos value) := by
  subst h
  cases value <;> rfl
theorem sw_none {env : PySem.Env} {value : Expr} (h : compS value = none) (tg : Option Expr) (line : Nat) : swapsWith value tg line env = pure false := by
  cases value <;> first | rfl | (simp [compS] at h)
theorem sw_tup (env : PySem.Env) (value : Expr) (es : List Expr) (k : Nat) (pos : Pos) (line : Nat) : swapsWithSole [.Tuple es k pos] value line env = pure false := by
  cases value <;> rfl
theorem sw_sub (env : PySem.Env) (value a b : Expr) (pos : Pos) (line : Nat) : swapsWithSole [.Subscript a b pos] value line env = pure false := by
  cases value <;> rfl
def starE : Expr → Bool
  | .Starred _ _ => true
  | _ => false
def swNames (sc : Scope) (line : Nat) (ts : List Expr) : List Str := ts.filterMap fun
  | .Name id pos => if sc.names.lookup id == some .local && pos.line == line then some id else none
  | _ => none
def swT (sc : Scope) (ts vs : List Expr) : Option (Option (List Str)) :=
  if !(ts.length == 2 || ts.length == 3) || vs.length != ts.length || bKind sc != .function then some none
  else if vs.any starE then some none
  else if (swNames sc ((ts.head?.map (·.pos.line)).getD 0) ts).length != ts.length || (swNames sc ((ts.head?.map (·.pos.line)).getD 0) ts).eraseDups.length != (swNames sc ((ts.head?.map (·.pos.line)).getD 0) ts).length then some none
  else if vs.all (foldedForSure 8) then some none
  else if vs.all (constantsAlone 8) then none
  else some (some (swNames sc ((ts.head?.map (·.pos.line)).getD 0) ts))
theorem swT_ok {env : PySem.Env} {sc : Scope} (h : env.scope = sc) {ts vs : List Expr} {k k2 : Nat} {p p2 : Pos} {r : Option (List Str)} (hr : swT sc ts vs = some r) : swappedStores [.Tuple ts k p] (.Tuple vs k2 p2) env = pure r := by
  subst h
  unfold swT at hr
  generalize hN : swNames env.scope ((ts.head?.map (·.pos.line)).getD 0) ts = N at hr
  have key : ∃ u : Sem (Option (List Str)), swappedStores [.Tuple ts k p] (.Tuple vs k2 p2) env = (if (!(ts.length == 2 || ts.length == 3) || vs.length != ts.length || bKind env.scope != .function) = true then pure none
    else if vs.any starE = true then pure none else if (N.length != ts.length || N.eraseDups.length != N.length) = true then pure none else if vs.all (foldedForSure 8) = true then pure none else if vs.all (constantsAlone 8) = true then u else pure (some N)) := by
    subst hN
    exact ⟨_, rfl⟩
  obtain ⟨u, e⟩ := key
  rw [e]
  split at hr
  · rename_i h1
    rw [if_pos h1]
    cases hr
    rfl
  rename_i h1
  rw [if_neg h1]
  split at hr
  · rename_i h1
    rw [if_pos h1]
    cases hr
    rfl
  rename_i h1
  rw [if_neg h1]
  split at hr
  · rename_i h1
    rw [if_pos h1]
    cases hr
    rfl
  rename_i h1
  rw [if_neg h1]
  split at hr
  · rename_i h1
    rw [if_pos h1]
    cases hr
    rfl
  rename_i h1
  rw [if_neg h1]
  split at hr
  · cases hr
  rename_i h1
  rw [if_neg h1]
  cases hr
  rfl
theorem swT_other {env : PySem.Env} {tg ex : Expr} (h : isTup ex = false) : swappedStores [tg] ex env = pure none := by
  cases ex <;> first | (cases tg <;> rfl) | (simp [isTup] at h)
theorem swT_sub {env : PySem.Env} {a b ex : Expr} {pos : Pos} : swappedStores [.Subscript a b pos] ex env = pure none := by
  cases ex <;> rfl

theorem asg_sub {o i : Expr} {pos : Pos} (h : plainI i = true) (env : PySem.Env) : ∀ v, assign (.Subscript o i pos) env v = (do
      let ov ← holding [v] (eval o env)
      let iv ← holding [v, ov] (eval i env)
      standAt pos
      holding [v, ov, iv] (setItem ov iv v)
      release [v, ov, iv] []) := by
  intro v
  rw [assign]
  cases i <;> first | rfl | (simp [plainI] at h)
/-! ### comprehensions that are stored -/
def isLc : E → Bool
  | .fz (.comp _ _ _ _ _) => true
  | .fz (.comp2 _ _ _ _ _ _ _ _ _) => true
  | .al (.comp _ _ _ _ _) => true
  | .al (.comp2 _ _ _ _ _ _ _ _ _) => true
  | _ => false
section
variable (T : Tbl) (k : Nat)
theorem pts_of {X : Cx} {p : Pm} {c : Cc} {d : E} {ifs : List Expr} (C : Cok X p T c k) (h7 : (match ifs with | [] => isNop d | [y] => isTst y && !isNop d && ckE T c d y | _ => false) = true) : PTs X ifs (tC p d) := by
  match ifs, h7 with
  | [], h7 =>
    have hd : d = .nop := by cases d <;> first | exact (Bool.false_ne_true h7).elim | rfl
    subst hd
    exact sc_none
  | [y], h7 =>
    simp only [Bool.and_eq_true, Bool.not_eq_true'] at h7
    exact sc_one ((soE T k d C _ h7.2).pt h7.1.1) fun z => by rw [z] at h7; exact Bool.noConfusion h7.1.2
  | _ :: _ :: _, h7 => exact (Bool.false_ne_true h7).elim
theorem lc_of {X : Cx} {p : Pm} {c : Cc} (C : Cok X p T c k) {vs : List Nat} {el d : E} {t : Tg} {s : Src} {ex : Expr} (h : ckL T c (.comp vs el t s d) ex = true) :
    ∃ x tg it ifs scope pos own, ex = .ListComp x [⟨tg, it, ifs, 0⟩] scope pos ∧ LcOk X p tg it x ifs scope own vs el t s d := by
  rw [ckL.eq_def] at h
  split at h <;> first | (exfalso; simp_all; done) | skip
  rename_i c c' l' e' vs' el' t' s' d' x tg it ifs scope pos heq
  cases heq
  simp only [Bool.and_eq_true, Bool.not_eq_true'] at h
  obtain ⟨⟨⟨⟨⟨⟨⟨h1, h2⟩, h3⟩, h4⟩, h5⟩, h6⟩, h7⟩, h8⟩ := h
  obtain ⟨b1, b2⟩ := blk_ok C h1
  exact ⟨_, _, _, _, _, _, ownOf c.N vs, rfl, ⟨soSrc T k s C _ _ h5, b1, b2, fun s H D cl fp => ckT_ok (C.blk s H scope D cl fp) t tg h6, fun s H D cl fp => pts_of T k (C.blk s H scope D cl fp) h7, fun s H D cl fp => (soE T k el (C.blk s H scope D cl fp) _ h8).1, nofold h4 _, by rw [C.own]; exact h3, subs_ok h2⟩⟩
theorem lc2_of {X : Cx} {p : Pm} {c : Cc} (C : Cok X p T c k) {vs vs2 : List Nat} {el d d2 : E} {t t2 : Tg} {s s2 : Src} {ex : Expr} (h : ckL T c (.comp2 vs vs2 el t s d t2 s2 d2) ex = true) :
    ∃ x tg it ifs tg2 it2 ifs2 scope pos own, ex = .ListComp x [⟨tg, it, ifs, 0⟩, ⟨tg2, it2, ifs2, 0⟩] scope pos ∧ Lc2Ok X p tg it tg2 it2 x ifs ifs2 scope own vs vs2 el t s d t2 s2 d2 := by
  rw [ckL.eq_def] at h
  split at h <;> first | (exfalso; simp_all; done) | skip
  rename_i c c' l' e' vs' vs2' el' t' s' d' t2' s2' d2' x tg it ifs tg2 it2 ifs2 scope pos heq
  cases heq
  simp only [Bool.and_eq_true, Bool.not_eq_true'] at h
  obtain ⟨⟨⟨⟨⟨⟨⟨⟨⟨⟨⟨⟨⟨⟨h1, h2⟩, h3⟩, h4⟩, h5⟩, h6⟩, h7⟩, h8⟩, h9⟩, h10⟩, h11⟩, h12⟩, h13⟩, h14⟩, h15⟩ := h
  obtain ⟨b1, b2⟩ := blk_ok C h1
  exact ⟨_, _, _, _, _, _, _, _, _, ownOf c.N vs, rfl, ⟨soSrc T k s C _ _ h9, b1, b2, subs_ok h2, fun s H D cl fp => ckT_ok (C.blk s H scope D cl fp) t tg h10,
      fun s H D cl fp => pts_of T k (C.blk s H scope D cl fp) h11, fun s H D cl fp => soSrc T k s2 (C.blk s H scope D cl fp) _ _ h12, fun s H D cl fp => ckT_ok (C.blk s H scope D cl fp) t2 tg2 h13,
      fun s H D cl fp => pts_of T k (C.blk s H scope D cl fp) h14, fun s H D cl fp => (soE T k el (C.blk s H scope D cl fp) _ h15).1, nofold h7 _, fun env => nofold h8 env,
      by rw [C.own]; exact h6, fun i hi => by rw [C.own]; simpa using List.all_eq_true.mp h3 i hi, subs_ok h4, subs_ok h5⟩⟩
end

/-! ### the checker of statements -/
def ckHX (T : Tbl) (fids : List Nat) (n : Str) : HX → Expr → Bool
  | .con d, .Constant k _ _ => conK d k
  | .fld f, .Attribute (.Name m _) g _ => m == n && T.fnm[f]? == some g && fids.contains f
  | _, _ => false
def ckHXs (T : Tbl) (fids : List Nat) (n : Str) : List HX → List Expr → Bool
  | [], [] => true
  | h :: hs, e :: es => !isStar e && ckHX T fids n h e && ckHXs T fids n hs es
  | _, _ => false
def ckHR (T : Tbl) (fids : List Nat) (n : Str) : HR → Expr → Bool
  | .one h, e => ckHX T fids n h e
  | .tup hs, .Tuple es _ _ => decide (hs.length ≤ 20) && ckHXs T fids n hs es
  | _, _ => false
/-- a clause of a try -/
def ckHd (T : Tbl) (c : Cc) (q : Nat × HR) : ExceptHandler → Bool
  | .ExceptHandler (some (.Name x _)) (some n) [.Return (some e) _] _ => glo c.sc x && c.N.contains n && (c.sc.names.lookup n == some .local) && nmOk n && (match T.xcs[q.1]? with
    | some t => t.x == x && ckHR T t.fids n q.2 e
    | none => false)
  | _ => false
def ckHds (T : Tbl) (c : Cc) : List (Nat × HR) → List ExceptHandler → Bool
  | [], [] => true
  | q :: qs, h :: hs => ckHd T c q h && ckHds T c qs hs
  | _, _ => false
mutual
def ckS (T : Tbl) : Cc → S → Stmt → Bool
  | c, .asg (.nm i) e, .Assign [.Name x px] ex _ => c.N[i]? == some x && loc c.sc x && (c.fnOk x || c.sc.names.lookup x == some .local) && !ownAt c.own i && valE c.own e && ckE T c e ex && (!swN c.sc x px ex || (isLc e && c.sc.names.lookup x == some .local))
  | c, .asg (.tp ts) e, .Assign [.Tuple es k pt] (.Tuple vs k2 p2) _ => ckT c (.tp ts) (.Tuple es k pt) && valE c.own e && ckE T c e (.Tuple vs k2 p2) && decide (swT c.sc es vs = some none)
  | c, .asg (.tp ts) e, .Assign [.Tuple es k pt] ex _ => ckT c (.tp ts) (.Tuple es k pt) && valE c.own e && ckE T c e ex && !isTup ex
  | c, .par i j a b, .Assign [.Tuple [.Name x px, .Name y py] _ _] (.Tuple [ea, eb] _ _) _ => c.N[i]? == some x && c.N[j]? == some y && decide (i ≠ j) && c.sc.names.lookup x == some .local && c.sc.names.lookup y == some .local &&
    !ownAt c.own i && !ownAt c.own j && valE c.own a && valE c.own b && !isStar ea && !isStar eb && ckE T c a ea && ckE T c b eb && decide (swT c.sc [.Name x px, .Name y py] [ea, eb] = some (some [x, y]))
  | c, .expr e, .Expr ex _ => decide (compS ex = none) && ckE T c e ex
  | _, .pass, .Expr (.Constant (.str _) _ _) _ => true
  | _, .pass, .Pass _ => true
  | c, .ret e, .Return (some ex) _ => valE c.own e && ckE T c e ex
  | _, .retN, .Return none _ => true
  | c, .ite e a b, .If ex as bs _ => isTst ex && ckE T c e ex && ckSs T c a as && ckSs T c b bs
  | c, .forS t s b, .For tg it bs [] _ => !isSet it && ckT c t tg && ckSrc T c s it tg && ckSs T c b bs
  | c, .whileS e b, .While ex bs [] _ => isTst ex && ckE T c e ex && ckSs T c b bs
  | _, .brk, .Break _ => true
  | _, .cont, .Continue _ => true
  | _, .never, _ => true
  | c, .setI a i e, .Assign [.Subscript ot it _] ex _ => plainI it && valE c.own e && ckE T c a ot && ckE T c i it && ckE T c e ex
  | c, .asg2 a i b j e, .Assign [.Tuple [.Subscript o1 i1 t1, .Subscript o2 i2 t2] kt pt] ex _ => plainI i1 && plainI i2 && valE c.own e && ckE T c a o1 && ckE T c i i1 && ckE T c b o2 && ckE T c j i2 && ckE T c e ex && (match ex with
    | .Tuple vs _ _ => decide (swT c.sc [.Subscript o1 i1 t1, .Subscript o2 i2 t2] vs = some none)
    | _ => true)
  | c, .raise k fids es, .Raise (some ex) none _ => (match asCall ex with
    | some (x, y :: ys) => glo c.sc x && decide (T.xcs[k]? = some ⟨x, fids⟩) && decide (es.len = fids.length) && ckEs T c es (y :: ys)
    | _ => false)
  | c, .tryR b hs, .Try body hds [] [] _ => !hds.isEmpty && ckSs T c b body && ckHds T c hs hds
  | _, _, _ => false
def ckSs (T : Tbl) : Cc → Ss → List Stmt → Bool
  | _, .nil, [] => true
  | c, .cons s r, st :: sts => ckS T c s st && ckSs T c r sts
  | _, _, _ => false
end
section
variable {T : Tbl} {X : Cx} {p : Pm} {c : Cc} {k : Nat}
theorem hx_of (C : Cok X p T c k) {t : XT} {n : Str} {i : Nat} {a A : Addr} {oe : Obj} {d : Option Addr} {pn : List (Addr × Obj)} (T' : XGet X.K A) (hno : ∀ f ∈ t.fids, PySem.W.findIn X.K (.ref A) (p.xname f) = some none) (hz : Zc (.ref A) d oe) (hf : ∃ vs, oe.data = .fields vs)
    (hN : X.N[i]? = some n) (hv : Vis X.env.scope n) (hn : nmOk n = true) : ∀ (h : HX) (e : Expr), ckHX T t.fids n h e = true → HxOk X p i A a oe d pn h e
  | .con dv, e, h => by
    cases e <;> first | exact (Bool.false_ne_true h).elim | skip
    exact dp_con h
  | .fld f, e, h => by
    rw [ckHX.eq_def] at h
    split at h <;> first | (exfalso; simp_all; done) | skip
    rename_i f' m pm g pg heq
    cases heq
    simp only [Bool.and_eq_true, beq_iff_eq, List.contains_iff_mem] at h
    obtain ⟨⟨rfl, h2⟩, h3⟩ := h
    obtain rfl := C.fac.fnm _ _ h2
    exact dp_fld T' (hno _ h3) hz hf hN hv (nm_ok hn).1 (nm_ok hn).2
theorem hxs_of (C : Cok X p T c k) {t : XT} {n : Str} {i : Nat} {a A : Addr} {oe : Obj} {d : Option Addr} {pn : List (Addr × Obj)} (T' : XGet X.K A) (hno : ∀ f ∈ t.fids, PySem.W.findIn X.K (.ref A) (p.xname f) = some none) (hz : Zc (.ref A) d oe) (hf : ∃ vs, oe.data = .fields vs)
    (hN : X.N[i]? = some n) (hv : Vis X.env.scope n) (hn : nmOk n = true) : ∀ (h : List HX) (e : List Expr), ckHXs T t.fids n h e = true → HxsOk X p i A a oe d pn h e
  | [], [], _ => hxs_nil
  | [], _ :: _, h => (Bool.false_ne_true h).elim
  | _ :: _, [], h => (Bool.false_ne_true h).elim
  | h :: hs, e :: es, q => by
    simp only [ckHXs, Bool.and_eq_true, Bool.not_eq_true'] at q
    exact hxs_cons (hx_of C T' hno hz hf hN hv hn h e q.1.2) (hxs_of C T' hno hz hf hN hv hn hs es q.2) (star1 q.1.1 _ _)
theorem hd_of (C : Cok X p T c k) {h : ExceptHandler} {q : Nat × HR} (hc : ckHd T c q h = true) : HdOk X p h q.1 q.2 := by
  unfold ckHd at hc
  split at hc
  · rename_i x np n e rp hp
    simp only [Bool.and_eq_true, beq_iff_eq] at hc
    obtain ⟨⟨⟨⟨h1, h2⟩, h3⟩, h4⟩, h5⟩ := hc
    cases ht : T.xcs[q.1]? with
    | none => rw [ht] at h5; exact (Bool.false_ne_true h5).elim
    | some t =>
      rw [ht] at h5
      simp only [Bool.and_eq_true, beq_iff_eq] at h5
      obtain ⟨rfl, h6⟩ := h5
      obtain ⟨A, a1, a2, a3, a4⟩ := C.fac.xget _ _ ht
      obtain ⟨g1, g2, g3, g4⟩ := glo_gl C h1
      obtain ⟨i, hi⟩ := List.getElem?_of_mem (List.contains_iff_mem.mp h2)
      have hN : X.N[i]? = some n := by rw [C.N]; exact hi
      have hl : X.env.scope.names.lookup n = some .local := by rw [C.sc]; exact h3
      refine ⟨t.x, n, np, rp, hp, e, A, i, rfl, ⟨g1, g2, .inl a1⟩, hN, hl, a2, fun a oe d pn hz hf => ?_⟩
      match q.2, e, h6 with
      | .one hx, e, h6 => exact hr_one (hx_of C a3 a4 hz hf hN (.inl hl) h4 hx e h6)
      | .tup hs, .Tuple es kk pp, h6 =>
        simp only [ckHR, Bool.and_eq_true, decide_eq_true_eq] at h6
        exact hr_tup (hxs_of C a3 a4 hz hf hN (.inl hl) h4 hs es h6.2) (by rw [sizeLine_eq]; omega)
  · exact (Bool.false_ne_true hc).elim
theorem hds_of (C : Cok X p T c k) : ∀ (qs : List (Nat × HR)) (hs : List ExceptHandler), ckHds T c qs hs = true → HdsOkX X p hs qs
  | [], [], _ => .nil
  | [], _ :: _, h => (Bool.false_ne_true h).elim
  | _ :: _, [], h => (Bool.false_ne_true h).elim
  | q :: qs, h :: hs, e => by
    simp only [ckHds, Bool.and_eq_true] at e
    exact .cons (hd_of C e.1) (hds_of C qs hs e.2)
end
section
variable (T : Tbl) (k : Nat)
mutual
theorem soS : ∀ (s : S) {X : Cx} {p : Pm} {c : Cc} (C : Cok X p T c k) (hp : PassesOwn (model X.prog X.w) X.A X.env X.xe) (hx : X.stack = X.env :: X.outer ∧ X.env.frame = some X.env.locals) (st : Stmt), ckS T c s st = true → PS X st (tS p s)
  | .ite e a b, X, p, c, C, hp, hx, st, h => by
    cases st <;> first | exact (Bool.false_ne_true h).elim | skip
    simp only [ckS, Bool.and_eq_true] at h
    exact st_if ((soE T k e C _ h.1.1.2).pt h.1.1.1) (soSs a C hp hx _ h.1.2) (soSs b C hp hx _ h.2)
  | .forS t s b, X, p, c, C, hp, hx, st, h => by
    cases st <;> first | exact (Bool.false_ne_true h).elim | skip
    rename_i tg it bs os pos
    cases os <;> first | exact (Bool.false_ne_true h).elim | skip
    simp only [ckS, Bool.and_eq_true, Bool.not_eq_true'] at h
    exact st_for C.good hp (soSrc T k s C _ _ h.1.2) (ckT_ok C t _ h.1.1.2) (soSs b C hp hx _ h.2) (nofold h.1.1.1 _)
  | .whileS e b, X, p, c, C, hp, hx, st, h => by
    cases st <;> first | exact (Bool.false_ne_true h).elim | skip
    rename_i ex bs os pos
    cases os <;> first | exact (Bool.false_ne_true h).elim | skip
    simp only [ckS, Bool.and_eq_true] at h
    exact st_while hp ((soE T k e C _ h.1.2).pt h.1.1) (soSs b C hp hx _ h.2)
  | .asg (.nm i) e, X, p, c, C, hp, hx, st, h => by
    rw [ckS.eq_def] at h
    split at h <;> first | (exfalso; simp_all; done) | skip
    rename_i c1 s1 st1 i e x px ex pos heq
    cases heq
    simp only [Bool.and_eq_true, beq_iff_eq, Bool.not_eq_true', Bool.or_eq_true] at h
    obtain ⟨⟨⟨⟨⟨⟨h1, h2⟩, h3⟩, h4⟩, h5⟩, h6⟩, h7⟩ := h
    have hN := h1
    rw [← C.N] at hN
    have hf : X.fn x = true ∨ X.env.scope.names.lookup x = some .local := by
      rcases h3 with h | h
      · exact .inl (C.fn x h)
      · exact .inr (by rw [C.sc]; exact h)
    have ho := h4
    rw [← C.own] at ho
    have hsw := swN_ok C.sc x px ex
    generalize hs : swN _ x px ex = bb at hsw h7
    cases bb with
    | false =>
      exact st_set C.good hN (loc_ok C h2) (soE T k _ C _ h6).1 (by rw [C.own]; exact h5) ho (by rw [hsw]) hf
    | true =>
      rcases h7 with h7 | ⟨h7, h8⟩
      · cases h7
      · have hl : X.env.scope.names.lookup x = some .local := by rw [C.sc]; exact h8
        have hs2 : ∀ line, swapsWith ex (some (.Name x px)) line X.env = pure true := fun line => by rw [hsw]
        match e, h7, h6 with
        | .fz (.comp vs el t s d), _, h6 =>
          obtain ⟨x', tg, it, ifs, scope, pos', own, rfl, q⟩ := lc_of T k C (show ckL T _ (.comp vs el t s d) ex = true by cases ex <;> exact h6)
          exact lc_fz C.good hN hl (hs2 _) ho q
        | .al (.comp vs el t s d), _, h6 =>
          obtain ⟨x', tg, it, ifs, scope, pos', own, rfl, q⟩ := lc_of T k C (show ckL T _ (.comp vs el t s d) ex = true by cases ex <;> exact h6)
          exact lc_al C.good hN hl (hs2 _) ho q
        | .fz (.comp2 vs vs2 el t s d t2 s2 d2), _, h6 =>
          obtain ⟨x', tg, it, ifs, tg2, it2, ifs2, scope, pos', own, rfl, q⟩ := lc2_of T k C (show ckL T _ (.comp2 vs vs2 el t s d t2 s2 d2) ex = true by cases ex <;> exact h6)
          exact lc2_fz C.good hN hl (hs2 _) ho q
        | .al (.comp2 vs vs2 el t s d t2 s2 d2), _, h6 =>
          obtain ⟨x', tg, it, ifs, tg2, it2, ifs2, scope, pos', own, rfl, q⟩ := lc2_of T k C (show ckL T _ (.comp2 vs vs2 el t s d t2 s2 d2) ex = true by cases ex <;> exact h6)
          exact lc2_al C.good hN hl (hs2 _) ho q
  | .asg (.tp ts) e, X, p, c, C, hp, hx, st, h => by
    rw [ckS.eq_def] at h
    split at h <;> first | (exfalso; simp_all; done) | skip
    · rename_i heq
      cases heq
      simp only [Bool.and_eq_true, decide_eq_true_eq] at h
      obtain ⟨⟨⟨h1, h2⟩, h3⟩, h4⟩ := h
      exact st_asg (soE T k _ C _ h3).1 (ckT_ok C _ _ h1) (by rw [C.own]; exact h2) (sw_tup _ _ _ _ _ _) (swT_ok C.sc h4) rfl
    · rename_i heq
      cases heq
      simp only [Bool.and_eq_true, Bool.not_eq_true'] at h
      obtain ⟨⟨⟨h1, h2⟩, h3⟩, h4⟩ := h
      exact st_asg (soE T k _ C _ h3).1 (ckT_ok C _ _ h1) (by rw [C.own]; exact h2) (sw_tup _ _ _ _ _ _) (swT_other h4) rfl
  | .par i j a b, X, p, c, C, hp, hx, st, h => by
    rw [ckS.eq_def] at h
    split at h <;> first | (exfalso; simp_all; done) | skip
    rename_i heq
    cases heq
    simp only [Bool.and_eq_true, beq_iff_eq, Bool.not_eq_true', decide_eq_true_eq] at h
    obtain ⟨⟨⟨⟨⟨⟨⟨⟨⟨⟨⟨⟨⟨h1, h2⟩, h3⟩, h4⟩, h5⟩, h6⟩, h7⟩, h8⟩, h9⟩, h10⟩, h11⟩, h12⟩, h13⟩, h14⟩ := h
    exact st_par C.good (by rw [C.N]; exact h1) (by rw [C.N]; exact h2) h3 (by rw [C.sc]; exact h4) (by rw [C.sc]; exact h5) (soE T k _ C _ h12).1 (soE T k _ C _ h13).1 (by rw [C.own]; exact h8) (by rw [C.own]; exact h9) (by rw [C.own]; exact h6) (by rw [C.own]; exact h7) (star1 h10 _ _) (star1 h11 _ _) (swT_ok C.sc h14) (sw_tup _ _ _ _ _ _)
  | .own i l, X, p, c, C, hp, hx, st, h => by cases st <;> exact (Bool.false_ne_true h).elim
  | .aug i op e, X, p, c, C, hp, hx, st, h => by cases st <;> exact (Bool.false_ne_true h).elim
  | .oapp i e, X, p, c, C, hp, hx, st, h => by cases st <;> exact (Bool.false_ne_true h).elim
  | .expr e, X, p, c, C, hp, hx, st, h => by
    cases st <;> first | exact (Bool.false_ne_true h).elim | skip
    simp only [ckS, Bool.and_eq_true, decide_eq_true_eq] at h
    exact st_expr (soE T k _ C _ h.2).1 (sw_none h.1 _ _)
  | .ret e, X, p, c, C, hp, hx, st, h => by
    cases st <;> first | exact (Bool.false_ne_true h).elim | skip
    rename_i o pos
    cases o <;> first | exact (Bool.false_ne_true h).elim | skip
    simp only [ckS, Bool.and_eq_true] at h
    exact st_ret (soE T k _ C _ h.2).1 (by rw [C.own]; exact h.1)
  | .retN, X, p, c, C, hp, hx, st, h => by
    cases st <;> first | exact (Bool.false_ne_true h).elim | skip
    rename_i o pos
    cases o <;> first | exact (Bool.false_ne_true h).elim | skip
    exact st_retN
  | .brk, X, p, c, C, hp, hx, st, h => by
    cases st <;> first | exact (Bool.false_ne_true h).elim | skip
    exact st_brk
  | .cont, X, p, c, C, hp, hx, st, h => by
    cases st <;> first | exact (Bool.false_ne_true h).elim | skip
    exact st_cont
  | .pass, X, p, c, C, hp, hx, st, h => by
    rw [ckS.eq_def] at h
    split at h <;> first | (exfalso; simp_all; done) | skip
    · exact st_doc
    · exact st_pass
  | .never, X, p, c, C, hp, hx, st, h => st_never
  | .setI a i e, X, p, c, C, hp, hx, st, h => by
    rw [ckS.eq_def] at h
    split at h <;> first | (exfalso; simp_all; done) | skip
    rename_i heq
    cases heq
    simp only [Bool.and_eq_true] at h
    obtain ⟨⟨⟨⟨h0, h1⟩, h2⟩, h3⟩, h4⟩ := h
    exact st_setI (by rw [C.own]; exact h1) (soE T k _ C _ h2).1 (soE T k _ C _ h3).1 (soE T k _ C _ h4).1 (sw_sub _ _ _ _ _ _) swT_sub rfl (asg_sub h0 _)
  | .asg2 a i b j e, X, p, c, C, hp, hx, st, h => by
    rw [ckS.eq_def] at h
    split at h <;> first | (exfalso; simp_all; done) | skip
    rename_i o1 i1 t1 o2 i2 t2 kt pt ex pos heq
    cases heq
    simp only [Bool.and_eq_true] at h
    obtain ⟨⟨⟨⟨⟨⟨⟨⟨h1, h2⟩, h3⟩, h4⟩, h5⟩, h6⟩, h7⟩, h8⟩, h9⟩ := h
    refine st_asg2 C.good (by rw [C.own]; exact h3) (soE T k _ C _ h4).1 (soE T k _ C _ h5).1 (soE T k _ C _ h6).1 (soE T k _ C _ h7).1 (soE T k _ C _ h8).1 (sw_tup _ _ _ _ _ _) ?_ (asg_sub h1 _) (asg_sub h2 _)
    cases ex with
    | Tuple vs k2 p2 => exact swT_ok C.sc (of_decide_eq_true h9)
    | _ => exact swT_other rfl
  | .raise n fids es, X, p, c, C, hp, hx, st, h => by
    cases st <;> first | exact (Bool.false_ne_true h).elim | skip
    rename_i o1 o2 pos
    cases o1 <;> cases o2 <;> first | exact (Bool.false_ne_true h).elim | skip
    rename_i ex
    replace h : (match asCall ex with
      | some (x, y :: ys) => glo c.sc x && decide (T.xcs[n]? = some ⟨x, fids⟩) && decide (es.len = fids.length) && ckEs T c es (y :: ys)
      | _ => false) = true := h
    cases e1 : asCall ex with
    | none => rw [e1] at h; exact (Bool.false_ne_true h).elim
    | some q =>
      obtain ⟨x, xs⟩ := q
      rw [e1] at h
      obtain ⟨pn, pos2, rfl⟩ := asCall_eq e1
      cases xs with
      | nil => exact (Bool.false_ne_true h).elim
      | cons y ys =>
        simp only [Bool.and_eq_true, decide_eq_true_eq] at h
        obtain ⟨⟨⟨h1, h2⟩, h3⟩, h4⟩ := h
        obtain ⟨g1, g2, g3, g4⟩ := glo_gl C h1
        have ss := soStar T k es C (y :: ys) h4
        have F := C.fac.xcs n ⟨x, fids⟩ h2
        exact st_raise C.good F C.room2 (soEs T k es C (y :: ys) h4).1 h3 g1 g2 (star1 (ss y (List.mem_cons_self ..)) _ _) (nostar _ _ _ fun e he => ss e (List.mem_cons_of_mem _ he))
  | .tryR b hs, X, p, c, C, hp, hx, st, h => by
    cases st <;> first | exact (Bool.false_ne_true h).elim | skip
    rename_i body hds oe fe pos
    cases oe <;> cases fe <;> first | exact (Bool.false_ne_true h).elim | skip
    simp only [ckS, Bool.and_eq_true, Bool.not_eq_true'] at h
    obtain ⟨⟨h1, h2⟩, h3⟩ := h
    cases hds with
    | nil => cases h1
    | cons h0 hds =>
      exact st_try C.good hx.1 hx.2 (by rw [C.good.K]; exact C.fac.exm) (fun W pn xe tk hp' => soSs b (C.tr tk) hp' hx body h2) (hds_of C hs (h0 :: hds) h3)
theorem soSs : ∀ (s : Ss) {X : Cx} {p : Pm} {c : Cc} (C : Cok X p T c k) (hp : PassesOwn (model X.prog X.w) X.A X.env X.xe) (hx : X.stack = X.env :: X.outer ∧ X.env.frame = some X.env.locals) (st : List Stmt), ckSs T c s st = true → PSs X st (tSs p s)
  | .nil, X, p, c, C, hp, hx, [], h => sts_nil
  | .nil, X, p, c, C, hp, hx, _ :: _, h => (Bool.false_ne_true h).elim
  | .cons s r, X, p, c, C, hp, hx, [], h => (Bool.false_ne_true h).elim
  | .cons s r, X, p, c, C, hp, hx, st :: sts, h => by
    rw [ckSs, Bool.and_eq_true] at h
    exact sts_cons (soS s C hp hx st h.1) (soSs r C hp hx sts h.2)
end
end
end MP
end
section
set_option Elab.async false
set_option linter.all false
set_option maxRecDepth 100000
set_option maxHeartbeats 4000000
/-! MPP: a whole program: each def by its checked body, by the depth of calls. -/
namespace MP
open PySem PySem.Spec PyProof.Rows L2

structure DefM where
  d : He.DefD
  ps : List Str
  N : List Str
  dvs : List (List D)
  F : PFun
/-- an own exception class: its name, its fields, its base (0 ValueError, 1 LookupError, 2 RuntimeError, 3 OverflowError), its __init__ -/
structure XM where
  x : Str
  fids : List Nat
  b : Nat
  ini : He.DefD
/-- the classes, the fields' names -/
structure XTb where
  xs : List XM := []
  fnm : List Str := []
def tblOf (defs : List DefM) (gls : List (Str × D)) (xt : XTb) : Tbl := ⟨defs.map fun m => ⟨m.d.name, m.dvs⟩, gls, xt.xs.map fun m => ⟨m.x, m.fids⟩, xt.fnm⟩
def scOk (N P : List Str) (sc : Scope) : Bool := decide (sc.kind = .function) && !sc.isCoroutine && !sc.isGenerator && decide N.Nodup && decide (N.take P.length = P) &&
  P.all (fun x => sc.names.lookup x == some .local || sc.names.lookup x == some .cell) && sc.names.all fun y => !decide (y.2 = .free)
def ckDef (T : Tbl) (m : DefM) : Bool := scOk m.N m.ps m.d.scope && ckSs T ⟨m.d.scope, m.N, [], none⟩ m.F.body m.d.body && decide (m.F.np = m.ps.length) && decide (m.F.ns = m.N.length)
theorem scOk_ok {N P : List Str} {sc : Scope} (h : scOk N P sc = true) : FnScope N P sc := by
  unfold scOk at h
  simp only [Bool.and_eq_true, decide_eq_true_eq, Bool.not_eq_true', List.all_eq_true, Bool.or_eq_true, beq_iff_eq, decide_eq_false_iff_not] at h
  obtain ⟨⟨⟨⟨⟨⟨h1, h2⟩, h3⟩, h4⟩, h5⟩, h6⟩, h7⟩ := h
  exact ⟨h1, h2, h3, h4, h5, h6, h7⟩
/-- what the written part says of a def -/
def DefOk (K : PySem.W.Frag) (mg : Str → Option Value) (m : DefM) : Prop := ∃ adr fd dvs kws, mg m.d.name = some (.ref adr) ∧ FunD K m.d.name m.d.qual m.d.params m.d.body m.d.scope dvs kws adr fd ∧
  ∀ dv, m.dvs.contains dv = true → ∃ ds vs, Vals vs ds ∧ (∀ ρ H, Reps K ρ H vs dv) ∧ Binds K fd m.ps ds
theorem ES.start {K : PySem.W.Frag} {H0 : Hp} {ρ : List Addr} {H : Hp} {N : List Str} {vs : List V} {ds : List D} (hl : vs.length ≤ N.length) (r : Reps K ρ H vs ds) : ES K [] H0 ρ H (L2.start N vs) (ds.map some ++ List.replicate (N.length - ds.length) none) where
  len := by
    unfold L2.start
    rw [List.length_append, List.length_append, List.length_map, List.length_map, List.length_replicate, List.length_replicate, r.length]
  vl := fun i d _ h => by
    have hd : i < ds.length := by
      by_cases hi : i < ds.length
      · exact hi
      · rw [List.getElem?_append_right (by simpa using hi), List.getElem?_replicate] at h
        split at h <;> cases h
    rw [List.getElem?_append_left (by simpa using hd), List.getElem?_map] at h
    have h' : ds[i]? = some d := by
      cases e : ds[i]? with
      | none => rw [e] at h; cases h
      | some a => rw [e] at h; cases h; rfl
    obtain ⟨v, hv, rv⟩ := r.get h'
    refine ⟨v, ?_, rv⟩
    unfold L2.start
    rw [List.getElem?_append_left (by simpa [r.length] using hd), List.getElem?_map, hv]
    rfl
  ow := fun i d h _ => by simp [ownAt] at h
  sp := fun i j a _ h _ _ _ _ => by simp [ownAt] at h
section
variable {P : Program} {w : World} {K : PySem.W.Frag} {mg : Str → Option Value} {base : Heap} {defs : List DefM} {gls : List (Str × D)} {xt : XTb} {fuel : Nat} {xcls : Nat → Option Value} {xname : Nat → Str}
theorem tfn {i : Nat} {F : FT} (h : (tblOf defs gls xt).fns[i]? = some F) : ∃ m, defs[i]? = some m ∧ F = ⟨m.d.name, m.dvs⟩ := by
  have h' : (defs.map fun m => (⟨m.d.name, m.dvs⟩ : FT))[i]? = some F := h
  rw [List.getElem?_map] at h'
  cases e : defs[i]? with
  | none => rw [e] at h'; cases h'
  | some m => rw [e] at h'; cases h'; exact ⟨m, rfl, rfl⟩
theorem un65 {k : Nat} {A : Around} (r : Room k A) : A.units + 65 < cLine := by have := r.un; omega
/-- what stands of the own exception classes -/
structure XFacts (xt : XTb) (xcls : Nat → Option Value) (xname : Nat → Str) (base : Heap) : Prop where
  xcs : ∀ (c : Nat) (t : XT), (xt.xs.map fun m => (⟨m.x, m.fids⟩ : XT))[c]? = some t → XF P w K mg base xcls xname c t.x t.fids
  xget : ∀ (c : Nat) (t : XT), (xt.xs.map fun m => (⟨m.x, m.fids⟩ : XT))[c]? = some t → ∃ C, mg t.x = some (.ref C) ∧ xcls c = some (.ref C) ∧ XGet K C ∧ ∀ f ∈ t.fids, PySem.W.findIn K (.ref C) (xname f) = some none
  fnm : ∀ (f : Nat) (n : Str), xt.fnm[f]? = some n → xname f = n
  exm : ∀ c1 c2 v1 v2, xcls c1 = some v1 → xcls c2 = some v2 → PySem.W.exmOne K v1 v2 = some (decide (c1 = c2))
/-- one def, one level up -/
theorem fn_up (hck : ∀ m ∈ defs, ckDef (tblOf defs gls xt) m = true) {i : Nat} {m : DefM} (hm : defs[i]? = some m) {j : Nat}
    (hf : Facts (tblOf defs gls xt) P w K mg base (3 * j) (callN (defs.map DefM.F) fuel j) xcls xname) {adr : Addr} {fd : FuncData} {dvs : List V} {kws : List (Str × V)} (F : FunD K m.d.name m.d.qual m.d.params m.d.body m.d.scope dvs kws adr fd) :
    FnG P w K mg base (3 * (j + 1)) adr fd m.ps (spG K (callN (defs.map DefM.F) fuel (j + 1)) i xcls xname) := by
  have hc := hck m (List.mem_of_getElem? hm)
  unfold ckDef at hc
  simp only [Bool.and_eq_true, decide_eq_true_eq] at hc
  obtain ⟨⟨⟨c1, c2⟩, c3⟩, c4⟩ := hc
  have SC := scOk_ok c1
  have hN : m.ps.length ≤ m.N.length := by have := congrArg List.length SC.pre; rw [List.length_take] at this; omega
  obtain ⟨oc, od, dV, kV, doc, pm, an, cdv, ct, osl, rfl, lk, hcd, _, _⟩ := F.ex
  have hT : (defs.map DefM.F)[i]? = some m.F := by rw [List.getElem?_map, hm]; rfl
  have hcall : callN (defs.map DefM.F) fuel (j + 1) i = runF (callN (defs.map DefM.F) fuel j) fuel m.F := by
    funext ds
    show (match (defs.map DefM.F)[i]? with | some F => runF (callN (defs.map DefM.F) fuel j) fuel F ds | none => M.bad) = _
    rw [hT]
  have unrun : ∀ {ds : List D} {S : DS} {P : D → DS → Prop} {XX : Exc → DS → Prop}, Ok (runF (callN (defs.map DefM.F) fuel j) fuel m.F ds S) P XX → ds.length = m.F.np ∧ Ok (evSs (callN (defs.map DefM.F) fuel j) fuel m.F.body (ds.map some ++ List.replicate (m.F.ns - m.F.np) none) S) (fun fl S' => match fl with
      | .rt d => P d S'
      | .nx _ => P .non S'
      | .ex x _ => XX x S'
      | _ => False) XX := fun {ds S P XX} h => by
    unfold runF at h
    split at h
    · rename_i hl
      refine ⟨hl, (Ok.bind.mp h).mono (fun fl S' q => ?_) fun _ _ q => q⟩
      cases fl <;> exact q
    · exact h.elim
  have hlen : ∀ vs H Q E, spG K (callN (defs.map DefM.F) fuel (j + 1)) i xcls xname vs H Q E → vs.length = m.ps.length := fun vs H Q E ⟨ρ, ds, S, hs, rs, h⟩ => by
    rw [hcall] at h
    rw [rs.length, (unrun h).1, c3]
  refine fnG_of (k := 3 * j + 2) lk hcd SC hlen fun A outer s H vs Q E hgd hr hsp => ?_
  have hl := hlen vs H Q E hsp
  obtain ⟨ρ, ds, S, hs, rs, h⟩ := hsp
  rw [hcall] at h
  obtain ⟨hd, h⟩ := unrun h
  let p : Pm := { K := K, own := [], H0 := H, ρ0 := ρ, cf := callN (defs.map DefM.F) fuel j, fuel := fuel, W := fun cls d _ H => E cls d H, xcls := xcls, xname := xname }
  let X := cxOf (L2.CX P w) P w K mg base m.N m.d.qual m.d.scope adr cdv A outer s H E
  have tk : Takes X p.W := takes_of rfl rfl rfl rfl
  have C : Cok X p (tblOf defs gls xt) ⟨m.d.scope, m.N, [], none⟩ (3 * j) :=
    ⟨⟨rfl, rfl, SC.nd, un65 hr, hgd, tk⟩, rfl, rfl, rfl, fun _ _ => rfl, hr.mono (by omega), hr.mono (by omega), hf⟩
  have B : PSs X m.d.body (tSs p m.F.body) := soSs _ _ m.F.body C (passes_of rfl) ⟨rfl, rfl⟩ m.d.body c2
  refine ⟨_, B, ρ, ds.map some ++ List.replicate (m.F.ns - m.F.np) none, S, _, ⟨?_, hs, .refl hs⟩, h.mono (fun fl S' q => ?_) fun _ _ q => q⟩
  · have e : m.F.ns - m.F.np = m.N.length - ds.length := by rw [c4, hd]
    rw [e]
    exact ES.start (by rw [hl]; exact hN) rs
  · cases fl with
    | nx σd => exact fun σ' ρ' H' m st es hs' => q .non ρ' H' st hs' .non
    | bk σd => exact q.elim
    | ct σd => exact q.elim
    | rt d => exact fun v ρ' H' m st hs' r => q v ρ' H' st hs' r
    | ex x σd => exact fun σ' ρ' H' cls dx m st es hs' xr => q ρ' H' cls dx st hs' xr
/-- all defs, all depths -/
theorem prog_ok (hxt : ∀ (base : Heap), XFacts (P := P) (w := w) (K := K) (mg := mg) xt xcls xname base) (hck : ∀ m ∈ defs, ckDef (tblOf defs gls xt) m = true) (hd : ∀ m ∈ defs, DefOk K mg m) (hb : ∀ x, bnames.contains x = true → mg x = none)
    (hg : ∀ (g : Nat) (x : Str) (d : D), gls[g]? = some (x, d) → ∃ v u, mg x = some u ∧ RelV v u ∧ ∀ ρ H, Rep K ρ H v d) :
    ∀ (j i : Nat) (m : DefM), defs[i]? = some m → ∀ (adr : Addr) (fd : FuncData) (dvs : List V) (kws : List (Str × V)), FunD K m.d.name m.d.qual m.d.params m.d.body m.d.scope dvs kws adr fd →
      FnG P w K mg base (3 * j) adr fd m.ps (spG K (callN (defs.map DefM.F) fuel j) i xcls xname)
  | 0, i, m, hm, adr, fd, dvs, kws, F => ⟨fun vs H Q E ⟨ρ, ds, S, hs, rs, h⟩ => h.elim, fun A outer s H args us vs Q E _ _ _ _ _ ⟨ρ, ds, S, hs, rs, h⟩ => h.elim⟩
  | j + 1, i, m, hm, adr, fd, dvs, kws, F => by
    refine fn_up hck hm ⟨hb, hg, fun f FF dv h1 h2 => ?_, (hxt base).1, (hxt base).2, (hxt base).3, (hxt base).4⟩ F
    obtain ⟨m', hm', rfl⟩ := tfn h1
    obtain ⟨adr', fd', dvs', kws', e1, e2, e3⟩ := hd m' (List.mem_of_getElem? hm')
    obtain ⟨ds, vs, b1, b2, b3⟩ := e3 dv h2
    exact ⟨adr', fd', m'.ps, ds, vs, e1, e2.kp, b3, b1, b2, prog_ok hxt hck hd hb hg j f m' hm' adr' fd' dvs' kws' e2⟩
end

/-! ### the law -/
theorem walk_ofGE {l : PySem.W.OpenLaw} {n k : Nat} {q : Program} {loose : List Str} {XP : (Str → Option Value) → Heap → Prop} {YP : World → Heap → Prop} {d : DefRec} {x : Str}
    (hn : l.most = some n) (hn2 : n ≤ sizeLine) (hdf : d.params.defaults = []) (hr : Room k callerA)
    (F : ∀ (w : World) (mg : Str → Option Value) (fa : Addr) (h : Heap), YP w h → h.Ns mainGlobals mg → mg d.name = some (.ref fa) →
      ∃ (K : PySem.W.Frag) (fd : FuncData) (sp : Sp), K.In h ∧ (∀ (s : Shared) (u : Value), BindsTo s fd ⟨[u], []⟩ [(x, u)]) ∧
        (∀ (H : Hp) (a : Addr) (ns : List Int), ns.length ≤ n → (∀ z ∈ ns, Builtin.Int.intBits z ≤ 1048576) → Fz K H a (ns.map V.int) → sp [.ref a] H (fun v _ => v = .bl true) fun _ _ _ => False) ∧
        ∀ base : Heap, K.In base → base.Ns mainGlobals mg → FnG l.prog w K mg base k fa fd [x] sp) :
    PySem.W.WalkO q loose XP YP l.row.toRowW d [] (fun f vs => PySem.call f vs) := by
  refine Att.attach_callB hn hdf fun w s₀ s₁ mg mb fa o pm cd doc a vs ns G Y ho hd hcd hmg hobj hints hlen hbits hg => ?_
  obtain ⟨K, fd, sp, KX, hb, hsp, hF⟩ := F w mg fa _ Y G.T.g hmg
  exact law_callG KX G.T.g G.T.b G.T.builtins G.T.nolimit hg hobj hints (Nat.le_trans hlen hn2) hr hF hb (fun H hO hS => hsp H a ns hlen hbits hS)
/-- what the evaluator says of the law is its promise -/
theorem law_sp {K : PySem.W.Frag} {cf : CF} {i : Nat} {xcls : Nat → Option Value} {xname : Nat → Str} {H : Hp} {a : Addr} {ns : List Int} (hf : Fz K H a (ns.map V.int)) (h : ∃ S, cf i [.lst (ns.map .int)] [] = .ok (.bl true) S) :
    spG K cf i xcls xname [.ref a] H (fun v _ => v = .bl true) fun _ _ _ => False := by
  obtain ⟨S, h⟩ := h
  refine ⟨[], [.lst (ns.map .int)], [], ⟨List.nodup_nil, rfl, fun n o a h => by simp at h⟩, .cons (.lst hf (reps_ints ns)) .nil, ?_⟩
  rw [h]
  exact fun v ρ' H' st hs r => r.bl_inv
end MP
end
section
set_option Elab.async false
set_option linter.all false
set_option maxRecDepth 100000
set_option maxHeartbeats 4000000
/-! MPU: from what the head says to a whole program. -/
namespace MP
open PySem PySem.Spec PyProof.Rows L2
/-- the calls' defaults are bound -/
def BindOk (m : DefM) : Prop := ∀ (K : PySem.W.Frag) (adr : Addr) (fd : FuncData), FunD K m.d.name m.d.qual m.d.params m.d.body m.d.scope (m.d.dvs K) (m.d.kws K) adr fd →
  ∀ dv, m.dvs.contains dv = true → ∃ ds vs, Vals vs ds ∧ (∀ ρ H, Reps K ρ H vs dv) ∧ Binds K fd m.ps ds
abbrev Bind0 (m : DefM) : Prop := ∀ (kV doc pm : Value) (an : Option Addr) (cdv ct : Value) (us : List Value), us.length = m.ps.length → bindArgs (PySem.W.fnOf m.d.name m.d.qual m.d.params m.d.body m.d.scope .none kV doc pm an cdv ct) ⟨us, []⟩ = pure (m.ps.zip us)
theorem bind0 {m : DefM} (hd : m.d.dfl = []) (hk : m.d.kwd = []) (hv : m.dvs = [[]]) (h : Bind0 m) : BindOk m := fun K adr fd F dv hdv => by
  have e : dv = [] := by
    rw [hv] at hdv
    simpa using hdv
  subst e
  have e1 : m.d.dvs K = [] := by unfold He.DefD.dvs; rw [hd]; rfl
  have e2 : m.d.kws K = [] := by unfold He.DefD.kws; rw [hk]; rfl
  rw [e1] at F
  exact ⟨[], [], .nil, fun _ _ => .nil, F.bindsN h⟩
theorem bindD {m : DefM} (hd : m.d.dfl ≠ []) (h : ∀ dv, m.dvs.contains dv = true → ∃ n j : Nat, (∀ K ρ H, Reps K ρ H ((m.d.dvs K).drop j) dv) ∧ n + (m.d.dfl.length - j) = m.ps.length ∧
    ∀ (T : Addr) (kV doc pm : Value) (an : Option Addr) (cdv ct : Value) (us its : List Value), us.length = n → its.length = m.d.dfl.length →
      ∃ k, bindArgs (PySem.W.fnOf m.d.name m.d.qual m.d.params m.d.body m.d.scope (.ref T) kV doc pm an cdv ct) ⟨us, []⟩ = seqItems? (.ref T) >>= k ∧ k (some its.toArray) = pure (m.ps.zip (us ++ its.drop j))) : BindOk m := fun K adr fd F dv hdv => by
  obtain ⟨n, j, h1, h2, h3⟩ := h dv hdv
  have el : (m.d.dvs K).length = m.d.dfl.length := by unfold He.DefD.dvs; exact List.length_map ..
  have hd' : m.d.dvs K ≠ [] := fun e => hd (List.length_eq_zero_iff.mp (by rw [← el, e]; rfl))
  obtain ⟨ds, v, b⟩ := F.binds1 n j hd' (by rw [el]; exact h2) (fun T kV doc pm an cdv ct us its l1 l2 => h3 T kV doc pm an cdv ct us its l1 (l2.trans el))
  exact ⟨ds, _, v, h1 K, b⟩
/-! ### facts -/
def glFa (g : Str × D) : He.Fa := match g.2 with
  | .int i => .int g.1 i
  | .str s => .str g.1 (toS s)
  | _ => .glo g.1
def faOf (defs : List DefM) (gls : List (Str × D)) : List He.Fa := (defs.map fun m => .glo m.d.name) ++ (bnames.map .free ++ gls.map glFa)
def isC : D → Bool
  | .int _ => true
  | .str _ => true
  | _ => false
/-! ### own exception classes -/
structure BaseN where
  B : String
  newId : String
  initId : String
  bm : List Value
def baseN : Nat → BaseN
  | 0 => ⟨"ValueError", "ValueError.__new__", "ValueError.__init__", [.type "ValueError", .type "Exception", .type "BaseException", .type "object"]⟩
  | 1 => ⟨"LookupError", "LookupError.__new__", "LookupError.__init__", [.type "LookupError", .type "Exception", .type "BaseException", .type "object"]⟩
  | 2 => ⟨"RuntimeError", "RuntimeError.__new__", "RuntimeError.__init__", [.type "RuntimeError", .type "Exception", .type "BaseException", .type "object"]⟩
  | _ => ⟨"OverflowError", "OverflowError.__new__", "OverflowError.__init__", [.type "OverflowError", .type "ArithmeticError", .type "Exception", .type "BaseException", .type "object"]⟩
theorem baseN_ok : ∀ b : Nat, BaseF (baseN b).B (baseN b).newId (baseN b).initId (baseN b).bm
  | 0 => bf_Value
  | 1 => bf_Lookup
  | 2 => bf_Runtime
  | _ + 3 => bf_Overflow
def xnameOf (xt : XTb) (f : Nat) : Str := (xt.fnm[f]?).getD ""
def xclsOf (K : PySem.W.Frag) (xt : XTb) (c : Nat) : Option Value := (xt.xs[c]?).map fun m => .ref (He.ga K m.x)
def clsB (K : PySem.W.Frag) (C : Addr) (newId : String) (bmB : List Value) : Bool := match K.lookup C with
  | some ⟨.type "type", _, .cls cd, sl⟩ => (match cd.mro, sl.toList with
    | .ref C' :: bm, [_, _, _, _, some (.builtin n), _] => C' == C && n == newId && !cd.hasDel && cd.hasDict && PySem.W.excTail bmB bm
    | _, _ => false)
  | _ => false
theorem clsB_ok {K : PySem.W.Frag} {C : Addr} {newId : String} {bmB : List Value} (h : clsB K C newId bmB = true) : ∃ nm q N bs bm sn sub ab col dd k0 k1 k2 k3 k5, K.lookup C = some (excClassObj nm q C N bs bm true sn sub ab col dd k0 k1 k2 k3 k5 newId) ∧ PySem.W.excTail bmB bm = true := by
  unfold clsB at h
  split at h
  · rename_i dd cd sl ho
    split at h
    · rename_i C' bm k0 k1 k2 k3 n k5 hm hs
      simp only [Bool.and_eq_true, beq_iff_eq, Bool.not_eq_true'] at h
      obtain ⟨⟨⟨⟨rfl, rfl⟩, h3⟩, h4⟩, h5⟩ := h
      obtain ⟨nm, bs, mro, ns, qn, hd, sn, sub, ab, col, del⟩ := cd
      dsimp only at hm h3 h4
      subst hm h3 h4
      obtain ⟨l⟩ := sl
      obtain rfl : l = [k0, k1, k2, k3, some (.builtin n), k5] := hs
      exact ⟨nm, qn, ns, bs, bm, sn, sub, ab, col, dd, k0, k1, k2, k3, k5, ho, h5⟩
    · cases h
  · cases h
/-- what is asked of the written part for a class -/
def xmB (K : PySem.W.Frag) (xt : XTb) (m : XM) : Bool :=
  eqFind K (He.ga K m.x) "__setattr__" (some (.builtin "object.__setattr__")) && eqFind K (He.ga K m.x) "__getattribute__" (some (.builtin "BaseException.__getattribute__")) && eqFind K (He.ga K m.x) "__getattr__" none &&
  eqFind K (He.ga K m.x) "__init__" (some (.ref (He.fAd K (m.x, some ("__init__" : Str))))) && decide (PySem.W.typeIn K (.ref (He.fAd K (m.x, some ("__init__" : Str)))) = some (.type "function")) && decide (PySem.W.subIn K (.ref (He.ga K m.x)) (.type "BaseException") = some true) &&
  decide (PySem.W.typeIn K (.ref (He.ga K m.x)) = some (.type "type")) && PySem.W.keepIn K (.ref (He.ga K m.x)) && PySem.W.hasDictIn K (He.ga K m.x) && clsB K (He.ga K m.x) (baseN m.b).newId (baseN m.b).bm &&
  (He.Fa.glo m.x).ok K && (He.Fa.free (Str.ofString (baseN m.b).B)).ok K && m.fids.all fun f => eqFind K (He.ga K m.x) (xnameOf xt f) none
where eqFind (K : PySem.W.Frag) (C : Addr) (n : Str) (v : Option Value) : Bool := decide (PySem.W.findIn K (.ref C) n = some v)
def exmB (K : PySem.W.Frag) (xs : List XM) : Bool := (List.range xs.length).all fun i => (List.range xs.length).all fun j => match xs[i]?, xs[j]? with
  | some a, some b => decide (PySem.W.exmOne K (.ref (He.ga K a.x)) (.ref (He.ga K b.x)) = some (decide (i = j)))
  | _, _ => true
/-- .. of its text -/
structure XMok (xt : XTb) (m : XM) : Prop where
  ck : ckInit (Str.ofString (baseN m.b).B) (m.fids.map (xnameOf xt)) m.ini.scope m.ini.body = true
  nn : m.fids ≠ []
  few : m.fids.length ≤ 50
  nd : (m.fids.map (xnameOf xt)).Nodup
  at_ : m.ini.at_ = (m.x, some ("__init__" : Str))
  dfl : m.ini.dfl = []
  kwd : m.ini.kwd = []
  bnd : ∀ (kV doc pm : Value) (an : Option Addr) (cdv ct : Value) (us : List Value), us.length = (("self" : Str) :: m.fids.map (xnameOf xt)).length → bindArgs (PySem.W.fnOf m.ini.name m.ini.qual m.ini.params m.ini.body m.ini.scope .none kV doc pm an cdv ct) ⟨us, []⟩ = pure ((("self" : Str) :: m.fids.map (xnameOf xt)).zip us)
structure Prog (defs : List DefM) (gls : List (Str × D)) (xt : XTb) : Prop where
  ck : ∀ m ∈ defs, ckDef (tblOf defs gls xt) m = true
  bd : ∀ m ∈ defs, BindOk m
  at_ : ∀ m ∈ defs, m.d.at_ = (m.d.name, none)
  gl : ∀ g ∈ gls, isC g.2 = true
  xm : ∀ m ∈ xt.xs, XMok xt m
/-! ### the Hook -/
def fbOf (defs : List DefM) (gls : List (Str × D)) (xt : XTb) (K : PySem.W.Frag) : Bool := (faOf defs gls).all (fun f => f.ok K) && xt.xs.all (xmB K xt) && exmB K xt.xs
def fnOfX (defs : List DefM) (xt : XTb) : List He.DefD := defs.map DefM.d ++ xt.xs.map XM.ini
def obsX (fb : PySem.W.Frag → Bool) (fn : List He.DefD) (K : PySem.W.Frag) : He.AlD := (fb K && fn.all (fun d => d.ok K), fn.map fun d => He.fnW K d.at_)
def SaysX (fb : PySem.W.Frag → Bool) (fn : List He.DefD) (K : PySem.W.Frag) : Prop := obsX fb fn K = He.valD fn
def obsXG (n : Nat) (fb : PySem.W.Frag → Bool) (fn : List He.DefD) (g : Addr → Option Obj) : He.AlD := obsX fb fn (He.frG g (He.asD g n))
def hookX (n : Nat) (fb : PySem.W.Frag → Bool) (fn : List He.DefD) : PySem.W.Hook where
  α := He.AlD
  obs := fun s => obsXG n fb fn s.heap.get?
  val := fun _ => He.valD fn
  says := fun _ h => ∃ K : PySem.W.Frag, K.In h ∧ SaysX fb fn K
  of := fun _ _ e => ⟨_, He.frG_in, e⟩
  keeps := fun _ _ _ ⟨K, hK, c⟩ k => ⟨K, PySem.W.Frag.In.keeps hK k, c⟩
theorem obsXG_eq {n : Nat} {fb : PySem.W.Frag → Bool} {fn : List He.DefD} {g : Addr → Option Obj} {s : Shared} (h : ∀ a, g a = s.heap.get? a) : obsXG n fb fn g = (hookX n fb fn).obs s := by
  obtain rfl : g = s.heap.get? := funext h
  rfl
section
variable {P : Program} {w : World} {K : PySem.W.Frag} {mg : Str → Option Value} {h : Heap} {defs : List DefM} {gls : List (Str × D)} {xt : XTb} {fuel : Nat}
theorem SaysX.fb {fb : PySem.W.Frag → Bool} {fn : List He.DefD} (c : SaysX fb fn K) : fb K = true := by
  have := congrArg (fun z : He.AlD => z.1) c
  exact (Bool.and_eq_true_iff.mp this).1
theorem SaysX.def_ {fb : PySem.W.Frag → Bool} {fn : List He.DefD} (c : SaysX fb fn K) {d : He.DefD} (hm : d ∈ fn) : ∃ fd, FunD K d.name d.qual d.params d.body d.scope (d.dvs K) (d.kws K) (He.fAd K d.at_) fd := by
  have e1 := congrArg (fun z : He.AlD => z.1) c
  have e2 : fn.map (fun d => He.fnW K d.at_) = fn.map He.DefD.val := congrArg (fun z : He.AlD => z.2) c
  obtain ⟨i, hi⟩ := List.getElem?_of_mem hm
  have e3 : (fn.map fun d => He.fnW K d.at_)[i]? = (fn.map He.DefD.val)[i]? := by rw [e2]
  rw [List.getElem?_map, List.getElem?_map, hi] at e3
  exact He.DefD.funD (Option.some.inj e3) (List.all_eq_true.mp (Bool.and_eq_true_iff.mp e1).2 d hm)
theorem fb_fa (c : fbOf defs gls xt K = true) {f : He.Fa} (hf : f ∈ faOf defs gls) : f.ok K = true := by
  unfold fbOf at c
  simp only [Bool.and_eq_true] at c
  exact List.all_eq_true.mp c.1.1 f hf
theorem def_of (X : K.In h) (G : h.Ns mainGlobals mg) (c : SaysX (fbOf defs gls xt) (fnOfX defs xt) K) (pr : Prog defs gls xt) {m : DefM} (hm : m ∈ defs) : ∃ adr fd, mg m.d.name = some (.ref adr) ∧ FunD K m.d.name m.d.qual m.d.params m.d.body m.d.scope (m.d.dvs K) (m.d.kws K) adr fd := by
  obtain ⟨fd, F⟩ := c.def_ (d := m.d) (List.mem_append_left _ (List.mem_map.mpr ⟨m, hm, rfl⟩))
  refine ⟨_, fd, He.glo_ok X G (fb_fa c.fb (List.mem_append_left _ (List.mem_map.mpr ⟨m, hm, rfl⟩))), ?_⟩
  rw [pr.at_ m hm] at F
  exact F
theorem xfacts (X : K.In h) (G : h.Ns mainGlobals mg) (c : SaysX (fbOf defs gls xt) (fnOfX defs xt) K) (pr : Prog defs gls xt) (base : Heap) : XFacts (P := P) (w := w) (K := K) (mg := mg) xt (xclsOf K xt) (xnameOf xt) base := by
  have fb := c.fb
  unfold fbOf at fb
  simp only [Bool.and_eq_true] at fb
  have one : ∀ {m : XM}, m ∈ xt.xs → ∃ C, C = He.ga K m.x ∧ mg m.x = some (.ref C) ∧ XcB K C (baseN m.b).B (baseN m.b).newId (baseN m.b).initId (baseN m.b).bm ∧ XGet K C ∧ (∀ f ∈ m.fids, PySem.W.findIn K (.ref C) (xnameOf xt f) = some none) ∧
      PySem.W.findIn K (.ref C) "__init__" = some (some (.ref (He.fAd K (m.x, some ("__init__" : Str))))) ∧ PySem.W.typeIn K (.ref (He.fAd K (m.x, some ("__init__" : Str)))) = some (.type "function") ∧ mg (Str.ofString (baseN m.b).B) = none := fun {m} hm => by
    have q := List.all_eq_true.mp fb.1.2 m hm
    unfold xmB xmB.eqFind at q
    simp only [Bool.and_eq_true, decide_eq_true_eq, List.all_eq_true] at q
    obtain ⟨⟨⟨⟨⟨⟨⟨⟨⟨⟨⟨⟨q1, q2⟩, q3⟩, q4⟩, q5⟩, q6⟩, q7⟩, q8⟩, q9⟩, q10⟩, q11⟩, q12⟩, q13⟩ := q
    exact ⟨_, rfl, He.glo_ok X G q11, ⟨baseN_ok m.b, clsB_ok q10, q1, q6, q7, q8⟩, ⟨q2, q3, q9, q6⟩, q13, q4, q5, He.free_ok X G q12⟩
  refine ⟨fun c' t ht => ?_, fun c' t ht => ?_, fun f n hf => ?_, fun c1 c2 v1 v2 h1 h2 => ?_⟩
  · rw [List.getElem?_map] at ht
    obtain ⟨m, hm, rfl⟩ := Option.map_eq_some_iff.mp ht
    have hm' := List.mem_of_getElem? hm
    obtain ⟨C, hC, e1, e2, e3, e4, e5, e6, e7⟩ := one hm'
    have xo := pr.xm m hm'
    obtain ⟨fd, F⟩ := c.def_ (d := m.ini) (List.mem_append_right _ (List.mem_map.mpr ⟨m, hm', rfl⟩))
    have d1 : m.ini.dvs K = [] := by unfold He.DefD.dvs; rw [xo.dfl]; rfl
    have d2 : m.ini.kws K = [] := by unfold He.DefD.kws; rw [xo.kwd]; rfl
    rw [xo.at_, d1, d2] at F
    refine ⟨⟨C, _, fd, _, _, _, _, e1, ?_, e2, e5, e6, ?_, F.bindsN xo.bnd⟩, xo.nd, xo.few⟩
    · unfold xclsOf
      rw [hm, hC]
      rfl
    · have hck := xo.ck
      have hno : ∀ g ∈ m.fids.map (xnameOf xt), PySem.W.findIn K (.ref C) g = some none := fun g hg => by
        obtain ⟨f, hf, rfl⟩ := List.mem_map.mp hg
        exact e4 f hf
      have hfew := xo.few
      cases hfs : m.fids with
      | nil => exact absurd hfs xo.nn
      | cons f fs =>
        rw [hfs] at hck hno hfew
        simp only [List.map_cons, List.length_cons] at hck hno hfew ⊢
        exact init_fn F hck e2 hno e7 (by rw [List.length_map]; omega)
  · rw [List.getElem?_map] at ht
    obtain ⟨m, hm, rfl⟩ := Option.map_eq_some_iff.mp ht
    obtain ⟨C, hC, e1, e2, e3, e4, _⟩ := one (List.mem_of_getElem? hm)
    refine ⟨C, e1, ?_, e3, e4⟩
    unfold xclsOf
    rw [hm, hC]
    rfl
  · unfold xnameOf
    rw [hf]
    rfl
  · unfold xclsOf at h1 h2
    obtain ⟨m1, hm1, rfl⟩ := Option.map_eq_some_iff.mp h1
    obtain ⟨m2, hm2, rfl⟩ := Option.map_eq_some_iff.mp h2
    have e := fb.2
    unfold exmB at e
    have l1 := (List.getElem?_eq_some_iff.mp hm1).1
    have l2 := (List.getElem?_eq_some_iff.mp hm2).1
    have e1 := List.all_eq_true.mp (List.all_eq_true.mp e c1 (List.mem_range.mpr l1)) c2 (List.mem_range.mpr l2)
    rw [hm1, hm2] at e1
    exact of_decide_eq_true e1
theorem prog_facts (X : K.In h) (G : h.Ns mainGlobals mg) (c : SaysX (fbOf defs gls xt) (fnOfX defs xt) K) (pr : Prog defs gls xt) {i : Nat} {m : DefM} (hm : defs[i]? = some m) {x : Str} (hx : m.ps = [x]) (hd : m.d.dfl = []) (hb : Bind0 m)
    {f : Addr} (hfa : mg m.d.name = some (.ref f)) : ∃ fd, (∀ (s : Shared) (v : Value), BindsTo s fd ⟨[v], []⟩ [(x, v)]) ∧ ∀ (base : Heap) (j : Nat), FnG P w K mg base (3 * j) f fd [x] (spG K (callN (defs.map DefM.F) fuel j) i (xclsOf K xt) (xnameOf xt)) := by
  obtain ⟨adr, fd, e1, F⟩ := def_of X G c pr (List.mem_of_getElem? hm)
  cases hfa.symm.trans e1
  have e0 : m.d.dvs K = [] := by unfold He.DefD.dvs; rw [hd]; rfl
  refine ⟨fd, fun s v => ?_, fun base j => ?_⟩
  · have F' := F
    rw [e0] at F'
    have b := FunD.bindsA (ps := m.ps) F' hb s [v] (by rw [hx]; rfl)
    rw [hx] at b
    exact b
  · rw [← hx]
    refine prog_ok (xt := xt) (fun base => xfacts X G c pr base) pr.ck (fun m' hm' => ?_) (fun y hy => ?_) (fun g y d hg => ?_) j i m hm f fd _ _ F
    · obtain ⟨adr', fd', e', F'⟩ := def_of X G c pr hm'
      exact ⟨adr', fd', _, _, e', F', pr.bd m' hm' K adr' fd' F'⟩
    · exact He.free_ok X G (fb_fa c.fb (List.mem_append_right _ (List.mem_append_left _ (List.mem_map.mpr ⟨y, by simpa using hy, rfl⟩))))
    · have hg' := List.mem_of_getElem? hg
      have hf : glFa (y, d) ∈ faOf defs gls := List.mem_append_right _ (List.mem_append_right _ (List.mem_map.mpr ⟨(y, d), hg', rfl⟩))
      have hc := pr.gl _ hg'
      cases d with
      | int n =>
        obtain ⟨t, ht⟩ := He.int_ok X G (fb_fa c.fb hf)
        exact ⟨.int n, _, ht, ⟨t, rfl⟩, fun ρ H => .int n⟩
      | str s =>
        obtain ⟨t, ht⟩ := He.str_ok X G (fb_fa c.fb hf)
        exact ⟨.str (toS s), _, ht, ⟨t, rfl⟩, fun ρ H => .str s⟩
      | _ => cases hc
end
end MP
end
section
set_option Elab.async false
set_option linter.all false
set_option maxRecDepth 100000
/-! the functions of fewtests_k93_texts_of_words_and_forms_re -/
namespace K93
open MP
abbrev I_is_index : Nat := 0
abbrev I_is_group : Nat := 1
abbrev I_are_groups : Nat := 2
abbrev I_is_form_row : Nat := 3
abbrev I_are_good : Nat := 4
abbrev I_form_fault : Nat := 5
abbrev I_is_word : Nat := 6
abbrev I_read_number : Nat := 7
abbrev I_read_numbers : Nat := 8
abbrev I_parse_words : Nat := 9
abbrev I_takes_form_line : Nat := 10
abbrev I_form_of : Nat := 11
abbrev I_parse_form : Nat := 12
abbrev I__law_pen : Nat := 13
abbrev I__law_fresh : Nat := 14
abbrev I__law_draw : Nat := 15
abbrev I__law_one_of : Nat := 16
abbrev I__law_word : Nat := 17
abbrev I__law_is_letters : Nat := 18
abbrev I__law_line : Nat := 19
abbrev I__law_number : Nat := 20
abbrev I__law_spoiled_text : Nat := 21
abbrev I__law_form : Nat := 22
abbrev I__law_form_text : Nat := 23
abbrev I__law_are_groups : Nat := 24
abbrev I__law_read_form : Nat := 25
abbrev I__law_read_words : Nat := 26
abbrev I__law_form_outcome : Nat := 27
abbrev I__law_words_outcome : Nat := 28
abbrev I_law : Nat := 29
abbrev G_LETTERS : Nat := 0
abbrev G_MOST_KINDS : Nat := 1
abbrev G_MOST_GROUPS : Nat := 2
abbrev G_MOST_ROWS : Nat := 3
abbrev G_DIGITS : Nat := 4
abbrev G_MOST_FORM_STATES : Nat := 5
def CS_LETTERS : List Nat := [97, 98, 99, 100, 101, 102, 103, 104, 105, 106, 107, 108, 109, 110, 111, 112, 113, 114, 115, 116, 117, 118, 119, 120, 121, 122]
def CS_DIGITS : List Nat := [48, 49, 50, 51, 52, 53, 54, 55, 56, 57]
/-- 0 is_index(value, many): 0=value 1=many -/
def F_is_index : PFun := ⟨2, 2, [], (.cons (.ret (.and (.isin (.var 0) .int) (.and (.no (.isin (.var 0) .bool)) (.chain .le .lt (.con (.int 0)) (.var 0) (.var 1))))) .nil)⟩
/-- 1 is_group(value): 0=value 1=one 2=two 3=letter -/
def F_is_group : PFun := ⟨1, 4, [], (.cons (.ite (.or (.no (.isin (.var 0) .str)) (.or (.cmp .eq (.var 0) (.con (.str []))) (.no (.b1 .all (.fz (.comp [3] (.cmp .mem (.var 3) (.glob G_LETTERS (.str CS_LETTERS))) (.nm 3) (.seq (.var 0)) .nop)))))) (.cons (.ret (.con (.bl false))) .nil) .nil) (.cons (.ret (.b1 .all (.fz (.comp [1, 2] (.cmp .lt (.var 1) (.var 2)) (.tp [(.nm 1), (.nm 2)]) (.zip (.sl (.var 0) .nop (.neg (.con (.int 1)))) (.sl (.var 0) (.con (.int 1)) .nop) true) .nop)))) .nil))⟩
/-- 2 are_groups(value): 0=value 1=letters 2=group 3=letter -/
def F_are_groups : PFun := ⟨1, 4, [], (.cons (.ite (.or (.no (.isin (.var 0) .tuple)) (.or (.cmp .gt (.b1 .len (.var 0)) (.glob G_MOST_GROUPS (.int 3))) (.no (.b1 .all (.fz (.comp [2] (.call I_is_group (.cons (.var 2) .nil) []) (.nm 2) (.seq (.var 0)) .nop)))))) (.cons (.ret (.con (.bl false))) .nil) .nil) (.cons (.asg (.nm 1) (.fz (.comp2 [2, 3] [3] (.var 3) (.nm 2) (.seq (.var 0)) .nop (.nm 3) (.seq (.var 2)) .nop))) (.cons (.ret (.cmp .eq (.b1 .len (.var 1)) (.b1 .lenset (.var 1)))) .nil)))⟩
/-- 3 is_form_row(value, groups, states): 0=value 1=groups 2=states 3=state -/
def F_is_form_row : PFun := ⟨3, 4, [], (.cons (.ite (.or (.no (.isin (.var 0) .tuple)) (.cmp .ne (.b1 .len (.var 0)) (.bin .add (.var 1) (.con (.int 1))))) (.cons (.ret (.con (.bl false))) .nil) .nil) (.cons (.ret (.b1 .all (.fz (.comp [3] (.call I_is_index (.cons (.var 3) (.cons (.var 2) .nil)) []) (.nm 3) (.seq (.var 0)) .nop)))) .nil))⟩
/-- 4 are_good(value, states): 0=value 1=states 2=state 3=one 4=two -/
def F_are_good : PFun := ⟨2, 5, [], (.cons (.ite (.no (.b1 .all (.fz (.comp [2] (.call I_is_index (.cons (.var 2) (.cons (.var 1) .nil)) []) (.nm 2) (.seq (.var 0)) .nop)))) (.cons (.ret (.con (.bl false))) .nil) .nil) (.cons (.ret (.b1 .all (.fz (.comp [3, 4] (.cmp .lt (.var 3) (.var 4)) (.tp [(.nm 3), (.nm 4)]) (.zip (.sl (.var 0) .nop (.neg (.con (.int 1)))) (.sl (.var 0) (.con (.int 1)) .nop) true) .nop)))) .nil))⟩
/-- 5 form_fault(value): 0=value 1=groups 2=rows 3=good 4=state 5=row 6=part -/
def F_form_fault : PFun := ⟨1, 7, [], (.cons (.ite (.or (.no (.isin (.var 0) .tuple)) (.or (.cmp .ne (.b1 .len (.var 0)) (.con (.int 3))) (.no (.b1 .all (.fz (.comp [6] (.isin (.var 6) .tuple) (.nm 6) (.seq (.var 0)) .nop)))))) (.cons (.ret (.tup (.cons (.con .non) .nil))) .nil) .nil) (.cons (.asg (.tp [(.nm 1), (.nm 2), (.nm 3)]) (.var 0)) (.cons (.ite (.no (.chain .le .le (.con (.int 1)) (.b1 .len (.var 2)) (.glob G_MOST_ROWS (.int 4)))) (.cons (.ret (.tup (.cons (.con .non) .nil))) .nil) .nil) (.cons (.ite (.no (.call I_are_groups (.cons (.var 1) .nil) [])) (.cons (.ret (.tup (.cons (.tup (.cons (.con (.str [103, 114, 111, 117, 112, 115])) .nil)) .nil))) .nil) .nil) (.cons (.forS (.tp [(.nm 4), (.nm 5)]) (.enum (.var 2)) (.cons (.ite (.no (.call I_is_form_row (.cons (.var 5) (.cons (.b1 .len (.var 1)) (.cons (.b1 .len (.var 2)) .nil))) [])) (.cons (.ret (.tup (.cons (.tup (.cons (.con (.str [114, 111, 119])) (.cons (.var 4) .nil))) .nil))) .nil) .nil) .nil)) (.cons (.ret (.ite (.call I_are_good (.cons (.var 3) (.cons (.b1 .len (.var 2)) .nil)) []) (.con .non) (.tup (.cons (.tup (.cons (.con (.str [103, 111, 111, 100])) .nil)) .nil)))) .nil))))))⟩
/-- 6 is_word(value, kinds, most): 0=value 1=kinds 2=most 3=kind -/
def F_is_word : PFun := ⟨3, 4, [], (.cons (.ite (.or (.no (.isin (.var 0) .tuple)) (.and (.cmp .notN (.var 2) (.con .non)) (.cmp .gt (.b1 .len (.var 0)) (.var 2)))) (.cons (.ret (.con (.bl false))) .nil) .nil) (.cons (.ret (.b1 .all (.fz (.comp [3] (.call I_is_index (.cons (.var 3) (.cons (.var 1) .nil)) []) (.nm 3) (.seq (.var 0)) .nop)))) .nil))⟩
/-- 7 read_number(word): 0=word 1=sign -/
def F_read_number : PFun := ⟨1, 2, [], (.cons (.ite (.or (.cmp .eq (.var 0) (.con (.str []))) (.or (.cmp .gt (.b1 .len (.var 0)) (.con (.int 2))) (.and (.cmp .eq (.idx (.var 0) (.con (.int 0))) (.con (.str [48]))) (.cmp .ne (.var 0) (.con (.str [48])))))) (.cons (.ret (.con .non)) .nil) .nil) (.cons (.forS (.nm 1) (.seq (.var 0)) (.cons (.ite (.cmp .notMem (.var 1) (.glob G_DIGITS (.str CS_DIGITS))) (.cons (.ret (.con .non)) .nil) .nil) .nil)) (.cons (.ret (.b1 .int (.var 0))) .nil)))⟩
/-- 8 read_numbers(words): 0=words 1=word -/
def F_read_numbers : PFun := ⟨1, 2, [], (.cons (.ret (.b1 .tuple (.fz (.comp [1] (.call I_read_number (.cons (.var 1) .nil) []) (.nm 1) (.seq (.var 0)) .nop)))) .nil)⟩
/-- 9 parse_words(text): 0=text 1=lines 2=found 3=index 4=line 5=words -/
def F_parse_words : PFun := ⟨1, 6, [], (.cons (.par 1 2 (.fz (.split (.var 0) (.con (.str [10])))) (.al (.disp .nil))) (.cons (.forS (.tp [(.nm 3), (.nm 4)]) (.enum (.sl (.var 1) .nop (.neg (.con (.int 1))))) (.cons (.asg (.nm 5) (.fz (.split (.var 4) (.con (.str [32]))))) (.cons (.expr (.app (.var 2) (.call I_read_numbers (.cons (.sl (.var 5) (.con (.int 1)) .nop) .nil) []))) (.cons (.ite (.or (.cmp .ne (.idx (.var 5) (.con (.int 0))) (.con (.str [119, 111, 114, 100]))) (.no (.call I_is_word (.cons (.idx (.var 2) (.neg (.con (.int 1)))) (.cons (.glob G_MOST_KINDS (.int 4)) .nil)) [.non]))) (.cons (.raise 0 [0] (.cons (.var 3) .nil)) .nil) .nil) .nil)))) (.cons (.ite (.cmp .ne (.idx (.var 1) (.neg (.con (.int 1)))) (.con (.str []))) (.cons (.raise 0 [0] (.cons (.bin .sub (.b1 .len (.var 1)) (.con (.int 1))) .nil)) .nil) .nil) (.cons (.ret (.b1 .tuple (.var 2))) .nil))))⟩
/-- 10 takes_form_line(found, words): 0=found 1=words -/
def F_takes_form_line : PFun := ⟨2, 2, [], (.cons (.ite (.cmp .eq (.var 0) (.fz (.disp .nil))) (.cons (.expr (.app (.var 0) (.b1 .tuple (.sl (.var 1) (.con (.int 1)) .nop)))) (.cons (.ret (.and (.cmp .eq (.idx (.var 1) (.con (.int 0))) (.con (.str [103, 114, 111, 117, 112, 115]))) (.call I_are_groups (.cons (.idx (.var 0) (.con (.int 0))) .nil) []))) .nil)) .nil) (.cons (.expr (.app (.var 0) (.bin .add (.tup (.cons (.idx (.var 1) (.con (.int 0))) .nil)) (.call I_read_numbers (.cons (.sl (.var 1) (.con (.int 1)) .nop) .nil) [])))) (.cons (.ite (.cmp .eq (.sl (.idx (.var 0) (.neg (.con (.int 2)))) .nop (.con (.int 1))) (.tup (.cons (.con (.str [103, 111, 111, 100])) .nil))) (.cons (.ret (.con (.bl false))) .nil) .nil) (.cons (.ite (.cmp .eq (.idx (.var 1) (.con (.int 0))) (.con (.str [115, 116, 97, 116, 101]))) (.cons (.ret (.and (.cmp .le (.b1 .len (.var 0)) (.bin .add (.glob G_MOST_FORM_STATES (.int 4)) (.con (.int 1)))) (.call I_is_form_row (.cons (.sl (.idx (.var 0) (.neg (.con (.int 1)))) (.con (.int 1)) .nop) (.cons (.b1 .len (.idx (.var 0) (.con (.int 0)))) (.cons (.glob G_MOST_FORM_STATES (.int 4)) .nil))) []))) .nil) .nil) (.cons (.ret (.and (.cmp .eq (.idx (.var 1) (.con (.int 0))) (.con (.str [103, 111, 111, 100]))) (.and (.cmp .gt (.b1 .len (.var 0)) (.con (.int 2))) (.cmp .isN (.call I_form_fault (.cons (.call I_form_of (.cons (.var 0) .nil) []) .nil) []) (.con .non))))) .nil)))))⟩
/-- 11 form_of(found): 0=found 1=line -/
def F_form_of : PFun := ⟨1, 2, [], (.cons (.ret (.tup (.cons (.idx (.var 0) (.con (.int 0))) (.cons (.b1 .tuple (.fz (.comp [1] (.sl (.var 1) (.con (.int 1)) .nop) (.nm 1) (.seq (.sl (.var 0) (.con (.int 1)) (.neg (.con (.int 1))))) .nop))) (.cons (.sl (.idx (.var 0) (.neg (.con (.int 1)))) (.con (.int 1)) .nop) .nil))))) .nil)⟩
/-- 12 parse_form(text): 0=text 1=lines 2=found 3=index 4=line -/
def F_parse_form : PFun := ⟨1, 5, [], (.cons (.par 1 2 (.fz (.split (.var 0) (.con (.str [10])))) (.al (.disp .nil))) (.cons (.forS (.tp [(.nm 3), (.nm 4)]) (.enum (.sl (.var 1) .nop (.neg (.con (.int 1))))) (.cons (.ite (.no (.call I_takes_form_line (.cons (.var 2) (.cons (.fz (.split (.var 4) (.con (.str [32])))) .nil)) [])) (.cons (.raise 0 [0] (.cons (.var 3) .nil)) .nil) .nil) .nil)) (.cons (.ite (.or (.cmp .ne (.idx (.var 1) (.neg (.con (.int 1)))) (.con (.str []))) (.or (.cmp .lt (.b1 .len (.var 2)) (.con (.int 3))) (.cmp .ne (.sl (.idx (.var 2) (.neg (.con (.int 1)))) .nop (.con (.int 1))) (.tup (.cons (.con (.str [103, 111, 111, 100])) .nil))))) (.cons (.raise 0 [0] (.cons (.bin .sub (.b1 .len (.var 1)) (.con (.int 1))) .nil)) .nil) .nil) (.cons (.ret (.call I_form_of (.cons (.var 2) .nil) [])) .nil))))⟩
/-- 13 _law_pen(script): 0=script -/
def F__law_pen : PFun := ⟨1, 1, [], (.cons (.ret (.al (.disp (.cons (.fz (.l1 .list (.sl (.var 0) .nop (.con (.int 63))))) (.cons (.con (.int 0)) (.cons (.con (.int 0)) .nil)))))) .nil)⟩
/-- 14 _law_fresh(pen): 0=pen 1=cell 2=prime 3=state 4=found 5=lap 6=place 7=cells -/
def F__law_fresh : PFun := ⟨1, 8, [], (.cons (.par 6 7 (.idx (.var 0) (.con (.int 1))) (.idx (.var 0) (.con (.int 0)))) (.cons (.setI (.var 0) (.con (.int 1)) (.bin .add (.var 6) (.con (.int 1)))) (.cons (.asg (.nm 1) (.ite (.cmp .ne (.var 7) (.fz (.disp .nil))) (.idx (.var 7) (.bin .mod (.b1 .int (.var 6)) (.b1 .len (.var 7)))) (.con (.int 0)))) (.cons (.ite (.and (.cmp .lt (.var 6) (.b1 .len (.var 7))) (.cmp .ge (.var 1) (.bin .pow (.con (.int 10)) (.con (.int 18))))) (.cons (.ret (.bin .sub (.var 1) (.bin .pow (.con (.int 10)) (.con (.int 18))))) .nil) .nil) (.cons (.asg (.nm 2) (.con (.int 2305843009213693951))) (.cons (.asg (.nm 3) (.bin .mod (.b1 .int (.bin .add (.bin .add (.bin .mul (.var 1) (.con (.int 40014))) (.bin .mul (.con (.int 52774)) (.var 6))) (.con (.int 17)))) (.var 2))) (.cons (.asg (.nm 4) (.var 3)) (.cons (.forS (.nm 5) (.rng (.con (.int 0)) (.con (.int 6))) (.cons (.asg (.nm 3) (.bin .mod (.b1 .int (.bin .add (.bin .add (.bin .mul (.var 3) (.var 3)) (.bin .mul (.bin .mul (.con (.int 48271)) (.bin .add (.var 5) (.con (.int 2)))) (.bin .add (.var 6) (.con (.int 1))))) (.var 1))) (.var 2))) (.cons (.asg (.nm 4) (.bin .add (.bin .mul (.var 4) (.var 2)) (.var 3))) .nil))) (.cons (.ret (.var 4)) .nil)))))))))⟩
/-- 15 _law_draw(pen, bound): 0=pen 1=bound 2=digit -/
def F__law_draw : PFun := ⟨2, 3, [], (.cons (.ite (.cmp .lt (.idx (.var 0) (.con (.int 2))) (.var 1)) (.cons (.setI (.var 0) (.con (.int 2)) (.call I__law_fresh (.cons (.var 0) .nil) [])) .nil) .nil) (.cons (.asg (.nm 2) (.bin .mod (.b1 .int (.idx (.var 0) (.con (.int 2)))) (.var 1))) (.cons (.setI (.var 0) (.con (.int 2)) (.bin .fdiv (.b1 .int (.idx (.var 0) (.con (.int 2)))) (.var 1))) (.cons (.ret (.var 2)) .nil))))⟩
/-- 16 _law_one_of(pen, rows): 0=pen 1=rows -/
def F__law_one_of : PFun := ⟨2, 2, [], (.cons (.ret (.idx (.var 1) (.call I__law_draw (.cons (.var 0) (.cons (.b1 .len (.var 1)) .nil)) []))) .nil)⟩
/-- 17 _law_word(pen, count, most): 0=pen 1=count 2=most 3=lap -/
def F__law_word : PFun := ⟨3, 4, [], (.cons (.ret (.b1 .tuple (.fz (.comp [3] (.call I__law_draw (.cons (.var 0) (.cons (.var 1) .nil)) []) (.nm 3) (.rng (.con (.int 0)) (.call I__law_draw (.cons (.var 0) (.cons (.bin .add (.var 2) (.con (.int 1))) .nil)) [])) .nop)))) .nil)⟩
/-- 18 _law_is_letters(value, most): 0=value 1=most 2=sign -/
def F__law_is_letters : PFun := ⟨2, 3, [], (.cons (.ite (.or (.no (.isin (.var 0) .str)) (.cmp .gt (.b1 .len (.var 0)) (.var 1))) (.cons (.ret (.con (.bl false))) .nil) .nil) (.cons (.ret (.cmp .eq (.fz (.comp [2] (.var 2) (.nm 2) (.seq (.var 0)) (.no (.chain .le .le (.con (.str [97])) (.var 2) (.con (.str [122])))))) (.fz (.disp .nil)))) .nil))⟩
/-- 19 _law_line(parts): 0=parts 1=part -/
def F__law_line : PFun := ⟨1, 2, [], (.cons (.ret (.bin .add (.b2 .join (.con (.str [32])) (.fz (.comp [1] (.b1 .str (.var 1)) (.nm 1) (.seq (.var 0)) .nop))) (.con (.str [10])))) .nil)⟩
/-- 20 _law_number(word, most): 0=word 1=most 2=some 3=number -/
def F__law_number : PFun := ⟨2, 4, [], (.cons (.asg (.nm 2) (.fz (.comp [3] (.var 3) (.nm 3) (.rng (.con (.int 0)) (.var 1)) (.cmp .eq (.b1 .str (.var 3)) (.var 0))))) (.cons (.ret (.ite (.cmp .eq (.var 2) (.fz (.disp .nil))) (.con .non) (.idx (.var 2) (.con (.int 0))))) .nil))⟩
/-- 21 _law_spoiled_text(pen, text, words): 0=pen 1=text 2=words 3=parts 4=place 5=some 6=word 7=more 8=lines 9=option 10=at 11=other -/
def F__law_spoiled_text : PFun := ⟨3, 12, [], (.cons (.par 8 9 (.al (.split (.var 1) (.con (.str [10])))) (.call I__law_draw (.cons (.var 0) (.cons (.con (.int 9)) .nil)) [])) (.cons (.par 10 11 (.call I__law_draw (.cons (.var 0) (.cons (.b1 .len (.var 8)) .nil)) []) (.call I__law_draw (.cons (.var 0) (.cons (.b1 .len (.var 8)) .nil)) [])) (.cons (.ite (.cmp .eq (.var 9) (.con (.int 0))) (.cons (.ret (.b2 .join (.con (.str [10])) (.bin .add (.sl (.var 8) .nop (.var 10)) (.sl (.var 8) (.bin .add (.var 10) (.con (.int 1))) .nop)))) .nil) .nil) (.cons (.ite (.cmp .eq (.var 9) (.con (.int 1))) (.cons (.ret (.b2 .join (.con (.str [10])) (.bin .add (.bin .add (.sl (.var 8) .nop (.var 10)) (.fz (.disp (.cons (.idx (.var 8) (.var 11)) .nil)))) (.sl (.var 8) (.var 10) .nop)))) .nil) .nil) (.cons (.ite (.cmp .eq (.var 9) (.con (.int 2))) (.cons (.asg2 (.var 8) (.var 10) (.var 8) (.var 11) (.tup (.cons (.idx (.var 8) (.var 11)) (.cons (.idx (.var 8) (.var 10)) .nil)))) (.cons (.ret (.b2 .join (.con (.str [10])) (.var 8))) .nil)) .nil) (.cons (.ite (.cmp .eq (.var 9) (.con (.int 3))) (.cons (.ret (.b2 .join (.con (.str [10])) (.bin .add (.bin .add (.sl (.var 8) .nop (.var 10)) (.fz (.disp (.cons (.call I__law_one_of (.cons (.var 0) (.cons (.var 2) .nil)) []) .nil)))) (.sl (.var 8) (.var 10) .nop)))) .nil) .nil) (.cons (.asg (.nm 3) (.al (.split (.idx (.var 8) (.var 10)) (.con (.str [32]))))) (.cons (.asg (.nm 4) (.call I__law_draw (.cons (.var 0) (.cons (.bin .add (.b1 .len (.var 3)) (.con (.int 1))) .nil)) [])) (.cons (.asg (.nm 5) (.fz (.disp (.cons (.con (.str [48])) (.cons (.con (.str [49])) (.cons (.con (.str [50])) (.cons (.con (.str [51])) (.cons (.con (.str [52])) (.cons (.con (.str [49, 49])) (.cons (.con (.str [49, 50])) (.cons (.con (.str [48, 48])) (.cons (.con (.str [48, 49])) (.cons (.con (.str [97])) (.cons (.con (.str [122, 122])) (.cons (.con (.str [65])) (.cons (.con (.str [45])) (.cons (.con (.str [])) (.cons (.con (.str [116, 111])) (.cons (.con (.str [49, 32, 48])) (.cons (.con (.str [120, 49])) .nil)))))))))))))))))))) (.cons (.asg (.nm 5) (.bin .add (.var 5) (.fz (.disp (.cons (.con (.str [43, 49])) (.cons (.con (.str [49, 95, 49])) (.cons (.con (.str [45, 48])) (.cons (.con (.str [48, 9, 49])) (.cons (.con (.str [9])) (.cons (.con (.str [97, 9])) (.cons (.con (.str [122, 123])) (.cons (.con (.str [97, 95])) (.cons (.con (.str [49, 48, 48])) (.cons (.bin .mul (.con (.str [49])) (.con (.int 4400))) (.cons (.bin .mul (.con (.str [48])) (.con (.int 4400))) .nil))))))))))))))) (.cons (.asg (.nm 5) (.bin .add (.var 5) (.fz (.disp (.cons (.con (.str [97, 45])) (.cons (.con (.str [45, 45])) (.cons (.con (.str [83, 116, 97, 116, 101])) (.cons (.con (.str [107, 105, 110, 100, 115])) (.cons (.con (.str [87, 111, 114, 100])) .nil))))))))) (.cons (.asg (.nm 6) (.idx (.var 5) (.call I__law_draw (.cons (.var 0) (.cons (.b1 .len (.var 5)) .nil)) []))) (.cons (.ite (.or (.cmp .eq (.var 9) (.con (.int 4))) (.cmp .eq (.var 4) (.b1 .len (.var 3)))) (.cons (.asg (.nm 3) (.bin .add (.bin .add (.sl (.var 3) .nop (.var 4)) (.fz (.disp (.cons (.var 6) .nil)))) (.sl (.var 3) (.var 4) .nop))) .nil) (.cons (.ite (.cmp .eq (.var 9) (.con (.int 5))) (.cons (.asg (.nm 3) (.bin .add (.sl (.var 3) .nop (.var 4)) (.sl (.var 3) (.bin .add (.var 4) (.con (.int 1))) .nop))) .nil) (.cons (.setI (.var 3) (.var 4) (.var 6)) .nil)) .nil)) (.cons (.setI (.var 8) (.var 10) (.b2 .join (.con (.str [32])) (.var 3))) (.cons (.asg (.nm 7) (.call I__law_one_of (.cons (.var 0) (.cons (.fz (.disp (.cons (.con (.str [10])) (.cons (.con (.str [32])) (.cons (.con (.str [115, 116, 97, 116, 101, 10])) (.cons (.con (.str [97])) (.cons (.con (.str [10, 10])) (.cons (.con (.str [9])) .nil)))))))) .nil)) [])) (.cons (.ret (.bin .add (.b2 .join (.con (.str [10])) (.var 8)) (.bin .mul (.var 7) (.b1 .int (.cmp .eq (.var 9) (.con (.int 8))))))) .nil))))))))))))))))⟩
/-- 22 _law_form(pen): 0=pen 1=lap 2=states 3=rows 4=good 5=letters 6=groups 7=some 8=state 9=turn 10=place -/
def F__law_form : PFun := ⟨1, 11, [], (.cons (.asg (.tp [(.nm 5), (.nm 6)]) (.tup (.cons (.al (.l1 .list (.con (.str [97, 98, 99, 120, 121, 122])))) (.cons (.al (.disp .nil)) .nil)))) (.cons (.forS (.nm 1) (.rng (.con (.int 0)) (.call I__law_draw (.cons (.var 0) (.cons (.con (.int 4)) .nil)) [])) (.cons (.asg (.nm 7) (.fz (.l1 .sorted (.fz (.comp [9] (.pop (.var 5) (.call I__law_draw (.cons (.var 0) (.cons (.b1 .len (.var 5)) .nil)) [])) (.nm 9) (.rng (.con (.int 0)) (.bin .add (.con (.int 1)) (.call I__law_draw (.cons (.var 0) (.cons (.con (.int 2)) .nil)) []))) .nop))))) (.cons (.expr (.app (.var 6) (.b2 .join (.con (.str [])) (.var 7)))) .nil))) (.cons (.asg (.nm 2) (.bin .add (.con (.int 1)) (.call I__law_draw (.cons (.var 0) (.cons (.con (.int 4)) .nil)) []))) (.cons (.asg (.nm 3) (.fz (.comp [8] (.b1 .tuple (.fz (.comp [10] (.call I__law_draw (.cons (.var 0) (.cons (.var 2) .nil)) []) (.nm 10) (.rng (.con (.int 0)) (.bin .add (.b1 .len (.var 6)) (.con (.int 1)))) .nop))) (.nm 8) (.rng (.con (.int 0)) (.var 2)) .nop))) (.cons (.asg (.nm 4) (.b1 .tuple (.fz (.comp [8] (.var 8) (.nm 8) (.rng (.con (.int 0)) (.var 2)) (.cmp .eq (.call I__law_draw (.cons (.var 0) (.cons (.con (.int 2)) .nil)) []) (.con (.int 0))))))) (.cons (.ret (.tup (.cons (.b1 .tuple (.var 6)) (.cons (.b1 .tuple (.var 3)) (.cons (.var 4) .nil))))) .nil))))))⟩
/-- 23 _law_form_text(form): 0=form 1=text 2=row -/
def F__law_form_text : PFun := ⟨1, 3, [], (.cons (.asg (.nm 1) (.call I__law_line (.cons (.fz (.l2 .cat (.fz (.disp (.cons (.con (.str [103, 114, 111, 117, 112, 115])) .nil))) (.fz (.l1 .list (.idx (.var 0) (.con (.int 0))))))) .nil) [])) (.cons (.forS (.nm 2) (.seq (.idx (.var 0) (.con (.int 1)))) (.cons (.asg (.nm 1) (.bin .add (.var 1) (.call I__law_line (.cons (.fz (.l2 .cat (.fz (.disp (.cons (.con (.str [115, 116, 97, 116, 101])) .nil))) (.fz (.l1 .list (.var 2))))) .nil) []))) .nil)) (.cons (.ret (.bin .add (.var 1) (.call I__law_line (.cons (.fz (.l2 .cat (.fz (.disp (.cons (.con (.str [103, 111, 111, 100])) .nil))) (.fz (.l1 .list (.idx (.var 0) (.con (.int 2))))))) .nil) []))) .nil)))⟩
/-- 24 _law_are_groups(words): 0=words 1=seen 2=word 3=one 4=two -/
def F__law_are_groups : PFun := ⟨1, 5, [], (.cons (.asg (.nm 1) (.fz (.disp .nil))) (.cons (.forS (.nm 2) (.seq (.var 0)) (.cons (.ite (.or (.cmp .eq (.var 2) (.con (.str []))) (.no (.call I__law_is_letters (.cons (.var 2) (.cons (.con (.int 26)) .nil)) []))) (.cons (.ret (.con (.bl false))) .nil) .nil) (.cons (.ite (.cmp .ne (.fz (.comp [3, 4] (.con (.int 1)) (.tp [(.nm 3), (.nm 4)]) (.zip (.var 2) (.sl (.var 2) (.con (.int 1)) .nop) false) (.cmp .ge (.var 3) (.var 4)))) (.fz (.disp .nil))) (.cons (.ret (.con (.bl false))) .nil) .nil) (.cons (.asg (.nm 1) (.bin .add (.var 1) (.fz (.l1 .list (.var 2))))) .nil)))) (.cons (.ret (.and (.cmp .le (.b1 .len (.var 0)) (.con (.int 3))) (.cmp .eq (.b1 .len (.var 1)) (.b1 .lenset (.var 1))))) .nil)))⟩
/-- 25 _law_read_form(text): 0=text 1=lines 2=groups 3=rows 4=good 5=index 6=line 7=numbers 8=word 9=rest 10=right 11=one 12=row 13=two -/
def F__law_read_form : PFun := ⟨1, 14, [], (.cons (.asg (.nm 1) (.fz (.split (.var 0) (.con (.str [10]))))) (.cons (.asg (.tp [(.nm 2), (.nm 3), (.nm 4)]) (.tup (.cons (.con .non) (.cons (.al (.disp .nil)) (.cons (.con .non) .nil))))) (.cons (.forS (.tp [(.nm 5), (.nm 6)]) (.enum (.sl (.var 1) .nop (.neg (.con (.int 1))))) (.cons (.par 8 9 (.idx (.fz (.split (.var 6) (.con (.str [32])))) (.con (.int 0))) (.sl (.fz (.split (.var 6) (.con (.str [32])))) (.con (.int 1)) .nop)) (.cons (.asg (.nm 7) (.fz (.comp [11] (.call I__law_number (.cons (.var 11) (.cons (.con (.int 4)) .nil)) []) (.nm 11) (.seq (.var 9)) .nop))) (.cons (.ite (.cmp .isN (.var 2) (.con .non)) (.cons (.asg (.nm 2) (.var 9)) (.cons (.asg (.nm 10) (.and (.cmp .eq (.var 8) (.con (.str [103, 114, 111, 117, 112, 115]))) (.call I__law_are_groups (.cons (.var 9) .nil) []))) .nil)) (.cons (.ite (.cmp .notN (.var 4) (.con .non)) (.cons (.asg (.nm 10) (.con (.bl false))) .nil) (.cons (.ite (.cmp .eq (.var 8) (.con (.str [115, 116, 97, 116, 101]))) (.cons (.expr (.app (.var 3) (.b1 .tuple (.var 7)))) (.cons (.asg (.nm 10) (.and (.cmp .notMem (.con .non) (.var 7)) (.and (.cmp .eq (.b1 .len (.var 7)) (.bin .add (.b1 .len (.var 2)) (.con (.int 1)))) (.cmp .le (.b1 .len (.var 3)) (.con (.int 4)))))) .nil)) (.cons (.asg (.nm 4) (.b1 .tuple (.var 7))) (.cons (.asg (.nm 10) (.and (.cmp .eq (.var 8) (.con (.str [103, 111, 111, 100]))) (.and (.cmp .ne (.var 3) (.fz (.disp .nil))) (.cmp .notMem (.con .non) (.var 7))))) (.cons (.asg (.nm 10) (.and (.var 10) (.cmp .eq (.fz (.comp [11, 13] (.con (.int 1)) (.tp [(.nm 11), (.nm 13)]) (.zip (.var 7) (.sl (.var 7) (.con (.int 1)) .nop) false) (.cmp .ge (.var 11) (.var 13)))) (.fz (.disp .nil))))) (.cons (.asg (.nm 10) (.and (.var 10) (.cmp .eq (.fz (.comp [11] (.var 11) (.nm 11) (.seq (.var 7)) (.cmp .ge (.var 11) (.b1 .len (.var 3))))) (.fz (.disp .nil))))) (.cons (.forS (.nm 12) (.seq (.var 3)) (.cons (.asg (.nm 10) (.and (.var 10) (.cmp .eq (.fz (.comp [11] (.var 11) (.nm 11) (.seq (.var 12)) (.cmp .ge (.var 11) (.b1 .len (.var 3))))) (.fz (.disp .nil))))) .nil)) .nil)))))) .nil)) .nil)) (.cons (.ite (.no (.var 10)) (.cons (.ret (.tup (.cons (.con (.str [108, 105, 110, 101])) (.cons (.var 5) .nil)))) .nil) .nil) .nil))))) (.cons (.ite (.or (.cmp .ne (.idx (.var 1) (.neg (.con (.int 1)))) (.con (.str []))) (.cmp .isN (.var 4) (.con .non))) (.cons (.ret (.tup (.cons (.con (.str [108, 105, 110, 101])) (.cons (.bin .sub (.b1 .len (.var 1)) (.con (.int 1))) .nil)))) .nil) .nil) (.cons (.ret (.tup (.cons (.con (.str [116, 111, 108, 100])) (.cons (.tup (.cons (.b1 .tuple (.var 2)) (.cons (.b1 .tuple (.var 3)) (.cons (.var 4) .nil)))) .nil)))) .nil)))))⟩
/-- 26 _law_read_words(text): 0=text 1=lines 2=found 3=index 4=line 5=parts 6=one -/
def F__law_read_words : PFun := ⟨1, 7, [], (.cons (.par 1 2 (.fz (.split (.var 0) (.con (.str [10])))) (.al (.disp .nil))) (.cons (.forS (.tp [(.nm 3), (.nm 4)]) (.enum (.sl (.var 1) .nop (.neg (.con (.int 1))))) (.cons (.asg (.nm 5) (.fz (.split (.var 4) (.con (.str [32]))))) (.cons (.expr (.app (.var 2) (.b1 .tuple (.fz (.comp [6] (.call I__law_number (.cons (.var 6) (.cons (.con (.int 4)) .nil)) []) (.nm 6) (.seq (.sl (.var 5) (.con (.int 1)) .nop)) .nop))))) (.cons (.ite (.or (.cmp .ne (.idx (.var 5) (.con (.int 0))) (.con (.str [119, 111, 114, 100]))) (.cmp .mem (.con .non) (.idx (.var 2) (.neg (.con (.int 1)))))) (.cons (.ret (.tup (.cons (.con (.str [108, 105, 110, 101])) (.cons (.var 3) .nil)))) .nil) .nil) .nil)))) (.cons (.ret (.ite (.cmp .eq (.idx (.var 1) (.neg (.con (.int 1)))) (.con (.str []))) (.tup (.cons (.con (.str [116, 111, 108, 100])) (.cons (.b1 .tuple (.var 2)) .nil))) (.tup (.cons (.con (.str [108, 105, 110, 101])) (.cons (.bin .sub (.b1 .len (.var 1)) (.con (.int 1))) .nil))))) .nil)))⟩
/-- 27 _law_form_outcome(text): 0=text 1=e 2=found -/
def F__law_form_outcome : PFun := ⟨1, 3, [], (.cons (.tryR (.cons (.asg (.nm 2) (.call I_parse_form (.cons (.var 0) .nil) [])) .nil) [(0, .tup [(.con (.str [108, 105, 110, 101])), (.fld 0)])]) (.cons (.ret (.tup (.cons (.con (.str [116, 111, 108, 100])) (.cons (.var 2) .nil)))) .nil))⟩
/-- 28 _law_words_outcome(text): 0=text 1=e 2=found -/
def F__law_words_outcome : PFun := ⟨1, 3, [], (.cons (.tryR (.cons (.asg (.nm 2) (.call I_parse_words (.cons (.var 0) .nil) [])) .nil) [(0, .tup [(.con (.str [108, 105, 110, 101])), (.fld 0)])]) (.cons (.ret (.tup (.cons (.con (.str [116, 111, 108, 100])) (.cons (.var 2) .nil)))) .nil))⟩
/-- 29 law(script): 0=script 1=pen 2=lines 3=lap 4=text 5=turn -/
def F_law : PFun := ⟨1, 6, [], (.cons (.asg (.nm 1) (.call I__law_pen (.cons (.var 0) .nil) [])) (.cons (.asg (.nm 2) (.fz (.disp (.cons (.con (.str [103, 111, 111, 100])) (.cons (.con (.str [103, 111, 111, 100, 32, 48])) (.cons (.con (.str [103, 111, 111, 100, 32, 48, 32, 49])) (.cons (.con (.str [115, 116, 97, 116, 101, 32, 48, 32, 48])) (.cons (.con (.str [115, 116, 97, 116, 101, 32, 51])) (.cons (.con (.str [103, 114, 111, 117, 112, 115])) (.cons (.con (.str [103, 114, 111, 117, 112, 115, 32, 97])) (.cons (.con (.str [103, 114, 111, 117, 112, 115, 32, 97, 98, 32, 98])) .nil))))))))))) (.cons (.asg (.nm 2) (.bin .add (.var 2) (.fz (.disp (.cons (.con (.str [119, 111, 114, 100, 32, 48])) (.cons (.con (.str [119, 111, 114, 100])) (.cons (.con (.str [])) .nil))))))) (.cons (.forS (.nm 3) (.rng (.con (.int 0)) (.con (.int 3))) (.cons (.asg (.nm 4) (.call I__law_form_text (.cons (.call I__law_form (.cons (.var 1) .nil) []) .nil) [])) (.cons (.forS (.nm 5) (.rng (.con (.int 0)) (.call I__law_draw (.cons (.var 1) (.cons (.con (.int 4)) .nil)) [])) (.cons (.asg (.nm 4) (.call I__law_spoiled_text (.cons (.var 1) (.cons (.var 4) (.cons (.var 2) .nil))) [])) .nil)) (.cons (.ite (.cmp .ne (.b1 .repr (.call I__law_form_outcome (.cons (.var 4) .nil) [])) (.b1 .repr (.call I__law_read_form (.cons (.var 4) .nil) []))) (.cons (.ret (.con (.bl false))) .nil) .nil) (.cons (.asg (.nm 4) (.con (.str []))) (.cons (.forS (.nm 5) (.rng (.con (.int 0)) (.call I__law_draw (.cons (.var 1) (.cons (.con (.int 4)) .nil)) [])) (.cons (.asg (.nm 4) (.bin .add (.var 4) (.call I__law_line (.cons (.fz (.l2 .cat (.fz (.disp (.cons (.con (.str [119, 111, 114, 100])) .nil))) (.fz (.l1 .list (.call I__law_word (.cons (.var 1) (.cons (.con (.int 4)) (.cons (.con (.int 4)) .nil))) []))))) .nil) []))) .nil)) (.cons (.forS (.nm 5) (.rng (.con (.int 0)) (.call I__law_draw (.cons (.var 1) (.cons (.con (.int 4)) .nil)) [])) (.cons (.asg (.nm 4) (.call I__law_spoiled_text (.cons (.var 1) (.cons (.var 4) (.cons (.var 2) .nil))) [])) .nil)) (.cons (.ite (.cmp .ne (.b1 .repr (.call I__law_words_outcome (.cons (.var 4) .nil) [])) (.b1 .repr (.call I__law_read_words (.cons (.var 4) .nil) []))) (.cons (.ret (.con (.bl false))) .nil) .nil) .nil)))))))) (.cons (.ret (.cmp .eq (.b1 .repr (.fz (.disp (.cons (.call I__law_form_outcome (.cons (.con (.str [])) .nil) []) (.cons (.call I__law_words_outcome (.cons (.con (.str [10])) .nil) []) .nil))))) (.con (.str [91, 40, 39, 108, 105, 110, 101, 39, 44, 32, 48, 41, 44, 32, 40, 39, 108, 105, 110, 101, 39, 44, 32, 48, 41, 93])))) .nil)))))⟩
def fs : List PFun := [F_is_index, F_is_group, F_are_groups, F_is_form_row, F_are_good, F_form_fault, F_is_word, F_read_number, F_read_numbers, F_parse_words, F_takes_form_line, F_form_of, F_parse_form, F__law_pen, F__law_fresh, F__law_draw, F__law_one_of, F__law_word, F__law_is_letters, F__law_line, F__law_number, F__law_spoiled_text, F__law_form, F__law_form_text, F__law_are_groups, F__law_read_form, F__law_read_words, F__law_form_outcome, F__law_words_outcome, F_law]
end K93
end
section
set_option Elab.async false
set_option linter.all false
set_option maxRecDepth 100000
set_option maxHeartbeats 0
/-! the tables of fewtests_k93_texts_of_words_and_forms_re -/
namespace K93
open PySem PySem.Spec PyProof.Rows L2 MP
def top (i : Nat) : Stmt := PySem.Challenge.pw_fewtests_k93_texts_of_words_and_forms_re.main.body.getD i (.Pass ⟨0, 0, 0, 0⟩)
def d_is_index : He.DefD := ⟨("is_index", none), "is_index", "is_index", defArgs (top 5), defBody (top 5), defScope (top 5), [], []⟩
def m_is_index : DefM := ⟨d_is_index, ["value", "many"], ["value", "many"], [[]], F_is_index⟩
def d_is_group : He.DefD := ⟨("is_group", none), "is_group", "is_group", defArgs (top 9), defBody (top 9), defScope (top 9), [], []⟩
def m_is_group : DefM := ⟨d_is_group, ["value"], ["value", "one", "two", "letter"], [[]], F_is_group⟩
def d_are_groups : He.DefD := ⟨("are_groups", none), "are_groups", "are_groups", defArgs (top 10), defBody (top 10), defScope (top 10), [], []⟩
def m_are_groups : DefM := ⟨d_are_groups, ["value"], ["value", "letters", "group", "letter"], [[]], F_are_groups⟩
def d_is_form_row : He.DefD := ⟨("is_form_row", none), "is_form_row", "is_form_row", defArgs (top 11), defBody (top 11), defScope (top 11), [], []⟩
def m_is_form_row : DefM := ⟨d_is_form_row, ["value", "groups", "states"], ["value", "groups", "states", "state"], [[]], F_is_form_row⟩
def d_are_good : He.DefD := ⟨("are_good", none), "are_good", "are_good", defArgs (top 12), defBody (top 12), defScope (top 12), [], []⟩
def m_are_good : DefM := ⟨d_are_good, ["value", "states"], ["value", "states", "state", "one", "two"], [[]], F_are_good⟩
def d_form_fault : He.DefD := ⟨("form_fault", none), "form_fault", "form_fault", defArgs (top 13), defBody (top 13), defScope (top 13), [], []⟩
def m_form_fault : DefM := ⟨d_form_fault, ["value"], ["value", "groups", "rows", "good", "state", "row", "part"], [[]], F_form_fault⟩
def d_is_word : He.DefD := ⟨("is_word", none), "is_word", "is_word", defArgs (top 15), defBody (top 15), defScope (top 15), [.non], []⟩
def m_is_word : DefM := ⟨d_is_word, ["value", "kinds", "most"], ["value", "kinds", "most", "kind"], [[.non]], F_is_word⟩
def d_read_number : He.DefD := ⟨("read_number", none), "read_number", "read_number", defArgs (top 19), defBody (top 19), defScope (top 19), [], []⟩
def m_read_number : DefM := ⟨d_read_number, ["word"], ["word", "sign"], [[]], F_read_number⟩
def d_read_numbers : He.DefD := ⟨("read_numbers", none), "read_numbers", "read_numbers", defArgs (top 20), defBody (top 20), defScope (top 20), [], []⟩
def m_read_numbers : DefM := ⟨d_read_numbers, ["words"], ["words", "word"], [[]], F_read_numbers⟩
def d_parse_words : He.DefD := ⟨("parse_words", none), "parse_words", "parse_words", defArgs (top 21), defBody (top 21), defScope (top 21), [], []⟩
def m_parse_words : DefM := ⟨d_parse_words, ["text"], ["text", "lines", "found", "index", "line", "words"], [[]], F_parse_words⟩
def d_takes_form_line : He.DefD := ⟨("takes_form_line", none), "takes_form_line", "takes_form_line", defArgs (top 22), defBody (top 22), defScope (top 22), [], []⟩
def m_takes_form_line : DefM := ⟨d_takes_form_line, ["found", "words"], ["found", "words"], [[]], F_takes_form_line⟩
def d_form_of : He.DefD := ⟨("form_of", none), "form_of", "form_of", defArgs (top 23), defBody (top 23), defScope (top 23), [], []⟩
def m_form_of : DefM := ⟨d_form_of, ["found"], ["found", "line"], [[]], F_form_of⟩
def d_parse_form : He.DefD := ⟨("parse_form", none), "parse_form", "parse_form", defArgs (top 24), defBody (top 24), defScope (top 24), [], []⟩
def m_parse_form : DefM := ⟨d_parse_form, ["text"], ["text", "lines", "found", "index", "line"], [[]], F_parse_form⟩
def d__law_pen : He.DefD := ⟨("_law_pen", none), "_law_pen", "_law_pen", defArgs (top 26), defBody (top 26), defScope (top 26), [], []⟩
def m__law_pen : DefM := ⟨d__law_pen, ["script"], ["script"], [[]], F__law_pen⟩
def d__law_fresh : He.DefD := ⟨("_law_fresh", none), "_law_fresh", "_law_fresh", defArgs (top 27), defBody (top 27), defScope (top 27), [], []⟩
def m__law_fresh : DefM := ⟨d__law_fresh, ["pen"], ["pen", "cell", "prime", "state", "found", "lap", "place", "cells"], [[]], F__law_fresh⟩
def d__law_draw : He.DefD := ⟨("_law_draw", none), "_law_draw", "_law_draw", defArgs (top 28), defBody (top 28), defScope (top 28), [], []⟩
def m__law_draw : DefM := ⟨d__law_draw, ["pen", "bound"], ["pen", "bound", "digit"], [[]], F__law_draw⟩
def d__law_one_of : He.DefD := ⟨("_law_one_of", none), "_law_one_of", "_law_one_of", defArgs (top 29), defBody (top 29), defScope (top 29), [], []⟩
def m__law_one_of : DefM := ⟨d__law_one_of, ["pen", "rows"], ["pen", "rows"], [[]], F__law_one_of⟩
def d__law_word : He.DefD := ⟨("_law_word", none), "_law_word", "_law_word", defArgs (top 30), defBody (top 30), defScope (top 30), [], []⟩
def m__law_word : DefM := ⟨d__law_word, ["pen", "count", "most"], ["pen", "count", "most", "lap"], [[]], F__law_word⟩
def d__law_is_letters : He.DefD := ⟨("_law_is_letters", none), "_law_is_letters", "_law_is_letters", defArgs (top 31), defBody (top 31), defScope (top 31), [], []⟩
def m__law_is_letters : DefM := ⟨d__law_is_letters, ["value", "most"], ["value", "most", "sign"], [[]], F__law_is_letters⟩
def d__law_line : He.DefD := ⟨("_law_line", none), "_law_line", "_law_line", defArgs (top 32), defBody (top 32), defScope (top 32), [], []⟩
def m__law_line : DefM := ⟨d__law_line, ["parts"], ["parts", "part"], [[]], F__law_line⟩
def d__law_number : He.DefD := ⟨("_law_number", none), "_law_number", "_law_number", defArgs (top 33), defBody (top 33), defScope (top 33), [], []⟩
def m__law_number : DefM := ⟨d__law_number, ["word", "most"], ["word", "most", "some", "number"], [[]], F__law_number⟩
def d__law_spoiled_text : He.DefD := ⟨("_law_spoiled_text", none), "_law_spoiled_text", "_law_spoiled_text", defArgs (top 34), defBody (top 34), defScope (top 34), [], []⟩
def m__law_spoiled_text : DefM := ⟨d__law_spoiled_text, ["pen", "text", "words"], ["pen", "text", "words", "parts", "place", "some", "word", "more", "lines", "option", "at", "other"], [[]], F__law_spoiled_text⟩
def d__law_form : He.DefD := ⟨("_law_form", none), "_law_form", "_law_form", defArgs (top 35), defBody (top 35), defScope (top 35), [], []⟩
def m__law_form : DefM := ⟨d__law_form, ["pen"], ["pen", "lap", "states", "rows", "good", "letters", "groups", "some", "state", "turn", "place"], [[]], F__law_form⟩
def d__law_form_text : He.DefD := ⟨("_law_form_text", none), "_law_form_text", "_law_form_text", defArgs (top 36), defBody (top 36), defScope (top 36), [], []⟩
def m__law_form_text : DefM := ⟨d__law_form_text, ["form"], ["form", "text", "row"], [[]], F__law_form_text⟩
def d__law_are_groups : He.DefD := ⟨("_law_are_groups", none), "_law_are_groups", "_law_are_groups", defArgs (top 37), defBody (top 37), defScope (top 37), [], []⟩
def m__law_are_groups : DefM := ⟨d__law_are_groups, ["words"], ["words", "seen", "word", "one", "two"], [[]], F__law_are_groups⟩
def d__law_read_form : He.DefD := ⟨("_law_read_form", none), "_law_read_form", "_law_read_form", defArgs (top 38), defBody (top 38), defScope (top 38), [], []⟩
def m__law_read_form : DefM := ⟨d__law_read_form, ["text"], ["text", "lines", "groups", "rows", "good", "index", "line", "numbers", "word", "rest", "right", "one", "row", "two"], [[]], F__law_read_form⟩
def d__law_read_words : He.DefD := ⟨("_law_read_words", none), "_law_read_words", "_law_read_words", defArgs (top 39), defBody (top 39), defScope (top 39), [], []⟩
def m__law_read_words : DefM := ⟨d__law_read_words, ["text"], ["text", "lines", "found", "index", "line", "parts", "one"], [[]], F__law_read_words⟩
def d__law_form_outcome : He.DefD := ⟨("_law_form_outcome", none), "_law_form_outcome", "_law_form_outcome", defArgs (top 40), defBody (top 40), defScope (top 40), [], []⟩
def m__law_form_outcome : DefM := ⟨d__law_form_outcome, ["text"], ["text", "e", "found"], [[]], F__law_form_outcome⟩
def d__law_words_outcome : He.DefD := ⟨("_law_words_outcome", none), "_law_words_outcome", "_law_words_outcome", defArgs (top 41), defBody (top 41), defScope (top 41), [], []⟩
def m__law_words_outcome : DefM := ⟨d__law_words_outcome, ["text"], ["text", "e", "found"], [[]], F__law_words_outcome⟩
def d_law : He.DefD := ⟨("law", none), "law", "law", defArgs (top 42), defBody (top 42), defScope (top 42), [], []⟩
def m_law : DefM := ⟨d_law, ["script"], ["script", "pen", "lines", "lap", "text", "turn"], [[]], F_law⟩
def defs : List DefM := [m_is_index, m_is_group, m_are_groups, m_is_form_row, m_are_good, m_form_fault, m_is_word, m_read_number, m_read_numbers, m_parse_words, m_takes_form_line, m_form_of, m_parse_form, m__law_pen, m__law_fresh, m__law_draw, m__law_one_of, m__law_word, m__law_is_letters, m__law_line, m__law_number, m__law_spoiled_text, m__law_form, m__law_form_text, m__law_are_groups, m__law_read_form, m__law_read_words, m__law_form_outcome, m__law_words_outcome, m_law]
theorem fs_eq : defs.map DefM.F = fs := rfl
def gls : List (Str × MP.D) := [("LETTERS", (.str CS_LETTERS)), ("MOST_KINDS", (.int 4)), ("MOST_GROUPS", (.int 3)), ("MOST_ROWS", (.int 4)), ("DIGITS", (.str CS_DIGITS)), ("MOST_FORM_STATES", (.int 4))]
def i_ParseError : He.DefD := ⟨("ParseError", some "__init__"), "__init__", "ParseError.__init__", defArgs (inClass (top 1) 0), defBody (inClass (top 1) 0), defScope (inClass (top 1) 0), [], []⟩
def xt : XTb := ⟨[⟨"ParseError", [0], 0, i_ParseError⟩], ["line"]⟩
theorem x_ParseError : XMok xt ⟨"ParseError", [0], 0, i_ParseError⟩ := ⟨by decide +kernel, by decide, by decide, by decide +kernel, rfl, rfl, rfl, fun _ _ _ _ _ _ us hl => match us, hl with | [_, _], _ => rfl⟩
theorem ck_is_index : ckDef (tblOf defs gls xt) m_is_index = true := by decide +kernel
theorem b_is_index : BindOk m_is_index := bind0 rfl rfl rfl fun _ _ _ _ _ _ us hl => match us, hl with | [_, _], _ => rfl
theorem ck_is_group : ckDef (tblOf defs gls xt) m_is_group = true := by decide +kernel
theorem b_is_group : BindOk m_is_group := bind0 rfl rfl rfl fun _ _ _ _ _ _ us hl => match us, hl with | [_], _ => rfl
theorem ck_are_groups : ckDef (tblOf defs gls xt) m_are_groups = true := by decide +kernel
theorem b_are_groups : BindOk m_are_groups := bind0 rfl rfl rfl fun _ _ _ _ _ _ us hl => match us, hl with | [_], _ => rfl
theorem ck_is_form_row : ckDef (tblOf defs gls xt) m_is_form_row = true := by decide +kernel
theorem b_is_form_row : BindOk m_is_form_row := bind0 rfl rfl rfl fun _ _ _ _ _ _ us hl => match us, hl with | [_, _, _], _ => rfl
theorem ck_are_good : ckDef (tblOf defs gls xt) m_are_good = true := by decide +kernel
theorem b_are_good : BindOk m_are_good := bind0 rfl rfl rfl fun _ _ _ _ _ _ us hl => match us, hl with | [_, _], _ => rfl
theorem ck_form_fault : ckDef (tblOf defs gls xt) m_form_fault = true := by decide +kernel
theorem b_form_fault : BindOk m_form_fault := bind0 rfl rfl rfl fun _ _ _ _ _ _ us hl => match us, hl with | [_], _ => rfl
theorem ck_is_word : ckDef (tblOf defs gls xt) m_is_word = true := by decide +kernel
theorem b_is_word : BindOk m_is_word := by
  refine bindD (List.cons_ne_nil _ _) ?_
  intro dv hdv
  have h : dv = [.non] := by simpa [m_is_word] using hdv
  rcases h with rfl
  · exact ⟨2, 0, fun K ρ H => .cons .non (.nil), rfl, fun _ _ _ _ _ _ _ us its h1 h2 => match us, its, h1, h2 with | [_, _], [_], _, _ => ⟨_, rfl, rfl⟩⟩
theorem ck_read_number : ckDef (tblOf defs gls xt) m_read_number = true := by decide +kernel
theorem b_read_number : BindOk m_read_number := bind0 rfl rfl rfl fun _ _ _ _ _ _ us hl => match us, hl with | [_], _ => rfl
theorem ck_read_numbers : ckDef (tblOf defs gls xt) m_read_numbers = true := by decide +kernel
theorem b_read_numbers : BindOk m_read_numbers := bind0 rfl rfl rfl fun _ _ _ _ _ _ us hl => match us, hl with | [_], _ => rfl
theorem ck_parse_words : ckDef (tblOf defs gls xt) m_parse_words = true := by decide +kernel
theorem b_parse_words : BindOk m_parse_words := bind0 rfl rfl rfl fun _ _ _ _ _ _ us hl => match us, hl with | [_], _ => rfl
theorem ck_takes_form_line : ckDef (tblOf defs gls xt) m_takes_form_line = true := by decide +kernel
theorem b_takes_form_line : BindOk m_takes_form_line := bind0 rfl rfl rfl fun _ _ _ _ _ _ us hl => match us, hl with | [_, _], _ => rfl
theorem ck_form_of : ckDef (tblOf defs gls xt) m_form_of = true := by decide +kernel
theorem b_form_of : BindOk m_form_of := bind0 rfl rfl rfl fun _ _ _ _ _ _ us hl => match us, hl with | [_], _ => rfl
theorem ck_parse_form : ckDef (tblOf defs gls xt) m_parse_form = true := by decide +kernel
theorem b_parse_form : BindOk m_parse_form := bind0 rfl rfl rfl fun _ _ _ _ _ _ us hl => match us, hl with | [_], _ => rfl
theorem ck__law_pen : ckDef (tblOf defs gls xt) m__law_pen = true := by decide +kernel
theorem b__law_pen : BindOk m__law_pen := bind0 rfl rfl rfl fun _ _ _ _ _ _ us hl => match us, hl with | [_], _ => rfl
theorem ck__law_fresh : ckDef (tblOf defs gls xt) m__law_fresh = true := by decide +kernel
theorem b__law_fresh : BindOk m__law_fresh := bind0 rfl rfl rfl fun _ _ _ _ _ _ us hl => match us, hl with | [_], _ => rfl
theorem ck__law_draw : ckDef (tblOf defs gls xt) m__law_draw = true := by decide +kernel
theorem b__law_draw : BindOk m__law_draw := bind0 rfl rfl rfl fun _ _ _ _ _ _ us hl => match us, hl with | [_, _], _ => rfl
theorem ck__law_one_of : ckDef (tblOf defs gls xt) m__law_one_of = true := by decide +kernel
theorem b__law_one_of : BindOk m__law_one_of := bind0 rfl rfl rfl fun _ _ _ _ _ _ us hl => match us, hl with | [_, _], _ => rfl
theorem ck__law_word : ckDef (tblOf defs gls xt) m__law_word = true := by decide +kernel
theorem b__law_word : BindOk m__law_word := bind0 rfl rfl rfl fun _ _ _ _ _ _ us hl => match us, hl with | [_, _, _], _ => rfl
theorem ck__law_is_letters : ckDef (tblOf defs gls xt) m__law_is_letters = true := by decide +kernel
theorem b__law_is_letters : BindOk m__law_is_letters := bind0 rfl rfl rfl fun _ _ _ _ _ _ us hl => match us, hl with | [_, _], _ => rfl
theorem ck__law_line : ckDef (tblOf defs gls xt) m__law_line = true := by decide +kernel
theorem b__law_line : BindOk m__law_line := bind0 rfl rfl rfl fun _ _ _ _ _ _ us hl => match us, hl with | [_], _ => rfl
theorem ck__law_number : ckDef (tblOf defs gls xt) m__law_number = true := by decide +kernel
theorem b__law_number : BindOk m__law_number := bind0 rfl rfl rfl fun _ _ _ _ _ _ us hl => match us, hl with | [_, _], _ => rfl
theorem ck__law_spoiled_text : ckDef (tblOf defs gls xt) m__law_spoiled_text = true := by decide +kernel
theorem b__law_spoiled_text : BindOk m__law_spoiled_text := bind0 rfl rfl rfl fun _ _ _ _ _ _ us hl => match us, hl with | [_, _, _], _ => rfl
theorem ck__law_form : ckDef (tblOf defs gls xt) m__law_form = true := by decide +kernel
theorem b__law_form : BindOk m__law_form := bind0 rfl rfl rfl fun _ _ _ _ _ _ us hl => match us, hl with | [_], _ => rfl
theorem ck__law_form_text : ckDef (tblOf defs gls xt) m__law_form_text = true := by decide +kernel
theorem b__law_form_text : BindOk m__law_form_text := bind0 rfl rfl rfl fun _ _ _ _ _ _ us hl => match us, hl with | [_], _ => rfl
theorem ck__law_are_groups : ckDef (tblOf defs gls xt) m__law_are_groups = true := by decide +kernel
theorem b__law_are_groups : BindOk m__law_are_groups := bind0 rfl rfl rfl fun _ _ _ _ _ _ us hl => match us, hl with | [_], _ => rfl
theorem ck__law_read_form : ckDef (tblOf defs gls xt) m__law_read_form = true := by decide +kernel
theorem b__law_read_form : BindOk m__law_read_form := bind0 rfl rfl rfl fun _ _ _ _ _ _ us hl => match us, hl with | [_], _ => rfl
theorem ck__law_read_words : ckDef (tblOf defs gls xt) m__law_read_words = true := by decide +kernel
theorem b__law_read_words : BindOk m__law_read_words := bind0 rfl rfl rfl fun _ _ _ _ _ _ us hl => match us, hl with | [_], _ => rfl
theorem ck__law_form_outcome : ckDef (tblOf defs gls xt) m__law_form_outcome = true := by decide +kernel
theorem b__law_form_outcome : BindOk m__law_form_outcome := bind0 rfl rfl rfl fun _ _ _ _ _ _ us hl => match us, hl with | [_], _ => rfl
theorem ck__law_words_outcome : ckDef (tblOf defs gls xt) m__law_words_outcome = true := by decide +kernel
theorem b__law_words_outcome : BindOk m__law_words_outcome := bind0 rfl rfl rfl fun _ _ _ _ _ _ us hl => match us, hl with | [_], _ => rfl
theorem ck_law : ckDef (tblOf defs gls xt) m_law = true := by decide +kernel
theorem b_law : BindOk m_law := bind0 rfl rfl rfl fun _ _ _ _ _ _ us hl => match us, hl with | [_], _ => rfl
theorem cks : ∀ m ∈ defs, ckDef (tblOf defs gls xt) m = true := by
  intro m hm
  simp only [defs, List.mem_cons, List.not_mem_nil, or_false] at hm
  rcases hm with rfl | rfl | rfl | rfl | rfl | rfl | rfl | rfl | rfl | rfl | rfl | rfl | rfl | rfl | rfl | rfl | rfl | rfl | rfl | rfl | rfl | rfl | rfl | rfl | rfl | rfl | rfl | rfl | rfl | rfl
  · exact ck_is_index
  · exact ck_is_group
  · exact ck_are_groups
  · exact ck_is_form_row
  · exact ck_are_good
  · exact ck_form_fault
  · exact ck_is_word
  · exact ck_read_number
  · exact ck_read_numbers
  · exact ck_parse_words
  · exact ck_takes_form_line
  · exact ck_form_of
  · exact ck_parse_form
  · exact ck__law_pen
  · exact ck__law_fresh
  · exact ck__law_draw
  · exact ck__law_one_of
  · exact ck__law_word
  · exact ck__law_is_letters
  · exact ck__law_line
  · exact ck__law_number
  · exact ck__law_spoiled_text
  · exact ck__law_form
  · exact ck__law_form_text
  · exact ck__law_are_groups
  · exact ck__law_read_form
  · exact ck__law_read_words
  · exact ck__law_form_outcome
  · exact ck__law_words_outcome
  · exact ck_law
theorem bds : ∀ m ∈ defs, BindOk m := by
  intro m hm
  simp only [defs, List.mem_cons, List.not_mem_nil, or_false] at hm
  rcases hm with rfl | rfl | rfl | rfl | rfl | rfl | rfl | rfl | rfl | rfl | rfl | rfl | rfl | rfl | rfl | rfl | rfl | rfl | rfl | rfl | rfl | rfl | rfl | rfl | rfl | rfl | rfl | rfl | rfl | rfl
  · exact b_is_index
  · exact b_is_group
  · exact b_are_groups
  · exact b_is_form_row
  · exact b_are_good
  · exact b_form_fault
  · exact b_is_word
  · exact b_read_number
  · exact b_read_numbers
  · exact b_parse_words
  · exact b_takes_form_line
  · exact b_form_of
  · exact b_parse_form
  · exact b__law_pen
  · exact b__law_fresh
  · exact b__law_draw
  · exact b__law_one_of
  · exact b__law_word
  · exact b__law_is_letters
  · exact b__law_line
  · exact b__law_number
  · exact b__law_spoiled_text
  · exact b__law_form
  · exact b__law_form_text
  · exact b__law_are_groups
  · exact b__law_read_form
  · exact b__law_read_words
  · exact b__law_form_outcome
  · exact b__law_words_outcome
  · exact b_law
theorem xms : ∀ m ∈ xt.xs, XMok xt m := by
  intro m hm
  simp only [xt, List.mem_cons, List.not_mem_nil, or_false] at hm
  rcases hm with rfl
  · exact x_ParseError
theorem prog : Prog defs gls xt := ⟨cks, bds, by decide, by decide, xms⟩
end K93
end
section
set_option Elab.async false
set_option linter.all false
set_option maxRecDepth 100000
set_option maxHeartbeats 0
/-! the head of fewtests_k93_texts_of_words_and_forms_re -/
namespace K93
open PySem PySem.Spec PyProof.Rows L2 MP
abbrev fb : PySem.W.Frag → Bool := fbOf defs gls xt
abbrev fn : List He.DefD := fnOfX defs xt
abbrev Rw : PySem.W.OpenRow := PySem.W.OpenLaw.row PySem.Challenge.rw_fewtests_k93_texts_of_words_and_forms_re
abbrev hk : PySem.W.Hook := hookX 4 fb fn
def ob (s : PySem.W.SharedT) : He.AlD := obsXG 4 fb fn (HandSHeadRun.getT s)
theorem ob_eq (s : PySem.W.SharedT) : ob s = hk.obs s.abs := obsXG_eq (HandSHeadRun.getT_eq s)
theorem run (w : World) : HandSHeadRun.RunEq Rw (PySem.W.view Rw.prog [42]) hk ob 4000 ("ParseError" :: "LETTERS" :: "MOST_KINDS" :: "is_index" :: "MOST_GROUPS" :: "MOST_ROWS" :: "is_group" :: "are_groups" :: "is_form_row" :: "are_good" :: "form_fault" :: "is_word" :: "DIGITS" :: "MOST_FORM_STATES" :: "read_number" :: "read_numbers" :: "parse_words" :: "takes_form_line" :: "form_of" :: "parse_form" :: "_law_pen" :: "_law_fresh" :: "_law_draw" :: "_law_one_of" :: "_law_word" :: "_law_is_letters" :: "_law_line" :: "_law_number" :: "_law_spoiled_text" :: "_law_form" :: "_law_form_text" :: "_law_are_groups" :: "_law_read_form" :: "_law_read_words" :: "_law_form_outcome" :: "_law_words_outcome" :: []) w := by
  intro os
  kernel_rfl
end K93
end
section
set_option Elab.async false
set_option linter.all false
set_option maxRecDepth 100000
set_option maxHeartbeats 0
namespace K93
open PySem PySem.Spec PyProof.Rows L2 MP
/-- what is left: the evaluator says True -/
def Ev : Prop := ∃ fuel : Nat, ∀ ns : List Int, ns.length ≤ 63 → ∃ S, callN (defs.map DefM.F) fuel 8 29 [.lst (ns.map .int)] [] = .ok (.bl true) S
end K93
open PySem PySem.W PySem.Calls PyProof.Rows
theorem K93.holds_of (ev : K93.Ev) : PySem.Challenge.rw_fewtests_k93_texts_of_words_and_forms_re.Holds := by
  w_on; o_law
  refine HandSHeadRun.head_any (r := OpenLaw.row PySem.Challenge.rw_fewtests_k93_texts_of_words_and_forms_re) (q := view (OpenLaw.row PySem.Challenge.rw_fewtests_k93_texts_of_words_and_forms_re).prog [42]) (H := K93.hk) (ob := K93.ob) (M := 4000) (d := HandSHeadRun.topDef (OpenLaw.row PySem.Challenge.rw_fewtests_k93_texts_of_words_and_forms_re).prog 42) (kwd := []) K93.ob_eq
    (by kernel_rfl) (fun s => by kernel_rfl) K93.run (by kernel_rfl) (by kernel_rfl) (by kernel_rfl) (by rfl) (by first | assumption | decide +kernel) (by decide +kernel) ⟨rfl, rfl, rfl, rfl, rfl, by decide +kernel⟩ ?hw ?hc
  case hw => w_witness2
  case hc =>
    obtain ⟨fuel, ev⟩ := ev
    refine MP.walk_ofGE (l := PySem.Challenge.rw_fewtests_k93_texts_of_words_and_forms_re) (n := 63) (k := 24) (x := "script") rfl (by decide) (by kernel_rfl) ⟨rfl, by decide, by decide⟩ ?F
    intro w mg fa h Y G hmg0
    obtain ⟨K, KX, c⟩ := Y
    have hmg : mg K93.m_law.d.name = some (.ref fa) := by
      have e : (HandSHeadRun.topDef (OpenLaw.row PySem.Challenge.rw_fewtests_k93_texts_of_words_and_forms_re).prog 42).name = K93.m_law.d.name := by kernel_rfl
      rw [← e]
      exact hmg0
    obtain ⟨fd, hb, hF⟩ := MP.prog_facts (P := (PySem.Challenge.rw_fewtests_k93_texts_of_words_and_forms_re).prog) (w := w) (fuel := fuel) (xt := K93.xt) KX G c K93.prog (i := 29) (m := K93.m_law) rfl (x := "script") rfl rfl
      (fun _ _ _ _ _ _ us hl => match us, hl with | [_], _ => rfl) hmg
    exact ⟨K, fd, _, KX, hb, fun H a ns hl _ hS => MP.law_sp hS (ev ns hl), fun base _ _ => hF base 8⟩
end
section
set_option Elab.async false
set_option linter.all false
set_option maxRecDepth 100000
set_option maxHeartbeats 4000000
/-! MQA: rules to run the evaluator by simp -/
namespace MP
section
variable {α β : Type}
theorem bind_app (m : M α) (f : α → M β) (S : DS) : (m >>= f) S = match m S with
  | .ok a S' => f a S'
  | .exc x S' => .exc x S'
  | .bad => .bad := rfl
theorem pure_app (a : α) (S : DS) : (Pure.pure a : M α) S = .ok a S := rfl
theorem ofO_some (a : α) (S : DS) : ofO (some a) S = .ok a S := rfl
theorem view_int (i : Int) (S : DS) : view (.int i) S = .ok (.int i) S := rfl
theorem view_bl (i : Bool) (S : DS) : view (.bl i) S = .ok (.bl i) S := rfl
theorem view_non (S : DS) : view .non S = .ok .non S := rfl
theorem view_str (i : List Nat) (S : DS) : view (.str i) S = .ok (.str i) S := rfl
theorem view_tup (i : List D) (S : DS) : view (.tup i) S = .ok (.tup i) S := rfl
theorem view_lst (i : List D) (S : DS) : view (.lst i) S = .ok (.lst i) S := rfl
theorem view_ref {n : Nat} {S : DS} {xs : List D} (h : S[n]? = some (.lst xs)) : view (.ref n) S = .ok (.lst xs) S := by
  show (match S[n]? with | some (.lst xs) => _ | _ => _) = _
  rw [h]
theorem fl_ok {m : M Fl} {σ : Env} {S S' : DS} {f : Fl} (h : m S = .ok f S') : M.fl m σ S = .ok f S' := by unfold M.fl; rw [h]
theorem callN_succ {T : List PFun} {fuel k i : Nat} {F : PFun} (h : T[i]? = some F) (ds : List D) (S : DS) : callN T fuel (k + 1) i ds S = runF (callN T fuel k) fuel F ds S := by
  show (match T[i]? with | some F => runF (callN T fuel k) fuel F ds | none => M.bad) S = _
  rw [h]
end
/-- a frame's result -/
def rtOf : R Fl → R D
  | .ok (.rt d) S => .ok d S
  | .ok (.nx _) S => .ok .non S
  | .ok (.ex x _) S => .exc x S
  | .ok _ _ => .bad
  | .exc x S => .exc x S
  | .bad => .bad
theorem runF_eq {cf : CF} {fuel : Nat} {F : PFun} {ds : List D} {S : DS} (h : ds.length = F.np) : runF cf fuel F ds S = rtOf (evSs cf fuel F.body (ds.map some ++ List.replicate (F.ns - F.np) none) S) := by
  unfold runF
  rw [if_pos h, bind_app]
  cases evSs cf fuel F.body (ds.map some ++ List.replicate (F.ns - F.np) none) S with
  | ok f S' => cases f <;> rfl
  | _ => rfl
def F1 : PFun := ⟨2, 2, [], (.cons (.ret (.and (.isin (.var 0) .int) (.and (.no (.isin (.var 0) .bool)) (.chain .le .lt (.con (.int 0)) (.var 0) (.var 1))))) .nil)⟩
theorem t_is_index {cf : CF} {fuel : Nat} (i m : Int) (S : DS) : runF cf fuel F1 [.int i, .int m] S = .ok (.bl (decide (0 ≤ i) && decide (i < m))) S := by
  rw [runF_eq rfl]
  simp [F1, evSs, evS, evE, evB, asB, bind_app, pure_app, ofO, view_int, isinD, cmpD, M.fl, rtOf]
  by_cases h : 0 ≤ i <;> simp [h, bind_app, pure_app, ofO, cmpD, rtOf, asB]
end MP
end
section
set_option Elab.async false
set_option linter.all false
set_option maxRecDepth 100000
set_option maxHeartbeats 4000000
/-! MQB: loops; the law's pen -/
namespace MP
theorem stays_nil (S : DS) : stays [] S = .ok () S := rfl
theorem forM_inv {f : D → MP.Env → M Fl} (I : MP.Env → DS → Prop) : ∀ (xs : List D) (σ : MP.Env) (S : DS), I σ S → (∀ x ∈ xs, ∀ σ S, I σ S → ∃ σ' S', f x σ S = .ok (.nx σ') S' ∧ I σ' S') → ∃ σ' S', forM' [] f xs σ S = .ok (.nx σ') S' ∧ I σ' S'
  | [], σ, S, h, _ => ⟨σ, S, rfl, h⟩
  | x :: xs, σ, S, h, hf => by
    obtain ⟨σ1, S1, e, h1⟩ := hf x (List.mem_cons_self ..) σ S h
    obtain ⟨σ2, S2, e2, h2⟩ := forM_inv I xs σ1 S1 h1 fun y hy => hf y (List.mem_cons_of_mem _ hy)
    refine ⟨σ2, S2, ?_, h2⟩
    simp only [forM', bind_app, stays_nil, e, e2]
theorem mf_r {i j : Int} (h : j.natAbs < 2 ^ 64) : mulFits i j = true := by unfold mulFits; simp [h]
theorem mf_l {i j : Int} (h : i.natAbs < 2 ^ 64) : mulFits i j = true := by unfold mulFits; simp [h]
theorem mem_upto {lo : Int} {n : Nat} {x : D} (h : x ∈ upto lo n) : ∃ i : Int, x = .int i ∧ lo ≤ i ∧ i < lo + n := by
  induction n generalizing lo with
  | zero => simp [upto] at h
  | succ n ih =>
    simp only [upto, List.mem_cons] at h
    rcases h with rfl | h
    · exact ⟨lo, rfl, by omega, by omega⟩
    · obtain ⟨i, rfl, h1, h2⟩ := ih h
      exact ⟨i, rfl, by omega, by omega⟩
/-! ### the pen -/
def F_fresh : PFun := ⟨1, 8, [], (.cons (.par 6 7 (.idx (.var 0) (.con (.int 1))) (.idx (.var 0) (.con (.int 0)))) (.cons (.setI (.var 0) (.con (.int 1)) (.bin .add (.var 6) (.con (.int 1)))) (.cons (.asg (.nm 1) (.ite (.cmp .ne (.var 7) (.fz (.disp .nil))) (.idx (.var 7) (.bin .mod (.b1 .int (.var 6)) (.b1 .len (.var 7)))) (.con (.int 0)))) (.cons (.ite (.and (.cmp .lt (.var 6) (.b1 .len (.var 7))) (.cmp .ge (.var 1) (.bin .pow (.con (.int 10)) (.con (.int 18))))) (.cons (.ret (.bin .sub (.var 1) (.bin .pow (.con (.int 10)) (.con (.int 18))))) .nil) .nil) (.cons (.asg (.nm 2) (.con (.int 2305843009213693951))) (.cons (.asg (.nm 3) (.bin .mod (.b1 .int (.bin .add (.bin .add (.bin .mul (.var 1) (.con (.int 40014))) (.bin .mul (.con (.int 52774)) (.var 6))) (.con (.int 17)))) (.var 2))) (.cons (.asg (.nm 4) (.var 3)) (.cons (.forS (.nm 5) (.rng (.con (.int 0)) (.con (.int 6))) (.cons (.asg (.nm 3) (.bin .mod (.b1 .int (.bin .add (.bin .add (.bin .mul (.var 3) (.var 3)) (.bin .mul (.bin .mul (.con (.int 48271)) (.bin .add (.var 5) (.con (.int 2)))) (.bin .add (.var 6) (.con (.int 1))))) (.var 1))) (.var 2))) (.cons (.asg (.nm 4) (.bin .add (.bin .mul (.var 4) (.var 2)) (.var 3))) .nil))) (.cons (.ret (.var 4)) .nil)))))))))⟩
def F_draw (f : Nat) : PFun := ⟨2, 3, [], (.cons (.ite (.cmp .lt (.idx (.var 0) (.con (.int 2))) (.var 1)) (.cons (.setI (.var 0) (.con (.int 2)) (.call f (.cons (.var 0) .nil) [])) .nil) .nil) (.cons (.asg (.nm 2) (.bin .mod (.b1 .int (.idx (.var 0) (.con (.int 2)))) (.var 1))) (.cons (.setI (.var 0) (.con (.int 2)) (.bin .fdiv (.b1 .int (.idx (.var 0) (.con (.int 2)))) (.var 1))) (.cons (.ret (.var 2)) .nil))))⟩
def PenAt (S : DS) (n : Nat) (cs : List Int) (p a : Int) : Prop := S[n]? = some (.lst [.lst (cs.map .int), .int p, .int a])
theorem shps_ints (k : Nat) : ∀ cs : List Int, D.shps k (cs.map .int) = true
  | [] => by simp [D.shps]
  | c :: cs => by simp [D.shps, D.shp, shps_ints k cs]
theorem eqvs_nil (cs : List Int) : eqvs (cs.map .int) [] = cs.isEmpty := by cases cs <;> simp [eqvs]
/-- the cell that is read -/
def cellOf (cs : List Int) (p : Int) : Int := if cs = [] then 0 else (cs[(p % cs.length).toNat]?).getD 0
/-- the statement of the loop -/
theorem fresh_lap {cf : CF} {fuel : Nat} {n : Nat} {ce st fo pl : Int} {lp : Option D} {cs : D} (i : Int) (hi : 0 ≤ i ∧ i < 6) (h0 : 0 ≤ st) (h1 : st < 2305843009213693951) (S : DS) :
    ∃ st' fo' : Int, 0 ≤ st' ∧ st' < 2305843009213693951 ∧ evSs cf fuel (.cons (.asg (.nm 3) (.bin .mod (.b1 .int (.bin .add (.bin .add (.bin .mul (.var 3) (.var 3)) (.bin .mul (.bin .mul (.con (.int 48271)) (.bin .add (.var 5) (.con (.int 2)))) (.bin .add (.var 6) (.con (.int 1))))) (.var 1))) (.var 2))) (.cons (.asg (.nm 4) (.bin .add (.bin .mul (.var 4) (.var 2)) (.var 3))) .nil))
      [some (.ref n), some (.int ce), some (.int 2305843009213693951), some (.int st), some (.int fo), some (.int i), some (.int pl), some cs] S = .ok (.nx [some (.ref n), some (.int ce), some (.int 2305843009213693951), some (.int st'), some (.int fo'), some (.int i), some (.int pl), some cs]) S := by
  have m1 : mulFits st st = true := mf_l (by omega)
  have m2 : mulFits 48271 (i + 2) = true := mf_l (by decide)
  have m3 : mulFits (48271 * (i + 2)) (pl + 1) = true := mf_l (by omega)
  have m4 : mulFits fo 2305843009213693951 = true := mf_r (by decide)
  refine ⟨(st * st + 48271 * (i + 2) * (pl + 1) + ce) % 2305843009213693951, fo * 2305843009213693951 + (st * st + 48271 * (i + 2) * (pl + 1) + ce) % 2305843009213693951, Int.emod_nonneg _ (by decide), Int.emod_lt_of_pos _ (by decide), ?_⟩
  simp [evSs, evS, evE, bind_app, pure_app, ofO, view_int, binD, b1D, M.fl, m1, m2, m3, m4, bindT]
end MP
end
section
set_option Elab.async false
set_option linter.all false
set_option maxRecDepth 100000
set_option maxHeartbeats 8000000
/-! MQC: the law's pen: fresh, draw -/
namespace MP
theorem set_at {S : DS} {n : Nat} (h : n < S.length) (x : MO) : (S.set n x)[n]? = some x := by simp [h]
theorem pen_lt {S : DS} {n : Nat} {cs : List Int} {p a : Int} (h : PenAt S n cs p a) : n < S.length := (List.getElem?_eq_some_iff.mp h).1
theorem cell_get {cs : List Int} (h : cs ≠ []) (p : Int) : ∃ c : Int, ix (cs.map D.int) (p % (cs.length : Int)) = some (.int c) := by
  have hl : 0 < (cs.length : Int) := by
    have := List.length_pos_iff.mpr h
    omega
  have h0 := Int.emod_nonneg p (by omega : (cs.length : Int) ≠ 0)
  have h1 := Int.emod_lt_of_pos p hl
  have h2 : (p % (cs.length : Int)).toNat < cs.length := by omega
  refine ⟨cs[(p % (cs.length : Int)).toNat], ?_⟩
  unfold ix
  rw [if_neg (by omega)]
  simp [h2]
theorem ne_nil (cs : List Int) : cmpD .ne (.lst (cs.map .int)) (.lst []) = some (!cs.isEmpty) := by
  have h1 : D.shp 60 (.lst (cs.map .int)) = true := shps_ints 59 cs
  have h2 : D.shp 60 (.lst []) = true := rfl
  show (eqD _ _).map _ = _
  unfold eqD
  rw [h1, h2]
  cases cs <;> rfl
theorem nil0 : cmpD .ne (.lst []) (.lst []) = some false := ne_nil []
theorem ss_nx {cf : CF} {fuel : Nat} {s : MP.S} {r : Ss} {σ σ' : MP.Env} {S S' : DS} (h : evS cf fuel s σ S = .ok (.nx σ') S') : evSs cf fuel (.cons s r) σ S = evSs cf fuel r σ' S' := by
  simp only [evSs, bind_app, h]
theorem ss_rt {cf : CF} {fuel : Nat} {s : MP.S} {r : Ss} {σ : MP.Env} {S S' : DS} {d : D} (h : evS cf fuel s σ S = .ok (.rt d) S') : evSs cf fuel (.cons s r) σ S = .ok (.rt d) S' := by
  simp only [evSs, bind_app, h]
  rfl
theorem fresh_ok {cf : CF} {fuel : Nat} {n : Nat} {S : DS} {cs : List Int} {p a : Int} (h : PenAt S n cs p a) : ∃ d : Int, runF cf fuel F_fresh [.ref n] S = .ok (.int d) (S.set n (.lst [.lst (cs.map .int), .int (p + 1), .int a])) := by
  rw [runF_eq rfl]
  have hn := pen_lt h
  have h' : S[n]? = some (.lst [.lst (cs.map .int), .int p, .int a]) := h
  obtain ⟨S1, hS1⟩ : ∃ S1, S1 = S.set n (.lst [.lst (cs.map .int), .int (p + 1), .int a]) := ⟨_, rfl⟩
  -- the cell
  obtain ⟨c, hc⟩ : ∃ c : Int, evE cf (.ite (.cmp .ne (.var 7) (.fz (.disp .nil))) (.idx (.var 7) (.bin .mod (.b1 .int (.var 6)) (.b1 .len (.var 7)))) (.con (.int 0))) [some (.ref n), none, none, none, none, none, some (.int p), some (.lst (cs.map .int))] S1 = .ok (.int c) S1 := by
    by_cases e : cs = []
    · refine ⟨0, ?_⟩
      simp [evE, evL, evEs, evB, asB, bind_app, pure_app, ofO, view_lst, nil0, e]
    · obtain ⟨c, hc⟩ := cell_get e p
      have hp : 0 < cs.length := List.length_pos_iff.mpr e
      refine ⟨c, ?_⟩
      simp [evE, evL, evEs, evB, asB, bind_app, pure_app, ofO, view_lst, view_int, ne_nil, e, b1D, binD, idxD, hc, hp]
  have e1 : evS cf fuel (.par 6 7 (.idx (.var 0) (.con (.int 1))) (.idx (.var 0) (.con (.int 0)))) [some (.ref n), none, none, none, none, none, none, none] S = .ok (.nx [some (.ref n), none, none, none, none, none, some (.int p), some (.lst (cs.map .int))]) S := by
    simp [evS, evE, bind_app, pure_app, ofO, view_ref h', idxD, ix, M.fl]
  have e2 : evS cf fuel (.setI (.var 0) (.con (.int 1)) (.bin .add (.var 6) (.con (.int 1)))) [some (.ref n), none, none, none, none, none, some (.int p), some (.lst (cs.map .int))] S = .ok (.nx [some (.ref n), none, none, none, none, none, some (.int p), some (.lst (cs.map .int))]) S1 := by
    simp [evS, evE, bind_app, pure_app, ofO, view_int, binD, setM, lstM, h', ixN, wrM, M.fl, hS1]
  have e3 : evS cf fuel (.asg (.nm 1) (.ite (.cmp .ne (.var 7) (.fz (.disp .nil))) (.idx (.var 7) (.bin .mod (.b1 .int (.var 6)) (.b1 .len (.var 7)))) (.con (.int 0)))) [some (.ref n), none, none, none, none, none, some (.int p), some (.lst (cs.map .int))] S1 = .ok (.nx [some (.ref n), some (.int c), none, none, none, none, some (.int p), some (.lst (cs.map .int))]) S1 := by
    simp only [evS, bind_app, hc, bindT, ofO, pure_app, M.fl]
    rfl
  unfold F_fresh
  rw [← hS1]
  show ∃ d, rtOf (evSs _ _ _ [some (.ref n), none, none, none, none, none, none, none] S) = _
  rw [ss_nx e1, ss_nx e2, ss_nx e3]
  by_cases hb : p < cs.length ∧ (1000000000000000000 : Int) ≤ c
  · refine ⟨c - 1000000000000000000, ?_⟩
    have e4 : evS cf fuel (.ite (.and (.cmp .lt (.var 6) (.b1 .len (.var 7))) (.cmp .ge (.var 1) (.bin .pow (.con (.int 10)) (.con (.int 18))))) (.cons (.ret (.bin .sub (.var 1) (.bin .pow (.con (.int 10)) (.con (.int 18))))) .nil) .nil) [some (.ref n), some (.int c), none, none, none, none, some (.int p), some (.lst (cs.map .int))] S1 = .ok (.rt (.int (c - 1000000000000000000))) S1 := by
      simp [evS, evSs, evE, evB, asB, bind_app, pure_app, ofO, view_int, view_lst, b1D, binD, cmpD, M.fl, hb]
    rw [ss_rt e4]
    rfl
  · have e4 : evS cf fuel (.ite (.and (.cmp .lt (.var 6) (.b1 .len (.var 7))) (.cmp .ge (.var 1) (.bin .pow (.con (.int 10)) (.con (.int 18))))) (.cons (.ret (.bin .sub (.var 1) (.bin .pow (.con (.int 10)) (.con (.int 18))))) .nil) .nil) [some (.ref n), some (.int c), none, none, none, none, some (.int p), some (.lst (cs.map .int))] S1 = .ok (.nx [some (.ref n), some (.int c), none, none, none, none, some (.int p), some (.lst (cs.map .int))]) S1 := by
      by_cases h1 : p < cs.length
      · have h2 : ¬ (1000000000000000000 : Int) ≤ c := fun h2 => hb ⟨h1, h2⟩
        simp [evS, evSs, evE, evB, asB, bind_app, pure_app, ofO, view_int, view_lst, b1D, binD, cmpD, M.fl, h1, h2]
      · simp [evS, evSs, evE, evB, asB, bind_app, pure_app, ofO, view_int, view_lst, b1D, binD, cmpD, M.fl, h1]
    rw [ss_nx e4]
    have m1 : mulFits c 40014 = true := mf_r (by decide)
    have m2 : mulFits 52774 p = true := mf_l (by decide)
    obtain ⟨st, hst⟩ : ∃ st, st = (c * 40014 + 52774 * p + 17) % 2305843009213693951 := ⟨_, rfl⟩
    have st0 : 0 ≤ st := by rw [hst]; exact Int.emod_nonneg _ (by decide)
    have st1 : st < 2305843009213693951 := by rw [hst]; exact Int.emod_lt_of_pos _ (by decide)
    have e5 : evS cf fuel (.asg (.nm 2) (.con (.int 2305843009213693951))) [some (.ref n), some (.int c), none, none, none, none, some (.int p), some (.lst (cs.map .int))] S1 = .ok (.nx [some (.ref n), some (.int c), some (.int 2305843009213693951), none, none, none, some (.int p), some (.lst (cs.map .int))]) S1 := by
      simp [evS, evE, bind_app, pure_app, ofO, bindT, M.fl]
    have e6 : evS cf fuel (.asg (.nm 3) (.bin .mod (.b1 .int (.bin .add (.bin .add (.bin .mul (.var 1) (.con (.int 40014))) (.bin .mul (.con (.int 52774)) (.var 6))) (.con (.int 17)))) (.var 2))) [some (.ref n), some (.int c), some (.int 2305843009213693951), none, none, none, some (.int p), some (.lst (cs.map .int))] S1 = .ok (.nx [some (.ref n), some (.int c), some (.int 2305843009213693951), some (.int st), none, none, some (.int p), some (.lst (cs.map .int))]) S1 := by
      simp [evS, evE, bind_app, pure_app, ofO, bindT, M.fl, view_int, binD, b1D, m1, m2, hst]
    have e7 : evS cf fuel (.asg (.nm 4) (.var 3)) [some (.ref n), some (.int c), some (.int 2305843009213693951), some (.int st), none, none, some (.int p), some (.lst (cs.map .int))] S1 = .ok (.nx [some (.ref n), some (.int c), some (.int 2305843009213693951), some (.int st), some (.int st), none, some (.int p), some (.lst (cs.map .int))]) S1 := by
      simp [evS, evE, bind_app, pure_app, ofO, bindT, M.fl]
    rw [ss_nx e5, ss_nx e6, ss_nx e7]
    let BODY : Ss := .cons (.asg (.nm 3) (.bin .mod (.b1 .int (.bin .add (.bin .add (.bin .mul (.var 3) (.var 3)) (.bin .mul (.bin .mul (.con (.int 48271)) (.bin .add (.var 5) (.con (.int 2)))) (.bin .add (.var 6) (.con (.int 1))))) (.var 1))) (.var 2))) (.cons (.asg (.nm 4) (.bin .add (.bin .mul (.var 4) (.var 2)) (.var 3))) .nil)
    obtain ⟨σ', S', e8, ⟨st', fo', lp', rfl, _, _, hS'⟩⟩ := forM_inv (f := fun x σ => do
        let σ' ← ofO (bindT (.nm 5) x σ)
        evSs cf fuel BODY σ') (fun σ S => ∃ (st fo : Int) (lp : Option D), σ = [some (.ref n), some (.int c), some (.int 2305843009213693951), some (.int st), some (.int fo), lp, some (.int p), some (.lst (cs.map .int))] ∧ 0 ≤ st ∧ st < 2305843009213693951 ∧ S = S1)
      (upto 0 6) [some (.ref n), some (.int c), some (.int 2305843009213693951), some (.int st), some (.int st), none, some (.int p), some (.lst (cs.map .int))] S1 ⟨st, st, none, rfl, st0, st1, rfl⟩ (fun x hx σ S hI => by
        obtain ⟨i, rfl, i0, i1⟩ := mem_upto hx
        obtain ⟨st, fo, lp, rfl, a0, a1, rfl⟩ := hI
        obtain ⟨st', fo', b0, b1, e⟩ := fresh_lap (cf := cf) (fuel := fuel) (n := n) (ce := c) (fo := fo) (pl := p) (lp := none) (cs := .lst (cs.map .int)) i ⟨i0, by omega⟩ a0 a1 S
        exact ⟨_, _, e, st', fo', some (.int i), rfl, b0, b1, rfl⟩)
    rw [hS'] at e8
    have e9 : evS cf fuel (.forS (.nm 5) (.rng (.con (.int 0)) (.con (.int 6))) BODY) [some (.ref n), some (.int c), some (.int 2305843009213693951), some (.int st), some (.int st), none, some (.int p), some (.lst (cs.map .int))] S1 = .ok (.nx [some (.ref n), some (.int c), some (.int 2305843009213693951), some (.int st'), some (.int fo'), lp', some (.int p), some (.lst (cs.map .int))]) S1 := by
      simp only [evS]
      refine fl_ok ?_
      have es : evSrc cf (.rng (.con (.int 0)) (.con (.int 6))) [some (.ref n), some (.int c), some (.int 2305843009213693951), some (.int st), some (.int st), none, some (.int p), some (.lst (cs.map .int))] S1 = .ok ([], upto 0 6) S1 := by
        simp [evSrc, evE, bind_app, pure_app]
      rw [bind_app, es]
      exact e8
    refine ⟨fo', ?_⟩
    rw [ss_nx e9]
    simp [evSs, evS, evE, bind_app, pure_app, ofO, M.fl, rtOf]
end MP
end
section
set_option Elab.async false
set_option linter.all false
set_option maxRecDepth 100000
set_option maxHeartbeats 8000000
/-! MQE: draws -/
namespace MP
/-- a pen stands at n -/
def Pen (n : Nat) (S : DS) : Prop := ∃ cs p a, PenAt S n cs p a
/-- from S to S': the pen at n goes on, what stood beside it stays -/
structure PS' (n : Nat) (S S' : DS) : Prop where
  pen : Pen n S'
  len : S.length ≤ S'.length
  kp : ∀ m, m < S.length → m ≠ n → S'[m]? = S[m]?
theorem PS'.refl {n : Nat} {S : DS} (h : Pen n S) : PS' n S S := ⟨h, Nat.le_refl _, fun _ _ _ => rfl⟩
theorem PS'.trans {n : Nat} {S S1 S2 : DS} (h : PS' n S S1) (h2 : PS' n S1 S2) : PS' n S S2 := ⟨h2.pen, Nat.le_trans h.len h2.len, fun m hm hn => (h2.kp m (Nat.lt_of_lt_of_le hm h.len) hn).trans (h.kp m hm hn)⟩
theorem Pen.set {n : Nat} {S : DS} (h : Pen n S) (cs : List Int) (p a : Int) : PS' n S (S.set n (.lst [.lst (cs.map .int), .int p, .int a])) := by
  obtain ⟨_, _, _, h⟩ := h
  refine ⟨⟨cs, p, a, set_at (pen_lt h) _⟩, by simp, fun m hm hn => ?_⟩
  rw [List.getElem?_set_ne (fun e => hn e.symm)]
theorem draw_ok {T : List PFun} {fuel k fr n : Nat} {S : DS} {b : Int} (hT : T[fr]? = some F_fresh) (h : Pen n S) (hb : 0 < b) (hb2 : b.natAbs.log2 < 9000) :
    ∃ (d : Int) (S' : DS), runF (callN T fuel (k + 1)) fuel (F_draw fr) [.ref n, .int b] S = .ok (.int d) S' ∧ 0 ≤ d ∧ d < b ∧ PS' n S S' := by
  rw [runF_eq rfl]
  obtain ⟨cs, p, a, h⟩ := h
  have h' : S[n]? = some (.lst [.lst (cs.map .int), .int p, .int a]) := h
  obtain ⟨p1, a1, S1, e1, s1, hS1⟩ : ∃ (p1 a1 : Int) (S1 : DS), evS (callN T fuel (k + 1)) fuel (.ite (.cmp .lt (.idx (.var 0) (.con (.int 2))) (.var 1)) (.cons (.setI (.var 0) (.con (.int 2)) (.call fr (.cons (.var 0) .nil) [])) .nil) .nil) [some (.ref n), some (.int b), none] S = .ok (.nx [some (.ref n), some (.int b), none]) S1 ∧
      PS' n S S1 ∧ PenAt S1 n cs p1 a1 := by
    by_cases hl : a < b
    · obtain ⟨d, e⟩ := fresh_ok (cf := callN T fuel k) (fuel := fuel) h
      have hx : n < S.length := pen_lt h
      have ec : ∀ ds, callN T fuel (k + 1) fr ds S = runF (callN T fuel k) fuel F_fresh ds S := fun ds => callN_succ hT ds S
      refine ⟨p + 1, d, (S.set n (.lst [.lst (cs.map .int), .int (p + 1), .int a])).set n (.lst [.lst (cs.map .int), .int (p + 1), .int d]), ?_, ?_, set_at (by simpa using hx) _⟩
      · simp [evS, evSs, evE, evEs, evB, asB, bind_app, pure_app, ofO, view_ref h', idxD, ix, view_int, cmpD, hl, ec, e, setM, lstM, hx, ixN, wrM, M.fl]
      · exact (Pen.set ⟨_, _, _, h⟩ cs (p + 1) a).trans (Pen.set ⟨_, _, _, set_at hx _⟩ cs (p + 1) d)
    · refine ⟨p, a, S, ?_, .refl ⟨_, _, _, h⟩, h⟩
      simp [evS, evSs, evE, evB, asB, bind_app, pure_app, ofO, view_ref h', idxD, ix, view_int, cmpD, hl, M.fl]
  have h1 : S1[n]? = some (.lst [.lst (cs.map .int), .int p1, .int a1]) := hS1
  have e2 : evS (callN T fuel (k + 1)) fuel (.asg (.nm 2) (.bin .mod (.b1 .int (.idx (.var 0) (.con (.int 2)))) (.var 1))) [some (.ref n), some (.int b), none] S1 = .ok (.nx [some (.ref n), some (.int b), some (.int (a1 % b))]) S1 := by
    simp [evS, evE, bind_app, pure_app, ofO, view_ref h1, idxD, ix, view_int, b1D, binD, hb, bindT, M.fl]
  have e3 : evS (callN T fuel (k + 1)) fuel (.setI (.var 0) (.con (.int 2)) (.bin .fdiv (.b1 .int (.idx (.var 0) (.con (.int 2)))) (.var 1))) [some (.ref n), some (.int b), some (.int (a1 % b))] S1 = .ok (.nx [some (.ref n), some (.int b), some (.int (a1 % b))]) (S1.set n (.lst [.lst (cs.map .int), .int p1, .int (a1 / b)])) := by
    simp [evS, evE, bind_app, pure_app, ofO, view_ref h1, idxD, ix, view_int, b1D, binD, hb, hb2, M.fl, setM, lstM, h1, ixN, wrM]
  refine ⟨a1 % b, _, ?_, Int.emod_nonneg _ (by omega), Int.emod_lt_of_pos _ hb, s1.trans (Pen.set ⟨_, _, _, hS1⟩ cs p1 (a1 / b))⟩
  unfold F_draw
  show rtOf (evSs _ _ _ [some (.ref n), some (.int b), none] S) = _
  rw [ss_nx e1, ss_nx e2, ss_nx e3]
  simp [evSs, evS, evE, bind_app, pure_app, ofO, M.fl, rtOf]
end MP
end
section
set_option Elab.async false
set_option linter.all false
set_option maxRecDepth 100000
set_option maxHeartbeats 8000000
/-! MQF: comprehensions -/
namespace MP
theorem calm_ok {α : Type} {m : M α} {S S' : DS} {a : α} (h : m S = .ok a S') : M.calm m S = .ok a S' := by
  unfold M.calm
  rw [h]
theorem put1_eq {acc : List D} (h : acc.length < line) (y : D) (S : DS) : put1 acc y S = .ok (acc ++ [y]) S := by
  unfold put1
  rw [if_pos h]
  rfl
/-- turns that write nothing -/
theorem compM_flat {f : D → List D → M (List D)} {g : D → List D} {S : DS} : ∀ (xs acc : List D), (∀ x ∈ xs, ∀ acc, acc.length < line → f x acc S = .ok (acc ++ g x) S) → (∀ x ∈ xs, (g x).length ≤ 1) → acc.length + xs.length ≤ line → compM [] f xs acc S = .ok (acc ++ xs.flatMap g) S
  | [], acc, _, _, _ => by simp [compM, bind_app, stays_nil, pure_app]
  | x :: xs, acc, h, hg, hl => by
    have hx : acc.length < line := by simp only [List.length_cons] at hl; omega
    have hg1 := hg x (List.mem_cons_self ..)
    have r := compM_flat xs (acc ++ g x) (fun y hy => h y (List.mem_cons_of_mem _ hy)) (fun y hy => hg y (List.mem_cons_of_mem _ hy)) (by simp only [List.length_cons, List.length_append] at *; omega)
    simp only [compM, bind_app, stays_nil, h x (List.mem_cons_self ..) acc hx, r, List.flatMap_cons, List.append_assoc]
theorem flatMap_one (g : D → D) : ∀ xs : List D, xs.flatMap (fun x => [g x]) = xs.map g
  | [] => rfl
  | x :: xs => by rw [List.flatMap_cons, flatMap_one g xs]; rfl
theorem compM_map {f : D → List D → M (List D)} {g : D → D} {S : DS} (xs : List D) (h : ∀ x ∈ xs, ∀ acc, acc.length < line → f x acc S = .ok (acc ++ [g x]) S) (hl : xs.length ≤ line) : compM [] f xs [] S = .ok (xs.map g) S := by
  rw [compM_flat (g := fun x => [g x]) xs [] h (fun _ _ => Nat.le_refl _) (by simpa using hl)]
  rw [flatMap_one]
  rfl
/-- turns that write -/
theorem compM_inv {f : D → List D → M (List D)} (I : DS → List D → Prop) : ∀ (xs acc : List D) (S : DS), I S acc → (∀ x ∈ xs, ∀ acc S, I S acc → acc.length < line → ∃ acc' S', f x acc S = .ok acc' S' ∧ I S' acc' ∧ acc'.length ≤ acc.length + 1) → acc.length + xs.length ≤ line →
    ∃ ys S', compM [] f xs acc S = .ok ys S' ∧ I S' ys ∧ ys.length ≤ acc.length + xs.length
  | [], acc, S, h, _, _ => ⟨acc, S, by simp [compM, bind_app, stays_nil, pure_app], h, Nat.le_refl _⟩
  | x :: xs, acc, S, h, hf, hl => by
    simp only [List.length_cons] at hl
    obtain ⟨acc1, S1, e, h1, l1⟩ := hf x (List.mem_cons_self ..) acc S h (by omega)
    obtain ⟨ys, S2, e2, h2, l2⟩ := compM_inv I xs acc1 S1 h1 (fun y hy => hf y (List.mem_cons_of_mem _ hy)) (by omega)
    refine ⟨ys, S2, ?_, h2, by simp only [List.length_cons]; omega⟩
    simp only [compM, bind_app, stays_nil, e, e2]
end MP
end
section
set_option Elab.async false
set_option linter.all false
set_option maxRecDepth 100000
set_option maxHeartbeats 8000000
/-! MQG: draws by call; one_of -/
namespace MP
theorem draw_call {T : List PFun} {fuel k dr fr n : Nat} {S : DS} {b : Int} (hD : T[dr]? = some (F_draw fr)) (hF : T[fr]? = some F_fresh) (h : Pen n S) (hb : 0 < b) (hb2 : b.natAbs.log2 < 9000) :
    ∃ (d : Int) (S' : DS), callN T fuel (k + 2) dr [.ref n, .int b] S = .ok (.int d) S' ∧ 0 ≤ d ∧ d < b ∧ PS' n S S' := by
  obtain ⟨d, S', e, h⟩ := draw_ok (k := k) (fuel := fuel) hF h hb hb2
  exact ⟨d, S', (callN_succ hD _ _).trans e, h⟩
def F_one_of (dr : Nat) : PFun := ⟨2, 2, [], (.cons (.ret (.idx (.var 1) (.call dr (.cons (.var 0) (.cons (.b1 .len (.var 1)) .nil)) []))) .nil)⟩
theorem one_of_ok {T : List PFun} {fuel k dr fr n : Nat} {S : DS} {xs : List D} (hD : T[dr]? = some (F_draw fr)) (hF : T[fr]? = some F_fresh) (h : Pen n S) (h0 : xs ≠ []) (h1 : xs.length < 1000) :
    ∃ (d : D) (S' : DS), runF (callN T fuel (k + 2)) fuel (F_one_of dr) [.ref n, .lst xs] S = .ok d S' ∧ d ∈ xs ∧ PS' n S S' := by
  rw [runF_eq rfl]
  have hp : 0 < xs.length := List.length_pos_iff.mpr h0
  obtain ⟨d, S', e, d0, d1, s⟩ := draw_call (k := k) (fuel := fuel) (b := (xs.length : Int)) hD hF h (by omega) (Nat.lt_of_le_of_lt (Nat.log2_le_self _) (by omega))
  have hd : d.toNat < xs.length := by omega
  refine ⟨xs[d.toNat], S', ?_, List.getElem_mem .., s⟩
  unfold F_one_of
  show rtOf (evSs _ _ _ [some (.ref n), some (.lst xs)] S) = _
  have hi : ix xs d = some xs[d.toNat] := by
    unfold ix
    rw [if_neg (by omega)]
    simp [hd]
  simp [evSs, evS, evE, evEs, bind_app, pure_app, ofO, view_lst, b1D, e, idxD, hi, M.fl, rtOf]
end MP
end
section
set_option Elab.async false
set_option linter.all false
set_option maxRecDepth 100000
set_option maxHeartbeats 8000000
/-! MQH: _law_word -/
namespace MP
def F_word (dr : Nat) : PFun := ⟨3, 4, [], (.cons (.ret (.b1 .tuple (.fz (.comp [3] (.call dr (.cons (.var 0) (.cons (.var 1) .nil)) []) (.nm 3) (.rng (.con (.int 0)) (.call dr (.cons (.var 0) (.cons (.bin .add (.var 2) (.con (.int 1))) .nil)) [])) .nop)))) .nil)⟩
theorem len_upto : ∀ (n : Nat) (lo : Int), (upto lo n).length = n
  | 0, _ => rfl
  | n + 1, lo => by simp [upto, len_upto n]
/-- a word: ints below c, at most m -/
def IsWord (c : Int) (m : Nat) (w : List Int) : Prop := (∀ i ∈ w, 0 ≤ i ∧ i < c) ∧ w.length ≤ m
theorem word_ok {T : List PFun} {fuel k dr fr n : Nat} {S : DS} {c : Int} {m : Nat} (hD : T[dr]? = some (F_draw fr)) (hF : T[fr]? = some F_fresh) (h : Pen n S) (hc : 0 < c) (hc2 : c.natAbs.log2 < 9000) (hm : m < 1000) :
    ∃ (w : List Int) (S' : DS), runF (callN T fuel (k + 2)) fuel (F_word dr) [.ref n, .int c, .int m] S = .ok (.tup (w.map .int)) S' ∧ IsWord c m w ∧ PS' n S S' := by
  rw [runF_eq rfl]
  obtain ⟨d, S1, e, d0, d1, s1⟩ := draw_call (k := k) (fuel := fuel) (b := (m : Int) + 1) hD hF h (by omega) (Nat.lt_of_le_of_lt (Nat.log2_le_self _) (by omega))
  have hd : d.toNat ≤ m := by omega
  obtain ⟨ys, S2, e2, ⟨w, rfl, hw, s2⟩, l2⟩ := compM_inv (f := fun x acc => do
      let σ' ← ofO (bindT (.nm 3) x (wipeD [some (.ref n), some (.int c), some (.int m), none] [3]))
      let b ← evC (callN T fuel (k + 2)) .nop σ'
      if b then (do let y ← evE (callN T fuel (k + 2)) (.call dr (.cons (.var 0) (.cons (.var 1) .nil)) []) σ'; put1 acc y) else pure acc)
    (fun S' acc => ∃ w : List Int, acc = w.map .int ∧ (∀ i ∈ w, 0 ≤ i ∧ i < c) ∧ PS' n S S') (upto 0 d.toNat) [] S1 ⟨[], rfl, by simp, s1⟩ (fun x hx acc S' hI hl => by
      obtain ⟨w, rfl, hw, s⟩ := hI
      obtain ⟨j, rfl, _, _⟩ := mem_upto hx
      obtain ⟨y, S2, e, y0, y1, s2⟩ := draw_call (k := k) (fuel := fuel) hD hF s.pen hc hc2
      refine ⟨(w ++ [y]).map .int, S2, ?_, ⟨w ++ [y], rfl, ?_, s.trans s2⟩, by simp⟩
      · simp [bindT, wipeD, ofO, bind_app, pure_app, evC, evE, evEs, e, put1_eq hl]
      · intro i hi
        rcases List.mem_append.mp hi with hi | hi
        · exact hw i hi
        · rw [List.mem_singleton.mp hi]
          exact ⟨y0, y1⟩) (by
      rw [len_upto, List.length_nil]
      have hl : line = 2 ^ 24 := rfl
      omega)
  refine ⟨w, S2, ?_, ⟨hw, by
    rw [List.length_map, len_upto, List.length_nil] at l2
    omega⟩, s2⟩
  unfold F_word
  show rtOf (evSs _ _ _ [some (.ref n), some (.int c), some (.int m), none] S) = _
  have es : evSrc (callN T fuel (k + 2)) (.rng (.con (.int 0)) (.call dr (.cons (.var 0) (.cons (.bin .add (.var 2) (.con (.int 1))) .nil)) [])) [some (.ref n), some (.int c), some (.int m), none] S = .ok ([], upto 0 d.toNat) S1 := by
    have q : d < 2 ^ 62 ∧ -(2 ^ 62) ≤ d := by constructor <;> omega
    simp [evSrc, evE, evEs, bind_app, pure_app, ofO, view_int, binD, e]
    rw [if_pos ⟨by omega, by omega⟩]
    rfl
  have el : evL (callN T fuel (k + 2)) (.comp [3] (.call dr (.cons (.var 0) (.cons (.var 1) .nil)) []) (.nm 3) (.rng (.con (.int 0)) (.call dr (.cons (.var 0) (.cons (.bin .add (.var 2) (.con (.int 1))) .nil)) [])) .nop) [some (.ref n), some (.int c), some (.int m), none] S = .ok (w.map .int) S2 := by
    simp only [evL]
    rw [bind_app, es]
    exact calm_ok e2
  simp [evSs, evS, evE, bind_app, pure_app, ofO, view_lst, b1D, el, M.fl, rtOf]
end MP
end
section
set_option Elab.async false
set_option linter.all false
set_option maxRecDepth 100000
set_option maxHeartbeats 8000000
/-! MQI: told_line, _law_line -/
namespace MP
def F_line : PFun := ⟨1, 2, [], (.cons (.ret (.bin .add (.b2 .join (.con (.str [32])) (.fz (.comp [1] (.b1 .str (.var 1)) (.nm 1) (.seq (.var 0)) .nop))) (.con (.str [10])))) .nil)⟩
def strD : D → List Nat
  | .int i => decI i
  | .str s => s
  | _ => []
def Says (d : D) : Prop := b1D .str d = some (.str (strD d))
theorem strsOf_map : ∀ zs : List (List Nat), strsOf (zs.map .str) = some zs
  | [] => rfl
  | z :: zs => by simp [strsOf, strsOf_map zs]
/-- the text of a line -/
def lineOf (ds : List D) : List Nat := joinBy [32] (ds.map strD) ++ [10]
theorem line_ok {cf : CF} {fuel : Nat} {S : DS} {d : D} {ds : List D} (hi : items d = some ds) (hr : ∀ n, d ≠ .ref n) (h : ∀ x ∈ ds, Says x) (hl : ds.length ≤ line) (h1 : ((ds.map strD).map (·.length)).sum + ds.length ≤ line) (h2 : (lineOf ds).length ≤ line) :
    runF cf fuel F_line [d] S = .ok (.str (lineOf ds)) S := by
  rw [runF_eq rfl]
  unfold F_line
  show rtOf (evSs _ _ _ [some d, none] S) = _
  have ew : walkOf d S = .ok ([], ds) S := by
    cases d with
    | ref n => exact absurd rfl (hr n)
    | _ => simp [walkOf, hi]
  have el : evL cf (.comp [1] (.b1 .str (.var 1)) (.nm 1) (.seq (.var 0)) .nop) [some d, none] S = .ok ((ds.map strD).map .str) S := by
    have es : evSrc cf (.seq (.var 0)) [some d, none] S = .ok ([], ds) S := by
      simp [evSrc, evE, bind_app, pure_app, ofO, ew]
    simp only [evL]
    rw [bind_app, es]
    refine calm_ok ?_
    rw [List.map_map]
    refine compM_map ds (fun x hx acc ha => ?_) hl
    have hs : b1D .str x = some (.str (strD x)) := h x hx
    have hv : view x S = .ok x S := by
      cases x with
      | ref n => exact absurd hs (by simp [b1D])
      | _ => rfl
    simp [bindT, wipeD, ofO, bind_app, pure_app, evC, evE, hv, hs, put1_eq ha]
  have ej : b2D .join (.str [32]) (.lst ((ds.map strD).map .str)) = some (.str (joinBy [32] (ds.map strD))) := by
    simp only [b2D, strsOf_map, Option.bind_some]
    rw [if_pos (by simpa using h1)]
  have ea : binD .add (.str (joinBy [32] (ds.map strD))) (.str [10]) = some (.str (lineOf ds)) := by
    simp only [binD]
    rw [if_pos (by simpa [lineOf] using h2)]
    rfl
  simp only [evSs, evS, evE, bind_app, pure_app, el, asS, ofO, view_lst, view_str, ej, ea, M.fl, rtOf]
end MP
end
section
set_option Elab.async false
set_option linter.all false
set_option maxRecDepth 100000
set_option maxHeartbeats 8000000
/-! MQJ: read_number of one digit -/
namespace MP
def F_read_number (g : Nat) : PFun := ⟨1, 2, [], (.cons (.ite (.or (.cmp .eq (.var 0) (.con (.str []))) (.or (.cmp .gt (.b1 .len (.var 0)) (.con (.int 2))) (.and (.cmp .eq (.idx (.var 0) (.con (.int 0))) (.con (.str [48]))) (.cmp .ne (.var 0) (.con (.str [48])))))) (.cons (.ret (.con .non)) .nil) .nil) (.cons (.forS (.nm 1) (.seq (.var 0)) (.cons (.ite (.cmp .notMem (.var 1) (.glob g (.str [48, 49, 50, 51, 52, 53, 54, 55, 56, 57]))) (.cons (.ret (.con .non)) .nil) .nil) .nil)) (.cons (.ret (.b1 .int (.var 0))) .nil)))⟩
def dg (i : Nat) : List Nat := [48 + i]
/-- what is asked of a digit -/
def digOk (z : List Nat) (n : Int) : Bool := decide (cmpD .eq (.str z) (.str []) = some false) && decide (b1D .len (.str z) = some (.int 1)) && decide (cmpD .gt (.int 1) (.int 2) = some false) && decide (idxD (.str z) (.int 0) = some (.str z)) &&
  (decide (cmpD .eq (.str z) (.str [48]) = some false) || (decide (cmpD .eq (.str z) (.str [48]) = some true) && decide (cmpD .ne (.str z) (.str [48]) = some false))) && decide (signs z = [.str z]) &&
  decide (cmpD .notMem (.str z) (.str [48, 49, 50, 51, 52, 53, 54, 55, 56, 57]) = some false) && decide (b1D .int (.str z) = some (.int n))
theorem dig_ok : ∀ i : Nat, i < 10 → digOk (dg i) i = true := by decide +kernel
theorem dec_dg : ∀ i : Nat, i < 10 → decI i = dg i := by decide +kernel
theorem num_ok {cf : CF} {fuel g : Nat} {S : DS} {z : List Nat} {n : Int} (h : digOk z n = true) : runF cf fuel (F_read_number g) [.str z] S = .ok (.int n) S := by
  unfold digOk at h
  simp only [Bool.and_eq_true, Bool.or_eq_true, decide_eq_true_eq] at h
  obtain ⟨⟨⟨⟨⟨⟨⟨h1, h2⟩, h3⟩, h4⟩, h5⟩, h6⟩, h7⟩, h8⟩ := h
  rw [runF_eq rfl]
  unfold F_read_number
  show rtOf (evSs _ _ _ [some (.str z), none] S) = _
  have e1 : evS cf fuel (.ite (.or (.cmp .eq (.var 0) (.con (.str []))) (.or (.cmp .gt (.b1 .len (.var 0)) (.con (.int 2))) (.and (.cmp .eq (.idx (.var 0) (.con (.int 0))) (.con (.str [48]))) (.cmp .ne (.var 0) (.con (.str [48])))))) (.cons (.ret (.con .non)) .nil) .nil) [some (.str z), none] S = .ok (.nx [some (.str z), none]) S := by
    rcases h5 with h5 | ⟨h5, h5'⟩
    · simp [evS, evSs, evE, evB, asB, bind_app, pure_app, ofO, view_str, view_int, h1, h2, h3, h4, h5, M.fl]
    · simp [evS, evSs, evE, evB, asB, bind_app, pure_app, ofO, view_str, view_int, h1, h2, h3, h4, h5, h5', M.fl]
  have e2 : evS cf fuel (.forS (.nm 1) (.seq (.var 0)) (.cons (.ite (.cmp .notMem (.var 1) (.glob g (.str [48, 49, 50, 51, 52, 53, 54, 55, 56, 57]))) (.cons (.ret (.con .non)) .nil) .nil) .nil)) [some (.str z), none] S = .ok (.nx [some (.str z), some (.str z)]) S := by
    simp only [evS]
    refine fl_ok ?_
    simp [evSrc, evE, bind_app, pure_app, ofO, walkOf, items, h6, forM', stays_nil, bindT, evSs, evS, evB, asB, view_str, h7, M.fl]
  rw [ss_nx e1, ss_nx e2]
  simp [evSs, evS, evE, bind_app, pure_app, ofO, view_str, h8, M.fl, rtOf]
end MP
end
section
set_option Elab.async false
set_option linter.all false
set_option maxRecDepth 100000
set_option maxHeartbeats 8000000
/-! MQK: split and join -/
namespace MP
theorem split_cat (c : Nat) (r : List Nat) : ∀ a : List Nat, c ∉ a → splitAt1 c (a ++ c :: r) = a :: splitAt1 c r
  | [], _ => by simp [splitAt1]
  | x :: a, h => by
    simp only [List.mem_cons, not_or] at h
    have e := split_cat c r a h.2
    simp only [List.cons_append, splitAt1, if_neg (fun q : x = c => h.1 q.symm), e]
theorem split_one (c : Nat) : ∀ a : List Nat, c ∉ a → splitAt1 c a = [a]
  | [], _ => rfl
  | x :: a, h => by
    simp only [List.mem_cons, not_or] at h
    simp only [splitAt1, if_neg (fun q : x = c => h.1 q.symm), split_one c a h.2]
/-- lines, each closed -/
theorem split_lines (c : Nat) : ∀ ls : List (List Nat), (∀ l ∈ ls, c ∉ l) → splitAt1 c (ls.map (· ++ [c])).flatten = ls ++ [[]]
  | [], _ => rfl
  | l :: ls, h => by
    have e := split_lines c ls fun x hx => h x (List.mem_cons_of_mem _ hx)
    simp only [List.map_cons, List.flatten_cons, List.append_assoc, List.singleton_append, List.cons_append, split_cat c _ l (h l (List.mem_cons_self ..)), List.nil_append, e]
theorem split_join (c : Nat) : ∀ zs : List (List Nat), zs ≠ [] → (∀ z ∈ zs, c ∉ z) → splitAt1 c (joinBy [c] zs) = zs
  | [], h, _ => absurd rfl h
  | [z], _, h => by
    have e : joinBy [c] [z] = z := by simp [joinBy, TL.joinL]
    rw [e, split_one c z (h z (List.mem_cons_self ..))]
  | z :: y :: zs, _, h => by
    have e : joinBy [c] (z :: y :: zs) = z ++ c :: joinBy [c] (y :: zs) := by simp [joinBy, TL.joinL]
    rw [e, split_cat c _ z (h z (List.mem_cons_self ..)), split_join c (y :: zs) (by simp) fun x hx => h x (List.mem_cons_of_mem _ hx)]
end MP
end
section
set_option Elab.async false
set_option linter.all false
set_option maxRecDepth 100000
set_option maxHeartbeats 4000000
/-! MRA: what a run of the evaluator ends in (W), as rules for simp. The middle part is printed by gen/geneq.py. -/
namespace MP
/-- simp does not look into P and X -/
structure Tag {α : Type} (P : α → DS → Prop) (X : Exc → DS → Prop) : Type
/-- a run ends well with P, or something flies with X -/
def W {α : Type} (m : R α) (P : α → DS → Prop) (X : Exc → DS → Prop) (_t : Tag P X := ⟨⟩) : Prop := match m with
  | .ok a S => P a S
  | .exc x S => X x S
  | .bad => False
section
variable {α β : Type}
@[simp ↓] theorem W_ok (a : α) (S : DS) (P : α → DS → Prop) (X) : W (.ok a S) P X = P a S := rfl
@[simp ↓] theorem W_exc (x) (S : DS) (P : α → DS → Prop) (X) : W (.exc x S) P X = X x S := rfl
@[simp ↓] theorem W_bad (P : α → DS → Prop) (X) : W .bad P X = False := rfl
@[simp ↓] theorem W_Mbad (S) (P : α → DS → Prop) (X) : W (M.bad S) P X = False := rfl
@[simp ↓] theorem W_bind (m : M α) (f : α → M β) (S : DS) (P : β → DS → Prop) (X) : W ((m >>= f) S) P X = W (m S) (fun a S' => W (f a S') P X) X := by
  show W (match m S with | .ok a S' => f a S' | .exc x S' => .exc x S' | .bad => .bad) P X = _
  cases m S <;> rfl
@[simp ↓] theorem W_pure (a : α) (S : DS) (P : α → DS → Prop) (X) : W ((Pure.pure a : M α) S) P X = P a S := rfl
@[simp ↓] theorem W_ite (c : Prop) [Decidable c] (a b : M α) (S : DS) (P : α → DS → Prop) (X) : W ((if c then a else b) S) P X = if c then W (a S) P X else W (b S) P X := by split <;> rfl
@[simp] theorem ofO_sm (a : α) (S : DS) : ofO (some a) S = .ok a S := rfl
@[simp ↓] theorem W_calm (m : M α) (S : DS) (P : α → DS → Prop) (X) : W (M.calm m S) P X = W (m S) P (fun _ _ => False) := by
  unfold M.calm
  cases m S <;> rfl
@[simp ↓] theorem W_fl (m : M Fl) (σ : Env) (S : DS) (P) (X) : W (M.fl m σ S) P X = W (m S) P (fun x S' => P (.ex x σ) S') := by
  unfold M.fl
  cases m S <;> rfl
theorem W.mono {m : R α} {P P' : α → DS → Prop} {X X' : Exc → DS → Prop} (h : W m P X) (hp : ∀ a S, P a S → P' a S) (hx : ∀ x S, X x S → X' x S) : W m P' X' := by
  cases m with
  | ok a S => exact hp _ _ h
  | exc x S => exact hx _ _ h
  | bad => exact h
theorem W.imp {m : R α} {P P' : α → DS → Prop} {X : Exc → DS → Prop} (h : W m P X) (hp : ∀ a S, P a S → P' a S) : W m P' X := h.mono hp fun _ _ h => h
/-- nothing flies -/
theorem W.calm {m : R α} {P P' : α → DS → Prop} {X : Exc → DS → Prop} (h : W m P (fun _ _ => False)) (hp : ∀ a S, P a S → P' a S) : W m P' X := h.mono hp fun _ _ h => h.elim
theorem W_iff_eq {m : R α} {a : α} {S : DS} {X : Exc → DS → Prop} (hX : ∀ x S, ¬ X x S) : W m (fun b S' => b = a ∧ S' = S) X ↔ m = .ok a S := by
  cases m with
  | ok b S' => simp [W]
  | exc x S' => simp [W, hX]
  | bad => simp [W]
theorem eq_of_W {m : R α} {a : α} {S : DS} (h : W m (fun b S' => b = a ∧ S' = S) (fun _ _ => False)) : m = .ok a S := (W_iff_eq fun _ _ h => h).mp h
theorem W_of_eq {m : R α} {a : α} {S : DS} (h : m = .ok a S) {P : α → DS → Prop} {X} (p : P a S) : W m P X := by rw [h]; exact p
/-- by the ends that there are -/
theorem W_exS {m : R α} {S : DS} {Q : α → Prop} (h : W m (fun a S' => S' = S ∧ Q a) (fun _ _ => False)) : ∃ a, m = .ok a S ∧ Q a := by
  cases m with
  | ok b S' => obtain ⟨rfl, h⟩ := h; exact ⟨_, rfl, h⟩
  | exc x S' => exact h.elim
  | bad => exact h.elim
theorem W_ex {m : R α} {P : α → DS → Prop} (h : W m P (fun _ _ => False)) : ∃ a S, m = .ok a S ∧ P a S := by
  cases m with
  | ok b S' => exact ⟨_, _, rfl, h⟩
  | exc x S' => exact h.elim
  | bad => exact h.elim
end
@[simp ↓] theorem W_evB (m : M D) (S P X) : W (evB m S) P X = W ((do ofO (asB (← m)) : M Bool) S) P X := rfl
@[simp] theorem view_non' (S) : view .non S = .ok .non S := rfl
@[simp] theorem view_bl' (b S) : view (.bl b) S = .ok (.bl b) S := rfl
@[simp] theorem view_int' (b S) : view (.int b) S = .ok (.int b) S := rfl
@[simp] theorem view_str' (b S) : view (.str b) S = .ok (.str b) S := rfl
@[simp] theorem view_tup' (b S) : view (.tup b) S = .ok (.tup b) S := rfl
@[simp] theorem view_lst' (b S) : view (.lst b) S = .ok (.lst b) S := rfl
theorem view_rf {n : Nat} {S : DS} {xs : List D} (h : S[n]? = some (.lst xs)) : view (.ref n) S = .ok (.lst xs) S := view_ref h
@[simp] theorem alloc_eq (o S) : alloc o S = .ok (.ref S.length) (S ++ [o]) := rfl
@[simp ↓] theorem W_evP_nop {cf σ S P X} : W (evP cf .nop σ S) P X = P .non S := by simp only [evP]; rfl
theorem evP_of {cf e} (h : e ≠ .nop) (σ) : evP cf e σ = (do match (← evE cf e σ) with | .int i => pure (.int i) | _ => M.bad) := by
  cases e <;> first | exact absurd rfl h | (simp only [evP]; done) | (simp only [evP]; rfl)
@[simp ↓] theorem W_evC_nop {cf σ S P X} : W (evC cf .nop σ S) P X = P true S := by simp only [evC]; rfl
theorem evC_of {cf e} (h : e ≠ .nop) (σ) : evC cf e σ = evB (evE cf e σ) := by
  cases e <;> first | exact absurd rfl h | (simp only [evC]; done) | (simp only [evC]; rfl)
/-- an int -/
def intW (P : D → DS → Prop) (d : D) (S : DS) : Prop := match d with
  | .int i => P (.int i) S
  | _ => False
@[simp] theorem intP_int {P i S} : intW P (.int i) S = P (.int i) S := rfl
theorem W_evP {cf e} (h : e ≠ .nop) {σ S P X} : W (evP cf e σ S) P X = W (evE cf e σ S) (intW P) X := by
  rw [evP_of h, W_bind]
  cases evE cf e σ S with
  | ok d S' => cases d <;> rfl
  | _ => rfl
@[simp ↓] theorem W_evP_var {cf i σ S P X} : W (evP cf (.var i) σ S) P X = W (evE cf (.var i) σ S) (intW P) X := W_evP (by nofun)
@[simp ↓] theorem W_evP_con {cf i σ S P X} : W (evP cf (.con i) σ S) P X = W (evE cf (.con i) σ S) (intW P) X := W_evP (by nofun)
@[simp ↓] theorem W_evP_glob {cf g i σ S P X} : W (evP cf (.glob g i) σ S) P X = W (evE cf (.glob g i) σ S) (intW P) X := W_evP (by nofun)
@[simp ↓] theorem W_evP_bin {cf o a b σ S P X} : W (evP cf (.bin o a b) σ S) P X = W (evE cf (.bin o a b) σ S) (intW P) X := W_evP (by nofun)
@[simp ↓] theorem W_evP_neg {cf a σ S P X} : W (evP cf (.neg a) σ S) P X = W (evE cf (.neg a) σ S) (intW P) X := W_evP (by nofun)
@[simp ↓] theorem W_evP_ite {cf c a b σ S P X} : W (evP cf (.ite c a b) σ S) P X = W (evE cf (.ite c a b) σ S) (intW P) X := W_evP (by nofun)
@[simp ↓] theorem W_evP_call {cf c a b σ S P X} : W (evP cf (.call c a b) σ S) P X = W (evE cf (.call c a b) σ S) (intW P) X := W_evP (by nofun)
@[simp ↓] theorem W_evP_b1 {cf a b σ S P X} : W (evP cf (.b1 a b) σ S) P X = W (evE cf (.b1 a b) σ S) (intW P) X := W_evP (by nofun)
@[simp ↓] theorem W_evP_idx {cf a b σ S P X} : W (evP cf (.idx a b) σ S) P X = W (evE cf (.idx a b) σ S) (intW P) X := W_evP (by nofun)
@[simp ↓] theorem W_evC_no {cf a σ S P X} : W (evC cf (.no a) σ S) P X = W (evB (evE cf (.no a) σ) S) P X := by rw [evC_of (by nofun)]
@[simp ↓] theorem W_evC_and {cf a b σ S P X} : W (evC cf (.and a b) σ S) P X = W (evB (evE cf (.and a b) σ) S) P X := by rw [evC_of (by nofun)]
@[simp ↓] theorem W_evC_or {cf a b σ S P X} : W (evC cf (.or a b) σ S) P X = W (evB (evE cf (.or a b) σ) S) P X := by rw [evC_of (by nofun)]
@[simp ↓] theorem W_evC_cmp {cf o a b σ S P X} : W (evC cf (.cmp o a b) σ S) P X = W (evB (evE cf (.cmp o a b) σ) S) P X := by rw [evC_of (by nofun)]
@[simp ↓] theorem W_evC_chain {cf o p a b c σ S P X} : W (evC cf (.chain o p a b c) σ S) P X = W (evB (evE cf (.chain o p a b c) σ) S) P X := by rw [evC_of (by nofun)]
@[simp ↓] theorem W_evC_call {cf a b c σ S P X} : W (evC cf (.call a b c) σ S) P X = W (evB (evE cf (.call a b c) σ) S) P X := by rw [evC_of (by nofun)]
@[simp ↓] theorem W_evC_isin {cf a b σ S P X} : W (evC cf (.isin a b) σ S) P X = W (evB (evE cf (.isin a b) σ) S) P X := by rw [evC_of (by nofun)]
@[simp ↓] theorem W_evC_b1 {cf a b σ S P X} : W (evC cf (.b1 a b) σ S) P X = W (evB (evE cf (.b1 a b) σ) S) P X := by rw [evC_of (by nofun)]
@[simp ↓] theorem W_evC_var {cf a σ S P X} : W (evC cf (.var a) σ S) P X = W (evB (evE cf (.var a) σ) S) P X := by rw [evC_of (by nofun)]
/-- an end of a range -/
def inR (i : Int) : Prop := -(2 ^ 62) ≤ i ∧ i < 2 ^ 62
theorem inR_of {i : Int} (h : -1000000000000 ≤ i ∧ i ≤ 1000000000000) : inR i := ⟨by omega, by omega⟩
@[simp] theorem inR_0 : inR 0 := inR_of (by decide)
/-- a range -/
def rngP (x y : D) (P : Walked → DS → Prop) (S : DS) : Prop := match x, y with
  | .int i, .int j => inR i ∧ inR j ∧ P ([], upto i (j - i).toNat) S
  | _, _ => False
@[simp] theorem rngP_int {i j P S} : rngP (.int i) (.int j) P S = (inR i ∧ inR j ∧ P ([], upto i (j - i).toNat) S) := rfl
@[simp ↓] theorem W_evSrc_rng {cf : CF} {a b : E} {σ : Env} {S P X} : W (evSrc cf (.rng a b) σ S) P X = W (evE cf a σ S) (fun x S1 => W (evE cf b σ S1) (fun y S2 => rngP x y P S2) X) X := by
  simp only [evSrc]
  rw [W_bind]
  cases evE cf a σ S with
  | ok x S1 =>
    simp only [W_ok, W_bind]
    cases evE cf b σ S1 with
    | ok y S2 =>
      cases x <;> first | rfl | skip
      cases y <;> first | rfl | skip
      rename_i i j
      show W ((if -(2 ^ 62) ≤ i ∧ i < 2 ^ 62 ∧ -(2 ^ 62) ≤ j ∧ j < 2 ^ 62 then Pure.pure ([], upto i (j - i).toNat) else M.bad : M Walked) S2) P X = (inR i ∧ inR j ∧ P ([], upto i (j - i).toNat) S2)
      unfold inR
      by_cases h : -(2 ^ 62) ≤ i ∧ i < 2 ^ 62 ∧ -(2 ^ 62) ≤ j ∧ j < 2 ^ 62
      · rw [if_pos h]
        simp only [h, and_self, true_and]
        rfl
      · rw [if_neg h]
        have : ¬ ((-(2 ^ 62) ≤ i ∧ i < 2 ^ 62) ∧ (-(2 ^ 62) ≤ j ∧ j < 2 ^ 62) ∧ P ([], upto i (j - i).toNat) S2) := fun q => h ⟨q.1.1, q.1.2, q.2.1.1, q.2.1.2⟩
        exact propext ⟨fun q => q.elim, fun q => (this q).elim⟩
    | _ => rfl
  | _ => rfl
/-- a list of a range -/
def rngL (x y : D) (P : List D → DS → Prop) (S : DS) : Prop := match x, y with
  | .int i, .int j => inR i ∧ inR j ∧ (j - i).toNat ≤ 16777216 ∧ P (upto i (j - i).toNat) S
  | _, _ => False
@[simp] theorem rngL_int {i j P S} : rngL (.int i) (.int j) P S = (inR i ∧ inR j ∧ (j - i).toNat ≤ 16777216 ∧ P (upto i (j - i).toNat) S) := rfl
@[simp ↓] theorem W_evL_rng {cf : CF} {a b : E} {σ : Env} {S P X} : W (evL cf (.rng a b) σ S) P X = W (evE cf a σ S) (fun x S1 => W (evE cf b σ S1) (fun y S2 => rngL x y P S2) X) X := by
  simp only [evL]
  rw [W_bind]
  cases evE cf a σ S with
  | ok x S1 =>
    simp only [W_ok, W_bind]
    cases evE cf b σ S1 with
    | ok y S2 =>
      cases x <;> first | rfl | skip
      cases y <;> first | rfl | skip
      rename_i i j
      show W ((if -(2 ^ 62) ≤ i ∧ i < 2 ^ 62 ∧ -(2 ^ 62) ≤ j ∧ j < 2 ^ 62 ∧ (j - i).toNat ≤ 2 ^ 24 then Pure.pure (upto i (j - i).toNat) else M.bad : M (List D)) S2) P X = (inR i ∧ inR j ∧ (j - i).toNat ≤ 16777216 ∧ P (upto i (j - i).toNat) S2)
      unfold inR
      by_cases h : -(2 ^ 62) ≤ i ∧ i < 2 ^ 62 ∧ -(2 ^ 62) ≤ j ∧ j < 2 ^ 62 ∧ (j - i).toNat ≤ 2 ^ 24
      · rw [if_pos h]
        exact propext ⟨fun q => ⟨⟨h.1, h.2.1⟩, ⟨h.2.2.1, h.2.2.2.1⟩, h.2.2.2.2, q⟩, fun q => q.2.2.2⟩
      · rw [if_neg h]
        exact propext ⟨fun q => q.elim, fun q => (h ⟨q.1.1, q.1.2, q.2.1.1, q.2.1.2, q.2.2.1⟩).elim⟩
    | _ => rfl
  | _ => rfl
/-- one statement after the other -/
def contP (cf : CF) (fuel : Nat) (r : Ss) (P : Fl → DS → Prop) (X : Exc → DS → Prop) (fl : Fl) (S : DS) : Prop := match fl with
  | .nx σ => W (evSs cf fuel r σ S) P X
  | f => P f S
section
variable {cf : CF} {fuel : Nat} {r : Ss} {P : Fl → DS → Prop} {X : Exc → DS → Prop} {S : DS}
@[simp ↓] theorem contP_nx {σ} : contP cf fuel r P X (.nx σ) S = W (evSs cf fuel r σ S) P X := rfl
@[simp ↓] theorem contP_rt {d} : contP cf fuel r P X (.rt d) S = P (.rt d) S := rfl
@[simp ↓] theorem contP_bk {d} : contP cf fuel r P X (.bk d) S = P (.bk d) S := rfl
@[simp ↓] theorem contP_ct {d} : contP cf fuel r P X (.ct d) S = P (.ct d) S := rfl
@[simp ↓] theorem contP_ex {x d} : contP cf fuel r P X (.ex x d) S = P (.ex x d) S := rfl
@[simp ↓] theorem W_evSs_nil {σ} : W (evSs cf fuel .nil σ S) P X = P (.nx σ) S := by simp only [evSs]; rfl
@[simp ↓] theorem W_evSs_cons {s σ} : W (evSs cf fuel (.cons s r) σ S) P X = W (evS cf fuel s σ S) (contP cf fuel r P X) X := by
  simp only [evSs]
  rw [W_bind]
  cases evS cf fuel s σ S with
  | ok f S' => cases f <;> rfl
  | _ => rfl
end
/-- a frame's end -/
def retP (P : D → DS → Prop) (X : Exc → DS → Prop) (fl : Fl) (S : DS) : Prop := match fl with
  | .rt d => P d S
  | .nx _ => P .non S
  | .ex x _ => X x S
  | _ => False
section
variable {P : D → DS → Prop} {X : Exc → DS → Prop} {S : DS}
@[simp ↓] theorem retP_nx {σ} : retP P X (.nx σ) S = P .non S := rfl
@[simp ↓] theorem retP_rt {d} : retP P X (.rt d) S = P d S := rfl
@[simp ↓] theorem retP_bk {d} : retP P X (.bk d) S = False := rfl
@[simp ↓] theorem retP_ct {d} : retP P X (.ct d) S = False := rfl
@[simp ↓] theorem retP_ex {x d} : retP P X (.ex x d) S = X x S := rfl
end
/-- a call -/
theorem W_callN {T : List PFun} {fuel k i : Nat} {F : PFun} (hT : T[i]? = some F) {ds : List D} (hn : ds.length = F.np) {S P X} (h : W (evSs (callN T fuel k) fuel F.body (ds.map some ++ List.replicate (F.ns - F.np) none) S) (retP P X) X) : W (callN T fuel (k + 1) i ds S) P X := by
  show W ((match T[i]? with | some F => runF (callN T fuel k) fuel F ds | none => M.bad) S) P X
  rw [hT]
  show W (runF (callN T fuel k) fuel F ds S) P X
  unfold runF
  rw [if_pos hn, W_bind]
  exact h.imp fun fl S' q => by cases fl <;> exact q
section
variable {cf : CF} {fuel : Nat}
@[simp ↓] theorem W_evE_nop {σ S P X} : W (evE cf .nop σ S) P X = W ((Pure.pure .non : M (D)) S) P X := by first | (simp only [evE]; done) | (simp only [evE]; rfl)
@[simp ↓] theorem W_evE_var {i} {σ S P X} : W (evE cf (.var i) σ S) P X = W ((ofO (σ[i]?.bind id) : M (D)) S) P X := by first | (simp only [evE]; done) | (simp only [evE]; rfl)
@[simp ↓] theorem W_evE_con {d} {σ S P X} : W (evE cf (.con d) σ S) P X = W ((Pure.pure d : M (D)) S) P X := by first | (simp only [evE]; done) | (simp only [evE]; rfl)
@[simp ↓] theorem W_evE_glob {x1 d} {σ S P X} : W (evE cf (.glob x1 d) σ S) P X = W ((Pure.pure d : M (D)) S) P X := by first | (simp only [evE]; done) | (simp only [evE]; rfl)
@[simp ↓] theorem W_evE_bin {op a b} {σ S P X} : W (evE cf (.bin op a b) σ S) P X = W ((do
    let x ← evE cf a σ
    let y ← evE cf b σ
    let x ← view x
    let y ← view y
    ofO (binD op x y) : M (D)) S) P X := by first | (simp only [evE]; done) | (simp only [evE]; rfl)
@[simp ↓] theorem W_evE_neg {a} {σ S P X} : W (evE cf (.neg a) σ S) P X = W ((do
    match (← evE cf a σ) with
    | .int i => Pure.pure (.int (-i))
    | _ => M.bad : M (D)) S) P X := by first | (simp only [evE]; done) | (simp only [evE]; rfl)
@[simp ↓] theorem W_evE_no {a} {σ S P X} : W (evE cf (.no a) σ S) P X = W ((do
    let b ← evB (evE cf a σ)
    Pure.pure (.bl (!b)) : M (D)) S) P X := by first | (simp only [evE]; done) | (simp only [evE]; rfl)
@[simp ↓] theorem W_evE_and {a b} {σ S P X} : W (evE cf (.and a b) σ S) P X = W ((do
    let x ← evB (evE cf a σ)
    if x then (do let y ← evB (evE cf b σ); Pure.pure (.bl y)) else Pure.pure (.bl false) : M (D)) S) P X := by first | (simp only [evE]; done) | (simp only [evE]; rfl)
@[simp ↓] theorem W_evE_or {a b} {σ S P X} : W (evE cf (.or a b) σ S) P X = W ((do
    let x ← evB (evE cf a σ)
    if x then Pure.pure (.bl true) else (do let y ← evB (evE cf b σ); Pure.pure (.bl y)) : M (D)) S) P X := by first | (simp only [evE]; done) | (simp only [evE]; rfl)
@[simp ↓] theorem W_evE_cmp {op a b} {σ S P X} : W (evE cf (.cmp op a b) σ S) P X = W ((do
    let x ← evE cf a σ
    let y ← evE cf b σ
    let x ← view x
    let y ← view y
    let r ← ofO (cmpD op x y)
    Pure.pure (.bl r) : M (D)) S) P X := by first | (simp only [evE]; done) | (simp only [evE]; rfl)
@[simp ↓] theorem W_evE_chain {o1 o2 a b c} {σ S P X} : W (evE cf (.chain o1 o2 a b c) σ S) P X = W ((do
    let x ← evE cf a σ
    let y ← evE cf b σ
    let r ← ofO (cmpD o1 x y)
    if r then (do let z ← evE cf c σ; let r ← ofO (cmpD o2 y z); Pure.pure (.bl r)) else Pure.pure (.bl false) : M (D)) S) P X := by first | (simp only [evE]; done) | (simp only [evE]; rfl)
@[simp ↓] theorem W_evE_ite {c a b} {σ S P X} : W (evE cf (.ite c a b) σ S) P X = W ((do
    let x ← evB (evE cf c σ)
    if x then evE cf a σ else evE cf b σ : M (D)) S) P X := by first | (simp only [evE]; done) | (simp only [evE]; rfl)
@[simp ↓] theorem W_evE_tup {es} {σ S P X} : W (evE cf (.tup es) σ S) P X = W ((do
    let xs ← evEs cf es σ
    Pure.pure (.tup xs) : M (D)) S) P X := by first | (simp only [evE]; done) | (simp only [evE]; rfl)
@[simp ↓] theorem W_evE_fz {l} {σ S P X} : W (evE cf (.fz l) σ S) P X = W ((do
    let xs ← evL cf l σ
    Pure.pure (.lst xs) : M (D)) S) P X := by first | (simp only [evE]; done) | (simp only [evE]; rfl)
@[simp ↓] theorem W_evE_al {l} {σ S P X} : W (evE cf (.al l) σ S) P X = W ((do
    let xs ← evL cf l σ
    alloc (.lst xs) : M (D)) S) P X := by first | (simp only [evE]; done) | (simp only [evE]; rfl)
@[simp ↓] theorem W_evE_call {f es dv} {σ S P X} : W (evE cf (.call f es dv) σ S) P X = W ((do
    let xs ← evEs cf es σ
    cf f (xs ++ dv) : M (D)) S) P X := by first | (simp only [evE]; done) | (simp only [evE]; rfl)
@[simp ↓] theorem W_evE_b1 {f a} {σ S P X} : W (evE cf (.b1 f a) σ S) P X = W ((do
    let x ← evE cf a σ
    let x ← view x
    ofO (b1D f x) : M (D)) S) P X := by first | (simp only [evE]; done) | (simp only [evE]; rfl)
@[simp ↓] theorem W_evE_b2 {f a b} {σ S P X} : W (evE cf (.b2 f a b) σ S) P X = W ((do
    let x ← evE cf a σ
    let z ← ofO (asS x)
    let y ← evE cf b σ
    let y ← view y
    ofO (b2D f (.str z) y) : M (D)) S) P X := by first | (simp only [evE]; done) | (simp only [evE]; rfl)
@[simp ↓] theorem W_evE_idx {a i} {σ S P X} : W (evE cf (.idx a i) σ S) P X = W ((do
    let x ← evE cf a σ
    let y ← evE cf i σ
    let x ← view x
    ofO (idxD x y) : M (D)) S) P X := by first | (simp only [evE]; done) | (simp only [evE]; rfl)
@[simp ↓] theorem W_evE_sl {a lo hi} {σ S P X} : W (evE cf (.sl a lo hi) σ S) P X = W ((do
    let x ← evE cf a σ
    let l ← evP cf lo σ
    let h ← evP cf hi σ
    let x ← view x
    ofO (slD x l h) : M (D)) S) P X := by first | (simp only [evE]; done) | (simp only [evE]; rfl)
@[simp ↓] theorem W_evE_isin {a t} {σ S P X} : W (evE cf (.isin a t) σ S) P X = W ((do
    let x ← evE cf a σ
    let x ← view x
    let b ← ofO (isinD t x)
    Pure.pure (.bl b) : M (D)) S) P X := by first | (simp only [evE]; done) | (simp only [evE]; rfl)
@[simp ↓] theorem W_evE_pop {a i} {σ S P X} : W (evE cf (.pop a i) σ S) P X = W ((do
    let x ← evE cf a σ
    chkL x
    let y ← evP cf i σ
    popM x y : M (D)) S) P X := by first | (simp only [evE]; done) | (simp only [evE]; rfl)
@[simp ↓] theorem W_evE_app {a b} {σ S P X} : W (evE cf (.app a b) σ S) P X = W ((do
    let x ← evE cf a σ
    chkL x
    let y ← evE cf b σ
    appM x y : M (D)) S) P X := by first | (simp only [evE]; done) | (simp only [evE]; rfl)
@[simp ↓] theorem W_evE_lindex {a b} {σ S P X} : W (evE cf (.lindex a b) σ S) P X = W ((do
    let x ← evE cf a σ
    chkL x
    let y ← evE cf b σ
    let x ← view x
    let y ← view y
    ofO (lindexD x y) : M (D)) S) P X := by first | (simp only [evE]; done) | (simp only [evE]; rfl)
@[simp ↓] theorem W_evEs_nil {σ S P X} : W (evEs cf .nil σ S) P X = W ((Pure.pure [] : M (List D)) S) P X := by first | (simp only [evEs]; done) | (simp only [evEs]; rfl)
@[simp ↓] theorem W_evEs_cons {e es} {σ S P X} : W (evEs cf (.cons e es) σ S) P X = W ((do
    let x ← evE cf e σ
    let xs ← evEs cf es σ
    Pure.pure (x :: xs) : M (List D)) S) P X := by first | (simp only [evEs]; done) | (simp only [evEs]; rfl)
@[simp ↓] theorem W_evL_disp {es} {σ S P X} : W (evL cf (.disp es) σ S) P X = W ((evEs cf es σ : M (List D)) S) P X := by first | (simp only [evL]; done) | (simp only [evL]; rfl)
@[simp ↓] theorem W_evL_comp {vs el t s c} {σ S P X} : W (evL cf (.comp vs el t s c) σ S) P X = W ((do
    let (w, xs) ← evSrc cf s σ
    M.calm (compM w (fun x acc => do
      let σ' ← ofO (bindT t x (wipeD σ vs))
      let b ← evC cf c σ'
      if b then (do let y ← evE cf el σ'; put1 acc y) else Pure.pure acc) xs []) : M (List D)) S) P X := by first | (simp only [evL]; done) | (simp only [evL]; rfl)
@[simp ↓] theorem W_evL_comp2 {vs vs2 el t s c t2 s2 c2} {σ S P X} : W (evL cf (.comp2 vs vs2 el t s c t2 s2 c2) σ S) P X = W ((do
    let (w, xs) ← evSrc cf s σ
    M.calm (compM w (fun x acc => do
      let σ' ← ofO (bindT t x (wipeD σ vs))
      let b ← evC cf c σ'
      if b then (do
        let (w2, xs2) ← evSrc cf s2 σ'
        compM w2 (fun x2 acc => do
          let σ2 ← ofO (bindT t2 x2 (wipeD σ' vs2))
          let b2 ← evC cf c2 σ2
          if b2 then (do let y ← evE cf el σ2; put1 acc y) else Pure.pure acc) xs2 acc) else Pure.pure acc) xs []) : M (List D)) S) P X := by first | (simp only [evL]; done) | (simp only [evL]; rfl)
@[simp ↓] theorem W_evL_l1 {f a} {σ S P X} : W (evL cf (.l1 f a) σ S) P X = W ((do
    let x ← evE cf a σ
    let x ← view x
    ofO (l1D f x) : M (List D)) S) P X := by first | (simp only [evL]; done) | (simp only [evL]; rfl)
@[simp ↓] theorem W_evL_l2 {f a b} {σ S P X} : W (evL cf (.l2 f a b) σ S) P X = W ((do
    let x ← evE cf a σ
    let y ← evE cf b σ
    let x ← view x
    let y ← view y
    ofO (l2D f x y) : M (List D)) S) P X := by first | (simp only [evL]; done) | (simp only [evL]; rfl)
@[simp ↓] theorem W_evL_split {a b} {σ S P X} : W (evL cf (.split a b) σ S) P X = W ((do
    let x ← evE cf a σ
    let z ← ofO (asS x)
    let y ← evE cf b σ
    ofO (l2D .split (.str z) y) : M (List D)) S) P X := by first | (simp only [evL]; done) | (simp only [evL]; rfl)
@[simp ↓] theorem W_evL_sl {a lo hi} {σ S P X} : W (evL cf (.sl a lo hi) σ S) P X = W ((do
    let x ← evE cf a σ
    let l ← evP cf lo σ
    let h ← evP cf hi σ
    let x ← view x
    ofO (slL x l h) : M (List D)) S) P X := by first | (simp only [evL]; done) | (simp only [evL]; rfl)
@[simp ↓] theorem W_evSrc_seq {e} {σ S P X} : W (evSrc cf (.seq e) σ S) P X = W ((do walkOf (← evE cf e σ) : M (Walked)) S) P X := by first | (simp only [evSrc]; done) | (simp only [evSrc]; rfl)
@[simp ↓] theorem W_evSrc_enum {e} {σ S P X} : W (evSrc cf (.enum e) σ S) P X = W ((do
    let (w, xs) ← walkOf (← evE cf e σ)
    Pure.pure (w, enumFrom 0 xs) : M (Walked)) S) P X := by first | (simp only [evSrc]; done) | (simp only [evSrc]; rfl)
@[simp ↓] theorem W_evSrc_zip {a b strict} {σ S P X} : W (evSrc cf (.zip a b strict) σ S) P X = W ((do
    let x ← evE cf a σ
    let y ← evE cf b σ
    let (w1, xs) ← walkOf x
    let (w2, ys) ← walkOf y
    if strict = true → xs.length = ys.length then Pure.pure (w1 ++ w2, zipD xs ys) else M.bad : M (Walked)) S) P X := by first | (simp only [evSrc]; done) | (simp only [evSrc]; rfl)
@[simp ↓] theorem W_evS_asg {t e} {σ S P X} : W (evS cf fuel (.asg t e) σ S) P X = W ((M.fl (do
    let x ← evE cf e σ
    let σ' ← ofO (bindT t x σ)
    Pure.pure (.nx σ')) σ : M (Fl)) S) P X := by first | (simp only [evS]; done) | (simp only [evS]; rfl)
@[simp ↓] theorem W_evS_par {i j a b} {σ S P X} : W (evS cf fuel (.par i j a b) σ S) P X = W ((M.fl (do
    let x ← evE cf a σ
    let y ← evE cf b σ
    Pure.pure (.nx ((σ.set i (some x)).set j (some y)))) σ : M (Fl)) S) P X := by first | (simp only [evS]; done) | (simp only [evS]; rfl)
@[simp ↓] theorem W_evS_own {i l} {σ S P X} : W (evS cf fuel (.own i l) σ S) P X = W ((M.fl (do
    let xs ← evL cf l σ
    Pure.pure (.nx (σ.set i (some (.lst xs))))) σ : M (Fl)) S) P X := by first | (simp only [evS]; done) | (simp only [evS]; rfl)
@[simp ↓] theorem W_evS_aug {i op e} {σ S P X} : W (evS cf fuel (.aug i op e) σ S) P X = W ((M.fl (do
    let x ← ofO (σ[i]?.bind id)
    let y ← evE cf e σ
    let z ← ofO (binD op x y)
    Pure.pure (.nx (σ.set i (some z)))) σ : M (Fl)) S) P X := by first | (simp only [evS]; done) | (simp only [evS]; rfl)
@[simp ↓] theorem W_evS_expr {e} {σ S P X} : W (evS cf fuel (.expr e) σ S) P X = W ((M.fl (do
    let _ ← evE cf e σ
    Pure.pure (.nx σ)) σ : M (Fl)) S) P X := by first | (simp only [evS]; done) | (simp only [evS]; rfl)
@[simp ↓] theorem W_evS_ret {e} {σ S P X} : W (evS cf fuel (.ret e) σ S) P X = W ((M.fl (do
    let x ← evE cf e σ
    Pure.pure (.rt x)) σ : M (Fl)) S) P X := by first | (simp only [evS]; done) | (simp only [evS]; rfl)
@[simp ↓] theorem W_evS_retN {σ S P X} : W (evS cf fuel .retN σ S) P X = W ((Pure.pure (.rt .non) : M (Fl)) S) P X := by first | (simp only [evS]; done) | (simp only [evS]; rfl)
@[simp ↓] theorem W_evS_ite {c a b} {σ S P X} : W (evS cf fuel (.ite c a b) σ S) P X = W ((M.fl (do
    let x ← evB (evE cf c σ)
    if x then evSs cf fuel a σ else evSs cf fuel b σ) σ : M (Fl)) S) P X := by first | (simp only [evS]; done) | (simp only [evS]; rfl)
@[simp ↓] theorem W_evS_forS {t s b} {σ S P X} : W (evS cf fuel (.forS t s b) σ S) P X = W ((M.fl (do
    let (w, xs) ← evSrc cf s σ
    forM' w (fun x σ => do
      let σ' ← ofO (bindT t x σ)
      evSs cf fuel b σ') xs σ) σ : M (Fl)) S) P X := by first | (simp only [evS]; done) | (simp only [evS]; rfl)
@[simp ↓] theorem W_evS_brk {σ S P X} : W (evS cf fuel .brk σ S) P X = W ((Pure.pure (.bk σ) : M (Fl)) S) P X := by first | (simp only [evS]; done) | (simp only [evS]; rfl)
@[simp ↓] theorem W_evS_cont {σ S P X} : W (evS cf fuel .cont σ S) P X = W ((Pure.pure (.ct σ) : M (Fl)) S) P X := by first | (simp only [evS]; done) | (simp only [evS]; rfl)
@[simp ↓] theorem W_evS_pass {σ S P X} : W (evS cf fuel .pass σ S) P X = W ((Pure.pure (.nx σ) : M (Fl)) S) P X := by first | (simp only [evS]; done) | (simp only [evS]; rfl)
@[simp ↓] theorem W_evS_never {σ S P X} : W (evS cf fuel .never σ S) P X = W ((M.bad : M (Fl)) S) P X := by first | (simp only [evS]; done) | (simp only [evS]; rfl)
@[simp ↓] theorem W_evS_oapp {i e} {σ S P X} : W (evS cf fuel (.oapp i e) σ S) P X = W ((M.fl (do
    let y ← evE cf e σ
    match σ[i]?.bind id with
    | some (.lst xs) => if xs.length < line then Pure.pure (.nx (σ.set i (some (.lst (xs ++ [y]))))) else M.bad
    | _ => M.bad) σ : M (Fl)) S) P X := by first | (simp only [evS]; done) | (simp only [evS]; rfl)
@[simp ↓] theorem W_evS_setI {a i e} {σ S P X} : W (evS cf fuel (.setI a i e) σ S) P X = W ((M.fl (do
    let z ← evE cf e σ
    let x ← evE cf a σ
    let y ← evE cf i σ
    setM x y z
    Pure.pure (.nx σ)) σ : M (Fl)) S) P X := by first | (simp only [evS]; done) | (simp only [evS]; rfl)
@[simp ↓] theorem W_evS_asg2 {a i b j e} {σ S P X} : W (evS cf fuel (.asg2 a i b j e) σ S) P X = W ((M.fl (do
    let z ← evE cf e σ
    let q ← ofO (twoD z)
    let x ← evE cf a σ
    let y ← evE cf i σ
    setM x y q.1
    let x ← evE cf b σ
    let y ← evE cf j σ
    setM x y q.2
    Pure.pure (.nx σ)) σ : M (Fl)) S) P X := by first | (simp only [evS]; done) | (simp only [evS]; rfl)
@[simp ↓] theorem W_evS_raise {c fids es} {σ S P X} : W (evS cf fuel (.raise c fids es) σ S) P X = W ((M.fl (do
    let ds ← evEs cf es σ
    M.throw ⟨c, fids.zip ds⟩) σ : M (Fl)) S) P X := by first | (simp only [evS]; done) | (simp only [evS]; rfl)
@[simp ↓] theorem W_evS_tryR {b hs} {σ S P X} : W (evS cf fuel (.tryR b hs) σ S) P X = W ((do
    match (← evSs cf fuel b σ) with
    | .ex x σ' => hdl x σ' hs
    | f => Pure.pure f : M (Fl)) S) P X := by first | (simp only [evS]; done) | (simp only [evS]; rfl)
end
/-! ### loops -/
@[simp] theorem holdsG_nil {S} : holdsG S [] = true := rfl
@[simp ↓] theorem W_stays {w S P X} : W (stays w S) P X = (holdsG S w = true ∧ P () S) := by
  unfold stays
  cases h : holdsG S w <;> simp [W]
/-- where a turn of a loop ends -/
def turnP (I : Env → DS → Prop) (P : Fl → DS → Prop) (fl : Fl) (S : DS) : Prop := match fl with
  | .nx σ => I σ S
  | .ct σ => I σ S
  | .bk σ => P (.nx σ) S
  | .rt d => P (.rt d) S
  | .ex x σ => P (.ex x σ) S
section
variable {I : Env → DS → Prop} {P : Fl → DS → Prop} {S : DS}
@[simp ↓] theorem turnP_nx {σ} : turnP I P (.nx σ) S = I σ S := rfl
@[simp ↓] theorem turnP_ct {σ} : turnP I P (.ct σ) S = I σ S := rfl
@[simp ↓] theorem turnP_bk {σ} : turnP I P (.bk σ) S = P (.nx σ) S := rfl
@[simp ↓] theorem turnP_rt {σ} : turnP I P (.rt σ) S = P (.rt σ) S := rfl
@[simp ↓] theorem turnP_ex {x σ} : turnP I P (.ex x σ) S = P (.ex x σ) S := rfl
end
/-- a for loop by what holds ahead of the items that are left -/
theorem W_for {w : Guard} {f : D → Env → M Fl} {P : Fl → DS → Prop} {X : Exc → DS → Prop} (I : List D → Env → DS → Prop) {xs : List D} {σ : Env} {S : DS} (h0 : I xs σ S)
    (hw : ∀ ys σ S, I ys σ S → holdsG S w = true)
    (hs : ∀ y ys σ S, I (y :: ys) σ S → W (f y σ S) (turnP (I ys) P) X) (he : ∀ σ S, I [] σ S → P (.nx σ) S) : W (forM' w f xs σ S) P X := by
  induction xs generalizing σ S with
  | nil => simp only [forM', W_bind, W_stays, W_pure]; exact ⟨hw _ _ _ h0, he _ _ h0⟩
  | cons y ys ih =>
    simp only [forM', W_bind, W_stays]
    refine ⟨hw _ _ _ h0, (hs y ys σ S h0).imp fun fl S' q => ?_⟩
    cases fl with
    | nx σ' => exact ih q
    | ct σ' => exact ih q
    | bk σ' => exact q
    | rt d => exact q
    | ex x σ' => exact q
/-- a while loop by a measure -/
theorem W_while {c : Env → M Bool} {f : Env → M Fl} {P : Fl → DS → Prop} {X : Exc → DS → Prop} (I : Nat → Env → DS → Prop)
    (hs : ∀ n σ S, I n σ S → W (c σ S) (fun b S' => if b = true then ∃ m, n = m + 1 ∧ W (f σ S') (turnP (fun σ' S'' => ∃ j, j ≤ m ∧ I j σ' S'') P) (fun x S'' => P (.ex x σ) S'') else P (.nx σ) S') (fun x S' => P (.ex x σ) S')) :
    ∀ (n : Nat) (fuel : Nat) (σ : Env) (S : DS), I n σ S → n < fuel → W (whileM c f fuel σ S) P X
  | n, 0, σ, S, _, h => absurd h (Nat.not_lt_zero _)
  | n, fuel + 1, σ, S, h, hf => by
    unfold whileM
    rw [W_fl, W_bind]
    refine (hs n σ S h).imp fun b S' q => ?_
    rw [W_ite]
    cases b with
    | false => simpa using q
    | true =>
      simp only [↓reduceIte] at q ⊢
      obtain ⟨m, rfl, q⟩ := q
      rw [W_bind]
      refine q.imp fun fl S'' q => ?_
      cases fl with
      | nx σ' =>
        obtain ⟨j, hj, q⟩ := q
        exact (W_while I hs j fuel σ' S'' q (by omega)).mono (fun _ _ q => q) (fun _ _ q => q)
      | ct σ' =>
        obtain ⟨j, hj, q⟩ := q
        exact (W_while I hs j fuel σ' S'' q (by omega)).mono (fun _ _ q => q) (fun _ _ q => q)
      | bk σ' => exact q
      | rt d => exact q
      | ex x σ' => exact q
/-- a comprehension by what holds of what is found ahead of the items that are left -/
theorem W_comp {w : Guard} {f : D → List D → M (List D)} {P : List D → DS → Prop} {X : Exc → DS → Prop} (I : List D → List D → DS → Prop) {xs acc : List D} {S : DS} (h0 : I xs acc S)
    (hl : acc.length + xs.length ≤ line) (hw : ∀ ys acc S, I ys acc S → holdsG S w = true)
    (hs : ∀ y ys acc S, I (y :: ys) acc S → acc.length < line → W (f y acc S) (fun a S' => I ys a S' ∧ a.length ≤ acc.length + 1) X) (he : ∀ acc S, I [] acc S → P acc S) : W (compM w f xs acc S) P X := by
  induction xs generalizing acc S with
  | nil => simp only [compM, W_bind, W_stays, W_pure]; exact ⟨hw _ _ _ h0, he _ _ h0⟩
  | cons y ys ih =>
    simp only [List.length_cons] at hl
    simp only [compM, W_bind, W_stays]
    refine ⟨hw _ _ _ h0, (hs y ys acc S h0 (by omega)).imp fun a S' q => ih q.1 (by omega)⟩
/-- without writing -/
theorem W_comp_flat {w : Guard} {f : D → List D → M (List D)} {P : List D → DS → Prop} {X : Exc → DS → Prop} (g : D → List D) {xs : List D} {S : DS} (hl : xs.length ≤ line) (hw : holdsG S w = true) (hg : ∀ x ∈ xs, (g x).length ≤ 1)
    (hs : ∀ x ∈ xs, ∀ acc : List D, acc.length < line → W (f x acc S) (fun a S' => a = acc ++ g x ∧ S' = S) X) (he : P (xs.flatMap g) S) : W (compM w f xs [] S) P X := by
  refine W_comp (fun ys acc S' => S' = S ∧ (∀ y ∈ ys, y ∈ xs) ∧ acc ++ ys.flatMap g = xs.flatMap g) ⟨rfl, fun _ h => h, rfl⟩ (by simpa using hl) (fun ys acc S' h => by rw [h.1]; exact hw) (fun y ys acc S' h hl => ?_) (fun acc S' h => ?_)
  · obtain ⟨rfl, h1, h2⟩ := h
    have hy := h1 y (List.mem_cons_self ..)
    refine (hs y hy acc hl).imp fun a S'' q => ?_
    obtain ⟨rfl, rfl⟩ := q
    have := hg y hy
    refine ⟨⟨rfl, fun z hz => h1 z (List.mem_cons_of_mem _ hz), ?_⟩, by simp only [List.length_append]; omega⟩
    rw [← h2, List.flatMap_cons, List.append_assoc]
  · obtain ⟨rfl, _, h⟩ := h
    simp only [List.flatMap_nil, List.append_nil] at h
    rw [h]
    exact he
theorem flatMap_one' {α : Type} (g : D → α) : ∀ xs : List D, xs.flatMap (fun x => [g x]) = xs.map g
  | [] => rfl
  | x :: xs => by rw [List.flatMap_cons, flatMap_one' g xs]; rfl
theorem W_comp_map {w : Guard} {f : D → List D → M (List D)} {P : List D → DS → Prop} {X : Exc → DS → Prop} (g : D → D) {xs : List D} {S : DS} (hl : xs.length ≤ line) (hw : holdsG S w = true)
    (hs : ∀ x ∈ xs, ∀ acc : List D, acc.length < line → W (f x acc S) (fun a S' => a = acc ++ [g x] ∧ S' = S) X) (he : P (xs.map g) S) : W (compM w f xs [] S) P X :=
  W_comp_flat (fun x => [g x]) hl hw (fun _ _ => Nat.le_refl _) hs (by rw [flatMap_one']; exact he)
theorem W_comp_filter {w : Guard} {f : D → List D → M (List D)} {P : List D → DS → Prop} {X : Exc → DS → Prop} (p : D → Bool) {xs : List D} {S : DS} (hl : xs.length ≤ line) (hw : holdsG S w = true)
    (hs : ∀ x ∈ xs, ∀ acc : List D, acc.length < line → W (f x acc S) (fun a S' => a = acc ++ (if p x = true then [x] else []) ∧ S' = S) X) (he : P (xs.filter p) S) : W (compM w f xs [] S) P X := by
  refine W_comp_flat (fun x => if p x = true then [x] else []) hl hw (fun x _ => by split <;> simp) hs ?_
  have e : xs.flatMap (fun x => if p x = true then [x] else []) = xs.filter p := by
    clear hs he hl
    induction xs with
    | nil => rfl
    | cons x xs ih =>
      rw [List.flatMap_cons, ih, List.filter_cons]
      split <;> simp
  rw [e]
  exact he
@[simp ↓] theorem W_put1 {acc y S P X} : W (put1 acc y S) P X = (acc.length < line ∧ P (acc ++ [y]) S) := by
  unfold put1
  by_cases h : acc.length < line
  · rw [if_pos h]; simp [h, W, Pure.pure, M.pure]
  · rw [if_neg h]; simp [h, W, M.bad]
/-! ### sources -/
@[simp] theorem walkOf_tup {xs S} : walkOf (.tup xs) S = .ok ([], xs) S := rfl
@[simp] theorem walkOf_lst {xs S} : walkOf (.lst xs) S = .ok ([], xs) S := rfl
@[simp] theorem walkOf_str {xs S} : walkOf (.str xs) S = .ok ([], signs xs) S := rfl
theorem walkOf_rf {n : Nat} {S : DS} {xs : List D} (h : S[n]? = some (.lst xs)) : walkOf (.ref n) S = .ok ([(n, xs)], xs) S := by
  show (match S[n]? with | some (.lst xs) => _ | _ => _) = _
  rw [h]
@[simp] theorem holdsG_one {S n xs} : holdsG S [(n, xs)] = decide (S[n]? = some (.lst xs)) := by simp [holdsG]
/-! ### operations -/
@[simp] theorem add_int {i j} : binD .add (.int i) (.int j) = some (.int (i + j)) := rfl
@[simp] theorem sub_int {i j} : binD .sub (.int i) (.int j) = some (.int (i - j)) := rfl
theorem add_str {x y} (h : x.length + y.length ≤ line) : binD .add (.str x) (.str y) = some (.str (x ++ y)) := if_pos h
theorem add_tup {x y} (h : x.length + y.length ≤ line) : binD .add (.tup x) (.tup y) = some (.tup (x ++ y)) := if_pos h
theorem add_lst {x y} (h : x.length + y.length ≤ line) : binD .add (.lst x) (.lst y) = some (.lst (x ++ y)) := if_pos h
@[simp] theorem lt_int {i j} : cmpD .lt (.int i) (.int j) = some (decide (i < j)) := rfl
@[simp] theorem le_int {i j} : cmpD .le (.int i) (.int j) = some (decide (i ≤ j)) := rfl
@[simp] theorem gt_int {i j} : cmpD .gt (.int i) (.int j) = some (decide (j < i)) := rfl
@[simp] theorem ge_int {i j} : cmpD .ge (.int i) (.int j) = some (decide (j ≤ i)) := rfl
@[simp] theorem eq_int {i j} : cmpD .eq (.int i) (.int j) = some (decide (i = j)) := by
  show eqD _ _ = _
  unfold eqD
  simp only [D.shp, Bool.and_self, if_true, eqv]
  congr 1
@[simp] theorem ne_int {i j} : cmpD .ne (.int i) (.int j) = some (!decide (i = j)) := by
  have h := @eq_int i j
  have h' : eqD (.int i) (.int j) = some (decide (i = j)) := h
  have h2 : cmpD .ne (.int i) (.int j) = (eqD (.int i) (.int j)).map (!·) := rfl
  rw [h2, h']
  rfl
@[simp] theorem asB_bl {b} : asB (.bl b) = some b := rfl
@[simp] theorem asS_str {b} : asS (.str b) = some b := rfl
@[simp] theorem isN_non : cmpD .isN .non .non = some true := rfl
@[simp] theorem isN_d {d} : cmpD .isN d .non = some (decide (d = .non)) := by cases d <;> rfl
@[simp] theorem notN_d {d} : cmpD .notN d .non = some (!decide (d = .non)) := by cases d <;> rfl
@[simp] theorem lt_str {i j} : cmpD .lt (.str i) (.str j) = some (strLt i j) := rfl
@[simp] theorem le_str {i j} : cmpD .le (.str i) (.str j) = some (!strLt j i) := rfl
@[simp] theorem gt_str {i j} : cmpD .gt (.str i) (.str j) = some (strLt j i) := rfl
@[simp] theorem ge_str {i j} : cmpD .ge (.str i) (.str j) = some (!strLt i j) := rfl
@[simp] theorem len_tup {s} : b1D .len (.tup s) = some (.int s.length) := rfl
@[simp] theorem len_lst {s} : b1D .len (.lst s) = some (.int s.length) := rfl
theorem len_str {s : List Nat} (h : s.length ≤ line) : b1D .len (.str s) = some (.int s.length) := if_pos h
@[simp] theorem int_int {s} : b1D .int (.int s) = some (.int s) := rfl
@[simp] theorem tuple_lst {s} : b1D .tuple (.lst s) = some (.tup s) := rfl
@[simp] theorem tuple_tup {s} : b1D .tuple (.tup s) = some (.tup s) := rfl
@[simp] theorem str_str {s} : b1D .str (.str s) = some (.str s) := rfl
theorem boolsOf_map {α : Type} (p : α → Bool) : ∀ xs : List α, boolsOf (xs.map fun x => .bl (p x)) = some (xs.map p)
  | [] => rfl
  | x :: xs => by simp [boolsOf, boolsOf_map p xs]
theorem all_map {α : Type} (p : α → Bool) (xs : List α) : b1D .all (.lst (xs.map fun x => .bl (p x))) = some (.bl (xs.all p)) := by
  show (boolsOf _).map _ = _
  rw [boolsOf_map]
  simp
theorem any_map {α : Type} (p : α → Bool) (xs : List α) : b1D .any (.lst (xs.map fun x => .bl (p x))) = some (.bl (xs.any p)) := by
  show (boolsOf _).map _ = _
  rw [boolsOf_map]
  simp
theorem strsOf_map' : ∀ zs : List (List Nat), strsOf (zs.map .str) = some zs
  | [] => rfl
  | z :: zs => by simp [strsOf, strsOf_map' zs]
theorem strsOf_mapf {α : Type} (f : α → List Nat) (zs : List α) : strsOf (zs.map fun x => .str (f x)) = some (zs.map f) := by
  have := strsOf_map' (zs.map f)
  rwa [List.map_map] at this
theorem intsOf_map' : ∀ zs : List Int, intsOf (zs.map .int) = some zs
  | [] => rfl
  | z :: zs => by simp [intsOf, intsOf_map' zs]
theorem join_lst {x : List Nat} {zs : List (List Nat)} (h : (zs.map (·.length)).sum + zs.length * x.length ≤ line) : b2D .join (.str x) (.lst (zs.map .str)) = some (.str (joinBy x zs)) := by
  simp only [b2D, strsOf_map', Option.bind_some]
  rw [if_pos h]
theorem len_upto' : ∀ (n : Nat) (lo : Int), (upto lo n).length = n
  | 0, _ => rfl
  | n + 1, lo => by simp [upto, len_upto' n]
@[simp] theorem bindT_nm {i d} {σ : Env} : bindT (.nm i) d σ = some (σ.set i (some d)) := by simp only [bindT]
@[simp] theorem bindT_tp {ts ds} {σ : Env} : bindT (.tp ts) (.tup ds) σ = bindTs ts ds σ := by simp only [bindT]
@[simp] theorem bindTs_nil {σ : Env} : bindTs [] [] σ = some σ := by simp only [bindTs]
@[simp] theorem bindTs_cons {t ts d ds} {σ : Env} : bindTs (t :: ts) (d :: ds) σ = (bindT t d σ).bind (bindTs ts ds) := by simp only [bindTs]
@[simp] theorem wipeD_nil {σ : Env} : wipeD σ [] = σ := rfl
@[simp] theorem wipeD_cons {v vs} {σ : Env} : wipeD σ (v :: vs) = (wipeD σ vs).set v none := rfl
/-! ### data without bools -/
mutual
/-- no bools, no references, code points alone, nested at most n deep -/
def D.pl : Nat → D → Bool
  | _, .non => true
  | _, .bl _ => false
  | _, .int _ => true
  | _, .str s => s.all (· < 0x110000)
  | 0, .tup xs => xs.isEmpty
  | n + 1, .tup xs => D.pls n xs
  | 0, .lst xs => xs.isEmpty
  | n + 1, .lst xs => D.pls n xs
  | _, .ref _ => false
def D.pls : Nat → List D → Bool
  | _, [] => true
  | n, x :: xs => D.pl n x && D.pls n xs
end
mutual
theorem D.pl_shp : ∀ (n : Nat) (d : D), D.pl n d = true → D.shp n d = true
  | _, .non, _ => by simp [D.shp]
  | _, .bl _, h => by simp [D.pl] at h
  | _, .int _, _ => by simp [D.shp]
  | _, .str s, h => by simpa [D.shp, D.pl] using h
  | 0, .tup xs, h => by simpa [D.shp, D.pl] using h
  | n + 1, .tup xs, h => by simp only [D.shp, D.pl] at *; exact D.pls_shps n xs h
  | 0, .lst xs, h => by simpa [D.shp, D.pl] using h
  | n + 1, .lst xs, h => by simp only [D.shp, D.pl] at *; exact D.pls_shps n xs h
  | _, .ref _, h => by simp [D.pl] at h
theorem D.pls_shps : ∀ (n : Nat) (ds : List D), D.pls n ds = true → D.shps n ds = true
  | _, [], _ => by simp [D.shps]
  | n, x :: xs, h => by
    simp only [D.pls, D.shps, Bool.and_eq_true] at *
    exact ⟨D.pl_shp n x h.1, D.pls_shps n xs h.2⟩
end
theorem D.pls_any (n m : Nat) : D.pls n [] = D.pls m [] := by simp [D.pls]
theorem pl_tup {n : Nat} {xs : List D} (h : D.pl n (.tup xs) = true) : D.pls (n - 1) xs = true := by
  cases n with
  | zero =>
    have : xs = [] := by simpa [D.pl] using h
    subst this
    simp [D.pls]
  | succ n => simpa [D.pl] using h
theorem pl_lst {n : Nat} {xs : List D} (h : D.pl n (.lst xs) = true) : D.pls (n - 1) xs = true := by
  cases n with
  | zero =>
    have : xs = [] := by simpa [D.pl] using h
    subst this
    simp [D.pls]
  | succ n => simpa [D.pl] using h
mutual
theorem eqv_pl : ∀ (a : D) (n m : Nat) (b : D), D.pl n a = true → D.pl m b = true → eqv a b = decide (a = b)
  | .non, n, m, b, ha, hb => by cases b <;> simp_all [eqv, D.pl]
  | .bl _, n, m, b, ha, hb => by simp [D.pl] at ha
  | .int i, n, m, b, ha, hb => by
    cases b with
    | int j => simp only [eqv, D.int.injEq]; rfl
    | bl _ => simp [D.pl] at hb
    | _ => simp [eqv]
  | .str s, n, m, b, ha, hb => by cases b <;> simp_all [eqv, D.pl]
  | .ref _, n, m, b, ha, hb => by simp [D.pl] at ha
  | .tup xs, n, m, b, ha, hb => by
    cases b with
    | tup ys => simp only [eqv, D.tup.injEq, eqvs_pl xs (n - 1) (m - 1) ys (pl_tup ha) (pl_tup hb)]
    | _ => simp [eqv]
  | .lst xs, n, m, b, ha, hb => by
    cases b with
    | lst ys => simp only [eqv, D.lst.injEq, eqvs_pl xs (n - 1) (m - 1) ys (pl_lst ha) (pl_lst hb)]
    | _ => simp [eqv]
theorem eqvs_pl : ∀ (as : List D) (n m : Nat) (bs : List D), D.pls n as = true → D.pls m bs = true → eqvs as bs = decide (as = bs)
  | [], n, m, [], _, _ => by simp [eqvs]
  | [], n, m, b :: bs, _, _ => by simp [eqvs]
  | a :: as, n, m, [], _, _ => by simp [eqvs]
  | a :: as, n, m, b :: bs, ha, hb => by
    simp only [D.pls, Bool.and_eq_true] at ha hb
    simp only [eqvs, eqv_pl a n m b ha.1 hb.1, eqvs_pl as n m bs ha.2 hb.2, List.cons.injEq]
    by_cases h1 : a = b <;> by_cases h2 : as = bs <;> simp [h1, h2]
end
theorem eq_pl {a b : D} (ha : D.pl 60 a = true) (hb : D.pl 60 b = true) : cmpD .eq a b = some (decide (a = b)) := by
  have h : cmpD .eq a b = eqD a b := by cases a <;> cases b <;> rfl
  rw [h]
  unfold eqD
  rw [D.pl_shp _ _ ha, D.pl_shp _ _ hb, eqv_pl a 60 60 b ha hb]
  rfl
theorem ne_pl {a b : D} (ha : D.pl 60 a = true) (hb : D.pl 60 b = true) : cmpD .ne a b = some (!decide (a = b)) := by
  have h : cmpD .ne a b = (eqD a b).map (!·) := by cases a <;> cases b <;> rfl
  have h2 : eqD a b = some (decide (a = b)) := by
    have h : cmpD .eq a b = eqD a b := by cases a <;> cases b <;> rfl
    rw [← h]
    exact eq_pl ha hb
  rw [h, h2]
  rfl
/-! ### exceptions -/
@[simp ↓] theorem W_throw {α : Type} {x : Exc} {S : DS} {P : α → DS → Prop} {X} : W ((M.throw x : M α) S) P X = X x S := rfl
@[simp ↓] theorem W_hdl_nil {x σ S P X} : W (hdl x σ [] S) P X = P (.ex x σ) S := rfl
@[simp ↓] theorem W_hdl_cons {x σ c r t S P X} : W (hdl x σ ((c, r) :: t) S) P X = if c = x.c then W ((do let d ← ofO (hrD x r); Pure.pure (.rt d) : M Fl) S) P X else W (hdl x σ t S) P X := by
  rw [hdl, W_ite]
@[simp] theorem hrD_one {x h} : hrD x (.one h) = hxD x h := rfl
@[simp] theorem hrD_tup {x hs} : hrD x (.tup hs) = (hxDs x hs).map .tup := rfl
@[simp] theorem hxDs_nil {x} : hxDs x [] = some [] := rfl
@[simp] theorem hxDs_cons {x h hs} : hxDs x (h :: hs) = (hxD x h).bind fun d => (hxDs x hs).map (d :: ·) := rfl
@[simp] theorem hxD_con {x d} : hxD x (.con d) = some d := rfl
@[simp] theorem hxD_fld {c fs f} : hxD ⟨c, fs⟩ (.fld f) = fs.lookup f := rfl
@[simp] theorem twoD_two {a b} : twoD (.tup [a, b]) = some (a, b) := rfl
end MP
end
section
set_option Elab.async false
set_option linter.all false
set_option maxRecDepth 100000
set_option maxHeartbeats 4000000
/-! MRB: loops over typed items; slices, items, texts -/
namespace MP
section
variable {α : Type} {w : Guard} {X : Exc → DS → Prop}
/-- a comprehension over typed items that writes nothing -/
theorem W_flatT {f : D → List D → M (List D)} {P : List D → DS → Prop} (ys : List α) (h : α → D) (g : α → List D) {xs : List D} {S : DS} (hx : xs = ys.map h) (hl : ys.length ≤ line) (hw : holdsG S w = true) (hg : ∀ y, (g y).length ≤ 1)
    (hs : ∀ y ∈ ys, ∀ acc : List D, acc.length < line → W (f (h y) acc S) (fun a S' => a = acc ++ g y ∧ S' = S) X) (he : P (ys.flatMap g) S) : W (compM w f xs [] S) P X := by
  subst hx
  refine W_comp (fun zs acc S' => S' = S ∧ ∃ us, zs = us.map h ∧ (∀ y ∈ us, y ∈ ys) ∧ acc ++ us.flatMap g = ys.flatMap g) ⟨rfl, ys, rfl, fun _ h => h, rfl⟩ (by simpa using hl) (fun ys acc S' h => by rw [h.1]; exact hw) (fun z zs acc S' hI hl => ?_) (fun acc S' h => ?_)
  · obtain ⟨rfl, us, hz, h1, h2⟩ := hI
    cases us with
    | nil => cases hz
    | cons u us =>
      simp only [List.map_cons, List.cons.injEq] at hz
      obtain ⟨rfl, rfl⟩ := hz
      have hy := h1 u (List.mem_cons_self ..)
      refine (hs u hy acc hl).imp fun a S'' q => ?_
      obtain ⟨rfl, rfl⟩ := q
      have := hg u
      refine ⟨⟨rfl, us, rfl, fun z hz => h1 z (List.mem_cons_of_mem _ hz), ?_⟩, by simp only [List.length_append]; omega⟩
      rw [← h2, List.flatMap_cons, List.append_assoc]
  · obtain ⟨rfl, us, hz, _, h⟩ := h
    cases us with
    | cons u us => cases hz
    | nil =>
      simp only [List.flatMap_nil, List.append_nil] at h
      rw [h]
      exact he
theorem flatMap_sing {β : Type} (g : α → β) : ∀ xs : List α, xs.flatMap (fun x => [g x]) = xs.map g
  | [] => rfl
  | x :: xs => by rw [List.flatMap_cons, flatMap_sing g xs]; rfl
theorem W_mapT {f : D → List D → M (List D)} {P : List D → DS → Prop} (ys : List α) (h : α → D) (g : α → D) {xs : List D} {S : DS} (hx : xs = ys.map h) (hl : ys.length ≤ line) (hw : holdsG S w = true)
    (hs : ∀ y ∈ ys, ∀ acc : List D, acc.length < line → W (f (h y) acc S) (fun a S' => a = acc ++ [g y] ∧ S' = S) X) (he : P (ys.map g) S) : W (compM w f xs [] S) P X :=
  W_flatT ys h (fun y => [g y]) hx hl hw (fun _ => Nat.le_refl _) hs (by rw [flatMap_sing]; exact he)
theorem flatMap_filt {β : Type} (p : α → Bool) (g : α → β) : ∀ xs : List α, xs.flatMap (fun x => if p x = true then [g x] else []) = (xs.filter p).map g
  | [] => rfl
  | x :: xs => by
    rw [List.flatMap_cons, flatMap_filt p g xs, List.filter_cons]
    split <;> simp
theorem W_filterT {f : D → List D → M (List D)} {P : List D → DS → Prop} (ys : List α) (h : α → D) (p : α → Bool) (g : α → D) {xs : List D} {S : DS} (hx : xs = ys.map h) (hl : ys.length ≤ line) (hw : holdsG S w = true)
    (hs : ∀ y ∈ ys, ∀ acc : List D, acc.length < line → W (f (h y) acc S) (fun a S' => a = acc ++ (if p y = true then [g y] else []) ∧ S' = S) X) (he : P ((ys.filter p).map g) S) : W (compM w f xs [] S) P X :=
  W_flatT ys h (fun y => if p y = true then [g y] else []) hx hl hw (fun y => by split <;> simp) hs (by rw [flatMap_filt]; exact he)
/-- a comprehension over typed items that writes -/
theorem W_compT {f : D → List D → M (List D)} {P : List D → DS → Prop} (ys : List α) (h : α → D) (I : List α → List D → DS → Prop) {xs : List D} {S : DS} (hx : xs = ys.map h) (h0 : I ys [] S) (hl : ys.length ≤ line)
    (hw : ∀ ys acc S, I ys acc S → holdsG S w = true)
    (hs : ∀ y ys acc S, I (y :: ys) acc S → acc.length < line → W (f (h y) acc S) (fun a S' => I ys a S' ∧ a.length ≤ acc.length + 1) X) (he : ∀ acc S, I [] acc S → P acc S) : W (compM w f xs [] S) P X := by
  subst hx
  refine W_comp (fun zs acc S' => ∃ us, zs = us.map h ∧ I us acc S') ⟨ys, rfl, h0⟩ (by simpa using hl) (fun zs acc S' ⟨us, _, q⟩ => hw us acc S' q) (fun z zs acc S' hI hl => ?_) (fun acc S' hI => ?_)
  · obtain ⟨us, hz, q⟩ := hI
    cases us with
    | nil => cases hz
    | cons u us =>
      simp only [List.map_cons, List.cons.injEq] at hz
      obtain ⟨rfl, rfl⟩ := hz
      exact (hs u us acc S' q hl).imp fun a S'' q => ⟨⟨us, rfl, q.1⟩, q.2⟩
  · obtain ⟨us, hz, q⟩ := hI
    cases us with
    | cons u us => cases hz
    | nil => exact he acc S' q
/-- a for loop over typed items -/
theorem W_forT {f : D → Env → M Fl} {P : Fl → DS → Prop} (ys : List α) (h : α → D) (I : List α → Env → DS → Prop) {xs : List D} {σ : Env} {S : DS} (hx : xs = ys.map h) (h0 : I ys σ S)
    (hw : ∀ ys σ S, I ys σ S → holdsG S w = true)
    (hs : ∀ y ys σ S, I (y :: ys) σ S → W (f (h y) σ S) (turnP (I ys) P) X) (he : ∀ σ S, I [] σ S → P (.nx σ) S) : W (forM' w f xs σ S) P X := by
  subst hx
  refine W_for (fun zs σ S' => ∃ us, zs = us.map h ∧ I us σ S') ⟨ys, rfl, h0⟩ (fun zs σ S' ⟨us, _, q⟩ => hw us σ S' q) (fun z zs σ S' hI => ?_) (fun σ S' hI => ?_)
  · obtain ⟨us, hz, q⟩ := hI
    cases us with
    | nil => cases hz
    | cons u us =>
      simp only [List.map_cons, List.cons.injEq] at hz
      obtain ⟨rfl, rfl⟩ := hz
      refine (hs u us σ S' q).imp fun fl S'' q => ?_
      cases fl with
      | nx σ' => exact ⟨us, rfl, q⟩
      | ct σ' => exact ⟨us, rfl, q⟩
      | _ => exact q
  · obtain ⟨us, hz, q⟩ := hI
    cases us with
    | cons u us => cases hz
    | nil => exact he σ S' q
/-- numbered -/
theorem W_forE {f : D → Env → M Fl} {P : Fl → DS → Prop} (ys : List α) (h : α → D) (I : Int → List α → Env → DS → Prop) {xs : List D} {σ : Env} {S : DS} {j0 : Int} (hx : xs = enumFrom j0 (ys.map h)) (h0 : I j0 ys σ S)
    (hw : ∀ j ys σ S, I j ys σ S → holdsG S w = true)
    (hs : ∀ j y ys σ S, I j (y :: ys) σ S → W (f (.tup [.int j, h y]) σ S) (turnP (I (j + 1) ys) P) X) (he : ∀ j σ S, I j [] σ S → P (.nx σ) S) : W (forM' w f xs σ S) P X := by
  subst hx
  refine W_for (fun zs σ S' => ∃ j us, zs = enumFrom j (us.map h) ∧ I j us σ S') ⟨j0, ys, rfl, h0⟩ (fun zs σ S' ⟨j, us, _, q⟩ => hw j us σ S' q) (fun z zs σ S' hI => ?_) (fun σ S' hI => ?_)
  · obtain ⟨j, us, hz, q⟩ := hI
    cases us with
    | nil => cases hz
    | cons u us =>
      simp only [List.map_cons, enumFrom, List.cons.injEq] at hz
      obtain ⟨rfl, rfl⟩ := hz
      refine (hs j u us σ S' q).imp fun fl S'' q => ?_
      cases fl with
      | nx σ' => exact ⟨_, us, rfl, q⟩
      | ct σ' => exact ⟨_, us, rfl, q⟩
      | _ => exact q
  · obtain ⟨j, us, hz, q⟩ := hI
    cases us with
    | cons u us => cases hz
    | nil => exact he j σ S' q
end
/-! ### neighbours -/
def pairsOf {α : Type} : List α → List (α × α)
  | a :: b :: r => (a, b) :: pairsOf (b :: r)
  | _ => []
/-- each stands in r to the next one -/
def ascB {α : Type} (r : α → α → Bool) (xs : List α) : Bool := (pairsOf xs).all fun p => r p.1 p.2
theorem pairsOf_map {α β : Type} (f : α → β) : ∀ xs : List α, pairsOf (xs.map f) = (pairsOf xs).map fun p => (f p.1, f p.2)
  | [] => rfl
  | [_] => rfl
  | a :: b :: r => by
    have := pairsOf_map f (b :: r)
    simp only [List.map_cons] at this ⊢
    simp only [pairsOf, List.map_cons, this]
theorem zip_pairs : ∀ xs : List D, zipD xs.dropLast xs.tail = (pairsOf xs).map fun p => .tup [p.1, p.2]
  | [] => rfl
  | [_] => rfl
  | a :: b :: r => by
    have := zip_pairs (b :: r)
    simp only [List.tail_cons] at this ⊢
    simp only [List.dropLast_cons₂, zipD, pairsOf, List.map_cons, this]
theorem pairs_len {α : Type} : ∀ xs : List α, (pairsOf xs).length = xs.length - 1
  | [] => rfl
  | [_] => rfl
  | a :: b :: r => by
    have := pairs_len (b :: r)
    simp only [pairsOf, List.length_cons] at this ⊢
    omega
/-- strictly ascending -/
theorem ascB_pairwise {α : Type} {r : α → α → Bool} (ht : ∀ a b c, r a b = true → r b c = true → r a c = true) : ∀ xs : List α, ascB r xs = true ↔ xs.Pairwise fun a b => r a b = true
  | [] => by simp [ascB, pairsOf]
  | [_] => by simp [ascB, pairsOf]
  | a :: b :: s => by
    have ih := ascB_pairwise ht (b :: s)
    simp only [ascB, pairsOf, List.all_cons, Bool.and_eq_true] at ih ⊢
    rw [ih]
    constructor
    · rintro ⟨h1, h2⟩
      refine List.pairwise_cons.mpr ⟨fun c hc => ?_, h2⟩
      rcases List.mem_cons.mp hc with rfl | hc
      · exact h1
      · exact ht _ _ _ h1 ((List.pairwise_cons.mp h2).1 c hc)
    · intro h
      obtain ⟨h1, h2⟩ := List.pairwise_cons.mp h
      exact ⟨h1 b (List.mem_cons_self ..), h2⟩
/-! ### slices and items -/
@[simp] theorem cut_nn {α : Type} (xs : List α) : cut xs .non .non = some xs := rfl
@[simp] theorem six_neg1 (n : Nat) : six n (-1) = n - 1 := by
  unfold six
  rw [if_pos (by decide)]
  omega
theorem six_nat (n k : Nat) : six n (k : Int) = min n k := by
  unfold six
  rw [if_neg (by omega)]
  omega
@[simp] theorem cut_init {α : Type} (xs : List α) : cut xs .non (.int (-1)) = some xs.dropLast := by
  show some (xs.take (six xs.length (-1))) = _
  rw [six_neg1, List.dropLast_eq_take]
theorem min_drop {α : Type} (xs : List α) (k : Nat) : xs.drop (min xs.length k) = xs.drop k := by
  by_cases h : xs.length ≤ k
  · rw [Nat.min_eq_left h, List.drop_eq_nil_of_le h, List.drop_eq_nil_of_le (Nat.le_refl _)]
  · rw [Nat.min_eq_right (by omega)]
theorem min_take {α : Type} (xs : List α) (k : Nat) : xs.take (min xs.length k) = xs.take k := by
  by_cases h : xs.length ≤ k
  · rw [Nat.min_eq_left h, List.take_of_length_le h, List.take_of_length_le (Nat.le_refl _)]
  · rw [Nat.min_eq_right (by omega)]
@[simp] theorem cut_tail {α : Type} (xs : List α) : cut xs (.int 1) .non = some xs.tail := by
  show some (xs.drop (six xs.length ((1 : Nat) : Int))) = _
  rw [six_nat, min_drop, List.drop_one]
theorem cut_from {α : Type} (xs : List α) (k : Nat) : cut xs (.int k) .non = some (xs.drop k) := by
  show some (xs.drop (six xs.length (k : Int))) = _
  rw [six_nat, min_drop]
theorem cut_to {α : Type} (xs : List α) (k : Nat) : cut xs .non (.int k) = some (xs.take k) := by
  show some (xs.take (six xs.length (k : Int))) = _
  rw [six_nat, min_take]
@[simp] theorem cut_to1 {α : Type} (xs : List α) : cut xs .non (.int 1) = some (xs.take 1) := cut_to xs 1
@[simp] theorem cut_1m {α : Type} (xs : List α) : cut xs (.int 1) (.int (-1)) = some xs.dropLast.tail := by
  show some ((xs.take (six xs.length (-1))).drop (six xs.length ((1 : Nat) : Int))) = _
  rw [six_neg1, six_nat, ← List.dropLast_eq_take, ← List.drop_one]
  cases xs with
  | nil => rfl
  | cons x xs => rw [Nat.min_eq_right (by simp)]
theorem ix_nat {α : Type} (xs : List α) (k : Nat) : ix xs (k : Int) = xs[k]? := by
  unfold ix
  rw [if_neg (by omega)]
  rfl
@[simp] theorem ix_0 {α : Type} (xs : List α) : ix xs 0 = xs[0]? := ix_nat xs 0
@[simp] theorem ix_1 {α : Type} (xs : List α) : ix xs 1 = xs[1]? := ix_nat xs 1
@[simp] theorem ix_2 {α : Type} (xs : List α) : ix xs 2 = xs[2]? := ix_nat xs 2
@[simp] theorem ix_3 {α : Type} (xs : List α) : ix xs 3 = xs[3]? := ix_nat xs 3
@[simp] theorem ix_m1 {α : Type} (xs : List α) : ix xs (-1) = xs[xs.length - 1]? := by
  unfold ix
  rw [if_pos (by decide)]
  cases xs with
  | nil => rfl
  | cons x xs =>
    rw [if_pos (by simp only [List.length_cons]; omega)]
    congr 1
    simp only [List.length_cons]
    omega
@[simp] theorem idx_tup {xs i} : idxD (.tup xs) (.int i) = ix xs i := rfl
@[simp] theorem idx_lst {xs i} : idxD (.lst xs) (.int i) = ix xs i := rfl
theorem idx_str {s : List Nat} {i} (h : s.length ≤ line) : idxD (.str s) (.int i) = (ix s i).map fun c => .str [c] := if_pos h
@[simp] theorem sl_tup {xs lo hi} : slD (.tup xs) lo hi = (cut xs lo hi).map .tup := rfl
@[simp] theorem slD_lst {xs lo hi} : slD (.lst xs) lo hi = (cut xs lo hi).map .lst := rfl
theorem sl_str {xs : List Nat} {lo hi} (h : xs.length ≤ line) : slD (.str xs) lo hi = (cut xs lo hi).map .str := if_pos h
@[simp] theorem slL_lst {xs lo hi} : slL (.lst xs) lo hi = cut xs lo hi := rfl
theorem signs_take (s : List Nat) (k : Nat) : signs (s.take k) = (signs s).take k := List.map_take ..
theorem signs_tail (s : List Nat) : signs s.tail = (signs s).tail := List.map_tail ..
theorem signs_init (s : List Nat) : signs s.dropLast = (signs s).dropLast := List.map_dropLast ..
theorem zip_signs (s : List Nat) : zipD (signs s.dropLast) (signs s.tail) = (pairsOf s).map fun p => .tup [.str [p.1], .str [p.2]] := by
  rw [signs_init, signs_tail, zip_pairs]
  unfold signs
  rw [pairsOf_map, List.map_map]
  rfl
theorem zip_map {α : Type} (f : α → D) (xs : List α) : zipD (xs.map f).dropLast (xs.map f).tail = (pairsOf xs).map fun p => .tup [f p.1, f p.2] := by
  rw [zip_pairs, pairsOf_map, List.map_map]
  rfl
theorem signs_drop (s : List Nat) (k : Nat) : signs (s.drop k) = (signs s).drop k := List.map_drop ..
@[simp] theorem signs_len (s : List Nat) : (signs s).length = s.length := List.length_map ..
@[simp] theorem mem_s1 {c y} : cmpD .mem (.str [c]) (.str y) = some (decide (c ∈ y)) := rfl
@[simp] theorem nmem_s1 {c y} : cmpD .notMem (.str [c]) (.str y) = some (!decide (c ∈ y)) := rfl
@[simp] theorem isin_int_int {i} : isinD .int (.int i) = some true := rfl
@[simp] theorem isin_bool_int {i} : isinD .bool (.int i) = some false := rfl
@[simp] theorem isin_str_int {i} : isinD .str (.int i) = some false := rfl
@[simp] theorem isin_tup_int {i} : isinD .tuple (.int i) = some false := rfl
@[simp] theorem isin_int_str {i} : isinD .int (.str i) = some false := rfl
@[simp] theorem isin_bool_str {i} : isinD .bool (.str i) = some false := rfl
@[simp] theorem isin_str_str {i} : isinD .str (.str i) = some true := rfl
@[simp] theorem isin_tup_str {i} : isinD .tuple (.str i) = some false := rfl
@[simp] theorem isin_int_tup {i} : isinD .int (.tup i) = some false := rfl
@[simp] theorem isin_bool_tup {i} : isinD .bool (.tup i) = some false := rfl
@[simp] theorem isin_str_tup {i} : isinD .str (.tup i) = some false := rfl
@[simp] theorem isin_tup_tup {i} : isinD .tuple (.tup i) = some true := rfl
@[simp] theorem isin_int_non : isinD .int .non = some false := rfl
@[simp] theorem isin_bool_non : isinD .bool .non = some false := rfl
@[simp] theorem isin_str_non : isinD .str .non = some false := rfl
@[simp] theorem isin_tup_non : isinD .tuple .non = some false := rfl
theorem strLt_one (a b : Nat) : strLt [a] [b] = decide (a < b) := by
  unfold strLt
  congr 1
  simp [List.cons_lt_cons_iff]
theorem all_of_map {α : Type} (f : α → D) (p : α → Bool) (xs : List α) (h : ∀ x ∈ xs, f x = .bl (p x)) : b1D .all (.lst (xs.map f)) = some (.bl (xs.all p)) := by
  rw [← all_map p xs]
  congr 2
  exact List.map_congr_left h
def NR (d : D) : Prop := ∀ n, d ≠ .ref n
@[simp] theorem NR_int {i} : NR (.int i) := nofun
@[simp] theorem NR_str {i} : NR (.str i) := nofun
@[simp] theorem NR_non : NR .non := nofun
@[simp] theorem NR_tup {i} : NR (.tup i) := nofun
@[simp] theorem NR_lst {i} : NR (.lst i) := nofun
@[simp] theorem NR_bl {i} : NR (.bl i) := nofun
theorem view_nr {d : D} (h : NR d) (S : DS) : view d S = .ok d S := by
  cases d with
  | ref n => exact absurd rfl (h n)
  | _ => rfl
/-- code points -/
def cp (s : List Nat) : Prop := s.all (· < 0x110000) = true
@[simp] theorem cp_nil : cp [] := rfl
@[simp] theorem cp_cons {c s} : cp (c :: s) ↔ c < 0x110000 ∧ cp s := by simp [cp]
theorem cp_append {s t} : cp (s ++ t) ↔ cp s ∧ cp t := by simp only [cp, List.all_append, Bool.and_eq_true]
theorem cp_mem {s : List Nat} : cp s ↔ ∀ c ∈ s, c < 0x110000 := by simp [cp]
theorem cp_flatten {l : List (List Nat)} : cp l.flatten ↔ ∀ s ∈ l, cp s := by
  induction l with
  | nil => simp
  | cons a l ih => simp [cp_append, ih]
theorem cp_pl {s : List Nat} (h : cp s) (n : Nat) : D.pl n (.str s) = true := by simpa [D.pl, cp] using h
@[simp] theorem eq_str {a b} (ha : cp a) (hb : cp b) : cmpD .eq (.str a) (.str b) = some (decide (a = b)) := by
  rw [eq_pl (cp_pl ha _) (cp_pl hb _)]
  simp
@[simp] theorem ne_str {a b} (ha : cp a) (hb : cp b) : cmpD .ne (.str a) (.str b) = some (!decide (a = b)) := by
  rw [ne_pl (cp_pl ha _) (cp_pl hb _)]
  simp
/-- what stands in the store stays, more may come behind -/
def Ext (S S' : DS) : Prop := ∃ T, S' = S ++ T
theorem Ext.refl (S : DS) : Ext S S := ⟨[], by simp⟩
theorem Ext.trans {S S1 S2 : DS} (h : Ext S S1) (h2 : Ext S1 S2) : Ext S S2 := by
  obtain ⟨T, rfl⟩ := h
  obtain ⟨T2, rfl⟩ := h2
  exact ⟨T ++ T2, by simp⟩
theorem Ext.add {S : DS} (T : DS) : Ext S (S ++ T) := ⟨T, rfl⟩
theorem Ext.pen {n : Nat} {S S' : DS} (h : Ext S S') (p : Pen n S) : PS' n S S' := by
  obtain ⟨T, rfl⟩ := h
  obtain ⟨cs, q, a, e⟩ := p
  have hl := pen_lt e
  refine ⟨⟨cs, q, a, ?_⟩, by simp, fun m hm _ => List.getElem?_append_left hm⟩
  show (S ++ T)[n]? = _
  rw [List.getElem?_append_left hl]
  exact e
end MP
end
section
set_option Elab.async false
set_option linter.all false
set_option maxRecDepth 100000
set_option maxHeartbeats 4000000
/-! MRC: comprehensions in comprehensions; each once; lines -/
namespace MP
section
variable {α β : Type} {w : Guard} {X : Exc → DS → Prop}
theorem W_compI {f : D → List D → M (List D)} {P : List D → DS → Prop} (ys : List α) (h : α → D) (I : List α → List D → DS → Prop) {xs acc : List D} {S : DS} (hx : xs = ys.map h) (h0 : I ys acc S)
    (hw : ∀ ys acc S, I ys acc S → holdsG S w = true)
    (hs : ∀ y ys acc S, I (y :: ys) acc S → W (f (h y) acc S) (fun a S' => I ys a S') X) (he : ∀ acc S, I [] acc S → P acc S) : W (compM w f xs acc S) P X := by
  subst hx
  induction ys generalizing acc S with
  | nil => simp only [List.map_nil, compM, W_bind, W_stays, W_pure]; exact ⟨hw _ _ _ h0, he _ _ h0⟩
  | cons y ys ih =>
    simp only [List.map_cons, compM, W_bind, W_stays]
    exact ⟨hw _ _ _ h0, (hs y ys acc S h0).imp fun a S' q => ih q⟩
theorem W_flatA {f : D → List D → M (List D)} {P : List D → DS → Prop} (ys : List α) (h : α → D) (g : α → List D) {xs acc : List D} {S : DS} (hx : xs = ys.map h) (hl : acc.length + ys.length ≤ line) (hw : holdsG S w = true) (hg : ∀ y, (g y).length ≤ 1)
    (hs : ∀ y ∈ ys, ∀ acc : List D, acc.length < line → W (f (h y) acc S) (fun a S' => a = acc ++ g y ∧ S' = S) X) (he : P (acc ++ ys.flatMap g) S) : W (compM w f xs acc S) P X := by
  refine W_compI ys h (fun us a S' => S' = S ∧ (∀ u ∈ us, u ∈ ys) ∧ a ++ us.flatMap g = acc ++ ys.flatMap g ∧ a.length + us.length ≤ line) hx ⟨rfl, fun _ h => h, rfl, hl⟩ (fun _ _ _ q => by rw [q.1]; exact hw) (fun u us a S' q => ?_) (fun a S' q => ?_)
  · obtain ⟨rfl, q1, q2, q3⟩ := q
    have hu := q1 u (List.mem_cons_self ..)
    have := hg u
    simp only [List.length_cons] at q3
    refine (hs u hu a (by omega)).imp fun b S'' e => ?_
    obtain ⟨rfl, rfl⟩ := e
    refine ⟨rfl, fun z hz => q1 z (List.mem_cons_of_mem _ hz), ?_, ?_⟩
    · rw [← q2, List.flatMap_cons, List.append_assoc]
    · simp only [List.length_append]; omega
  · obtain ⟨rfl, _, q2, _⟩ := q
    simp only [List.flatMap_nil, List.append_nil] at q2
    rw [q2]
    exact he
theorem W_mapA {f : D → List D → M (List D)} {P : List D → DS → Prop} (ys : List α) (h : α → D) (g : α → D) {xs acc : List D} {S : DS} (hx : xs = ys.map h) (hl : acc.length + ys.length ≤ line) (hw : holdsG S w = true)
    (hs : ∀ y ∈ ys, ∀ acc : List D, acc.length < line → W (f (h y) acc S) (fun a S' => a = acc ++ [g y] ∧ S' = S) X) (he : P (acc ++ ys.map g) S) : W (compM w f xs acc S) P X :=
  W_flatA ys h (fun y => [g y]) hx hl hw (fun _ => Nat.le_refl _) hs (by rw [flatMap_sing]; exact he)
/-- [g y z for y in ys for z in q y] -/
theorem W_comp2T {f : D → List D → M (List D)} {P : List D → DS → Prop} (ys : List α) (h : α → D) (q : α → List β) (g : α → β → D) {xs : List D} {S : DS} (hx : xs = ys.map h) (hl : (ys.flatMap q).length ≤ line) (hw : holdsG S w = true)
    (hs : ∀ y ∈ ys, ∀ acc : List D, acc.length + (q y).length ≤ line → W (f (h y) acc S) (fun a S' => a = acc ++ (q y).map (g y) ∧ S' = S) X) (he : P (ys.flatMap fun y => (q y).map (g y)) S) : W (compM w f xs [] S) P X := by
  refine W_compI ys h (fun us a S' => S' = S ∧ (∀ u ∈ us, u ∈ ys) ∧ a ++ (us.flatMap fun y => (q y).map (g y)) = ys.flatMap (fun y => (q y).map (g y)) ∧ a.length + (us.flatMap q).length ≤ line) hx ⟨rfl, fun _ h => h, rfl, by simpa using hl⟩ (fun _ _ _ q => by rw [q.1]; exact hw) (fun u us a S' e => ?_) (fun a S' q => ?_)
  · obtain ⟨rfl, q1, q2, q3⟩ := e
    have hu := q1 u (List.mem_cons_self ..)
    simp only [List.flatMap_cons, List.length_append] at q3
    refine (hs u hu a (by omega)).imp fun b S'' e => ?_
    obtain ⟨rfl, rfl⟩ := e
    refine ⟨rfl, fun z hz => q1 z (List.mem_cons_of_mem _ hz), ?_, ?_⟩
    · rw [← q2, List.flatMap_cons, List.append_assoc]
    · simp only [List.length_append, List.length_map]; omega
  · obtain ⟨rfl, _, q2, _⟩ := q
    simp only [List.flatMap_nil, List.append_nil] at q2
    rw [q2]
    exact he
end
/-! ### each once -/
section
variable {α : Type} [DecidableEq α]
theorem uniq_len_le : ∀ (xs acc : List α), (uniq acc xs).length ≤ acc.length + xs.length
  | [], acc => by simp [uniq]
  | x :: xs, acc => by
    simp only [uniq]
    split
    · have := uniq_len_le xs acc; simp only [List.length_cons]; omega
    · have := uniq_len_le xs (acc ++ [x]); simp only [List.length_cons, List.length_append, List.length_nil] at *; omega
theorem uniq_len_eq : ∀ (xs acc : List α), (uniq acc xs).length = acc.length + xs.length ↔ (xs.Nodup ∧ ∀ x ∈ xs, x ∉ acc)
  | [], acc => by simp [uniq]
  | x :: xs, acc => by
    simp only [uniq]
    split
    · rename_i h
      have h1 := uniq_len_le xs acc
      constructor
      · intro e; simp only [List.length_cons] at e; omega
      · rintro ⟨_, h2⟩; exact absurd h (h2 x (List.mem_cons_self ..))
    · rename_i h
      have ih := uniq_len_eq xs (acc ++ [x])
      simp only [List.length_append, List.length_cons, List.length_nil, List.mem_append, List.mem_singleton, not_or] at ih
      simp only [List.length_cons, List.nodup_cons, List.mem_cons, forall_eq_or_imp]
      rw [show acc.length + (xs.length + 1) = acc.length + (0 + 1) + xs.length by omega, ih]
      constructor
      · rintro ⟨h1, h2⟩
        exact ⟨⟨fun hx => (h2 x hx).2 rfl, h1⟩, h, fun a ha => (h2 a ha).1⟩
      · rintro ⟨⟨h1, h2⟩, _, h4⟩
        exact ⟨h2, fun a ha => ⟨h4 a ha, fun e => h1 (e ▸ ha)⟩⟩
theorem uniq_nodup (xs : List α) : decide ((xs.length : Int) = ((uniq [] xs).length : Int)) = decide xs.Nodup := by
  have h := uniq_len_eq xs []
  simp only [List.length_nil, Nat.zero_add, List.not_mem_nil, not_false_eq_true, implies_true, and_true] at h
  rw [decide_eq_decide]
  rw [← h]
  omega
end
theorem lenset_strs {zs : List (List Nat)} (h : zs.length + 1 < 4096) : b1D .lenset (.lst (zs.map .str)) = some (.int (uniq [] zs).length) := by
  simp only [b1D, List.length_map, if_pos h, strsOf_map']
theorem strsOf_ints : ∀ zs : List Int, zs ≠ [] → strsOf (zs.map .int) = none
  | [], h => absurd rfl h
  | z :: zs, _ => rfl
theorem lenset_ints {zs : List Int} (h : zs.length + 1 < 4096) : b1D .lenset (.lst (zs.map .int)) = some (.int (uniq [] zs).length) := by
  by_cases e : zs = []
  · subst e
    rfl
  · simp only [b1D, List.length_map, if_pos h, strsOf_ints zs e, intsOf_map']
/-! ### ascending letters -/
theorem asc_len {lo hi : Nat} : ∀ (s : List Nat), s.Pairwise (fun a b => a < b) → (∀ c ∈ s, lo ≤ c ∧ c < hi) → s.length ≤ hi - lo
  | [], _, _ => by simp
  | a :: s, h, hb => by
    obtain ⟨h1, h2⟩ := List.pairwise_cons.mp h
    have ha := hb a (List.mem_cons_self ..)
    have := asc_len (lo := a + 1) (hi := hi) s h2 fun c hc => ⟨h1 c hc, (hb c (List.mem_cons_of_mem _ hc)).2⟩
    simp only [List.length_cons]
    omega
/-! ### lines -/
theorem joinBy_nil : ∀ zs : List (List Nat), joinBy [] zs = zs.flatten
  | [] => rfl
  | [z] => by simp [joinBy, TL.joinL]
  | z :: y :: zs => by
    have := joinBy_nil (y :: zs)
    simp only [joinBy] at this
    simp only [joinBy, TL.joinL, this, List.flatten_cons, List.append_nil, List.nil_append, List.append_assoc]
theorem joinBy_len (x : List Nat) : ∀ zs : List (List Nat), (joinBy x zs).length ≤ (zs.map (·.length)).sum + zs.length * x.length
  | [] => by simp [joinBy, TL.joinL]
  | [z] => by simp [joinBy, TL.joinL]
  | z :: y :: zs => by
    have := joinBy_len x (y :: zs)
    simp only [joinBy, List.map_cons, List.sum_cons, List.length_cons] at this
    simp only [joinBy, TL.joinL, List.length_append, List.map_cons, List.sum_cons, List.length_cons, Nat.add_mul, Nat.one_mul] at this ⊢
    omega
theorem mem_joinBy (x : List Nat) (c : Nat) : ∀ zs : List (List Nat), c ∈ joinBy x zs → c ∈ x ∨ ∃ z ∈ zs, c ∈ z
  | [], h => by simp [joinBy, TL.joinL] at h
  | [z], h => by
    simp only [joinBy, TL.joinL, List.append_nil] at h
    exact .inr ⟨z, by simp, by simpa using h⟩
  | z :: y :: zs, h => by
    have ih := mem_joinBy x c (y :: zs)
    simp only [joinBy] at ih
    simp only [joinBy, TL.joinL, List.mem_append] at h
    rcases h with h | h | h
    · exact .inr ⟨z, by simp, h⟩
    · exact .inl h
    · rcases ih h with h | ⟨u, hu, h⟩
      · exact .inl h
      · exact .inr ⟨u, List.mem_cons_of_mem _ hu, h⟩
theorem cp_joinBy {x : List Nat} {zs : List (List Nat)} (hx : cp x) (h : ∀ z ∈ zs, cp z) : cp (joinBy x zs) := by
  rw [cp_mem]
  intro c hc
  rcases mem_joinBy x c zs hc with h1 | ⟨z, hz, h1⟩
  · exact cp_mem.mp hx c h1
  · exact cp_mem.mp (h z hz) c h1
theorem split_len (c : Nat) : ∀ s : List Nat, (splitAt1 c s).length ≤ s.length + 1
  | [] => by simp [splitAt1]
  | a :: r => by
    have := split_len c r
    simp only [splitAt1, List.length_cons]
    split
    · simp only [List.length_cons]; omega
    · split
      · simp
      · rename_i w ws e; rw [e] at this; simp only [List.length_cons] at *; omega
theorem splitAt1_ne (c : Nat) : ∀ s : List Nat, splitAt1 c s ≠ []
  | [] => by simp [splitAt1]
  | a :: r => by
    simp only [splitAt1]
    split
    · simp
    · split <;> simp
theorem split_mem (c : Nat) : ∀ (s z : List Nat), z ∈ splitAt1 c s → (∀ a ∈ z, a ∈ s ∧ a ≠ c) ∧ z.length ≤ s.length
  | [], z, h => by simp [splitAt1] at h; subst h; simp
  | a :: r, z, h => by
    have ih := split_mem c r
    simp only [splitAt1] at h
    split at h
    · rcases List.mem_cons.mp h with rfl | h
      · simp
      · obtain ⟨h1, h2⟩ := ih z h
        exact ⟨fun b hb => ⟨List.mem_cons_of_mem _ (h1 b hb).1, (h1 b hb).2⟩, by simp only [List.length_cons]; omega⟩
    · rename_i hac
      split at h
      · rename_i e
        exact absurd e (splitAt1_ne c r)
      · rename_i w ws e
        rw [e] at ih
        rcases List.mem_cons.mp h with rfl | h
        · obtain ⟨h1, h2⟩ := ih w (List.mem_cons_self ..)
          refine ⟨fun b hb => ?_, by simp only [List.length_cons]; omega⟩
          rcases List.mem_cons.mp hb with rfl | hb
          · exact ⟨List.mem_cons_self .., hac⟩
          · exact ⟨List.mem_cons_of_mem _ (h1 b hb).1, (h1 b hb).2⟩
        · obtain ⟨h1, h2⟩ := ih z (List.mem_cons_of_mem _ h)
          exact ⟨fun b hb => ⟨List.mem_cons_of_mem _ (h1 b hb).1, (h1 b hb).2⟩, by simp only [List.length_cons]; omega⟩
theorem split_cp {c : Nat} {s z : List Nat} (h : cp s) (hz : z ∈ splitAt1 c s) : cp z := cp_mem.mpr fun a ha => cp_mem.mp h a ((split_mem c s z hz).1 a ha).1
@[simp] theorem split_eq {x : List Nat} {c : Nat} (h : x.length + 2 ≤ line) (hc : c < 256) : l2D .split (.str x) (.str [c]) = some ((splitAt1 c x).map .str) := if_pos ⟨h, hc⟩
/-! ### numbers -/
/-- digits alone, one or two, no 0 ahead -/
def numB (s : List Nat) : Option Int := match s with
  | [a] => if 48 ≤ a ∧ a < 58 then some (a - 48 : Int) else none
  | [a, b] => if 49 ≤ a ∧ a < 58 ∧ 48 ≤ b ∧ b < 58 then some (10 * (a - 48 : Int) + (b - 48)) else none
  | _ => none
def numD (s : List Nat) : D := match numB s with
  | some i => .int i
  | none => .non
theorem NR_numD (s) : NR (numD s) := by unfold numD; split <;> simp
theorem int_d1 : ∀ a : Nat, a < 10 → b1D .int (.str [48 + a]) = some (.int a) := by decide +kernel
theorem int_d2 : ∀ a : Nat, a < 10 → ∀ b : Nat, b < 10 → b1D .int (.str [48 + a, 48 + b]) = some (.int (10 * a + b : Nat)) := by decide +kernel
theorem dec_1 : ∀ a : Nat, a < 10 → decI a = [48 + a] := by decide +kernel
theorem dec_2 : ∀ a : Nat, a < 100 → 10 ≤ a → decI a = [48 + a / 10, 48 + a % 10] := by decide +kernel
theorem num_dec {a : Int} (h0 : 0 ≤ a) (h : a < 100) : numB (decI a) = some a := by
  obtain ⟨n, rfl⟩ := Int.eq_ofNat_of_zero_le h0
  by_cases h1 : n < 10
  · rw [dec_1 n h1]
    simp only [numB]
    rw [if_pos (by omega)]
    congr 1
    omega
  · rw [dec_2 n (by omega) (by omega)]
    simp only [numB]
    rw [if_pos (by omega)]
    congr 1
    omega
theorem W_forM_nil {w : Guard} {f : D → Env → M Fl} {P : Fl → DS → Prop} {X σ S} : W (forM' w f [] σ S) P X = (holdsG S w = true ∧ P (.nx σ) S) := by
  simp only [forM', W_bind, W_stays, W_pure]
theorem W_forM_cons {w : Guard} {f : D → Env → M Fl} {P : Fl → DS → Prop} {X σ S} (x : D) (xs : List D) : W (forM' w f (x :: xs) σ S) P X = (holdsG S w = true ∧ W (f x σ S) (turnP (fun σ' S' => W (forM' w f xs σ' S') P X) P) X) := by
  simp only [forM', W_bind, W_stays]
  congr 1
  cases f x σ S with
  | ok fl S' => cases fl <;> rfl
  | _ => rfl
/-- one digit after the other -/
theorem dec_props {a : Int} (h0 : 0 ≤ a) (h : a < 100) : (∀ c ∈ decI a, 48 ≤ c ∧ c < 58) ∧ (decI a).length ≤ 2 ∧ decI a ≠ [] := by
  obtain ⟨n, rfl⟩ := Int.eq_ofNat_of_zero_le h0
  by_cases h1 : n < 10
  · rw [dec_1 n h1]
    refine ⟨fun c hc => ?_, by simp, by simp⟩
    simp only [List.mem_cons, List.not_mem_nil, or_false] at hc
    omega
  · rw [dec_2 n (by omega) (by omega)]
    refine ⟨fun c hc => ?_, by simp, by simp⟩
    simp only [List.mem_cons, List.not_mem_nil, or_false] at hc
    omega
theorem log2_small {n k : Nat} (h : n < 2 ^ k) (hk : 0 < k) : n.log2 < k := by
  by_cases e : n = 0
  · subst e
    simpa using hk
  · exact (Nat.log2_lt e).mpr h
theorem str_int {a : Int} (h0 : 0 ≤ a) (h : a < 2 ^ 60) : b1D .str (.int a) = some (.str (decI a)) := by
  have : a.natAbs.log2 < 1920 := Nat.lt_trans (log2_small (k := 60) (by omega) (by decide)) (by decide)
  simp only [b1D, if_pos this]
end MP
end
section
set_option Elab.async false
set_option linter.all false
set_option maxRecDepth 100000
set_option maxHeartbeats 4000000
/-! MRD: the store -/
namespace MP
section
variable {S : DS} {n : Nat} {xs : List D}
theorem chkL_rf (h : S[n]? = some (.lst xs)) : chkL (.ref n) S = .ok () S := by
  show (match S[n]? with | some (.lst _) => _ | _ => _) = _
  rw [h]
theorem lstM_rf {α : Type} (h : S[n]? = some (.lst xs)) (f : Nat → List D → M α) : lstM (.ref n) f S = f n xs S := by
  show (match S[n]? with | some (.lst xs) => f n xs S | _ => _) = _
  rw [h]
theorem appM_rf (h : S[n]? = some (.lst xs)) (hl : xs.length < line) (y : D) : appM (.ref n) y S = .ok .non (S.set n (.lst (xs ++ [y]))) := by
  unfold appM
  rw [lstM_rf h, if_pos hl]
  rfl
theorem setM_rf (h : S[n]? = some (.lst xs)) {i : Int} {j : Nat} (hj : ixN xs i = some j) (z : D) : setM (.ref n) (.int i) z S = .ok () (S.set n (.lst (xs.set j z))) := by
  unfold setM
  rw [lstM_rf h]
  show ((ofO (ixN xs i) >>= fun j => wrM n (xs.set j z)) : M Unit) S = _
  rw [hj]
  rfl
theorem popM_rf (h : S[n]? = some (.lst xs)) {i : Int} (hi : i.natAbs < 2 ^ 62) {j : Nat} (hj : ixN xs i = some j) {d : D} (hd : xs[j]? = some d) : popM (.ref n) (.int i) S = .ok d (S.set n (.lst (xs.eraseIdx j))) := by
  unfold popM
  rw [lstM_rf h]
  show ((if i.natAbs < 2 ^ 62 then _ else _) : M D) S = _
  rw [if_pos hi]
  show ((ofO (ixN xs i) >>= fun j => _) : M D) S = _
  rw [hj]
  show ((ofO xs[j]? >>= fun d => _) : M D) S = _
  rw [hd]
  rfl
theorem get_lt {S' : DS} {x : MO} (h : S[n]? = some x) : (S ++ S')[n]? = some x := by
  rw [List.getElem?_append_left (List.getElem?_eq_some_iff.mp h).1]
  exact h
theorem lt_of_get {x : MO} (h : S[n]? = some x) : n < S.length := (List.getElem?_eq_some_iff.mp h).1
end
@[simp] theorem get_last (S : DS) (x : MO) : (S ++ [x])[S.length]? = some x := by simp
@[simp] theorem set_last (S : DS) (x y : MO) : (S ++ [x]).set S.length y = S ++ [y] := by
  rw [List.set_append_right _ _ (Nat.le_refl _), Nat.sub_self]
  rfl
theorem ixN_nat {α : Type} {xs : List α} {i : Int} (h0 : 0 ≤ i) (h : i < xs.length) : ixN xs i = some i.toNat := by
  unfold ixN
  simp only [show ¬ i < 0 by omega, if_false]
  rw [if_pos ⟨h0, h⟩]
@[simp] theorem lst_init {α : Type} (xs : List α) (x : α) : (xs ++ [x])[(xs ++ [x]).length - 1]? = some x := by simp
end MP
end
section
set_option Elab.async false
set_option linter.all false
set_option maxRecDepth 100000
set_option maxHeartbeats 4000000
/-! MRE: repr -/
namespace MP
open PySem
def Cpx (x : Str) : Prop := ∀ c ∈ x.cps.toList, c < 0x110000
theorem strApp_cps (a b : Str) : (a ++ b).cps.toList = a.cps.toList ++ b.cps.toList := by
  show (a.cps ++ b.cps).toList = _
  simp
theorem strApp_len (a b : Str) : (a ++ b).length = a.length + b.length := by
  show (a.cps ++ b.cps).size = _
  simp [Str.length]
theorem Cpx.app {a b : Str} (ha : Cpx a) (hb : Cpx b) : Cpx (a ++ b) := fun c hc => by
  rw [strApp_cps] at hc
  rcases List.mem_append.mp hc with h | h
  · exact ha c h
  · exact hb c h
theorem char_lt (c : Char) : c.toNat < 0x110000 := by
  have h := c.valid
  simp only [UInt32.isValidChar, Nat.isValidChar] at h
  show c.val.toNat < _
  omega
theorem Cpx_of (s : String) : Cpx (Str.ofString s) := fun c hc => by
  rw [Str.ofString_eq_toList] at hc
  simp only [List.mem_map] at hc
  obtain ⟨a, _, rfl⟩ := hc
  exact char_lt a
theorem Cpx_repChar {q c : Nat} (hq : q < 0x110000) (hc : c < 0x110000) : ∀ x ∈ Builtin.Str.reprChar q c, x < 0x110000 := by
  have hex : ∀ w : Nat, ∀ x ∈ List.replicate (w - ((Nat.toDigits 16 c).map Char.toNat).length) 48 ++ (Nat.toDigits 16 c).map Char.toNat, x < 0x110000 := fun w x hx => by
    rcases List.mem_append.mp hx with h | h
    · rw [List.eq_of_mem_replicate h]; decide
    · obtain ⟨a, _, rfl⟩ := List.mem_map.mp h
      exact char_lt a
  intro x hx
  unfold Builtin.Str.reprChar at hx
  simp only at hx
  repeat' split at hx
  all_goals simp only [List.mem_cons, List.mem_append, List.not_mem_nil, or_false] at hx
  all_goals first
    | (rcases hx with rfl | rfl <;> omega)
    | (subst hx; omega)
    | (rcases hx with (rfl | rfl) | h
       · omega
       · omega
       · exact hex _ x (List.mem_append.mpr h))
theorem Cpx_foldl {q : Nat} (hq : q < 0x110000) : ∀ (l : List Nat) (acc : Array Nat), (∀ c ∈ l, c < 0x110000) → (∀ c ∈ acc.toList, c < 0x110000) → ∀ c ∈ (l.foldl (fun out c => out ++ (Builtin.Str.reprChar q c).toArray) acc).toList, c < 0x110000
  | [], acc, _, h => h
  | a :: l, acc, hl, h => by
    rw [List.foldl_cons]
    refine Cpx_foldl hq l _ (fun c hc => hl c (List.mem_cons_of_mem _ hc)) fun c hc => ?_
    rw [Array.toList_append] at hc
    rcases List.mem_append.mp hc with h1 | h1
    · exact h c h1
    · exact Cpx_repChar hq (hl a (List.mem_cons_self ..)) c h1
theorem Cpx_repr {x : Str} (h : Cpx x) : Cpx (reprText x) := by
  have hq : reprQuote x < 0x110000 := by unfold reprQuote; split <;> decide
  intro c hc
  unfold reprText at hc
  rw [Array.toList_push, List.mem_append] at hc
  rcases hc with hc | hc
  · rw [← Array.foldl_toList] at hc
    refine Cpx_foldl hq x.cps.toList _ h (fun c hc => ?_) c hc
    have : c = reprQuote x := by simpa using hc
    omega
  · have : c = reprQuote x := by simpa using hc
    omega
theorem Cpx_textFrom : ∀ (ts : List Str) (k : Nat) (acc : Str), Cpx acc → (∀ t ∈ ts, Cpx t) → Cpx (textFrom k acc ts)
  | [], _, _, h, _ => h
  | t :: ts, k, acc, h, ht => Cpx_textFrom ts (k + 1) _ ((h.app (Cpx_of _)).app (ht t (List.mem_cons_self ..))) fun u hu => ht u (List.mem_cons_of_mem _ hu)
theorem Cpx_join {s : Str} (hs : Cpx s) : ∀ ts : List Str, (∀ t ∈ ts, Cpx t) → Cpx (Str.join s ts)
  | [], _ => fun c hc => by simp [Str.join, Str.empty] at hc
  | [x], h => h x (List.mem_cons_self ..)
  | x :: y :: r, h => ((h x (List.mem_cons_self ..)).app hs).app (Cpx_join hs (y :: r) fun t ht => h t (List.mem_cons_of_mem _ ht))
mutual
/-- how long a repr is at the most -/
def rl : D → Nat
  | .non => 4
  | .bl _ => 5
  | .int i => (decI i).length
  | .str s => 10 * s.length + 2
  | .tup xs => rls xs + 3
  | .lst xs => rls xs + 3
  | .ref _ => 4
def rls : List D → Nat
  | [] => 0
  | x :: xs => rl x + 2 + rls xs
end
theorem textFrom_le : ∀ (ts : List Str) (k : Nat) (acc : Str), (textFrom k acc ts).length ≤ acc.length + (ts.map fun t => t.length + 2).sum
  | [], _, _ => Nat.le_refl _
  | t :: ts, k, acc => by
    have ih := textFrom_le ts (k + 1) (acc ++ (if k > 0 then ", " else "" : String) ++ t)
    show (textFrom (k + 1) _ ts).length ≤ _
    rw [strApp_len, strApp_len] at ih
    have : (Str.ofString (if k > 0 then ", " else "")).length ≤ 2 := by split <;> decide
    simp only [List.map_cons, List.sum_cons]
    omega
theorem join_le (s : Str) (hs : s.length ≤ 2) : ∀ ts : List Str, (Str.join s ts).length ≤ (ts.map fun t => t.length + 2).sum
  | [] => by simp [Str.join, Str.empty, Str.length]
  | [x] => by simp [Str.join]
  | x :: y :: r => by
    have ih := join_le s hs (y :: r)
    show (x ++ s ++ Str.join s (y :: r)).length ≤ _
    rw [strApp_len, strApp_len]
    simp only [List.map_cons, List.sum_cons] at ih ⊢
    omega
theorem bool_text (b : Bool) : PyData.shown (.bool b) = Str.ofString "True" ∨ PyData.shown (.bool b) = Str.ofString "False" := by cases b <;> simp [PyData.shown]
mutual
theorem shown_ok : ∀ (d : D) (n : Nat), D.shp n d = true → Cpx (PyData.shown d.py) ∧ (PyData.shown d.py).length ≤ rl d
  | .non, _, _ => ⟨by simp only [D.py, PyData.shown]; exact Cpx_of _, by simp only [D.py, PyData.shown, rl]; decide⟩
  | .bl b, _, _ => by
    simp only [D.py, rl]
    rcases bool_text b with e | e <;> rw [e] <;> exact ⟨Cpx_of _, by decide⟩
  | .int i, _, _ => by
    simp only [D.py, PyData.shown, rl]
    exact ⟨Cpx_of _, Nat.le_refl _⟩
  | .str s, n, h => by
    have hs : ∀ c ∈ s, c < 0x110000 := by simpa [D.shp] using h
    simp only [D.py, PyData.shown, rl]
    have := PySem.StrLaws.reprText_len ⟨s.toArray⟩ fun c hc => by have := hs c (by simpa using hc); omega
    exact ⟨Cpx_repr fun c hc => hs c (by simpa using hc), by simpa [Str.length] using this⟩
  | .tup xs, n, h => by
    have h' : D.shps (n - 1) xs = true := by
      cases n with
      | zero =>
        have : xs = [] := by simpa [D.shp] using h
        subst this
        simp [D.shps]
      | succ n => simpa [D.shp] using h
    obtain ⟨h1, h2⟩ := shown_oks xs (n - 1) h'
    simp only [D.py, PyData.shown, rl]
    refine ⟨(((Cpx_of _).app (Cpx_join (Cpx_of _) _ h1)).app (Cpx_of _)), ?_⟩
    unfold tupleText
    rw [strApp_len, strApp_len]
    have a1 := join_le (Str.ofString ", ") (by decide) (PyData.shownAll (D.pys xs))
    have a2 : (Str.ofString (if (PyData.shownAll (D.pys xs)).length == 1 then ",)" else ")")).length ≤ 2 := by split <;> decide
    have a3 : (Str.ofString "(").length = 1 := by decide
    omega
  | .lst xs, n, h => by
    have h' : D.shps (n - 1) xs = true := by
      cases n with
      | zero =>
        have : xs = [] := by simpa [D.shp] using h
        subst this
        simp [D.shps]
      | succ n => simpa [D.shp] using h
    obtain ⟨h1, h2⟩ := shown_oks xs (n - 1) h'
    simp only [D.py, PyData.shown, rl]
    refine ⟨(Cpx_textFrom _ _ _ (Cpx_of _) h1).app (Cpx_of _), ?_⟩
    unfold listText
    rw [strApp_len]
    have a1 := textFrom_le (PyData.shownAll (D.pys xs)) 0 (Str.ofString "[")
    have a2 : (Str.ofString "]").length = 1 := by decide
    have a3 : (Str.ofString "[").length = 1 := by decide
    omega
  | .ref _, _, h => by simp [D.shp] at h
theorem shown_oks : ∀ (ds : List D) (n : Nat), D.shps n ds = true → (∀ t ∈ PyData.shownAll (D.pys ds), Cpx t) ∧ ((PyData.shownAll (D.pys ds)).map fun t => t.length + 2).sum ≤ rls ds
  | [], _, _ => by simp [D.pys, PyData.shownAll, rls]
  | d :: ds, n, h => by
    simp only [D.shps, Bool.and_eq_true] at h
    obtain ⟨a1, a2⟩ := shown_ok d n h.1
    obtain ⟨b1, b2⟩ := shown_oks ds n h.2
    simp only [D.pys, PyData.shownAll, List.mem_cons, List.map_cons, List.sum_cons, rls]
    refine ⟨fun t ht => ?_, by omega⟩
    rcases ht with rfl | ht
    · exact a1
    · exact b1 t ht
end
theorem rls_le {n : Nat} : ∀ ds : List D, (∀ d ∈ ds, rl d ≤ n) → rls ds ≤ (n + 2) * ds.length
  | [], _ => by simp [rls]
  | d :: ds, h => by
    have h1 := h d (List.mem_cons_self ..)
    have h2 := rls_le ds fun x hx => h x (List.mem_cons_of_mem _ hx)
    simp only [rls, List.length_cons, Nat.mul_add, Nat.mul_one]
    omega
mutual
/-- what repr asks of the ints -/
def D.sho : D → Bool
  | .int i => decide (i.natAbs.log2 < 1920)
  | .tup xs => D.shos xs
  | .lst xs => D.shos xs
  | _ => true
def D.shos : List D → Bool
  | [] => true
  | x :: xs => D.sho x && D.shos xs
end
mutual
theorem sho_ok : ∀ d : D, D.sho d = true → PyData.showable d.py = true
  | .non, _ => by simp [D.py, PyData.showable]
  | .bl _, _ => by simp [D.py, PyData.showable]
  | .int _, h => by simpa [D.py, PyData.showable, D.sho] using h
  | .str _, _ => by simp [D.py, PyData.showable]
  | .tup xs, h => by simp only [D.py, PyData.showable]; exact sho_oks xs (by simpa [D.sho] using h)
  | .lst xs, h => by simp only [D.py, PyData.showable]; exact sho_oks xs (by simpa [D.sho] using h)
  | .ref _, _ => by simp [D.py, PyData.showable]
theorem sho_oks : ∀ ds : List D, D.shos ds = true → PyData.showableAll (D.pys ds) = true
  | [], _ => by simp [D.pys, PyData.showableAll]
  | d :: ds, h => by
    simp only [D.shos, Bool.and_eq_true] at h
    simp only [D.pys, PyData.showableAll, sho_ok d h.1, sho_oks ds h.2, Bool.and_self]
end
theorem shos_iff : ∀ {xs : List D}, D.shos xs = true ↔ ∀ x ∈ xs, D.sho x = true
  | [] => by simp [D.shos]
  | x :: xs => by simp [D.shos, shos_iff (xs := xs)]
/-- repr gives a text of code points -/
theorem repr_eq {d : D} (h1 : D.shp 60 d = true) (h2 : D.sho d = true) (h3 : rl d ≤ line) : ∃ z, b1D .repr d = some (.str z) ∧ cp z := by
  obtain ⟨a1, a2⟩ := shown_ok d 60 h1
  refine ⟨(PyData.shown d.py).cps.toList, ?_, cp_mem.mpr a1⟩
  show (reprD d).map D.str = _
  unfold reprD
  rw [h1, sho_ok d h2, decide_eq_true (show (PyData.shown d.py).length ≤ sizeLine from Nat.le_trans a2 h3)]
  rfl
theorem ne_self {z : List Nat} (h : cp z) : cmpD .ne (.str z) (.str z) = some false := by simp [h]
end MP
end
section
set_option Elab.async false
set_option linter.all false
set_option maxRecDepth 100000
set_option maxHeartbeats 4000000
/-! MRF: the pen's store; ranges -/
namespace MP
section
variable {S : DS}
theorem PS'.add {n : Nat} {S S1 : DS} (h : PS' n S S1) (T : DS) : PS' n S (S1 ++ T) := h.trans (Ext.pen (Ext.add T) h.pen)
theorem PS'.ext {n : Nat} {S S1 S2 : DS} (h : PS' n S S1) (e : Ext S1 S2) : PS' n S S2 := h.trans (Ext.pen e h.pen)
theorem PS'.setHi {n a : Nat} {S S1 : DS} (h : PS' n S S1) (ha : S.length ≤ a) (hn : n < S.length) (x : MO) : PS' n S (S1.set a x) := by
  obtain ⟨⟨cs, p, q, e⟩, hl, hk⟩ := h
  refine ⟨⟨cs, p, q, ?_⟩, by simpa using hl, fun m hm hmn => ?_⟩
  · show (S1.set a x)[n]? = _
    rw [List.getElem?_set_ne (by omega)]
    exact e
  · rw [List.getElem?_set_ne (by omega)]
    exact hk m hm hmn
theorem PS'.cell {n m : Nat} {S S1 : DS} (h : PS' n S S1) {x : MO} (hx : S[m]? = some x) (hm : m ≠ n) : S1[m]? = some x := (h.kp m (lt_of_get hx) hm).trans hx
theorem Pen.lt {n : Nat} {S : DS} (h : Pen n S) : n < S.length := by
  obtain ⟨_, _, _, e⟩ := h
  exact pen_lt e
end
def upI (lo : Int) : Nat → List Int
  | 0 => []
  | n + 1 => lo :: upI (lo + 1) n
theorem upto_map : ∀ (n : Nat) (lo : Int), upto lo n = (upI lo n).map .int
  | 0, _ => rfl
  | n + 1, lo => by simp [upto, upI, upto_map n]
theorem upI_mem : ∀ (n : Nat) (lo i : Int), i ∈ upI lo n → lo ≤ i ∧ i < lo + n
  | 0, _, _, h => by simp [upI] at h
  | n + 1, lo, i, h => by
    simp only [upI, List.mem_cons] at h
    rcases h with rfl | h
    · omega
    · have := upI_mem n _ _ h; omega
theorem upI_asc : ∀ (n : Nat) (lo : Int), (upI lo n).Pairwise (· < ·)
  | 0, _ => by simp [upI]
  | n + 1, lo => by
    simp only [upI]
    refine List.pairwise_cons.mpr ⟨fun i hi => ?_, upI_asc n _⟩
    have := upI_mem _ _ _ hi
    omega
theorem upI_len : ∀ (n : Nat) (lo : Int), (upI lo n).length = n
  | 0, _ => rfl
  | n + 1, lo => by simp [upI, upI_len n]
theorem erase_map {α β : Type} (f : α → β) : ∀ (xs : List α) (j : Nat), (xs.map f).eraseIdx j = (xs.eraseIdx j).map f
  | [], _ => rfl
  | _ :: _, 0 => rfl
  | x :: xs, j + 1 => by simp [erase_map f xs j]
theorem erase_signs (xs : List Nat) (j : Nat) : (signs xs).eraseIdx j = signs (xs.eraseIdx j) := erase_map _ _ _
theorem get_pop {α : Type} {xs : List α} {j : Nat} {x : α} (h : xs[j]? = some x) : (xs.eraseIdx j ++ [x]).Perm xs := by
  have hl := (List.getElem?_eq_some_iff.mp h).1
  have e := (List.getElem?_eq_some_iff.mp h).2
  have h1 : xs = xs.take j ++ x :: xs.drop (j + 1) := by
    rw [← e]
    simp
  rw [List.eraseIdx_eq_take_drop_succ]
  refine List.Perm.trans ?_ (List.Perm.of_eq h1.symm)
  rw [List.append_assoc]
  exact List.Perm.append_left _ List.perm_append_comm
end MP
end
section
set_option Elab.async false
set_option linter.all false
set_option maxRecDepth 100000
set_option maxHeartbeats 4000000
namespace K93
open MP
variable {fuel k : Nat} {S : DS}
def idxB : D → Int → Bool
  | .int i, m => decide (0 ≤ i) && decide (i < m)
  | _, _ => false
theorem s_is_index {d : D} (hd : NR d) (m : Int) : callN fs fuel (k + 1) I_is_index [d, .int m] S = .ok (.bl (idxB d m)) S := by
  refine eq_of_W (W_callN rfl rfl ?_)
  cases d with
  | int i =>
    by_cases h0 : 0 ≤ i <;> simp -dsimp [F_is_index, isinD, idxB, h0]
  | ref n => exact absurd rfl (hd n)
  | _ => simp -dsimp [F_is_index, isinD, idxB]
/-- a group -/
def grpB (s : List Nat) : Bool := !decide (s = []) && s.all (fun c => decide (c ∈ CS_LETTERS)) && ascB (fun a b => decide (a < b)) s
theorem s_is_group {s : List Nat} (hl : s.length ≤ line) (hc : cp s) : callN fs fuel (k + 1) I_is_group [.str s] S = .ok (.bl (grpB s)) S := by
  refine eq_of_W (W_callN rfl rfl ?_)
  have e0 : cmpD .eq (.str s) (.str []) = some (decide (s = [])) := by
    rw [eq_pl (cp_pl hc _) (by decide)]
    simp
  by_cases h0 : s = []
  · subst h0
    simp -dsimp [F_is_group, grpB]
  simp -dsimp [F_is_group, e0, h0]
  refine W_mapT s (fun c => .str [c]) (fun c => .bl (decide (c ∈ CS_LETTERS))) rfl hl rfl (fun c _ acc ha => ?_) ?_
  · simp -dsimp [ha]
  cases h1 : s.all (fun c => decide (c ∈ CS_LETTERS)) with
  | false => simp -dsimp [all_map, h1, grpB]
  | true =>
    simp -dsimp [all_map, h1, sl_str hl]
    refine W_mapT (pairsOf s) (fun p => .tup [.str [p.1], .str [p.2]]) (fun p => .bl (decide (p.1 < p.2))) ?_ ?_ rfl (fun c _ acc ha => ?_) ?_
    · exact zip_signs s
    · rw [pairs_len]; omega
    · simp -dsimp [ha, strLt_one]
    simp -dsimp [all_map, grpB, ascB, h1, h0]

theorem grp_len {s : List Nat} (h : grpB s = true) : s.length ≤ 26 := by
  unfold grpB at h
  simp only [Bool.and_eq_true] at h
  obtain ⟨⟨_, h1⟩, h2⟩ := h
  rw [ascB_pairwise (fun a b c h1 h2 => by simp only [decide_eq_true_eq] at *; omega)] at h2
  refine asc_len (lo := 97) (hi := 123) s (h2.imp fun h => of_decide_eq_true h) fun c hc => ?_
  have := of_decide_eq_true (List.all_eq_true.mp h1 c hc)
  revert this
  unfold CS_LETTERS
  simp only [List.mem_cons, List.not_mem_nil, or_false]
  omega
/-- groups -/
def grpsB (gs : List (List Nat)) : Bool := decide (gs.length ≤ 3) && gs.all grpB && decide (gs.flatten.Nodup)
theorem nodup_sing (l : List Nat) : (l.map fun c => [c]).Nodup ↔ l.Nodup := by
  simp only [List.Nodup, List.pairwise_map, ne_eq, List.cons.injEq, and_true]
theorem flat_len {n : Nat} : ∀ gs : List (List Nat), (∀ g ∈ gs, g.length ≤ n) → gs.flatten.length ≤ n * gs.length
  | [], _ => by simp
  | g :: gs, h => by
    have h1 := h g (List.mem_cons_self ..)
    have h2 := flat_len gs fun x hx => h x (List.mem_cons_of_mem _ hx)
    simp only [List.flatten_cons, List.length_append, List.length_cons, Nat.mul_add, Nat.mul_one]
    omega
theorem s_are_groups {gs : List (List Nat)} (hn : gs.length ≤ line) (hl : ∀ g ∈ gs, g.length ≤ line ∧ cp g) : callN fs fuel (k + 2) I_are_groups [.tup (gs.map .str)] S = .ok (.bl (grpsB gs)) S := by
  refine eq_of_W (W_callN rfl rfl ?_)
  by_cases h3 : gs.length ≤ 3
  case neg =>
    simp -dsimp [F_are_groups, show (3 : Int) < gs.length by omega, grpsB, h3]
  simp -dsimp [F_are_groups, show ¬ (3 : Int) < gs.length by omega]
  refine W_mapT gs (fun g => .str g) (fun g => .bl (grpB g)) rfl hn rfl (fun g hg acc ha => ?_) ?_
  · simp -dsimp [ha, s_is_group (hl g hg).1 (hl g hg).2]
  cases h1 : gs.all grpB with
  | false => simp -dsimp [all_map, h1, grpsB]
  | true =>
    simp -dsimp [all_map, h1]
    have hg := List.all_eq_true.mp h1
    have hf := flat_len (n := 26) gs fun g h => grp_len (hg g h)
    refine W_comp2T gs (fun g => .str g) id (fun _ c => .str [c]) rfl (by rw [List.flatMap_id]; exact Nat.le_trans hf (by simp [line, PySem.sizeLine]; omega)) rfl (fun g hg acc ha => ?_) ?_
    · simp -dsimp
      refine W_mapA g (fun c => .str [c]) (fun c => .str [c]) rfl ha rfl (fun c hc acc ha => ?_) ⟨rfl, rfl⟩
      simp -dsimp [ha]
    · have e : gs.flatMap (fun g => (id g).map fun c => D.str [c]) = (gs.flatten.map fun c => [c]).map D.str := by
        simp [List.flatMap, List.map_flatten, List.map_map, Function.comp_def]
      rw [e]
      have hz : (gs.flatten.map fun c => [c]).length + 1 < 4096 := by
        rw [List.length_map]; omega
      have hu := uniq_nodup (gs.flatten.map fun c => [c])
      rw [decide_eq_decide, nodup_sing] at hu
      have hl' : (gs.flatten.map fun c => [c]).length = (gs.flatten.map fun c => [c]).length := rfl
      generalize gs.flatten.map (fun c => [c]) = zs at hz hu
      simp -dsimp [lenset_strs hz, grpsB, h1, h3]
      exact hu
theorem s_is_form_row {ds : List D} (hd : ∀ d ∈ ds, NR d) (hl : ds.length ≤ line) (g m : Int) : callN fs fuel (k + 2) I_is_form_row [.tup ds, .int g, .int m] S = .ok (.bl (decide ((ds.length : Int) = g + 1) && ds.all (idxB · m))) S := by
  refine eq_of_W (W_callN rfl rfl ?_)
  by_cases h : (ds.length : Int) = g + 1
  case neg => simp -dsimp [F_is_form_row, h]
  simp -dsimp [F_is_form_row, h]
  refine W_mapT ds id (fun d => .bl (idxB d m)) (List.map_id ds).symm hl rfl (fun d hd' acc ha => ?_) ?_
  · simp -dsimp [ha, s_is_index (hd d hd')]
  simp -dsimp [all_map, h]
/-- the order of ints -/
def ltD : D → D → Bool
  | .int i, .int j => decide (i < j)
  | _, _ => false
theorem idxB_int {d : D} {m : Int} (h : idxB d m = true) : ∃ i : Int, d = .int i ∧ 0 ≤ i ∧ i < m := by
  cases d with
  | int i => exact ⟨i, rfl, by simpa [idxB] using h⟩
  | _ => simp [idxB] at h
theorem ints_of {m : Int} : ∀ ds : List D, ds.all (idxB · m) = true → ∃ is : List Int, ds = is.map .int ∧ ∀ i ∈ is, 0 ≤ i ∧ i < m
  | [], _ => ⟨[], rfl, by simp⟩
  | d :: ds, h => by
    simp only [List.all_cons, Bool.and_eq_true] at h
    obtain ⟨i, rfl, h1⟩ := idxB_int h.1
    obtain ⟨is, rfl, h2⟩ := ints_of ds h.2
    exact ⟨i :: is, rfl, by simpa using ⟨h1, h2⟩⟩
theorem s_are_good {ds : List D} (hd : ∀ d ∈ ds, NR d) (hl : ds.length ≤ line) (m : Int) : callN fs fuel (k + 2) I_are_good [.tup ds, .int m] S = .ok (.bl (ds.all (idxB · m) && ascB ltD ds)) S := by
  refine eq_of_W (W_callN rfl rfl ?_)
  simp -dsimp [F_are_good]
  refine W_mapT ds id (fun d => .bl (idxB d m)) (List.map_id ds).symm hl rfl (fun d hd' acc ha => ?_) ?_
  · simp -dsimp [ha, s_is_index (hd d hd')]
  cases h1 : ds.all (idxB · m) with
  | false => simp -dsimp [all_map, h1]
  | true =>
    simp -dsimp [all_map, h1]
    obtain ⟨is, rfl, hi⟩ := ints_of ds h1
    refine W_mapT (pairsOf is) (fun p => .tup [.int p.1, .int p.2]) (fun p => .bl (decide (p.1 < p.2))) (zip_map _ _) ?_ rfl (fun c _ acc ha => ?_) ?_
    · rw [pairs_len]; rw [List.length_map] at hl; omega
    · simp -dsimp [ha]
    simp -dsimp [all_map, ascB, pairsOf_map, List.all_map, Function.comp_def, ltD]
/-- a form's parts -/
def formB (gs : List (List Nat)) (rows : List (List D)) (good : List D) : Bool := decide (1 ≤ rows.length ∧ rows.length ≤ 4) && grpsB gs && rows.all (fun r => decide (r.length = gs.length + 1) && r.all (idxB · rows.length)) && (good.all (idxB · rows.length) && ascB ltD good)
theorem s_form_fault {gs : List (List Nat)} {rows : List (List D)} {good : List D} (hn : gs.length ≤ line) (hl : ∀ g ∈ gs, g.length ≤ line ∧ cp g) (hr : ∀ r ∈ rows, r.length ≤ line ∧ ∀ d ∈ r, NR d) (hg : good.length ≤ line ∧ ∀ d ∈ good, NR d) :
    ∃ d, callN fs fuel (k + 3) I_form_fault [.tup [.tup (gs.map .str), .tup (rows.map .tup), .tup good]] S = .ok d S ∧ decide (d = .non) = formB gs rows good ∧ NR d := by
  suffices h : W (callN fs fuel (k + 3) I_form_fault [.tup [.tup (gs.map .str), .tup (rows.map .tup), .tup good]] S) (fun d S' => S' = S ∧ decide (d = .non) = formB gs rows good ∧ NR d) (fun _ _ => False) by
    exact W_exS h
  refine W_callN rfl rfl ?_
  simp -dsimp [F_form_fault]
  refine W_mapT [D.tup (gs.map .str), .tup (rows.map .tup), .tup good] id (fun _ => .bl true) rfl (show 3 ≤ line by decide) rfl (fun d hd acc ha => ?_) ?_
  · have e : isinD .tuple d = some true := by
      simp only [List.mem_cons, List.not_mem_nil, or_false] at hd
      rcases hd with rfl | rfl | rfl <;> rfl
    have e2 : NR d := by
      simp only [List.mem_cons, List.not_mem_nil, or_false] at hd
      rcases hd with rfl | rfl | rfl <;> simp
    simp -dsimp [ha, view_nr e2, e]
  simp -dsimp [show b1D .all (.lst [.bl true, .bl true, .bl true]) = some (.bl true) from rfl]
  by_cases h1 : 1 ≤ rows.length ∧ rows.length ≤ 4
  case neg =>
    by_cases h1' : 1 ≤ rows.length
    · simp -dsimp [show (1 : Int) ≤ rows.length by omega, show (4 : Int) < rows.length by omega, formB, h1]
    · simp -dsimp [show ¬ (1 : Int) ≤ rows.length by omega, formB, h1]
  simp -dsimp [show (1 : Int) ≤ rows.length by omega, show ¬ (4 : Int) < rows.length by omega, s_are_groups hn hl]
  cases h2 : grpsB gs with
  | false => simp -dsimp [formB, h2]
  | true =>
    simp -dsimp
    refine W_forE rows .tup (fun j ys σ S' => S' = S ∧ (∃ a b c, σ = [some (.tup [.tup (gs.map .str), .tup (rows.map .tup), .tup good]), some (.tup (gs.map .str)), some (.tup (rows.map .tup)), some (.tup good), a, b, c]) ∧ (∀ y ∈ ys, y ∈ rows) ∧ rows.all (fun r => decide (r.length = gs.length + 1) && r.all (idxB · rows.length)) = ys.all (fun r => decide (r.length = gs.length + 1) && r.all (idxB · rows.length))) rfl ⟨rfl, ⟨_, _, _, rfl⟩, fun _ h => h, rfl⟩ (by intros; rfl) (fun j y ys σ S' hI => ?_) (fun j σ S' hI => ?_)
    · obtain ⟨rfl, ⟨a, b, c, rfl⟩, h6, h7⟩ := hI
      have hy := hr y (h6 y (List.mem_cons_self ..))
      have e : decide ((y.length : Int) = (gs.length : Int) + 1) = decide (y.length = gs.length + 1) := by rw [decide_eq_decide]; omega
      have hc := fun S => s_is_form_row (fuel := fuel) (k := k) (S := S) hy.2 hy.1 gs.length rows.length
      rw [e] at hc
      simp only [List.all_cons] at h7
      cases h8 : (decide (y.length = gs.length + 1) && y.all (idxB · rows.length)) with
      | false =>
        rw [h8, Bool.false_and] at h7
        rw [h8] at hc
        have hf : formB gs rows good = false := by unfold formB; rw [h7]; simp
        simp -dsimp [hc, hf]
      | true =>
        rw [h8, Bool.true_and] at h7
        rw [h8] at hc
        simp -dsimp [hc]
        exact ⟨fun y hy => h6 y (List.mem_cons_of_mem _ hy), h7⟩
    · obtain ⟨rfl, ⟨a, b, c, rfl⟩, h6, h7⟩ := hI
      have hc := fun S => s_are_good (fuel := fuel) (k := k) (S := S) hg.2 hg.1 rows.length
      cases h8 : (good.all (idxB · rows.length) && ascB ltD good) with
      | false =>
        have hf : formB gs rows good = false := by unfold formB; rw [h8, Bool.and_false]
        rw [h8] at hc
        simp -dsimp [hc, hf]
      | true =>
        have hf : formB gs rows good = true := by
          unfold formB
          rw [h8, h7, h2, decide_eq_true h1]
          rfl
        rw [h8] at hc
        simp -dsimp [hc, hf]

theorem mem_digs {c : Nat} : c ∈ CS_DIGITS ↔ 48 ≤ c ∧ c < 58 := by
  unfold CS_DIGITS
  simp only [List.mem_cons, List.not_mem_nil, or_false]
  omega
theorem s_read_number {s : List Nat} (hl : s.length ≤ line) (hc : cp s) : callN fs fuel (k + 1) I_read_number [.str s] S = .ok (numD s) S := by
  refine eq_of_W (W_callN rfl rfl ?_)
  match s, hl, hc with
  | [], _, _ => simp -dsimp [F_read_number, numD, numB]
  | a :: b :: c :: r, hl, hc =>
    simp -dsimp [F_read_number, hc, len_str hl, show (2 : Int) < (r.length : Int) + 1 + 1 + 1 by omega, numD, numB]
  | [a], hl, hc =>
    simp only [cp_cons, cp_nil, and_true] at hc
    by_cases h0 : a = 48
    · subst h0
      simp -dsimp [F_read_number, len_str (s := [48]) (by decide), idx_str (s := [48]) (by decide), signs, W_forM_cons, W_forM_nil, mem_digs, numD, numB, show b1D .int (.str [48]) = some (.int 0) from int_d1 0 (by decide)]
    · by_cases h1 : 48 ≤ a ∧ a < 58
      · have e := int_d1 (a - 48) (by omega)
        rw [show 48 + (a - 48) = a by omega] at e
        simp -dsimp [F_read_number, hc, len_str (s := [a]) (by simp [line, PySem.sizeLine]), idx_str (s := [a]) (by simp [line, PySem.sizeLine]), h0, signs, W_forM_cons, W_forM_nil, mem_digs, h1, e, numD, numB]
        omega
      · simp -dsimp [F_read_number, hc, len_str (s := [a]) (by simp [line, PySem.sizeLine]), idx_str (s := [a]) (by simp [line, PySem.sizeLine]), h0, signs, W_forM_cons, W_forM_nil, mem_digs, h1, numD, numB]
  | [a, b], hl, hc =>
    simp only [cp_cons, cp_nil, and_true] at hc
    by_cases h0 : a = 48
    · subst h0
      simp -dsimp [F_read_number, hc, len_str (s := [48, b]) (by simp [line, PySem.sizeLine]), idx_str (s := [48, b]) (by simp [line, PySem.sizeLine]), numD, numB]
    · by_cases h1 : 48 ≤ a ∧ a < 58
      · by_cases h2 : 48 ≤ b ∧ b < 58
        · have e := int_d2 (a - 48) (by omega) (b - 48) (by omega)
          rw [show 48 + (a - 48) = a by omega, show 48 + (b - 48) = b by omega] at e
          simp -dsimp [F_read_number, hc, len_str (s := [a, b]) (by simp [line, PySem.sizeLine]), idx_str (s := [a, b]) (by simp [line, PySem.sizeLine]), h0, signs, W_forM_cons, W_forM_nil, mem_digs, h1, h2, e, numD, numB]
          rw [if_pos (by omega)]
          simp
          omega
        · simp -dsimp [F_read_number, hc, len_str (s := [a, b]) (by simp [line, PySem.sizeLine]), idx_str (s := [a, b]) (by simp [line, PySem.sizeLine]), h0, signs, W_forM_cons, W_forM_nil, mem_digs, h1, h2, numD, numB]
      · simp -dsimp [F_read_number, hc, len_str (s := [a, b]) (by simp [line, PySem.sizeLine]), idx_str (s := [a, b]) (by simp [line, PySem.sizeLine]), h0, signs, W_forM_cons, W_forM_nil, mem_digs, h1, numD, numB]
        rw [if_neg (by omega)]
theorem s_read_numbers {ss : List (List Nat)} (hn : ss.length ≤ line) (hl : ∀ s ∈ ss, s.length ≤ line ∧ cp s) : callN fs fuel (k + 2) I_read_numbers [.lst (ss.map .str)] S = .ok (.tup (ss.map numD)) S := by
  refine eq_of_W (W_callN rfl rfl ?_)
  simp -dsimp [F_read_numbers]
  refine W_mapT ss .str numD rfl hn rfl (fun s hs acc ha => ?_) ?_
  · simp -dsimp [ha, s_read_number (hl s hs).1 (hl s hs).2]
  simp -dsimp
theorem s_is_word {ds : List D} (hd : ∀ d ∈ ds, NR d) (hl : ds.length ≤ line) (m : Int) : callN fs fuel (k + 2) I_is_word [.tup ds, .int m, .non] S = .ok (.bl (ds.all (idxB · m))) S := by
  refine eq_of_W (W_callN rfl rfl ?_)
  simp -dsimp [F_is_word]
  refine W_mapT ds id (fun d => .bl (idxB d m)) (List.map_id ds).symm hl rfl (fun d hd' acc ha => ?_) ?_
  · simp -dsimp [ha, s_is_index (hd d hd')]
  simp -dsimp [all_map]
theorem s_law_line {d : D} {ds : List D} (hi : items d = some ds) (hr : NR d) (h : ∀ x ∈ ds, Says x) (hl : ((ds.map strD).map (·.length)).sum + ds.length + 1 ≤ line) : callN fs fuel (k + 1) I__law_line [d] S = .ok (.str (lineOf ds)) S := by
  refine (callN_succ rfl _ _).trans (line_ok hi hr h (by omega) (by omega) ?_)
  have := joinBy_len [32] (ds.map strD)
  simp only [List.length_map, List.length_cons, List.length_nil] at this
  simp only [lineOf, List.length_append, List.length_cons, List.length_nil]
  omega

/-! ### words -/
abbrev sWord : List Nat := [119, 111, 114, 100]
def OkW (w : List Int) : Prop := (∀ i ∈ w, 0 ≤ i ∧ i < 4) ∧ w.length ≤ 1000
def OkWs (ws : List (List Int)) : Prop := ws.length ≤ 4000 ∧ ∀ w ∈ ws, OkW w
def intsD (w : List Int) : D := .tup (w.map .int)
def wline (w : List Int) : List Nat := lineOf (.str sWord :: w.map .int)
def wtext (ws : List (List Int)) : List Nat := (ws.map wline).flatten
theorem Says_str (s : List Nat) : Says (.str s) := rfl
theorem Says_int {i : Int} (h0 : 0 ≤ i) (h : i < 2 ^ 60) : Says (.int i) := str_int h0 h
theorem sum_le {α : Type} (f : α → Nat) (n : Nat) : ∀ xs : List α, (∀ x ∈ xs, f x ≤ n) → (xs.map f).sum ≤ n * xs.length
  | [], _ => by simp
  | x :: xs, h => by
    have h1 := h x (List.mem_cons_self ..)
    have h2 := sum_le f n xs fun y hy => h y (List.mem_cons_of_mem _ hy)
    simp only [List.map_cons, List.sum_cons, List.length_cons, Nat.mul_add, Nat.mul_one]
    omega
theorem digs_len {w : List Int} (h : ∀ i ∈ w, 0 ≤ i ∧ i < 100) : ((w.map D.int).map strD |>.map (·.length)).sum ≤ 2 * w.length := by
  rw [List.map_map, List.map_map]
  exact sum_le _ 2 w fun i hi => (dec_props (h i hi).1 (h i hi).2).2.1
theorem OkW.h100 {w : List Int} (h : OkW w) : ∀ i ∈ w, 0 ≤ i ∧ i < 100 := fun i hi => ⟨(h.1 i hi).1, by have := (h.1 i hi).2; omega⟩
theorem says_ints {s : List Nat} {w : List Int} (h : ∀ i ∈ w, 0 ≤ i ∧ i < 100) : ∀ x ∈ (.str s :: w.map D.int), Says x := fun x hx => by
  rcases List.mem_cons.mp hx with rfl | hx
  · exact Says_str _
  · obtain ⟨i, hi, rfl⟩ := List.mem_map.mp hx
    exact Says_int (h i hi).1 (by have := (h i hi).2; omega)
theorem line_len {s : List Nat} {w : List Int} (h : ∀ i ∈ w, 0 ≤ i ∧ i < 100) : (((.str s :: w.map D.int).map strD).map (·.length)).sum + (D.str s :: w.map D.int).length + 1 ≤ s.length + 3 * w.length + 2 := by
  have := digs_len h
  simp only [List.map_cons, List.sum_cons, strD, List.length_cons, List.length_map] at *
  omega
theorem lineOf_len {s : List Nat} {w : List Int} (h : ∀ i ∈ w, 0 ≤ i ∧ i < 100) : (lineOf (.str s :: w.map D.int)).length ≤ s.length + 3 * w.length + 2 := by
  have h1 := joinBy_len [32] ((D.str s :: w.map D.int).map strD)
  have h2 := line_len (s := s) h
  simp only [List.length_map, List.length_cons, List.length_nil] at *
  simp only [lineOf, List.length_append, List.length_cons, List.length_nil]
  omega
theorem wline_len {w : List Int} (h : OkW w) : (wline w).length ≤ 3006 := by
  have h1 := lineOf_len (s := sWord) h.h100
  have := h.2
  simp only [wline, List.length_cons, List.length_nil] at *
  omega
theorem wtext_sum {ws : List (List Int)} (h : OkWs ws) : ((ws.map wline).map (·.length)).sum ≤ 12024000 := by
  rw [List.map_map]
  have := sum_le (fun w => (wline w).length) 3006 ws fun w hw => wline_len (h.2 w hw)
  have := h.1
  simp only [Function.comp_def]
  omega
theorem wtext_len {ws : List (List Int)} (h : OkWs ws) : (wtext ws).length ≤ 12024000 := by
  unfold wtext
  rw [List.length_flatten]
  exact wtext_sum h
theorem line_big {n : Nat} (h : n ≤ 16777216) : n ≤ line := h
/-- tokens of a line: no blank, no line end, code points -/
def Tok (z : List Nat) : Prop := 32 ∉ z ∧ 10 ∉ z ∧ cp z
theorem Tok_int {i : Int} (h0 : 0 ≤ i) (h : i < 100) : Tok (decI i) := by
  have := (dec_props h0 h).1
  exact ⟨fun e => by have := this _ e; omega, fun e => by have := this _ e; omega, cp_mem.mpr fun c hc => by have := this c hc; omega⟩
theorem split_toks {zs : List (List Nat)} (hne : zs ≠ []) (h : ∀ z ∈ zs, Tok z) : splitAt1 32 (joinBy [32] zs) = zs := split_join 32 zs hne fun z hz => (h z hz).1
theorem toks_no10 {zs : List (List Nat)} (h : ∀ z ∈ zs, Tok z) : 10 ∉ joinBy [32] zs := fun hc => by
  rcases mem_joinBy [32] 10 zs hc with h1 | ⟨z, hz, h1⟩
  · simp at h1
  · exact (h z hz).2.1 h1
theorem toks_cp {zs : List (List Nat)} (h : ∀ z ∈ zs, Tok z) : cp (joinBy [32] zs) := cp_joinBy (by simp) fun z hz => (h z hz).2.2
def wl (w : List Int) : List Nat := joinBy [32] (sWord :: w.map decI)
theorem wline_wl (w : List Int) : wline w = wl w ++ [10] := by
  unfold wline wl lineOf
  rw [List.map_cons, List.map_map]
  rfl
theorem wl_tok {w : List Int} (h : OkW w) : ∀ z ∈ sWord :: w.map decI, Tok z := fun z hz => by
  rcases List.mem_cons.mp hz with rfl | hz
  · exact ⟨by decide, by decide, by simp⟩
  · obtain ⟨i, hi, rfl⟩ := List.mem_map.mp hz
    exact Tok_int (h.h100 i hi).1 (h.h100 i hi).2
theorem wl_len {w : List Int} (h : OkW w) : (wl w).length ≤ 3006 := by
  have := wline_len h
  rw [wline_wl, List.length_append] at this
  omega
theorem wtext_split {ws : List (List Int)} (h : OkWs ws) : splitAt1 10 (wtext ws) = ws.map wl ++ [[]] := by
  have e : wtext ws = ((ws.map wl).map (· ++ [10])).flatten := by
    unfold wtext
    rw [List.map_map]
    congr 1
    exact List.map_congr_left fun w _ => wline_wl w
  rw [e]
  refine split_lines 10 _ fun l hl => ?_
  obtain ⟨w, hw, rfl⟩ := List.mem_map.mp hl
  exact toks_no10 (wl_tok (h.2 w hw))
theorem wtext_cp {ws : List (List Int)} (h : OkWs ws) : cp (wtext ws) := by
  unfold wtext
  rw [cp_flatten]
  intro s hs
  obtain ⟨w, hw, rfl⟩ := List.mem_map.mp hs
  rw [wline_wl, cp_append]
  exact ⟨toks_cp (wl_tok (h.2 w hw)), by simp⟩
theorem numD_dec {w : List Int} (h : ∀ i ∈ w, 0 ≤ i ∧ i < 100) : (w.map decI).map numD = w.map .int := by
  rw [List.map_map]
  refine List.map_congr_left fun i hi => ?_
  show numD (decI i) = _
  unfold numD
  rw [num_dec (h i hi).1 (h i hi).2]
end K93
end
section
set_option Elab.async false
set_option linter.all false
set_option maxRecDepth 100000
set_option maxHeartbeats 4000000
namespace K93
open MP
variable {fuel k : Nat} {S : DS}
abbrev sGroups : List Nat := [103, 114, 111, 117, 112, 115]
abbrev sState : List Nat := [115, 116, 97, 116, 101]
abbrev sGood : List Nat := [103, 111, 111, 100]
theorem pls_iff {n : Nat} : ∀ {xs : List D}, D.pls n xs = true ↔ ∀ x ∈ xs, D.pl n x = true
  | [] => by simp [D.pls]
  | x :: xs => by simp [D.pls, pls_iff (xs := xs)]
theorem eq_lst_nil {xs : List D} (h : ∀ x ∈ xs, D.pl 59 x = true) : cmpD .eq (.lst xs) (.lst []) = some (decide (xs = [])) := by
  have h1 : D.pl 60 (.lst xs) = true := by
    show D.pls 59 xs = true
    exact pls_iff.mpr h
  rw [eq_pl h1 (by simp [D.pl, D.pls])]
  simp
theorem t_groups {n : Nat} (hS : S[n]? = some (.lst [])) {w0 : List Nat} (h0 : cp w0) {gs : List (List Nat)} (hn : gs.length ≤ line) (hl : ∀ g ∈ gs, g.length ≤ line ∧ cp g) :
    callN fs fuel (k + 3) I_takes_form_line [.ref n, .lst (.str w0 :: gs.map .str)] S = .ok (.bl (decide (w0 = sGroups) && grpsB gs)) (S.set n (.lst [.tup (gs.map .str)])) := by
  refine eq_of_W (W_callN rfl rfl ?_)
  have hx := lt_of_get hS
  have ev : view (.ref n) (S.set n (.lst [.tup (gs.map .str)])) = .ok (.lst [.tup (gs.map .str)]) (S.set n (.lst [.tup (gs.map .str)])) := view_rf (set_at hx _)
  simp -dsimp [F_takes_form_line, view_rf hS, eq_lst_nil (xs := []) (by simp), chkL_rf hS, appM_rf hS (show ([] : List D).length < line by decide), h0, ev, s_are_groups hn hl]
  by_cases e : w0 = sGroups <;> simp -dsimp [e]
section
variable {n : Nat} {xs : List D} {w0 : List Nat} {ss : List (List Nat)} {ts hs : List D}
/-- a line behind the first one -/
theorem t_more (hS : S[n]? = some (.lst xs)) (hx : cmpD .eq (.lst xs) (.lst []) = some false) (h0 : cp w0) (hn : ss.length < line) (hl : ∀ s ∈ ss, s.length ≤ line ∧ cp s) (hxl : xs.length < line)
    (h2 : ix (xs ++ [.tup (.str w0 :: ss.map numD)]) (-2) = some (.tup ts)) (ht : cmpD .eq (.tup (ts.take 1)) (.tup [.str sGood]) = some false) (hh : xs[0]? = some (.tup hs)) {P X}
    (h : if w0 = sState then P (.bl (decide (xs.length ≤ 4) && (decide (ss.length = hs.length + 1) && (ss.map numD).all (idxB · 4)))) (S.set n (.lst (xs ++ [.tup (.str w0 :: ss.map numD)])))
      else if w0 = sGood ∧ 2 ≤ xs.length then ∃ fo d, callN fs fuel (k + 3) I_form_of [.ref n] (S.set n (.lst (xs ++ [.tup (.str w0 :: ss.map numD)]))) = .ok fo (S.set n (.lst (xs ++ [.tup (.str w0 :: ss.map numD)]))) ∧ callN fs fuel (k + 3) I_form_fault [fo] (S.set n (.lst (xs ++ [.tup (.str w0 :: ss.map numD)]))) = .ok d (S.set n (.lst (xs ++ [.tup (.str w0 :: ss.map numD)]))) ∧ NR d ∧ P (.bl (decide (d = .non))) (S.set n (.lst (xs ++ [.tup (.str w0 :: ss.map numD)])))
      else P (.bl false) (S.set n (.lst (xs ++ [.tup (.str w0 :: ss.map numD)])))) :
    W (callN fs fuel (k + 4) I_takes_form_line [.ref n, .lst (.str w0 :: ss.map .str)] S) P X := by
  refine W_callN rfl rfl ?_
  have hi := lt_of_get hS
  obtain ⟨nw, hnw⟩ : ∃ nw, nw = D.tup (.str w0 :: ss.map numD) := ⟨_, rfl⟩
  obtain ⟨S1, hS1⟩ : ∃ S1, S1 = S.set n (.lst (xs ++ [nw])) := ⟨_, rfl⟩
  rw [← hnw] at h h2
  rw [← hS1] at h
  have ea := appM_rf hS hxl nw
  rw [← hS1] at ea
  have ev : view (.ref n) S1 = .ok (.lst (xs ++ [nw])) S1 := view_rf (by rw [hS1]; exact set_at hi _)
  have en : binD .add (.tup [.str w0]) (.tup (ss.map numD)) = some nw := by
    rw [add_tup (by simp only [List.length_cons, List.length_nil, List.length_map]; omega), hnw]
    rfl
  have e1 : ix (xs ++ [nw]) (-1) = some nw := by rw [ix_m1]; exact lst_init _ _
  have e0 : ix (xs ++ [nw]) 0 = some (.tup hs) := by
    rw [ix_0, List.getElem?_append_left (List.getElem?_eq_some_iff.mp hh).1]
    exact hh
  have es : slD nw (.int 1) .non = some (.tup (ss.map numD)) := by rw [hnw]; rfl
  have hv : view nw S1 = .ok nw S1 := by rw [hnw]; rfl
  have hlen : ((xs ++ [nw]).length : Int) = xs.length + 1 := by simp
  generalize hys : xs ++ [nw] = ys at *
  rw [ix_m1] at e1
  rw [ix_0] at e0
  simp -dsimp [F_takes_form_line, view_rf hS, hx, chkL_rf hS, s_read_numbers (Nat.le_of_lt hn) hl, en, ea, ev, h2, ht, h0, hlen]
  by_cases hw : w0 = sState
  · rw [if_pos hw] at h
    have hr : ∀ S, callN fs fuel (k + 3) I_is_form_row [.tup (ss.map numD), .int hs.length, .int 4] S = .ok (.bl (decide (ss.length = hs.length + 1) && (ss.map numD).all (idxB · 4))) S := fun S => by
      rw [s_is_form_row (fun d hd => by obtain ⟨s, _, rfl⟩ := List.mem_map.mp hd; exact NR_numD s) (by rw [List.length_map]; omega), List.length_map]
      congr 3
      rw [decide_eq_decide]
      omega
    by_cases h4 : xs.length ≤ 4
    · simp -dsimp [hw, e1, hv, es, e0, ev, hlen, hr, show ((xs.length : Int) + 1 ≤ 5) by omega]
      rw [decide_eq_true h4, Bool.true_and, List.all_map] at h
      exact h
    · simp -dsimp [hw, ev, hlen, show ¬ ((xs.length : Int) + 1 ≤ 5) by omega]
      rw [decide_eq_false h4, Bool.false_and] at h
      exact h
  · rw [if_neg hw] at h
    simp -dsimp [hw]
    by_cases hg : w0 = sGood
    · by_cases h3 : 2 ≤ xs.length
      · rw [if_pos ⟨hg, h3⟩] at h
        obtain ⟨fo, d, q1, q2, q3, q4⟩ := h
        simp -dsimp [hg, ev, hlen, show (2 : Int) < (xs.length : Int) + 1 by omega, q1, q2, view_nr q3]
        exact q4
      · rw [if_neg (fun q => h3 q.2)] at h
        simp -dsimp [hg, ev, hlen, show ¬ (2 : Int) < (xs.length : Int) + 1 by omega, h]
    · rw [if_neg (fun q => hg q.1)] at h
      simp -dsimp [hg, h]
end

theorem s_form_of {n : Nat} {g0 : D} {rs : List (List D)} {gd : List D} {w0 : D} (hS : S[n]? = some (.lst (g0 :: rs.map (fun r => .tup (w0 :: r)) ++ [.tup (.str sGood :: gd)]))) (hl : rs.length ≤ line) :
    callN fs fuel (k + 1) I_form_of [.ref n] S = .ok (.tup [g0, .tup (rs.map .tup), .tup gd]) S := by
  refine eq_of_W (W_callN rfl rfl ?_)
  obtain ⟨ys, hys⟩ : ∃ ys, ys = g0 :: rs.map (fun r => D.tup (w0 :: r)) ++ [.tup (.str sGood :: gd)] := ⟨_, rfl⟩
  rw [← hys] at hS
  have e0 : ys[0]? = some g0 := by rw [hys]; rfl
  have e1 : ys[ys.length - 1]? = some (.tup (.str sGood :: gd)) := by rw [hys]; exact lst_init _ _
  have e2 : ys.dropLast.tail = rs.map (fun r => D.tup (w0 :: r)) := by rw [hys, List.dropLast_concat]; rfl
  simp -dsimp [F_form_of, view_rf hS, e0, e2]
  refine W_mapT rs (fun r => .tup (w0 :: r)) .tup rfl hl rfl (fun r hr acc ha => ?_) ?_
  · simp -dsimp [ha]
  simp -dsimp [view_rf hS, e1]
end K93
end
section
set_option Elab.async false
set_option linter.all false
set_option maxRecDepth 100000
set_option maxHeartbeats 4000000
namespace K93
open MP
variable {fuel k : Nat} {S : DS}
structure Form where
  gs : List (List Nat)
  rows : List (List Int)
  good : List Int
def Form.d (f : Form) : D := .tup [.tup (f.gs.map .str), .tup (f.rows.map intsD), .tup (f.good.map .int)]
structure Form.Ok (f : Form) : Prop where
  b : formB f.gs (f.rows.map (·.map .int)) (f.good.map .int) = true
  gl : f.good.length ≤ 4
def lg (f : Form) : List (List Nat) := sGroups :: f.gs
def lr (r : List Int) : List (List Nat) := sState :: r.map decI
def lgd (f : Form) : List (List Nat) := sGood :: f.good.map decI
def Form.ys (f : Form) : List (List (List Nat) × D) := (lg f, .tup (f.gs.map .str)) :: f.rows.map (fun r => (lr r, .tup (.str sState :: r.map .int))) ++ [(lgd f, .tup (.str sGood :: f.good.map .int))]
def ftext (f : Form) : List Nat := (f.ys.map fun y => joinBy [32] y.1 ++ [10]).flatten
section
variable {f : Form}
theorem Form.Ok.parts (h : f.Ok) : (1 ≤ f.rows.length ∧ f.rows.length ≤ 4) ∧ grpsB f.gs = true ∧ (∀ r ∈ f.rows, r.length = f.gs.length + 1 ∧ ∀ i ∈ r, 0 ≤ i ∧ i < f.rows.length) ∧ (∀ i ∈ f.good, 0 ≤ i ∧ i < f.rows.length) := by
  have := h.b
  unfold formB at this
  simp only [Bool.and_eq_true, decide_eq_true_eq, List.length_map, List.all_eq_true, List.mem_map, forall_exists_index, and_imp, forall_apply_eq_imp_iff₂, idxB] at this
  obtain ⟨⟨⟨h1, h2⟩, h3⟩, h4, _⟩ := this
  exact ⟨h1, h2, fun r hr => ⟨by simpa using (h3 r hr).1, fun i hi => by simpa using (h3 r hr).2 i hi⟩, fun i hi => by simpa using h4 i hi⟩
theorem grps_parts {gs : List (List Nat)} (h : grpsB gs = true) : gs.length ≤ 3 ∧ ∀ g ∈ gs, g.length ≤ 26 ∧ Tok g := by
  unfold grpsB at h
  simp only [Bool.and_eq_true, decide_eq_true_eq] at h
  refine ⟨h.1.1, fun g hg => ?_⟩
  have hb := List.all_eq_true.mp h.1.2 g hg
  have hl := grp_len hb
  unfold grpB at hb
  simp only [Bool.and_eq_true] at hb
  have hc : ∀ c ∈ g, 97 ≤ c ∧ c < 123 := fun c hc => by
    have := of_decide_eq_true (List.all_eq_true.mp hb.1.2 c hc)
    revert this
    unfold CS_LETTERS
    simp only [List.mem_cons, List.not_mem_nil, or_false]
    omega
  exact ⟨hl, fun e => by have := hc _ e; omega, fun e => by have := hc _ e; omega, cp_mem.mpr fun c h => by have := hc c h; omega⟩
theorem Tok_ints {s : List Nat} (hs : Tok s) {w : List Int} (h : ∀ i ∈ w, 0 ≤ i ∧ i < 100) : ∀ z ∈ s :: w.map decI, Tok z := fun z hz => by
  rcases List.mem_cons.mp hz with rfl | hz
  · exact hs
  · obtain ⟨i, hi, rfl⟩ := List.mem_map.mp hz
    exact Tok_int (h i hi).1 (h i hi).2
theorem len_ints {w : List Int} (h : ∀ i ∈ w, 0 ≤ i ∧ i < 100) : ∀ z ∈ w.map decI, z.length ≤ 2 := fun z hz => by
  obtain ⟨i, hi, rfl⟩ := List.mem_map.mp hz
  exact (dec_props (h i hi).1 (h i hi).2).2.1
theorem toks_len {n : Nat} {zs : List (List Nat)} (h : ∀ z ∈ zs, z.length ≤ n) : (joinBy [32] zs).length ≤ (n + 1) * zs.length := by
  have h1 := joinBy_len [32] zs
  have h2 := sum_le (·.length) n zs h
  simp only [List.length_cons, List.length_nil, Nat.add_mul, Nat.one_mul] at *
  omega
theorem Form.Ok.row100 (h : f.Ok) {r : List Int} (hr : r ∈ f.rows) : ∀ i ∈ r, 0 ≤ i ∧ i < 100 := fun i hi => by
  have := (h.parts.2.2.1 r hr).2 i hi
  have := h.parts.1
  omega
theorem Form.Ok.good100 (h : f.Ok) : ∀ i ∈ f.good, 0 ≤ i ∧ i < 100 := fun i hi => by
  have := h.parts.2.2.2 i hi
  have := h.parts.1
  omega
/-- all lines -/
theorem ys_tok (h : f.Ok) : ∀ y ∈ f.ys, y.1 ≠ [] ∧ (∀ z ∈ y.1, Tok z ∧ z.length ≤ 26) ∧ y.1.length ≤ 5 := by
  obtain ⟨h1, h2, h3, h4⟩ := h.parts
  obtain ⟨g1, g2⟩ := grps_parts h2
  intro y hy
  simp only [Form.ys, List.mem_append, List.mem_cons, List.mem_map, List.not_mem_nil, or_false] at hy
  rcases hy with (rfl | ⟨r, hr, rfl⟩) | rfl
  · refine ⟨by simp [lg], fun z hz => ?_, by simp only [lg, List.length_cons]; omega⟩
    rcases List.mem_cons.mp hz with rfl | hz
    · exact ⟨⟨by decide, by decide, by simp⟩, by decide⟩
    · exact ⟨(g2 z hz).2, (g2 z hz).1⟩
  · have hi := h.row100 hr
    have := (h3 r hr).1
    refine ⟨by simp [lr], fun z hz => ⟨Tok_ints ⟨by decide, by decide, by simp⟩ hi z hz, ?_⟩, by simp only [lr, List.length_cons, List.length_map]; omega⟩
    rcases List.mem_cons.mp hz with rfl | hz
    · decide
    · have := len_ints hi z hz; omega
  · have hi := h.good100
    have := h.gl
    refine ⟨by simp [lgd], fun z hz => ⟨Tok_ints ⟨by decide, by decide, by simp⟩ hi z hz, ?_⟩, by simp only [lgd, List.length_cons, List.length_map]; omega⟩
    rcases List.mem_cons.mp hz with rfl | hz
    · decide
    · have := len_ints hi z hz; omega
theorem ys_len (h : f.Ok) : f.ys.length ≤ 6 := by
  have := h.parts.1
  simp only [Form.ys, List.length_append, List.length_cons, List.length_map, List.length_nil]
  omega
theorem yline_len (h : f.Ok) {y} (hy : y ∈ f.ys) : (joinBy [32] y.1).length ≤ 135 := by
  obtain ⟨_, h2, h3⟩ := ys_tok h y hy
  have := toks_len (n := 26) fun z hz => (h2 z hz).2
  omega
theorem ftext_len (h : f.Ok) : (ftext f).length ≤ 816 := by
  unfold ftext
  rw [List.length_flatten, List.map_map]
  have := sum_le (List.length ∘ fun y : List (List Nat) × D => joinBy [32] y.1 ++ [10]) 136 f.ys fun y hy => by
    have := yline_len h hy
    simp only [Function.comp_apply, List.length_append, List.length_cons, List.length_nil]
    omega
  have := ys_len h
  omega
theorem ftext_split (h : f.Ok) : splitAt1 10 (ftext f) = f.ys.map (fun y => joinBy [32] y.1) ++ [[]] := by
  have e : ftext f = ((f.ys.map fun y => joinBy [32] y.1).map (· ++ [10])).flatten := by
    unfold ftext
    rw [List.map_map]
    rfl
  rw [e]
  refine split_lines 10 _ fun l hl => ?_
  obtain ⟨y, hy, rfl⟩ := List.mem_map.mp hl
  exact toks_no10 fun z hz => ((ys_tok h y hy).2.1 z hz).1
theorem ftext_cp (h : f.Ok) : cp (ftext f) := by
  unfold ftext
  rw [cp_flatten]
  intro s hs
  obtain ⟨y, hy, rfl⟩ := List.mem_map.mp hs
  rw [cp_append]
  exact ⟨toks_cp fun z hz => ((ys_tok h y hy).2.1 z hz).1, by simp⟩
theorem ys_front (f : Form) : f.ys.dropLast = (lg f, .tup (f.gs.map .str)) :: f.rows.map (fun r => (lr r, .tup (.str sState :: r.map .int))) := by
  unfold Form.ys
  rw [List.dropLast_concat]
theorem pl_row {s : List Nat} (hs : cp s) (w : List Int) (n : Nat) : D.pl (n + 1) (.tup (.str s :: w.map .int)) = true := by
  show D.pls n _ = true
  rw [pls_iff]
  intro x hx
  rcases List.mem_cons.mp hx with rfl | hx
  · exact cp_pl hs n
  · obtain ⟨i, _, rfl⟩ := List.mem_map.mp hx
    simp [D.pl]
theorem pl_strs {gs : List (List Nat)} (h : ∀ g ∈ gs, cp g) (n : Nat) : D.pl (n + 1) (.tup (gs.map .str)) = true := by
  show D.pls n _ = true
  rw [pls_iff]
  intro x hx
  obtain ⟨g, hg, rfl⟩ := List.mem_map.mp hx
  exact cp_pl (h g hg) n
theorem ys_pl (h : f.Ok) : ∀ y ∈ f.ys, D.pl 59 y.2 = true := by
  obtain ⟨h1, h2, h3, h4⟩ := h.parts
  obtain ⟨g1, g2⟩ := grps_parts h2
  intro y hy
  simp only [Form.ys, List.mem_append, List.mem_cons, List.mem_map, List.not_mem_nil, or_false] at hy
  rcases hy with (rfl | ⟨r, hr, rfl⟩) | rfl
  · exact pl_strs (fun g hg => (g2 g hg).2.2.2) 58
  · exact pl_row (by simp) r 58
  · exact pl_row (by simp) f.good 58
theorem not_good {ts : List D} (hp : D.pl 60 (.tup (ts.take 1)) = true) (h : ts.take 1 ≠ [.str sGood]) : cmpD .eq (.tup (ts.take 1)) (.tup [.str sGood]) = some false := by
  rw [eq_pl hp (by decide)]
  simp [h]
theorem ys_ng (h : f.Ok) : ∀ y ∈ f.ys.dropLast, ∃ ts, y.2 = .tup ts ∧ cmpD .eq (.tup (ts.take 1)) (.tup [.str sGood]) = some false := by
  obtain ⟨h1, h2, h3, h4⟩ := h.parts
  obtain ⟨g1, g2⟩ := grps_parts h2
  intro y hy
  rw [ys_front] at hy
  rcases List.mem_cons.mp hy with rfl | hy
  · refine ⟨_, rfl, not_good ?_ ?_⟩
    · rw [← List.map_take]
      exact pl_strs (fun g hg => (g2 g (List.mem_of_mem_take hg)).2.2.2) 59
    · intro e
      rw [← List.map_take] at e
      have hg : sGood ∈ f.gs := by
        have : D.str sGood ∈ (f.gs.take 1).map D.str := by rw [e]; simp
        obtain ⟨g, hg, e⟩ := List.mem_map.mp this
        cases e
        exact List.mem_of_mem_take hg
      unfold grpsB at h2
      simp only [Bool.and_eq_true] at h2
      have := List.all_eq_true.mp h2.1.2 _ hg
      revert this
      decide
  · obtain ⟨r, hr, rfl⟩ := List.mem_map.mp hy
    refine ⟨_, rfl, not_good (pl_row (by simp) [] 59) ?_⟩
    simp
theorem ix_m2 {α : Type} {xs : List α} {x : α} (a : α) (h : xs.getLast? = some x) : ix (xs ++ [a]) (-2) = some x := by
  have hne : xs ≠ [] := by intro e; subst e; simp at h
  have hl := List.length_pos_iff.mpr hne
  unfold ix
  rw [if_pos (by decide), if_pos (by simp only [List.length_append, List.length_cons, List.length_nil]; omega)]
  rw [show ((xs ++ [a]).length + (-2 : Int)).toNat = xs.length - 1 by simp only [List.length_append, List.length_cons, List.length_nil]; omega]
  rw [List.getElem?_append_left (by omega), ← List.getLast?_eq_getElem?]
  exact h
theorem done_front {α : Type} {l d us : List α} {y : α} (e : l = d ++ y :: us) : ∀ z ∈ d, z ∈ l.dropLast := by
  intro z hz
  rw [e, List.dropLast_append_of_ne_nil (by simp)]
  exact List.mem_append_left _ hz
/-- the lines that were taken -/
theorem ys_snd (f : Form) : f.ys.map (·.2) = .tup (f.gs.map .str) :: (f.rows.map (·.map D.int)).map (fun r => .tup (.str sState :: r)) ++ [.tup (.str sGood :: f.good.map .int)] := by
  simp [Form.ys]
theorem joinBy_ss (w : List (List Nat)) (s : List Nat) : lineOf (.str s :: w.map .str) = joinBy [32] (s :: w) ++ [10] := by
  unfold lineOf
  rw [List.map_cons, List.map_map]
  congr 2
  show s :: _ = _
  congr 1
  simp [Function.comp_def, strD]
theorem joinBy_si (w : List Int) (s : List Nat) : lineOf (.str s :: w.map .int) = joinBy [32] (s :: w.map decI) ++ [10] := by
  unfold lineOf
  rw [List.map_cons, List.map_map]
  rfl
theorem ftext_eq (f : Form) : ftext f = lineOf (.str sGroups :: f.gs.map .str) ++ ((f.rows.map fun r => lineOf (.str sState :: r.map .int)).flatten ++ lineOf (.str sGood :: f.good.map .int)) := by
  unfold ftext Form.ys
  simp only [List.map_append, List.map_cons, List.map_nil, List.flatten_append, List.flatten_cons, List.flatten_nil, List.append_nil, List.cons_append, joinBy_ss, joinBy_si, List.append_assoc, List.map_map]
  congr 2
end
end K93
end
section
set_option Elab.async false
set_option linter.all false
set_option maxRecDepth 100000
set_option maxHeartbeats 4000000
namespace K93
open MP
variable {fuel k : Nat} {S : DS}
theorem W_draw {n : Nat} {b : Int} {P X} (h : Pen n S) (hb : 0 < b) (hb2 : b < 1606938044258990275541962092341162602522202993782792835301376) (hP : ∀ d S', 0 ≤ d → d < b → PS' n S S' → P (.int d) S') : W (callN fs fuel (k + 2) I__law_draw [.ref n, .int b] S) P X := by
  obtain ⟨d, S', e, h1, h2, h3⟩ := draw_call (T := fs) (fuel := fuel) (k := k) (dr := I__law_draw) (fr := I__law_fresh) rfl rfl h hb (Nat.lt_trans (log2_small (k := 200) (by omega) (by decide)) (by decide))
  rw [e]
  exact hP d S' h1 h2 h3
theorem W_one_of {n : Nat} {xs : List D} {P X} (h : Pen n S) (h0 : xs ≠ []) (h1 : xs.length < 1000) (hP : ∀ d S', d ∈ xs → PS' n S S' → P d S') : W (callN fs fuel (k + 3) I__law_one_of [.ref n, .lst xs] S) P X := by
  obtain ⟨d, S', e, h1, h2⟩ := one_of_ok (T := fs) (fuel := fuel) (k := k) (dr := I__law_draw) (fr := I__law_fresh) rfl rfl h h0 h1
  refine W_of_eq ((callN_succ rfl _ _).trans e) (hP d S' h1 h2)
theorem W_word {n : Nat} {c : Int} {m : Nat} {P X} (h : Pen n S) (hc : 0 < c) (hc2 : c < 1606938044258990275541962092341162602522202993782792835301376) (hm : m < 1000) (hP : ∀ w S', IsWord c m w → PS' n S S' → P (intsD w) S') : W (callN fs fuel (k + 3) I__law_word [.ref n, .int c, .int m] S) P X := by
  obtain ⟨w, S', e, h1, h2⟩ := word_ok (T := fs) (fuel := fuel) (k := k) (dr := I__law_draw) (fr := I__law_fresh) rfl rfl h hc (Nat.lt_trans (log2_small (k := 200) (by omega) (by decide)) (by decide)) hm
  refine W_of_eq ((callN_succ rfl _ _).trans e) (hP w S' h1 h2)
theorem W_pen {ns : List Int} {P X} (hl : ns.length ≤ 63) (hP : ∀ S', Pen S.length S' → Ext S S' → P (.ref S.length) S') : W (callN fs fuel (k + 1) I__law_pen [.lst (ns.map .int)] S) P X := by
  refine W_callN rfl rfl ?_
  have e : l1D .list (.lst (ns.map .int)) = some (ns.map .int) := rfl
  have e2 : cut (ns.map D.int) .non (.int 63) = some (ns.map .int) := by
    rw [show (63 : Int) = ((63 : Nat) : Int) from rfl, cut_to, List.take_of_length_le (by simpa using hl)]
  simp -dsimp [F__law_pen, e, e2]
  exact hP _ ⟨ns, 0, 0, get_last _ _⟩ (Ext.add _)
end K93
end
section
set_option Elab.async false
set_option linter.all false
set_option maxRecDepth 100000
set_option maxHeartbeats 4000000
namespace K93
open MP
variable {fuel k : Nat} {S : DS}
theorem ltD_asc (w : List Int) (h : w.Pairwise (· < ·)) : ascB ltD (w.map .int) = true := by
  have e : ascB ltD (w.map .int) = ascB (fun a b => decide (a < b)) w := by
    unfold ascB
    rw [pairsOf_map, List.all_map]
    rfl
  rw [e, ascB_pairwise (fun a b c h1 h2 => by simp only [decide_eq_true_eq] at *; omega)]
  exact h.imp fun h => decide_eq_true h
/-- what is left of the letters, the groups -/
structure LI (ls : List Nat) (gs : List (List Nat)) : Prop where
  nd : (ls ++ gs.flatten).Nodup
  al : ∀ c ∈ ls ++ gs.flatten, c ∈ CS_LETTERS
  ln : ls.length + gs.flatten.length = 6
  g : ∀ g ∈ gs, grpB g = true ∧ g.length ≤ 2
theorem LI.flat {ls gs} (h : LI ls gs) : gs.flatten.length ≤ 2 * gs.length := flat_len gs fun g hg => (h.g g hg).2
/-- a group of the letters that were taken -/
def grpOf : List Nat → List Nat
  | [c, d] => if c < d then [c, d] else [d, c]
  | cs => cs
theorem grpOf_perm (cs : List Nat) : (grpOf cs).Perm cs := by
  unfold grpOf
  split
  · split
    · exact .refl _
    · exact .swap _ _ _
  · exact .refl _
theorem LI.step {ls ls' cs gs} (h : LI ls gs) (hp : (ls' ++ cs).Perm ls) (h1 : cs.length = 1 ∨ cs.length = 2) : LI ls' (gs ++ [grpOf cs]) := by
  have hg := grpOf_perm cs
  have hp2 : (ls' ++ (gs ++ [grpOf cs]).flatten).Perm (ls ++ gs.flatten) := by
    rw [List.flatten_append]
    simp only [List.flatten_cons, List.flatten_nil, List.append_nil]
    refine List.Perm.trans ?_ (hp.append_right gs.flatten)
    rw [List.append_assoc]
    refine List.Perm.append_left ls' ?_
    exact (List.perm_append_comm).trans (hg.append_right _)
  refine ⟨hp2.nodup_iff.mpr h.nd, fun c hc => h.al c (hp2.mem_iff.mp hc), ?_, fun g hgm => ?_⟩
  · have e1 := hp2.length_eq
    rw [List.length_append, List.length_append] at e1
    have := h.ln
    omega
  · rcases List.mem_append.mp hgm with hgm | hgm
    · exact h.g g hgm
    · rw [List.mem_singleton.mp hgm]
      have hsub : ∀ c ∈ cs, c ∈ CS_LETTERS := fun c hc => h.al c (List.mem_append_left _ (hp.mem_iff.mp (List.mem_append_right _ hc)))
      have hnd : cs.Nodup := by
        have := hp.nodup_iff.mpr (List.nodup_append.mp h.nd).1
        exact (List.nodup_append.mp this).2.1
      refine ⟨?_, by rw [hg.length_eq]; omega⟩
      match cs, h1, hsub, hnd with
      | [c], _, hs, _ => simp [grpOf, grpB, ascB, pairsOf, hs c (by simp)]
      | [c, d], _, hs, hn =>
        have hc := hs c (by simp)
        have hd := hs d (by simp)
        have hne : c ≠ d := by simpa using hn
        by_cases hlt : c < d
        · simp [grpOf, grpB, ascB, pairsOf, hc, hd, hlt]
        · simp [grpOf, grpB, ascB, pairsOf, hc, hd, hlt]
          omega
theorem sort_grp {cs : List Nat} (h1 : cs.length = 1 ∨ cs.length = 2) : ∃ zs : List (List Nat), l1D .sorted (.lst (signs cs)) = some (zs.map .str) ∧ zs.flatten = grpOf cs ∧ zs.length ≤ 2 ∧ (∀ z ∈ zs, z.length = 1) := by
  match cs, h1 with
  | [c], _ => exact ⟨[[c]], rfl, rfl, by simp, by simp⟩
  | [c, d], _ =>
    have e : l1D .sorted (.lst (signs [c, d])) = some ((insStr [c] [[d]]).map .str) := rfl
    have e2 : insStr [c] [[d]] = if ([c] : List Nat) < [d] then [[c], [d]] else [d] :: insStr [c] [] := rfl
    have e3 : ([c] : List Nat) < [d] ↔ c < d := by simp [List.cons_lt_cons_iff]
    by_cases hlt : c < d
    · refine ⟨[[c], [d]], ?_, by simp [grpOf, hlt], by simp, by simp⟩
      rw [e, e2, if_pos (e3.mpr hlt)]
    · refine ⟨[[d], [c]], ?_, by simp [grpOf, hlt], by simp, by simp⟩
      rw [e, e2, if_neg (fun h => hlt (e3.mp h))]
      rfl
end K93
end
section
set_option Elab.async false
set_option linter.all false
set_option maxRecDepth 100000
set_option maxHeartbeats 4000000
namespace K93
open MP
variable {fuel k : Nat} {S : DS}
theorem l1_abc : l1D .list (.str [97, 98, 99, 120, 121, 122]) = some (signs [97, 98, 99, 120, 121, 122]) := by
  simp only [l1D]
  rw [if_pos (line_big (by decide))]
/-- ahead of a lap of the groups' loop -/
def FI (n A : Nat) (S : DS) (us : List D) (σ : MP.Env) (S' : DS) : Prop := ∃ ls gs b1 b7, σ = [some (.ref n), b1, none, none, none, some (.ref A), some (.ref (A + 1)), b7, none, none, none] ∧ PS' n S S' ∧ S'[A]? = some (.lst (signs ls)) ∧ S'[A + 1]? = some (.lst (gs.map .str)) ∧ LI ls gs ∧ gs.length + us.length ≤ 3
def FC (n A : Nat) (S : DS) (ls : List Nat) (gs : List (List Nat)) (m : Nat) (zs acc : List D) (S' : DS) : Prop := ∃ ls' cs, acc = signs cs ∧ PS' n S S' ∧ S'[A]? = some (.lst (signs ls')) ∧ S'[A + 1]? = some (.lst (gs.map .str)) ∧ (ls' ++ cs).Perm ls ∧ cs.length + zs.length = m
def FR (n A : Nat) (S : DS) (gs : List (List Nat)) (st : Int) (zs acc : List D) (S' : DS) : Prop := ∃ rs : List (List Int), acc = rs.map intsD ∧ PS' n S S' ∧ S'[A + 1]? = some (.lst (gs.map .str)) ∧ (∀ r ∈ rs, r.length = gs.length + 1 ∧ ∀ i ∈ r, 0 ≤ i ∧ i < st) ∧ rs.length + zs.length = st.toNat
def FR2 (n A : Nat) (S : DS) (gs : List (List Nat)) (st : Int) (zs acc : List D) (S' : DS) : Prop := ∃ r : List Int, acc = r.map .int ∧ PS' n S S' ∧ S'[A + 1]? = some (.lst (gs.map .str)) ∧ (∀ i ∈ r, 0 ≤ i ∧ i < st) ∧ r.length + zs.length = gs.length + 1
def FG (n A : Nat) (S : DS) (gs : List (List Nat)) (st : Int) (us : List Int) (acc : List D) (S' : DS) : Prop := ∃ w : List Int, acc = w.map .int ∧ PS' n S S' ∧ S'[A + 1]? = some (.lst (gs.map .str)) ∧ (w ++ us).Pairwise (· < ·) ∧ (∀ i ∈ w ++ us, 0 ≤ i ∧ i < st) ∧ w.length + us.length ≤ st.toNat
theorem W_form {n : Nat} (h : Pen n S) {P X} (hP : ∀ f S', Form.Ok f → PS' n S S' → P f.d S') : W (callN fs fuel (k + 3) I__law_form [.ref n] S) P X := by
  refine W_callN rfl rfl ?_
  have hn := h.lt
  obtain ⟨A, hA⟩ : ∃ A, A = S.length := ⟨_, rfl⟩
  have c0 : (S ++ [MO.lst (signs [97, 98, 99, 120, 121, 122])] ++ [MO.lst []])[A]? = some (.lst (signs [97, 98, 99, 120, 121, 122])) := by subst hA; simp
  have c1 : (S ++ [MO.lst (signs [97, 98, 99, 120, 121, 122])] ++ [MO.lst []])[A + 1]? = some (.lst []) := by subst hA; simp
  have l1 := LI.mk (ls := [97, 98, 99, 120, 121, 122]) (gs := []) (by decide) (by decide) rfl (by simp)
  have e0 := l1_abc
  simp -dsimp [F__law_form, e0, -List.append_assoc]
  rw [← hA]
  generalize [97, 98, 99, 120, 121, 122] = abc at c0 c1 l1 e0 ⊢
  refine W_draw ((PS'.refl h).add _ |>.add _).pen (by decide) (by decide) fun d S1 d0 d1 s1 => ?_
  have p1 : PS' n S S1 := ((PS'.refl h).add _ |>.add _).trans s1
  have hA1 : S1[A]? = some (.lst (signs abc)) := s1.cell c0 (by omega)
  have hA2 : S1[A + 1]? = some (.lst []) := s1.cell c1 (by omega)
  simp -dsimp
  refine ⟨inR_of (by omega), ?_⟩
  refine W_for (FI n A S) ?h0 (by intros; rfl) ?hs ?he
  case h0 =>
    refine ⟨abc, [], _, _, rfl, p1, hA1, hA2, l1, ?_⟩
    rw [len_upto]
    simp only [List.length_nil]
    omega
  case hs =>
    intro y ys σ S2 hI
    obtain ⟨ls, gs, b1, b7, rfl, p2, hL, hG, li, hc⟩ := hI
    simp only [List.length_cons] at hc
    simp -dsimp
    refine W_draw p2.pen (by decide) (by decide) fun d S3 d0 d1 s3 => ?_
    have hL3 := s3.cell hL (by omega)
    have hG3 := s3.cell hG (by omega)
    have hfl := li.flat
    have hln := li.ln
    simp -dsimp
    refine ⟨inR_of (by omega), ?_⟩
    refine W_comp (FC n A S ls gs (1 + d).toNat) ⟨ls, [], rfl, p2.trans s3, hL3, hG3, by simp, by simp [len_upto]⟩ (by rw [len_upto]; exact line_big (by simp only [List.length_nil]; omega)) (by intros; rfl) (fun y' ys' acc S4 hI hacc => ?_) (fun acc S4 hI => ?_)
    · obtain ⟨ls', cs, rfl, p4, hL4, hG4, hperm, hcs⟩ := hI
      have hpl := hperm.length_eq
      simp only [List.length_append, List.length_cons] at hpl hcs
      have hpos : 0 < ls'.length := by omega
      simp -dsimp [chkL_rf hL4, view_rf hL4]
      refine W_draw p4.pen (by omega) (Int.lt_trans (b := 100) (by omega) (by decide)) fun d2 S5 d20 d21 s5 => ?_
      have hL5 := s5.cell hL4 (by omega)
      have hG5 := s5.cell hG4 (by omega)
      have hj : d2.toNat < ls'.length := by omega
      have e1 : ixN (signs ls') d2 = some d2.toNat := ixN_nat d20 (by rw [signs_len]; exact d21)
      have e2 : (signs ls')[d2.toNat]? = some (.str [ls'[d2.toNat]]) := by simp [signs, hj]
      have e3 := popM_rf hL5 (i := d2) (by omega) e1 e2
      rw [signs_len] at hacc
      rw [erase_signs] at e3
      simp -dsimp [e3, hacc]
      refine ⟨ls'.eraseIdx d2.toNat, cs ++ [ls'[d2.toNat]], by simp [signs], (p4.trans s5).setHi (by omega) hn _, ?_, ?_, ?_, ?_⟩
      · have hx := lt_of_get hL5
        simp [hx]
      · rw [List.getElem?_set_ne (by omega)]
        exact hG5
      · have hg := get_pop (xs := ls') (j := d2.toNat) (x := ls'[d2.toNat]) (by simp [hj])
        refine List.Perm.trans ?_ hperm
        rw [← List.append_assoc]
        refine List.Perm.trans ?_ (hg.append_right cs)
        rw [List.append_assoc, List.append_assoc]
        exact List.Perm.append_left _ List.perm_append_comm
      · simp only [List.length_append, List.length_cons, List.length_nil]; omega
    · obtain ⟨ls', cs, rfl, p4, hL4, hG4, hperm, hcs⟩ := hI
      simp only [List.length_nil] at hcs
      have h12 : cs.length = 1 ∨ cs.length = 2 := by omega
      obtain ⟨zs, e1, e2, e3, e4⟩ := sort_grp h12
      have e5 : b2D .join (.str []) (.lst (zs.map .str)) = some (.str (grpOf cs)) := by
        have := join_lst (x := []) (zs := zs) (line_big (by
          have := sum_le (·.length) 1 zs fun z hz => Nat.le_of_eq (e4 z hz)
          simp only [List.length_nil]
          omega))
        rw [joinBy_nil, e2] at this
        exact this
      have e6 := appM_rf hG4 (line_big (by rw [List.length_map]; omega)) (.str (grpOf cs))
      generalize zs.map D.str = zz at e1 e5
      simp -dsimp [e1, chkL_rf hG4, e5, e6]
      refine ⟨ls', gs ++ [grpOf cs], _, _, rfl, p4.setHi (by omega) hn _, ?_, ?_, li.step hperm h12, ?_⟩
      · rw [List.getElem?_set_ne (by omega)]
        exact hL4
      · have hx := lt_of_get hG4
        simp [hx]
      · simp only [List.length_append, List.length_cons, List.length_nil]; omega
  case he =>
    intro σ S2 hI
    obtain ⟨ls, gs, b1, b7, rfl, p2, hL, hG, li, hc⟩ := hI
    simp only [List.length_nil] at hc
    simp -dsimp
    refine W_draw p2.pen (by decide) (by decide) fun d S3 d0 d1 s3 => ?_
    have hG3 := s3.cell hG (by omega)
    obtain ⟨st, hst⟩ : ∃ st : Int, st = 1 + d := ⟨_, rfl⟩
    simp -dsimp [← hst]
    refine ⟨inR_of (by omega), ?_⟩
    refine W_comp (FR n A S gs st) ⟨[], rfl, p2.trans s3, hG3, by simp, by simp [len_upto]⟩ (by rw [len_upto]; exact line_big (by simp only [List.length_nil]; omega)) (by intros; rfl) (fun y' ys' acc S4 hI hacc => ?_) (fun acc S4 hI => ?_)
    · obtain ⟨rs, rfl, p4, hG4, hrs, hlen⟩ := hI
      simp only [List.length_cons] at hlen
      simp -dsimp [view_rf hG4]
      refine ⟨inR_of (by omega), ?_⟩
      refine W_comp (FR2 n A S gs st) ⟨[], rfl, p4, hG4, by simp, by simp [len_upto]⟩ (by rw [len_upto]; exact line_big (by simp only [List.length_nil]; omega)) (by intros; rfl) (fun y2 ys2 acc2 S5 hI hacc2 => ?_) (fun acc2 S5 hI => ?_)
      · obtain ⟨r, rfl, p5, hG5, hr, hl5⟩ := hI
        simp only [List.length_cons] at hl5
        simp -dsimp
        refine W_draw p5.pen (by omega) (Int.lt_trans (b := 100) (by omega) (by decide)) fun d2 S6 d20 d21 s6 => ?_
        rw [List.length_map] at hacc2
        simp -dsimp [hacc2]
        refine ⟨r ++ [d2], by simp, p5.trans s6, s6.cell hG5 (by omega), fun i hi => ?_, by simp only [List.length_append, List.length_cons, List.length_nil]; omega⟩
        rcases List.mem_append.mp hi with hi | hi
        · exact hr i hi
        · rw [List.mem_singleton.mp hi]; exact ⟨d20, d21⟩
      · obtain ⟨r, rfl, p5, hG5, hr, hl5⟩ := hI
        simp only [List.length_nil] at hl5
        rw [List.length_map] at hacc
        simp -dsimp [hacc]
        refine ⟨rs ++ [r], by simp [intsD], p5, hG5, fun r' hr' => ?_, by simp only [List.length_append, List.length_cons, List.length_nil]; omega⟩
        rcases List.mem_append.mp hr' with hr' | hr'
        · exact hrs r' hr'
        · rw [List.mem_singleton.mp hr']; exact ⟨by omega, hr⟩
    · obtain ⟨rs, rfl, p4, hG4, hrs, hlen⟩ := hI
      simp only [List.length_nil, Nat.add_zero] at hlen
      simp -dsimp
      refine ⟨inR_of (by omega), ?_⟩
      refine W_compT (upI 0 st.toNat) .int (FG n A S gs st) (upto_map _ _) ⟨[], rfl, p4, hG4, upI_asc _ _, fun i hi => by have := upI_mem _ _ _ hi; omega, by rw [upI_len]; simp⟩ (by rw [upI_len]; exact line_big (by omega)) (by intros; rfl) (fun i us acc S5 hI hacc => ?_) (fun acc S5 hI => ?_)
      · obtain ⟨w, rfl, p5, hG5, hw, hb, hl5⟩ := hI
        simp only [List.length_cons] at hl5
        simp -dsimp
        refine W_draw p5.pen (by decide) (by decide) fun d2 S6 d20 d21 s6 => ?_
        have e1 : w ++ i :: us = (w ++ [i]) ++ us := by simp
        by_cases hd : d2 = 0
        · rw [List.length_map] at hacc
          simp -dsimp [hd, hacc]
          refine ⟨w ++ [i], by simp, p5.trans s6, s6.cell hG5 (by omega), by rw [← e1]; exact hw, by rw [← e1]; exact hb, by simp only [List.length_append, List.length_cons, List.length_nil]; omega⟩
        · simp -dsimp [hd]
          refine ⟨w, rfl, p5.trans s6, s6.cell hG5 (by omega), ?_, fun x hx => hb x ?_, by omega⟩
          · exact hw.sublist (List.Sublist.append_left (List.sublist_cons_self ..) _)
          · rcases List.mem_append.mp hx with hx | hx
            · exact List.mem_append_left _ hx
            · exact List.mem_append_right _ (List.mem_cons_of_mem _ hx)
      · obtain ⟨w, rfl, p5, hG5, hw, hb, hl5⟩ := hI
        rw [List.append_nil] at hw hb
        simp only [List.length_nil, Nat.add_zero] at hl5
        simp -dsimp [view_rf hG5]
        refine hP ⟨gs, rs, w⟩ S5 ⟨?_, by show w.length ≤ 4; omega⟩ p5
        unfold formB grpsB
        simp only [Bool.and_eq_true, decide_eq_true_eq, List.length_map, List.all_eq_true, List.mem_map, forall_exists_index, and_imp, forall_apply_eq_imp_iff₂, idxB]
        refine ⟨⟨⟨by omega, ⟨by omega, fun g hg => (li.g g hg).1⟩, (List.nodup_append.mp li.nd).2.1⟩, fun r hr => ⟨(hrs r hr).1, fun i hi => ?_⟩⟩, fun i hi => ?_, ltD_asc w hw⟩
        · have := (hrs r hr).2 i hi; omega
        · have := hb i hi; omega
end K93
end
section
set_option Elab.async false
set_option linter.all false
set_option maxRecDepth 100000
set_option maxHeartbeats 4000000
namespace K93
open MP
variable {fuel k : Nat} {S : DS}
@[simp] theorem view_intsD (w : List Int) (S : DS) : view (intsD w) S = .ok (intsD w) S := rfl
theorem s_law_form_text {f : Form} (h : f.Ok) : callN fs fuel (k + 2) I__law_form_text [f.d] S = .ok (.str (ftext f)) S := by
  obtain ⟨h1, h2, h3, h4⟩ := h.parts
  obtain ⟨g1, g2⟩ := grps_parts h2
  have hfl := ftext_len h
  rw [ftext_eq] at hfl ⊢
  simp only [List.length_append] at hfl
  refine eq_of_W (W_callN rfl rfl ?_)
  have e1 : ∀ S, callN fs fuel (k + 1) I__law_line [.lst (.str sGroups :: f.gs.map .str)] S = .ok (.str (lineOf (.str sGroups :: f.gs.map .str))) S := fun S => by
    refine s_law_line rfl (by simp) (fun x hx => ?_) ?_
    · rcases List.mem_cons.mp hx with rfl | hx
      · exact Says_str _
      · obtain ⟨g, _, rfl⟩ := List.mem_map.mp hx
        exact Says_str _
    · have := sum_le (List.length ∘ strD ∘ D.str) 26 f.gs fun g hg => (g2 g hg).1
      simp only [List.map_cons, List.sum_cons, strD, List.length_cons, List.length_nil, List.map_map, List.length_map]
      exact line_big (by simp only [Function.comp_def] at *; omega)
  have e2 : ∀ r ∈ f.rows, ∀ S, callN fs fuel (k + 1) I__law_line [.lst (.str sState :: r.map .int)] S = .ok (.str (lineOf (.str sState :: r.map .int))) S := fun r hr S => by
    refine s_law_line rfl (by simp) (says_ints (h.row100 hr)) (Nat.le_trans (line_len (h.row100 hr)) (line_big ?_))
    have := (h3 r hr).1
    simp only [List.length_cons, List.length_nil]
    omega
  have e3 : ∀ S, callN fs fuel (k + 1) I__law_line [.lst (.str sGood :: f.good.map .int)] S = .ok (.str (lineOf (.str sGood :: f.good.map .int))) S := fun S => by
    refine s_law_line rfl (by simp) (says_ints h.good100) (Nat.le_trans (line_len h.good100) (line_big ?_))
    have := h.gl
    simp only [List.length_cons, List.length_nil]
    omega
  have a1 : l2D .cat (.lst [.str sGroups]) (.lst (f.gs.map .str)) = some (.str sGroups :: f.gs.map .str) := if_pos (line_big (by simp only [List.length_cons, List.length_nil, List.length_map]; omega))
  have a2 : ∀ r ∈ f.rows, l2D .cat (.lst [.str sState]) (.lst (r.map .int)) = some (.str sState :: r.map .int) := fun r hr => if_pos (line_big (by have := (h3 r hr).1; simp only [List.length_cons, List.length_nil, List.length_map]; omega))
  have a3 : l2D .cat (.lst [.str sGood]) (.lst (f.good.map .int)) = some (.str sGood :: f.good.map .int) := if_pos (line_big (by have := h.gl; simp only [List.length_cons, List.length_nil, List.length_map]; omega))
  obtain ⟨t1, ht1⟩ : ∃ t, t = lineOf (.str sGroups :: f.gs.map .str) := ⟨_, rfl⟩
  obtain ⟨t3, ht3⟩ : ∃ t, t = lineOf (.str sGood :: f.good.map .int) := ⟨_, rfl⟩
  rw [← ht1] at e1
  rw [← ht3] at e3
  rw [← ht1, ← ht3] at hfl ⊢
  have l1 : l1D .list (.tup (f.gs.map .str)) = some (f.gs.map .str) := rfl
  have l2 : ∀ r : List Int, l1D .list (intsD r) = some (r.map .int) := fun _ => rfl
  have l3 : l1D .list (.tup (f.good.map .int)) = some (f.good.map .int) := rfl
  generalize hG : f.gs.map D.str = G at *
  generalize hGd : f.good.map D.int = Gd at *
  simp -dsimp [F__law_form_text, Form.d, hG, hGd, a1, e1, l1]
  refine W_forT f.rows intsD (fun us σ S' => S' = S ∧ ∃ done t b, σ = [some (.tup [.tup G, .tup (f.rows.map intsD), .tup Gd]), some (.str t), b] ∧ f.rows = done ++ us ∧ t = t1 ++ (done.map fun r => lineOf (.str sState :: r.map .int)).flatten) rfl ⟨rfl, [], t1, _, rfl, rfl, by simp⟩ (by intros; rfl) (fun r us σ S' hI => ?_) (fun σ S' hI => ?_)
  · obtain ⟨rfl, done, t, b, rfl, hd, ht⟩ := hI
    have hr : r ∈ f.rows := by rw [hd]; simp
    have a := a2 r hr
    have e := e2 r hr
    have l := l2 r
    have hb : t.length + (lineOf (.str sState :: r.map .int)).length ≤ line := line_big (by
      rw [hd] at hfl
      simp only [List.map_append, List.map_cons, List.flatten_append, List.flatten_cons, List.length_append] at hfl
      rw [ht, List.length_append]
      omega)
    have hb2 := add_str hb
    generalize hq : r.map D.int = rd at *
    simp -dsimp [l, a, e, hb2]
    exact ⟨done ++ [r], by simp [hd], by simp [ht, hq]⟩
  · obtain ⟨rfl, done, t, b, rfl, hd, ht⟩ := hI
    rw [List.append_nil] at hd
    rw [← hd] at ht
    have b2 : binD .add (.str t) (.str t3) = some (.str (t1 ++ ((f.rows.map fun r => lineOf (.str sState :: r.map .int)).flatten ++ t3))) := by
      rw [add_str (line_big (by rw [ht, List.length_append]; omega)), ht, List.append_assoc]
    simp -dsimp [a3, e3, b2, l3]
end K93
end
section
set_option Elab.async false
set_option linter.all false
set_option maxRecDepth 100000
set_option maxHeartbeats 4000000
namespace K93
open MP
variable {fuel k : Nat} {S : DS}
theorem repr_ws {ws : List (List Int)} (h : OkWs ws) : ∃ z, b1D .repr (.tup (ws.map intsD)) = some (.str z) ∧ cp z := by
  refine repr_eq ?_ ?_ ?_
  · refine D.pl_shp 60 _ ?_
    show D.pls 59 _ = true
    rw [pls_iff]
    intro x hx
    obtain ⟨w, hw, rfl⟩ := List.mem_map.mp hx
    show D.pls 58 _ = true
    rw [pls_iff]
    intro y hy
    obtain ⟨i, _, rfl⟩ := List.mem_map.mp hy
    simp [D.pl]
  · show D.shos _ = true
    rw [shos_iff]
    intro x hx
    obtain ⟨w, hw, rfl⟩ := List.mem_map.mp hx
    show D.shos _ = true
    rw [shos_iff]
    intro y hy
    obtain ⟨i, hi, rfl⟩ := List.mem_map.mp hy
    have := (h.2 w hw).1 i hi
    exact decide_eq_true (Nat.lt_trans (log2_small (k := 60) (by omega) (by decide)) (by decide))
  · have h1 : rls (ws.map intsD) ≤ (4003 + 2) * (ws.map intsD).length := rls_le _ fun d hd => by
      obtain ⟨w, hw, rfl⟩ := List.mem_map.mp hd
      have h2 : rls (w.map D.int) ≤ (2 + 2) * (w.map D.int).length := rls_le _ fun d hd => by
        obtain ⟨i, hi, rfl⟩ := List.mem_map.mp hd
        exact (dec_props ((h.2 w hw).h100 i hi).1 ((h.2 w hw).h100 i hi).2).2.1
      have := (h.2 w hw).2
      rw [List.length_map] at h2
      show rls (w.map D.int) + 3 ≤ 4003
      omega
    rw [List.length_map] at h1
    have := h.1
    show rls (ws.map intsD) + 3 ≤ line
    exact line_big (by omega)
theorem repr_form {f : Form} (h : f.Ok) : ∃ z, b1D .repr f.d = some (.str z) ∧ cp z := by
  obtain ⟨h1, h2, h3, h4⟩ := h.parts
  obtain ⟨g1, g2⟩ := grps_parts h2
  have hi : ∀ (w : List Int) (n : Nat), D.pl (n + 1) (intsD w) = true := fun w n => by
    show D.pls n _ = true
    rw [pls_iff]
    intro y hy
    obtain ⟨i, _, rfl⟩ := List.mem_map.mp hy
    simp [D.pl]
  have hs : ∀ w : List Int, (∀ i ∈ w, 0 ≤ i ∧ i < 100) → D.sho (intsD w) = true ∧ rl (intsD w) ≤ 4 * w.length + 3 := fun w hw => by
    refine ⟨?_, ?_⟩
    · show D.shos _ = true
      rw [shos_iff]
      intro y hy
      obtain ⟨i, hi, rfl⟩ := List.mem_map.mp hy
      have := hw i hi
      exact decide_eq_true (Nat.lt_trans (log2_small (k := 60) (by omega) (by decide)) (by decide))
    · have h2 : rls (w.map D.int) ≤ (2 + 2) * (w.map D.int).length := rls_le _ fun d hd => by
        obtain ⟨i, hi, rfl⟩ := List.mem_map.mp hd
        exact (dec_props (hw i hi).1 (hw i hi).2).2.1
      rw [List.length_map] at h2
      show rls (w.map D.int) + 3 ≤ _
      omega
  refine repr_eq ?_ ?_ ?_
  · refine D.pl_shp 60 _ ?_
    show D.pls 59 _ = true
    rw [pls_iff]
    intro x hx
    simp only [List.mem_cons, List.not_mem_nil, or_false] at hx
    rcases hx with rfl | rfl | rfl
    · exact pl_strs (fun g hg => (g2 g hg).2.2.2) 58
    · show D.pls 58 _ = true
      rw [pls_iff]
      intro y hy
      obtain ⟨r, _, rfl⟩ := List.mem_map.mp hy
      exact hi r 57
    · exact hi f.good 58
  · show D.shos _ = true
    rw [shos_iff]
    intro x hx
    simp only [List.mem_cons, List.not_mem_nil, or_false] at hx
    rcases hx with rfl | rfl | rfl
    · show D.shos _ = true
      rw [shos_iff]
      intro y hy
      obtain ⟨g, _, rfl⟩ := List.mem_map.mp hy
      rfl
    · show D.shos _ = true
      rw [shos_iff]
      intro y hy
      obtain ⟨r, hr, rfl⟩ := List.mem_map.mp hy
      exact (hs r (h.row100 hr)).1
    · exact (hs f.good h.good100).1
  · have a1 : rls (f.gs.map D.str) ≤ (262 + 2) * (f.gs.map D.str).length := rls_le _ fun d hd => by
      obtain ⟨g, hg, rfl⟩ := List.mem_map.mp hd
      have := (g2 g hg).1
      show 10 * g.length + 2 ≤ 262
      omega
    have a2 : rls (f.rows.map intsD) ≤ (19 + 2) * (f.rows.map intsD).length := rls_le _ fun d hd => by
      obtain ⟨r, hr, rfl⟩ := List.mem_map.mp hd
      have := (hs r (h.row100 hr)).2
      have := (h3 r hr).1
      omega
    have a3 := (hs f.good h.good100).2
    have := h.gl
    rw [List.length_map] at a1 a2
    show rls [.tup (f.gs.map .str), .tup (f.rows.map intsD), .tup (f.good.map .int)] + 3 ≤ line
    simp only [rls]
    have b1 : rl (.tup (f.gs.map .str)) = rls (f.gs.map D.str) + 3 := rfl
    have b2 : rl (.tup (f.rows.map intsD)) = rls (f.rows.map intsD) + 3 := rfl
    have b3 : rl (.tup (f.good.map .int)) = rl (intsD f.good) := rfl
    rw [b1, b2, b3]
    exact line_big (by omega)
end K93
end
section
set_option Elab.async false
set_option linter.all false
set_option maxRecDepth 100000
set_option maxHeartbeats 4000000
/-! P93m: numbers below four, lines' words, runs over lines; what k93's readers answer, in plain words -/
namespace K93
open MP
variable {fuel k : Nat} {S : DS}
def numL (z : List Nat) : Option Int := if z = [48] then some 0 else if z = [49] then some 1 else if z = [50] then some 2 else if z = [51] then some 3 else none
def oD : Option Int → D
  | some i => .int i
  | none => .non
def nums : List (List Nat) → Option (List Int)
  | [] => some []
  | z :: r => (numL z).bind fun i => (nums r).map (i :: ·)
theorem numL_lt {z : List Nat} {i : Int} (h : numL z = some i) : 0 ≤ i ∧ i < 4 := by
  unfold numL at h
  repeat' split at h
  all_goals first | cases h; decide | cases h
theorem numL_numB (z : List Nat) : numL z = (numB z).filter fun i => decide (i < 4) := by
  match z with
  | [] => rfl
  | [a] =>
    simp only [numL, numB, List.cons.injEq, and_true]
    by_cases h : 48 ≤ a ∧ a < 58
    · rw [if_pos h]
      simp only [Option.filter]
      by_cases h0 : a = 48
      · subst h0; rfl
      · by_cases h1 : a = 49
        · subst h1; rfl
        · by_cases h2 : a = 50
          · subst h2; rfl
          · by_cases h3 : a = 51
            · subst h3; rfl
            · rw [if_neg h0, if_neg h1, if_neg h2, if_neg h3, if_neg (by simp only [decide_eq_true_eq]; omega)]
    · rw [if_neg h, if_neg (by omega), if_neg (by omega), if_neg (by omega), if_neg (by omega)]
      rfl
  | [a, b] =>
    simp only [numL, numB, List.cons.injEq, List.cons_ne_nil, and_false, if_false, reduceCtorEq]
    by_cases h : 49 ≤ a ∧ a < 58 ∧ 48 ≤ b ∧ b < 58
    · rw [if_pos h]
      simp only [Option.filter]
      rw [if_neg (by simp only [decide_eq_true_eq]; omega)]
    · rw [if_neg h]; rfl
  | a :: b :: c :: r => simp [numL, numB]
theorem numB_pos {z : List Nat} {i : Int} (h : numB z = some i) : 0 ≤ i := by
  unfold numB at h
  split at h
  · split at h
    · cases h; omega
    · cases h
  · split at h
    · cases h; omega
    · cases h
  · cases h
theorem idx_num (z : List Nat) : idxB (numD z) 4 = (numL z).isSome := by
  rw [numL_numB]
  unfold numD
  cases h : numB z with
  | none => rfl
  | some i =>
    have := numB_pos h
    show (decide (0 ≤ i) && decide (i < 4)) = _
    simp only [Option.filter, this, decide_true, Bool.true_and]
    by_cases h4 : i < 4 <;> simp [h4]
theorem numD_of {z : List Nat} {i : Int} (h : numL z = some i) : numD z = .int i := by
  rw [numL_numB] at h
  unfold numD
  cases e : numB z with
  | none => rw [e] at h; cases h
  | some j =>
    rw [e] at h
    simp only [Option.filter] at h
    split at h
    · cases h; rfl
    · cases h
theorem nums_all : ∀ ss : List (List Nat), (ss.map numD).all (idxB · 4) = (nums ss).isSome
  | [] => rfl
  | z :: r => by
    rw [List.map_cons, List.all_cons, nums_all r, idx_num, nums]
    cases numL z <;> cases nums r <;> rfl
theorem nums_of : ∀ {ss : List (List Nat)} {w : List Int}, nums ss = some w → ss.map numD = w.map .int ∧ ss.map (fun z => oD (numL z)) = w.map .int ∧ (∀ i ∈ w, 0 ≤ i ∧ i < 4) ∧ w.length = ss.length
  | [], w, h => by cases h; exact ⟨rfl, rfl, by simp, rfl⟩
  | z :: r, w, h => by
    rw [nums] at h
    cases hz : numL z with
    | none => rw [hz] at h; cases h
    | some i =>
      cases hr : nums r with
      | none => rw [hz, hr] at h; cases h
      | some v =>
        rw [hz, hr] at h
        cases h
        obtain ⟨h1, h2, h3, h4⟩ := nums_of hr
        refine ⟨by rw [List.map_cons, h1, numD_of hz]; rfl, by rw [List.map_cons, h2, hz]; rfl, fun j hj => ?_, by simp [h4]⟩
        rcases List.mem_cons.mp hj with rfl | hj
        · exact numL_lt hz
        · exact h3 j hj
theorem nums_none : ∀ {ss : List (List Nat)}, nums ss = none → D.non ∈ ss.map (fun z => oD (numL z))
  | [], h => by cases h
  | z :: r, h => by
    rw [nums] at h
    cases hz : numL z with
    | none => simp [hz, oD]
    | some i =>
      cases hr : nums r with
      | none => exact List.mem_cons_of_mem _ (nums_none hr)
      | some v => rw [hz, hr] at h; cases h
theorem pl_nums (n : Nat) (ss : List (List Nat)) : D.pls n (ss.map fun z => oD (numL z)) = true := by
  rw [pls_iff]
  intro x hx
  obtain ⟨z, _, rfl⟩ := List.mem_map.mp hx
  cases numL z <;> simp [oD, D.pl]
/-- None among them -/
theorem any_non (ss : List (List Nat)) : (ss.map fun z => oD (numL z)).any (eqv · .non) = (nums ss).isNone := by
  induction ss with
  | nil => rfl
  | cons z r ih =>
    rw [List.map_cons, List.any_cons, ih, nums]
    cases numL z <;> cases nums r <;> rfl
/-! ### a line's words -/
def hdw (l : List Nat) : List Nat := (splitAt1 32 l).headD []
def tlw (l : List Nat) : List (List Nat) := (splitAt1 32 l).tail
theorem split_ht (l : List Nat) : splitAt1 32 l = hdw l :: tlw l := by
  unfold hdw tlw
  cases h : splitAt1 32 l with
  | nil => exact absurd h (splitAt1_ne _ _)
  | cons a r => rfl
theorem tlw_ok {l : List Nat} (h : cp l) : cp (hdw l) ∧ ∀ z ∈ tlw l, z.length ≤ l.length ∧ cp z := by
  have hm : ∀ z ∈ splitAt1 32 l, z.length ≤ l.length ∧ cp z := fun z hz => ⟨(split_mem 32 l z hz).2, split_cp h hz⟩
  rw [split_ht] at hm
  exact ⟨(hm _ (List.mem_cons_self ..)).2, fun z hz => hm z (List.mem_cons_of_mem _ hz)⟩
theorem tlw_len (l : List Nat) : (tlw l).length ≤ l.length := by
  have := split_len 32 l
  rw [split_ht] at this
  simp only [List.length_cons] at this
  omega
/-! ### a run over lines -/
def runS {σ : Type} (step : σ → List Nat → Option σ) : Nat → σ → List (List Nat) → σ ⊕ Nat
  | _, s, [] => .inl s
  | i, s, l :: ls => match step s l with
    | some s' => runS step (i + 1) s' ls
    | none => .inr i
/-- what a reader answers: the told value or the line's number -/
def answer : D ⊕ Nat → D
  | .inl d => .tup [.str [116, 111, 108, 100], d]
  | .inr i => .tup [.str [108, 105, 110, 101], .int i]
def wst (ws : List (List Int)) (l : List Nat) : Option (List (List Int)) := if hdw l = sWord then (nums (tlw l)).map fun w => ws ++ [w] else none
def wOut (t : List Nat) : D ⊕ Nat := match runS wst 0 [] (splitAt1 10 t).dropLast with
  | .inr i => .inr i
  | .inl ws => if (splitAt1 10 t).getLast (splitAt1_ne _ _) = [] then .inl (.tup (ws.map intsD)) else .inr ((splitAt1 10 t).length - 1)
/-- a text that is not too long -/
structure Txt (t : List Nat) : Prop where
  cp : cp t
  len : t.length ≤ 100000
theorem Txt.line {t : List Nat} (h : Txt t) {l : List Nat} (hl : l ∈ splitAt1 10 t) : Txt l := ⟨split_cp h.cp hl, Nat.le_trans (split_mem 10 t l hl).2 h.len⟩
theorem Txt.lines {t : List Nat} (h : Txt t) : (splitAt1 10 t).length ≤ 100001 := Nat.le_trans (split_len 10 t) (by have := h.len; omega)
theorem Txt.split {t : List Nat} (h : Txt t) {c : Nat} (hc : c < 256) : l2D .split (.str t) (.str [c]) = some ((splitAt1 c t).map .str) := split_eq (line_big (by have := h.len; omega)) hc
theorem Txt.words {t : List Nat} (h : Txt t) : l2D .split (.str t) (.str [32]) = some (.str (hdw t) :: (tlw t).map .str) := by
  rw [h.split (by decide), split_ht]
  rfl
theorem last_str {ls : List (List Nat)} (hne : ls ≠ []) : ∀ LS, LS = ls.map D.str → LS[LS.length - 1]? = some (.str (ls.getLast hne)) ∧ LS.dropLast = ls.dropLast.map D.str ∧ LS.length = ls.length := by
  rintro LS rfl
  refine ⟨?_, by rw [List.map_dropLast], List.length_map ..⟩
  rw [List.length_map, List.getElem?_map, ← List.getLast?_eq_getElem?, List.getLast?_eq_some_getLast hne]
  rfl
end K93
end
section
set_option Elab.async false
set_option linter.all false
set_option maxRecDepth 100000
set_option maxHeartbeats 4000000
/-! P93n: words, read -/
namespace K93
open MP
variable {fuel k : Nat} {S : DS}
theorem runS_here {σ : Type} {step : σ → List Nat → Option σ} {i : Nat} {s s' : σ} {l : List Nat} {ls : List (List Nat)} (h : step s l = some s') : runS step i s (l :: ls) = runS step (i + 1) s' ls := by
  rw [runS, h]
theorem runS_stop {σ : Type} {step : σ → List Nat → Option σ} {i : Nat} {s : σ} {l : List Nat} {ls : List (List Nat)} (h : step s l = none) : runS step i s (l :: ls) = .inr i := by
  rw [runS, h]
/-- the loop of parse_words -/
def PWI (t : List Nat) (LS : List D) (S : DS) (us0 : List (List Nat)) (j : Int) (us : List (List Nat)) (σ : MP.Env) (S' : DS) : Prop := ∃ (i : Nat) (ws : List (List Int)) (done : List (List Nat)) (a b c : Option D), j = i ∧ σ = [some (.str t), some (.lst LS), some (.ref S.length), a, b, c] ∧ S' = S ++ [.lst (ws.map intsD)] ∧ runS wst 0 [] us0 = runS wst i ws us ∧ us0 = done ++ us ∧ ws.length = done.length
theorem s_parse_words {t : List Nat} (h : Txt t) {P X} (hP : ∀ S', Ext S S' → match wOut t with
    | .inl d => P d S'
    | .inr i => X ⟨0, [(0, .int i)]⟩ S') : W (callN fs fuel (k + 3) I_parse_words [.str t] S) P X := by
  obtain ⟨LS, hLS⟩ : ∃ LS, LS = (splitAt1 10 t).map D.str := ⟨_, rfl⟩
  have e0 : l2D .split (.str t) (.str [10]) = some LS := by rw [h.split (by decide), hLS]
  obtain ⟨e02, e01, e03⟩ := last_str (splitAt1_ne 10 t) LS hLS
  have hlast := h.line (List.getLast_mem (splitAt1_ne 10 t))
  have hll := h.lines
  have hmem : ∀ l ∈ (splitAt1 10 t).dropLast, Txt l := fun l hl => h.line (List.dropLast_subset _ hl)
  have hout : wOut t = match runS wst 0 [] (splitAt1 10 t).dropLast with
    | .inr i => .inr i
    | .inl ws => if (splitAt1 10 t).getLast (splitAt1_ne _ _) = [] then .inl (.tup (ws.map intsD)) else .inr ((splitAt1 10 t).length - 1) := rfl
  have hdl : (splitAt1 10 t).dropLast.length ≤ 100001 := by rw [List.length_dropLast]; omega
  generalize (splitAt1 10 t).getLast (splitAt1_ne _ _) = lst at *
  generalize (splitAt1 10 t).dropLast = us0 at *
  refine W_callN rfl rfl ?_
  simp -dsimp [F_parse_words, e0, e01]
  refine W_forE us0 .str (PWI t LS S us0) rfl ⟨0, [], [], _, _, _, rfl, rfl, rfl, rfl, rfl, rfl⟩ (by intros; rfl) (fun j l us σ S' hI => ?_) (fun j σ S' hI => ?_)
  · obtain ⟨i, ws, done, a, b, c, rfl, rfl, rfl, hr, hd, hwl⟩ := hI
    have hl := hmem l (by rw [hd]; simp)
    have hlen : ws.length + 1 ≤ 100001 := by rw [hd] at hdl; simp only [List.length_append, List.length_cons] at hdl; omega
    have hw := hl.words
    obtain ⟨c1, c2⟩ := tlw_ok hl.cp
    have tl := tlw_len l
    have hll := hl.len
    have e2 : ∀ S, callN fs fuel (k + 2) I_read_numbers [.lst ((tlw l).map .str)] S = .ok (.tup ((tlw l).map numD)) S := fun S => s_read_numbers (line_big (by omega)) fun s hs => ⟨line_big (by have := (c2 s hs).1; omega), (c2 s hs).2⟩
    have e3 : ∀ S, callN fs fuel (k + 2) I_is_word [.tup ((tlw l).map numD), .int 4, .non] S = .ok (.bl (nums (tlw l)).isSome) S := fun S => by
      rw [s_is_word (fun d hd => by obtain ⟨i, _, rfl⟩ := List.mem_map.mp hd; exact NR_numD _) (line_big (by rw [List.length_map]; omega)), nums_all]
    have hst : wst ws l = if hdw l = sWord then (nums (tlw l)).map fun w => ws ++ [w] else none := rfl
    have hn1 : ∀ w, nums (tlw l) = some w → (tlw l).map numD = w.map .int := fun w h => (nums_of h).1
    generalize (tlw l).map D.str = toks at *
    generalize (tlw l).map numD = nw at *
    have ea := appM_rf (S := S ++ [.lst (ws.map intsD)]) (n := S.length) (get_last _ _) (line_big (by rw [List.length_map]; omega)) (.tup nw)
    rw [set_last] at ea
    have ev := view_rf (get_last S (.lst (ws.map intsD ++ [.tup nw])))
    have ei : ix (ws.map intsD ++ [.tup nw]) (-1) = some (.tup nw) := by rw [ix_m1]; exact lst_init _ _
    simp -dsimp [hw, e2, chkL_rf (get_last S (.lst (ws.map intsD))), ea, c1]
    by_cases h1 : hdw l = sWord
    · rw [if_pos h1] at hst
      cases hn : nums (tlw l) with
      | none =>
        rw [hn] at hst e3
        rw [runS_stop hst] at hr
        have hP' := hP (S ++ [.lst (ws.map intsD ++ [.tup nw])]) (Ext.add _)
        rw [hout, hr] at hP'
        simp -dsimp [h1, ev, ei, e3]
        exact hP'
      | some w =>
        rw [hn] at hst e3
        rw [runS_here hst] at hr
        simp -dsimp [h1, ev, ei, e3]
        exact ⟨i + 1, ws ++ [w], done ++ [l], _, _, _, by omega, rfl, by simp [intsD, hn1 w hn], hr, by simp [hd], by simp [hwl]⟩
    · rw [if_neg h1] at hst
      rw [runS_stop hst] at hr
      have hP' := hP (S ++ [.lst (ws.map intsD ++ [.tup nw])]) (Ext.add _)
      rw [hout, hr] at hP'
      simp -dsimp [h1]
      exact hP'
  · obtain ⟨i, ws, done, a, b, c, rfl, rfl, rfl, hr, hd, hwl⟩ := hI
    have hP' := hP (S ++ [.lst (ws.map intsD)]) (Ext.add _)
    rw [hout, hr, runS] at hP'
    dsimp only at hP'
    have hpos : 0 < (splitAt1 10 t).length := List.length_pos_iff.mpr (splitAt1_ne 10 t)
    by_cases h1 : lst = []
    · rw [if_pos h1] at hP'
      simp -dsimp [e02, h1, view_rf (get_last S (.lst (ws.map intsD)))]
      exact hP'
    · rw [if_neg h1] at hP'
      have e5 : ((LS.length : Int) - 1) = ((splitAt1 10 t).length - 1 : Nat) := by omega
      simp -dsimp [e02, h1, hlast.cp, e5]
      exact hP'
theorem dec4 : decI 0 = [48] ∧ decI 1 = [49] ∧ decI 2 = [50] ∧ decI 3 = [51] := by decide +kernel
theorem s_law_number {z : List Nat} (hc : cp z) : callN fs fuel (k + 1) I__law_number [.str z, .int 4] S = .ok (oD (numL z)) S := by
  refine eq_of_W (W_callN rfl rfl ?_)
  simp -dsimp [F__law_number]
  obtain ⟨d0, d1, d2, d3⟩ := dec4
  refine ⟨inR_of (by decide), ?_⟩
  refine W_filterT [(0 : Int), 1, 2, 3] .int (fun i => decide (decI i = z)) .int rfl (by decide) rfl (fun i hi acc ha => ?_) ?_
  · have hi' : 0 ≤ i ∧ i < 100 := by
      simp only [List.mem_cons, List.not_mem_nil, or_false] at hi
      omega
    by_cases h : decI i = z
    · simp -dsimp [ha, str_int hi'.1 (by omega), (Tok_int hi'.1 hi'.2).2.2, hc, h]
    · simp -dsimp [ha, str_int hi'.1 (by omega), (Tok_int hi'.1 hi'.2).2.2, hc, h]
  · unfold numL
    by_cases h0 : z = [48]
    · subst h0
      simp -dsimp [d0, d1, d2, d3, eq_lst_nil, D.pl, oD]
    · by_cases h1 : z = [49]
      · subst h1
        simp -dsimp [d0, d1, d2, d3, eq_lst_nil, D.pl, oD]
      · by_cases h2 : z = [50]
        · subst h2
          simp -dsimp [d0, d1, d2, d3, eq_lst_nil, D.pl, oD]
        · by_cases h3 : z = [51]
          · subst h3
            simp -dsimp [d0, d1, d2, d3, eq_lst_nil, D.pl, oD]
          · simp -dsimp [d0, d1, d2, d3, eq_lst_nil, D.pl, oD, Ne.symm h0, Ne.symm h1, Ne.symm h2, Ne.symm h3, h0, h1, h2, h3]
end K93
end
section
set_option Elab.async false
set_option linter.all false
set_option maxRecDepth 100000
set_option maxHeartbeats 4000000
/-! P93o: words, read by the law; the outcomes -/
namespace K93
open MP
variable {fuel k : Nat} {S : DS}
/-- the loop of _law_read_words -/
def RWI (t : List Nat) (LS : List D) (S : DS) (us0 : List (List Nat)) (j : Int) (us : List (List Nat)) (σ : MP.Env) (S' : DS) : Prop := ∃ (i : Nat) (ws : List (List Int)) (done : List (List Nat)) (a b c : Option D), j = i ∧ σ = [some (.str t), some (.lst LS), some (.ref S.length), a, b, c, none] ∧ S' = S ++ [.lst (ws.map intsD)] ∧ runS wst 0 [] us0 = runS wst i ws us ∧ us0 = done ++ us ∧ ws.length = done.length
theorem eqv_non {ss : List (List Nat)} : cmpD .mem .non (.tup (ss.map fun z => oD (numL z))) = some (nums ss).isNone := by
  have h1 : D.shp 60 D.non = true := rfl
  have h2 := D.pls_shps 59 _ (pl_nums 59 ss)
  show (if _ then some _ else none) = _
  rw [h1, h2]
  simp only [Bool.and_self, if_true]
  exact congrArg some (any_non ss)
theorem s_law_read_words {t : List Nat} (h : Txt t) {P X} (hP : ∀ S', Ext S S' → P (answer (wOut t)) S') : W (callN fs fuel (k + 3) I__law_read_words [.str t] S) P X := by
  obtain ⟨LS, hLS⟩ : ∃ LS, LS = (splitAt1 10 t).map D.str := ⟨_, rfl⟩
  have e0 : l2D .split (.str t) (.str [10]) = some LS := by rw [h.split (by decide), hLS]
  obtain ⟨e02, e01, e03⟩ := last_str (splitAt1_ne 10 t) LS hLS
  have hlast := h.line (List.getLast_mem (splitAt1_ne 10 t))
  have hll := h.lines
  have hmem : ∀ l ∈ (splitAt1 10 t).dropLast, Txt l := fun l hl => h.line (List.dropLast_subset _ hl)
  have hout : wOut t = match runS wst 0 [] (splitAt1 10 t).dropLast with
    | .inr i => .inr i
    | .inl ws => if (splitAt1 10 t).getLast (splitAt1_ne _ _) = [] then .inl (.tup (ws.map intsD)) else .inr ((splitAt1 10 t).length - 1) := rfl
  have hdl : (splitAt1 10 t).dropLast.length ≤ 100001 := by rw [List.length_dropLast]; omega
  generalize (splitAt1 10 t).getLast (splitAt1_ne _ _) = lst at *
  generalize (splitAt1 10 t).dropLast = us0 at *
  refine W_callN rfl rfl ?_
  simp -dsimp [F__law_read_words, e0, e01]
  refine W_forE us0 .str (RWI t LS S us0) rfl ⟨0, [], [], _, _, _, rfl, rfl, rfl, rfl, rfl, rfl⟩ (by intros; rfl) (fun j l us σ S' hI => ?_) (fun j σ S' hI => ?_)
  · obtain ⟨i, ws, done, a, b, c, rfl, rfl, rfl, hr, hd, hwl⟩ := hI
    have hl := hmem l (by rw [hd]; simp)
    have hlen : ws.length + 1 ≤ 100001 := by rw [hd] at hdl; simp only [List.length_append, List.length_cons] at hdl; omega
    have hw := hl.words
    obtain ⟨c1, c2⟩ := tlw_ok hl.cp
    have tl := tlw_len l
    have hll := hl.len
    have hst : wst ws l = if hdw l = sWord then (nums (tlw l)).map fun w => ws ++ [w] else none := rfl
    have hn1 : ∀ w, nums (tlw l) = some w → (tlw l).map (fun z => oD (numL z)) = w.map .int := fun w h => (nums_of h).2.1
    have hn2 := eqv_non (ss := tlw l)
    obtain ⟨toks, htoks⟩ : ∃ toks, toks = (tlw l).map D.str := ⟨_, rfl⟩
    rw [← htoks] at hw
    have hg := get_last S (.lst (ws.map intsD))
    simp -dsimp [hw, chkL_rf hg]
    refine W_mapT (tlw l) .str (fun z => oD (numL z)) htoks (line_big (by omega)) rfl (fun z hz acc ha => ?_) ?_
    · simp -dsimp [ha, s_law_number (c2 z hz).2]
    generalize (tlw l).map (fun z => oD (numL z)) = nw at *
    have ea := appM_rf (S := S ++ [.lst (ws.map intsD)]) (n := S.length) hg (line_big (by rw [List.length_map]; omega)) (.tup nw)
    rw [set_last] at ea
    have ev := view_rf (get_last S (.lst (ws.map intsD ++ [.tup nw])))
    have ei : ix (ws.map intsD ++ [.tup nw]) (-1) = some (.tup nw) := by rw [ix_m1]; exact lst_init _ _
    simp -dsimp [ea, c1]
    by_cases h1 : hdw l = sWord
    · rw [if_pos h1] at hst
      cases hn : nums (tlw l) with
      | none =>
        rw [hn] at hst hn2
        rw [runS_stop hst] at hr
        have hP' := hP (S ++ [.lst (ws.map intsD ++ [.tup nw])]) (Ext.add _)
        rw [hout, hr] at hP'
        simp -dsimp [h1, ev, ei, hn2]
        exact hP'
      | some w =>
        rw [hn] at hst hn2
        rw [runS_here hst] at hr
        simp -dsimp [h1, ev, ei, hn2]
        exact ⟨i + 1, ws ++ [w], done ++ [l], _, _, _, by omega, rfl, by simp [intsD, hn1 w hn], hr, by simp [hd], by simp [hwl]⟩
    · rw [if_neg h1] at hst
      rw [runS_stop hst] at hr
      have hP' := hP (S ++ [.lst (ws.map intsD ++ [.tup nw])]) (Ext.add _)
      rw [hout, hr] at hP'
      simp -dsimp [h1]
      exact hP'
  · obtain ⟨i, ws, done, a, b, c, rfl, rfl, rfl, hr, hd, hwl⟩ := hI
    have hP' := hP (S ++ [.lst (ws.map intsD)]) (Ext.add _)
    rw [hout, hr, runS] at hP'
    dsimp only at hP'
    have hpos : 0 < (splitAt1 10 t).length := List.length_pos_iff.mpr (splitAt1_ne 10 t)
    by_cases h1 : lst = []
    · rw [if_pos h1] at hP'
      simp -dsimp [e02, h1, view_rf (get_last S (.lst (ws.map intsD)))]
      exact hP'
    · rw [if_neg h1] at hP'
      have e5 : ((LS.length : Int) - 1) = ((splitAt1 10 t).length - 1 : Nat) := by omega
      simp -dsimp [e02, h1, hlast.cp, e5]
      exact hP'
theorem s_words_outcome {t : List Nat} (h : Txt t) {P X} (hP : ∀ S', Ext S S' → P (answer (wOut t)) S') : W (callN fs fuel (k + 4) I__law_words_outcome [.str t] S) P X := by
  refine W_callN rfl rfl ?_
  simp -dsimp [F__law_words_outcome]
  refine s_parse_words h fun S' x => ?_
  have := hP S' x
  cases hw : wOut t with
  | inl d =>
    rw [hw] at this
    simp -dsimp
    exact this
  | inr i =>
    rw [hw] at this
    simp -dsimp
    exact this
end K93
end
section
set_option Elab.async false
set_option linter.all false
set_option maxRecDepth 100000
set_option maxHeartbeats 4000000
/-! P93p: forms, line by line; what parse_form answers -/
namespace K93
open MP
variable {fuel k : Nat} {S : DS}
/-- what of a form was read -/
inductive Fs where
  | start
  | rows (gs : List (List Nat)) (rs : List (List Int))
  | done (f : Form)
def okF (gs : List (List Nat)) (rs : List (List Int)) (w : List Int) : Bool := formB gs (rs.map (·.map .int)) (w.map .int)
def fstep : Fs → List Nat → Option Fs
  | .start, l => if hdw l = sGroups ∧ grpsB (tlw l) = true then some (.rows (tlw l) []) else none
  | .rows gs rs, l => if hdw l = sState then (nums (tlw l)).bind fun w => if rs.length < 4 ∧ w.length = gs.length + 1 then some (.rows gs (rs ++ [w])) else none
    else if hdw l = sGood then (nums (tlw l)).bind fun w => if okF gs rs w = true then some (.done ⟨gs, rs, w⟩) else none
    else none
  | .done _, _ => none
def fend (n : Nat) (lst : List Nat) : Fs → D ⊕ Nat
  | .done f => if lst = [] then .inl f.d else .inr n
  | _ => .inr n
def fOut (t : List Nat) : D ⊕ Nat := match runS fstep 0 .start (splitAt1 10 t).dropLast with
  | .inr i => .inr i
  | .inl s => fend ((splitAt1 10 t).length - 1) ((splitAt1 10 t).getLast (splitAt1_ne _ _)) s
/-- what holds of what was read -/
def Fs.Good : Fs → Prop
  | .start => True
  | .rows gs rs => grpsB gs = true ∧ rs.length ≤ 4 ∧ ∀ r ∈ rs, r.length = gs.length + 1 ∧ ∀ i ∈ r, 0 ≤ i ∧ i < 4
  | .done f => f.Ok
def rowD (r : List Int) : D := .tup (.str sState :: r.map .int)
def Fs.enc : Fs → List D
  | .start => []
  | .rows gs rs => .tup (gs.map .str) :: rs.map rowD
  | .done f => .tup (f.gs.map .str) :: f.rows.map rowD ++ [.tup (.str sGood :: f.good.map .int)]
theorem fstep_good {s s' : Fs} {l : List Nat} (h : s.Good) (e : fstep s l = some s') : s'.Good := by
  cases s with
  | start =>
    simp only [fstep] at e
    split at e
    · rename_i h1
      cases e
      exact ⟨h1.2, by decide, by simp⟩
    · cases e
  | rows gs rs =>
    obtain ⟨h1, h2, h3⟩ := h
    simp only [fstep] at e
    cases hn : nums (tlw l) with
    | none => rw [hn] at e; repeat' split at e
              all_goals cases e
    | some w =>
      rw [hn] at e
      have hw := (nums_of hn).2.2.1
      split at e
      · simp only [Option.bind_some] at e
        split at e
        · rename_i h4
          cases e
          refine ⟨h1, by simp only [List.length_append, List.length_cons, List.length_nil]; omega, fun r hr => ?_⟩
          rcases List.mem_append.mp hr with hr | hr
          · exact h3 r hr
          · rw [List.mem_singleton.mp hr]
            exact ⟨h4.2, hw⟩
        · cases e
      · split at e
        · simp only [Option.bind_some] at e
          split at e
          · rename_i h4
            cases e
            refine ⟨h4, ?_⟩
            -- ascending below four
            have h5 := h4
            unfold okF formB at h5
            simp only [Bool.and_eq_true] at h5
            have h6 := h5.2.2
            have e1 : ascB ltD (w.map .int) = ascB (fun a b => decide (a < b)) w := by
              unfold ascB
              rw [pairsOf_map, List.all_map]
              rfl
            rw [e1, ascB_pairwise (fun a b c h1 h2 => by simp only [decide_eq_true_eq] at *; omega)] at h6
            have hp : (w.map Int.toNat).Pairwise (fun a b => a < b) := by
              rw [List.pairwise_map]
              refine List.Pairwise.imp_of_mem ?_ h6
              intro a b ha hb hab
              have := of_decide_eq_true hab
              have := hw a ha
              have := hw b hb
              omega
            have := asc_len (lo := 0) (hi := 4) _ hp fun c hc => by
              obtain ⟨i, hi, rfl⟩ := List.mem_map.mp hc
              have := hw i hi
              omega
            rw [List.length_map] at this
            exact this
          · cases e
        · cases e
  | done f => cases e
theorem enc_pl {s : Fs} (h : s.Good) : ∀ d ∈ s.enc, D.pl 59 d = true := by
  cases s with
  | start => simp [Fs.enc]
  | rows gs rs =>
    obtain ⟨h1, h2, h3⟩ := h
    obtain ⟨g1, g2⟩ := grps_parts h1
    intro d hd
    rcases List.mem_cons.mp hd with rfl | hd
    · exact pl_strs (fun g hg => (g2 g hg).2.2.2) 58
    · obtain ⟨r, hr, rfl⟩ := List.mem_map.mp hd
      exact pl_row (by simp) r 58
  | done f =>
    intro d hd
    have : d ∈ f.ys.map (·.2) := by rw [ys_snd]; simpa [Fs.enc, rowD, Function.comp_def] using hd
    obtain ⟨y, hy, rfl⟩ := List.mem_map.mp this
    exact ys_pl h y hy
theorem enc_len {s : Fs} (h : s.Good) : s.enc.length ≤ 6 := by
  cases s with
  | start => simp [Fs.enc]
  | rows gs rs => have := h.2.1; simp [Fs.enc]; omega
  | done f => have := h.parts.1.2; simp [Fs.enc]; omega
/-- the last line of rows is no good one -/
theorem rows_last {gs rs} (h : (Fs.rows gs rs).Good) : ∃ ts, (Fs.rows gs rs).enc.getLast? = some (.tup ts) ∧ cmpD .eq (.tup (ts.take 1)) (.tup [.str sGood]) = some false := by
  obtain ⟨h1, h2, h3⟩ := h
  obtain ⟨g1, g2⟩ := grps_parts h1
  rcases List.eq_nil_or_concat rs with rfl | ⟨rs', r, rfl⟩
  · refine ⟨gs.map .str, rfl, not_good ?_ ?_⟩
    · rw [← List.map_take]
      exact pl_strs (fun g hg => (g2 g (List.mem_of_mem_take hg)).2.2.2) 59
    · intro e
      rw [← List.map_take] at e
      have hg : sGood ∈ gs := by
        have : D.str sGood ∈ (gs.take 1).map D.str := by rw [e]; simp
        obtain ⟨g, hg, e⟩ := List.mem_map.mp this
        cases e
        exact List.mem_of_mem_take hg
      unfold grpsB at h1
      simp only [Bool.and_eq_true] at h1
      have := List.all_eq_true.mp h1.1.2 _ hg
      revert this
      decide
  · refine ⟨.str sState :: r.map .int, ?_, not_good (pl_row (by simp) [] 59) (by simp)⟩
    simp only [Fs.enc, List.concat_eq_append, List.map_append, List.map_cons, List.map_nil]
    rw [← List.cons_append, List.getLast?_concat]
    rfl
section
variable {n : Nat} {xs : List D} {w0 : List Nat} {ss : List (List Nat)} {ts : List D}
/-- a line behind a good one -/
theorem t_done (hS : S[n]? = some (.lst xs)) (hx : cmpD .eq (.lst xs) (.lst []) = some false) (hn : ss.length < line) (hl : ∀ s ∈ ss, s.length ≤ line ∧ cp s) (hxl : xs.length < line)
    (h2 : ix (xs ++ [.tup (.str w0 :: ss.map numD)]) (-2) = some (.tup ts)) (ht : cmpD .eq (.tup (ts.take 1)) (.tup [.str sGood]) = some true) {P X}
    (h : P (.bl false) (S.set n (.lst (xs ++ [.tup (.str w0 :: ss.map numD)])))) :
    W (callN fs fuel (k + 4) I_takes_form_line [.ref n, .lst (.str w0 :: ss.map .str)] S) P X := by
  refine W_callN rfl rfl ?_
  have hi := lt_of_get hS
  obtain ⟨nw, hnw⟩ : ∃ nw, nw = D.tup (.str w0 :: ss.map numD) := ⟨_, rfl⟩
  obtain ⟨S1, hS1⟩ : ∃ S1, S1 = S.set n (.lst (xs ++ [nw])) := ⟨_, rfl⟩
  rw [← hnw] at h h2
  rw [← hS1] at h
  have ea := appM_rf hS hxl nw
  rw [← hS1] at ea
  have ev : view (.ref n) S1 = .ok (.lst (xs ++ [nw])) S1 := view_rf (by rw [hS1]; exact set_at hi _)
  have en : binD .add (.tup [.str w0]) (.tup (ss.map numD)) = some nw := by
    rw [add_tup (by simp only [List.length_cons, List.length_nil, List.length_map]; omega), hnw]
    rfl
  generalize hys : xs ++ [nw] = ys at *
  simp -dsimp [F_takes_form_line, view_rf hS, hx, chkL_rf hS, s_read_numbers (Nat.le_of_lt hn) hl, en, ea, ev, h2, ht]
  exact h
end
theorem rowD_eq (rs : List (List Int)) : rs.map rowD = (rs.map (·.map D.int)).map fun r => .tup (.str sState :: r) := by
  rw [List.map_map]
  rfl
/-- a line is taken or not -/
theorem s_takes {s : Fs} (h : s.Good) {l : List Nat} (hl : Txt l) {n : Nat} (hS : S[n]? = some (.lst s.enc)) {P X} (hP : ∀ xs', (∀ s', fstep s l = some s' → xs' = s'.enc) → P (.bl (fstep s l).isSome) (S.set n (.lst xs'))) :
    W (callN fs fuel (k + 4) I_takes_form_line [.ref n, .lst (.str (hdw l) :: (tlw l).map .str)] S) P X := by
  obtain ⟨c1, c2⟩ := tlw_ok hl.cp
  have tl := tlw_len l
  have hll := hl.len
  have hlo : ∀ z ∈ tlw l, z.length ≤ line ∧ cp z := fun z hz => ⟨line_big (by have := (c2 z hz).1; omega), (c2 z hz).2⟩
  have hn : (tlw l).length < line := line_big (by omega)
  have hel := enc_len h
  have hne : s.enc ≠ [] → cmpD .eq (.lst s.enc) (.lst []) = some false := fun q => by
    rw [eq_lst_nil (enc_pl h)]
    simp [q]
  have hn0 := lt_of_get hS
  cases s with
  | start =>
    have := t_groups (fuel := fuel) (k := k + 1) (S := S) (n := n) hS c1 (Nat.le_of_lt hn) hlo
    refine W_of_eq this ?_
    have hf : fstep .start l = if hdw l = sGroups ∧ grpsB (tlw l) = true then some (.rows (tlw l) []) else none := rfl
    have := hP [.tup ((tlw l).map .str)]
    rw [hf] at this
    by_cases q : hdw l = sGroups ∧ grpsB (tlw l) = true
    · rw [if_pos q] at this
      rw [q.1, q.2]
      exact this fun s' e => by cases e; rfl
    · rw [if_neg q] at this
      have q' : (decide (hdw l = sGroups) && grpsB (tlw l)) = false := by
        rw [Bool.eq_false_iff]
        intro e
        simp only [Bool.and_eq_true, decide_eq_true_eq] at e
        exact q e
      rw [q']
      exact this fun s' e => by cases e
  | done f =>
    have hl2 : (Fs.done f).enc.getLast? = some (.tup (.str sGood :: f.good.map .int)) := by
      simp only [Fs.enc]
      rw [List.getLast?_concat]
    refine t_done hS (hne (by simp [Fs.enc])) hn hlo (line_big (by omega)) (ix_m2 _ hl2) (by simp only [List.take_succ_cons, List.take_zero]; decide) ?_
    exact hP _ fun s' e => by cases e
  | rows gs rs =>
    obtain ⟨ts, ht1, ht2⟩ := rows_last h
    obtain ⟨h1, h2, h3⟩ := h
    obtain ⟨g1, g2⟩ := grps_parts h1
    have hlen : (Fs.rows gs rs).enc.length = rs.length + 1 := by simp [Fs.enc]
    have hf : fstep (.rows gs rs) l = if hdw l = sState then (nums (tlw l)).bind fun w => if rs.length < 4 ∧ w.length = gs.length + 1 then some (.rows gs (rs ++ [w])) else none
      else if hdw l = sGood then (nums (tlw l)).bind fun w => if okF gs rs w = true then some (.done ⟨gs, rs, w⟩) else none
      else none := rfl
    refine t_more hS (hne (by simp [Fs.enc])) c1 hn hlo (line_big (by omega)) (ix_m2 _ ht1) ht2 (hs := gs.map .str) rfl ?_
    have hP' := hP ((Fs.rows gs rs).enc ++ [.tup (.str (hdw l) :: (tlw l).map numD)])
    by_cases q1 : hdw l = sState
    · rw [if_pos q1] at hf ⊢
      rw [nums_all]
      cases hnu : nums (tlw l) with
      | none =>
        rw [hnu] at hf
        rw [hf] at hP'
        simp only [Option.isSome_none, Bool.and_false]
        exact hP' fun s' e => by cases e
      | some w =>
        obtain ⟨w1, _, _, w4⟩ := nums_of hnu
        rw [hnu] at hf
        simp only [Option.bind_some] at hf
        simp only [Option.isSome_some, Bool.and_true, List.length_map]
        by_cases q2 : rs.length < 4 ∧ w.length = gs.length + 1
        · rw [if_pos q2] at hf
          rw [hf] at hP'
          rw [decide_eq_true (by rw [hlen]; omega), decide_eq_true (by omega)]
          exact hP' fun s' e => by
            cases e
            simp [Fs.enc, rowD, w1, q1]
        · rw [if_neg q2] at hf
          rw [hf] at hP'
          have q3 : (decide ((Fs.rows gs rs).enc.length ≤ 4) && decide ((tlw l).length = gs.length + 1)) = false := by
            rw [Bool.eq_false_iff]
            intro e
            simp only [Bool.and_eq_true, decide_eq_true_eq] at e
            exact q2 ⟨by omega, by omega⟩
          rw [q3]
          exact hP' fun s' e => by cases e
    · rw [if_neg q1] at hf ⊢
      by_cases q2 : hdw l = sGood
      · rw [if_pos q2] at hf
        by_cases q3 : 2 ≤ (Fs.rows gs rs).enc.length
        · rw [if_pos ⟨q2, q3⟩]
          have ex : (Fs.rows gs rs).enc ++ [D.tup (.str (hdw l) :: (tlw l).map numD)] = .tup (gs.map .str) :: (rs.map (·.map D.int)).map (fun r => .tup (.str sState :: r)) ++ [.tup (.str sGood :: (tlw l).map numD)] := by
            rw [← rowD_eq, q2]
            rfl
          rw [ex] at hP' ⊢
          have hfr : ∀ r ∈ rs.map (·.map D.int), r.length ≤ line ∧ ∀ d ∈ r, NR d := fun r hr => by
            obtain ⟨r', hr', rfl⟩ := List.mem_map.mp hr
            refine ⟨line_big (by have := (h3 r' hr').1; simp only [List.length_map]; omega), fun d hd => ?_⟩
            obtain ⟨i, _, rfl⟩ := List.mem_map.mp hd
            simp
          have k1 := s_form_of (fuel := fuel) (k := k + 2) (S := S.set n (.lst (.tup (gs.map .str) :: (rs.map (·.map D.int)).map (fun r => .tup (.str sState :: r)) ++ [.tup (.str sGood :: (tlw l).map numD)]))) (set_at hn0 _) (line_big (by rw [List.length_map]; omega))
          obtain ⟨d, k2, k3, k4⟩ := s_form_fault (fuel := fuel) (k := k) (S := S.set n (.lst (.tup (gs.map .str) :: (rs.map (·.map D.int)).map (fun r => .tup (.str sState :: r)) ++ [.tup (.str sGood :: (tlw l).map numD)]))) (gs := gs) (rows := rs.map (·.map D.int)) (good := (tlw l).map numD) (line_big (by omega)) (fun g hg => ⟨line_big (by have := (g2 g hg).1; omega), (g2 g hg).2.2.2⟩) hfr ⟨line_big (by rw [List.length_map]; omega), fun d hd => by obtain ⟨i, _, rfl⟩ := List.mem_map.mp hd; exact NR_numD _⟩
          refine ⟨_, d, k1, k2, k4, ?_⟩
          rw [k3]
          cases hnu : nums (tlw l) with
          | none =>
            rw [hnu] at hf
            rw [hf] at hP'
            have : formB gs (rs.map (·.map D.int)) ((tlw l).map numD) = false := by
              rw [Bool.eq_false_iff]
              intro e
              unfold formB at e
              simp only [Bool.and_eq_true, decide_eq_true_eq] at e
              have e5 := e.2.1
              have e6 : ((tlw l).map numD).all (idxB · 4) = true := by
                rw [List.all_eq_true] at e5 ⊢
                intro d hd
                have := e5 d hd
                obtain ⟨i, rfl, i1, i2⟩ := idxB_int this
                rw [List.length_map] at i2
                simp only [idxB, Bool.and_eq_true, decide_eq_true_eq]
                omega
              rw [nums_all, hnu] at e6
              cases e6
            rw [this]
            exact hP' fun s' e => by cases e
          | some w =>
            obtain ⟨w1, _, _, w4⟩ := nums_of hnu
            rw [hnu] at hf
            simp only [Option.bind_some] at hf
            rw [w1] at hP' ⊢
            show P (.bl (okF gs rs w)) _
            cases hok : okF gs rs w with
            | true =>
              rw [hok, if_pos rfl] at hf
              rw [hf] at hP'
              exact hP' fun s' e => by
                cases e
                simp [Fs.enc, rowD_eq]
            | false =>
              rw [hok, if_neg (by decide)] at hf
              rw [hf] at hP'
              exact hP' fun s' e => by cases e
        · rw [if_neg (fun q => q3 q.2)]
          have hnone : fstep (.rows gs rs) l = none := by
            rw [hf]
            cases hnu : nums (tlw l) with
            | none => rfl
            | some w =>
              simp only [Option.bind_some]
              have : okF gs rs w = false := by
                unfold okF formB
                rw [decide_eq_false (by rw [List.length_map]; omega)]
                rfl
              rw [this]
              rfl
          rw [hnone] at hP'
          exact hP' fun s' e => by cases e
      · rw [if_neg q2] at hf
        rw [if_neg (fun q => q2 q.1)]
        rw [hf] at hP'
        exact hP' fun s' e => by cases e
end K93
end
section
set_option Elab.async false
set_option linter.all false
set_option maxRecDepth 100000
set_option maxHeartbeats 4000000
/-! P93q: parse_form and its outcome -/
namespace K93
open MP
variable {fuel k : Nat} {S : DS}
/-- the loop of parse_form -/
def PFI (t : List Nat) (LS : List D) (S : DS) (us0 : List (List Nat)) (j : Int) (us : List (List Nat)) (σ : MP.Env) (S' : DS) : Prop := ∃ (i : Nat) (st : Fs) (done : List (List Nat)) (a b : Option D), j = i ∧ σ = [some (.str t), some (.lst LS), some (.ref S.length), a, b] ∧ S' = S ++ [.lst st.enc] ∧ runS fstep 0 .start us0 = runS fstep i st us ∧ us0 = done ++ us ∧ st.Good
theorem s_parse_form {t : List Nat} (h : Txt t) {P X} (hP : ∀ S', Ext S S' → match fOut t with
    | .inl d => P d S'
    | .inr i => X ⟨0, [(0, .int i)]⟩ S') : W (callN fs fuel (k + 5) I_parse_form [.str t] S) P X := by
  obtain ⟨LS, hLS⟩ : ∃ LS, LS = (splitAt1 10 t).map D.str := ⟨_, rfl⟩
  have e0 : l2D .split (.str t) (.str [10]) = some LS := by rw [h.split (by decide), hLS]
  obtain ⟨e02, e01, e03⟩ := last_str (splitAt1_ne 10 t) LS hLS
  have hlast := h.line (List.getLast_mem (splitAt1_ne 10 t))
  have hll := h.lines
  have hmem : ∀ l ∈ (splitAt1 10 t).dropLast, Txt l := fun l hl => h.line (List.dropLast_subset _ hl)
  have hout : fOut t = match runS fstep 0 .start (splitAt1 10 t).dropLast with
    | .inr i => .inr i
    | .inl s => fend ((splitAt1 10 t).length - 1) ((splitAt1 10 t).getLast (splitAt1_ne _ _)) s := rfl
  generalize (splitAt1 10 t).getLast (splitAt1_ne _ _) = lst at *
  generalize (splitAt1 10 t).dropLast = us0 at *
  refine W_callN rfl rfl ?_
  simp -dsimp [F_parse_form, e0, e01]
  refine W_forE us0 .str (PFI t LS S us0) rfl ⟨0, .start, [], _, _, rfl, rfl, rfl, rfl, rfl, trivial⟩ (by intros; rfl) (fun j l us σ S' hI => ?_) (fun j σ S' hI => ?_)
  · obtain ⟨i, st, done, a, b, rfl, rfl, rfl, hr, hd, hg⟩ := hI
    have hl := hmem l (by rw [hd]; simp)
    have hw := hl.words
    have htk := fun P X => s_takes (fuel := fuel) (k := k) (S := S ++ [.lst st.enc]) (P := P) (X := X) hg hl (get_last _ _)
    generalize (tlw l).map D.str = toks at *
    simp -dsimp [hw]
    refine htk _ _ fun xs' hx => ?_
    rw [set_last]
    cases hs : fstep st l with
    | none =>
      rw [runS_stop hs] at hr
      have hP' := hP (S ++ [.lst xs']) (Ext.add _)
      rw [hout, hr] at hP'
      simp -dsimp
      exact hP'
    | some st' =>
      rw [runS_here hs] at hr
      simp -dsimp
      exact ⟨i + 1, st', done ++ [l], _, _, by omega, rfl, by rw [hx st' hs], hr, by simp [hd], fstep_good hg hs⟩
  · obtain ⟨i, st, done, a, b, rfl, rfl, rfl, hr, hd, hg⟩ := hI
    have hP' := hP (S ++ [.lst st.enc]) (Ext.add _)
    rw [hout, hr, runS] at hP'
    dsimp only at hP'
    have hpos : 0 < (splitAt1 10 t).length := List.length_pos_iff.mpr (splitAt1_ne 10 t)
    have e5 : ((LS.length : Int) - 1) = ((splitAt1 10 t).length - 1 : Nat) := by omega
    by_cases h1 : lst = []
    case neg =>
      have : fend ((splitAt1 10 t).length - 1) lst st = .inr ((splitAt1 10 t).length - 1) := by
        cases st <;> simp [fend, h1]
      rw [this] at hP'
      simp -dsimp [e02, h1, hlast.cp, e5]
      exact hP'
    have ev := view_rf (get_last S (.lst st.enc))
    cases st with
    | start =>
      have ev0 := view_rf (get_last S (.lst []))
      simp -dsimp [e02, h1, e5, ev0, Fs.enc]
      exact hP'
    | rows gs rs =>
      obtain ⟨ts, ht1, ht2⟩ := rows_last hg
      have ht3 : cmpD .ne (.tup (ts.take 1)) (.tup [.str sGood]) = some true := by
        have e1 : cmpD .eq (.tup (ts.take 1)) (.tup [.str sGood]) = eqD (.tup (ts.take 1)) (.tup [.str sGood]) := rfl
        have e2 : cmpD .ne (.tup (ts.take 1)) (.tup [.str sGood]) = (eqD (.tup (ts.take 1)) (.tup [.str sGood])).map (!·) := rfl
        rw [e1] at ht2
        rw [e2, ht2]
        rfl
      have hlen : (Fs.rows gs rs).enc.length = rs.length + 1 := by simp [Fs.enc]
      have hl : ((Fs.rows gs rs).enc.length : Int) = rs.length + 1 := by omega
      rw [List.getLast?_eq_getElem?] at ht1
      simp only [fend] at hP'
      generalize (Fs.rows gs rs).enc = zs at *
      by_cases h3 : (rs.length : Int) + 1 < 3
      · simp -dsimp [e02, h1, e5, ev, hl, h3]
        exact hP'
      · simp -dsimp [e02, h1, e5, ev, hl, h3, ht1, ht3]
        exact hP'
    | done f =>
      have hf : f.Ok := hg
      have hlen : (Fs.done f).enc.length = f.rows.length + 2 := by simp [Fs.enc]
      have hl : ((Fs.done f).enc.length : Int) = f.rows.length + 2 := by omega
      have hr := hf.parts.1
      have ht1 : (Fs.done f).enc[(Fs.done f).enc.length - 1]? = some (.tup (.str sGood :: f.good.map .int)) := by
        rw [← List.getLast?_eq_getElem?]
        simp only [Fs.enc]
        rw [List.getLast?_concat]
      have ef := s_form_of (fuel := fuel) (k := k + 3) (S := S ++ [.lst (Fs.done f).enc]) (n := S.length) (g0 := .tup (f.gs.map .str)) (rs := f.rows.map (·.map D.int)) (w0 := .str sState) (gd := f.good.map .int) (by rw [← rowD_eq]; exact get_last _ _) (line_big (by rw [List.length_map]; omega))
      have hge : cmpD .ne (.tup [.str sGood]) (.tup [.str sGood]) = some false := by decide
      simp only [fend, if_pos h1] at hP'
      generalize (Fs.done f).enc = zs at *
      simp -dsimp [e02, h1, ev, hl, show ¬ ((f.rows.length : Int) + 2 < 3) by omega, ht1, hge, ef]
      simpa [Form.d, intsD, Function.comp_def, show (fun x : List Int => D.tup (x.map .int)) = intsD from rfl] using hP'
theorem s_form_outcome {t : List Nat} (h : Txt t) {P X} (hP : ∀ S', Ext S S' → P (answer (fOut t)) S') : W (callN fs fuel (k + 6) I__law_form_outcome [.str t] S) P X := by
  refine W_callN rfl rfl ?_
  simp -dsimp [F__law_form_outcome]
  refine s_parse_form h fun S' x => ?_
  have := hP S' x
  cases hw : fOut t with
  | inl d =>
    rw [hw] at this
    simp -dsimp
    exact this
  | inr i =>
    rw [hw] at this
    simp -dsimp
    exact this
end K93
end
section
set_option Elab.async false
set_option linter.all false
set_option maxRecDepth 100000
set_option maxHeartbeats 4000000
/-! P93r: letters, groups, as the law sees them -/
namespace K93
open MP
variable {fuel k : Nat} {S : DS}
def isLow (c : Nat) : Bool := decide (97 ≤ c) && decide (c ≤ 122)
theorem mem_low {c : Nat} : c ∈ CS_LETTERS ↔ 97 ≤ c ∧ c ≤ 122 := by
  unfold CS_LETTERS
  simp only [List.mem_cons, List.not_mem_nil, or_false]
  omega
theorem isLow_mem (c : Nat) : isLow c = decide (c ∈ CS_LETTERS) := by
  rw [Bool.eq_iff_iff]
  simp only [isLow, Bool.and_eq_true, decide_eq_true_eq, mem_low]
theorem strs_nil {zs : List (List Nat)} (h : ∀ z ∈ zs, cp z) : cmpD .eq (.lst (zs.map .str)) (.lst []) = some (decide (zs = [])) := by
  rw [eq_lst_nil fun x hx => by obtain ⟨z, hz, rfl⟩ := List.mem_map.mp hx; exact cp_pl (h z hz) 59]
  simp
theorem s_is_letters {s : List Nat} (hl : s.length ≤ line) (hc : cp s) : callN fs fuel (k + 1) I__law_is_letters [.str s, .int 26] S = .ok (.bl (decide (s.length ≤ 26) && s.all isLow)) S := by
  refine eq_of_W (W_callN rfl rfl ?_)
  by_cases h26 : s.length ≤ 26
  · simp -dsimp [F__law_is_letters, len_str hl, show ¬ (26 : Int) < s.length by omega, h26]
    refine W_filterT s (fun c => .str [c]) (fun c => !isLow c) (fun c => .str [c]) rfl hl rfl (fun c hcm acc ha => ?_) ?_
    · have hlt := cp_mem.mp hc c hcm
      by_cases h1 : 97 ≤ c
      · by_cases h2 : c ≤ 122
        · simp -dsimp [strLt_one, show ¬ c < 97 by omega, show ¬ 122 < c by omega, isLow, h1, h2]
        · simp -dsimp [strLt_one, show ¬ c < 97 by omega, show 122 < c by omega, isLow, h1, h2, ha]
      · simp -dsimp [strLt_one, show c < 97 by omega, isLow, h1, ha]
    · have e : (s.filter fun c => !isLow c).map (fun c => D.str [c]) = ((s.filter fun c => !isLow c).map fun c => [c]).map D.str := by simp
      have e2 := strs_nil (zs := (s.filter fun c => !isLow c).map fun c => [c]) fun z hz => by
        obtain ⟨c, hcm, rfl⟩ := List.mem_map.mp hz
        have := cp_mem.mp hc c (List.mem_filter.mp hcm).1
        simp [this]
      rw [e]
      have e3 : decide (((s.filter fun c => !isLow c).map fun c => [c]) = []) = s.all isLow := by
        rw [Bool.eq_iff_iff]
        simp [List.filter_eq_nil_iff]
      rw [e3] at e2
      generalize ((s.filter fun c => !isLow c).map fun c => [c]).map D.str = zs at *
      generalize s.all isLow = bb at *
      simp -dsimp [e2, h26]
  · simp -dsimp [F__law_is_letters, len_str hl, show (26 : Int) < s.length by omega, h26]
theorem zip_tail : ∀ xs : List D, zipD xs xs.tail = (pairsOf xs).map fun p => .tup [p.1, p.2]
  | [] => rfl
  | [x] => rfl
  | x :: y :: r => by
    have := zip_tail (y :: r)
    simp only [List.tail_cons] at this ⊢
    show D.tup [x, y] :: zipD (y :: r) r = _
    rw [this]
    rfl
/-- no neighbours that fall -/
theorem no_fall {α : Type} (r : α → α → Bool) (xs : List α) : decide ((pairsOf xs).filter (fun p => !r p.1 p.2) = []) = ascB r xs := by
  rw [Bool.eq_iff_iff]
  simp [List.filter_eq_nil_iff, ascB]
theorem ones_nil {α : Type} (ps : List α) : cmpD .eq (.lst (ps.map fun _ => D.int 1)) (.lst []) = some (decide (ps = [])) ∧ cmpD .ne (.lst (ps.map fun _ => D.int 1)) (.lst []) = some (!decide (ps = [])) := by
  have h1 : D.pl 60 (.lst (ps.map fun _ => D.int 1)) = true := by
    show D.pls 59 _ = true
    rw [pls_iff]
    intro x hx
    obtain ⟨_, _, rfl⟩ := List.mem_map.mp hx
    rfl
  rw [eq_pl h1 (by simp [D.pl, D.pls]), ne_pl h1 (by simp [D.pl, D.pls])]
  simp
theorem grp_asc {s : List Nat} (h1 : s ≠ []) (h2 : s.all isLow = true) : grpB s = ascB (fun a b => decide (a < b)) s := by
  unfold grpB
  have : s.all (fun c => decide (c ∈ CS_LETTERS)) = true := by
    rw [← h2]
    congr 1
    funext c
    exact (isLow_mem c).symm
  rw [this]
  simp [h1]
theorem grp_not {s : List Nat} (h : (decide (s.length ≤ 26) && s.all isLow) = false) : grpB s = false := by
  rw [Bool.eq_false_iff]
  intro e
  have hl := grp_len e
  unfold grpB at e
  simp only [Bool.and_eq_true] at e
  have : s.all isLow = true := by
    rw [← e.1.2]
    congr 1
    funext c
    exact isLow_mem c
  rw [this, decide_eq_true hl] at h
  cases h
def seenD (gs : List (List Nat)) : List D := gs.flatten.map fun c => D.str [c]
theorem seenD_nil : seenD [] = [] := rfl
/-- the loop of _law_are_groups -/
def LGI (gs : List (List Nat)) (S : DS) (us : List (List Nat)) (σ : MP.Env) (S' : DS) : Prop := ∃ (done : List (List Nat)) (a : Option D), σ = [some (.lst (gs.map .str)), some (.lst (seenD done)), a, none, none] ∧ S' = S ∧ gs = done ++ us ∧ ∀ g ∈ done, grpB g = true
theorem s_law_are_groups {gs : List (List Nat)} (hn : gs.length ≤ 100001) (hl : ∀ g ∈ gs, g.length ≤ line ∧ cp g) : callN fs fuel (k + 2) I__law_are_groups [.lst (gs.map .str)] S = .ok (.bl (grpsB gs)) S := by
  refine eq_of_W (W_callN rfl rfl ?_)
  simp -dsimp [F__law_are_groups]
  refine W_forT gs .str (LGI gs S) rfl ⟨[], none, rfl, rfl, rfl, by simp⟩ (by intros; rfl) (fun g us σ S' hI => ?_) (fun σ S' hI => ?_)
  · obtain ⟨done, a, rfl, rfl, hd, hg⟩ := hI
    have hm : g ∈ gs := by rw [hd]; simp
    obtain ⟨g1, g2⟩ := hl g hm
    have hfalse : grpB g = false → grpsB gs = false := fun q => by
      unfold grpsB
      have : gs.all grpB = false := by
        rw [Bool.eq_false_iff]
        intro e
        rw [List.all_eq_true.mp e g hm] at q
        cases q
      rw [this]
      simp
    obtain ⟨GD, hGD⟩ : ∃ GD, GD = gs.map D.str := ⟨_, rfl⟩
    rw [← hGD]
    by_cases h0 : g = []
    · subst h0
      simp -dsimp [hfalse rfl]
    cases h1 : (decide (g.length ≤ 26) && g.all isLow) with
    | false =>
      simp -dsimp [g2, h0, s_is_letters g1 g2, h1, hfalse (grp_not h1)]
    | true =>
      have h2 := h1
      simp only [Bool.and_eq_true, decide_eq_true_eq] at h2
      have ht : slD (.str g) (.int 1) .non = some (.str g.tail) := by rw [sl_str g1, cut_tail]; rfl
      simp -dsimp [g2, h0, s_is_letters g1 g2, h1, ht]
      refine W_filterT (pairsOf g) (fun p => .tup [.str [p.1], .str [p.2]]) (fun p => !decide (p.1 < p.2)) (fun _ => .int 1) ?_ ?_ rfl (fun p _ acc ha => ?_) ?_
      · rw [signs_tail, zip_tail, signs, pairsOf_map, List.map_map]
        rfl
      · rw [pairs_len]
        exact line_big (by omega)
      · by_cases hp : p.1 < p.2
        · simp -dsimp [strLt_one, hp]
        · simp -dsimp [strLt_one, hp, ha]
      · have e1 := (ones_nil ((pairsOf g).filter fun p => !decide (p.1 < p.2))).2
        have e2 := no_fall (fun a b => decide (a < b)) g
        rw [e2, ← grp_asc h0 h2.2] at e1
        generalize ((pairsOf g).filter fun p => !decide (p.1 < p.2)).map (fun _ => D.int 1) = zs at *
        cases hgb : grpB g with
        | false =>
          rw [hgb] at e1
          simp -dsimp [e1, hfalse hgb]
        | true =>
          rw [hgb] at e1
          have hfl := flat_len (n := 26) done fun g h => grp_len (hg g h)
          have hdl : done.length ≤ 100001 := by rw [hd] at hn; simp only [List.length_append] at hn; omega
          have e3 : l1D .list (.str g) = some (g.map fun c => D.str [c]) := if_pos g1
          have e4 : binD .add (.lst (seenD done)) (.lst (g.map fun c => D.str [c])) = some (.lst (seenD (done ++ [g]))) := by
            rw [add_lst (line_big (by rw [seenD, List.length_map, List.length_map]; omega))]
            simp [seenD]
          generalize (g.map fun c => D.str [c]) = gn at *
          simp -dsimp [e1, e3, e4, hGD]
          refine ⟨done ++ [g], _, rfl, rfl, by simp [hd], fun x hx => ?_⟩
          rcases List.mem_append.mp hx with hx | hx
          · exact hg x hx
          · rw [List.mem_singleton.mp hx]; exact hgb
  · obtain ⟨done, a, rfl, rfl, hd, hg⟩ := hI
    rw [List.append_nil] at hd
    subst hd
    have hall : gs.all grpB = true := List.all_eq_true.mpr hg
    have hgl : (gs.map D.str).length = gs.length := List.length_map ..
    by_cases h3 : gs.length ≤ 3
    · have hf := flat_len (n := 26) gs fun g h => grp_len (hg g h)
      have e : seenD gs = (gs.flatten.map fun c => [c]).map D.str := by unfold seenD; rw [List.map_map]; rfl
      rw [e]
      have hz : (gs.flatten.map fun c => [c]).length + 1 < 4096 := by
        rw [List.length_map]; omega
      have hu := uniq_nodup (gs.flatten.map fun c => [c])
      rw [decide_eq_decide, nodup_sing] at hu
      have hzl : ((gs.flatten.map fun c => [c]).map D.str).length = (gs.flatten.map fun c => [c]).length := List.length_map ..
      have e2 := lenset_strs hz
      rw [← hzl] at hu
      generalize gs.flatten.map (fun c => [c]) = zs at *
      generalize zs.map D.str = zD at *
      generalize gs.map D.str = GD at *
      simp -dsimp [e2, hgl, show (gs.length : Int) ≤ 3 by omega, grpsB, h3, hall]
      exact hu
    · generalize gs.map D.str = GD at *
      simp -dsimp [hgl, show ¬ (gs.length : Int) ≤ 3 by omega, grpsB, h3]
end K93
end
section
set_option Elab.async false
set_option linter.all false
set_option maxRecDepth 100000
set_option maxHeartbeats 4000000
/-! P93s: a form as the law reads it -/
namespace K93
open MP
variable {fuel k : Nat} {S : DS}
def belowB (m : Nat) (w : List Int) : Bool := w.all fun i => decide (i < m)
theorem asc_ints (w : List Int) : ascB ltD (w.map .int) = ascB (fun a b => decide (a < b)) w := by
  unfold ascB
  rw [pairsOf_map, List.all_map]
  rfl
theorem below_idx {w : List Int} (h : ∀ i ∈ w, 0 ≤ i ∧ i < 4) (m : Nat) : (w.map D.int).all (idxB · m) = belowB m w := by
  rw [List.all_map]
  unfold belowB
  rw [Bool.eq_iff_iff, List.all_eq_true, List.all_eq_true]
  refine forall_congr' fun i => forall_congr' fun hi => ?_
  have := h i hi
  simp [idxB, this.1]
theorem okF_eq {gs rs} (h : (Fs.rows gs rs).Good) (hne : rs ≠ []) {w : List Int} (hw : ∀ i ∈ w, 0 ≤ i ∧ i < 4) : okF gs rs w = (ascB (fun a b => decide (a < b)) w && belowB rs.length w && rs.all (belowB rs.length)) := by
  obtain ⟨h1, h2, h3⟩ := h
  have hl := List.length_pos_iff.mpr hne
  unfold okF formB
  rw [decide_eq_true (by rw [List.length_map]; omega), h1, asc_ints, List.length_map, below_idx hw]
  have : (rs.map (·.map D.int)).all (fun r => decide (r.length = gs.length + 1) && r.all (idxB · rs.length)) = rs.all (belowB rs.length) := by
    rw [List.all_map, Bool.eq_iff_iff, List.all_eq_true, List.all_eq_true]
    refine forall_congr' fun r => forall_congr' fun hr => ?_
    have := h3 r hr
    simp only [Function.comp_apply, List.length_map, this.1, decide_true, Bool.true_and, below_idx this.2]
  rw [this]
  cases ascB (fun a b => decide (a < b)) w <;> cases belowB rs.length w <;> cases rs.all (belowB rs.length) <;> rfl
theorem ints_nil (w : List Int) : cmpD .eq (.lst (w.map .int)) (.lst []) = some (decide (w = [])) := by
  rw [eq_lst_nil fun x hx => by obtain ⟨i, _, rfl⟩ := List.mem_map.mp hx; rfl]
  simp
theorem below_nil (m : Nat) (w : List Int) : decide ((w.filter fun i => !decide (i < (m : Int))) = []) = belowB m w := by
  rw [Bool.eq_iff_iff]
  simp [List.filter_eq_nil_iff, belowB]
abbrev rBody : Ss := .cons (.asg (.nm 10) (.and (.var 10) (.cmp .eq (.fz (.comp [11] (.var 11) (.nm 11) (.seq (.var 12)) (.cmp .ge (.var 11) (.b1 .len (.var 3))))) (.fz (.disp .nil))))) .nil
section
variable {x0 x1 x2 x4 x5 x6 x7 x8 x9 x12 : Option D} {n : Nat} {cf : CF}
def RLI (x0 x1 x2 x4 x5 x6 x7 x8 x9 : Option D) (n : Nat) (b : Bool) (rs : List (List Int)) (S : DS) (us : List (List Int)) (σ : MP.Env) (S' : DS) : Prop := ∃ (done : List (List Int)) (r : Option D), σ = [x0, x1, x2, some (.ref n), x4, x5, x6, x7, x8, x9, some (.bl (b && done.all (belowB rs.length))), none, r, none] ∧ S' = S ∧ rs = done ++ us
theorem W_rowsLoop {rs : List (List Int)} {RD : List D} (hRD : RD = rs.map intsD) (hr : ∀ r ∈ rs, r.length ≤ 1000) (hS : S[n]? = some (.lst RD)) {b : Bool} {P X} (hP : ∀ r, P (.nx [x0, x1, x2, some (.ref n), x4, x5, x6, x7, x8, x9, some (.bl (b && rs.all (belowB rs.length))), none, r, none]) S) :
    W (forM' [(n, RD)] (fun x σ => do
      let σ' ← ofO (bindT (.nm 12) x σ)
      evSs cf fuel rBody σ') RD [x0, x1, x2, some (.ref n), x4, x5, x6, x7, x8, x9, some (.bl b), none, x12, none] S) P X := by
  refine W_forT rs intsD (RLI x0 x1 x2 x4 x5 x6 x7 x8 x9 n b rs S) hRD ⟨[], x12, by simp, rfl, rfl⟩ (fun us σ S' hI => ?_) (fun r us σ S' hI => ?_) (fun σ S' hI => ?_)
  · obtain ⟨done, r, _, rfl, _⟩ := hI
    simp [hS]
  · obtain ⟨done, r', rfl, rfl, hd⟩ := hI
    have hm := hr r (by rw [hd]; simp)
    have hv := view_rf hS
    have hlen : b1D .len (.lst RD) = some (.int rs.length) := by rw [hRD, len_lst, List.length_map]
    have hall : (b && (done ++ [r]).all (belowB rs.length)) = ((b && done.all (belowB rs.length)) && belowB rs.length r) := by
      rw [List.all_append]
      simp [Bool.and_assoc]
    cases hb : (b && done.all (belowB rs.length)) with
    | false =>
      rw [hb] at hall
      simp -dsimp [rBody]
      exact ⟨done ++ [r], _, by rw [hall]; rfl, rfl, by simp [hd]⟩
    | true =>
      rw [hb] at hall
      have hi : items (intsD r) = some (r.map .int) := rfl
      have hw : ∀ S, walkOf (intsD r) S = .ok ([], r.map .int) S := fun _ => rfl
      simp -dsimp [rBody, hw]
      refine W_filterT r .int (fun i => !decide (i < (rs.length : Int))) .int rfl (line_big (by omega)) rfl (fun i hi acc ha => ?_) ?_
      · by_cases h : i < (rs.length : Int)
        · simp -dsimp [hv, hlen, h, show ¬ (rs.length : Int) ≤ i by omega]
        · simp -dsimp [hv, hlen, h, show (rs.length : Int) ≤ i by omega, ha]
      · have e := ints_nil (r.filter fun i => !decide (i < (rs.length : Int)))
        rw [below_nil] at e
        generalize (r.filter fun i => !decide (i < (rs.length : Int))).map D.int = zs at *
        simp -dsimp [e]
        exact ⟨done ++ [r], _, by rw [hall]; rfl, rfl, by simp [hd]⟩
  · obtain ⟨done, r', rfl, rfl, hd⟩ := hI
    rw [List.append_nil] at hd
    subst hd
    exact hP _
end
/-- what the law keeps of what was read -/
def Fs.g : Fs → D
  | .start => .non
  | .rows gs _ => .lst (gs.map .str)
  | .done f => .lst (f.gs.map .str)
def Fs.r : Fs → List (List Int)
  | .start => []
  | .rows _ rs => rs
  | .done f => f.rows
def Fs.o : Fs → D
  | .done f => intsD f.good
  | _ => .non
end K93
end
section
set_option Elab.async false
set_option linter.all false
set_option maxRecDepth 100000
set_option maxHeartbeats 4000000
/-! P93t: _law_read_form -/
namespace K93
open MP
variable {fuel k : Nat} {S : DS}
theorem nmem_non {ss : List (List Nat)} : cmpD .notMem .non (.lst (ss.map fun z => oD (numL z))) = some (nums ss).isSome := by
  have h1 : D.shp 60 D.non = true := rfl
  have h2 := D.pls_shps 59 _ (pl_nums 59 ss)
  show (if _ then some _ else none) = _
  rw [h1, h2]
  simp only [Bool.and_self, if_true]
  rw [any_non ss]
  cases nums ss <;> rfl
theorem rows_nil {rs : List (List Int)} : cmpD .ne (.lst (rs.map intsD)) (.lst []) = some (!decide (rs = [])) := by
  have h1 : D.pl 60 (.lst (rs.map intsD)) = true := by
    show D.pls 59 _ = true
    rw [pls_iff]
    intro x hx
    obtain ⟨w, _, rfl⟩ := List.mem_map.mp hx
    show D.pls 58 _ = true
    rw [pls_iff]
    intro y hy
    obtain ⟨i, _, rfl⟩ := List.mem_map.mp hy
    rfl
  rw [ne_pl h1 (by simp [D.pl, D.pls])]
  simp
/-- the loop of _law_read_form -/
def RFI (t : List Nat) (LS : List D) (S : DS) (us0 : List (List Nat)) (j : Int) (us : List (List Nat)) (σ : MP.Env) (S' : DS) : Prop := ∃ (i : Nat) (st : Fs) (done : List (List Nat)) (a b c d e f g : Option D), j = i ∧ σ = [some (.str t), some (.lst LS), some st.g, some (.ref S.length), some st.o, a, b, c, d, e, f, none, g, none] ∧ S' = S ++ [.lst (st.r.map intsD)] ∧ runS fstep 0 .start us0 = runS fstep i st us ∧ us0 = done ++ us ∧ st.Good
theorem s_law_read_form {t : List Nat} (h : Txt t) {P X} (hP : ∀ S', Ext S S' → P (answer (fOut t)) S') : W (callN fs fuel (k + 3) I__law_read_form [.str t] S) P X := by
  obtain ⟨LS, hLS⟩ : ∃ LS, LS = (splitAt1 10 t).map D.str := ⟨_, rfl⟩
  have e0 : l2D .split (.str t) (.str [10]) = some LS := by rw [h.split (by decide), hLS]
  obtain ⟨e02, e01, e03⟩ := last_str (splitAt1_ne 10 t) LS hLS
  have hlast := h.line (List.getLast_mem (splitAt1_ne 10 t))
  have hll := h.lines
  have hmem : ∀ l ∈ (splitAt1 10 t).dropLast, Txt l := fun l hl => h.line (List.dropLast_subset _ hl)
  have hout : fOut t = match runS fstep 0 .start (splitAt1 10 t).dropLast with
    | .inr i => .inr i
    | .inl s => fend ((splitAt1 10 t).length - 1) ((splitAt1 10 t).getLast (splitAt1_ne _ _)) s := rfl
  generalize (splitAt1 10 t).getLast (splitAt1_ne _ _) = lst at *
  generalize (splitAt1 10 t).dropLast = us0 at *
  refine W_callN rfl rfl ?_
  simp -dsimp [F__law_read_form, e0, e01]
  refine W_forE us0 .str (RFI t LS S us0) rfl ⟨0, .start, [], _, _, _, _, _, _, _, rfl, rfl, rfl, rfl, rfl, trivial⟩ (by intros; rfl) (fun j l us σ S' hI => ?_) (fun j σ S' hI => ?_)
  · obtain ⟨i, st, done, a, b, c, d, e, f, g, rfl, rfl, rfl, hr, hd, hg⟩ := hI
    have hl := hmem l (by rw [hd]; simp)
    have hw := hl.words
    obtain ⟨c1, c2⟩ := tlw_ok hl.cp
    have tl := tlw_len l
    have hll := hl.len
    obtain ⟨toks, htoks⟩ : ∃ toks, toks = (tlw l).map D.str := ⟨_, rfl⟩
    rw [← htoks] at hw
    -- the line is not right
    have hbad : fstep st l = none → ∀ xs, P (.tup [.str [108, 105, 110, 101], .int i]) (S ++ [.lst xs]) := fun hs xs => by
      rw [runS_stop hs] at hr
      have hP' := hP (S ++ [.lst xs]) (Ext.add _)
      rw [hout, hr] at hP'
      exact hP'
    simp -dsimp [hw]
    refine W_mapT (tlw l) .str (fun z => oD (numL z)) htoks (line_big (by omega)) rfl (fun z hz acc ha => ?_) ?_
    · simp -dsimp [ha, s_law_number (c2 z hz).2]
    have hnm := nmem_non (ss := tlw l)
    have hnl : ((tlw l).map fun z => oD (numL z)).length = (tlw l).length := List.length_map ..
    have hn1 : ∀ w, nums (tlw l) = some w → (tlw l).map (fun z => oD (numL z)) = w.map .int ∧ w.length = (tlw l).length ∧ ∀ i ∈ w, 0 ≤ i ∧ i < 4 := fun w h => ⟨(nums_of h).2.1, (nums_of h).2.2.2, (nums_of h).2.2.1⟩
    generalize (tlw l).map (fun z => oD (numL z)) = nw at *
    cases st with
    | start =>
      have hag := fun S => s_law_are_groups (fuel := fuel) (k := k) (S := S) (gs := tlw l) (by omega) fun z hz => ⟨line_big (by have := (c2 z hz).1; omega), (c2 z hz).2⟩
      rw [← htoks] at hag
      have hf : fstep .start l = if hdw l = sGroups ∧ grpsB (tlw l) = true then some (.rows (tlw l) []) else none := rfl
      by_cases h1 : hdw l = sGroups
      · cases h2 : grpsB (tlw l) with
        | true =>
          rw [if_pos ⟨h1, h2⟩] at hf
          rw [runS_here hf] at hr
          simp -dsimp [Fs.g, Fs.o, Fs.r, c1, h1, hag, h2]
          exact ⟨i + 1, .rows (tlw l) [], done ++ [l], _, _, _, _, _, _, _, by omega, by rw [htoks]; rfl, rfl, hr, by simp [hd], fstep_good (s := .start) trivial hf⟩
        | false =>
          rw [if_neg (by simp [h2])] at hf
          simp -dsimp [Fs.g, Fs.o, Fs.r, c1, h1, hag, h2]
          exact hbad hf _
      · rw [if_neg (fun q => h1 q.1)] at hf
        simp -dsimp [Fs.g, Fs.o, Fs.r, c1, h1]
        exact hbad hf _
    | done f =>
      have hb := hbad rfl (f.rows.map intsD)
      simp -dsimp [Fs.g, Fs.o, Fs.r, intsD]
      exact hb
    | rows gs rs =>
      have hG := hg
      obtain ⟨h1, h2, h3⟩ := hg
      obtain ⟨g1, g2⟩ := grps_parts h1
      have hf : fstep (.rows gs rs) l = if hdw l = sState then (nums (tlw l)).bind fun w => if rs.length < 4 ∧ w.length = gs.length + 1 then some (.rows gs (rs ++ [w])) else none
        else if hdw l = sGood then (nums (tlw l)).bind fun w => if okF gs rs w = true then some (.done ⟨gs, rs, w⟩) else none
        else none := rfl
      have hgl : (gs.map D.str).length = gs.length := List.length_map ..
      obtain ⟨GD, hGD⟩ : ∃ GD, GD = gs.map D.str := ⟨_, rfl⟩
      obtain ⟨RD, hRD⟩ : ∃ RD, RD = rs.map intsD := ⟨_, rfl⟩
      have hrl : RD.length = rs.length := by rw [hRD, List.length_map]
      have hrn := rows_nil (rs := rs)
      rw [← hGD] at hgl
      rw [← hRD] at hrn
      have hSr : (S ++ [MO.lst RD])[S.length]? = some (.lst RD) := get_last _ _
      by_cases q1 : hdw l = sState
      · rw [if_pos q1] at hf
        have ea := appM_rf hSr (line_big (by omega)) (.tup nw)
        rw [set_last] at ea
        have ev := view_rf (get_last S (.lst (RD ++ [.tup nw])))
        have hll2 : ((RD ++ [D.tup nw]).length : Int) = rs.length + 1 := by simp [hrl]
        generalize hRD2 : RD ++ [D.tup nw] = RD2 at *
        cases hn : nums (tlw l) with
        | none =>
          rw [hn] at hf hnm
          simp -dsimp [Fs.g, Fs.o, Fs.r, ← hGD, ← hRD, c1, q1, chkL_rf hSr, ea, hnm]
          exact hbad hf _
        | some w =>
          obtain ⟨w1, w2, w3⟩ := hn1 w hn
          rw [hn] at hf hnm
          simp only [Option.bind_some] at hf
          by_cases q2 : w.length = gs.length + 1
          · by_cases q3 : rs.length < 4
            · rw [if_pos ⟨q3, q2⟩] at hf
              rw [runS_here hf] at hr
              simp -dsimp [Fs.g, Fs.o, Fs.r, ← hGD, ← hRD, c1, q1, chkL_rf hSr, ea, hnm, hnl, hgl, ev, hll2, show ((tlw l).length : Int) = (gs.length : Int) + 1 by omega, show (rs.length : Int) + 1 ≤ 4 by omega]
              exact ⟨i + 1, .rows gs (rs ++ [w]), done ++ [l], _, _, _, _, _, _, _, by omega, by rw [hGD]; rfl, by simp [Fs.r, ← hRD2, hRD, w1, intsD], hr, by simp [hd], fstep_good hG hf⟩
            · rw [if_neg (fun q => q3 q.1)] at hf
              simp -dsimp [Fs.g, Fs.o, Fs.r, ← hGD, ← hRD, c1, q1, chkL_rf hSr, ea, hnm, hnl, hgl, ev, hll2, show ((tlw l).length : Int) = (gs.length : Int) + 1 by omega, show ¬ (rs.length : Int) + 1 ≤ 4 by omega]
              exact hbad hf _
          · rw [if_neg (fun q => q2 q.2)] at hf
            simp -dsimp [Fs.g, Fs.o, Fs.r, ← hGD, ← hRD, c1, q1, chkL_rf hSr, ea, hnm, hnl, hgl, ev, hll2, show ¬ ((tlw l).length : Int) = (gs.length : Int) + 1 by omega]
            exact hbad hf _
      · rw [if_neg q1] at hf
        have hev : view (.ref S.length) (S ++ [MO.lst RD]) = .ok (.lst RD) (S ++ [MO.lst RD]) := view_rf hSr
        have hwk : walkOf (.ref S.length) (S ++ [MO.lst RD]) = .ok ([(S.length, RD)], RD) (S ++ [MO.lst RD]) := walkOf_rf hSr
        have hr1000 : ∀ r ∈ rs, r.length ≤ 1000 := fun r hr => by have := (h3 r hr).1; omega
        -- the first three
        by_cases q3 : hdw l = sGood ∧ rs ≠ [] ∧ (nums (tlw l)).isSome = true
        case neg =>
          have hnone : fstep (.rows gs rs) l = none := by
            rw [hf]
            split
            · rename_i q4
              cases hn : nums (tlw l) with
              | none => rfl
              | some w =>
                have : rs = [] := by
                  apply Classical.byContradiction
                  intro q5
                  exact q3 ⟨q4, q5, by rw [hn]; rfl⟩
                subst this
                rfl
            · rfl
          by_cases p1 : hdw l = sGood
          · by_cases p2 : rs = []
            · rw [decide_eq_true p2] at hrn
              simp -dsimp [Fs.g, Fs.o, Fs.r, ← hGD, ← hRD, c1, p1, hev, hrn, hwk]
              refine W_rowsLoop hRD hr1000 hSr fun r' => ?_
              simp -dsimp
              exact hbad hnone _
            · have p3 : (nums (tlw l)).isSome = false := by
                rw [Bool.eq_false_iff]
                exact fun q => q3 ⟨p1, p2, q⟩
              rw [p3] at hnm
              rw [decide_eq_false p2] at hrn
              simp -dsimp [Fs.g, Fs.o, Fs.r, ← hGD, ← hRD, c1, p1, hev, hrn, hnm, hwk]
              refine W_rowsLoop hRD hr1000 hSr fun r' => ?_
              simp -dsimp
              exact hbad hnone _
          · simp -dsimp [Fs.g, Fs.o, Fs.r, ← hGD, ← hRD, c1, q1, p1, hwk]
            refine W_rowsLoop hRD hr1000 hSr fun r' => ?_
            simp -dsimp
            exact hbad hnone _
        obtain ⟨p1, p2, p3⟩ := q3
        obtain ⟨w, hn⟩ := Option.isSome_iff_exists.mp p3
        obtain ⟨w1, w2, w3⟩ := hn1 w hn
        rw [p3] at hnm
        rw [if_pos p1, hn] at hf
        simp only [Option.bind_some] at hf
        have hok := okF_eq hG p2 w3
        rw [w1] at hnm
        rw [w1]
        have hzip : zipD (w.map D.int) (w.map D.int).tail = (pairsOf w).map fun p => .tup [.int p.1, .int p.2] := by
          rw [zip_tail, pairsOf_map, List.map_map]
          rfl
        obtain ⟨WD, hWD⟩ : ∃ WD, WD = w.map D.int := ⟨_, rfl⟩
        rw [← hWD] at hzip hnm ⊢
        rw [decide_eq_false p2] at hrn
        simp -dsimp [Fs.g, Fs.o, Fs.r, ← hGD, ← hRD, c1, p1, hev, hrn, hnm]
        refine W_filterT (pairsOf w) (fun p => .tup [.int p.1, .int p.2]) (fun p => !decide (p.1 < p.2)) (fun _ => .int 1) hzip (by rw [pairs_len]; exact line_big (by omega)) rfl (fun p _ acc ha => ?_) ?_
        · by_cases hp : p.1 < p.2
          · simp -dsimp [hp, show ¬ p.2 ≤ p.1 by omega]
          · simp -dsimp [hp, show p.2 ≤ p.1 by omega, ha]
        have e1 := (ones_nil ((pairsOf w).filter fun p => !decide (p.1 < p.2))).1
        have e2 := no_fall (fun a b => decide (a < b)) w
        rw [e2] at e1
        generalize ((pairsOf w).filter fun p => !decide (p.1 < p.2)).map (fun _ => D.int 1) = zs at *
        cases b1 : ascB (fun a b => decide (a < b)) w with
        | false =>
          rw [b1] at hok e1
          rw [hok] at hf
          simp -dsimp [e1, hwk]
          refine W_rowsLoop hRD hr1000 hSr fun r' => ?_
          simp -dsimp
          exact hbad hf _
        | true =>
          rw [b1] at hok e1
          simp -dsimp [e1]
          refine W_filterT w .int (fun i => !decide (i < (rs.length : Int))) .int hWD (line_big (by omega)) rfl (fun i hi acc ha => ?_) ?_
          · by_cases hi : i < (rs.length : Int)
            · simp -dsimp [hev, hrl, hi, show ¬ (rs.length : Int) ≤ i by omega]
            · simp -dsimp [hev, hrl, hi, show (rs.length : Int) ≤ i by omega, ha]
          have e3 := ints_nil (w.filter fun i => !decide (i < (rs.length : Int)))
          rw [below_nil] at e3
          generalize (w.filter fun i => !decide (i < (rs.length : Int))).map D.int = ys at *
          simp -dsimp [e3, hwk]
          refine W_rowsLoop hRD hr1000 hSr fun r' => ?_
          rw [Bool.true_and] at hok
          rw [hok] at hf
          cases b2 : (belowB rs.length w && rs.all (belowB rs.length)) with
          | false =>
            rw [b2] at hf
            simp -dsimp
            exact hbad hf _
          | true =>
            rw [b2] at hf
            rw [runS_here (show fstep (.rows gs rs) l = some (.done ⟨gs, rs, w⟩) from hf)] at hr
            simp -dsimp
            exact ⟨i + 1, .done ⟨gs, rs, w⟩, done ++ [l], _, _, _, _, _, _, _, by omega, by rw [hGD, hWD]; rfl, by simp [Fs.r, hRD], hr, by simp [hd], fstep_good hG hf⟩
  · obtain ⟨i, st, done, a, b, c, d, e, f, g, rfl, rfl, rfl, hr, hd, hg⟩ := hI
    have hP' := hP (S ++ [.lst (st.r.map intsD)]) (Ext.add _)
    rw [hout, hr, runS] at hP'
    dsimp only at hP'
    have hpos : 0 < (splitAt1 10 t).length := List.length_pos_iff.mpr (splitAt1_ne 10 t)
    have e5 : ((LS.length : Int) - 1) = ((splitAt1 10 t).length - 1 : Nat) := by omega
    by_cases h1 : lst = []
    case neg =>
      have : fend ((splitAt1 10 t).length - 1) lst st = .inr ((splitAt1 10 t).length - 1) := by
        cases st <;> simp [fend, h1]
      rw [this] at hP'
      have hNR : ∀ S, view st.o S = .ok st.o S := by cases st <;> exact fun _ => rfl
      simp -dsimp [e02, h1, hlast.cp, e5]
      exact hP'
    cases st with
    | start =>
      simp -dsimp [e02, h1, e5, Fs.o]
      exact hP'
    | rows gs rs =>
      simp -dsimp [e02, h1, e5, Fs.o]
      exact hP'
    | done f =>
      have ev := view_rf (get_last S (.lst (f.rows.map intsD)))
      simp only [fend, if_pos h1] at hP'
      simp -dsimp [e02, h1, Fs.o, Fs.g, Fs.r, intsD, ev]
      exact hP'
end K93
end
section
set_option Elab.async false
set_option linter.all false
set_option maxRecDepth 100000
set_option maxHeartbeats 4000000
/-! P93u: the answers have a repr -/
namespace K93
open MP
variable {fuel k : Nat} {S : DS}
theorem dec_nat (n : Nat) : (decI (n : Int)).length = (Nat.repr n).length := by
  have h : (PySem.Str.ofString (toString (n : Int))).length = (toString (n : Int)).length := PySem.ofString_length _
  exact (Array.length_toList (xs := (PySem.Str.ofString (toString (n : Int))).cps)).trans h
theorem dec_len {n : Nat} (h : n < 10000000) : (decI (n : Int)).length ≤ 7 := by
  rw [dec_nat]
  exact (Nat.length_repr_le_iff (by decide)).mpr h
/-- the lines' weight: their signs and their ends -/
def wt (zs : List (List Nat)) : Nat := (zs.map fun z => z.length + 1).sum
@[simp] theorem wt_nil : wt [] = 0 := rfl
@[simp] theorem wt_cons (z zs) : wt (z :: zs) = z.length + 1 + wt zs := rfl
theorem wt_append (xs ys) : wt (xs ++ ys) = wt xs + wt ys := by simp [wt]
theorem wt_split (c : Nat) : ∀ s : List Nat, wt (splitAt1 c s) = s.length + 1
  | [] => rfl
  | a :: r => by
    have ih := wt_split c r
    unfold splitAt1
    split
    · rw [wt_cons, ih]
      simp
      omega
    · cases h : splitAt1 c r with
      | nil => exact absurd h (splitAt1_ne c r)
      | cons w ws =>
        rw [h, wt_cons] at ih
        simp only [wt_cons, List.length_cons]
        omega
theorem wt_sub {xs ys : List (List Nat)} (h : xs.Sublist ys) : wt xs ≤ wt ys := by
  induction h with
  | slnil => exact Nat.le_refl _
  | cons a _ ih => rw [wt_cons]; omega
  | cons_cons a _ ih => rw [wt_cons, wt_cons]; omega
theorem wt_take (k : Nat) (xs) : wt (xs.take k) ≤ wt xs := wt_sub (List.take_sublist k xs)
theorem wt_drop (k : Nat) (xs) : wt (xs.drop k) ≤ wt xs := wt_sub (List.drop_sublist k xs)
theorem wt_init (xs) : wt xs.dropLast ≤ wt xs := wt_sub (List.dropLast_sublist xs)
theorem wt_mem {z : List Nat} {xs : List (List Nat)} (h : z ∈ xs) : z.length + 1 ≤ wt xs := by
  have := wt_sub (List.singleton_sublist.mpr h)
  rw [wt_cons, wt_nil] at this
  omega
theorem wt_set (x : List Nat) : ∀ (xs : List (List Nat)) (k : Nat), wt (xs.set k x) ≤ wt xs + x.length + 1
  | [], _ => by simp
  | y :: ys, 0 => by simp only [List.set_cons_zero, wt_cons]; omega
  | y :: ys, k + 1 => by
    have := wt_set x ys k
    simp only [List.set_cons_succ, wt_cons]
    omega
theorem wt_len (xs : List (List Nat)) : xs.length ≤ wt xs := by
  induction xs with
  | nil => exact Nat.le_refl _
  | cons x xs ih => rw [wt_cons, List.length_cons]; omega
/-- what is told of words is no longer than the text -/
theorem runW_le : ∀ (us : List (List Nat)) (i : Nat) (ws ws' : List (List Int)), runS wst i ws us = .inl ws' → (∀ w ∈ ws, ∀ x ∈ w, 0 ≤ x ∧ x < 4) → (∀ w ∈ ws', ∀ x ∈ w, 0 ≤ x ∧ x < 4) ∧ (ws'.map fun w => w.length + 1).sum ≤ (ws.map fun w => w.length + 1).sum + wt us
  | [], i, ws, ws', h, hw => by cases h; exact ⟨hw, Nat.le_refl _⟩
  | l :: us, i, ws, ws', h, hw => by
    cases hs : wst ws l with
    | none => rw [runS_stop hs] at h; cases h
    | some ws1 =>
      rw [runS_here hs] at h
      unfold wst at hs
      split at hs
      · cases hn : nums (tlw l) with
        | none => rw [hn] at hs; cases hs
        | some w =>
          rw [hn] at hs
          cases hs
          obtain ⟨_, _, w3, w4⟩ := nums_of hn
          obtain ⟨h1, h2⟩ := runW_le us (i + 1) _ _ h fun v hv => by
            rcases List.mem_append.mp hv with hv | hv
            · exact hw v hv
            · rw [List.mem_singleton.mp hv]; exact w3
          refine ⟨h1, ?_⟩
          have := tlw_len l
          simp only [List.map_append, List.sum_append, List.map_cons, List.map_nil, List.sum_cons, List.sum_nil] at h2
          rw [wt_cons]
          omega
      · cases hs
theorem rls_ints {w : List Int} (h : ∀ x ∈ w, 0 ≤ x ∧ x < 4) : rls (w.map D.int) ≤ 4 * w.length := by
  have h2 : rls (w.map D.int) ≤ (2 + 2) * (w.map D.int).length := rls_le _ fun d hd => by
    obtain ⟨i, hi, rfl⟩ := List.mem_map.mp hd
    have := h i hi
    exact (dec_props (a := i) this.1 (by omega)).2.1
  rwa [List.length_map] at h2
theorem rls_ws : ∀ {ws : List (List Int)}, (∀ w ∈ ws, ∀ x ∈ w, 0 ≤ x ∧ x < 4) → rls (ws.map intsD) ≤ 5 * (ws.map fun w => w.length + 1).sum
  | [], _ => Nat.le_refl _
  | w :: ws, h => by
    have h1 := rls_ints (h w (List.mem_cons_self ..))
    have h2 := rls_ws (ws := ws) fun v hv => h v (List.mem_cons_of_mem _ hv)
    show rls (w.map D.int) + 3 + 2 + rls (ws.map intsD) ≤ _
    simp only [List.map_cons, List.sum_cons]
    omega
/-- a told value that can be shown -/
structure Told (d : D) : Prop where
  pl : D.pl 59 d = true
  sho : D.sho d = true
  rl : rl d ≤ 1000000
theorem told_ws {ws : List (List Int)} (h : ∀ w ∈ ws, ∀ x ∈ w, 0 ≤ x ∧ x < 4) (hl : (ws.map fun w => w.length + 1).sum ≤ 100001) : Told (.tup (ws.map intsD)) := by
  refine ⟨?_, ?_, ?_⟩
  · show D.pls 58 _ = true
    rw [pls_iff]
    intro x hx
    obtain ⟨w, hw, rfl⟩ := List.mem_map.mp hx
    show D.pls 57 _ = true
    rw [pls_iff]
    intro y hy
    obtain ⟨i, _, rfl⟩ := List.mem_map.mp hy
    rfl
  · show D.shos _ = true
    rw [shos_iff]
    intro x hx
    obtain ⟨w, hw, rfl⟩ := List.mem_map.mp hx
    show D.shos _ = true
    rw [shos_iff]
    intro y hy
    obtain ⟨i, hi, rfl⟩ := List.mem_map.mp hy
    have := h w hw i hi
    exact decide_eq_true (Nat.lt_trans (log2_small (k := 60) (by omega) (by decide)) (by decide))
  · show rls (ws.map intsD) + 3 ≤ _
    have := rls_ws h
    omega
theorem told_form {f : Form} (h : f.Ok) : Told f.d := by
  obtain ⟨h1, h2, h3, h4⟩ := h.parts
  obtain ⟨g1, g2⟩ := grps_parts h2
  have hi : ∀ (w : List Int) (n : Nat), D.pl (n + 1) (intsD w) = true := fun w n => by
    show D.pls n _ = true
    rw [pls_iff]
    intro y hy
    obtain ⟨i, _, rfl⟩ := List.mem_map.mp hy
    simp [D.pl]
  have hs : ∀ w : List Int, (∀ i ∈ w, 0 ≤ i ∧ i < 100) → D.sho (intsD w) = true ∧ rl (intsD w) ≤ 4 * w.length + 3 := fun w hw => by
    refine ⟨?_, ?_⟩
    · show D.shos _ = true
      rw [shos_iff]
      intro y hy
      obtain ⟨i, hi, rfl⟩ := List.mem_map.mp hy
      have := hw i hi
      exact decide_eq_true (Nat.lt_trans (log2_small (k := 60) (by omega) (by decide)) (by decide))
    · have h2 : rls (w.map D.int) ≤ (2 + 2) * (w.map D.int).length := rls_le _ fun d hd => by
        obtain ⟨i, hi, rfl⟩ := List.mem_map.mp hd
        exact (dec_props (hw i hi).1 (hw i hi).2).2.1
      rw [List.length_map] at h2
      show rls (w.map D.int) + 3 ≤ _
      omega
  refine ⟨?_, ?_, ?_⟩
  · show D.pls 58 _ = true
    rw [pls_iff]
    intro x hx
    simp only [List.mem_cons, List.not_mem_nil, or_false] at hx
    rcases hx with rfl | rfl | rfl
    · exact pl_strs (fun g hg => (g2 g hg).2.2.2) 57
    · show D.pls 57 _ = true
      rw [pls_iff]
      intro y hy
      obtain ⟨r, _, rfl⟩ := List.mem_map.mp hy
      exact hi r 56
    · exact hi f.good 57
  · show D.shos _ = true
    rw [shos_iff]
    intro x hx
    simp only [List.mem_cons, List.not_mem_nil, or_false] at hx
    rcases hx with rfl | rfl | rfl
    · show D.shos _ = true
      rw [shos_iff]
      intro y hy
      obtain ⟨g, _, rfl⟩ := List.mem_map.mp hy
      rfl
    · show D.shos _ = true
      rw [shos_iff]
      intro y hy
      obtain ⟨r, hr, rfl⟩ := List.mem_map.mp hy
      exact (hs r (h.row100 hr)).1
    · exact (hs f.good h.good100).1
  · have a1 : rls (f.gs.map D.str) ≤ (262 + 2) * (f.gs.map D.str).length := rls_le _ fun d hd => by
      obtain ⟨g, hg, rfl⟩ := List.mem_map.mp hd
      have := (g2 g hg).1
      show 10 * g.length + 2 ≤ 262
      omega
    have a2 : rls (f.rows.map intsD) ≤ (19 + 2) * (f.rows.map intsD).length := rls_le _ fun d hd => by
      obtain ⟨r, hr, rfl⟩ := List.mem_map.mp hd
      have := (hs r (h.row100 hr)).2
      have := (h3 r hr).1
      omega
    have a3 := (hs f.good h.good100).2
    have := h.gl
    rw [List.length_map] at a1 a2
    show rls [.tup (f.gs.map .str), .tup (f.rows.map intsD), .tup (f.good.map .int)] + 3 ≤ 1000000
    simp only [rls]
    have b1 : rl (.tup (f.gs.map .str)) = rls (f.gs.map D.str) + 3 := rfl
    have b2 : rl (.tup (f.rows.map intsD)) = rls (f.rows.map intsD) + 3 := rfl
    have b3 : rl (.tup (f.good.map .int)) = rl (intsD f.good) := rfl
    rw [b1, b2, b3]
    omega
theorem told_answer {o : D ⊕ Nat} (h : ∀ d, o = .inl d → Told d) (hi : ∀ i, o = .inr i → i < 1000000) : ∃ z, b1D .repr (answer o) = some (.str z) ∧ cp z := by
  cases o with
  | inl d =>
    obtain ⟨h1, h2, h3⟩ := h d rfl
    refine repr_eq (D.pl_shp 60 _ ?_) ?_ ?_
    · show D.pls 59 _ = true
      rw [pls_iff]
      intro x hx
      simp only [List.mem_cons, List.not_mem_nil, or_false] at hx
      rcases hx with rfl | rfl
      · rfl
      · exact h1
    · show D.shos [_, d] = true
      simp [D.shos, h2, D.sho]
    · show rls [_, d] + 3 ≤ _
      refine line_big ?_
      simp only [rls, rl, List.length_cons, List.length_nil]
      omega
  | inr i =>
    have hi := hi i rfl
    have hd := dec_len (n := i) (by omega)
    refine repr_eq (by simp [answer, D.shp, D.shps]) ?_ ?_
    · show D.shos _ = true
      have : ((i : Int).natAbs).log2 < 1920 := Nat.lt_trans (log2_small (k := 60) (by omega) (by decide)) (by decide)
      simpa [D.shos, D.sho] using this
    · show rls _ + 3 ≤ _
      refine line_big ?_
      simp only [rls, rl, List.length_cons, List.length_nil]
      omega
theorem repr_w {t : List Nat} (h : Txt t) : ∃ z, b1D .repr (answer (wOut t)) = some (.str z) ∧ cp z := by
  have hl := h.lines
  have hlen := h.len
  have hws := wt_split 10 t
  have hwi := wt_init (splitAt1 10 t)
  have hwl := wt_len (splitAt1 10 t).dropLast
  have hout : wOut t = match runS wst 0 [] (splitAt1 10 t).dropLast with
    | .inr i => .inr i
    | .inl ws => if (splitAt1 10 t).getLast (splitAt1_ne _ _) = [] then .inl (.tup (ws.map intsD)) else .inr ((splitAt1 10 t).length - 1) := rfl
  have hstop : ∀ (us : List (List Nat)) (i : Nat) (ws : List (List Int)) (j : Nat), runS wst i ws us = .inr j → j < i + us.length := by
    intro us
    induction us with
    | nil => intro i ws j h; cases h
    | cons l us ih =>
      intro i ws j h
      cases hs : wst ws l with
      | none => rw [runS_stop hs] at h; cases h; simp
      | some ws1 =>
        rw [runS_here hs] at h
        have := ih _ _ _ h
        rw [List.length_cons]
        omega
  refine told_answer (fun d e => ?_) (fun i e => ?_)
  · rw [hout] at e
    split at e
    · cases e
    · rename_i ws hr
      split at e
      · cases e
        obtain ⟨h1, h2⟩ := runW_le _ _ _ _ hr (by simp)
        simp only [List.map_nil, List.sum_nil] at h2
        exact told_ws h1 (by omega)
      · cases e
  · rw [hout] at e
    split at e
    · rename_i j hr
      cases e
      have := hstop _ _ _ _ hr
      omega
    · split at e
      · cases e
      · cases e; omega
theorem repr_f {t : List Nat} (h : Txt t) : ∃ z, b1D .repr (answer (fOut t)) = some (.str z) ∧ cp z := by
  have hl := h.lines
  have hlen := h.len
  have hwi : (splitAt1 10 t).dropLast.length ≤ 100001 := by rw [List.length_dropLast]; omega
  have hout : fOut t = match runS fstep 0 .start (splitAt1 10 t).dropLast with
    | .inr i => .inr i
    | .inl s => fend ((splitAt1 10 t).length - 1) ((splitAt1 10 t).getLast (splitAt1_ne _ _)) s := rfl
  have hstop : ∀ (us : List (List Nat)) (i : Nat) (st : Fs) (j : Nat), runS fstep i st us = .inr j → j < i + us.length := by
    intro us
    induction us with
    | nil => intro i ws j h; cases h
    | cons l us ih =>
      intro i ws j h
      cases hs : fstep ws l with
      | none => rw [runS_stop hs] at h; cases h; simp
      | some ws1 =>
        rw [runS_here hs] at h
        have := ih _ _ _ h
        rw [List.length_cons]
        omega
  have hgood : ∀ (us : List (List Nat)) (i : Nat) (st st' : Fs), st.Good → runS fstep i st us = .inl st' → st'.Good := by
    intro us
    induction us with
    | nil => intro i st st' g h; cases h; exact g
    | cons l us ih =>
      intro i st st' g h
      cases hs : fstep st l with
      | none => rw [runS_stop hs] at h; cases h
      | some st1 =>
        rw [runS_here hs] at h
        exact ih _ _ _ (fstep_good g hs) h
  refine told_answer (fun d e => ?_) (fun i e => ?_)
  · rw [hout] at e
    split at e
    · cases e
    · rename_i st hr
      have hg := hgood _ _ .start _ trivial hr
      cases st with
      | start => cases e
      | rows gs rs => cases e
      | done f =>
        simp only [fend] at e
        split at e
        · cases e
          exact told_form hg
        · cases e
  · rw [hout] at e
    split at e
    · rename_i j hr
      cases e
      have := hstop _ _ _ _ hr
      omega
    · rename_i st hr
      cases st with
      | start => cases e; omega
      | rows gs rs => cases e; omega
      | done f =>
        simp only [fend] at e
        split at e
        · cases e
        · cases e; omega
end K93
end
section
set_option Elab.async false
set_option linter.all false
set_option maxRecDepth 100000
set_option maxHeartbeats 4000000
/-! P93v: lists of texts; the spoiled text -/
namespace K93
open MP
variable {fuel k : Nat} {S : DS}
def sts (zs : List (List Nat)) : List D := zs.map .str
theorem strs_len (zs) : (sts zs).length = zs.length := List.length_map ..
theorem strs_one (z : List Nat) : [D.str z] = sts [z] := rfl
structure Wl (B : Nat) (zs : List (List Nat)) : Prop where
  cp : ∀ z ∈ zs, cp z
  w : wt zs ≤ B
theorem Wl.take {B zs} (h : Wl B zs) (k : Nat) : Wl B (zs.take k) := ⟨fun z hz => h.cp z (List.mem_of_mem_take hz), Nat.le_trans (wt_take k zs) h.w⟩
theorem Wl.drop {B zs} (h : Wl B zs) (k : Nat) : Wl B (zs.drop k) := ⟨fun z hz => h.cp z (List.mem_of_mem_drop hz), Nat.le_trans (wt_drop k zs) h.w⟩
theorem Wl.app {A B xs ys} (h : Wl A xs) (h2 : Wl B ys) : Wl (A + B) (xs ++ ys) := ⟨fun z hz => by
  rcases List.mem_append.mp hz with hz | hz
  · exact h.cp z hz
  · exact h2.cp z hz, by rw [wt_append]; exact Nat.add_le_add h.w h2.w⟩
theorem Wl.one {z : List Nat} (h : MP.cp z) : Wl (z.length + 1) [z] := ⟨fun y hy => by rw [List.mem_singleton.mp hy]; exact h, by rw [wt_cons, wt_nil]; omega⟩
theorem Wl.set {B zs} (h : Wl B zs) {x : List Nat} (hx : MP.cp x) (k : Nat) : Wl (B + (x.length + 1)) (zs.set k x) := ⟨fun z hz => by
  rcases List.mem_or_eq_of_mem_set hz with hz | rfl
  · exact h.cp z hz
  · exact hx, by have := wt_set x zs k; have := h.w; omega⟩
theorem Wl.get {B zs} (h : Wl B zs) {k : Nat} {z : List Nat} (hz : zs[k]? = some z) : MP.cp z ∧ z.length + 1 ≤ B := ⟨h.cp z (List.mem_of_getElem? hz), Nat.le_trans (wt_mem (List.mem_of_getElem? hz)) h.w⟩
theorem Wl.len {B zs} (h : Wl B zs) : zs.length ≤ B := Nat.le_trans (wt_len zs) h.w
theorem wt_eq (zs : List (List Nat)) : (zs.map (·.length)).sum + zs.length * 1 = wt zs := by
  induction zs with
  | nil => rfl
  | cons z zs ih =>
    rw [wt_cons, ← ih]
    simp only [List.map_cons, List.sum_cons, List.length_cons]
    omega
theorem Wl.join {B zs} (h : Wl B zs) (hB : B ≤ 16000000) {c : Nat} (hc : c < 0x110000) : b2D .join (.str [c]) (.lst (sts zs)) = some (.str (joinBy [c] zs)) ∧ MP.cp (joinBy [c] zs) ∧ (joinBy [c] zs).length ≤ B := by
  have e := wt_eq zs
  have hw := h.w
  have hl := joinBy_len [c] zs
  simp only [List.length_cons, List.length_nil, Nat.zero_add] at hl
  rw [e] at hl
  refine ⟨join_lst ?_, cp_joinBy (by simpa using hc) h.cp, by omega⟩
  simp only [List.length_cons, List.length_nil, Nat.zero_add]
  rw [e]
  exact line_big (by omega)
theorem add_strs {xs ys} (h : xs.length + ys.length ≤ 16000000) : binD .add (.lst (sts xs)) (.lst (sts ys)) = some (.lst (sts (xs ++ ys))) := by
  rw [add_lst (line_big (by rw [strs_len, strs_len]; omega))]
  simp [sts]
theorem set_strs (zs) (k : Nat) (x : List Nat) : (sts zs).set k (.str x) = sts (zs.set k x) := by
  unfold sts
  rw [List.map_set]
theorem cut_take (zs : List (List Nat)) (a : Nat) : cut (sts zs) .non (.int a) = some (sts (zs.take a)) := by
  rw [cut_to]
  simp [sts]
theorem cut_drop (zs : List (List Nat)) (a : Nat) : cut (sts zs) (.int a) .non = some (sts (zs.drop a)) := by
  rw [cut_from]
  simp [sts]
theorem cut_drop1 (zs : List (List Nat)) (a : Nat) : cut (sts zs) (.int ((a : Int) + 1)) .non = some (sts (zs.drop (a + 1))) := cut_drop zs (a + 1)
theorem ix_strs {zs : List (List Nat)} {a : Nat} {z : List Nat} (h : zs[a]? = some z) : ix (sts zs) (a : Int) = some (.str z) := by
  rw [ix_nat, sts, List.getElem?_map, h]
  rfl
theorem ix_mem {α : Type} {xs : List α} {d : Int} (h0 : 0 ≤ d) (h1 : d < xs.length) : ∃ x, ix xs d = some x ∧ x ∈ xs := by
  obtain ⟨a, rfl⟩ := Int.eq_ofNat_of_zero_le h0
  have ha : a < xs.length := by omega
  exact ⟨xs[a], by rw [ix_nat, List.getElem?_eq_getElem ha], List.getElem_mem ha⟩
theorem set_rf {n : Nat} {zs : List (List Nat)} (h : S[n]? = some (.lst (sts zs))) {a : Nat} (ha : a < zs.length) (x : List Nat) : setM (.ref n) (.int a) (.str x) S = .ok () (S.set n (.lst (sts (zs.set a x)))) := by
  rw [setM_rf h (ixN_nat (by omega) (by rw [strs_len]; omega)), Int.toNat_natCast, set_strs]
/-- the words that spoil -/
abbrev sm1 : List D := [.str [48], .str [49], .str [50], .str [51], .str [52], .str [49, 49], .str [49, 50], .str [48, 48], .str [48, 49], .str [97], .str [122, 122], .str [65], .str [45], .str [], .str [116, 111], .str [49, 32, 48], .str [120, 49]]
abbrev sm2 (r1 r0 : List Nat) : List D := [.str [43, 49], .str [49, 95, 49], .str [45, 48], .str [48, 9, 49], .str [9], .str [97, 9], .str [122, 123], .str [97, 95], .str [49, 48, 48], .str r1, .str r0]
abbrev sm3 : List D := [.str [97, 45], .str [45, 45], .str [83, 116, 97, 116, 101], .str [107, 105, 110, 100, 115], .str [87, 111, 114, 100]]
theorem mul_str {x : List Nat} {j : Int} (h : x.length * j.toNat ≤ line ∧ j < 2 ^ 62 ∧ -(2 ^ 62) < j) : binD .mul (.str x) (.int j) = some (.str (List.replicate j.toNat x).flatten) := if_pos h
theorem rep_big (c : Nat) (hc : c < 0x110000) : ∃ r, binD .mul (.str [c]) (.int 4400) = some (.str r) ∧ r.length = 4400 ∧ cp r := by
  have e : binD .mul (.str [c]) (.int 4400) = some (.str (List.replicate 4400 [c]).flatten) := mul_str (j := 4400) ⟨show 1 * 4400 ≤ 16777216 by decide, by decide, by decide⟩
  refine ⟨_, e, ?_, ?_⟩
  · rw [List.length_flatten]
    simp
  · rw [cp_flatten]
    intro s hs
    rw [(List.mem_replicate.mp hs).2]
    simpa using hc
theorem sm_ok {r1 r0 : List Nat} (h1 : r1.length = 4400 ∧ cp r1) (h0 : r0.length = 4400 ∧ cp r0) : ∀ x ∈ sm1 ++ sm2 r1 r0 ++ sm3, ∃ w, x = .str w ∧ cp w ∧ w.length ≤ 4400 := by
  intro x hx
  simp only [List.cons_append, List.nil_append, List.mem_cons, List.not_mem_nil, or_false] at hx
  rcases hx with rfl | rfl | rfl | rfl | rfl | rfl | rfl | rfl | rfl | rfl | rfl | rfl | rfl | rfl | rfl | rfl | rfl | rfl | rfl | rfl | rfl | rfl | rfl | rfl | rfl | rfl | rfl | rfl | rfl | rfl | rfl | rfl | rfl
  all_goals first
    | exact ⟨_, rfl, h1.2, Nat.le_of_eq h1.1⟩
    | exact ⟨_, rfl, h0.2, Nat.le_of_eq h0.1⟩
    | exact ⟨_, rfl, by simp, by decide⟩
theorem mo_ok : ∀ x ∈ [D.str [10], .str [32], .str [115, 116, 97, 116, 101, 10], .str [97], .str [10, 10], .str [9]], ∃ w, x = .str w ∧ cp w ∧ w.length ≤ 6 := by
  intro x hx
  simp only [List.mem_cons, List.not_mem_nil, or_false] at hx
  rcases hx with rfl | rfl | rfl | rfl | rfl | rfl
  all_goals exact ⟨_, rfl, by simp, by decide⟩
theorem mul_b {w : List Nat} (hl : w.length ≤ 6) (b : Bool) : binD .mul (.str w) (.int (if b then 1 else 0)) = some (.str (if b then w else [])) := by
  cases b
  · rw [if_neg (by decide), if_neg (by decide), mul_str ⟨by simp [line], by decide, by decide⟩]
    simp
  · rw [if_pos rfl, if_pos rfl, mul_str ⟨by simp [line, PySem.sizeLine]; omega, by decide, by decide⟩]
    simp
end K93
end
section
set_option Elab.async false
set_option linter.all false
set_option maxRecDepth 100000
set_option maxHeartbeats 4000000
/-! P93w: the spoiled text -/
namespace K93
open MP
variable {fuel k : Nat} {S : DS}
theorem more8 (op : Int) {mw : List Nat} (cm : cp mw) (lm : mw.length ≤ 6) : ∃ e8 mx, b1D .int (.bl (decide (op = 8))) = some (.int e8) ∧ binD .mul (.str mw) (.int e8) = some (.str mx) ∧ cp mx ∧ mx.length ≤ 6 := by
  refine ⟨_, _, rfl, mul_b lm (decide (op = 8)), ?_, ?_⟩
  · split
    · exact cm
    · rfl
  · split
    · exact lm
    · simp
theorem W_spoil {n : Nat} {t : List Nat} (hp : Pen n S) (ht : Txt t) {WD : List D} (hW : ∀ x ∈ WD, ∃ w, x = .str w ∧ cp w ∧ w.length ≤ 100) (hW0 : WD ≠ []) (hW1 : WD.length < 1000) {P X}
    (hP : ∀ t' S', cp t' → t'.length ≤ 3 * t.length + 5000 → PS' n S S' → P (.str t') S') : W (callN fs fuel (k + 4) I__law_spoiled_text [.ref n, .str t, .lst WD] S) P X := by
  have hlen := ht.len
  have hnS := hp.lt
  obtain ⟨zs, hzs⟩ : ∃ zs, zs = splitAt1 10 t := ⟨_, rfl⟩
  have wz : Wl (t.length + 1) zs := ⟨fun z hz => split_cp ht.cp (by rw [← hzs]; exact hz), by rw [hzs, wt_split]; exact Nat.le_refl _⟩
  have hz0 : 0 < zs.length := by rw [hzs]; exact List.length_pos_iff.mpr (splitAt1_ne 10 t)
  have hzl := wz.len
  have e0 : l2D .split (.str t) (.str [10]) = some (sts zs) := by rw [ht.split (by decide), hzs]; rfl
  refine W_callN rfl rfl ?_
  simp -dsimp [F__law_spoiled_text, e0]
  have s0 : PS' n S (S ++ [.lst (sts zs)]) := (Ext.add _).pen hp
  refine W_draw s0.pen (by decide) (by decide) fun op S1 o1 o2 s1 => ?_
  have m1 : S1[S.length]? = some (.lst (sts zs)) := s1.cell (get_last _ _) (by omega)
  simp -dsimp [view_rf m1, strs_len]
  refine W_draw s1.pen (by omega) (by omega) fun a S2 a1 a2 s2 => ?_
  have m2 := s2.cell m1 (by omega)
  simp -dsimp [view_rf m2, strs_len]
  refine W_draw s2.pen (by omega) (by omega) fun b S3 b1 b2 s3 => ?_
  have m3 := s3.cell m2 (by omega)
  have v3 := view_rf m3
  have p3 : PS' n S S3 := ((s0.trans s1).trans s2).trans s3
  obtain ⟨a, rfl⟩ := Int.eq_ofNat_of_zero_le a1
  obtain ⟨b, rfl⟩ := Int.eq_ofNat_of_zero_le b1
  have ha : a < zs.length := by omega
  have hb : b < zs.length := by omega
  obtain ⟨la, hla⟩ : ∃ la, zs[a]? = some la := ⟨_, List.getElem?_eq_getElem ha⟩
  obtain ⟨lb, hlb⟩ : ∃ lb, zs[b]? = some lb := ⟨_, List.getElem?_eq_getElem hb⟩
  obtain ⟨ca, na⟩ := wz.get hla
  obtain ⟨cb, nb⟩ := wz.get hlb
  have xa := ix_strs hla
  have xb := ix_strs hlb
  have wt1 := wz.take a
  have wd1 := wz.drop a
  have wd2 := wz.drop (a + 1)
  have lt1 := wt1.len
  have ld1 := wd1.len
  have ld2 := wd2.len
  have ct := cut_take zs a
  have cd := cut_drop zs a
  have cd1 := cut_drop1 zs a
  by_cases h0 : op = 0
  · subst h0
    have w := wt1.app wd2
    have ad := add_strs (xs := zs.take a) (ys := zs.drop (a + 1)) (by omega)
    obtain ⟨j1, j2, j3⟩ := w.join (by omega) (c := 10) (by decide)
    simp -dsimp [v3, ct, cd1, ad, j1]
    exact hP _ _ j2 (by omega) p3
  by_cases h1 : op = 1
  · subst h1
    have w := (wt1.app (Wl.one cb)).app wd1
    have ad := add_strs (xs := zs.take a) (ys := [lb]) (by simp only [List.length_cons, List.length_nil]; omega)
    have ad2 := add_strs (xs := zs.take a ++ [lb]) (ys := zs.drop a) (by simp only [List.length_append, List.length_cons, List.length_nil]; omega)
    rw [← strs_one] at ad
    obtain ⟨j1, j2, j3⟩ := w.join (by omega) (c := 10) (by decide)
    generalize zs.take a ++ [lb] = q1 at *
    generalize q1 ++ zs.drop a = q2 at *
    simp -dsimp [v3, ct, cd, xb, ad, ad2, j1]
    exact hP _ _ j2 (by omega) p3
  by_cases h2 : op = 2
  · subst h2
    have f1 := set_rf m3 ha lb
    have m4 := set_at (lt_of_get m3) (MO.lst (sts (zs.set a lb)))
    have p4 := p3.setHi (Nat.le_refl _) hnS (MO.lst (sts (zs.set a lb)))
    have w := (wz.set cb a).set ca b
    have hz1 : b < (zs.set a lb).length := by rw [List.length_set]; exact hb
    generalize zs.set a lb = z1 at *
    generalize S3.set S.length (MO.lst (sts z1)) = S4 at *
    have f2 := set_rf m4 hz1 la
    have m5 := set_at (lt_of_get m4) (MO.lst (sts (z1.set b la)))
    have p5 := p4.setHi (Nat.le_refl _) hnS (MO.lst (sts (z1.set b la)))
    generalize z1.set b la = z2 at *
    generalize S4.set S.length (MO.lst (sts z2)) = S5 at *
    obtain ⟨j1, j2, j3⟩ := w.join (by omega) (c := 10) (by decide)
    simp -dsimp [v3, xa, xb, f1, f2, view_rf m5, j1]
    exact hP _ _ j2 (by omega) p5
  by_cases h3 : op = 3
  · subst h3
    simp -dsimp [v3, ct]
    refine W_one_of p3.pen hW0 hW1 fun d S4 hd s4 => ?_
    obtain ⟨w0, rfl, c0, l0⟩ := hW d hd
    have m4 := s4.cell m3 (by omega)
    have w := (wt1.app (Wl.one c0)).app wd1
    have ad := add_strs (xs := zs.take a) (ys := [w0]) (by simp only [List.length_cons, List.length_nil]; omega)
    have ad2 := add_strs (xs := zs.take a ++ [w0]) (ys := zs.drop a) (by simp only [List.length_append, List.length_cons, List.length_nil]; omega)
    rw [← strs_one] at ad
    obtain ⟨j1, j2, j3⟩ := w.join (by omega) (c := 10) (by decide)
    generalize zs.take a ++ [w0] = q1 at *
    generalize q1 ++ zs.drop a = q2 at *
    simp -dsimp [view_rf m4, cd, ad, ad2, j1]
    exact hP _ _ j2 (by omega) (p3.trans s4)
  -- a word of a line
  have hl : Txt la := ⟨ca, by omega⟩
  obtain ⟨ps, hps⟩ : ∃ ps, ps = splitAt1 32 la := ⟨_, rfl⟩
  have wp : Wl (la.length + 1) ps := ⟨fun z hz => split_cp ca (by rw [← hps]; exact hz), by rw [hps, wt_split]; exact Nat.le_refl _⟩
  have hpl := wp.len
  have e1 : l2D .split (.str la) (.str [32]) = some (sts ps) := by rw [hl.split (by decide), hps]; rfl
  simp -dsimp [h0, h1, h2, h3, v3, xa, e1]
  have s4 : PS' n S3 (S3 ++ [.lst (sts ps)]) := (Ext.add _).pen p3.pen
  have hS3 : S.length < S3.length := lt_of_get m3
  have m4 := s4.cell m3 (by omega)
  have k4 : (S3 ++ [MO.lst (sts ps)])[S3.length]? = some (.lst (sts ps)) := get_last _ _
  have p4 := p3.trans s4
  generalize S3 ++ [MO.lst (sts ps)] = S4 at *
  simp -dsimp [view_rf k4, strs_len]
  refine W_draw p4.pen (by omega) (by omega) fun pl S5 pl1 pl2 s5 => ?_
  have m5 := s5.cell m4 (by omega)
  have k5 := s5.cell k4 (by omega)
  have p5 := p4.trans s5
  obtain ⟨pl, rfl⟩ := Int.eq_ofNat_of_zero_le pl1
  obtain ⟨r1, er1, r11⟩ := rep_big 49 (by decide)
  obtain ⟨r0, er0, r01⟩ := rep_big 48 (by decide)
  have ad1 : binD .add (.lst sm1) (.lst (sm2 r1 r0)) = some (.lst (sm1 ++ sm2 r1 r0)) := add_lst (line_big (by simp))
  have ad2 : binD .add (.lst (sm1 ++ sm2 r1 r0)) (.lst sm3) = some (.lst (sm1 ++ sm2 r1 r0 ++ sm3)) := add_lst (line_big (by simp))
  have hsl : (sm1 ++ sm2 r1 r0 ++ sm3).length = 33 := rfl
  have hsm := sm_ok r11 r01
  generalize sm1 ++ sm2 r1 r0 ++ sm3 = SM at *
  generalize sm1 ++ sm2 r1 r0 = SM1 at *
  simp -dsimp [er1, er0, ad1, ad2, hsl]
  refine W_draw p5.pen (by decide) (by decide) fun d S6 d1 d2 s6 => ?_
  have m6 := s6.cell m5 (by omega)
  have k6 := s6.cell k5 (by omega)
  have p6 := p5.trans s6
  obtain ⟨wd, hwd, hwm⟩ := ix_mem (xs := SM) d1 (by omega)
  obtain ⟨w0, rfl, c0, l0⟩ := hsm wd hwm
  have v6 := view_rf m6
  have u6 := view_rf k6
  by_cases h4 : op = 4
  · replace h4 : decide (op = 4) = true := decide_eq_true h4
    have wq := ((wp.take pl).app (Wl.one c0)).app (wp.drop pl)
    have lq1 := (wp.take pl).len
    have lq2 := (wp.drop pl).len
    have aq := add_strs (xs := ps.take pl) (ys := [w0]) (by simp only [List.length_cons, List.length_nil]; omega)
    have aq2 := add_strs (xs := ps.take pl ++ [w0]) (ys := ps.drop pl) (by simp only [List.length_append, List.length_cons, List.length_nil]; omega)
    rw [← strs_one] at aq
    have ct2 := cut_take ps pl
    have cd2 := cut_drop ps pl
    generalize ps.take pl ++ [w0] = q1 at *
    generalize q1 ++ ps.drop pl = q2 at *
    obtain ⟨j1, j2, j3⟩ := wq.join (by omega) (c := 32) (by decide)
    generalize joinBy [32] q2 = nl at *
    have f1 := set_rf m6 ha nl
    have m7 := set_at (lt_of_get m6) (MO.lst (sts (zs.set a nl)))
    have p7 := p6.setHi (Nat.le_refl _) hnS (MO.lst (sts (zs.set a nl)))
    have w7 := wz.set j2 a
    generalize zs.set a nl = z7 at *
    have hm7 := lt_of_get m6
    simp -dsimp [h4, hwd, v6, u6, ct2, cd2, aq, aq2, j1, f1]
    refine W_one_of p7.pen (by simp) (by simp) fun md S8 hmd s8 => ?_
    obtain ⟨mw, rfl, cm, lm⟩ := mo_ok md hmd
    have m8 := s8.cell m7 (by omega)
    obtain ⟨J1, J2, J3⟩ := w7.join (by omega) (c := 10) (by decide)
    obtain ⟨e8, mx, E1, E2, E3, E4⟩ := more8 op cm lm
    have E5 : binD .add (.str (joinBy [10] z7)) (.str mx) = some (.str (joinBy [10] z7 ++ mx)) := add_str (line_big (by omega))
    simp -dsimp [view_rf m8, J1, E1, E2, E5]
    exact hP _ _ (cp_append.mpr ⟨J2, E3⟩) (by rw [List.length_append]; omega) (p7.trans s8)
  by_cases h5 : pl = ps.length
  · have h5' : decide ((pl : Int) = (ps.length : Int)) = true := decide_eq_true (by omega)
    replace h5 : decide (pl = ps.length) = true := decide_eq_true h5
    have wq := ((wp.take pl).app (Wl.one c0)).app (wp.drop pl)
    have lq1 := (wp.take pl).len
    have lq2 := (wp.drop pl).len
    have aq := add_strs (xs := ps.take pl) (ys := [w0]) (by simp only [List.length_cons, List.length_nil]; omega)
    have aq2 := add_strs (xs := ps.take pl ++ [w0]) (ys := ps.drop pl) (by simp only [List.length_append, List.length_cons, List.length_nil]; omega)
    rw [← strs_one] at aq
    have ct2 := cut_take ps pl
    have cd2 := cut_drop ps pl
    generalize ps.take pl ++ [w0] = q1 at *
    generalize q1 ++ ps.drop pl = q2 at *
    obtain ⟨j1, j2, j3⟩ := wq.join (by omega) (c := 32) (by decide)
    generalize joinBy [32] q2 = nl at *
    have f1 := set_rf m6 ha nl
    have m7 := set_at (lt_of_get m6) (MO.lst (sts (zs.set a nl)))
    have p7 := p6.setHi (Nat.le_refl _) hnS (MO.lst (sts (zs.set a nl)))
    have w7 := wz.set j2 a
    generalize zs.set a nl = z7 at *
    have hm7 := lt_of_get m6
    simp -dsimp [h4, h5, h5', hwd, v6, u6, strs_len, ct2, cd2, aq, aq2, j1, f1]
    refine W_one_of p7.pen (by simp) (by simp) fun md S8 hmd s8 => ?_
    obtain ⟨mw, rfl, cm, lm⟩ := mo_ok md hmd
    have m8 := s8.cell m7 (by omega)
    obtain ⟨J1, J2, J3⟩ := w7.join (by omega) (c := 10) (by decide)
    obtain ⟨e8, mx, E1, E2, E3, E4⟩ := more8 op cm lm
    have E5 : binD .add (.str (joinBy [10] z7)) (.str mx) = some (.str (joinBy [10] z7 ++ mx)) := add_str (line_big (by omega))
    simp -dsimp [view_rf m8, J1, E1, E2, E5]
    exact hP _ _ (cp_append.mpr ⟨J2, E3⟩) (by rw [List.length_append]; omega) (p7.trans s8)
  have h5' : ¬ (pl : Int) = (ps.length : Int) := by omega
  by_cases h6 : op = 5
  · replace h6 : decide (op = 5) = true := decide_eq_true h6
    have wq := (wp.take pl).app (wp.drop (pl + 1))
    have lq1 := (wp.take pl).len
    have lq2 := (wp.drop (pl + 1)).len
    have aq := add_strs (xs := ps.take pl) (ys := ps.drop (pl + 1)) (by omega)
    have ct2 := cut_take ps pl
    have cd2 := cut_drop1 ps pl
    generalize ps.take pl ++ ps.drop (pl + 1) = q2 at *
    obtain ⟨j1, j2, j3⟩ := wq.join (by omega) (c := 32) (by decide)
    generalize joinBy [32] q2 = nl at *
    have f1 := set_rf m6 ha nl
    have m7 := set_at (lt_of_get m6) (MO.lst (sts (zs.set a nl)))
    have p7 := p6.setHi (Nat.le_refl _) hnS (MO.lst (sts (zs.set a nl)))
    have w7 := wz.set j2 a
    generalize zs.set a nl = z7 at *
    have hm7 := lt_of_get m6
    simp -dsimp [h4, h5, h5', h6, hwd, v6, u6, strs_len, ct2, cd2, aq, j1, f1]
    refine W_one_of p7.pen (by simp) (by simp) fun md S8 hmd s8 => ?_
    obtain ⟨mw, rfl, cm, lm⟩ := mo_ok md hmd
    have m8 := s8.cell m7 (by omega)
    obtain ⟨J1, J2, J3⟩ := w7.join (by omega) (c := 10) (by decide)
    obtain ⟨e8, mx, E1, E2, E3, E4⟩ := more8 op cm lm
    have E5 : binD .add (.str (joinBy [10] z7)) (.str mx) = some (.str (joinBy [10] z7 ++ mx)) := add_str (line_big (by omega))
    simp -dsimp [view_rf m8, J1, E1, E2, E5]
    exact hP _ _ (cp_append.mpr ⟨J2, E3⟩) (by rw [List.length_append]; omega) (p7.trans s8)
  have hpl : pl < ps.length := by omega
  have g1 := set_rf k6 hpl w0
  have k7 := set_at (lt_of_get k6) (MO.lst (sts (ps.set pl w0)))
  have M7 : (S6.set S3.length (MO.lst (sts (ps.set pl w0))))[S.length]? = some (.lst (sts zs)) := by
    rw [List.getElem?_set_ne (by omega)]
    exact m6
  have P7 := p6.setHi (Nat.le_of_lt hS3) hnS (MO.lst (sts (ps.set pl w0)))
  have wq := wp.set c0 pl
  generalize ps.set pl w0 = q2 at *
  generalize S6.set S3.length (MO.lst (sts q2)) = S7 at *
  obtain ⟨j1, j2, j3⟩ := wq.join (by omega) (c := 32) (by decide)
  generalize joinBy [32] q2 = nl at *
  have f1 := set_rf M7 ha nl
  have m7 := set_at (lt_of_get M7) (MO.lst (sts (zs.set a nl)))
  have p7 := P7.setHi (Nat.le_refl _) hnS (MO.lst (sts (zs.set a nl)))
  have w7 := wz.set j2 a
  generalize zs.set a nl = z7 at *
  have hm7 := lt_of_get M7
  simp -dsimp [h4, h5, h5', h6, hwd, v6, u6, strs_len, g1, view_rf k7, j1, f1]
  refine W_one_of p7.pen (by simp) (by simp) fun md S8 hmd s8 => ?_
  obtain ⟨mw, rfl, cm, lm⟩ := mo_ok md hmd
  have m8 := s8.cell m7 (by omega)
  obtain ⟨J1, J2, J3⟩ := w7.join (by omega) (c := 10) (by decide)
  obtain ⟨e8, mx, E1, E2, E3, E4⟩ := more8 op cm lm
  have E5 : binD .add (.str (joinBy [10] z7)) (.str mx) = some (.str (joinBy [10] z7 ++ mx)) := add_str (line_big (by omega))
  simp -dsimp [view_rf m8, J1, E1, E2, E5]
  exact hP _ _ (cp_append.mpr ⟨J2, E3⟩) (by rw [List.length_append]; omega) (p7.trans s8)
end K93
end
section
set_option Elab.async false
set_option linter.all false
set_option maxRecDepth 100000
set_option maxHeartbeats 4000000
/-! P93x: the law -/
namespace K93
open MP
variable {fuel k : Nat} {S : DS}
abbrev wl1 : List D := [.str [103, 111, 111, 100], .str [103, 111, 111, 100, 32, 48], .str [103, 111, 111, 100, 32, 48, 32, 49], .str [115, 116, 97, 116, 101, 32, 48, 32, 48], .str [115, 116, 97, 116, 101, 32, 51], .str [103, 114, 111, 117, 112, 115], .str [103, 114, 111, 117, 112, 115, 32, 97], .str [103, 114, 111, 117, 112, 115, 32, 97, 98, 32, 98]]
abbrev wl2 : List D := [.str [119, 111, 114, 100, 32, 48], .str [119, 111, 114, 100], .str []]
theorem wl_ok : ∀ x ∈ wl1 ++ wl2, ∃ w, x = .str w ∧ cp w ∧ w.length ≤ 100 := by
  intro x hx
  simp only [List.cons_append, List.nil_append, List.mem_cons, List.not_mem_nil, or_false] at hx
  rcases hx with rfl | rfl | rfl | rfl | rfl | rfl | rfl | rfl | rfl | rfl | rfl
  all_goals exact ⟨_, rfl, by simp, by decide⟩
/-- the outer loop -/
def OI (ns : List Int) (WD : List D) (n : Nat) (_us : List D) (σ : MP.Env) (S' : DS) : Prop := Pen n S' ∧ ∃ a3 a4 a5, σ = [some (.lst (ns.map .int)), some (.ref n), some (.lst WD), a3, a4, a5]
/-- the text is spoiled, and spoiled -/
def TI (ns : List Int) (WD : List D) (n : Nat) (a3 : Option D) (us : List D) (σ : MP.Env) (S' : DS) : Prop := Pen n S' ∧ ∃ (t : List Nat) (a5 : Option D), σ = [some (.lst (ns.map .int)), some (.ref n), some (.lst WD), a3, some (.str t), a5] ∧ cp t ∧ (t.length + 2500) * 3 ^ us.length ≤ 102500
/-- the words' text grows -/
def GI (ns : List Int) (WD : List D) (n : Nat) (a3 : Option D) (us : List D) (σ : MP.Env) (S' : DS) : Prop := Pen n S' ∧ ∃ (t : List Nat) (a5 : Option D), σ = [some (.lst (ns.map .int)), some (.ref n), some (.lst WD), a3, some (.str t), a5] ∧ cp t ∧ t.length + 20 * us.length ≤ 60
theorem t_bound {L m : Nat} (h : (L + 2500) * 3 ^ m ≤ 102500) : L ≤ 100000 := by
  have h1 : 1 ≤ 3 ^ m := Nat.one_le_pow _ _ (by decide)
  have h2 : (L + 2500) * 1 ≤ (L + 2500) * 3 ^ m := Nat.mul_le_mul_left _ h1
  omega
theorem t_step {L L' m : Nat} (h : (L + 2500) * 3 ^ (m + 1) ≤ 102500) (hl : L' ≤ 3 * L + 5000) : (L' + 2500) * 3 ^ m ≤ 102500 := by
  have h2 : (L' + 2500) * 3 ^ m ≤ (3 * (L + 2500)) * 3 ^ m := Nat.mul_le_mul_right _ (by omega)
  have h3 : (3 * (L + 2500)) * 3 ^ m = (L + 2500) * 3 ^ (m + 1) := by rw [Nat.pow_succ, Nat.mul_comm 3, Nat.mul_assoc, Nat.mul_comm 3]
  omega
theorem t_start {L m : Nat} (h : L ≤ 1000) (hm : m ≤ 3) : (L + 2500) * 3 ^ m ≤ 102500 := by
  have h1 : 3 ^ m ≤ 3 ^ 3 := Nat.pow_le_pow_right (by decide) hm
  have h2 : (L + 2500) * 3 ^ m ≤ 3500 * 3 ^ 3 := Nat.mul_le_mul (by omega) h1
  omega
theorem last_one : ∃ z, b1D .repr (.lst [answer (fOut []), answer (wOut [10])]) = some (.str z) ∧ cmpD .eq (.str z) (.str [91, 40, 39, 108, 105, 110, 101, 39, 44, 32, 48, 41, 44, 32, 40, 39, 108, 105, 110, 101, 39, 44, 32, 48, 41, 93]) = some true := by
  refine ⟨[91, 40, 39, 108, 105, 110, 101, 39, 44, 32, 48, 41, 44, 32, 40, 39, 108, 105, 110, 101, 39, 44, 32, 48, 41, 93], ?_, by decide⟩
  have e1 : answer (fOut []) = .tup [.str [108, 105, 110, 101], .int 0] := rfl
  have e2 : answer (wOut [10]) = .tup [.str [108, 105, 110, 101], .int 0] := rfl
  rw [e1, e2]
  decide +kernel
theorem W_law {ns : List Int} (hl : ns.length ≤ 63) : W (callN fs fuel (k + 7) I_law [.lst (ns.map .int)] S) (fun d _ => d = .bl true) (fun _ _ => False) := by
  refine W_callN rfl rfl ?_
  have ad : binD .add (.lst wl1) (.lst wl2) = some (.lst (wl1 ++ wl2)) := add_lst (line_big (by simp))
  have hW := wl_ok
  have hW0 : wl1 ++ wl2 ≠ [] := by simp
  have hW1 : (wl1 ++ wl2).length < 1000 := by simp
  generalize wl1 ++ wl2 = WD at *
  simp -dsimp [F_law]
  refine W_pen hl fun S1 p1 x1 => ?_
  generalize hn : S.length = n at *
  simp -dsimp [ad]
  refine ⟨inR_of (by decide), ?_⟩
  refine W_for (OI ns WD n) ⟨p1, _, _, _, rfl⟩ (by intros; rfl) (fun y us σ S2 hI => ?_) (fun σ S2 hI => ?_)
  · obtain ⟨p2, a3, a4, a5, rfl⟩ := hI
    simp -dsimp
    refine W_form p2 fun f S3 hf s3 => ?_
    simp -dsimp [s_law_form_text hf]
    refine W_draw s3.pen (by decide) (by decide) fun d S4 d1 d2 s4 => ?_
    simp -dsimp
    refine ⟨inR_of (by omega), ?_⟩
    refine W_for (TI ns WD n (some y)) ⟨s4.pen, ftext f, _, rfl, ftext_cp hf, t_start (by have := ftext_len hf; omega) (by rw [len_upto']; omega)⟩ (by intros; rfl) (fun y2 us2 σ S5 hI => ?_) (fun σ S5 hI => ?_)
    · obtain ⟨p5, t, a5, rfl, hc, hb⟩ := hI
      rw [List.length_cons] at hb
      simp -dsimp
      refine W_spoil p5 ⟨hc, t_bound hb⟩ hW hW0 hW1 fun t' S6 c6 l6 s6 => ?_
      simp -dsimp
      exact ⟨s6.pen, t', _, rfl, c6, t_step hb l6⟩
    obtain ⟨p5, t, a5, rfl, hc, hb⟩ := hI
    have ht : Txt t := ⟨hc, t_bound hb⟩
    obtain ⟨z, hz, hzc⟩ := repr_f ht
    have hnr : ∀ S, view (answer (fOut t)) S = .ok (answer (fOut t)) S := fun S => by cases fOut t <;> rfl
    simp -dsimp
    refine s_form_outcome ht fun S6 x6 => ?_
    simp -dsimp [hnr, hz]
    refine s_law_read_form ht fun S7 x7 => ?_
    simp -dsimp [hnr, hz, ne_self hzc]
    have p7 : Pen n S7 := ((x6.trans x7).pen p5).pen
    refine W_draw p7 (by decide) (by decide) fun d S8 d1 d2 s8 => ?_
    simp -dsimp
    refine ⟨inR_of (by omega), ?_⟩
    refine W_for (GI ns WD n (some y)) ⟨s8.pen, [], _, rfl, by simp, by rw [len_upto']; simp; omega⟩ (by intros; rfl) (fun y2 us2 σ S9 hI => ?_) (fun σ S9 hI => ?_)
    · obtain ⟨p9, t2, a5, rfl, hc2, hb2⟩ := hI
      rw [List.length_cons] at hb2
      simp -dsimp
      refine W_word (m := 4) p9 (by decide) (by decide) (by decide) fun w S10 hw s10 => ?_
      have hw1 : OkW w := ⟨hw.1, by have := hw.2; omega⟩
      have hw2 := hw.2
      have e1 : ∀ S, callN fs fuel (k + 6) I__law_line [.lst (.str sWord :: w.map .int)] S = .ok (.str (wline w)) S := fun S => by
        refine s_law_line rfl (by simp) (says_ints hw1.h100) (Nat.le_trans (line_len hw1.h100) (line_big ?_))
        simp only [List.length_cons, List.length_nil]
        omega
      have e2 : l2D .cat (.lst [.str sWord]) (.lst (w.map .int)) = some (.str sWord :: w.map .int) := if_pos (line_big (by simp only [List.length_cons, List.length_nil, List.length_map]; omega))
      have e3 : l1D .list (intsD w) = some (w.map .int) := rfl
      have e4 : (wline w).length ≤ 18 := by
        have := lineOf_len (s := sWord) hw1.h100
        unfold wline
        simp only [List.length_cons, List.length_nil] at this
        omega
      have e5 : cp (wline w) := by
        rw [wline_wl]
        exact cp_append.mpr ⟨toks_cp (wl_tok hw1), by simp⟩
      have e6 : binD .add (.str t2) (.str (wline w)) = some (.str (t2 ++ wline w)) := add_str (line_big (by omega))
      have e7 : ∀ S, view (intsD w) S = .ok (intsD w) S := fun _ => rfl
      generalize w.map D.int = wd at *
      simp -dsimp [e7, e3, e2, e1, e6]
      exact ⟨s10.pen, _, _, rfl, cp_append.mpr ⟨hc2, e5⟩, by rw [List.length_append]; omega⟩
    obtain ⟨p9, t2, a5, rfl, hc2, hb2⟩ := hI
    simp -dsimp
    refine W_draw p9 (by decide) (by decide) fun d S10 d1 d2 s10 => ?_
    simp -dsimp
    refine ⟨inR_of (by omega), ?_⟩
    refine W_for (TI ns WD n (some y)) ⟨s10.pen, t2, _, rfl, hc2, t_start (by omega) (by rw [len_upto']; omega)⟩ (by intros; rfl) (fun y3 us3 σ S11 hI => ?_) (fun σ S11 hI => ?_)
    · obtain ⟨p11, t, a5, rfl, hc, hb⟩ := hI
      rw [List.length_cons] at hb
      simp -dsimp
      refine W_spoil p11 ⟨hc, t_bound hb⟩ hW hW0 hW1 fun t' S12 c12 l12 s12 => ?_
      simp -dsimp
      exact ⟨s12.pen, t', _, rfl, c12, t_step hb l12⟩
    obtain ⟨p11, t3, a5, rfl, hc3, hb3⟩ := hI
    have ht3 : Txt t3 := ⟨hc3, t_bound hb3⟩
    obtain ⟨z3, hz3, hzc3⟩ := repr_w ht3
    have hnr3 : ∀ S, view (answer (wOut t3)) S = .ok (answer (wOut t3)) S := fun S => by cases wOut t3 <;> rfl
    simp -dsimp
    refine s_words_outcome ht3 fun S12 x12 => ?_
    simp -dsimp [hnr3, hz3]
    refine s_law_read_words ht3 fun S13 x13 => ?_
    simp -dsimp [hnr3, hz3, ne_self hzc3]
    exact ⟨((x12.trans x13).pen p11).pen, _, _, _, rfl⟩
  · obtain ⟨p2, a3, a4, a5, rfl⟩ := hI
    obtain ⟨z, l1, l2⟩ := last_one
    simp -dsimp
    refine s_form_outcome (t := []) ⟨by simp, by simp⟩ fun S6 x6 => ?_
    simp -dsimp
    refine s_words_outcome (t := [10]) ⟨by simp, by simp⟩ fun S7 x7 => ?_
    simp -dsimp [l1, l2]
theorem ev (fuel : Nat) (ns : List Int) (hl : ns.length ≤ 63) : ∃ S, callN fs fuel 8 I_law [.lst (ns.map .int)] [] = .ok (.bl true) S := by
  obtain ⟨d, S, e, rfl⟩ := W_ex (W_law (fuel := fuel) (k := 1) (S := []) hl)
  exact ⟨S, e⟩
end K93
end
set_option Elab.async false
set_option linter.all false
set_option maxRecDepth 100000
set_option maxHeartbeats 0
theorem PySem.Challenge.cw_fewtests_k93_texts_of_words_and_forms_re_holds : PySem.Challenge.rw_fewtests_k93_texts_of_words_and_forms_re.Holds := by
  exact K93.holds_of ⟨1, fun ns hl => K93.ev 1 ns hl⟩
