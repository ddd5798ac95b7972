import PyProof.Rows.All
import Wide.All
import OpenK.AllK
import Wide.FinOn
import HandS.ForMost
import HandS.ForExc
import HandS.IsInst
import HandS.ExcIs
import HandS.Walk
import HandS.Flow
import HandS.Style
import HandS.Deep
import HandS.TupAny
import HandS.TupMul
import HandS.StrMore
import HandS.CallSlots
import HandS.Zip
import KE.GoesEnum
import KE.GoesMore
import PyProof.Draws
import HandS.ReplaceDef
import HandS.ReplaceLit
import PyProof.StrLawsReplace
import KE.IntTextLaws
import HandS.MapJoin
import PyProof.StrLawsTight
import PyProof.StrLawsChain
import PyProof.Rows.StrItems
import KE.DataCmp
import KE.SortCalls
import KE.SortKeyed
import KE.SortData
import HandS.TupSets
import KE.KeyNested
import KE.KDictKeyed
import HandS.Strs
import HandS.ExcCtx
import HandS.SuiteRaise
import HandS.RaiseFrom
import PySem.Challenge.RW_laysheets_k07_what_is_no_row
set_option Elab.async false
set_option linter.all false
set_option maxRecDepth 100000
set_option maxHeartbeats 4000000
set_option backward.match.sparseCases false
/-! The own language: data, syntax, meaning. -/
namespace PB
open PySem

/-- data without objects -/
inductive Dt where
  | non
  | bl (b : Bool)
  | int (i : Int)
  | str (s : List Nat)
  | tup (xs : List Dt)
  | lst (xs : List Dt)
  /-- the script: read by len and by place alone -/
  | scr (ns : List Int)
  deriving Inhabited

/-- what a name holds: data, or an object of the store -/
inductive Wv where
  | d (x : Dt)
  | ob (n : Nat)
  deriving Inhabited

/-- an object of the store: a list that may change -/
inductive Ob where
  | lst (xs : List Dt)
  deriving Inhabited

inductive Rs (α : Type) where
  | ok (a : α)
  | exc (c : Nat) (fs : List Dt) (st : List Ob)
  | bad
  deriving Inhabited

def Rs.bind {α β : Type} (x : Rs α) (f : α → Rs β) : Rs β :=
  match x with
  | .ok a => f a
  | .exc c fs st => .exc c fs st
  | .bad => .bad
def Rs.ofO {α : Type} : Option α → Rs α
  | some a => .ok a
  | none => .bad
@[simp] theorem Rs.bind_ok {α β : Type} (a : α) (f : α → Rs β) : Rs.bind (.ok a) f = f a := rfl
@[simp] theorem Rs.bind_exc {α β : Type} (c : Nat) (fs : List Dt) (st : List Ob) (f : α → Rs β) : Rs.bind (.exc c fs st) f = .exc c fs st := rfl
@[simp] theorem Rs.bind_bad {α β : Type} (f : α → Rs β) : Rs.bind .bad f = .bad := rfl
@[simp] theorem Rs.ofO_some {α : Type} (a : α) : Rs.ofO (some a) = .ok a := rfl
@[simp] theorem Rs.ofO_none {α : Type} : Rs.ofO (none : Option α) = .bad := rfl

abbrev Ev := List (Option Wv)
abbrev Sr := List Ob

inductive Bop where | add | sub | mul | fdiv | mod
  deriving DecidableEq
inductive Cop where | eq | ne | lt | le | gt | ge | is | isnot | inn | notin
  deriving DecidableEq
inductive Ty where | str | int | bool | tuple | list
  deriving DecidableEq
/-- builtins of one argument -/
inductive P1 where | len | all | any | tuple | list | str | int | sorted
  deriving DecidableEq
/-- methods of texts with one argument -/
inductive B2 where
  | min
  | max
  deriving DecidableEq
inductive M1 where | join | zfill | split
  deriving DecidableEq

inductive Tg where
  | one (i : Nat)
  | many (is : List Nat)

mutual
inductive Ex where
  | v (i : Nat)
  | non
  | bl (b : Bool)
  | int (i : Int)
  | str (s : List Nat)
  | g (k : Nat)
  | bin (o : Bop) (a b : Ex)
  | neg (a : Ex)
  | not (a : Ex)
  | and (es : Exs)
  | or (es : Exs)
  | cmp (o : Cop) (a b : Ex)
  | cmp2 (o o' : Cop) (a b c : Ex)
  | call (f : Nat) (es : Exs)
  /-- a call with no argument, which does not raise -/
  | call0 (f : Nat)
  | p1 (p : P1) (a : Ex)
  /-- len(set(a)) -/
  | lens (a : Ex)
  | isi (a : Ex) (t : Ty)
  | isi2 (a : Ex) (t u : Ty)
  | m1 (m : M1) (a b : Ex)
  | b2 (o : B2) (a b : Ex)
  | rev (a : Ex)
  | ix (a i : Ex)
  | sl (a : Ex) (lo hi : Exo)
  | tup (es : Exs)
  | lst (es : Exs)
  | lc (elt : Ex) (tg : Tg) (it : Itx) (ifs : Exs)
inductive Exs where
  | nil
  | cons (e : Ex) (es : Exs)
inductive Exo where
  | no
  | yes (e : Ex)
inductive Itx where
  | seq (e : Ex)
  | rng1 (e : Ex)
  | rng2 (a b : Ex)
  | enm (e : Ex)
  | zip (a b : Ex)
end

/-- what is asked of a caught exception: of which class it is (none: ValueError) -/
inductive Xe where
  | isi (c : Option Nat)
  | not (a : Xe)
  | and (a b : Xe)
/-- the first class stands above the others, and those beside one another -/
def subB (c k : Nat) : Bool := k == 0 || c == k
def xeB (c : Nat) : Xe → Bool
  | .isi none => true
  | .isi (some k) => subB c k
  | .not a => !xeB c a
  | .and a b => xeB c a && xeB c b
mutual
inductive Sm where
  | set (i : Nat) (e : Ex)
  | setL (i : Nat) (e : Ex)
  | unp (is : List Nat) (e : Ex)
  | ret (e : Ex)
  | ife (c : Ex) (a b : Sms)
  | forS (tg : Tg) (it : Itx) (b : Sms)
  | whl (c : Ex) (b : Sms)
  | app (i : Nat) (e : Ex)
  | expr (e : Ex)
  | brk
  | cnt
  | pass
  | never
  /-- an exception of the program's own, with no fields -/
  | rai (c : Nat)
  /-- a try whose body does not raise -/
  | tryN (c : Nat) (b : Sms)
  /-- a try whose suite tells of which classes the exception (at name i) is, at name j -/
  | tryX (c : Nat) (b : Sms) (i j : Nat) (xs : List Xe)
  /-- a try whose suite raises: except c: raise k(..) from None -/
  | tryR (c k : Nat) (b : Sms)
  /-- the whole body of the def that quotes a text -/
  | quo (i : Nat)
inductive Sms where
  | nil
  | cons (s : Sm) (r : Sms)
end

def Exs.isNil : Exs → Bool
  | .nil => true
  | .cons _ _ => false

/-! ### operations on data -/
def lim : Nat := 16777216

def eqIntD (i : Int) : Dt → Bool
  | .int j => i == j
  | .bl b => i == (if b then 1 else 0)
  | _ => false
def eqIL : List Int → List Dt → Bool
  | [], [] => true
  | i :: is, y :: ys => eqIntD i y && eqIL is ys
  | _, _ => false
def eqDInt : Dt → Int → Bool
  | .int j, i => j == i
  | .bl b, i => (if b then 1 else 0) == i
  | _, _ => false
def eqLI : List Dt → List Int → Bool
  | [], [] => true
  | y :: ys, i :: is => eqDInt y i && eqLI ys is
  | _, _ => false
mutual
def eqD : Dt → Dt → Bool
  | .non, .non => true
  | .bl a, .bl b => a == b
  | .bl a, .int j => (if a then 1 else 0) == j
  | .int i, .bl b => i == (if b then 1 else 0)
  | .int i, .int j => i == j
  | .str x, .str y => x == y
  | .lst xs, .lst ys => eqDs xs ys
  | .tup xs, .tup ys => eqDs xs ys
  | .scr a, .scr b => a == b
  | .scr a, .lst ys => eqIL a ys
  | .lst xs, .scr b => eqLI xs b
  | _, _ => false
def eqDs : List Dt → List Dt → Bool
  | [], [] => true
  | x :: xs, y :: ys => eqD x y && eqDs xs ys
  | _, _ => false
end
mutual
def depD : Dt → Nat
  | .lst xs => depDs xs + 1
  | .tup xs => depDs xs + 1
  | .scr _ => 1
  | _ => 0
def depDs : List Dt → Nat
  | [] => 0
  | x :: xs => max (depD x) (depDs xs)
end

def truthD : Dt → Bool
  | .non => false
  | .bl b => b
  | .int i => i != 0
  | .str s => !s.isEmpty
  | .tup xs => !xs.isEmpty
  | .lst xs => !xs.isEmpty
  | .scr ns => !ns.isEmpty

/-- within 64 bits -/
def smallI (i : Int) : Prop := -(2 ^ 64) < i ∧ i < 2 ^ 64
instance (i : Int) : Decidable (smallI i) := by unfold smallI; infer_instance
def bopD : Bop → Dt → Dt → Option Dt
  | .add, .int i, .int j => some (.int (i + j))
  | .add, .str a, .str b => if a.length + b.length ≤ lim then some (.str (a ++ b)) else none
  | .add, .tup a, .tup b => if a.length + b.length ≤ lim then some (.tup (a ++ b)) else none
  | .add, .lst a, .lst b => if a.length + b.length ≤ lim then some (.lst (a ++ b)) else none
  | .sub, .int i, .int j => some (.int (i - j))
  | .mul, .int i, .int j => if smallI i ∨ smallI j then some (.int (i * j)) else none
  | .mul, .str a, .int j => if a.length * j.toNat ≤ lim ∧ -(2 ^ 62) < j ∧ j < 2 ^ 62 then some (.str (List.replicate j.toNat a).flatten) else none
  | .mul, .tup a, .int j => if 0 < a.length ∧ 1 ≤ j ∧ j ≤ 1000 ∧ a.length ≤ 1000 then some (.tup (List.replicate j.toNat a).flatten) else none
  | .mul, .lst a, .int j => if 0 < a.length ∧ 1 ≤ j ∧ j ≤ 1000 ∧ a.length ≤ 1000 then some (.lst (List.replicate j.toNat a).flatten) else none
  | .fdiv, .int i, .int j => if 0 < j ∧ j < 1073741824 then some (.int (i / j)) else none
  | .mod, .int i, .int j => if 0 < j then some (.int (i % j)) else none
  | _, _, _ => none

/-- a datum as a row of signs, as its order wants it -/
def keyIs : List Int → List (Int ⊕ List Nat)
  | [] => [.inl 0]
  | i :: is => .inl 1 :: .inl i :: keyIs is
mutual
def keyD : Dt → List (Int ⊕ List Nat)
  | .non => []
  | .bl b => [.inl (if b = true then 1 else 0)]
  | .int n => [.inl n]
  | .str x => [.inr x]
  | .lst xs => keyDs xs
  | .tup xs => keyDs xs
  | .scr ns => keyIs ns
def keyDs : List Dt → List (Int ⊕ List Nat)
  | [] => [.inl 0]
  | x :: xs => .inl 1 :: (keyD x ++ keyDs xs)
end
mutual
/-- of one kind at each place -/
def alikeD : Dt → Dt → Bool
  | .non, .non => true
  | .bl _, .bl _ => true
  | .int _, .int _ => true
  | .str _, .str _ => true
  | .lst xs, .lst ys => alikeDs xs ys
  | .tup xs, .tup ys => alikeDs xs ys
  | _, _ => false
def alikeDs : List Dt → List Dt → Bool
  | x :: xs, y :: ys => alikeD x y && alikeDs xs ys
  | [], _ => true
  | _ :: _, [] => true
end
def signLt : Int ⊕ List Nat → Int ⊕ List Nat → Bool
  | .inl a, .inl b => decide (a < b)
  | .inl _, .inr _ => true
  | .inr _, .inl _ => false
  | .inr a, .inr b => decide (a < b)
def rowLt : List (Int ⊕ List Nat) → List (Int ⊕ List Nat) → Bool
  | [], [] => false
  | [], _ :: _ => true
  | _ :: _, [] => false
  | x :: r, y :: t => signLt x y || (!signLt y x && rowLt r t)
/-- less than, of data that are alike -/
def ltB (x y : Dt) : Bool := rowLt (keyD x) (keyD y)
def ordD (x y : Dt) (b : Bool) : Option Bool := if alikeD x y = true ∧ (depD x ≤ 60 ∨ depD y ≤ 60) then some b else none
/-- can be sorted: alike, and tuples with an item, or no tuples and not None -/
def sortableD (xs : List Dt) : Bool := xs.all (fun x => xs.all (alikeD x)) && (xs.all (fun x => match x with | .tup (_ :: _) => true | _ => false) || xs.all (fun x => match x with | .non => false | .tup _ => false | _ => true)) && decide (depDs xs ≤ 60)
def sortD (xs : List Dt) : List Dt := xs.mergeSort fun a b => !ltB b a

def isNonD : Dt → Bool
  | .non => true
  | _ => false
def copD : Cop → Dt → Dt → Option Bool
  | .eq, a, b => if depD a ≤ 64 ∨ depD b ≤ 64 then some (eqD a b) else none
  | .ne, a, b => if depD a ≤ 64 ∨ depD b ≤ 64 then some (!eqD a b) else none
  | .lt, .int i, .int j => some (decide (i < j))
  | .le, .int i, .int j => some (decide (i ≤ j))
  | .gt, .int i, .int j => some (decide (j < i))
  | .ge, .int i, .int j => some (decide (j ≤ i))
  | .lt, .str a, .str b => ordD (.str a) (.str b) (ltB (.str a) (.str b))
  | .lt, .tup a, .tup b => ordD (.tup a) (.tup b) (ltB (.tup a) (.tup b))
  | .le, .str a, .str b => ordD (.str a) (.str b) (!ltB (.str b) (.str a))
  | .le, .tup a, .tup b => ordD (.tup a) (.tup b) (!ltB (.tup b) (.tup a))
  | .is, a, .non => some (isNonD a)
  | .is, .bl a, .bl b => some (a == b)
  | .isnot, a, .non => some (!isNonD a)
  | .isnot, .bl a, .bl b => some (!(a == b))
  | .inn, .str [c], .str b => some (decide (c ∈ b))
  | .inn, a, .tup xs => if depD a ≤ 64 ∨ depDs xs ≤ 64 then some (xs.any fun z => eqD z a) else none
  | .inn, a, .lst xs => if depD a ≤ 64 ∨ depDs xs ≤ 64 then some (xs.any fun z => eqD z a) else none
  | .notin, .str [c], .str b => some (!decide (c ∈ b))
  | .notin, a, .tup xs => if depD a ≤ 64 ∨ depDs xs ≤ 64 then some (!xs.any fun z => eqD z a) else none
  | .notin, a, .lst xs => if depD a ≤ 64 ∨ depDs xs ≤ 64 then some (!xs.any fun z => eqD z a) else none
  | _, _, _ => none

def allBl : List Dt → Option (List Bool)
  | [] => some []
  | .bl b :: r => (allBl r).map (b :: ·)
  | _ :: _ => none
def allStr : List Dt → Option (List (List Nat))
  | [] => some []
  | .str b :: r => (allStr r).map (b :: ·)
  | _ :: _ => none

/-- a text of Lean as codes -/
def S2 (s : String) : List Nat := s.toList.map Char.toNat

/-- figures as a number -/
def digV (s : List Nat) : Nat := s.foldl (fun acc c => acc * 10 + (c - 48)) 0
def p1D : P1 → Dt → Option Dt
  | .len, .str s => some (.int s.length)
  | .len, .tup s => some (.int s.length)
  | .len, .lst s => some (.int s.length)
  | .len, .scr s => some (.int s.length)
  | .all, .lst s => (allBl s).map fun bs => .bl (bs.all id)
  | .any, .lst s => (allBl s).map fun bs => .bl (bs.any id)
  | .tuple, .lst s => some (.tup s)
  | .tuple, .tup s => some (.tup s)
  | .list, .lst s => some (.lst s)
  | .list, .tup s => some (.lst s)
  | .sorted, .lst s => if sortableD s = true then some (.lst (sortD s)) else none
  | .str, .int i => if i.natAbs < 2 ^ 64 then some (.str (S2 (toString i))) else none
  | .int, .bl b => some (.int (if b then 1 else 0))
  | .int, .int i => some (.int i)
  | .int, .str s => if s ≠ [] ∧ s.all (fun c => decide (48 ≤ c) && decide (c ≤ 57)) = true ∧ s.length ≤ 600 then some (.int (digV s)) else none
  | _, _ => none

mutual
/-- can be a key: no lists within -/
def keyOk : Dt → Bool
  | .lst _ => false
  | .scr _ => false
  | .tup xs => keyOks xs
  | _ => true
def keyOks : List Dt → Bool
  | [] => true
  | x :: xs => keyOk x && keyOks xs
end
def isTupD : Dt → Bool
  | .tup _ => true
  | _ => false
/-- unlike ones, each once -/
def nubD : List Dt → List Dt
  | [] => []
  | x :: xs => if xs.any (fun z => eqD x z) then nubD xs else x :: nubD xs
def lensD : Dt → Option Dt
  | .tup xs => if xs.all (fun x => isTupD x && keyOk x && decide (depD x ≤ 8)) = true ∧ xs.length < 64 then some (.int (nubD xs).length) else none
  | _ => none
def joinL (sep : List Nat) : List (List Nat) → List Nat
  | [] => []
  | [x] => x
  | x :: y :: r => x ++ sep ++ joinL sep (y :: r)
def sumLen : List (List Nat) → Nat
  | [] => 0
  | x :: r => x.length + sumLen r

/-- the parts between a sign -/
def splitC (c : Nat) : List Nat → List (List Nat)
  | [] => [[]]
  | x :: xs => if x = c then [] :: splitC c xs else match splitC c xs with
    | [] => [[x]]
    | p :: ps => (x :: p) :: ps
def m1S : M1 → List Nat → Dt → Option Dt
  | .join, s, .lst xs => (allStr xs).bind fun ys => if sumLen ys + ys.length * s.length ≤ lim then some (.str (joinL s ys)) else none
  | .join, s, .tup xs => (allStr xs).bind fun ys => if sumLen ys + ys.length * s.length ≤ lim then some (.str (joinL s ys)) else none
  | .join, _, _ => none
  | .zfill, s, .int i => if 0 ≤ i ∧ i ≤ 1000 ∧ s.length ≤ 1000 ∧ s.head? ≠ some 43 ∧ s.head? ≠ some 45 then some (.str (List.replicate (i.toNat - s.length) 48 ++ s)) else none
  | .zfill, _, _ => none
  | .split, s, .str [c] => if s.length ≤ 1000000 then some (.lst ((splitC c s).map Dt.str)) else none
  | .split, _, _ => none

def b2D : B2 → Dt → Dt → Option Dt
  | .min, .int i, .int j => some (.int (if j < i then j else i))
  | .max, .int i, .int j => some (.int (if j > i then j else i))
  | _, _, _ => none

def revD : Dt → Option Dt
  | .lst xs => some (.lst xs.reverse)
  | _ => none
def isiD (t : Ty) : Dt → Bool
  | .non => false
  | .bl _ => t == .bool || t == .int
  | .int _ => t == .int
  | .str _ => t == .str
  | .tup _ => t == .tuple
  | .lst _ => t == .list
  | .scr _ => t == .list

/-- the place of an index -/
def ixP (n : Nat) (i : Int) : Option Nat := if 0 ≤ i then (if i < n then some i.toNat else none) else if -(n : Int) ≤ i then some (i + n).toNat else none
def ixL {α : Type} (xs : List α) (i : Int) : Option α := (ixP xs.length i).bind fun j => xs[j]?
def ixD : Dt → Dt → Option Dt
  | .str s, .int i => (ixL s i).map fun c => .str [c]
  | .tup s, .int i => ixL s i
  | .lst s, .int i => ixL s i
  | .scr s, .int i => (ixL s i).map .int
  | _, _ => none

/-- a slice's bound -/
def slP (n d : Nat) : Option Int → Nat
  | none => d
  | some v => if v < 0 then (v + (n : Int)).toNat else min v.toNat n
def cutL {α : Type} (xs : List α) (lo hi : Option Int) : List α := (xs.drop (slP xs.length 0 lo)).take (slP xs.length xs.length hi - slP xs.length 0 lo)
def slD (a : Dt) (lo hi : Option Int) : Option Dt :=
  match a with
  | .str s => some (.str (cutL s lo hi))
  | .tup s => some (.tup (cutL s lo hi))
  | .lst s => some (.lst (cutL s lo hi))
  | _ => none

/-- what stands at a name, as data that is looked at -/
def viewW (st : Sr) : Wv → Option Dt
  | .d x => some x
  | .ob n => match st[n]? with
    | some (.lst xs) => some (.lst xs)
    | none => none
def dataW : Wv → Option Dt
  | .d x => some x
  | .ob _ => none

def mapD : List Wv → Option (List Dt)
  | [] => some []
  | .d x :: r => (mapD r).map (x :: ·)
  | .ob _ :: _ => none
def itemsD : Dt → Option (List Dt)
  | .tup xs => some xs
  | .lst xs => some xs
  | .str s => some (s.map fun c => .str [c])
  | _ => none
def rangeL (lo : Int) : Nat → List Dt
  | 0 => []
  | n + 1 => .int lo :: rangeL (lo + 1) n
def enumL (k : Int) : List Dt → List Dt
  | [] => []
  | x :: r => .tup [.int k, x] :: enumL (k + 1) r
def zipL : List Dt → List Dt → List Dt
  | x :: xs, y :: ys => .tup [x, y] :: zipL xs ys
  | _, _ => []

/-- a target takes an item -/
def setMany : List Nat → List Dt → Ev → Option Ev
  | [], [], ρ => some ρ
  | i :: is, x :: xs, ρ => setMany is xs (ρ.set i (some (.d x)))
  | _, _, _ => none
def setTg : Tg → Dt → Ev → Option Ev
  | .one i, x, ρ => some (ρ.set i (some (.d x)))
  | .many is, .tup xs, ρ => setMany is xs ρ
  | .many _, _, _ => none
def Tg.slots : Tg → List Nat
  | .one i => [i]
  | .many is => is
def wipeE (ρ : Ev) : List Nat → Ev
  | [] => ρ
  | v :: vs => (wipeE ρ vs).set v none

structure Gam where
  call : Nat → List Wv → Sr → Rs (Wv × Sr)
  glob : List Dt

mutual
def sameD : Dt → Dt → Bool
  | .non, .non => true
  | .bl a, .bl b => a == b
  | .int i, .int j => i == j
  | .str x, .str y => x == y
  | .lst xs, .lst ys => sameDs xs ys
  | .tup xs, .tup ys => sameDs xs ys
  | .scr a, .scr b => a == b
  | _, _ => false
def sameDs : List Dt → List Dt → Bool
  | [], [] => true
  | x :: xs, y :: ys => sameD x y && sameDs xs ys
  | _, _ => false
end
/-- the objects that are walked stay -/
def watchOk (ws : List (Nat × List Dt)) (st : Sr) : Bool := ws.all fun p => match st[p.1]? with
  | some (.lst ys) => sameDs ys p.2
  | none => false

def consO : Option Dt → List Dt → List Dt
  | some y, r => y :: r
  | none, r => r
/-- a list comprehension's turns -/
def lcL (ws : List (Nat × List Dt)) (f : Dt → Sr → Rs (Option Dt × Sr)) : List Dt → Sr → Rs (List Dt × Sr)
  | [], st => .ok ([], st)
  | x :: xs, st => (f x st).bind fun p => if watchOk ws p.2 = true then (lcL ws f xs p.2).bind fun q => .ok (consO p.1 q.1, q.2) else .bad

def noExc {α : Type} : Rs α → Rs α
  | .ok a => .ok a
  | _ => .bad

/-! ### expressions -/
def op1 (f : Dt → Option Dt) (p : Wv × Sr) : Rs (Wv × Sr) := Rs.ofO ((viewW p.2 p.1).bind fun x => (f x).map fun z => (.d z, p.2))
def op2 (f : Dt → Dt → Option Dt) (x : Wv) (p : Wv × Sr) : Rs (Wv × Sr) := Rs.ofO ((viewW p.2 x).bind fun x => (viewW p.2 p.1).bind fun y => (f x y).map fun z => (.d z, p.2))
def blO : Option Bool → Option Dt
  | some b => some (.bl b)
  | none => none
def negD : Dt → Option Dt
  | .int i => some (.int (-i))
  | _ => none
def notD (x : Dt) : Option Dt := some (.bl (!truthD x))
/-- a test of a value that was told -/
def truW (p : Wv × Sr) : Rs Bool := Rs.ofO ((viewW p.2 p.1).map truthD)
def strW : Wv → Option (List Nat)
  | .d (.str s) => some s
  | _ => none
def intW : Wv → Option Int
  | .d (.int i) => some i
  | _ => none
def mkTup (p : List Wv × Sr) : Rs (Wv × Sr) := if p.1.length ≤ lim then Rs.ofO ((mapD p.1).map fun xs => (.d (.tup xs), p.2)) else .bad
def mkLst (p : List Wv × Sr) : Rs (Wv × Sr) := if p.1.length ≤ lim then Rs.ofO ((mapD p.1).map fun xs => (.d (.lst xs), p.2)) else .bad
abbrev Wk := (List Dt × List (Nat × List Dt)) × Sr
def itSeq (p : Wv × Sr) : Option Wk := match p.1 with
  | .d x => (itemsD x).map fun xs => ((xs, []), p.2)
  | .ob n => match p.2[n]? with
    | some (.lst xs) => some ((xs, [(n, xs)]), p.2)
    | none => none
def itEnm (p : Wv × Sr) : Option Wk := match p.1 with
  | .d (.lst xs) => some ((enumL 0 xs, []), p.2)
  | .d (.tup xs) => some ((enumL 0 xs, []), p.2)
  | .d _ => none
  | .ob n => match p.2[n]? with
    | some (.lst xs) => some ((enumL 0 xs, [(n, xs)]), p.2)
    | none => none
def itZip (x : Wv) (p : Wv × Sr) : Option Wk := match x, p.1 with
  | .d (.tup xs), .d (.tup ys) => some ((zipL xs ys, []), p.2)
  | _, _ => none
def itRng (st : Sr) (i j : Int) : Option Wk := if i < 2 ^ 30 ∧ -(2 ^ 30) < i ∧ j < 2 ^ 30 ∧ -(2 ^ 30) < j then some ((rangeL i (j - i).toNat, []), st) else none
/-- one turn of a comprehension -/
def lcTurn (ifs : Ev → Sr → Rs (Bool × Sr)) (elt : Ev → Sr → Rs (Wv × Sr)) (tg : Tg) (ρ : Ev) (x : Dt) (st : Sr) : Rs (Option Dt × Sr) :=
  (Rs.ofO (setTg tg x (wipeE ρ tg.slots))).bind fun ρ' => noExc ((ifs ρ' st).bind fun q => if q.1 = true then (elt ρ' q.2).bind fun r => (Rs.ofO (dataW r.1)).bind fun y => .ok (some y, r.2) else .ok (none, q.2))
def lcEnd (r : List Dt × Sr) : Rs (Wv × Sr) := if r.1.length ≤ lim then .ok (.d (.lst r.1), r.2) else .bad

mutual
def evE (Γ : Gam) : Ex → Ev → Sr → Rs (Wv × Sr)
  | .v i, ρ, st => match ρ[i]? with
    | some (some w) => .ok (w, st)
    | _ => .bad
  | .non, _, st => .ok (.d .non, st)
  | .bl b, _, st => .ok (.d (.bl b), st)
  | .int i, _, st => .ok (.d (.int i), st)
  | .str s, _, st => .ok (.d (.str s), st)
  | .g k, _, st => match Γ.glob[k]? with
    | some x => .ok (.d x, st)
    | none => .bad
  | .bin o a b, ρ, st => (evE Γ a ρ st).bind fun p => (evE Γ b ρ p.2).bind fun q => op2 (bopD o) p.1 q
  | .neg a, ρ, st => (evE Γ a ρ st).bind fun p => op1 negD p
  | .not a, ρ, st => (evE Γ a ρ st).bind fun p => op1 notD p
  | .and es, ρ, st => evAnd Γ es ρ st
  | .or es, ρ, st => evOr Γ es ρ st
  | .cmp o a b, ρ, st => (evE Γ a ρ st).bind fun p => (evE Γ b ρ p.2).bind fun q => op2 (fun x y => blO (copD o x y)) p.1 q
  | .cmp2 o o' a b c, ρ, st => (evE Γ a ρ st).bind fun p => (evE Γ b ρ p.2).bind fun q => (op2 (fun x y => blO (copD o x y)) p.1 q).bind fun k =>
      (truW k).bind fun t => if t = true then (evE Γ c ρ k.2).bind fun r => op2 (fun x y => blO (copD o' x y)) q.1 r else .ok k
  | .call f es, ρ, st => (evEs Γ es ρ st).bind fun p => Γ.call f p.1 p.2
  | .call0 f, ρ, st => noExc (Γ.call f [] st)
  | .p1 p a, ρ, st => (evE Γ a ρ st).bind fun x => op1 (p1D p) x
  | .lens a, ρ, st => (evE Γ a ρ st).bind fun x => op1 lensD x
  | .isi a t, ρ, st => (evE Γ a ρ st).bind fun x => op1 (fun x => some (.bl (isiD t x))) x
  | .isi2 a t u, ρ, st => (evE Γ a ρ st).bind fun x => op1 (fun x => some (.bl (isiD t x || isiD u x))) x
  | .m1 m a b, ρ, st => (evE Γ a ρ st).bind fun p => (Rs.ofO ((strW p.1).map fun s => (s, p.2))).bind fun s => (evE Γ b ρ s.2).bind fun q => op1 (m1S m s.1) q
  | .b2 o a b, ρ, st => (evE Γ a ρ st).bind fun p => (evE Γ b ρ p.2).bind fun q => op2 (b2D o) p.1 q
  | .rev a, ρ, st => (evE Γ a ρ st).bind fun p => op1 revD p
  | .ix a i, ρ, st => (evE Γ a ρ st).bind fun p => (evE Γ i ρ p.2).bind fun q => op2 ixD p.1 q
  | .sl a lo hi, ρ, st => (evE Γ a ρ st).bind fun p => (evO Γ lo ρ p.2).bind fun l => (evO Γ hi ρ l.2).bind fun h => op1 (fun x => slD x l.1 h.1) (p.1, h.2)
  | .tup es, ρ, st => (evEs Γ es ρ st).bind mkTup
  | .lst es, ρ, st => (evEs Γ es ρ st).bind mkLst
  | .lc elt tg it ifs, ρ, st => (evI Γ it ρ st).bind fun p => (lcL p.1.2 (lcTurn (evIfs Γ ifs) (evE Γ elt) tg ρ) p.1.1 p.2).bind lcEnd
def evEs (Γ : Gam) : Exs → Ev → Sr → Rs (List Wv × Sr)
  | .nil, _, st => .ok ([], st)
  | .cons e es, ρ, st => (evE Γ e ρ st).bind fun p => (evEs Γ es ρ p.2).bind fun q => .ok (p.1 :: q.1, q.2)
def evAnd (Γ : Gam) : Exs → Ev → Sr → Rs (Wv × Sr)
  | .nil, _, _ => .bad
  | .cons e es, ρ, st => if es.isNil = true then evE Γ e ρ st
    else (evE Γ e ρ st).bind fun p => (truW p).bind fun t => if t = true then evAnd Γ es ρ p.2 else .ok p
def evOr (Γ : Gam) : Exs → Ev → Sr → Rs (Wv × Sr)
  | .nil, _, _ => .bad
  | .cons e es, ρ, st => if es.isNil = true then evE Γ e ρ st
    else (evE Γ e ρ st).bind fun p => (truW p).bind fun t => if t = true then .ok p else evOr Γ es ρ p.2
/-- a clause's tests -/
def evIfs (Γ : Gam) : Exs → Ev → Sr → Rs (Bool × Sr)
  | .nil, _, st => .ok (true, st)
  | .cons e es, ρ, st => if es.isNil = true then (evE Γ e ρ st).bind fun p => (truW p).bind fun t => .ok (t, p.2) else .bad
/-- a slice's bound -/
def evO (Γ : Gam) : Exo → Ev → Sr → Rs (Option Int × Sr)
  | .no, _, st => .ok (none, st)
  | .yes e, ρ, st => (evE Γ e ρ st).bind fun p => Rs.ofO ((intW p.1).map fun i => (some i, p.2))
/-- what is walked: the items, and the objects that must stay meanwhile -/
def evI (Γ : Gam) : Itx → Ev → Sr → Rs Wk
  | .seq e, ρ, st => (evE Γ e ρ st).bind fun p => Rs.ofO (itSeq p)
  | .rng1 e, ρ, st => (evE Γ e ρ st).bind fun p => Rs.ofO ((intW p.1).bind fun i => itRng p.2 0 i)
  | .rng2 a b, ρ, st => (evE Γ a ρ st).bind fun p => (evE Γ b ρ p.2).bind fun q => Rs.ofO ((intW p.1).bind fun i => (intW q.1).bind fun j => itRng q.2 i j)
  | .enm e, ρ, st => (evE Γ e ρ st).bind fun p => Rs.ofO (itEnm p)
  | .zip a b, ρ, st => (evE Γ a ρ st).bind fun p => (evE Γ b ρ p.2).bind fun q => Rs.ofO (itZip p.1 q)
end

/-! ### statements -/
inductive Fl where
  | nx
  | rt (w : Wv)
  | bk
  | ct

abbrev Sx := (Fl × Ev) × Sr
def exFor (body : Ev → Sr → Rs Sx) (tg : Tg) (ws : List (Nat × List Dt)) : List Dt → Ev → Sr → Rs Sx
  | [], ρ, st => .ok ((.nx, ρ), st)
  | x :: xs, ρ, st => match setTg tg x ρ with
    | none => .bad
    | some ρ' => (body ρ' st).bind fun p => match p.1.1 with
      | .nx => if watchOk ws p.2 = true then exFor body tg ws xs p.1.2 p.2 else .bad
      | .ct => if watchOk ws p.2 = true then exFor body tg ws xs p.1.2 p.2 else .bad
      | .bk => .ok ((.nx, p.1.2), p.2)
      | .rt w => .ok ((.rt w, p.1.2), p.2)
def exWhl (c : Ev → Sr → Rs (Bool × Sr)) (body : Ev → Sr → Rs Sx) : Nat → Ev → Sr → Rs Sx
  | 0, _, _ => .bad
  | n + 1, ρ, st => (c ρ st).bind fun b => if b.1 = true then (body ρ b.2).bind fun p => match p.1.1 with
      | .nx => exWhl c body n p.1.2 p.2
      | .ct => exWhl c body n p.1.2 p.2
      | .bk => .ok ((.nx, p.1.2), p.2)
      | .rt w => .ok ((.rt w, p.1.2), p.2)
    else .ok ((.nx, ρ), b.2)
/-- turns of a while at most -/
def turns : Nat := 1000000
/-- an expression's truth -/
def evT (Γ : Gam) (e : Ex) (ρ : Ev) (st : Sr) : Rs (Bool × Sr) := (evE Γ e ρ st).bind fun p => (truW p).bind fun t => .ok (t, p.2)
/-- a list's object laid -/
def layL (i : Nat) (ρ : Ev) (p : Wv × Sr) : Rs Sx := match p.1 with
  | .d (.lst xs) => .ok ((.nx, ρ.set i (some (.ob p.2.length))), p.2 ++ [.lst xs])
  | _ => .bad
def unpW (is : List Nat) (ρ : Ev) (p : Wv × Sr) : Rs Sx := match p.1 with
  | .d (.tup xs) => (Rs.ofO (setMany is xs ρ)).bind fun ρ' => .ok ((.nx, ρ'), p.2)
  | _ => .bad
def obW : Option (Option Wv) → Option Nat
  | some (some (.ob n)) => some n
  | _ => none
def appW (n : Nat) (ρ : Ev) (p : Wv × Sr) : Rs Sx := match p.1, p.2[n]? with
  | .d y, some (.lst xs) => if xs.length < lim then .ok ((.nx, ρ), p.2.set n (.lst (xs ++ [y]))) else .bad
  | _, _ => .bad
/-- a sign exchanged -/
def subC (c : Nat) (z : List Nat) : List Nat → List Nat
  | [] => []
  | x :: xs => (if x = c then z else [x]) ++ subC c z xs
def quoL (s : List Nat) : List Nat := 34 :: (subC 34 [92, 34] (subC 92 [92, 92] s) ++ [34])
def quoW (w : Option (Option Wv)) (ρ : Ev) (st : Sr) : Rs Sx := match w with
  | some (some (.d (.str s))) => if s.length ≤ 1000 then .ok ((.rt (.d (.str (quoL s))), ρ), st) else .bad
  | _ => .bad
/-- is an object there -/
def seenW (n : Nat) (st : Sr) : Rs (Unit × Sr) := match st[n]? with
  | some (.lst _) => .ok ((), st)
  | none => .bad
/-- what a try's end gives -/
def tryW (c i j : Nat) (xs : List Xe) (ρ : Ev) : Rs Sx → Rs Sx
  | .ok p => .ok p
  | .exc k fs st => if subB k c = true ∧ fs = [] ∧ i ≠ j ∧ i < ρ.length ∧ xs.length ≤ lim then .ok ((.nx, (ρ.set j (some (.d (.tup (xs.map fun x => .bl (xeB k x)))))).set i none), st) else .bad
  | .bad => .bad
def tryRW (c k : Nat) : Rs Sx → Rs Sx
  | .ok p => .ok p
  | .exc e fs st => if subB e c = true ∧ fs = [] then .exc k [] st else .bad
  | .bad => .bad
mutual
def exS (Γ : Gam) : Sm → Ev → Sr → Rs Sx
  | .set i e, ρ, st => (evE Γ e ρ st).bind fun p => .ok ((.nx, ρ.set i (some p.1)), p.2)
  | .setL i e, ρ, st => (evE Γ e ρ st).bind fun p => layL i ρ p
  | .unp is e, ρ, st => (evE Γ e ρ st).bind fun p => unpW is ρ p
  | .ret e, ρ, st => (evE Γ e ρ st).bind fun p => .ok ((.rt p.1, ρ), p.2)
  | .ife c a b, ρ, st => (evT Γ c ρ st).bind fun p => if p.1 = true then exSs Γ a ρ p.2 else exSs Γ b ρ p.2
  | .forS tg it b, ρ, st => (evI Γ it ρ st).bind fun p => exFor (exSs Γ b) tg p.1.2 p.1.1 ρ p.2
  | .whl c b, ρ, st => exWhl (evT Γ c) (exSs Γ b) turns ρ st
  | .app i e, ρ, st => (Rs.ofO ((obW ρ[i]?).map fun n => (n, st))).bind fun n => (seenW n.1 n.2).bind fun u => (evE Γ e ρ u.2).bind fun p => appW n.1 ρ p
  | .expr e, ρ, st => (evE Γ e ρ st).bind fun p => .ok ((.nx, ρ), p.2)
  | .brk, ρ, st => .ok ((.bk, ρ), st)
  | .cnt, ρ, st => .ok ((.ct, ρ), st)
  | .pass, ρ, st => .ok ((.nx, ρ), st)
  | .never, _, _ => .bad
  | .rai c, _, st => .exc c [] st
  | .tryN _ b, ρ, st => noExc (exSs Γ b ρ st)
  | .tryX c b i j xs, ρ, st => tryW c i j xs ρ (exSs Γ b ρ st)
  | .tryR c k b, ρ, st => tryRW c k (exSs Γ b ρ st)
  | .quo i, ρ, st => quoW ρ[i]? ρ st
def exSs (Γ : Gam) : Sms → Ev → Sr → Rs Sx
  | .nil, ρ, st => .ok ((.nx, ρ), st)
  | .cons s r, ρ, st => (exS Γ s ρ st).bind fun p => match p.1.1 with
    | .nx => exSs Γ r p.1.2 p.2
    | .rt w => .ok ((.rt w, p.1.2), p.2)
    | .bk => .ok ((.bk, p.1.2), p.2)
    | .ct => .ok ((.ct, p.1.2), p.2)
end

/-! ### defs -/
structure Fn where
  np : Nat
  ns : Nat
  body : Sms
def callW (r : Nat → List Dt → Rs Dt) (f : Nat) (ws : List Wv) (st : Sr) : Rs (Wv × Sr) :=
  (Rs.ofO (mapD ws)).bind fun ds => match r f ds with
    | .ok d => .ok (.d d, st)
    | .exc c fs _ => .exc c fs st
    | .bad => .bad
/-- what a def's end gives -/
def endD (p : Sx) : Rs Dt := match p.1.1 with
  | .nx => .ok .non
  | .rt (.d x) => .ok x
  | .rt (.ob n) => match p.2[n]? with
    | some (.lst xs) => .ok (.lst xs)
    | none => .bad
  | _ => .bad
def startE (ns : Nat) (ds : List Dt) : Ev := ds.map (fun x => some (.d x)) ++ List.replicate (ns - ds.length) none
def runP (tab : List Fn) (gl : List Dt) : Nat → Nat → List Dt → Rs Dt
  | 0, _, _ => .bad
  | n + 1, f, ds => match tab[f]? with
    | none => .bad
    | some F => if ds.length = F.np then (exSs ⟨callW (runP tab gl n), gl⟩ F.body (startE F.ns ds) []).bind endD else .bad

end PB

set_option Elab.async false
set_option linter.all false
set_option maxRecDepth 100000
set_option maxHeartbeats 4000000
/-! Sets whose members are nested keys. -/
namespace PB
open PySem PySem.Spec PyProof.Rows L2
abbrev NK := NestedKey
/-- the key k stands at b -/
def isN (h : Heap) (k : NK) (b : Addr) : Prop := NestedIs h k (.ref b) ∧ k.depth ≤ 8
section
variable {P : Program} {w : World}
/-- asked of v, n deep: of a class of the program's own? no -/
def NoCls (P : Program) (w : World) (n : Nat) (s : Shared) (v : Value) : Prop := ∀ (A : Around) (E : Value → Shared → Prop) (Q : Bool → Shared → Prop), Q false s → wpAny (model P w) A (ofAClassStatement n v) Q E s
/-- asked of v: is its hash by value? one way or the other -/
def HashAny (P : Program) (w : World) (n : Nat) (s : Shared) (v : Value) : Prop := ∀ (A : Around) (E : Value → Shared → Prop) (Q : Bool → Shared → Prop), (∀ b, Q b s) → wpAny (model P w) A (hashByValue n v) Q E s
theorem noCls_tup {n : Nat} {s : Shared} {a : Addr} {o : Obj} {us : Array Value} {m : Nat} (g1 : s.heap.get? a = some o) (g2 : o.cls = .type "tuple") (g3 : o.data = .seq us m) (all : ∀ u ∈ us.toList, NoCls P w n s u) : NoCls P w (n + 1) s (.ref a) := fun A E Q fin => by
  have ty : s.TypeIs (.ref a) "tuple" := ⟨o, g1, g2⟩
  unfold ofAClassStatement
  refine wpAny_bind (wpAny_typeOf ty ?_)
  dsimp only
  have same : (("tuple" : String) == "tuple") = true := by decide
  simp only [same, if_true, Bool.not_true, Bool.false_eq_true, if_false]
  try refine wpAny_bind (wpAny_pure ?_)
  try simp only [Bool.not_true, Bool.false_eq_true, if_false]
  show wpAny _ _ (seqItems? (.ref a) >>= _) _ _ s
  refine wpAny_bind (wpAny_seqItems g1 g3 ?_)
  dsimp only
  refine wpAny_bind ?_
  show wpAny _ _ (forIn us _ _) _ _ s
  rw [← Array.forIn_toList]
  refine wpAny_forIn_list _ (fun left r z => r.1 = none ∧ z = s ∧ ∀ u ∈ left, NoCls P w n s u) _ ?_ ?_ _ _ ⟨rfl, rfl, all⟩
  · rintro u left r z ⟨e1, rfl, more⟩
    refine wpAny_bind (more u List.mem_cons_self _ _ _ ?_)
    simp only [Bool.false_eq_true, if_false]
    exact wpAny_pure ⟨rfl, rfl, fun q hq => more q (List.mem_cons_of_mem _ hq)⟩
  · rintro ⟨r1, r2⟩ z ⟨e1, rfl, _⟩
    simp only at e1
    subst e1
    exact wpAny_pure fin
mutual
theorem noCls_key : ∀ (k : NK) (v : Value) (n : Nat) (s : Shared), NestedIs s.heap k v → k.depth ≤ n → NoCls P w n s v
  | .none, _, n, s, x, _ => by cases x; intro A E Q q; cases n <;> exact wpAny_pure q
  | .num i, _, n, s, x, _ => by cases x <;> (intro A E Q q; cases n <;> exact wpAny_pure q)
  | .text y, _, n, s, x, _ => by cases x; intro A E Q q; cases n <;> exact wpAny_pure q
  | .tup ks, _, n, s, x, hn => by
    cases x with
    | tup g1 g2 g3 g4 =>
      simp only [NestedKey.depth] at hn
      cases n with
      | zero => omega
      | succ n => exact noCls_tup g1 g2 g3 (noCls_keys ks _ n s g4 (by omega))
theorem noCls_keys : ∀ (ks : List NK) (vs : List Value) (n : Nat) (s : Shared), NestedAll s.heap ks vs → NestedKey.depthAll ks ≤ n → ∀ v ∈ vs, NoCls P w n s v
  | [], _, n, s, x, _, v, hv => by cases x; cases hv
  | k :: ks, _, n, s, x, hn, v, hv => by
    cases x with
    | cons x1 x2 =>
      simp only [NestedKey.depthAll] at hn
      rcases List.mem_cons.mp hv with e | hv
      · subst e; exact noCls_key k _ n s x1 (by omega)
      · exact noCls_keys ks _ n s x2 (by omega) v hv
end
theorem hashAny_tup {n : Nat} {s : Shared} {a : Addr} {o : Obj} {us : Array Value} {m : Nat} (g1 : s.heap.get? a = some o) (g2 : o.cls = .type "tuple") (g3 : o.data = .seq us m) (all : ∀ u ∈ us.toList, HashAny P w n s u) : HashAny P w (n + 1) s (.ref a) := fun A E Q fin => by
  have ty : s.TypeIs (.ref a) "tuple" := ⟨o, g1, g2⟩
  unfold hashByValue
  refine wpAny_bind (wpAny_specialOf ty F.slot_tuple_hash.lookup ?_)
  show wpAny _ _ (seqItems? (.ref a) >>= _) _ _ s
  refine wpAny_bind (wpAny_seqItems g1 g3 ?_)
  refine wpAny_bind ?_
  show wpAny _ _ (forIn us _ _) _ _ s
  rw [← Array.forIn_toList]
  refine wpAny_forIn_list _ (fun left r z => r.1 = none ∧ z = s ∧ ∀ u ∈ left, HashAny P w n s u) _ ?_ ?_ _ _ ⟨rfl, rfl, all⟩
  · rintro u left r z ⟨e1, rfl, more⟩
    refine wpAny_bind (more u List.mem_cons_self _ _ _ fun b => ?_)
    cases b with
    | false =>
      simp only [Bool.not_false, if_true]
      refine wpAny_pure ?_
      first
        | exact fin false
        | exact wpAny_pure (fin false)
    | true =>
      simp only [Bool.not_true, Bool.false_eq_true, if_false]
      exact wpAny_pure ⟨rfl, rfl, fun q hq => more q (List.mem_cons_of_mem _ hq)⟩
  · rintro ⟨r1, r2⟩ z ⟨e1, rfl, _⟩
    simp only at e1
    subst e1
    exact wpAny_pure (fin _)
mutual
theorem hashAny_key : ∀ (k : NK) (v : Value) (n : Nat) (s : Shared), NestedIs s.heap k v → k.depth ≤ n → HashAny P w n s v
  | .none, _, n, s, x, _ => by cases x; intro A E Q q; cases n <;> exact wpAny_pure (q _)
  | .num i, _, n, s, x, _ => by cases x <;> (intro A E Q q; cases n <;> exact wpAny_pure (q _))
  | .text y, _, n, s, x, _ => by cases x; intro A E Q q; cases n <;> exact wpAny_pure (q _)
  | .tup ks, _, n, s, x, hn => by
    cases x with
    | tup g1 g2 g3 g4 =>
      simp only [NestedKey.depth] at hn
      cases n with
      | zero => omega
      | succ n => exact hashAny_tup g1 g2 g3 (hashAny_keys ks _ n s g4 (by omega))
theorem hashAny_keys : ∀ (ks : List NK) (vs : List Value) (n : Nat) (s : Shared), NestedAll s.heap ks vs → NestedKey.depthAll ks ≤ n → ∀ v ∈ vs, HashAny P w n s v
  | [], _, n, s, x, _, v, hv => by cases x; cases hv
  | k :: ks, _, n, s, x, hn, v, hv => by
    cases x with
    | cons x1 x2 =>
      simp only [NestedKey.depthAll] at hn
      rcases List.mem_cons.mp hv with e | hv
      · subst e; exact hashAny_key k _ n s x1 (by omega)
      · exact hashAny_keys ks _ n s x2 (by omega) v hv
end
variable {A : Around} {E : Value → Shared → Prop} {s : Shared}
/-- nobody sees a search among keys -/
theorem unseen_keys {k : NK} {b : Addr} {Q : Bool → Shared → Prop} (hk : isN s.heap k b) {ys : List Value} (all : ∀ y ∈ ys, ∃ k' c, y = Value.ref c ∧ isN s.heap k' c) (fin : Q false s) :
    wpAny (model P w) A (searchCouldBeSeen (.ref b) ys) Q E s := by
  unfold searchCouldBeSeen
  refine wpAny_bind ?_
  refine wpAny_forIn_list _ (fun left r z => r.1 = none ∧ z = s ∧ ∀ y ∈ left, ∃ k' c, y = Value.ref c ∧ isN s.heap k' c) _ ?_ ?_ _ _ ⟨rfl, rfl, all⟩
  · rintro u left r z ⟨e1, rfl, more⟩
    obtain ⟨k', c, rfl, hc⟩ := more u List.mem_cons_self
    have more' : ∀ y ∈ left, ∃ k' c, y = Value.ref c ∧ isN z.heap k' c := fun q hq => more q (List.mem_cons_of_mem _ hq)
    dsimp only
    by_cases same : (b == c || (carriedByValue (.ref b) && carriedByValue (.ref c))) = true
    · exact wp_if_pos same (wpAny_pure ⟨rfl, rfl, more'⟩)
    · refine wp_if_neg same ?_
      refine wpAny_bind ((nestedKind P w).quiet hk ?_)
      simp only [Bool.not_true, Bool.false_eq_true, if_false]
      refine wpAny_bind ((nestedKind P w).quiet hc ?_)
      simp only [Bool.not_true, Bool.false_eq_true, if_false]
      refine wpAny_bind (noCls_key k _ 8 z hk.1 hk.2 _ _ _ ?_)
      simp only [Bool.false_eq_true, if_false]
      refine wpAny_bind (noCls_key k' _ 8 z hc.1 hc.2 _ _ _ ?_)
      simp only [Bool.false_eq_true, if_false]
      exact wpAny_pure ⟨rfl, rfl, more'⟩
  · rintro ⟨r1, r2⟩ z ⟨e1, rfl, _⟩
    simp only at e1
    subst e1
    exact wpAny_pure fin

/-- the set at a holds the keys of L, in the table's order -/
structure SN (P : Program) (w : World) (h : Heap) (a : Addr) (L : List (Addr × NK)) (es : Array (Int × Value)) (ep : Nat) (t : SetTable) : Prop where
  obj : ∃ o, h.get? a = some o ∧ o.ExactSet ∧ o.data = .set es ep t
  ent : es.toList = L.map fun p => (p.2.hash w, Value.ref p.1)
  tab : TabOk t (L.map fun p => p.2.hash w)
  nod : (L.map (·.2)).Nodup
  key : ∀ p ∈ L, isN h p.2 p.1
  ord : w.params.followText "set-order" = true ∨ t.led = true
  gap : L.length * 5 < t.mask * 3
  few : L.length < 64
variable {a : Addr} {L : List (Addr × NK)} {es : Array (Int × Value)} {ep : Nat} {t : SetTable}
theorem ent_size {L : List (Addr × NK)} {es : Array (Int × Value)} (h : es.toList = L.map fun p => (p.2.hash w, Value.ref p.1)) : es.size = L.length := by
  rw [← Array.length_toList, h, List.length_map]
theorem SN.size (S : SN P w s.heap a L es ep t) : es.size = L.length := ent_size S.ent
theorem SN.fits (S : SN P w s.heap a L es ep t) : t.fits es.size = true := by
  have z1 := S.tab.sz
  have z2 := S.size
  have z3 := S.gap
  rw [List.length_map] at z1
  simp only [SetTable.fits, SetTable.fill, S.tab.dm, Bool.and_eq_true, beq_iff_eq, decide_eq_true_eq]
  refine ⟨by omega, ?_⟩
  show t.place.size + 0 ≤ t.mask
  omega
theorem SN.at_ (S : SN P w s.heap a L es ep t) {i : Nat} {p : Addr × NK} (h : L[i]? = some p) : es[i]? = some (p.2.hash w, Value.ref p.1) := by
  rw [← Array.getElem?_toList, S.ent, List.getElem?_map, h]
  rfl
theorem SN.stands (S : SN P w s.heap a L es ep t) : ¬ t.gaveWay = true := by
  unfold SetTable.gaveWay
  simp [mask_odd S.tab.mok]
/-- the c-th step of a hash's way through the table -/
def stepAt (t : SetTable) (x : Int) (c : Nat) : SetTable.Probe := nth t.mask (runAt t.mask (SetTable.bits x % (t.mask + 1)) (SetTable.bits x)) c
theorem stepAt_j (t : SetTable) (x : Int) (c : Nat) : (stepAt t x c).j = way t.mask x c := rfl
theorem stepAt_more (t : SetTable) (x : Int) (c q : Nat) : nth t.mask (stepAt t x c) q = stepAt t x (c + q) := (nth_add t.mask c _ q).symm
theorem nth_dummy (m : Nat) : ∀ (n : Nat) (p : SetTable.Probe), p.dummy = none → (nth m p n).dummy = none
  | 0, _, h => h
  | n + 1, p, h => nth_dummy m n (adv m p) (by unfold adv; split <;> exact h)
theorem same_mem (t : SetTable) : t.sameMemory t.moves t.mask = some true := if_pos (beq_self_eq_true _)
/-- the search from the c-th step on: f turns are enough -/
theorem SN.search (S : SN P w s.heap a L es ep t) {x : Addr} {k : NK} (hx : isN s.heap k x) (room : A.units + 8 < cLine) {n : Nat} (big : n < 10 * SetTable.turns t.mask)
    (free : way t.mask (k.hash w) n ∉ t.place.toList) (full : ∀ c, c < n → way t.mask (k.hash w) c ∈ t.place.toList) {Q : SetFound → Shared → Prop}
    (yes : k ∈ L.map (·.2) → Q (.there none) s) (no : k ∉ L.map (·.2) → Q (.free (way t.mask (k.hash w) n) false) s) :
    ∀ (f c : Nat) (from_ : Option SetTable.Probe), from_.getD (t.probeStart (k.hash w)) = stepAt t (k.hash w) c → c ≤ n → n - c < f →
      (∀ (i : Nat) p, L[i]? = some p → p.2 = k → ∃ c', c ≤ c' ∧ c' < n ∧ t.place.toList[i]? = some (way t.mask (k.hash w) c')) →
      wpAny (model P w) A (setSearchFrom a (.ref x) (k.hash w) true f from_) Q E s := by
  intro f
  induction f with
  | zero => intro c from_ _ _ z; omega
  | succ f ih =>
    intro c from_ hfrom hc hf there
    obtain ⟨o, g1, g2, g3⟩ := S.obj
    rw [setSearchFrom_succ]
    refine wpAny_bind (wpAny_setState_of g1 g3 S.fits ?_)
    dsimp only
    refine wp_if_neg S.stands ?_
    try refine wpAny_bind (wpAny_pure ?_)
    have d0 : (stepAt t (k.hash w) c).dummy = none := nth_dummy t.mask c _ rfl
    have jj : ∀ q, (nth t.mask (stepAt t (k.hash w) c) q).j = way t.mask (k.hash w) (c + q) := fun q => by rw [stepAt_more, stepAt_j]
    have spec := go_spec t S.tab.ris S.tab.dm (fun i => (es[i]?.map (·.1)).getD 0) (k.hash w) (10 * SetTable.turns t.mask) (n - c) _ d0 (by omega)
      (fun q hq => by rw [jj]; exact full (c + q) (by omega)) (by rw [jj, show c + (n - c) = n by omega]; exact free)
    have hashAt : ∀ (i : Nat) p, L[i]? = some p → (es[i]?.map (·.1)).getD 0 = p.2.hash w := fun i p hp => by rw [S.at_ hp]; rfl
    rcases spec with ⟨q, i, hq, hi, hh, miss, pr⟩ | ⟨miss, pr⟩
    · have pr' : t.probe (fun i => (es[i]?.map (·.1)).getD 0) (k.hash w) (from_.getD (t.probeStart (k.hash w))) = some (.candidate (way t.mask (k.hash w) (c + q)) i (stepAt t (k.hash w) (c + (q + 1)))) := by
        rw [hfrom, ← jj, ← stepAt_more]
        exact pr
      rw [pr']
      dsimp only
      rw [jj] at hi
      have hil : i < L.length := by
        have z1 := (List.getElem?_eq_some_iff.mp hi).1
        have z2 := S.tab.sz
        rw [List.length_map] at z2
        rw [Array.length_toList] at z1
        omega
      obtain ⟨p, hp⟩ : ∃ p, L[i]? = some p := ⟨_, List.getElem?_eq_getElem hil⟩
      have mem : p ∈ L := List.mem_of_getElem? hp
      have rest : wpAny (model P w) A (searchRest a (.ref x) (k.hash w) true f es t (way t.mask (k.hash w) (c + q)) i (stepAt t (k.hash w) (c + (q + 1)))) Q E s := by
        unfold searchRest
        rw [S.at_ hp]
        dsimp only
        refine wpAny_bind (wpAny_holding ((nestedKind P w).eqBool room (S.key p mem) hx ?_))
        refine wpAny_bind (wpAny_setState_of g1 g3 S.fits ?_)
        dsimp only
        by_cases same : p.2 = k
        · exact wp_if_pos (by simp [same]) (wpAny_pure (yes (List.mem_map.mpr ⟨p, mem, same⟩)))
        · refine wp_if_neg (by simp [same]) ?_
          try refine wpAny_bind (wpAny_pure ?_)
          rw [same_mem]
          dsimp only
          have live : t.slot (way t.mask (k.hash w) (c + q)) = .live i := slot_live S.tab.ris hi
          simp only [if_true, live, S.at_ hp]
          refine wpAny_bind (wpAny_isSame_ref_self (wpAny_bind (wpAny_pure ?_)))
          simp only [if_true]
          refine wp_if_neg (by simp [same]) ?_
          refine ih (c + (q + 1)) _ rfl (by omega) (by omega) fun i0 p0 h0 hk0 => ?_
          obtain ⟨c', b1, b2, b3⟩ := there i0 p0 h0 hk0
          refine ⟨c', ?_, b2, b3⟩
          rcases Nat.lt_trichotomy c' (c + q) with z | z | z
          · refine (miss (c' - c) i0 (by omega) (by rw [jj, show c + (c' - c) = c' by omega]; exact b3) ?_).elim
            exact (hashAt i0 p0 h0).trans (by rw [hk0])
          · subst z
            have l2 := slot_live S.tab.ris b3
            rw [live] at l2
            injection l2 with l2
            subst l2
            rw [hp] at h0
            cases h0
            exact absurd hk0 same
          · omega
      by_cases led : t.led = true
      · refine wp_if_neg (by simp [led]) ?_
        try refine wpAny_bind (wpAny_pure ?_)
        exact rest
      · refine wp_if_pos (by simp [led]) ?_
        refine wpAny_bind (unseen_keys hx (fun y hy => ?_) ?_)
        · obtain ⟨e, he, rfl⟩ := List.mem_map.mp hy
          have h1 : e ∈ es ∧ e.1 = k.hash w := by simpa using he
          have h2 : e ∈ es.toList := by simpa using h1.1
          rw [S.ent] at h2
          obtain ⟨p2, m2, rfl⟩ := List.mem_map.mp h2
          exact ⟨p2.2, p2.1, rfl, S.key p2 m2⟩
        · refine wp_if_neg (by decide) ?_
          try refine wpAny_bind (wpAny_pure ?_)
          exact rest
    · have pr' : t.probe (fun i => (es[i]?.map (·.1)).getD 0) (k.hash w) (from_.getD (t.probeStart (k.hash w))) = some (.empty (way t.mask (k.hash w) n) none) := by
        have e2 := jj (n - c)
        rw [show c + (n - c) = n by omega] at e2
        rw [hfrom, ← e2]
        exact pr
      rw [pr']
      dsimp only
      refine wpAny_pure (no fun hm => ?_)
      obtain ⟨p0, m0, hk0⟩ := List.mem_map.mp hm
      obtain ⟨i0, h0⟩ := List.getElem?_of_mem m0
      obtain ⟨c', b1, b2, b3⟩ := there i0 p0 h0 hk0
      exact miss (c' - c) i0 (by omega) (by rw [jj, show c + (c' - c) = c' by omega]; exact b3) ((hashAt i0 p0 h0).trans (by rw [hk0]))
/-- the search as adding wants it -/
theorem SN.search0 (S : SN P w s.heap a L es ep t) {x : Addr} {k : NK} (hx : isN s.heap k x) (room : A.units + 8 < cLine) {Q : SetFound → Shared → Prop}
    (yes : k ∈ L.map (·.2) → Q (.there none) s)
    (no : ∀ n, k ∉ L.map (·.2) → way t.mask (k.hash w) n ∉ t.place.toList → (∀ c, c < n → way t.mask (k.hash w) c ∈ t.place.toList) → Q (.free (way t.mask (k.hash w) n) false) s) :
    wpAny (model P w) A (setSearch a (.ref x) (k.hash w) true) Q E s := by
  have gp := S.gap
  obtain ⟨n, nb, nf, nw⟩ := S.tab.first (by rw [List.length_map]; omega) (k.hash w)
  have small : 10 * SetTable.turns t.mask ≤ 1420 := by
    unfold SetTable.turns
    rcases S.tab.mok with e | e | e <;> omega
  unfold setSearch
  refine S.search hx room nb nf nw yes (fun z => no n z nf nw) 100000 0 none rfl (Nat.zero_le _) (by omega) fun i p hp hk => ?_
  have e1 : (L.map fun p => p.2.hash w)[i]? = some (k.hash w) := by rw [List.getElem?_map, hp, ← hk]; rfl
  have il : i < t.place.toList.length := by
    have z1 := (List.getElem?_eq_some_iff.mp hp).1
    have z2 := S.tab.sz
    rw [List.length_map] at z2
    rw [Array.length_toList]
    omega
  obtain ⟨c, hc, e⟩ := S.tab.before nf e1 (List.getElem?_eq_getElem il)
  exact ⟨c, Nat.zero_le _, hc, by rw [List.getElem?_eq_getElem il, e]⟩
/-- a key stands, the set being another object -/
theorem isN_but {h h' : Heap} {k : NK} {a b : Addr} {o : Obj} {es : Array (Int × Value)} {ep : Nat} {t : SetTable} (hb : isN h k b) (g1 : h.get? a = some o) (g3 : o.data = .set es ep t) (hs : Heap.SameBut a h h') : isN h' k b :=
  ⟨NestedIs.at (fun c oc vs m e1 e2 => by
    refine (hs.2 c fun z => ?_).trans e1
    subst z
    rw [g1] at e1
    cases e1
    rw [g3] at e2
    cases e2) k _ hb.1, hb.2⟩
theorem isN_keep {h h' : Heap} {k : NK} {b : Addr} (x : isN h k b) (hk : ∀ c o, h.get? c = some o → h'.get? c = some o) : isN h' k b :=
  ⟨NestedIs.at (fun c oc vs m e1 e2 => hk c oc e1) k _ x.1, x.2⟩
theorem range_pick {α : Type} (L : List α) : (List.range L.length).filterMap (fun i => L[i]?) = L := by
  have key : ∀ n, n ≤ L.length → (List.range n).filterMap (fun i => L[i]?) = L.take n := by
    intro n
    induction n with
    | zero => intro _; rfl
    | succ n ih =>
      intro hn
      rw [List.range_succ, List.filterMap_append, ih (by omega), List.take_succ]
      simp [List.getElem?_eq_getElem (show n < L.length from hn)]
  rw [key _ (Nat.le_refl _), List.take_length]
/-- the entries in another order -/
theorem reorder (L : List (Addr × NK)) (es : Array (Int × Value)) (order : Array Nat) (hr : es.toList = L.map fun p => (p.2.hash w, Value.ref p.1)) (hp : order.toList.Perm (List.range L.length)) :
    ∃ L2 : List (Addr × NK), (order.filterMap (es[·]?)).toList = (L2.map fun p => (p.2.hash w, Value.ref p.1)) ∧ L2.Perm L ∧ (L2.map fun p => p.2.hash w) = order.toList.map fun i => (es.map (·.1)).getD i 0 := by
  have ent : ∀ i (h : i < L.length), es[i]? = some ((L[i]).2.hash w, Value.ref (L[i]).1) := fun i h => by
    rw [← Array.getElem?_toList, hr, List.getElem?_map, List.getElem?_eq_getElem h]
    rfl
  have key : ∀ l : List Nat, (∀ i ∈ l, i < L.length) → l.filterMap (fun i => es[i]?) = ((l.filterMap fun i => L[i]?).map fun p => (p.2.hash w, Value.ref p.1)) ∧ ((l.filterMap fun i => L[i]?).map fun p => p.2.hash w) = l.map fun i => (es.map (·.1)).getD i 0 := by
    intro l
    induction l with
    | nil => intro _; exact ⟨rfl, rfl⟩
    | cons i l ih =>
      intro hl
      have hi := hl i List.mem_cons_self
      obtain ⟨e1, e2⟩ := ih fun j hj => hl j (List.mem_cons_of_mem _ hj)
      rw [List.filterMap_cons_some (ent i hi), List.filterMap_cons_some (List.getElem?_eq_getElem hi), e1, List.map_cons, List.map_cons, e2]
      refine ⟨rfl, ?_⟩
      rw [List.map_cons]
      congr 1
      have e5 : (es.map (·.1))[i]? = some ((L[i]).2.hash w) := by rw [Array.getElem?_map, ent i hi]; rfl
      simp [Array.getD_eq_getD_getElem?, e5]
  obtain ⟨e1, e2⟩ := key order.toList fun i hi => List.mem_range.mp (hp.mem_iff.mp hi)
  refine ⟨order.toList.filterMap fun i => L[i]?, by simpa using e1, ?_, e2⟩
  have z := hp.filterMap fun i => L[i]?
  rw [range_pick] at z
  exact z
/-- the table is laid anew -/
theorem SN.relay {o : Obj} (g1 : s.heap.get? a = some o) (g2 : o.ExactSet) (g3 : o.data = .set es ep t) (ent : es.toList = L.map fun p => (p.2.hash w, Value.ref p.1)) (sz : t.place.size = es.size) (dm : t.dummies = #[]) (fl : es.size ≤ t.mask)
    (nod : (L.map (·.2)).Nodup) (key : ∀ p ∈ L, isN s.heap p.2 p.1) (ord : w.params.followText "set-order" = true ∨ t.led = true) (few : L.length < 64) {wanted M : Nat}
    (m1 : SetTable.sizeAbove wanted - 1 = M) (m2 : MaskOk M) (m3 : SetTable.sizeAbove wanted ≤ 128) (m4 : L.length * 5 < M * 3) {Q : Unit → Shared → Prop}
    (fin : ∀ h' L' es' ep' t', Heap.SameBut a s.heap h' → SN P w h' a L' es' ep' t' → L'.Perm L → Q () { s with heap := h' }) : wpAny (model P w) A (setRelay a wanted) Q E s := by
  have len := ent_size ent
  have fits : t.fits es.size = true := by
    simp only [SetTable.fits, SetTable.fill, dm, Bool.and_eq_true, beq_iff_eq, decide_eq_true_eq]
    refine ⟨by omega, ?_⟩
    show t.place.size + 0 ≤ t.mask
    omega
  obtain ⟨t', order, e, hp, T, em, el, ep', ed⟩ := relaid_ok t (hs := es.map (·.1)) (wanted := wanted) m1 m2 (by rw [Array.size_map, len]; omega)
  rw [Array.size_map, len] at hp
  obtain ⟨L2, r1, r2, r3⟩ := reorder L es order ent hp
  rw [← r3] at T
  have sz2 : (order.filterMap (es[·]?)).size = es.size := by rw [ent_size r1, r2.length_eq, len]
  rw [setRelay_eq]
  refine wpAny_bind (wpAny_setState_of g1 g3 fits ?_)
  dsimp only
  refine wp_if_neg (by rw [sizeLine_eq]; omega) ?_
  try refine wpAny_bind (wpAny_pure ?_)
  rw [e]
  dsimp only
  refine wpAny_bind (wp_if_neg (by rw [sz2]; simp) ?_)
  try refine wpAny_bind (wpAny_pure ?_)
  refine wpAny_pure ?_
  dsimp only
  refine wpAny_storeSet_of g1 g3 ?_ (by rw [sz2, len, sizeLine_eq]; omega)
  have sb : Heap.SameBut a s.heap (s.heap.update a (Obj.putSet (order.filterMap (es[·]?)) t')) := Heap.SameBut.update ..
  refine fin _ L2 (order.filterMap (es[·]?)) (ep + 1) t' sb ⟨⟨_, store_at g1 g3, ⟨g2.1, g2.2.1, g2.2.2⟩, rfl⟩, r1, T, (r2.map (·.2)).nodup_iff.mpr nod, fun p hpm => isN_but (key p (r2.mem_iff.mp hpm)) g1 g3 sb, by rw [el]; exact ord, ?_, by rw [r2.length_eq]; exact few⟩ r2
  rw [r2.length_eq, em]
  exact m4
/-- a key is added -/
theorem SN.add (S : SN P w s.heap a L es ep t) {x : Addr} {k : NK} (hx : isN s.heap k x) (room : A.units + 8 < cLine) (few : L.length + 1 < 64) {Q : Bool → Shared → Prop}
    (fin : ∀ b h' L' es' ep' t', Heap.SameBut a s.heap h' → SN P w h' a L' es' ep' t' → (k ∈ L.map (·.2) → L' = L) → (k ∉ L.map (·.2) → L'.Perm ((x, k) :: L)) → Q b { s with heap := h' }) :
    wpAny (model P w) A (setAddHashed a (.ref x) (k.hash w)) Q E s := by
  obtain ⟨o, g1, g2, g3⟩ := S.obj
  have len := S.size
  have gp := S.gap
  unfold setAddHashed
  refine wpAny_holding ?_
  rw [show (100000 : Nat) = 99999 + 1 from rfl, setAddHashedIn_succ]
  refine wpAny_bind (wpAny_setState_of g1 g3 S.fits ?_)
  dsimp only
  refine wp_if_neg (by simp [byScan, Value.scannable]) ?_
  try refine wpAny_bind (wpAny_pure ?_)
  refine wpAny_bind (S.search0 hx room (fun hm => ?_) fun n hm nf nw => ?_)
  · exact wpAny_pure (fin false s.heap L es ep t (Heap.SameBut.refl a s.heap) S (fun _ => rfl) fun z => absurd hm z)
  · dsimp only
    refine wpAny_bind (wpAny_setState_of g1 g3 S.fits ?_)
    dsimp only
    obtain ⟨q1, q2, q3, q4, q5, q6, q7, q8, q9⟩ := S.tab.put nf nw
    generalize hpt : t.put (way t.mask (k.hash w) n) = pt at q1 q3 q4 q5 q6 q7 q8 q9 ⊢
    obtain ⟨t1, p⟩ := pt
    dsimp only at q1 q3 q4 q5 q6 q7 q8 q9 ⊢
    subst q1
    generalize hpp : SetTable.below t.place (way t.mask (k.hash w) n) = p at q2 q3 ⊢
    have pm : (L.take p ++ (x, k) :: L.drop p).Perm ((x, k) :: L) := by
      have z : (L.take p ++ (x, k) :: L.drop p).Perm ((x, k) :: (L.take p ++ L.drop p)) := List.perm_middle
      rwa [List.take_append_drop] at z
    have hin : (SetTable.insertAt es p (k.hash w, Value.ref x)).toList = (L.take p ++ (x, k) :: L.drop p).map fun p => (p.2.hash w, Value.ref p.1) := by
      rw [SetTable.toList_insertAt, S.ent, List.map_append, List.map_cons, List.map_take, List.map_drop]
    have hh : ((L.take p ++ (x, k) :: L.drop p).map fun p => p.2.hash w) = (L.map fun p => p.2.hash w).take p ++ k.hash w :: (L.map fun p => p.2.hash w).drop p := by
      rw [List.map_append, List.map_cons, List.map_take, List.map_drop]
    rw [← hh] at q3
    have hlen : (L.take p ++ (x, k) :: L.drop p).length = L.length + 1 := pm.length_eq
    have nod1 : ((L.take p ++ (x, k) :: L.drop p).map (·.2)).Nodup := by
      refine (pm.map (·.2)).nodup_iff.mpr ?_
      rw [List.map_cons]
      exact List.nodup_cons.mpr ⟨hm, S.nod⟩
    have hes := ent_size hin
    rw [hlen] at hes
    generalize SetTable.insertAt es p (k.hash w, Value.ref x) = es1 at hin hes ⊢
    generalize L.take p ++ (x, k) :: L.drop p = L1 at pm hlen q3 nod1 hin
    -- whatever is told of the hash
    have go : ∀ t2 : SetTable, TabOk t2 (L1.map fun p => p.2.hash w) → t2.mask = t1.mask → t2.led = t1.led → t2.tooFull = t1.tooFull → t2.place = t1.place → t2.dummies = t1.dummies →
        wpAny (model P w) A (do
          storeSet a es1 t2
          if !false && t2.tooFull then setRelay a (SetTable.grown (es.size + 1))
          return true) Q E s := by
      intro t2 T2 em el ef epl ed
      refine wpAny_bind (wpAny_storeSet_of g1 g3 ?_ (by rw [hes, sizeLine_eq]; omega))
      have sb : Heap.SameBut a s.heap (s.heap.update a (Obj.putSet es1 t2)) := Heap.SameBut.update ..
      have ho1 := store_at (es' := es1) (t' := t2) g1 g3
      generalize s.heap.update a (Obj.putSet es1 t2) = h1 at sb ho1 ⊢
      have key1 : ∀ p ∈ L1, isN h1 p.2 p.1 := fun p hp => by
        rcases List.mem_cons.mp (pm.mem_iff.mp hp) with e | hp
        · rw [e]; exact isN_but hx g1 g3 sb
        · exact isN_but (S.key p hp) g1 g3 sb
      have ord1 : w.params.followText "set-order" = true ∨ t2.led = true := by rw [el, q5]; exact S.ord
      by_cases hf : t2.tooFull = true
      · first
          | (refine wpAny_bind ?_; refine wp_if_pos (by simp [hf]) ?_)
          | (refine wp_if_pos (by simp [hf]) ?_; refine wpAny_bind ?_)
        have full : (L.length + 1) * 5 ≥ t1.mask * 3 := by
          have z := hf
          rw [ef] at z
          unfold SetTable.tooFull at z
          rw [decide_eq_true_eq, q9, List.length_map] at z
          exact z
        rw [len]
        have sz1 : t2.place.size = es1.size := by
          have z := T2.sz
          rw [List.length_map, hlen] at z
          rw [z, hes]
        have two : (t.mask = 7 ∧ L.length = 4) ∨ (t.mask = 31 ∧ L.length = 18) := by
          rcases S.tab.mok with e | e | e
          · left; rw [q4, e] at full; rw [e] at gp; exact ⟨e, by omega⟩
          · right; rw [q4, e] at full; rw [e] at gp; exact ⟨e, by omega⟩
          · exfalso; rw [q4, e] at full; omega
        have lay : ∀ M, SetTable.sizeAbove (SetTable.grown (L.length + 1)) - 1 = M → MaskOk M → SetTable.sizeAbove (SetTable.grown (L.length + 1)) ≤ 128 → (L.length + 1) * 5 < M * 3 →
            wpAny (model P w) A (setRelay a (SetTable.grown (L.length + 1))) (fun _ s' => wpAny (model P w) A (pure true) Q E s') E { s with heap := h1 } := fun M l1 l2 l3 l4 => by
          refine SN.relay (s := { s with heap := h1 }) ho1 ⟨g2.1, g2.2.1, g2.2.2⟩ rfl hin sz1 T2.dm (by rw [hes, em, q4]; rcases two with ⟨e, e2⟩ | ⟨e, e2⟩ <;> omega) nod1 key1 ord1 (by rw [hlen]; exact few) l1 l2 l3 (by rw [hlen]; exact l4) ?_
          intro h2 L2 es2 ep2 t3 sb2 S2 pm2
          exact wpAny_pure (fin true h2 L2 es2 ep2 t3 (sb.trans sb2) S2 (fun z => absurd z hm) fun _ => pm2.trans pm)
        rcases two with ⟨_, e2⟩ | ⟨_, e2⟩
        · exact lay 31 (by rw [e2, size_20]) (.inr (.inl rfl)) (by rw [e2, size_20]; decide) (by omega)
        · exact lay 127 (by rw [e2, size_76]) (.inr (.inr rfl)) (by rw [e2, size_76]; decide) (by omega)
      · first
          | refine wp_if_neg (by simp [hf]) ?_
          | (refine wpAny_bind ?_; refine wp_if_neg (by simp [hf]) ?_; refine wpAny_pure ?_)
        refine wpAny_pure (fin true h1 L1 es1 (ep + 1) t2 sb ⟨⟨_, ho1, ⟨g2.1, g2.2.1, g2.2.2⟩, rfl⟩, hin, T2, nod1, key1, ord1, ?_, by rw [hlen]; exact few⟩ (fun z => absurd z hm) fun _ => pm)
        have z := hf
        rw [ef] at z
        unfold SetTable.tooFull at z
        rw [decide_eq_true_eq, q9, List.length_map] at z
        rw [hlen, em]
        omega
    by_cases pl : t1.plain = true
    · first
        | (refine wpAny_bind ?_; refine wp_if_pos pl ?_; refine hashAny_key k _ 8 s hx.1 hx.2 _ _ _ fun b => ?_)
        | refine wp_if_pos pl (wpAny_bind (hashAny_key k _ 8 s hx.1 hx.2 _ _ _ fun b => ?_))
      cases b with
      | true =>
        simp only [if_true]
        exact go t1 q3 rfl rfl rfl rfl rfl
      | false =>
        simp only [Bool.false_eq_true, if_false]
        exact go { t1 with plain := false } ⟨q3.ris, q3.dm, q3.sz, q3.mok, q3.bd, q3.reach⟩ rfl rfl rfl rfl rfl
    · first
        | (refine wpAny_bind ?_; refine wp_if_neg pl ?_; refine wpAny_pure ?_)
        | refine wp_if_neg pl (wpAny_bind (wpAny_pure ?_))
      simp only [if_true]
      exact go t1 q3 rfl rfl rfl rfl rfl
end
end PB

set_option Elab.async false
set_option linter.all false
set_option maxRecDepth 100000
set_option maxHeartbeats 4000000
/-! set(xs). -/
namespace PB
open PySem PySem.Spec PyProof.Rows L2
/-- what the set has of the first i keys -/
structure GotN (ks : List (Addr × NK)) (i : Nat) (L : List (Addr × NK)) : Prop where
  sub : ∀ p ∈ L, p ∈ ks.take i
  all : ∀ p ∈ ks.take i, p.2 ∈ L.map (·.2)
  len : L.length ≤ i
theorem GotN.zero (ks : List (Addr × NK)) : GotN ks 0 [] := ⟨fun p h => (by cases h), fun p h => (by simp at h), Nat.le_refl _⟩
theorem GotN.next {ks L L' : List (Addr × NK)} {i : Nat} {x : Addr × NK} (g : GotN ks i L) (h : ks[i]? = some x) (c1 : x.2 ∈ L.map (·.2) → L' = L) (c2 : x.2 ∉ L.map (·.2) → L'.Perm (x :: L)) : GotN ks (i + 1) L' := by
  have tk : ks.take (i + 1) = ks.take i ++ [x] := by rw [List.take_succ, h]; rfl
  by_cases c : x.2 ∈ L.map (·.2)
  · rw [c1 c]
    refine ⟨fun p hp => ?_, fun p hp => ?_, by have := g.len; omega⟩
    · rw [tk]
      exact List.mem_append_left _ (g.sub p hp)
    · rw [tk] at hp
      rcases List.mem_append.mp hp with z | z
      · exact g.all p z
      · rw [List.mem_singleton.mp z]
        exact c
  · have pm := c2 c
    refine ⟨fun p hp => ?_, fun p hp => ?_, by rw [pm.length_eq, List.length_cons]; have := g.len; omega⟩
    · rw [tk]
      rcases List.mem_cons.mp (pm.mem_iff.mp hp) with e | z
      · rw [e]
        exact List.mem_append_right _ (List.mem_singleton.mpr rfl)
      · exact List.mem_append_left _ (g.sub p z)
    · rw [(pm.map (·.2)).mem_iff, List.map_cons]
      rw [tk] at hp
      rcases List.mem_append.mp hp with z | z
      · exact List.mem_cons_of_mem _ (g.all p z)
      · rw [List.mem_singleton.mp z]
        exact List.mem_cons_self
section
variable {P : Program} {w : World} {A : Around} {E : Value → Shared → Prop} {s : Shared}
theorem SN.keep {h h' : Heap} {a : Addr} {L : List (Addr × NK)} {es : Array (Int × Value)} {ep : Nat} {t : SetTable} (S : SN P w h a L es ep t) (ha : ∀ o, h.get? a = some o → h'.get? a = some o) (ht : ∀ p ∈ L, isN h' p.2 p.1) : SN P w h' a L es ep t := by
  obtain ⟨o, g1, g2⟩ := S.obj
  exact ⟨⟨o, ha o g1, g2⟩, S.ent, S.tab, S.nod, ht, S.ord, S.gap, S.few⟩
def freshS (w : World) : Obj := { cls := .type "set", dict := none, data := .set #[] 0 (.fresh 0 0 (!w.params.followText "set-order")) }
theorem SN.fresh {h : Heap} {a : Addr} (g1 : h.get? a = some (freshS w)) : SN P w h a [] #[] 0 (.fresh 0 0 (!w.params.followText "set-order")) where
  obj := ⟨_, g1, ⟨rfl, rfl, rfl⟩, rfl⟩
  ent := rfl
  tab := ⟨List.Pairwise.nil, rfl, rfl, .inl rfl, fun x hx => (by cases hx), fun i h j hi => (by simp at hi)⟩
  nod := List.nodup_nil
  key := fun p hp => (by cases hp)
  ord := by
    show _ ∨ (!w.params.followText "set-order") = true
    cases w.params.followText "set-order"
    · exact .inr rfl
    · exact .inl rfl
  gap := (by decide : 0 * 5 < 7 * 3)
  few := (by decide : 0 < 64)
/-- the loop of set.update -/
theorem loop_setN {I : Addr} {fp wr : List Addr} {G : Array GenState → Array GenState → Prop} {n : Nat} {Pv : Nat → Value → Prop} {St : Nat → Shared → Prop} {R : Result → Shared → Prop}
    (W : WalksS P w A.in1 I fp wr G n Pv St) (S : Addr) (off : S ∉ fp) (ks : List (Addr × NK)) (hn : n = ks.length) (few : ks.length < 64) (val : ∀ i v, Pv i v → ∃ p, ks[i]? = some p ∧ v = .ref p.1)
    (h0 : Heap) (hk : ∀ p ∈ ks, isN h0 p.2 p.1) (z0 : h0.get? S = none) (zw : ∀ b ∈ wr, h0.get? b = none) (room : A.in1.units + 8 < cLine) :
    ∀ (k i : Nat) (s : Shared), n - i = k → i ≤ n → St i s → (∀ b o, h0.get? b = some o → s.heap.get? b = some o) → (∃ L es ep t, SN P w s.heap S L es ep t ∧ GotN ks i L) →
      (∀ s' L es ep t, Moved (S :: wr) G s s' → SN P w s'.heap S L es ep t → GotN ks n L → (∀ b o, h0.get? b = some o → s'.heap.get? b = some o) → R (.ok (.ret .none)) s') →
      codeAny (model P w) A (.builtin "set.update.loop" ⟨[.ref S, .ref I], []⟩) R s := by
  have offw : S ∉ wr := fun h => off (W.sub _ h)
  have more : ∀ b ∈ wr, b ∈ S :: wr := fun b hb => List.mem_cons_of_mem _ hb
  have keepM : ∀ {s s' : Shared}, Moved wr G s s' → (∀ b o, h0.get? b = some o → s.heap.get? b = some o) → ∀ b o, h0.get? b = some o → s'.heap.get? b = some o := fun hm hkp b o e =>
    hm.heap b o (fun hb => by rw [zw b hb] at e; cases e) (hkp b o e)
  intro k
  induction k with
  | zero =>
    intro i s hk' hi hst hkp ⟨L, es, ep, t, hS, g⟩ fin
    obtain rfl : i = n := by omega
    refine codeAny_builtin F.entry_set_update_loop ?_
    rw [Around.under_plainId F.plain_set_update_loop _]
    show wpAny _ A.in1 (pyNext (.ref I) >>= _) _ _ s
    refine wpAny_bind (W.done s _ _ hst fun s' hm => ?_)
    show wpAny _ A.in1 (ret Value.none) _ _ s'
    have hkp' := keepM hm hkp
    exact wpAny_pure (fin s' L es ep t (hm.mono more) (hS.keep (fun o e => hm.heap S o offw e) fun p hp => isN_keep (hk p (List.mem_of_mem_take (g.sub p hp))) hkp') g hkp')
  | succ k ih =>
    intro i s hk' hi hst hkp ⟨L, es, ep, t, hS, g⟩ fin
    have lt : i < n := by omega
    refine codeAny_builtin F.entry_set_update_loop ?_
    rw [Around.under_plainId F.plain_set_update_loop _]
    show wpAny _ A.in1 (pyNext (.ref I) >>= _) _ _ s
    refine wpAny_bind (W.item i s _ _ lt hst fun v s' hP hst' hm => ?_)
    obtain ⟨p, hp, rfl⟩ := val i v hP
    have hkp' := keepM hm hkp
    have hS' : SN P w s'.heap S L es ep t := hS.keep (fun o e => hm.heap S o offw e) fun q hq => isN_keep (hk q (List.mem_of_mem_take (g.sub q hq))) hkp'
    have hx : isN s'.heap p.2 p.1 := isN_keep (hk p (List.mem_of_getElem? hp)) hkp'
    show wpAny _ A.in1 (holding [Value.ref p.1] (setAdd S (.ref p.1)) >>= _) _ _ s'
    refine wpAny_bind (wpAny_holding ?_)
    unfold setAdd
    refine wpAny_holding (wpAny_bind ((nestedKind P w).pyHash room hx ?_))
    refine SN.add (s := { s' with toks := s'.toks + p.2.draws }) hS' hx room (by have := g.len; omega) fun b h' L' es' ep' t' hsb hS2 c1 c2 => ?_
    have hkp2 : ∀ b o, h0.get? b = some o → h'.get? b = some o := fun b o e => (hsb.2 b (fun z => by rw [z, z0] at e; cases e)).trans (hkp' b o e)
    refine wpAny_pure ⟨plainId_quiet F.plain_set_update_loop _, ih (i + 1) _ (by omega) lt (W.frame _ s' _ _ hst' (Nat.le_add_right _ _) fun b hb o e => ?_) hkp2 ⟨L', es', ep', t', hS2, g.next hp c1 c2⟩ fun s'' L2 es2 ep2 t2 hm'' hS'' g'' hkp'' => ?_⟩
    · rw [hsb.2 b (fun h : b = S => off (h ▸ hb))]
      exact e
    · refine fin s'' L2 es2 ep2 t2 (Moved.trans W.gtrans ((hm.mono more).then_heap (Nat.le_add_right _ _) fun b o hb e => ?_) hm'') hS'' g'' hkp''
      rw [hsb.2 b (fun h : b = S => hb (h ▸ List.mem_cons_self))]
      exact e
end
end PB

set_option Elab.async false
set_option linter.all false
set_option maxRecDepth 100000
set_option maxHeartbeats 4000000
/-! set(xs). -/
namespace PB
open PySem PySem.Spec PyProof.Rows L2
section
variable {P : Program} {w : World} {A : Around} {E : Value → Shared → Prop} {s : Shared}

set_option maxHeartbeats 6000000 in
/-- set(xs) of a tuple -/
theorem call_setN_tuple {l : Addr} {us : Array Value} (ks : List (Addr × NK)) {Q : Value → Shared → Prop} (calm : A.handled = none) (hl : s.heap.IsTuple l us) (hus : us.toList = ks.map fun p => Value.ref p.1)
    (hk : ∀ p ∈ ks, isN s.heap p.2 p.1) (few : ks.length < 64) (room : A.units + 20 < cLine)
    (fin : ∀ (h' : Heap) (tk : Nat) L es ep t, SN P w h' s.heap.objs.size L es ep t → GotN ks ks.length L → (∀ b o, s.heap.get? b = some o → h'.get? b = some o) → Q (.ref s.heap.objs.size) { s with heap := h', toks := tk }) :
    wpAny (model P w) A (call (.type "set") [.ref l]) Q E s := by
  have size : us.size = ks.length := by rw [← Array.length_toList, hus, List.length_map]
  obtain ⟨c, tl, hmro⟩ := F.called_set.mro
  have hmade := F.called_set.made
  have hsub := F.called_set.sub
  refine wpAny_call (codeAny_of_tree ?_)
  show wpAny _ _ (callAny (.type "set") _) _ _ _
  refine wpAny_pure ⟨Code.quiet_builtin _ (by decide +kernel), codeAny_builtin F.entry_type_call ?_⟩
  rw [Around.under_plain (weight_type_call_type "set" [.ref l] []) rfl]
  have f1 := F.called_set.notType
  have f2 := F.called_set.canCreate
  have f3 := F.typeCall_set_1 (.ref l)
  repeat (any_goals (first | assumption | wp_step))
  refine codeAny_mono (code_set_led1 (.ref l) (E := E) (Q₁ := fun obj z => obj = .ref s.heap.objs.size ∧ z = { s with heap := s.heap.push (freshS w) }) ⟨rfl, rfl⟩) fun r z hr => ?_
  cases r with
  | error e => exact hr
  | ok fl =>
    cases fl with
    | ret obj =>
      obtain ⟨rfl, rfl⟩ := hr
      have gS : (s.heap.push (freshS w)).get? s.heap.objs.size = some (freshS w) := Heap.get?_push_size _ rfl
      have tS : Shared.TypeIs { s with heap := s.heap.push (freshS w) } (.ref s.heap.objs.size) "set" := ⟨_, gS, rfl⟩
      have f4 := F.called_set.init.lookup
      have f5 := F.called_set.init.bind (.ref s.heap.objs.size)
      repeat (any_goals (first | assumption | wp_step))
      refine codeAny_mono (codeAny_call_builtin (R := wants (fun r z => r = .none ∧ ∃ h' tk L es ep t, z = { s with heap := h', toks := tk } ∧ SN P w h' s.heap.objs.size L es ep t ∧ GotN ks ks.length L ∧
          (∀ b o, s.heap.get? b = some o → h'.get? b = some o)) E) F.called_set.init.plain F.entry_set_init (check_set_init_1 tS ?_)) fun r z hr => ?_
      · obtain ⟨ol, e1, e2, nl, e3⟩ := hl
        obtain ⟨ocls, odict, odata, oslots⟩ := ol
        simp only at e2 e3
        subst e2; subst e3
        have e1' : (s.heap.push (freshS w)).get? l = some { cls := .type "tuple", dict := odict, data := .seq us nl, slots := oslots } := Heap.get?_push_of_some _ e1
        have f6 := F.sub_tuple_set
        have f7 := F.sub_tuple_frozenset
        have f8 : (Value.type "tuple" == Value.type "dict") = false := by decide
        have hl1 : (s.heap.push (freshS w)).IsTuple l us := ⟨_, e1', rfl, nl, rfl⟩
        unfold Builtin.«set.__init__» noKeywords Builtin.Frozenset.updateFrom
        generalize hPI : pyIter = PI
        wp_walk
        subst hPI
        refine wpAny_pyIter_tuple hl1 (wpAny_bind (wpAny_runValue ?_))
        have lS : l < s.heap.objs.size := Heap.lt_size e1
        have calm3 : A.in1.in1.in1.handled = none := by simp [calm]
        have neI : l ≠ (s.heap.push (freshS w)).objs.size := by
          rw [Heap.size_push]
          exact Nat.ne_of_lt (Nat.lt_succ_of_lt lS)
        have off : s.heap.objs.size ∉ [(s.heap.push (freshS w)).objs.size, l] := by
          rw [Heap.size_push]
          intro hm
          rcases List.mem_cons.mp hm with e | hm
          · exact absurd e (Nat.ne_of_lt (Nat.lt_succ_self _))
          · exact absurd (List.mem_singleton.mp hm).symm (Nat.ne_of_lt lS)
        have val : ∀ (i : Nat) (v : Value), us[i]? = some v → ∃ p, ks[i]? = some p ∧ v = .ref p.1 := fun i v hv => by
          have q : us.toList[i]? = some v := by rw [Array.getElem?_toList]; exact hv
          rw [hus, List.getElem?_map] at q
          cases hq : ks[i]? with
          | none => rw [hq] at q; cases q
          | some p =>
            rw [hq] at q
            exact ⟨p, rfl, (Option.some.inj q).symm⟩
        have none_of : ∀ b, s.heap.objs.size ≤ b → s.heap.get? b = none := fun b hb => by
          cases q : s.heap.get? b with
          | none => rfl
          | some o => exact absurd (Heap.lt_size q) (Nat.not_lt.mpr hb)
        refine loop_setN ((Walks.tuple calm3 _ l neI us).toS) s.heap.objs.size
          off ks size few val s.heap hk (none_of _ (Nat.le_refl _)) (fun b hb => none_of b (by
            rw [List.mem_singleton.mp hb, Heap.size_push]
            exact Nat.le_succ _)) (by show A.units + 3 + 8 < cLine; omega) (us.size - 0) 0 _ (by omega) (Nat.zero_le _)
          ⟨⟨_, Heap.get?_push_size _ rfl, rfl, rfl⟩, (hl1.push _)⟩ (fun b o e => Heap.get?_push_of_some _ (Heap.get?_push_of_some _ e)) ?start ?done
        case start => exact ⟨[], #[], 0, _, SN.fresh (Heap.get?_push_of_some _ gS), GotN.zero ks⟩
        case done =>
          intro z L es ep t hm hS g hkp
          obtain ⟨h', g2, d', tk', os'⟩ := z
          obtain rfl : g2 = s.gens := hm.gens
          obtain rfl : d' = s.drawn := hm.drawn
          obtain rfl : os' = s.os := hm.os
          show wpAny _ _ _ _ _ _
          refine wpAny_pure ?_
          show wpAny _ _ (ret Value.none) _ _ _
          rw [size] at g
          exact wpAny_pure ⟨rfl, h', tk', L, es, ep, t, rfl, hS, g, hkp⟩
      · cases r with
        | error e => exact hr
        | ok fl =>
          cases fl with
          | ret r =>
            obtain ⟨rfl, h', tk, L, es, ep, t, rfl, hS, g, hk'⟩ := hr
            repeat (any_goals (first | assumption | wp_step))
            exact fin _ _ _ _ _ _ hS g hk'
          | _ => exact hr.elim
    | _ => exact hr.elim
end
end PB

set_option Elab.async false
set_option linter.all false
set_option maxRecDepth 100000
set_option maxHeartbeats 4000000
set_option backward.match.sparseCases false
/-! What data is in the heap. -/
namespace PB
open PySem PySem.Spec PyProof.Rows L2

def toS (s : List Nat) : Str := ⟨s.toArray⟩
theorem toS_len (s : List Nat) : (toS s).length = s.length := by simp [toS, Str.length]
theorem toS_cps (s : List Nat) : (toS s).cps.toList = s := by simp [toS]
theorem toS_inj {a b : List Nat} (h : toS a = toS b) : a = b := by
  have := congrArg (fun z : Str => z.cps.toList) h
  simpa [toS] using this

/-- the written part holds a tuple at a -/
def KTup (K : PySem.W.Frag) (a : Addr) (vs : List V) : Prop :=
  ∃ (o : Obj) (its : Array Value) (n : Nat), K.lookup a = some o ∧ o.cls = .type "tuple" ∧ o.data = .seq its n ∧ its.size ≤ sizeLine ∧ Vals vs its.toList

/-- a text within bounds -/
def okS (s : List Nat) : Prop := s.length ≤ lim ∧ ∀ c ∈ s, c < 1114112

/-- .. a list -/
def KLst (K : PySem.W.Frag) (a : Addr) (vs : List V) : Prop :=
  ∃ (o : Obj) (its : Array Value) (n : Nat), K.lookup a = some o ∧ o.cls = .type "list" ∧ o.dict = none ∧ o.data = .seq its n ∧ its.size ≤ sizeLine ∧ Vals vs its.toList

mutual
/-- v shows the data x; it stands at none of the addresses av -/
inductive Rep (K : PySem.W.Frag) (av : List Addr) (H : Hp) : Dt → V → Prop
  | non : Rep K av H .non .non
  | bl (b : Bool) : Rep K av H (.bl b) (.bl b)
  | int (i : Int) : Rep K av H (.int i) (.int i)
  | str (s : List Nat) (h : okS s) : Rep K av H (.str s) (.str (toS s))
  | tup {a : Addr} {vs : List V} {xs : List Dt} (h : a ∉ av) (r : Rd H a (.tup vs)) (e : RepL K av H xs vs) : Rep K av H (.tup xs) (.ref a)
  | tupK {a : Addr} {vs : List V} {xs : List Dt} (r : KTup K a vs) (e : RepL K av H xs vs) : Rep K av H (.tup xs) (.ref a)
  | lst {a : Addr} {vs : List V} {xs : List Dt} (h : a ∉ av) (r : Rd H a (.lst vs)) (e : RepL K av H xs vs) : Rep K av H (.lst xs) (.ref a)
  | scr {a : Addr} {ns : List Int} (r : (a ∉ av ∧ Rd H a (.lst (ns.map V.int))) ∨ KLst K a (ns.map V.int)) : Rep K av H (.scr ns) (.ref a)
inductive RepL (K : PySem.W.Frag) (av : List Addr) (H : Hp) : List Dt → List V → Prop
  | nil : RepL K av H [] []
  | cons {x : Dt} {v : V} {xs : List Dt} {vs : List V} (h : Rep K av H x v) (r : RepL K av H xs vs) : RepL K av H (x :: xs) (v :: vs)
end

section
variable {K : PySem.W.Frag} {av av' : List Addr} {H H' : Hp}
/-- all objects off av stand, and off av' -/
def Keeps (av : List Addr) (H : Hp) (av' : List Addr) (H' : Hp) : Prop := ∀ a o, a ∉ av → H a = some o → H' a = some o ∧ a ∉ av'
theorem Keeps.refl : Keeps av H av H := fun _ _ h e => ⟨e, h⟩
theorem Keeps.trans {av2 : List Addr} {H2 : Hp} (p : Keeps av H av' H') (q : Keeps av' H' av2 H2) : Keeps av H av2 H2 := fun a o h e => by
  obtain ⟨e1, h1⟩ := p a o h e
  exact q a o h1 e1
theorem Keeps.rd {a : Addr} {u : HO} (k : Keeps av H av' H') (h : a ∉ av) (r : Rd H a u) : Rd H' a u ∧ a ∉ av' := by
  rcases r with r | ⟨o, r⟩
  · exact ⟨.inl (k _ _ h r).1, (k _ _ h r).2⟩
  · exact ⟨.inr ⟨o, (k _ _ h r).1⟩, (k _ _ h r).2⟩

mutual
theorem Rep.keep (k : Keeps av H av' H') : ∀ {x : Dt} {v : V}, Rep K av H x v → Rep K av' H' x v
  | _, _, .non => .non
  | _, _, .bl b => .bl b
  | _, _, .int i => .int i
  | _, _, .str s h => .str s h
  | _, _, .tup h r e => .tup (k.rd h r).2 (k.rd h r).1 (RepL.keep k e)
  | _, _, .tupK r e => .tupK r (RepL.keep k e)
  | _, _, .lst h r e => .lst (k.rd h r).2 (k.rd h r).1 (RepL.keep k e)
  | _, _, .scr r => .scr (r.imp (fun z => ⟨(k.rd z.1 z.2).2, (k.rd z.1 z.2).1⟩) id)
theorem RepL.keep (k : Keeps av H av' H') : ∀ {xs : List Dt} {vs : List V}, RepL K av H xs vs → RepL K av' H' xs vs
  | _, _, .nil => .nil
  | _, _, .cons h r => .cons (Rep.keep k h) (RepL.keep k r)
end
/-- fewer addresses to stay off -/
theorem Keeps.fewer (h : ∀ a ∈ av', a ∈ av) : Keeps av H av' H := fun a o n e => ⟨e, fun z => n (h a z)⟩

theorem RepL.length : ∀ {xs : List Dt} {vs : List V}, RepL K av H xs vs → xs.length = vs.length
  | _, _, .nil => rfl
  | _, _, .cons _ r => by rw [List.length_cons, List.length_cons, RepL.length r]
theorem RepL.get : ∀ {xs : List Dt} {vs : List V} {i : Nat} {x : Dt}, RepL K av H xs vs → xs[i]? = some x → ∃ v, vs[i]? = some v ∧ Rep K av H x v
  | _, _, i, x, .nil, e => by simp at e
  | _, _, 0, x, .cons h r, e => by
    simp at e; subst e
    exact ⟨_, rfl, h⟩
  | _, _, i + 1, x, .cons h r, e => by
    obtain ⟨v, e1, q⟩ := RepL.get (i := i) r (by simpa using e)
    exact ⟨v, by simpa using e1, q⟩
theorem RepL.get' : ∀ {xs : List Dt} {vs : List V} {i : Nat} {v : V}, RepL K av H xs vs → vs[i]? = some v → ∃ x, xs[i]? = some x ∧ Rep K av H x v
  | _, _, i, x, .nil, e => by simp at e
  | _, _, 0, x, .cons h r, e => by
    simp at e; subst e
    exact ⟨_, rfl, h⟩
  | _, _, i + 1, x, .cons h r, e => by
    obtain ⟨v, e1, q⟩ := RepL.get' (i := i) r (by simpa using e)
    exact ⟨v, by simpa using e1, q⟩
theorem RepL.append : ∀ {xs ys : List Dt} {vs us : List V}, RepL K av H xs vs → RepL K av H ys us → RepL K av H (xs ++ ys) (vs ++ us)
  | _, _, _, _, .nil, q => q
  | _, _, _, _, .cons h r, q => .cons h (RepL.append r q)
theorem RepL.take : ∀ {xs : List Dt} {vs : List V} (n : Nat), RepL K av H xs vs → RepL K av H (xs.take n) (vs.take n)
  | _, _, 0, _ => .nil
  | _, _, n + 1, .nil => .nil
  | _, _, n + 1, .cons h r => .cons h (RepL.take n r)
theorem RepL.drop : ∀ {xs : List Dt} {vs : List V} (n : Nat), RepL K av H xs vs → RepL K av H (xs.drop n) (vs.drop n)
  | _, _, 0, r => r
  | _, _, n + 1, .nil => .nil
  | _, _, n + 1, .cons h r => RepL.drop n r
theorem RepL.rep {xs : List Dt} {vs : List V} (r : RepL K av H xs vs) : ∀ n : Nat, RepL K av H (List.replicate n xs).flatten (List.replicate n vs).flatten
  | 0 => .nil
  | n + 1 => by
    rw [List.replicate_succ, List.replicate_succ, List.flatten_cons, List.flatten_cons]
    exact r.append (r.rep n)
theorem RepL.strs : ∀ {xs : List Dt} {vs : List V} {ys : List (List Nat)}, RepL K av H xs vs → allStr xs = some ys → vs = ys.map fun y => V.str (toS y)
  | _, _, ys, .nil, e => by
    simp [allStr] at e; subst e; rfl
  | _, _, ys, .cons (x := x) h r, e => by
    cases h with
    | str s hs =>
      simp only [allStr, Option.map_eq_some_iff] at e
      obtain ⟨zs, e1, rfl⟩ := e
      rw [RepL.strs r e1]; rfl
    | _ => simp [allStr] at e
theorem RepL.bls : ∀ {xs : List Dt} {vs : List V} {ys : List Bool}, RepL K av H xs vs → allBl xs = some ys → vs = ys.map V.bl
  | _, _, ys, .nil, e => by
    simp [allBl] at e; subst e; rfl
  | _, _, ys, .cons (x := x) h r, e => by
    cases h with
    | bl b =>
      simp only [allBl, Option.map_eq_some_iff] at e
      obtain ⟨zs, e1, rfl⟩ := e
      rw [RepL.bls r e1]; rfl
    | _ => simp [allBl] at e
end

/-- the tuple at a, read -/
theorem Rep.sqT {K : PySem.W.Frag} {av : List Addr} {H : Hp} {xs : List Dt} {v : V} (h : Rep K av H (.tup xs) v) : ∃ a vs, v = .ref a ∧ SqT K H a vs ∧ RepL K av H xs vs := by
  cases h with
  | tup h r e => exact ⟨_, _, rfl, .inl r, e⟩
  | tupK r e => exact ⟨_, _, rfl, .inr r, e⟩

/-- as data of the library -/
def toPy : Dt → PyData
  | .non => .none
  | .bl b => .bool b
  | .int i => .int i
  | .str s => .str (toS s)
  | .tup xs => .tuple (toPys xs)
  | .lst xs => .list (toPys xs)
  | .scr ns => .list (ns.map PyData.int)
where toPys : List Dt → List PyData
  | [] => []
  | x :: xs => toPy x :: toPys xs

theorem lim_eq : lim = sizeLine := by rw [sizeLine_eq]; rfl
theorem okS.ok {s : List Nat} (h : okS s) : PyData.strOk (toS s) = true := by
  unfold PyData.strOk toS
  simp only [List.all_toArray, List.all_eq_true, decide_eq_true_eq]
  exact h.2
section
variable {K : PySem.W.Frag} {av : List Addr} {H : Hp}
theorem dp_ints : ∀ ns : List Int, DpAll K H (ns.map V.int) (ns.map PyData.int)
  | [] => .nil
  | n :: ns => .cons (.int n) (dp_ints ns)
theorem can_ints : ∀ ns : List Int, PyData.canLayAll0 (ns.map PyData.int) = true
  | [] => rfl
  | n :: ns => by
    show (PyData.canLay0 (.int n) && PyData.canLayAll0 (ns.map PyData.int)) = true
    rw [can_ints ns]; rfl
theorem scr_sq {a : Addr} {vs : List V} (r : (a ∉ av ∧ Rd H a (.lst vs)) ∨ KLst K a vs) : SqL K H a vs := r.elim (fun z => .inl z.2) .inr
mutual
theorem Rep.dp : ∀ {x : Dt} {v : V}, Rep K av H x v → Dp K H v (toPy x) ∧ (toPy x).canLay0 = true
  | _, _, .non => ⟨.non, rfl⟩
  | _, _, .bl b => ⟨.bl b, rfl⟩
  | _, _, .int i => ⟨.int i, rfl⟩
  | _, _, .str s h => ⟨.str _, by simp only [toPy, PyData.canLay0]; exact h.ok⟩
  | _, _, .tup h r e => ⟨by rw [toPy]; exact .tup (.inl r) (RepL.dp e).1, by simp only [toPy, PyData.canLay0]; exact (RepL.dp e).2⟩
  | _, _, .tupK r e => ⟨by rw [toPy]; exact .tup (.inr r) (RepL.dp e).1, by simp only [toPy, PyData.canLay0]; exact (RepL.dp e).2⟩
  | _, _, .lst h r e => ⟨by rw [toPy]; exact .lst (.inl r) (RepL.dp e).1, by simp only [toPy, PyData.canLay0]; exact (RepL.dp e).2⟩
  | _, _, .scr (ns := ns) r => ⟨by rw [toPy]; exact .lst (scr_sq r) (dp_ints ns), by simp only [toPy, PyData.canLay0]; exact can_ints ns⟩
theorem RepL.dp : ∀ {xs : List Dt} {vs : List V}, RepL K av H xs vs → DpAll K H vs (toPy.toPys xs) ∧ PyData.canLayAll0 (toPy.toPys xs) = true
  | _, _, .nil => ⟨.nil, rfl⟩
  | _, _, .cons h r => ⟨by rw [toPy.toPys]; exact .cons (Rep.dp h).1 (RepL.dp r).1, by simp only [toPy.toPys, PyData.canLayAll0, (Rep.dp h).2, (RepL.dp r).2, Bool.and_self]⟩
end
end
theorem dep_ints : ∀ ns : List Int, PyData.depthAll (ns.map PyData.int) = 0
  | [] => rfl
  | n :: ns => by
    show max (PyData.depth (.int n)) (PyData.depthAll (ns.map PyData.int)) = 0
    rw [dep_ints ns]; rfl
mutual
theorem dep_toPy : ∀ x : Dt, (toPy x).depth = depD x
  | .non => rfl
  | .bl _ => rfl
  | .int _ => rfl
  | .str _ => rfl
  | .tup xs => by simp only [toPy, PyData.depth, depD, deps_toPy xs]
  | .lst xs => by simp only [toPy, PyData.depth, depD, deps_toPy xs]
  | .scr ns => by simp only [toPy, PyData.depth, depD, dep_ints ns]
theorem deps_toPy : ∀ xs : List Dt, PyData.depthAll (toPy.toPys xs) = depDs xs
  | [] => rfl
  | x :: xs => by simp only [toPy.toPys, PyData.depthAll, depDs, dep_toPy x, deps_toPy xs]
end
theorem toS_beq (a b : List Nat) : (toS a == toS b) = (a == b) := by
  by_cases h : a = b
  · subst h; simp
  · have h2 : toS a ≠ toS b := fun e => h (toS_inj e)
    rw [beq_eq_false_iff_ne.mpr h, beq_eq_false_iff_ne.mpr h2]
theorem eqv_ints : ∀ a b : List Int, PyData.eqvAll (a.map PyData.int) (b.map PyData.int) = (a == b)
  | [], [] => rfl
  | [], _ :: _ => rfl
  | _ :: _, [] => rfl
  | x :: a, y :: b => by
    show (PyData.eqv (.int x) (.int y) && PyData.eqvAll (a.map PyData.int) (b.map PyData.int)) = _
    rw [eqv_ints a b]
    rfl
theorem eqv_il : ∀ (a : List Int) (ys : List Dt), PyData.eqvAll (a.map PyData.int) (toPy.toPys ys) = eqIL a ys
  | [], [] => rfl
  | [], _ :: _ => rfl
  | _ :: _, [] => rfl
  | x :: a, y :: ys => by
    show (PyData.eqv (.int x) (toPy y) && PyData.eqvAll (a.map PyData.int) (toPy.toPys ys)) = _
    rw [eqv_il a ys]
    cases y <;> rfl
theorem eqv_li : ∀ (xs : List Dt) (b : List Int), PyData.eqvAll (toPy.toPys xs) (b.map PyData.int) = eqLI xs b
  | [], [] => rfl
  | [], _ :: _ => rfl
  | _ :: _, [] => rfl
  | x :: xs, y :: b => by
    show (PyData.eqv (toPy x) (.int y) && PyData.eqvAll (toPy.toPys xs) (b.map PyData.int)) = _
    rw [eqv_li xs b]
    cases x <;> rfl
mutual
theorem eqv_toPy : ∀ x y : Dt, PyData.eqv (toPy x) (toPy y) = eqD x y
  | .tup xs, .tup ys => by simp only [toPy, PyData.eqv, eqD, eqvs_toPy xs ys]
  | .lst xs, .lst ys => by simp only [toPy, PyData.eqv, eqD, eqvs_toPy xs ys]
  | .str a, .str b => by simp only [toPy, PyData.eqv, eqD, toS_beq]
  | .scr a, .scr b => by simp only [toPy, PyData.eqv, eqD, eqv_ints]
  | .scr a, .lst ys => by simp only [toPy, PyData.eqv, eqD, eqv_il]
  | .lst xs, .scr b => by simp only [toPy, PyData.eqv, eqD, eqv_li]
  | .non, y => by cases y <;> rfl
  | .bl _, y => by cases y <;> rfl
  | .int _, y => by cases y <;> rfl
  | .str _, .non => rfl
  | .str _, .bl _ => rfl
  | .str _, .int _ => rfl
  | .str _, .tup _ => rfl
  | .str _, .lst _ => rfl
  | .str _, .scr _ => rfl
  | .tup _, .non => rfl
  | .tup _, .bl _ => rfl
  | .tup _, .int _ => rfl
  | .tup _, .str _ => rfl
  | .tup _, .lst _ => rfl
  | .tup _, .scr _ => rfl
  | .lst _, .non => rfl
  | .lst _, .bl _ => rfl
  | .lst _, .int _ => rfl
  | .lst _, .str _ => rfl
  | .lst _, .tup _ => rfl
  | .scr _, .non => rfl
  | .scr _, .bl _ => rfl
  | .scr _, .int _ => rfl
  | .scr _, .str _ => rfl
  | .scr _, .tup _ => rfl
theorem eqvs_toPy : ∀ xs ys : List Dt, PyData.eqvAll (toPy.toPys xs) (toPy.toPys ys) = eqDs xs ys
  | [], [] => rfl
  | [], _ :: _ => rfl
  | _ :: _, [] => rfl
  | x :: xs, y :: ys => by simp only [toPy.toPys, PyData.eqvAll, eqDs, eqv_toPy x y, eqvs_toPy xs ys]
end
theorem any_toPy (a : Dt) : ∀ xs : List Dt, ((toPy.toPys xs).any fun z => PyData.eqv z (toPy a)) = xs.any fun z => eqD z a
  | [] => rfl
  | x :: xs => by simp only [toPy.toPys, List.any_cons, eqv_toPy x a, any_toPy a xs]

end PB

set_option Elab.async false
set_option linter.all false
set_option maxRecDepth 100000
set_option maxHeartbeats 4000000
set_option backward.match.sparseCases false
/-! The store and the names in the heap; readings by the own meaning. -/
namespace PB
open PySem PySem.Spec PyProof.Rows L2

/-- the store's objects stand at φ; the foreign addresses fo are others, and stand -/
structure Sok (K : PySem.W.Frag) (fo φ : List Addr) (H : Hp) (st : Sr) : Prop where
  len : φ.length = st.length
  nd : φ.Nodup
  ft : ∀ a ∈ fo, ∃ o, H a = some o
  dj : ∀ a ∈ φ, a ∉ fo
  ob : ∀ (n : Nat) (a : Addr) (xs : List Dt), φ[n]? = some a → st[n]? = some (.lst xs) → ∃ vs, H a = some (.lst vs) ∧ RepL K (fo ++ φ) H xs vs
def RepW (K : PySem.W.Frag) (fo φ : List Addr) (H : Hp) : Wv → V → Prop
  | .d x, v => Rep K (fo ++ φ) H x v
  | .ob n, v => ∃ a, φ[n]? = some a ∧ v = .ref a
structure EnvOk (K : PySem.W.Frag) (fo φ : List Addr) (H : Hp) (ρ : Ev) (σ : L2.St) : Prop where
  len : ρ.length = σ.length
  at_ : ∀ (i : Nat) (w : Wv), ρ[i]? = some (some w) → ∃ v, σ[i]? = some (some v) ∧ RepW K fo φ H w v
/-- the store may have grown, its objects may have changed, all else stands -/
structure Step (φ : List Addr) (H : Hp) (φ' : List Addr) (H' : Hp) : Prop where
  ext : ∃ t, φ' = φ ++ t
  keep : Keeps φ H φ' H'

section
variable {K : PySem.W.Frag} {fo φ φ1 φ2 : List Addr} {H H1 H2 : Hp} {st st1 : Sr} {ρ : Ev} {σ : L2.St}
theorem Step.refl : Step φ H φ H := ⟨⟨[], by simp⟩, .refl⟩
theorem Step.trans (a : Step φ H φ1 H1) (b : Step φ1 H1 φ2 H2) : Step φ H φ2 H2 := by
  obtain ⟨t, rfl⟩ := a.ext
  obtain ⟨u, rfl⟩ := b.ext
  exact ⟨⟨t ++ u, by rw [List.append_assoc]⟩, a.keep.trans b.keep⟩
theorem Step.same (h : Same H H1) : Step φ H φ H1 := ⟨⟨[], by simp⟩, fun a o n e => ⟨h a o e, n⟩⟩
theorem Step.keeps (a : Step φ H φ1 H1) : Keeps (fo ++ φ) H (fo ++ φ1) H1 := fun b o n e => by
  rw [List.mem_append, not_or] at n
  obtain ⟨e1, n1⟩ := a.keep b o n.2 e
  exact ⟨e1, by rw [List.mem_append, not_or]; exact ⟨n.1, n1⟩⟩
theorem Step.get (a : Step φ H φ1 H1) {n : Nat} {x : Addr} (h : φ[n]? = some x) : φ1[n]? = some x := by
  obtain ⟨t, rfl⟩ := a.ext
  rw [List.getElem?_append_left (List.getElem?_eq_some_iff.mp h).1]
  exact h
theorem RepW.step (a : Step φ H φ1 H1) {w : Wv} {v : V} (h : RepW K fo φ H w v) : RepW K fo φ1 H1 w v := by
  cases w with
  | d x => exact Rep.keep a.keeps h
  | ob n =>
    obtain ⟨x, e, r⟩ := h
    exact ⟨x, a.get e, r⟩
theorem EnvOk.step (a : Step φ H φ1 H1) (h : EnvOk K fo φ H ρ σ) : EnvOk K fo φ1 H1 ρ σ :=
  ⟨h.len, fun i w e => let ⟨v, e1, r⟩ := h.at_ i w e; ⟨v, e1, r.step a⟩⟩
theorem EnvOk.set {i : Nat} {w : Wv} {v : V} (h : EnvOk K fo φ H ρ σ) (r : RepW K fo φ H w v) : EnvOk K fo φ H (ρ.set i (some w)) (σ.set i (some v)) := by
  refine ⟨by rw [List.length_set, List.length_set]; exact h.len, fun j w' e => ?_⟩
  by_cases hj : i = j
  · subst hj
    by_cases hi : i < ρ.length
    · rw [List.getElem?_set_self hi] at e
      cases e
      exact ⟨v, by rw [List.getElem?_set_self (by rw [← h.len]; exact hi)], r⟩
    · rw [List.getElem?_eq_none (by simpa using hi)] at e
      cases e
  · rw [List.getElem?_set_ne hj] at e
    obtain ⟨u, e1, q⟩ := h.at_ j w' e
    exact ⟨u, by rw [List.getElem?_set_ne hj]; exact e1, q⟩
theorem EnvOk.wiped (h : EnvOk K fo φ H ρ σ) : ∀ vs : List Nat, EnvOk K fo φ H (wipeE ρ vs) (wipe σ vs)
  | [] => h
  | v :: vs => by
    have q := EnvOk.wiped h vs
    refine ⟨by show ((wipeE ρ vs).set v none).length = ((wipe σ vs).set v none).length; rw [List.length_set, List.length_set]; exact q.len, fun j w' e => ?_⟩
    have e : ((wipeE ρ vs).set v none)[j]? = some (some w') := e
    show ∃ u, ((wipe σ vs).set v none)[j]? = some (some u) ∧ _
    by_cases hj : v = j
    · subst hj
      by_cases hi : v < (wipeE ρ vs).length
      · rw [List.getElem?_set_self hi] at e; cases e
      · rw [List.getElem?_eq_none (by simpa using hi)] at e; cases e
    · rw [List.getElem?_set_ne hj] at e
      obtain ⟨u, e1, r⟩ := q.at_ j w' e
      exact ⟨u, by rw [List.getElem?_set_ne hj]; exact e1, r⟩
theorem Sok.trk (s : Sok K fo φ H st) : ∀ a ∈ fo ++ φ, ∃ o, H a = some o := fun a h => by
  rcases List.mem_append.mp h with h | h
  · exact s.ft a h
  · obtain ⟨n, e⟩ := List.getElem?_of_mem h
    have hn : n < st.length := by
      rw [← s.len]; exact (List.getElem?_eq_some_iff.mp e).1
    have e2 : st[n]? = some st[n] := List.getElem?_eq_getElem hn
    cases q : st[n] with
    | lst xs =>
      rw [q] at e2
      obtain ⟨vs, e3, _⟩ := s.ob n a xs e e2
      exact ⟨_, e3⟩
theorem Sok.fresh (s : Sok K fo φ H st) {p : Addr} (h : H p = none) : p ∉ fo ++ φ := fun z => by
  obtain ⟨o, e⟩ := s.trk p z
  rw [h] at e; cases e
/-- more stands -/
theorem Sok.same (s : Sok K fo φ H st) (h : Same H H1) : Sok K fo φ H1 st :=
  ⟨s.len, s.nd, fun a z => let ⟨o, e⟩ := s.ft a z; ⟨o, h a o e⟩, s.dj, fun n a xs e1 e2 => let ⟨vs, e3, r⟩ := s.ob n a xs e1 e2; ⟨vs, h a _ e3, RepL.keep (Step.keeps (Step.same h)) r⟩⟩
theorem Sok.push (s : Sok K fo φ H st) : True := trivial
/-- data that is looked at: a list may be one of the store's -/
def VRep (K : PySem.W.Frag) (av : List Addr) (H : Hp) : Dt → V → Prop
  | .lst xs, v => ∃ a vs, v = .ref a ∧ Rd H a (.lst vs) ∧ RepL K av H xs vs
  | x, v => Rep K av H x v
theorem Rep.view {av : List Addr} {x : Dt} {v : V} (h : Rep K av H x v) : VRep K av H x v := by
  cases h with
  | lst h r e => exact ⟨_, _, rfl, r, e⟩
  | tup h r e => exact Rep.tup h r e
  | tupK r e => exact Rep.tupK r e
  | non => exact Rep.non
  | bl b => exact Rep.bl b
  | int i => exact Rep.int i
  | str s h => exact Rep.str s h
  | scr r => exact Rep.scr r
theorem view_of {w : Wv} {v : V} {x : Dt} (s : Sok K fo φ H st) (r : RepW K fo φ H w v) (e : viewW st w = some x) : VRep K (fo ++ φ) H x v := by
  cases w with
  | d y =>
    have : y = x := Option.some.inj e
    subst this
    exact Rep.view r
  | ob n =>
    obtain ⟨a, e1, rfl⟩ := r
    unfold viewW at e
    simp only at e
    split at e
    · rename_i xs q
      cases e
      obtain ⟨vs, e3, r⟩ := s.ob n a xs e1 q
      exact ⟨a, vs, rfl, .inl e3, r⟩
    · cases e
end

/-! ### what is wanted of an exception -/
abbrev Xw := Nat → List Dt → Sr → List Addr → Hp → Prop

section
variable {K : PySem.W.Frag} {xw : Xw} {fo φ φ1 φ2 : List Addr} {H H1 H2 : Hp} {α β : Type}
/-- behind a step of the own meaning -/
def Go (K : PySem.W.Frag) (xw : Xw) (fo φ : List Addr) (H : Hp) (r : Rs (α × Sr)) (R : α → Sr → List Addr → Hp → Prop) : Prop :=
  match r with
  | .ok p => ∀ φ' H', Step φ H φ' H' → Sok K fo φ' H' p.2 → R p.1 p.2 φ' H'
  | .exc c fs st => ∀ φ' H', Step φ H φ' H' → Sok K fo φ' H' st → xw c fs st φ' H'
  | .bad => False
theorem Go.ok {a : α} {st : Sr} {R : α → Sr → List Addr → Hp → Prop} : Go K xw fo φ H (.ok (a, st)) R = ∀ φ' H', Step φ H φ' H' → Sok K fo φ' H' st → R a st φ' H' := rfl
theorem Go.at_ {r : Rs (α × Sr)} {R : α → Sr → List Addr → Hp → Prop} (h : Go K xw fo φ H r R) (a : Step φ H φ1 H1) : Go K xw fo φ1 H1 r R := by
  cases r with
  | ok p => exact fun φ' H' s q => h φ' H' (a.trans s) q
  | exc c fs sx => exact fun φ' H' s q => h φ' H' (a.trans s) q
  | bad => exact h
theorem Go.imp {r : Rs (α × Sr)} {R R' : α → Sr → List Addr → Hp → Prop} (h : Go K xw fo φ H r R) (f : ∀ a st φ' H', Step φ H φ' H' → Sok K fo φ' H' st → R a st φ' H' → R' a st φ' H') : Go K xw fo φ H r R' := by
  cases r with
  | ok p => exact fun φ' H' s q => f _ _ _ _ s q (h φ' H' s q)
  | exc c fs sx => exact h
  | bad => exact h
theorem Go.of_bind {r : Rs (α × Sr)} {f : α × Sr → Rs (β × Sr)} {R : β → Sr → List Addr → Hp → Prop} (h : Go K xw fo φ H (r.bind f) R) : Go K xw fo φ H r (fun a st φ1 H1 => Go K xw fo φ1 H1 (f (a, st)) R) := by
  cases r with
  | ok p => exact fun φ' H' s q => Go.at_ (r := f p) h s
  | exc c fs sx => exact h
  | bad => exact h
/-- the step that was gone -/
theorem Go.run {a : α} {st : Sr} {R : α → Sr → List Addr → Hp → Prop} (h : Go K xw fo φ H (.ok (a, st)) R) (q : Sok K fo φ H st) : R a st φ H := h φ H .refl q

end

/-- the program's own exceptions: a class's value, its fields -/
structure Xt where
  cls : Nat → Option Value
  flds : Nat → List Str
  /-- only exceptions whose context is None -/
  nn : Bool := false
/-- the exception (cls, d) shows the number c and the fields fs -/
def XRep (XT : Xt) (K : PySem.W.Frag) (av : List Addr) (H : Hp) (c : Nat) (fs : List Dt) (cls : Value) (d : Option Addr) : Prop :=
  XT.cls c = some cls ∧ fs.length = (XT.flds c).length ∧ ((fs = [] ∧ d = none) ∨ fs ≠ [] ∧ ∃ a vs, d = some a ∧ a ∉ av ∧ H a = some (.xd ((XT.flds c).zip vs)) ∧ RepL K av H fs vs)
def xwOf (XT : Xt) (K : PySem.W.Frag) (W : WX) (σ : L2.St) (fo : List Addr) : Xw := fun c fs _ φ H => ∀ cls d, XRep XT K (fo ++ φ) H c fs cls d → W cls d σ H

section
variable (XT : Xt) (K : PySem.W.Frag) (W : WX)
/-- an expression's reading by its meaning -/
def tW (m : Ev → Sr → Rs (Wv × Sr)) : TE := fun σ H Q => ∃ fo φ ρ st, Sok K fo φ H st ∧ EnvOk K fo φ H ρ σ ∧
  Go K (xwOf XT K W σ fo) fo φ H (m ρ st) (fun w _ φ' H' => ∀ v, RepW K fo φ' H' w v → Q v H')
def tT (m : Ev → Sr → Rs (Bool × Sr)) : TT := fun σ H Q => ∃ fo φ ρ st, Sok K fo φ H st ∧ EnvOk K fo φ H ρ σ ∧
  Go K (xwOf XT K W σ fo) fo φ H (m ρ st) (fun b _ _ H' => Q b H')
def tL (m : Ev → Sr → Rs (List Wv × Sr)) : TA := fun σ H Q => ∃ fo φ ρ st, Sok K fo φ H st ∧ EnvOk K fo φ H ρ σ ∧
  Go K (xwOf XT K W σ fo) fo φ H (m ρ st) (fun ws _ φ' H' => ∀ vs, Paired (RepW K fo φ' H') ws vs → Q vs H')
def tO (m : Ev → Sr → Rs (Option Int × Sr)) : TO := fun σ H Q => ∃ fo φ ρ st, Sok K fo φ H st ∧ EnvOk K fo φ H ρ σ ∧
  Go K (xwOf XT K W σ fo) fo φ H (m ρ st) (fun o _ _ H' => Q o H')
/-- J walks the items while the watched objects stay -/
def WkOk (fo φ₀ : List Addr) (H₀ : Hp) (J : It) (p : List Dt × List (Nat × List Dt)) : Prop :=
  ∀ fo' φ H st, (∃ t, φ = φ₀ ++ t) → Keeps (fo ++ φ₀) H₀ (fo' ++ φ) H → Sok K fo' φ H st → watchOk p.2 st = true →
    (∀ i, i < p.1.length → J.go i H) ∧ J.stop p.1.length H ∧ ∀ i d x H', p.1[i]? = some d → J.yld i H x H' → Same H H' ∧ Rep K (fo' ++ φ) H' d x
def tI (m : Ev → Sr → Rs Wk) : TI := fun σ H R => ∃ fo φ ρ st, Sok K fo φ H st ∧ EnvOk K fo φ H ρ σ ∧
  Go K (xwOf XT K W σ fo) fo φ H (m ρ st) (fun p st' φ' H' => ∀ J, WkOk K fo φ' H' J p → watchOk p.2 st' = true → R J H')
end
theorem PE.weak {X : Cx} {e : Expr} {t t' : TE} (h : PE X e t) (f : ∀ σ H Q, t' σ H Q → t σ H Q) : PE X e t' := ⟨fun pins s σ H Q I q => h.run pins s σ H Q I (f σ H Q q)⟩
theorem PT.weak {X : Cx} {e : Expr} {t t' : TT} (h : PT X e t) (f : ∀ σ H Q, t' σ H Q → t σ H Q) : PT X e t' := ⟨fun pins s σ H Q I q => h.run pins s σ H Q I (f σ H Q q)⟩
theorem PA.weak {X : Cx} {e : List Expr} {t t' : TA} (h : PA X e t) (f : ∀ σ H Q, t' σ H Q → t σ H Q) : PA X e t' := ⟨fun pos pins s σ H Q I q => h.run pos pins s σ H Q I (f σ H Q q)⟩

/-! ### operators by values -/
/-- the rule r serves f: from what shows x and y to what shows f x y, all that stood stands -/
def OpS (K : PySem.W.Frag) (f : Dt → Dt → Option Dt) (r : R2) : Prop := ∀ (av : List Addr) (H : Hp) (x y z : Dt) (v u : V) (Q : VK), (∀ a ∈ av, ∃ o, H a = some o) → VRep K av H x v → VRep K av H y u → f x y = some z →
  (∀ w H', Same H H' → Rep K av H' z w → Q w H') → r v u H Q
def UnS (K : PySem.W.Frag) (f : Dt → Option Dt) (r : V → Hp → VK → Prop) : Prop := ∀ (av : List Addr) (H : Hp) (x z : Dt) (v : V) (Q : VK), (∀ a ∈ av, ∃ o, H a = some o) → VRep K av H x v → f x = some z →
  (∀ w H', Same H H' → Rep K av H' z w → Q w H') → r v H Q
theorem same_new {H : Hp} {p : Addr} {o : HO} (h : H p = none) : Same H (upd H p o) := fun b x e => by
  rw [upd_ne (ne_of_none e h)]
  exact e
section
variable {XT : Xt} {K : PySem.W.Frag} {W : WX} {σ : L2.St} {H : Hp} {Q : VK} {m : Ev → Sr → Rs (Wv × Sr)} {m' : Ev → Sr → Rs (Wv × Sr)}
theorem tW_op1 {f : Dt → Option Dt} {r : V → Hp → VK → Prop} (hr : UnS K f r) (h : tW XT K W (fun ρ st => (m ρ st).bind (op1 f)) σ H Q) : tW XT K W m σ H (fun x H1 => r x H1 Q) := by
  obtain ⟨fo, φ, ρ, st, hs, he, h⟩ := h
  refine ⟨fo, φ, ρ, st, hs, he, (Go.of_bind h).imp fun w st1 φ1 H1 s1 q1 h1 v rv => ?_⟩
  unfold op1 at h1
  simp only at h1
  cases e1 : viewW st1 w with
  | none => rw [e1] at h1; exact h1.elim
  | some x =>
    rw [e1] at h1
    cases e2 : f x with
    | none => simp only [Option.bind_some, e2] at h1; exact h1.elim
    | some z =>
      simp only [Option.bind_some, e2] at h1
      exact hr (fo ++ φ1) H1 x z v Q q1.trk (view_of q1 rv e1) e2 fun u H' sm rz => h1 φ1 H' (Step.same sm) (q1.same sm) u rz
theorem tW_op2 {f : Dt → Dt → Option Dt} {r : R2} (hr : OpS K f r) (h : tW XT K W (fun ρ st => (m ρ st).bind fun p => (m' ρ p.2).bind fun q => op2 f p.1 q) σ H Q) : tOp r (tW XT K W m) (tW XT K W m') σ H Q := by
  obtain ⟨fo, φ, ρ, st, hs, he, h⟩ := h
  refine ⟨fo, φ, ρ, st, hs, he, (Go.of_bind h).imp fun w st1 φ1 H1 s1 q1 h1 v rv => ?_⟩
  refine ⟨fo, φ1, ρ, st1, q1, he.step s1, (Go.of_bind h1).imp fun w2 st2 φ2 H2 s2 q2 h2 v2 rv2 => ?_⟩
  unfold op2 at h2
  simp only at h2
  cases e1 : viewW st2 w with
  | none => rw [e1] at h2; exact h2.elim
  | some x =>
    cases e2 : viewW st2 w2 with
    | none => simp only [e1, e2, Option.bind_some] at h2; exact h2.elim
    | some y =>
      cases e3 : f x y with
      | none => simp only [e1, e2, e3, Option.bind_some] at h2; exact h2.elim
      | some z =>
        simp only [e1, e2, e3, Option.bind_some] at h2
        exact hr (fo ++ φ2) H2 x y z v v2 Q q2.trk (view_of q2 (rv.step s2) e1) (view_of q2 rv2 e2) e3 fun u H' sm rz => h2 φ2 H' (Step.same sm) (q2.same sm) u rz
end
end PB

set_option Elab.async false
set_option linter.all false
set_option maxRecDepth 100000
set_option maxHeartbeats 4000000
set_option backward.match.sparseCases false
/-! Operators. -/
namespace PB
open PySem PySem.Spec PyProof.Rows L2
section
variable {X : Cx} {K : PySem.W.Frag} {av : List Addr} {H : Hp}

theorem vint {i : Int} {v : V} (h : VRep K av H (.int i) v) : v = .int i := by cases (show Rep K av H (.int i) v from h); rfl
theorem vbl {i : Bool} {v : V} (h : VRep K av H (.bl i) v) : v = .bl i := by cases (show Rep K av H (.bl i) v from h); rfl
theorem vnon {v : V} (h : VRep K av H .non v) : v = .non := by cases (show Rep K av H .non v from h); rfl
theorem vstr {s : List Nat} {v : V} (h : VRep K av H (.str s) v) : v = .str (toS s) ∧ okS s := by cases (show Rep K av H (.str s) v from h) with | str s hs => exact ⟨rfl, hs⟩
theorem vtup {xs : List Dt} {v : V} (h : VRep K av H (.tup xs) v) : ∃ a vs, v = .ref a ∧ SqT K H a vs ∧ RepL K av H xs vs := Rep.sqT h
theorem vscr {ns : List Int} {v : V} (h : VRep K av H (.scr ns) v) : ∃ a, v = .ref a ∧ SqL K H a (ns.map V.int) := by
  cases (show Rep K av H (.scr ns) v from h) with | scr r => exact ⟨_, rfl, scr_sq r⟩
theorem vlst {xs : List Dt} {v : V} (h : VRep K av H (.lst xs) v) : ∃ a vs, v = .ref a ∧ Rd H a (.lst vs) ∧ RepL K av H xs vs := h

theorem okS.append {a b : List Nat} (ha : okS a) (hb : okS b) (h : a.length + b.length ≤ lim) : okS (a ++ b) :=
  ⟨by rw [List.length_append]; exact h, fun c hc => (List.mem_append.mp hc).elim (ha.2 c) (hb.2 c)⟩
theorem toS_append (a b : List Nat) : toS a ++ toS b = toS (a ++ b) := by
  show Str.mk _ = Str.mk _
  simp [toS]
/-- fresh places -/
theorem fresh_of (ht : ∀ a ∈ av, ∃ o, H a = some o) {p : Addr} (h : H p = none) : p ∉ av := fun z => by
  obtain ⟨o, e⟩ := ht p z
  rw [h] at e; cases e
theorem RepL.same {xs : List Dt} {vs : List V} {H' : Hp} (r : RepL K av H xs vs) (s : Same H H') : RepL K av H' xs vs := RepL.keep (fun a o n e => ⟨s a o e, n⟩) r
theorem Rep.same {x : Dt} {v : V} {H' : Hp} (r : Rep K av H x v) (s : Same H H') : Rep K av H' x v := Rep.keep (fun a o n e => ⟨s a o e, n⟩) r
theorem rep_newT {xs : List Dt} {vs : List V} {p : Addr} (ht : ∀ a ∈ av, ∃ o, H a = some o) (h : H p = none) (r : RepL K av H xs vs) : Rep K av (upd H p (.tup vs)) (.tup xs) (.ref p) :=
  .tup (fresh_of ht h) (.inl upd_same) (r.same (same_new h))
theorem rep_newL {xs : List Dt} {vs : List V} {p : Addr} (ht : ∀ a ∈ av, ∃ o, H a = some o) (h : H p = none) (r : RepL K av H xs vs) : Rep K av (upd H p (.lst vs)) (.lst xs) (.ref p) :=
  .lst (fresh_of ht h) (.inl upd_same) (r.same (same_new h))
theorem rep_tup {a : Addr} {xs : List Dt} {vs : List V} (h : Rep K av H (.tup xs) (.ref a)) (q : SqT K H a vs) : True := trivial

/-! #### list + list, read -/
def rCatR : R2 := fun x y H Q => ∃ l b xs zs, x = .ref l ∧ y = .ref b ∧ Rd H l (.lst xs) ∧ Rd H b (.lst zs) ∧ xs.length + zs.length ≤ sizeLine ∧ ∀ p, H p = none → Q (.ref p) (upd H p (.lst (xs ++ zs)))
theorem op_catR : OpR X (binaryOp .Add) rCatR := by
  intro pins s σ H x y v u Q I rx ry h
  obtain ⟨l, b, xs, zs, rfl, rfl, hH, hB, hz, q⟩ := h
  cases rx
  cases ry
  obtain ⟨z, its, n, r, e⟩ := hH.ok I.hok
  obtain ⟨z2, its2, n2, r2, e2⟩ := hB.ok I.hok
  have hl := r.length
  have hl2 := r2.length
  refine PySem.P.add_list e e2 ?_ (by rw [List.size_toArray, List.size_toArray]; omega)
  have ea : its.toArray ++ its2.toArray = (its ++ its2).toArray := by simp
  rw [ea]
  exact ⟨.ref _, _, I.lnew (t' := s.toks) (r.append r2) (by rw [List.length_append]; omega), rfl, q _ I.fresh⟩
/-! #### text * int -/
def rMulS : R2 := fun x y H Q => ∃ (a : List Nat) (k : Int), x = .str (toS a) ∧ y = .int k ∧ a.length * k.toNat ≤ lim ∧ -(2 ^ 62) < k ∧ k < 2 ^ 62 ∧ Q (.str (toS (List.replicate k.toNat a).flatten)) H
theorem foldl_repA (a : List Nat) : ∀ (k : Nat) (acc : List Nat), (List.replicate k a.toArray).foldl (· ++ ·) acc.toArray = (acc ++ (List.replicate k a).flatten).toArray
  | 0, acc => by simp
  | k + 1, acc => by
    rw [List.replicate_succ, List.foldl_cons, List.replicate_succ, List.flatten_cons, ← List.append_assoc]
    have : acc.toArray ++ a.toArray = (acc ++ a).toArray := by simp
    rw [this]
    exact foldl_repA a k (acc ++ a)
theorem tooLong_of {n : Nat} (h : n ≤ lim) : Builtin.Str.tooLong n = false := by
  unfold Builtin.Str.tooLong
  exact decide_eq_false (by rw [← lim_eq]; omega)
theorem op_mulS : OpR X (binaryOp .Mult) rMulS := by
  intro pins s σ H x y v u Q I rx ry h
  obtain ⟨a, k, rfl, rfl, hz, hlo, hhi, q⟩ := h
  obtain ⟨t, rfl⟩ := rx
  obtain ⟨t', rfl⟩ := ry
  have hlen : (toS a).length = a.length := toS_len a
  have h2 : lim = 16777216 := rfl
  refine PySem.P.mul_str ?_ ?_ ?_ ?_
  · have h1 : ¬ k < -(2 ^ 63 : Int) := by omega
    have h3 : ¬ k ≥ (2 ^ 63 : Int) := by omega
    rw [decide_eq_false h1, decide_eq_false h3]; rfl
  · intro h1 h3
    rw [hlen]
    have hk : (k.toNat : Int) = k := Int.toNat_of_nonneg (by omega)
    have h4 : ((a.length : Int)) * k ≤ (lim : Int) := by
      have h7 : ((a.length * k.toNat : Nat) : Int) ≤ (lim : Int) := Int.ofNat_le.mpr hz
      rw [Int.natCast_mul, hk] at h7
      exact h7
    have h8 : (lim : Int) = 16777216 := rfl
    rw [h8] at h4
    intro h5
    have h6 : (2 ^ 63 - 1 : Int) < (a.length : Int) * k := by
      have := Int.lt_mul_of_ediv_lt (by omega : 0 < k) h5
      rw [Int.mul_comm] at this
      first | exact this | (rw [Int.mul_comm] at this; exact this)
    omega
  · intro h1 h3
    rw [hlen]
    exact tooLong_of hz
  · by_cases h1 : k < 1
    · rw [if_pos h1]
      have e : k.toNat = 0 := by omega
      refine ⟨by decide, ⟨.str (toS (List.replicate k.toNat a).flatten), H, I.tok _, ?_, q⟩⟩
      rw [e]
      exact ⟨_, rfl⟩
    · rw [if_neg h1]
      by_cases h3 : (k == 1 || (toS a).length == 0) = true
      · rw [if_pos h3]
        have e : (List.replicate k.toNat a).flatten = a := by
          simp only [Bool.or_eq_true, beq_iff_eq, hlen] at h3
          rcases h3 with h3 | h3
          · subst h3
            show (List.replicate 1 a).flatten = a
            simp
          · have : a = [] := List.length_eq_zero_iff.mp h3
            subst this
            simp
        rw [e] at q
        exact ⟨.str (toS a), H, I, ⟨_, rfl⟩, q⟩
      · rw [if_neg h3]
        have e : (List.replicate k.toNat (toS a).cps).foldl (· ++ ·) #[] = ((List.replicate k.toNat a).flatten).toArray := by
          have := foldl_repA a k.toNat []
          simpa [toS] using this
        rw [e]
        refine ⟨?_, ⟨.str (toS (List.replicate k.toNat a).flatten), H, I.tok _, ⟨_, rfl⟩, q⟩⟩
        show (List.replicate k.toNat a).flatten.toArray.size ≤ _
        rw [List.size_toArray]
        have e2 : (List.replicate k.toNat a).flatten.length = k.toNat * a.length := by simp [List.length_flatten]
        rw [e2, Nat.mul_comm]
        first | exact Nat.le_trans hz (by rw [h2, sizeLine_eq]; exact Nat.le_refl _) | (rw [sizeLine_eq]; omega)

/-! #### tuple * 1 -/
theorem mulT_one (l : Addr) (items : Array Value) (n : Nat) (dd : Option Addr) (sl : Array (Option Value)) (u : Tok) :
    Meets (Builtin.«tuple.__mul__» ⟨[.ref l, .int 1 u], []⟩) (fun _ R s => s.heap.get? l = some { cls := .type "tuple", dict := dd, data := .seq items n, slots := sl } ∧ R (.ok (.ret (Value.ref l))) s) :=
  .of_wp fun prog w A R s h => by
    obtain ⟨hp, g, d, tk, os⟩ := s
    obtain ⟨hl, h⟩ := h
    have f1 := AutoSeq1.idx_int
    have c1 : (items.isEmpty || (1 : Int) == 1) = true := by simp
    wp_walk using wpAny_loadPart' hl
    repeat (first
      | (refine wpAny_ite_true (decide_eq_true c1) ?_; wp_walk using wpAny_loadPart' hl)
      | (refine wpAny_ite_false (decide_eq_false (by decide)) ?_; wp_walk using wpAny_loadPart' hl))
    exact ⟨_, rfl, h⟩
def rRepT1 (K : PySem.W.Frag) : R2 := fun x y H Q => ∃ l xs, x = .ref l ∧ y = .int 1 ∧ SqT K H l xs ∧ Q (.ref l) H
theorem op_repT1 : OpR X (binaryOp .Mult) (rRepT1 X.K) := by
  intro pins s σ H x y v u Q I rx ry h
  obtain ⟨l, xs, rfl, rfl, hT, q⟩ := h
  cases rx
  obtain ⟨t, rfl⟩ := ry
  obtain ⟨its, r, ⟨⟨cls, dd, data, sl⟩, ho, hc, n, hd⟩, hs⟩ := I.tuple hT
  simp only at hc hd
  subst hc hd
  exact wpAny_binaryOp_repeat_ref (T := "tuple") (U := "int") (by decide) ⟨_, ho, rfl⟩ (fun s' => typeIs_int s' 1 t) noFill_tuple_mul F.fills_int_mul F.slot_int_rmul repeat_tuple F.slot_int_index.lookup
    (call_meets F.slot_int_rmul (typeIs_int s 1 t) F.entry_int_rmul (F.args_int_rmul_2 _ _) (int_rmul_tuple 1 t l its.toArray n dd sl)
      ⟨ho, rfl, ⟨_, ho, rfl⟩, call_meets F.slot_tuple_mul ⟨_, ho, rfl⟩ F.entry_tuple_mul (F.args_tuple_mul_2 _ _) (mulT_one l its.toArray n dd sl t) ⟨ho, .ref l, H, I, rfl, q⟩⟩)
/-! #### list * int -/
def rRepR : R2 := fun x y H Q => ∃ l k xs, x = .ref l ∧ y = .int k ∧ Rd H l (.lst xs) ∧ xs ≠ [] ∧ 1 ≤ k ∧ k ≤ 1000 ∧ xs.length ≤ 1000 ∧ ∀ p, H p = none → Q (.ref p) (upd H p (.lst (List.replicate k.toNat xs).flatten))
theorem rep_arr (its : List Value) : ∀ (m : Nat) (acc : List Value), (List.replicate m its.toArray).foldl (fun a b => a ++ b) acc.toArray = (acc ++ (List.replicate m its).flatten).toArray
  | 0, acc => by simp
  | m + 1, acc => by
    have ea : acc.toArray ++ its.toArray = (acc ++ its).toArray := by simp
    rw [List.replicate_succ, List.foldl_cons, ea, rep_arr its m (acc ++ its), List.replicate_succ, List.flatten_cons, List.append_assoc]
theorem op_repR : OpR X (binaryOp .Mult) rRepR := by
  intro pins s σ H x y v u Q I rx ry h
  obtain ⟨l, k, xs, rfl, rfl, hH, hne, k1, k2, k3, q⟩ := h
  cases rx
  obtain ⟨t, rfl⟩ := ry
  obtain ⟨z, its, n, r, e⟩ := hH.ok I.hok
  have hlx : xs.length = its.length := r.length
  have hk : k.toNat ≤ 1000 := by omega
  have hm : its.length * k.toNat ≤ 1000 * 1000 := Nat.mul_le_mul (by omega) hk
  have hz : its.length * k.toNat ≤ sizeLine := by rw [sizeLine_eq]; omega
  have b1 : ¬ its.toArray.size * k.toNat > (2 ^ 63 - 1) / 8 := by rw [List.size_toArray]; omega
  have b2 : ¬ (!Builtin.List.listFitsIndex k) = true := by rw [fitsIndex_both (by omega) (by omega)]; exact Bool.false_ne_true
  have b3 : ¬ Builtin.List.listTooLong (its.toArray.size * k.toNat) = true := by rw [notLongL (by rw [List.size_toArray]; exact hz)]; exact Bool.false_ne_true
  have en : List.foldl (fun x1 x2 => x1 ++ x2) #[] (List.replicate (if its.toArray.isEmpty = true then 0 else k.toNat) its.toArray) = (List.replicate k.toNat its).flatten.toArray := by
    have hi : ¬ its.toArray.isEmpty = true := fun e0 => by
      have e1 : its = [] := by simpa using e0
      rw [e1] at hlx
      exact hne (List.length_eq_zero_iff.mp hlx)
    rw [if_neg hi]
    exact rep_arr its k.toNat []
  have rr : Vals (List.replicate k.toNat xs).flatten (List.replicate k.toNat its).flatten := r.rep k.toNat
  exact wpAny_binaryOp_repeat_ref (T := "list") (U := "int") (by decide) ⟨_, e, rfl⟩ (fun s' => typeIs_int s' k t) noFill_list_mul F.fills_int_mul F.slot_int_rmul repeat_list F.slot_int_index.lookup (call_meets F.slot_int_rmul (typeIs_int s k t) F.entry_int_rmul (F.args_int_rmul_2 _ _) (int___rmul___int_list k t l its.toArray n) ⟨e, rfl, ⟨_, e, rfl⟩, call_meets F.slot_list_mul ⟨_, e, rfl⟩ F.entry_list_mul (F.args_list_mul_2 _ _) (AutoListH.list___mul___list_int_3 l its.toArray n k t b2 b1 b3) ⟨e, by
    rw [en]
    exact ⟨.ref _, _, I.lnew (t' := s.toks) rr (by rw [PyProof.Rows.lm_len_rep_flat, Nat.mul_comm, hlx]; exact hz), rfl, q _ I.fresh⟩⟩⟩)
/-! #### + - * // % -/
def pyBop : Bop → Operator
  | .add => .Add | .sub => .Sub | .mul => .Mult | .fdiv => .FloorDiv | .mod => .Mod
def rBop (K : PySem.W.Frag) : Bop → R2
  | .add => fun x y H Q => rI0 (fun i j => .int (i + j)) x y H Q ∨ ((∃ i j, x = .str i ∧ y = .str j ∧ i.length + j.length ≤ sizeLine ∧ Q (.str (i ++ j)) H) ∨ (rCatA K x y H Q ∨ rCatR x y H Q))
  | .sub => rI0 fun i j => .int (i - j)
  | .mul => fun x y H Q => rI CMul (fun i j => .int (i * j)) x y H Q ∨ (rMulS x y H Q ∨ (rRepT K x y H Q ∨ (rRepT1 K x y H Q ∨ rRepR x y H Q)))
  | .fdiv => rI CDiv fun i j => .int (i / j)
  | .mod => rI (fun _ j => 0 < j) fun i j => .int (i % j)
theorem op_bop : ∀ o : Bop, OpR X (binaryOp (pyBop o)) (rBop X.K o)
  | .add => op_add.or (op_add_str.or (op_catA.or op_catR))
  | .sub => op_sub
  | .mul => op_mul.or (op_mulS.or (op_repT.or (op_repT1.or op_repR)))
  | .fdiv => op_fdiv
  | .mod => op_mod
theorem okS.rep {a : List Nat} (h : okS a) {k : Nat} (hz : a.length * k ≤ lim) : okS (List.replicate k a).flatten := by
  refine ⟨by simp [List.length_flatten]; rw [Nat.mul_comm]; exact hz, fun c hc => ?_⟩
  obtain ⟨l, hl, hc⟩ := List.mem_flatten.mp hc
  rw [(List.mem_replicate.mp hl).2] at hc
  exact h.2 c hc
theorem ops_add : OpS K (bopD .add) (rBop K .add) := by
  intro av H x y z v u Q ht hx hy e q
  unfold bopD at e
  split at e <;> try (cases e; done)
  · cases vint hx; cases vint hy; cases e
    exact .inl ⟨_, _, rfl, rfl, q _ H (.refl H) (.int _)⟩
  · obtain ⟨rfl, ha⟩ := vstr hx
    obtain ⟨rfl, hb⟩ := vstr hy
    split at e
    · rename_i hl
      cases e
      refine .inr (.inl ⟨_, _, rfl, rfl, by rw [toS_len, toS_len, ← lim_eq]; exact hl, ?_⟩)
      rw [toS_append]
      exact q _ H (.refl H) (.str _ (ha.append hb hl))
    · cases e
  · split at e
    · rename_i hl
      cases e
      obtain ⟨a, vs, rfl, ha, ra⟩ := vtup hx
      obtain ⟨b, us, rfl, hb, rb⟩ := vtup hy
      refine .inr (.inr (.inl ⟨a, b, vs, us, rfl, rfl, ha, hb, by rw [← ra.length, ← rb.length, ← lim_eq]; exact hl, fun e0 => ?_, fun _ e0 => ?_, fun _ _ p hp => q _ _ (same_new hp) (rep_newT ht hp (ra.append rb))⟩))
      · subst e0
        cases ra
        exact q _ H (.refl H) hy
      · subst e0
        cases rb
        rw [List.append_nil] at q
        exact q _ H (.refl H) hx
    · cases e
  · split at e
    · rename_i hl
      cases e
      obtain ⟨a, vs, rfl, ha, ra⟩ := vlst hx
      obtain ⟨b, us, rfl, hb, rb⟩ := vlst hy
      exact .inr (.inr (.inr ⟨a, b, vs, us, rfl, rfl, ha, hb, by rw [← ra.length, ← rb.length, ← lim_eq]; exact hl, fun p hp => q _ _ (same_new hp) (rep_newL ht hp (ra.append rb))⟩))
    · cases e
  all_goals (rename_i h1; cases h1)
theorem ops_bop (o : Bop) : OpS K (bopD o) (rBop K o) := by
  cases o with
  | add => exact ops_add
  | sub =>
    intro av H x y z v u Q ht hx hy e q
    unfold bopD at e
    split at e <;> first | (rename_i h1; cases h1; done) | skip
    · cases vint hx; cases vint hy; cases e
      exact ⟨_, _, rfl, rfl, q _ H (.refl H) (.int _)⟩
    · cases e
  | mul =>
    intro av H x y z v u Q ht hx hy e q
    unfold bopD at e
    split at e <;> first | (rename_i h1; cases h1; done) | skip
    · cases vint hx; cases vint hy
      split at e
      · rename_i hc
        cases e
        exact .inl ⟨_, _, rfl, rfl, hc, q _ H (.refl H) (.int _)⟩
      · cases e
    · obtain ⟨rfl, ha⟩ := vstr hx
      cases vint hy
      split at e
      · rename_i hc
        cases e
        exact .inr (.inl ⟨_, _, rfl, rfl, hc.1, hc.2.1, hc.2.2, q _ H (.refl H) (.str _ (ha.rep hc.1))⟩)
      · cases e
    · rename_i i_ _
      obtain ⟨a, vs, rfl, ha, ra⟩ := vtup hx
      cases vint hy
      split at e
      · rename_i hc
        cases e
        have hl := ra.length
        by_cases h1 : i_ = 1
        · subst h1
          refine .inr (.inr (.inr (.inl ⟨a, vs, rfl, rfl, ha, q _ H (.refl H) ?_⟩)))
          simp only [Int.toNat_one, List.replicate_one, List.flatten_singleton]
          exact hx
        · refine .inr (.inr (.inl ⟨a, _, vs, rfl, rfl, ha, fun e0 => ?_, by omega, hc.2.2.1, by omega, fun p hp => q _ _ (same_new hp) (rep_newT ht hp (ra.rep _))⟩))
          subst e0
          have := hc.1
          rw [hl] at this
          exact absurd this (by simp)
      · cases e
    · obtain ⟨a, vs, rfl, ha, ra⟩ := vlst hx
      cases vint hy
      split at e
      · rename_i hc
        cases e
        have hl := ra.length
        refine .inr (.inr (.inr (.inr ⟨a, _, vs, rfl, rfl, ha, fun e0 => ?_, hc.2.1, hc.2.2.1, by omega, fun p hp => q _ _ (same_new hp) (rep_newL ht hp (ra.rep _))⟩)))
        subst e0
        have := hc.1
        rw [hl] at this
        exact absurd this (by simp)
      · cases e
    · cases e
  | fdiv =>
    intro av H x y z v u Q ht hx hy e q
    unfold bopD at e
    split at e <;> first | (rename_i h1; cases h1; done) | skip
    · cases vint hx; cases vint hy
      split at e
      · rename_i hc
        cases e
        exact ⟨_, _, rfl, rfl, hc, q _ H (.refl H) (.int _)⟩
      · cases e
    · cases e
  | mod =>
    intro av H x y z v u Q ht hx hy e q
    unfold bopD at e
    split at e <;> first | (rename_i h1; cases h1; done) | skip
    · cases vint hx; cases vint hy
      split at e
      · rename_i hc
        cases e
        exact ⟨_, _, rfl, rfl, hc, q _ H (.refl H) (.int _)⟩
      · cases e
    · cases e
end
end PB

set_option Elab.async false
set_option linter.all false
set_option maxRecDepth 100000
set_option maxHeartbeats 4000000
set_option backward.match.sparseCases false
/-! Comparisons. -/
namespace PB
open PySem PySem.Spec PyProof.Rows L2
section
variable {X : Cx} {K : PySem.W.Frag} {av : List Addr} {H : Hp}
theorem VRep.dp {x : Dt} {v : V} (h : VRep K av H x v) : Dp K H v (toPy x) ∧ (toPy x).canLay0 = true := by
  cases x with
  | lst xs =>
    obtain ⟨a, vs, rfl, r, e⟩ := vlst h
    exact ⟨by rw [toPy]; exact .lst (.inl r) (RepL.dp e).1, by simp only [toPy, PyData.canLay0]; exact (RepL.dp e).2⟩
  | non => exact Rep.dp h
  | bl b => exact Rep.dp h
  | int i => exact Rep.dp h
  | str s => exact Rep.dp h
  | tup xs => exact Rep.dp h
  | scr ns => exact Rep.dp h
def rEqA (K : PySem.W.Frag) (neg : Bool) : R2 := fun x y H Q => ∃ d e, Dp K H x d ∧ Dp K H y e ∧ d.canLay0 = true ∧ e.canLay0 = true ∧ min d.depth e.depth ≤ 64 ∧ Q (.bl (if neg then !PyData.eqv d e else PyData.eqv d e)) H
theorem op_eqA (hu : X.A.units + 65 < cLine) : OpR X (compareOp .Eq) (rEqA X.K false) := by
  intro pins s σ H x y v u Q I rx ry h
  obtain ⟨d, e, hd, he, sd, se, hm, q⟩ := h
  obtain ⟨as, r1⟩ := Dp.reads I d x v hd rx
  obtain ⟨bs, r2⟩ := Dp.reads I e y u he ry
  exact SeqAt.compareEq_reads r1 r2 sd se (by omega) ⟨.bl _, H, I, rfl, q⟩
theorem op_neA (hu : X.A.units + 65 < cLine) : OpR X (compareOp .NotEq) (rEqA X.K true) := by
  intro pins s σ H x y v u Q I rx ry h
  obtain ⟨d, e, hd, he, sd, se, hm, q⟩ := h
  obtain ⟨as, r1⟩ := Dp.reads I d x v hd rx
  obtain ⟨bs, r2⟩ := Dp.reads I e y u he ry
  exact SeqAt.compareNe_reads r1 r2 sd se (by omega) ⟨.bl _, H, I, rfl, q⟩
def rInA (K : PySem.W.Frag) (neg : Bool) : R2 := fun x y H Q => ∃ d ds, Dp K H x d ∧ (Dp K H y (.list ds) ∨ Dp K H y (.tuple ds)) ∧ d.canLay0 = true ∧ PyData.canLayAll0 ds = true ∧ min (PyData.depthAll ds) d.depth ≤ 64 ∧
  Q (.bl (if neg then !ds.any fun z => PyData.eqv z d else ds.any fun z => PyData.eqv z d)) H
theorem op_inA (hu : X.A.units + 65 < cLine) : OpR X (compareOp .In) (rInA X.K false) := by
  intro pins s σ H x y v u Q I rx ry h
  obtain ⟨d, ds, hd, he, sd, se, hm, q⟩ := h
  obtain ⟨as, r1⟩ := Dp.reads I d x v hd rx
  rcases he with he | he
  · obtain ⟨bs, r2⟩ := Dp.reads I _ y u he ry
    exact SeqAt.in_list_reads r2 r1 se sd (by omega) ⟨.bl _, H, I, rfl, q⟩
  · obtain ⟨bs, r2⟩ := Dp.reads I _ y u he ry
    exact SeqAt.in_tuple_reads r2 r1 se sd (by omega) ⟨.bl _, H, I, rfl, q⟩
theorem op_notInA (hu : X.A.units + 65 < cLine) : OpR X (compareOp .NotIn) (rInA X.K true) := by
  intro pins s σ H x y v u Q I rx ry h
  obtain ⟨d, ds, hd, he, sd, se, hm, q⟩ := h
  obtain ⟨as, r1⟩ := Dp.reads I d x v hd rx
  rcases he with he | he
  · obtain ⟨bs, r2⟩ := Dp.reads I _ y u he ry
    exact SeqAt.notIn_list_reads r2 r1 se sd (by omega) ⟨.bl _, H, I, rfl, q⟩
  · obtain ⟨bs, r2⟩ := Dp.reads I _ y u he ry
    exact SeqAt.notIn_tuple_reads r2 r1 se sd (by omega) ⟨.bl _, H, I, rfl, q⟩

/-! #### order -/
theorem key_ints : ∀ ns : List Int, PySem.W.keyToksAll (ns.map PyData.int) = keyIs ns
  | [] => rfl
  | n :: ns => by
    rw [List.map_cons, PySem.W.keyToksAll, key_ints ns, keyIs]
    rfl
mutual
theorem key_toPy : ∀ x : Dt, PySem.W.keyToks (toPy x) = keyD x
  | .non => rfl
  | .bl b => rfl
  | .int i => rfl
  | .str s => by rw [toPy, PySem.W.keyToks, keyD, toS_cps]
  | .tup xs => by rw [toPy, PySem.W.keyToks, keyD, keys_toPy xs]
  | .lst xs => by rw [toPy, PySem.W.keyToks, keyD, keys_toPy xs]
  | .scr ns => by rw [toPy, PySem.W.keyToks, keyD, key_ints ns]
theorem keys_toPy : ∀ xs : List Dt, PySem.W.keyToksAll (toPy.toPys xs) = keyDs xs
  | [] => rfl
  | x :: xs => by rw [toPy.toPys, PySem.W.keyToksAll, keyDs, key_toPy x, keys_toPy xs]
end
theorem sign_eq (a b : Int ⊕ List Nat) : itemLt a b = signLt a b := by
  cases a with
  | inl a => cases b <;> rfl
  | inr a =>
    cases b with
    | inl b => rfl
    | inr b => rfl
theorem row_eq : ∀ a b : List (Int ⊕ List Nat), PyProof.Rows.lexLt itemOrd a b = rowLt a b
  | [], [] => rfl
  | [], _ :: _ => rfl
  | _ :: _, [] => rfl
  | x :: r, y :: t => by
    show (itemLt x y || (!itemLt y x && PyProof.Rows.lexLt itemOrd r t)) = _
    rw [sign_eq, sign_eq, row_eq r t]
    rfl
theorem lt_toPy (x y : Dt) : PySem.W.dataLt (toPy x) (toPy y) = ltB x y := by
  unfold PySem.W.dataLt ltB
  rw [key_toPy, key_toPy, row_eq]
mutual
theorem alike_toPy : ∀ x y : Dt, alikeD x y = true → PySem.W.alike (toPy x) (toPy y) = true
  | .tup xs, .tup ys, h => by
    rw [alikeD] at h
    rw [toPy, toPy, PySem.W.alike]
    exact alikes_toPy xs ys h
  | .lst xs, .lst ys, h => by
    rw [alikeD] at h
    rw [toPy, toPy, PySem.W.alike]
    exact alikes_toPy xs ys h
  | .non, .non, _ => rfl
  | .bl _, .bl _, _ => rfl
  | .int _, .int _, _ => rfl
  | .str _, .str _, _ => rfl
  | .scr _, y, h => by cases y <;> simp [alikeD] at h
  | .non, .bl _, h | .non, .int _, h | .non, .str _, h | .non, .tup _, h | .non, .lst _, h | .non, .scr _, h => by simp [alikeD] at h
  | .bl _, .non, h | .bl _, .int _, h | .bl _, .str _, h | .bl _, .tup _, h | .bl _, .lst _, h | .bl _, .scr _, h => by simp [alikeD] at h
  | .int _, .non, h | .int _, .bl _, h | .int _, .str _, h | .int _, .tup _, h | .int _, .lst _, h | .int _, .scr _, h => by simp [alikeD] at h
  | .str _, .non, h | .str _, .bl _, h | .str _, .int _, h | .str _, .tup _, h | .str _, .lst _, h | .str _, .scr _, h => by simp [alikeD] at h
  | .tup _, .non, h | .tup _, .bl _, h | .tup _, .int _, h | .tup _, .str _, h | .tup _, .lst _, h | .tup _, .scr _, h => by simp [alikeD] at h
  | .lst _, .non, h | .lst _, .bl _, h | .lst _, .int _, h | .lst _, .str _, h | .lst _, .tup _, h | .lst _, .scr _, h => by simp [alikeD] at h
theorem alikes_toPy : ∀ xs ys : List Dt, alikeDs xs ys = true → PySem.W.alikeAll (toPy.toPys xs) (toPy.toPys ys) = true
  | [], _, _ => by rw [toPy.toPys, PySem.W.alikeAll]
  | x :: xs, [], _ => by rw [toPy.toPys, toPy.toPys, PySem.W.alikeAll]
  | x :: xs, y :: ys, h => by
    rw [alikeDs, Bool.and_eq_true] at h
    rw [toPy.toPys, toPy.toPys, PySem.W.alikeAll, alike_toPy x y h.1, alikes_toPy xs ys h.2]
    rfl
end
/-- an order's answer, of alike data -/
def rOrd (K : PySem.W.Frag) (f : PyData → PyData → Bool) : R2 := fun x y H Q => ∃ d e, Dp K H x d ∧ Dp K H y e ∧ PySem.W.alike d e = true ∧ d ≠ .none ∧ min d.depth e.depth ≤ 60 ∧ Q (.bl (f d e)) H
theorem op_ltA (hu : X.A.units + 65 < cLine) : OpR X (compareOp .Lt) (rOrd X.K PySem.W.dataLt) := by
  intro pins s σ H x y v u Q I rx ry h
  obtain ⟨d, e, hd, he, ha, hn, hm, q⟩ := h
  obtain ⟨as, r1⟩ := Dp.reads I d x v hd rx
  obtain ⟨bs, r2⟩ := Dp.reads I e y u he ry
  exact PySem.W.lt_data r1 r2 ha hn (by omega) ⟨.bl _, H, I, rfl, q⟩
theorem op_leA (hu : X.A.units + 65 < cLine) : OpR X (compareOp .LtE) (rOrd X.K fun d e => !PySem.W.dataLt e d) := by
  intro pins s σ H x y v u Q I rx ry h
  obtain ⟨d, e, hd, he, ha, hn, hm, q⟩ := h
  obtain ⟨as, r1⟩ := Dp.reads I d x v hd rx
  obtain ⟨bs, r2⟩ := Dp.reads I e y u he ry
  exact PySem.W.le_data r1 r2 ha hn (by omega) ⟨.bl _, H, I, rfl, q⟩

def pyCop : Cop → CmpOp
  | .eq => .Eq | .ne => .NotEq | .lt => .Lt | .le => .LtE | .gt => .Gt | .ge => .GtE | .is => .Is | .isnot => .IsNot | .inn => .In | .notin => .NotIn
def rCop (K : PySem.W.Frag) : Cop → R2
  | .eq => rEqA K false
  | .ne => rEqA K true
  | .lt => fun x y H Q => rI0 (fun i j => .bl (decide (i < j))) x y H Q ∨ rOrd K PySem.W.dataLt x y H Q
  | .le => fun x y H Q => rI0 (fun i j => .bl (decide (i ≤ j))) x y H Q ∨ rOrd K (fun d e => !PySem.W.dataLt e d) x y H Q
  | .gt => rI0 fun i j => .bl (decide (j < i))
  | .ge => rI0 fun i j => .bl (decide (j ≤ i))
  | .is => fun x y H Q => (y = .non ∧ Q (.bl (decide (x = .non))) H) ∨ rIsB x y H Q
  | .isnot => fun x y H Q => (y = .non ∧ Q (.bl (!decide (x = .non))) H) ∨ rNotB x y H Q
  | .inn => fun x y H Q => (∃ (c : Nat) (z : Str), x = .str ⟨#[c]⟩ ∧ y = .str z ∧ Q (.bl (decide (c ∈ z.cps.toList))) H) ∨ rInA K false x y H Q
  | .notin => fun x y H Q => (∃ (c : Nat) (z : Str), x = .str ⟨#[c]⟩ ∧ y = .str z ∧ Q (.bl (!decide (c ∈ z.cps.toList))) H) ∨ rInA K true x y H Q
theorem op_cop (hu : X.A.units + 65 < cLine) : ∀ o : Cop, OpR X (compareOp (pyCop o)) (rCop X.K o)
  | .eq => op_eqA hu
  | .ne => op_neA hu
  | .lt => op_lt.or (op_ltA hu)
  | .le => op_le.or (op_leA hu)
  | .gt => op_gt
  | .ge => op_ge
  | .is => op_isN.or op_isBl
  | .isnot => op_notN.or op_notBl
  | .inn => op_in_sign.or (op_inA hu)
  | .notin => op_notIn_sign.or (op_notInA hu)
theorem vrep_non {x : Dt} {v : V} (h : VRep K av H x v) : decide (v = V.non) = isNonD x := by
  cases x with
  | lst xs => obtain ⟨a, vs, rfl, r, e⟩ := vlst h; rfl
  | tup xs => obtain ⟨a, vs, rfl, r, e⟩ := vtup h; rfl
  | non => cases vnon h; rfl
  | bl b => cases vbl h; rfl
  | int i => cases vint h; rfl
  | str s => obtain ⟨rfl, _⟩ := vstr h; rfl
  | scr ns => obtain ⟨a, rfl, _⟩ := vscr h; rfl
theorem ops_cop (o : Cop) : OpS K (fun x y => blO (copD o x y)) (rCop K o) := by
  intro av H x y z v u Q ht hx hy e q
  dsimp only at e
  have hq : ∀ b, copD o x y = some b → Q (.bl b) H := fun b hb => by
    rw [hb] at e
    cases e
    exact q _ H (.refl H) (.bl _)
  have hn : ∃ b, copD o x y = some b := by
    cases h : copD o x y with
    | none => rw [h] at e; cases e
    | some b => exact ⟨b, rfl⟩
  clear q e
  obtain ⟨b, hb⟩ := hn
  have hq := hq b hb
  have hI : ∀ (g : Int → Int → Bool) (i j : Int), x = .int i → y = .int j → b = g i j → rI0 (fun i j => .bl (g i j)) v u H Q := fun g i j h1 h2 h3 => by
    subst h1 h2 h3
    cases vint hx; cases vint hy
    exact ⟨_, _, rfl, rfl, hq⟩
  have hO : ∀ (f : PyData → PyData → Bool) (c : Bool), f (toPy x) (toPy y) = c → toPy x ≠ .none → ordD x y c = some b → rOrd K f v u H Q := fun f c h1 h2 h3 => by
    unfold ordD at h3
    split at h3
    · rename_i hc
      cases h3
      refine ⟨toPy x, toPy y, hx.dp.1, hy.dp.1, alike_toPy _ _ hc.1, h2, by rw [dep_toPy, dep_toPy]; omega, ?_⟩
      rw [h1]
      exact hq
    · cases h3
  have hIn : ∀ (neg : Bool) (xs : List Dt), (y = .tup xs ∨ y = .lst xs) → (if depD x ≤ 64 ∨ depDs xs ≤ 64 then some (if neg then !xs.any fun z => eqD z x else xs.any fun z => eqD z x) else none) = some b → rInA K neg v u H Q := fun neg xs h1 h2 => by
    split at h2
    · rename_i hc
      cases h2
      obtain ⟨h3, h4⟩ := hx.dp
      obtain ⟨h5, h6⟩ := hy.dp
      refine ⟨toPy x, toPy.toPys xs, h3, ?_, h4, ?_, ?_, ?_⟩
      · rcases h1 with rfl | rfl
        · rw [toPy] at h5; exact .inr h5
        · rw [toPy] at h5; exact .inl h5
      · rcases h1 with rfl | rfl
        · simpa only [toPy, PyData.canLay0] using h6
        · simpa only [toPy, PyData.canLay0] using h6
      · rw [dep_toPy, deps_toPy]
        omega
      · rw [any_toPy]
        exact hq
    · cases h2
  unfold copD at hb
  split at hb
  -- eq, ne
  · split at hb
    · rename_i hc
      cases hb
      refine ⟨_, _, hx.dp.1, hy.dp.1, hx.dp.2, hy.dp.2, by rw [dep_toPy, dep_toPy]; omega, ?_⟩
      rw [eqv_toPy]
      exact hq
    · cases hb
  · split at hb
    · rename_i hc
      cases hb
      refine ⟨_, _, hx.dp.1, hy.dp.1, hx.dp.2, hy.dp.2, by rw [dep_toPy, dep_toPy]; omega, ?_⟩
      rw [eqv_toPy]
      exact hq
    · cases hb
  · cases hb; exact .inl (hI (fun i j => decide (i < j)) _ _ rfl rfl rfl)
  · cases hb; exact .inl (hI (fun i j => decide (i ≤ j)) _ _ rfl rfl rfl)
  · cases hb; exact hI (fun i j => decide (j < i)) _ _ rfl rfl rfl
  · cases hb; exact hI (fun i j => decide (j ≤ i)) _ _ rfl rfl rfl
  · exact .inr (hO PySem.W.dataLt _ (lt_toPy _ _) (by simp [toPy]) hb)
  · exact .inr (hO PySem.W.dataLt _ (lt_toPy _ _) (by simp [toPy]) hb)
  · exact .inr (hO (fun d e => !PySem.W.dataLt e d) _ (congrArg Bool.not (lt_toPy _ _)) (by simp [toPy]) hb)
  · exact .inr (hO (fun d e => !PySem.W.dataLt e d) _ (congrArg Bool.not (lt_toPy _ _)) (by simp [toPy]) hb)
  · cases hb
    refine .inl ⟨vnon hy, ?_⟩
    rw [vrep_non hx]
    exact hq
  · cases hb
    cases vbl hx; cases vbl hy
    refine .inr ⟨_, _, rfl, rfl, ?_⟩
    rw [← Bool.beq_eq_decide_eq]
    exact hq
  · cases hb
    refine .inl ⟨vnon hy, ?_⟩
    rw [vrep_non hx]
    exact hq
  · cases hb
    cases vbl hx; cases vbl hy
    refine .inr ⟨_, _, rfl, rfl, ?_⟩
    rw [← Bool.beq_eq_decide_eq]
    exact hq
  · cases hb
    obtain ⟨rfl, _⟩ := vstr hx
    obtain ⟨rfl, _⟩ := vstr hy
    refine .inl ⟨_, _, rfl, rfl, ?_⟩
    rw [toS_cps]
    exact hq
  · exact .inr (hIn false _ (.inl rfl) hb)
  · exact .inr (hIn false _ (.inr rfl) hb)
  · cases hb
    obtain ⟨rfl, _⟩ := vstr hx
    obtain ⟨rfl, _⟩ := vstr hy
    refine .inl ⟨_, _, rfl, rfl, ?_⟩
    rw [toS_cps]
    exact hq
  · exact .inr (hIn true _ (.inl rfl) hb)
  · exact .inr (hIn true _ (.inr rfl) hb)
  · cases hb
end
end PB

set_option Elab.async false
set_option linter.all false
set_option maxRecDepth 100000
set_option maxHeartbeats 4000000
set_option backward.match.sparseCases false
/-! Builtins, places, slices, methods. -/
namespace PB
open PySem PySem.Spec PyProof.Rows L2
section
variable {X : Cx} {K : PySem.W.Frag} {av : List Addr} {H : Hp}

theorem S2_ofString (s : String) : (Str.ofString s) = toS (S2 s) := by
  unfold Str.ofString toS S2
  rw [cpsOfBytes_string]
theorem okS_S2 {s : String} (h : (S2 s).length ≤ lim) : okS (S2 s) := by
  refine ⟨h, fun c hc => ?_⟩
  unfold S2 at hc
  obtain ⟨ch, _, rfl⟩ := List.mem_map.mp hc
  have := ch.valid
  show ch.val.toNat < 1114112
  rcases this with h1 | ⟨_, h1⟩ <;> omega

/-! #### builtins of one argument -/
inductive Bi where
  | fn (id : String)
  | ty (id : String)
def pyP1 : P1 → String
  | .len => "len" | .all => "all" | .any => "any" | .tuple => "tuple" | .list => "list" | .str => "str" | .int => "int" | .sorted => "sorted"
def p1Ty : P1 → Bool
  | .len => false | .all => false | .any => false | .tuple => true | .list => true | .str => true | .int => true | .sorted => false
def valP1 (p : P1) : Value := if p1Ty p then .type (pyP1 p) else .builtin (pyP1 p)
/-! #### sorted -/
theorem vals_each : ∀ {out : List Value} {zs : List (Dt × V)}, PySem.W.EachIs (fun v z => RelV z.2 v) out zs → Vals (zs.map Prod.snd) out
  | _, _, .nil => .nil
  | _, _, .cons h t => .cons h (vals_each t)
theorem each_vals : ∀ {zs : List (Dt × V)} {out : List Value}, Vals (zs.map Prod.snd) out → PySem.W.EachIs (fun v z => RelV z.2 v) out zs
  | [], _, h => by cases h; exact .nil
  | z :: zs, _, h => by
    cases h with
    | cons a b => exact .cons a (each_vals b)
theorem each_and {α β : Type} {R S : α → β → Prop} : ∀ {as : List α} {bs : List β}, PySem.W.EachIs R as bs → (∀ a, ∀ b ∈ bs, R a b → S a b) → PySem.W.EachIs S as bs
  | _, _, .nil, _ => .nil
  | _, _, .cons h t, f => .cons (f _ _ List.mem_cons_self h) (each_and t fun a b hb => f a b (List.mem_cons_of_mem _ hb))
theorem le_toPy : (PySem.W.dataLe false fun z : Dt × V => toPy z.1) = fun a b => !ltB b.1 a.1 := by
  funext a b
  show (!PyProof.Rows.lexLt itemOrd (PySem.W.keyToks (toPy b.1)) (PySem.W.keyToks (toPy a.1))) = _
  rw [key_toPy, key_toPy, row_eq]
  rfl
def rSorted (K : PySem.W.Frag) : List V → Hp → VK → Prop := fun vs H Q => ∃ (a : Addr) (zs : List (Dt × V)), vs = [V.ref a] ∧ SqL K H a (zs.map Prod.snd) ∧ (∀ z ∈ zs, Dp K H z.2 (toPy z.1)) ∧ sortableD (zs.map Prod.fst) = true ∧
  ∀ p, H p = none → Q (.ref p) (upd H p (.lst ((zs.mergeSort fun a b => !ltB b.1 a.1).map Prod.snd)))
theorem dep_mem : ∀ {xs : List Dt} {x : Dt}, x ∈ xs → depD x ≤ depDs xs
  | y :: xs, x, h => by
    simp only [depDs]
    rcases List.mem_cons.mp h with rfl | h
    · omega
    · have := dep_mem h; omega
theorem call_sorted (hu : X.A.units + 65 < cLine) : CallR X (.builtin "sorted") (rSorted X.K) := by
  intro pins s σ H vs us Q I r h
  obtain ⟨a, zs, rfl, hs, hd, ok, q⟩ := h
  obtain ⟨its, rv, hl, hz⟩ := I.list hs
  obtain ⟨u, rfl, ru⟩ := vals1 r
  obtain rfl : u = Value.ref a := ru
  have e1 := each_vals rv
  unfold sortableD at ok
  simp only [Bool.and_eq_true, List.all_eq_true, decide_eq_true_eq, Bool.or_eq_true] at ok
  obtain ⟨⟨o1, o2⟩, o3⟩ := ok
  have er : PySem.W.EachIs (fun v z => ∃ as, Reads s.heap v (toPy z.1) as) its zs := each_and e1 fun v z hz hr => Dp.reads I _ _ _ (hd z hz) hr
  refine PySem.W.sorted_data (R := fun v z => RelV z.2 v) (enc := fun z : Dt × V => toPy z.1) hl.isList e1 er ?_ ?_ (by rw [List.length_map] at hz; exact hz) ?_ fun out hlen ho => ?_
  · intro d hd d' hd'
    obtain ⟨z, hz, rfl⟩ := List.mem_map.mp hd
    obtain ⟨z', hz', rfl⟩ := List.mem_map.mp hd'
    exact alike_toPy _ _ (o1 _ (List.mem_map_of_mem hz) _ (List.mem_map_of_mem hz'))
  · rcases o2 with o2 | o2
    · left
      intro d hd
      obtain ⟨z, hz, rfl⟩ := List.mem_map.mp hd
      have := o2 _ (List.mem_map_of_mem hz)
      split at this
      · rename_i x r e
        exact ⟨toPy x, toPy.toPys r, by rw [e, toPy, toPy.toPys]⟩
      · cases this
    · right
      intro d hd
      obtain ⟨z, hz, rfl⟩ := List.mem_map.mp hd
      have := o2 _ (List.mem_map_of_mem hz)
      cases e : z.1 <;> rw [e] at this <;> first | (cases this; done) | (refine ⟨?_, ?_⟩ <;> simp [toPy])
  · intro z hz
    have := dep_mem (List.mem_map_of_mem (f := Prod.fst) hz)
    rw [dep_toPy]
    omega
  · rw [le_toPy] at ho
    obtain ⟨n, hn⟩ := sortedAll_at s.heap its out.toArray
    refine ⟨.ref (s.heap.objs.size + 1), upd H (s.heap.objs.size + 1) (.lst ((zs.mergeSort fun a b => !ltB b.1 a.1).map Prod.snd)), I.laid (t' := s.toks) (fun b o e => sortedAll_old e) (Nat.le_succ _) ⟨?_, out, n, vals_each ho, hn⟩, rfl, q _ (I.hok.fresh (Nat.le_succ _))⟩
    rw [List.length_map, List.length_mergeSort]
    rw [List.length_map] at hz
    exact hz
theorem callR_or {f : Value} {r r' : List V → Hp → VK → Prop} (h : CallR X f r) (h' : CallR X f r') : CallR X f (fun xs H Q => r xs H Q ∨ r' xs H Q) := by
  intro pins s σ H xs us Q I rv q
  rcases q with q | q
  · exact h pins s σ H xs us Q I rv q
  · exact h' pins s σ H xs us Q I rv q
def rP1 (K : PySem.W.Frag) : P1 → List V → Hp → VK → Prop
  | .len => fun xs H Q => ∃ x n, xs = [x] ∧ LenV K x H n ∧ Q (.int n) H
  | .all => rAll K
  | .any => rAny K
  | .tuple => fun xs H Q => ∃ p ys, xs = [.ref p] ∧ ((SqL K H p ys ∧ ∀ l, H l = none → Q (.ref l) (upd H l (.tup ys))) ∨ (SqT K H p ys ∧ Q (.ref p) H))
  | .list => fun xs H Q => ∃ p ys, xs = [.ref p] ∧ (SqL K H p ys ∨ SqT K H p ys) ∧ ∀ l, H l = none → Q (.ref l) (upd H l (.lst ys))
  | .str => fun xs H Q => ∃ i, xs = [.int i] ∧ i.natAbs.log2 < 1920 ∧ Q (.str (toString i)) H
  | .int => fun xs H Q => ((∃ i, xs = [.int i] ∧ Q (.int i) H) ∨ ∃ k, xs = [.bl k] ∧ Q (.int (if k then 1 else 0)) H) ∨ (∃ a n, xs = [.str a] ∧ PySem.intText? a = some n ∧ a.length ≤ 640 ∧ Q (.int n) H)
  | .sorted => rSorted K
theorem call_p1 (hc : X.calm = true) (hu : X.A.units + 65 < cLine) : ∀ p : P1, CallR X (valP1 p) (rP1 X.K p)
  | .len => call_len
  | .all => cr_all hc
  | .any => cr_any hc
  | .tuple => call_tuple_of
  | .list => call_list_of
  | .str => call_str_int
  | .int => callR_or call_int1 call_int_str
  | .sorted => call_sorted hu
def pyB2 : B2 → String
  | .min => "min" | .max => "max"
def rB2 : B2 → List V → Hp → VK → Prop
  | .min => fun xs H Q => ∃ i j, xs = [.int i, .int j] ∧ Q (.int (if j < i then j else i)) H
  | .max => fun xs H Q => ∃ i j, xs = [.int i, .int j] ∧ Q (.int (if j > i then j else i)) H
theorem call_b2 (hc : X.calm = true) : ∀ o : B2, CallR X (.builtin (pyB2 o)) (rB2 o)
  | .min => call_min2 hc
  | .max => call_max2 hc
theorem ops_b2 (o : B2) : OpS K (b2D o) (fun v u H Q => rB2 o [v, u] H Q) := by
  intro av H x y z v u Q ht hx hy e q
  unfold b2D at e
  split at e
  · cases e
    cases vint hx
    cases vint hy
    exact ⟨_, _, rfl, q _ H (.refl H) (.int _)⟩
  · cases e
    cases vint hx
    cases vint hy
    exact ⟨_, _, rfl, q _ H (.refl H) (.int _)⟩
  · cases e
theorem RepL.zip : ∀ {xs : List Dt} {vs : List V}, RepL K av H xs vs → ∀ z ∈ xs.zip vs, Rep K av H z.1 z.2
  | _, _, .nil, z, h => by cases h
  | _, _, .cons a r, z, h => by
    rw [List.zip_cons_cons] at h
    rcases List.mem_cons.mp h with rfl | h
    · exact a
    · exact RepL.zip r z h
theorem RepL.of_pairs : ∀ (zs : List (Dt × V)), (∀ z ∈ zs, Rep K av H z.1 z.2) → RepL K av H (zs.map Prod.fst) (zs.map Prod.snd)
  | [], _ => .nil
  | z :: zs, h => .cons (h z List.mem_cons_self) (RepL.of_pairs zs fun y hy => h y (List.mem_cons_of_mem _ hy))
theorem str_len {i : Int} (h : i.natAbs.log2 < 1920) : (S2 (toString i)).length ≤ lim := by
  have := int_text_fits h
  rw [S2_ofString, toS_len] at this
  rw [lim_eq]
  exact this
theorem uns_p1 (p : P1) : UnS K (p1D p) (fun v H Q => rP1 K p [v] H Q) := by
  intro av H x z v Q ht hx e q
  unfold p1D at e
  split at e
  · cases e
    obtain ⟨rfl, hs⟩ := vstr hx
    refine ⟨_, _, rfl, ⟨by rw [toS_len, ← lim_eq]; exact hs.1, rfl⟩, ?_⟩
    rw [toS_len]
    exact q _ H (.refl H) (.int _)
  · cases e
    obtain ⟨a, vs, rfl, ha, ra⟩ := vtup hx
    refine ⟨_, vs.length, rfl, .inr ⟨vs, ha, rfl⟩, ?_⟩
    rw [← ra.length]
    exact q _ H (.refl H) (.int _)
  · cases e
    obtain ⟨a, vs, rfl, ha, ra⟩ := vlst hx
    refine ⟨_, vs.length, rfl, .inl ⟨vs, .inl ha, rfl⟩, ?_⟩
    rw [← ra.length]
    exact q _ H (.refl H) (.int _)
  · cases e
    obtain ⟨a, rfl, ha⟩ := vscr hx
    refine ⟨_, _, rfl, .inl ⟨_, ha, rfl⟩, ?_⟩
    rw [List.length_map]
    exact q _ H (.refl H) (.int _)
  · obtain ⟨a, vs, rfl, ha, ra⟩ := vlst hx
    obtain ⟨bs, e1, rfl⟩ := Option.map_eq_some_iff.mp e
    have := ra.bls e1
    subst this
    exact ⟨a, bs, rfl, .inl ha, q _ H (.refl H) (.bl _)⟩
  · obtain ⟨a, vs, rfl, ha, ra⟩ := vlst hx
    obtain ⟨bs, e1, rfl⟩ := Option.map_eq_some_iff.mp e
    have := ra.bls e1
    subst this
    exact ⟨a, bs, rfl, .inl ha, q _ H (.refl H) (.bl _)⟩
  · cases e
    obtain ⟨a, vs, rfl, ha, ra⟩ := vlst hx
    exact ⟨a, vs, rfl, .inl ⟨.inl ha, fun l hl => q _ _ (same_new hl) (rep_newT ht hl ra)⟩⟩
  · cases e
    obtain ⟨a, vs, rfl, ha, ra⟩ := vtup hx
    exact ⟨a, vs, rfl, .inr ⟨ha, q _ H (.refl H) hx⟩⟩
  · cases e
    obtain ⟨a, vs, rfl, ha, ra⟩ := vlst hx
    exact ⟨a, vs, rfl, .inl (.inl ha), fun l hl => q _ _ (same_new hl) (rep_newL ht hl ra)⟩
  · cases e
    obtain ⟨a, vs, rfl, ha, ra⟩ := vtup hx
    exact ⟨a, vs, rfl, .inr ha, fun l hl => q _ _ (same_new hl) (rep_newL ht hl ra)⟩
  · split at e
    · rename_i xs hok
      cases e
      obtain ⟨a, vs, rfl, ha, ra⟩ := vlst hx
      have hl := ra.length
      have z1 : (xs.zip vs).map Prod.fst = xs := List.map_fst_zip (by omega)
      have z2 : (xs.zip vs).map Prod.snd = vs := List.map_snd_zip (by omega)
      have hz : ∀ z ∈ xs.zip vs, Rep K av H z.1 z.2 := fun z hz => RepL.zip ra z hz
      refine ⟨a, xs.zip vs, rfl, by rw [z2]; exact .inl ha, fun z h => (hz z h).dp.1, by rw [z1]; exact hok, fun p hp => ?_⟩
      have e1 : sortD xs = ((xs.zip vs).mergeSort fun a b => !ltB b.1 a.1).map Prod.fst := by
        rw [List.map_mergeSort (s := fun a b => !ltB b a) (fun a _ b _ => rfl), z1]
        rfl
      refine q _ _ (same_new hp) ?_
      rw [e1]
      exact rep_newL ht hp (RepL.of_pairs _ fun z h => hz z (List.mem_mergeSort.mp h))
    · cases e
  · cases vint hx
    split at e
    · rename_i i hi
      cases e
      have hlg : i.natAbs.log2 < 1920 := by
        by_cases h0 : i.natAbs = 0
        · rw [h0]; decide
        · have := (Nat.log2_lt h0 (k := 64)).mpr hi
          omega
      refine ⟨i, rfl, hlg, ?_⟩
      · have := q (.str (toS (S2 (toString i)))) H (.refl H) (.str _ (okS_S2 (str_len hlg)))
        rw [← S2_ofString] at this
        exact this
    · cases e
  · cases e
    cases vbl hx
    exact .inl (.inr ⟨_, rfl, q _ H (.refl H) (.int _)⟩)
  · cases e
    cases vint hx
    exact .inl (.inl ⟨_, rfl, q _ H (.refl H) (.int _)⟩)
  · split at e
    · rename_i s hc
      cases e
      obtain ⟨rfl, _⟩ := vstr hx
      refine .inr ⟨toS s, _, rfl, PySem.intText_digits (x := toS s) (fun c h => ?_) (by rw [toS_cps]; exact hc.1) (by rw [toS_len]; omega), by rw [toS_len]; omega, ?_⟩
      · rw [toS_cps] at h
        have := List.all_eq_true.mp hc.2.1 c h
        simpa using this
      · rw [toS_cps]
        exact q _ H (.refl H) (.int _)
    · cases e
  · cases e

/-! #### places -/
theorem ixP_eq (n : Nat) (i : Int) : ixP n i = ixN n i := rfl
theorem ops_ix : OpS K ixD (rIx K) := by
  intro av H x y z v u Q ht hx hy e q
  unfold ixD at e
  split at e
  · obtain ⟨rfl, hs⟩ := vstr hx
    cases vint hy
    obtain ⟨c, e1, rfl⟩ := Option.map_eq_some_iff.mp e
    refine .inr (.inr ⟨_, _, c, rfl, rfl, by rw [toS_len, ← lim_eq]; exact hs.1, by rw [toS_cps]; exact e1, ?_⟩)
    refine q (.str (toS [c])) H (.refl H) (.str _ ⟨by show 1 ≤ 16777216; decide, fun c' hc' => ?_⟩)
    have e2 : c' = c := by simpa using hc'
    subst e2
    unfold ixL at e1
    obtain ⟨j, _, e3⟩ := Option.bind_eq_some_iff.mp e1
    exact hs.2 _ (List.mem_of_getElem? e3)
  · obtain ⟨a, vs, rfl, ha, ra⟩ := vtup hx
    cases vint hy
    unfold ixL at e
    obtain ⟨j, e2, e3⟩ := Option.bind_eq_some_iff.mp e
    obtain ⟨w, e4, rw'⟩ := ra.get e3
    refine .inr (.inl ⟨a, vs, _, w, rfl, rfl, ha, ?_, q _ H (.refl H) rw'⟩)
    unfold atI
    rw [← ra.length, ← ixP_eq, e2]
    exact e4
  · obtain ⟨a, vs, rfl, ha, ra⟩ := vlst hx
    cases vint hy
    unfold ixL at e
    obtain ⟨j, e2, e3⟩ := Option.bind_eq_some_iff.mp e
    obtain ⟨w, e4, rw'⟩ := ra.get e3
    refine .inl ⟨a, vs, _, w, rfl, rfl, .inl ha, ?_, q _ H (.refl H) rw'⟩
    unfold atI
    rw [← ra.length, ← ixP_eq, e2]
    exact e4
  · obtain ⟨a, rfl, ha⟩ := vscr hx
    cases vint hy
    obtain ⟨k, e1, rfl⟩ := Option.map_eq_some_iff.mp e
    unfold ixL at e1
    obtain ⟨j, e2, e3⟩ := Option.bind_eq_some_iff.mp e1
    refine .inl ⟨a, _, _, .int k, rfl, rfl, ha, ?_, q _ H (.refl H) (.int _)⟩
    unfold atI
    rw [List.length_map, ← ixP_eq, e2]
    show (_ : List V)[j]? = _
    rw [List.getElem?_map, e3]
    rfl
  · cases e

/-! #### slices -/
theorem slP_eq (n d : Nat) : ∀ o : Option Int, slP n d o = HT.sIx n d o
  | none => rfl
  | some _ => rfl
theorem RepL.cut {xs : List Dt} {vs : List V} (r : RepL K av H xs vs) (lo hi : Option Int) : RepL K av H (cutL xs lo hi) (cutV vs lo hi) := by
  unfold cutL cutV
  rw [slP_eq, slP_eq, r.length]
  exact (r.drop _).take _
def rSl (K : PySem.W.Frag) : V → Option Int → Option Int → Hp → VK → Prop := fun x lo hi H Q => rSlS x lo hi H Q ∨ (rSlA K x lo hi H Q ∨ rSlL K x lo hi H Q)
theorem sl_any : SlR X (rSl X.K) := sl_str.or (sl_tupA.or sl_list)
theorem uns_sl (lo hi : Option Int) : UnS K (fun x => slD x lo hi) (fun v H Q => rSl K v lo hi H Q) := by
  intro av H x z v Q ht hx e q
  dsimp only at e
  unfold slD at e
  split at e
  · cases e
    rename_i s
    obtain ⟨rfl, hs⟩ := vstr hx
    refine .inl ⟨_, rfl, by rw [toS_len, ← lim_eq]; exact hs.1, ?_⟩
    have e2 : cutS (toS s) lo hi = toS (cutL s lo hi) := by
      unfold cutS cutL
      rw [toS_cps, toS_len, slP_eq, slP_eq]
      rfl
    rw [e2]
    refine q _ H (.refl H) (.str _ ⟨?_, fun c hc => hs.2 c (List.mem_of_mem_drop (List.mem_of_mem_take hc))⟩)
    refine Nat.le_trans ?_ hs.1
    unfold cutL
    rw [List.length_take, List.length_drop]
    omega
  · cases e
    rename_i xs
    obtain ⟨a, vs, rfl, ha, ra⟩ := vtup hx
    refine .inr (.inl ⟨a, vs, rfl, ha, fun hw => ?_, fun _ p hp => q _ _ (same_new hp) (rep_newT ht hp (ra.cut lo hi))⟩)
    have e2 : cutL xs lo hi = xs := by
      unfold cutL
      rw [slP_eq, slP_eq, ra.length, hw.1, hw.2, ← ra.length]
      simp
    rw [e2] at q
    exact q _ H (.refl H) hx
  · cases e
    obtain ⟨a, vs, rfl, ha, ra⟩ := vlst hx
    exact .inr (.inr ⟨a, vs, rfl, .inl ha, fun p hp => q _ _ (same_new hp) (rep_newL ht hp (ra.cut lo hi))⟩)
  · cases e

/-! #### isinstance -/
def pyTy : Ty → String
  | .str => "str" | .int => "int" | .bool => "bool" | .tuple => "tuple" | .list => "list"
def tyName : Dt → String
  | .non => "NoneType" | .bl _ => "bool" | .int _ => "int" | .str _ => "str" | .tup _ => "tuple" | .lst _ => "list" | .scr _ => "list"
theorem kit_isi (x : Dt) (t : Ty) : kitB (tyName x) (pyTy t) = some (isiD t x) := by
  cases x <;> cases t <;> simp only [tyName, pyTy, isiD] <;> decide +kernel
theorem vrep_ty {x : Dt} {v : V} (h : VRep K av H x v) : TyX K H v (.type (tyName x)) := by
  cases x with
  | lst xs =>
    obtain ⟨a, vs, rfl, r, e⟩ := vlst h
    rcases r with r | ⟨o, r⟩
    · exact .base (.lst r)
    · exact .base (.frz r)
  | tup xs =>
    cases (show Rep K av H (.tup xs) v from h) with
    | tup _ r _ =>
      rcases r with r | ⟨o, r⟩
      · exact .base (.tup r)
      · exact .fTuple r
    | tupK r _ =>
      obtain ⟨o, _, _, h1, h2, _⟩ := r
      exact .kTuple h1 h2
  | non => cases vnon h; exact .base .non
  | bl b => cases vbl h; exact .base (.bl _)
  | int i => cases vint h; exact .base (.int _)
  | str s => obtain ⟨rfl, _⟩ := vstr h; exact .base (.str _)
  | scr ns =>
    obtain ⟨a, rfl, r⟩ := vscr h
    rcases r with (r | ⟨o, r⟩) | ⟨o, its, n, h1, h2, _⟩
    · exact .base (.lst r)
    · exact .base (.frz r)
    · exact .kList h1 h2
theorem uns_isi (t : Ty) : UnS K (fun x => some (.bl (isiD t x))) (fun v H Q => rIsi K [v, .ty (pyTy t)] H Q) := by
  intro av H x z v Q ht hx e q
  cases e
  exact ⟨v, .ty (pyTy t), _, _, _, rfl, .ty _, vrep_ty hx, kit_ty (kit_isi x t), q _ H (.refl H) (.bl _)⟩

theorem vrep_same {H1 : Hp} {x : Dt} {v : V} (h : VRep K av H x v) (sm : Same H H1) : VRep K av H1 x v := by
  have kp : Keeps av H av H1 := fun a o n e => ⟨sm a o e, n⟩
  cases x with
  | lst xs =>
    obtain ⟨a, vs, rfl, r, e⟩ := vlst h
    refine ⟨a, vs, rfl, ?_, RepL.keep kp e⟩
    rcases r with r | ⟨o, r⟩
    · exact .inl (sm _ _ r)
    · exact .inr ⟨o, sm _ _ r⟩
  | non => exact Rep.keep kp (show Rep K av H .non v from h)
  | bl b => exact Rep.keep kp (show Rep K av H (.bl b) v from h)
  | int i => exact Rep.keep kp (show Rep K av H (.int i) v from h)
  | str s => exact Rep.keep kp (show Rep K av H (.str s) v from h)
  | tup xs => exact Rep.keep kp (show Rep K av H (.tup xs) v from h)
  | scr ns => exact Rep.keep kp (show Rep K av H (.scr ns) v from h)
theorem uns_isi2 (t u : Ty) : UnS K (fun x => some (.bl (isiD t x || isiD u x))) (fun v H Q => [V.ty (pyTy t), V.ty (pyTy u)].length ≤ sizeLine ∧ ∀ tp, H tp = none → rIsiT K [v, .ref tp] (upd H tp (.tup [.ty (pyTy t), .ty (pyTy u)])) Q) := by
  intro av H x z v Q ht hx e q
  refine ⟨by rw [sizeLine_eq]; show 2 ≤ 16777216; decide, fun tp hp => ?_⟩
  cases e
  have sm : Same H (upd H tp (.tup [.ty (pyTy t), .ty (pyTy u)])) := same_new hp
  have hx' : VRep K av (upd H tp (.tup [.ty (pyTy t), .ty (pyTy u)])) x v := vrep_same hx sm
  refine ⟨v, tp, [.ty (pyTy t), .ty (pyTy u)], _, _, _, rfl, upd_same, .cons (.ty _) (.cons (.ty _) .nil), vrep_ty hx', ?_, q _ _ sm (.bl _)⟩
  refine kitAny_cons (kit_ty (kit_isi x t)) (fun h1 => ?_) (fun h1 => by rw [h1]; rfl)
  refine kitAny_cons (kit_ty (kit_isi x u)) (fun h2 => ?_) (fun h2 => by rw [h2, Bool.or_true])
  rw [h1, h2]
  rfl

/-! #### join -/
theorem glued_fold (sep : List Nat) : ∀ (ys : List (List Nat)) (acc : List Nat), (ys.map toS).foldl (fun acc p => acc ++ (toS sep).cps ++ p.cps) acc.toArray = (ys.foldl (fun acc p => acc ++ sep ++ p) acc).toArray
  | [], acc => by simp
  | y :: ys, acc => by
    rw [List.map_cons, List.foldl_cons, List.foldl_cons, ← glued_fold sep ys]
    simp [toS]
theorem fold_join (sep : List Nat) : ∀ (ys : List (List Nat)) (acc : List Nat), ys.foldl (fun acc p => acc ++ sep ++ p) acc = joinL sep (acc :: ys)
  | [], acc => rfl
  | y :: ys, acc => by
    rw [List.foldl_cons, fold_join sep ys]
    cases ys with
    | nil => simp [joinL]
    | cons z r => simp [joinL]
theorem glued_join (sep : List Nat) (ys : List (List Nat)) : Txt.join (toS sep) (ys.map toS) = toS (joinL sep ys) := by
  show Builtin.Str.glued (toS sep) (ys.map toS) = _
  unfold Builtin.Str.glued
  cases ys with
  | nil => rfl
  | cons y r =>
    show Str.mk (List.foldl _ (toS y).cps (r.map toS)) = _
    have := glued_fold sep r y
    rw [fold_join] at this
    show Str.mk _ = Str.mk _
    rw [← this]
    rfl
theorem sum_len (ys : List (List Nat)) : ((ys.map toS).map (·.length)).sum = sumLen ys := by
  induction ys with
  | nil => rfl
  | cons y r ih => simp only [List.map_cons, List.sum_cons, sumLen, toS_len, ih]
theorem mem_join {sep : List Nat} {c : Nat} : ∀ {ys : List (List Nat)}, c ∈ joinL sep ys → c ∈ sep ∨ ∃ y ∈ ys, c ∈ y
  | [], h => by simp [joinL] at h
  | [y], h => .inr ⟨y, by simp, h⟩
  | y :: z :: r, h => by
    rw [joinL, List.mem_append, List.mem_append] at h
    rcases h with (h | h) | h
    · exact .inr ⟨y, by simp, h⟩
    · exact .inl h
    · rcases mem_join h with h | ⟨w, hw, h⟩
      · exact .inl h
      · exact .inr ⟨w, List.mem_cons_of_mem _ hw, h⟩
theorem len_join (sep : List Nat) : ∀ ys : List (List Nat), (joinL sep ys).length ≤ sumLen ys + ys.length * sep.length
  | [] => by simp [joinL]
  | [y] => by simp [joinL, sumLen]
  | y :: z :: r => by
    have := len_join sep (z :: r)
    simp only [joinL, sumLen, List.length_append, List.length_cons, Nat.add_mul] at this ⊢
    omega
theorem RepL.oks : ∀ {xs : List Dt} {vs : List V} {ys : List (List Nat)}, RepL K av H xs vs → allStr xs = some ys → ∀ y ∈ ys, okS y
  | _, _, ys, .nil, e => by
    simp [allStr] at e; subst e; simp
  | _, _, ys, .cons (x := x) h r, e => by
    cases h with
    | str s hs =>
      simp only [allStr, Option.map_eq_some_iff] at e
      obtain ⟨zs, e1, rfl⟩ := e
      intro y hy
      rcases List.mem_cons.mp hy with rfl | hy
      · exact hs
      · exact RepL.oks r e1 y hy
    | _ => simp [allStr] at e
def rJoin (K : PySem.W.Frag) : V → List V → Hp → VK → Prop := fun x xs H Q => ∃ a p, ∃ ys : List Str, x = .str a ∧ xs = [.ref p] ∧ (SqL K H p (ys.map V.str) ∨ SqT K H p (ys.map V.str)) ∧
    (ys.map (·.length)).sum + ys.length * a.length ≤ 16777216 ∧ Q (.str (Txt.join a ys)) H
def pyM1 : M1 → String
  | .join => "join" | .zfill => "zfill" | .split => "split"
/-! #### zfill, split -/
theorem zfill_toS {s : List Nat} {i : Int} (h0 : 0 ≤ i) (h1 : s.head? ≠ some 43) (h2 : s.head? ≠ some 45) : Txt.zfill (toS s) i = toS (List.replicate (i.toNat - s.length) 48 ++ s) := by
  unfold Txt.zfill
  rw [toS_len]
  by_cases h : i ≤ s.length
  · rw [if_pos h, show i.toNat - s.length = 0 by omega]
    rfl
  · rw [if_neg h]
    unfold PySem.zfilled
    have e : (toS s).cps[0]? = s.head? := by cases s <;> rfl
    rw [e]
    have key : Builtin.Str.padded (toS s) (i.toNat - s.length) 0 48 = toS (List.replicate (i.toNat - s.length) 48 ++ s) := by
      unfold Builtin.Str.padded toS
      simp
    cases hs : s.head? with
    | none => exact key
    | some c =>
      rw [hs] at h1 h2
      have n1 : c ≠ 43 := fun e => h1 (by rw [e])
      have n2 : c ≠ 45 := fun e => h2 (by rw [e])
      split
      · rename_i e; cases e; exact absurd rfl n1
      · rename_i e; cases e; exact absurd rfl n2
      · exact key
theorem uns_zfill {s : List Nat} (ho : okS s) : UnS K (m1S .zfill s) (fun u H Q => ∃ (a : Str) (i : Int), V.str (toS s) = .str a ∧ [u] = [.int i] ∧ PadOk i = true ∧ Q (.str (Txt.zfill a i)) H) := by
  intro av H y z u Q ht hy e q
  cases y with
  | int i =>
    cases vint hy
    simp only [m1S] at e
    split at e
    · rename_i hc
      cases e
      refine ⟨toS s, i, rfl, rfl, ?_, ?_⟩
      · unfold PadOk fitsSsize Builtin.Str.tooLong
        simp only [Bool.and_eq_true, Bool.not_eq_true', Bool.or_eq_false_iff, decide_eq_false_iff_not]
        rw [sizeLine_eq]
        omega
      · rw [zfill_toS hc.1 hc.2.2.2.1 hc.2.2.2.2]
        refine q _ H (.refl H) (.str _ ⟨?_, fun c h => ?_⟩)
        · rw [List.length_append, List.length_replicate]
          have := hc.2.1
          have := hc.2.2.1
          show _ ≤ 16777216
          omega
        · rcases List.mem_append.mp h with h | h
          · rw [List.eq_of_mem_replicate h]; decide
          · exact ho.2 c h
    · cases e
  | _ => cases e
theorem split_uniq (c : Nat) : ∀ (ps : List (List Nat)), ps ≠ [] → (∀ p ∈ ps, c ∉ p) → splitC c (joinL [c] ps) = ps
  | [], h, _ => absurd rfl h
  | [p], _, hf => by
    have : ∀ p : List Nat, c ∉ p → splitC c p = [p] := by
      intro p
      induction p with
      | nil => intro _; rfl
      | cons x p ih =>
        intro h
        have hx : ¬ x = c := fun e => h (by rw [e]; exact List.mem_cons_self)
        rw [splitC, if_neg hx, ih fun e => h (List.mem_cons_of_mem _ e)]
    exact this p (hf p List.mem_cons_self)
  | p :: q :: r, _, hf => by
    have ih := split_uniq c (q :: r) (by simp) fun p hp => hf p (List.mem_cons_of_mem _ hp)
    have : ∀ p : List Nat, c ∉ p → splitC c (p ++ [c] ++ joinL [c] (q :: r)) = p :: (q :: r) := by
      intro p
      induction p with
      | nil =>
        intro _
        show splitC c (c :: joinL [c] (q :: r)) = _
        rw [splitC, if_pos rfl, ih]
      | cons x p ih2 =>
        intro h
        have hx : ¬ x = c := fun e => h (by rw [e]; exact List.mem_cons_self)
        show splitC c (x :: (p ++ [c] ++ joinL [c] (q :: r))) = _
        rw [splitC, if_neg hx, ih2 fun e => h (List.mem_cons_of_mem _ e)]
    rw [joinL]
    exact this p (hf p List.mem_cons_self)
theorem join_codes (y : Str) : ∀ qs : List Str, (Str.join y qs).cps.toList = joinL y.cps.toList (qs.map fun q => q.cps.toList)
  | [] => rfl
  | [q] => rfl
  | q :: p :: r => by
    have ih := join_codes y (p :: r)
    rw [List.map_cons] at ih
    rw [List.map_cons, List.map_cons, joinL, ← ih]
    show ((q ++ y) ++ Str.join y (p :: r)).cps.toList = _
    show (q.cps ++ y.cps ++ (Str.join y (p :: r)).cps).toList = _
    simp
theorem split_toS (s : List Nat) (c : Nat) : Txt.split (toS s) (toS [c]) = (splitC c s).map toS := by
  have h1 := StrLaws.join_split (toS s) (toS [c])
  have h2 := StrLaws.split_free (toS s) c
  have h3 := PyProof.Rows.split_pos (toS s) (toS [c])
  have e0 : (⟨#[c]⟩ : Str) = toS [c] := rfl
  rw [e0] at h2
  generalize Txt.split (toS s) (toS [c]) = qs at h1 h2 h3
  have h4 := congrArg (fun q : Str => q.cps.toList) h1
  simp only [join_codes, toS_cps] at h4
  have h5 := split_uniq c (qs.map fun q => q.cps.toList) (by
    intro e
    have := congrArg List.length e
    rw [List.length_map] at this
    simp at this
    rw [this] at h3
    simp at h3) (fun p hp => by
    obtain ⟨q, hq, rfl⟩ := List.mem_map.mp hp
    exact h2 q hq)
  rw [h4] at h5
  rw [h5, List.map_map]
  have : (toS ∘ fun q : Str => q.cps.toList) = id := by
    funext q
    cases q
    simp [toS]
  rw [this, List.map_id]
theorem split_mem (c : Nat) : ∀ (s : List Nat), (∀ p ∈ splitC c s, ∀ x ∈ p, x ∈ s) ∧ (∀ p ∈ splitC c s, p.length ≤ s.length)
  | [] => by simp [splitC]
  | x :: xs => by
    have ih := split_mem c xs
    rw [splitC]
    split
    · refine ⟨fun p hp y hy => ?_, fun p hp => ?_⟩
      · rcases List.mem_cons.mp hp with rfl | hp
        · cases hy
        · exact List.mem_cons_of_mem _ (ih.1 p hp y hy)
      · rcases List.mem_cons.mp hp with rfl | hp
        · simp
        · have := ih.2 p hp; simp; omega
    · split
      · refine ⟨fun p hp y hy => ?_, fun p hp => ?_⟩
        · rw [List.mem_singleton.mp hp] at hy
          rw [List.mem_singleton.mp hy]; exact List.mem_cons_self
        · rw [List.mem_singleton.mp hp]; simp
      · rename_i p ps e
        rw [e] at ih
        refine ⟨fun q hq y hy => ?_, fun q hq => ?_⟩
        · rcases List.mem_cons.mp hq with rfl | hq
          · rcases List.mem_cons.mp hy with rfl | hy
            · exact List.mem_cons_self
            · exact List.mem_cons_of_mem _ (ih.1 p List.mem_cons_self y hy)
          · exact List.mem_cons_of_mem _ (ih.1 q (List.mem_cons_of_mem _ hq) y hy)
        · rcases List.mem_cons.mp hq with rfl | hq
          · have := ih.2 p List.mem_cons_self; simp; omega
          · have := ih.2 q (List.mem_cons_of_mem _ hq); simp; omega
theorem RepL.strsOf : ∀ {ys : List (List Nat)}, (∀ y ∈ ys, okS y) → RepL K av H (ys.map Dt.str) ((ys.map toS).map V.str)
  | [], _ => .nil
  | y :: ys, h => .cons (.str y (h y List.mem_cons_self)) (RepL.strsOf fun z hz => h z (List.mem_cons_of_mem _ hz))
theorem uns_split {s : List Nat} (ho : okS s) : UnS K (m1S .split s) (fun u H Q => ∃ a b, V.str (toS s) = .str a ∧ [u] = [.str b] ∧ (b.length == 0) = false ∧ a.length + 2 ≤ sizeLine ∧ rNewStrs (Txt.split a b) H Q) := by
  intro av H y z u Q ht hy e q
  cases y with
  | str t =>
    match t, hy, e with
    | [c], hy, e =>
      obtain ⟨rfl, _⟩ := vstr hy
      simp only [m1S] at e
      split at e
      · rename_i hc
        cases e
        refine ⟨toS s, toS [c], rfl, rfl, rfl, by rw [toS_len, sizeLine_eq]; omega, fun p hp => ?_⟩
        rw [split_toS]
        refine q _ _ (same_new hp) (rep_newL ht hp (RepL.strsOf fun y hy => ⟨?_, fun x hx => ho.2 x ((split_mem c s).1 y hy x hx)⟩))
        have := (split_mem c s).2 y hy
        show _ ≤ 16777216
        omega
      · cases e
    | [], hy, e => cases e
    | _ :: _ :: _, hy, e => cases e
  | _ => cases e
theorem uns_join {s : List Nat} (ho : okS s) : UnS K (m1S .join s) (fun u H Q => rJoin K (.str (toS s)) [u] H Q) := by
  intro av H y z u Q ht hy e q
  have key : ∀ (xs : List Dt) (p : Addr) (vs : List V), u = .ref p → (SqL K H p vs ∨ SqT K H p vs) → RepL K av H xs vs → ((allStr xs).bind fun ys => if sumLen ys + ys.length * s.length ≤ lim then some (Dt.str (joinL s ys)) else none) = some z → rJoin K (.str (toS s)) [u] H Q := by
    intro xs p vs e2 hs r e3
    subst e2
    obtain ⟨ys, e4, e5⟩ := Option.bind_eq_some_iff.mp e3
    split at e5
    · rename_i hc
      cases e5
      have hv := r.strs e4
      have hv2 : vs = (ys.map toS).map V.str := by rw [hv, List.map_map]; rfl
      subst hv2
      refine ⟨toS s, p, ys.map toS, rfl, rfl, hs, ?_, ?_⟩
      · rw [sum_len, List.length_map, toS_len]
        exact hc
      · rw [glued_join]
        refine q _ H (.refl H) (.str _ ⟨Nat.le_trans (len_join s ys) hc, fun c h => ?_⟩)
        rcases mem_join h with h | ⟨y, hy, h⟩
        · exact ho.2 c h
        · exact (r.oks e4 y hy).2 c h
    · cases e5
  unfold m1S at e
  split at e
  · obtain ⟨p, vs, rfl, r, rr⟩ := vlst hy
    exact key _ p vs rfl (.inl (.inl r)) rr e
  · obtain ⟨p, vs, rfl, r, rr⟩ := vtup hy
    exact key _ p vs rfl (.inr r) rr e
  · cases e
  all_goals contradiction
end
end PB

set_option Elab.async false
set_option linter.all false
set_option maxRecDepth 100000
set_option maxHeartbeats 4000000
set_option backward.match.sparseCases false
/-! The checker for expressions. -/
namespace PB
open PySem PySem.Spec PyProof.Rows L2

structure Tb where
  fns : List (Str × Nat)
  gls : List Str
  /-- the program's own exceptions, with their fields -/
  xcs : List (Str × List Str) := []
  /-- only exceptions whose context is None; the defs that raise no others -/
  nn : Bool := false
  cln : List Nat := []
def TakesB (nn : Bool) (X : Cx) (W : WX) : Prop := match nn with
  | true => L2N.Takes X W
  | false => L2.Takes X W
def CXB (nn : Bool) (P : Program) (w : World) : CXT := match nn with
  | true => L2N.CX P w
  | false => L2.CX P w
theorem takesB0 {nn : Bool} {X : Cx} : TakesB nn X (fun _ _ _ _ => False) := by
  cases nn with
  | true => exact fun u s' ⟨_, _, _, _, _, _, _, _, _, _, _, _, _, _, _, _, w⟩ => w.elim
  | false => exact takes0
theorem passB {nn : Bool} {X : Cx} {W : WX} (tk : TakesB nn X W) (σ : L2.St) : PassesAt (CXB nn X.prog X.w) X σ (WE W σ) := by
  cases nn with
  | true => exact L2N.passAt tk σ
  | false => exact L2.passAt tk σ
/-- ... their classes, as the written part has them -/
def xtK (K : PySem.W.Frag) (L : List (Str × List Str)) : Xt := ⟨fun c => match L[c]? with | some p => (PySem.W.nsIn K mainGlobals p.1).join | none => none, fun c => match L[c]? with | some p => p.2 | none => [], false⟩
abbrev bmVE : List Value := [.type "ValueError", .type "Exception", .type "BaseException", .type "object"]
/-- what the class at C says of itself and of the others -/
def XsOk (XT : Xt) (K : PySem.W.Frag) (c : Nat) (C : Addr) : Prop := L2.ExcC K C ∧ PySem.W.kitOne K (.ref C) (.type "ValueError") = some true ∧ ∀ k D, XT.cls k = some (.ref D) → XT.flds k = [] → PySem.W.kitCls K (.ref C) (.ref D) = some (subB c k)
/-- a class of exceptions without fields -/
def XcOk (XT : Xt) (K : PySem.W.Frag) (mg : Str → Option Value) (c : Nat) (x : Str) : Prop := ∃ C : Addr, XT.cls c = some (.ref C) ∧ XT.flds c = [] ∧ mg x = some (.ref C) ∧ PySem.W.excIn K C bmVE "ValueError.__new__" = true ∧
  PySem.W.keepIn K (.ref C) = true ∧ PySem.W.subIn K (.ref C) (.type "BaseException") = some true ∧ PySem.W.typeIn K (.ref C) = some (.type "type") ∧ XsOk XT K c C
def isGl (sc : Scope) (x : Str) : Bool := match sc.names.lookup x with
  | some .globalImplicit => !(x == ("__debug__" : Str))
  | _ => false
def isVis (sc : Scope) (x : Str) : Bool := (match sc.names.lookup x with
  | some .local => true
  | some .cell => true
  | some .free => true
  | _ => false) && !(x == ("__debug__" : Str)) && !(x == ("__classdict__" : Str))
/-- a target's name: of a def's own, or of a comprehension's own -/
def isTg (sc : Scope) (cell : Str → Bool) (x : Str) : Bool := match sc.names.lookup x with
  | some .local => true
  | some .cell => cell x
  | _ => false
def plainE : Expr → Bool
  | .Starred _ _ => false
  | .Slice _ _ _ _ => false
  | .Set _ _ _ => false
  | .Call _ [] _ _ => false
  | _ => true
def bopB : Bop → Operator → Bool
  | .add, .Add => true
  | .sub, .Sub => true
  | .mul, .Mult => true
  | .fdiv, .FloorDiv => true
  | .mod, .Mod => true
  | _, _ => false
def copB : Cop → CmpOp → Bool
  | .eq, .Eq => true
  | .ne, .NotEq => true
  | .lt, .Lt => true
  | .le, .LtE => true
  | .gt, .Gt => true
  | .ge, .GtE => true
  | .is, .Is => true
  | .isnot, .IsNot => true
  | .inn, .In => true
  | .notin, .NotIn => true
  | _, _ => false
theorem bopB_eq {o : Bop} {p : Operator} (h : bopB o p = true) : p = pyBop o := by cases o <;> cases p <;> first | rfl | cases h
theorem copB_eq {o : Cop} {p : CmpOp} (h : copB o p = true) : p = pyCop o := by cases o <;> cases p <;> first | rfl | cases h
def Exs.len : Exs → Nat
  | .nil => 0
  | .cons _ r => r.len + 1
/-- a target's names with their places -/
def ownOf : Tg → Expr → List (Str × Nat)
  | .one i, .Name x _ => [(x, i)]
  | .many is, .Tuple es _ _ => (es.zip is).map fun p => (match p.1 with | .Name x _ => x | _ => "", p.2)
  | _, _ => []
def chkTgs (N : List Str) (ok : Str → Bool) : List Nat → List Expr → Bool
  | [], [] => true
  | i :: is, .Name x _ :: es => decide (N[i]? = some x) && ok x && chkTgs N ok is es
  | _, _ => false
def chkTg (N : List Str) (ok : Str → Bool) : Tg → Expr → Bool
  | .one i, .Name x _ => decide (N[i]? = some x) && ok x
  | .many is, .Tuple es _ _ => chkTgs N ok is es
  | _, _ => false
def isTuple : Expr → Bool
  | .Tuple _ _ _ => true
  | _ => false

mutual
def chkE (T : Tb) (N : List Str) (sc : Scope) : Ex → Expr → Bool
  | .v i, .Name x _ => decide (N[i]? = some x) && isVis sc x
  | .non, .Constant .none _ _ => true
  | .bl b, .Constant (.bool c) _ _ => b == c
  | .int i, .Constant (.int j) _ _ => i == j
  | .str s, .Constant (.str x) _ _ => decide (x = toS s) && decide (s.length ≤ lim) && s.all (fun c => decide (c < 1114112))
  | .g k, .Name x _ => decide (T.gls[k]? = some x) && isGl sc x
  | .bin o a b, .BinOp x op y _ => bopB o op && chkE T N sc a x && chkE T N sc b y
  | .neg a, .UnaryOp .USub x _ => chkE T N sc a x
  | .not a, .UnaryOp .Not x _ => chkE T N sc a x
  | .and es, .BoolOp .And xs _ => chkEs T N sc es xs && !es.isNil
  | .or es, .BoolOp .Or xs _ => chkEs T N sc es xs && !es.isNil
  | .cmp o a b, .Compare x [op] [y] _ => copB o op && chkE T N sc a x && chkE T N sc b y && plainE y
  | .cmp2 o o' a b c, .Compare x [op, op'] [y, z] _ => copB o op && copB o' op' && chkE T N sc a x && chkE T N sc b y && chkE T N sc c z && plainE z
  | .call f es, .Call (.Name x _) xs [] _ => decide (T.fns[f]? = some (x, es.len)) && isGl sc x && chkEs T N sc es xs && !es.isNil && (!T.nn || decide (f ∈ T.cln))
  | .call0 f, .Call (.Name x _) [] [] _ => decide (T.fns[f]? = some (x, 0)) && isGl sc x && (!T.nn || decide (f ∈ T.cln))
  | .p1 p a, .Call (.Name x _) [y] [] _ => decide (x = Str.ofString (pyP1 p)) && isGl sc x && chkE T N sc a y && plainE y
  | .lens a, .Call (.Name x _) [.Call (.Name x2 _) [y] [] _] [] _ => decide (x = "len") && isGl sc x && decide (x2 = "set") && isGl sc x2 && chkE T N sc a y && plainE y
  | .isi a t, .Call (.Name x _) [y, .Name z _] [] _ => decide (x = "isinstance") && isGl sc x && decide (z = Str.ofString (pyTy t)) && isGl sc z && chkE T N sc a y && plainE y
  | .isi2 a t u, .Call (.Name x _) [y, .Tuple [.Name z _, .Name z2 _] _ _] [] _ => decide (x = "isinstance") && isGl sc x && decide (z = Str.ofString (pyTy t)) && isGl sc z && decide (z2 = Str.ofString (pyTy u)) && isGl sc z2 && chkE T N sc a y && plainE y
  | .m1 m a b, .Call (.Attribute x n ap) [y] [] cp => decide (n = Str.ofString (pyM1 m)) && (ap.endLine == cp.line) && chkE T N sc a x && chkE T N sc b y && plainE x && plainE y
  | .b2 o a b, .Call (.Name x _) [y, z] [] _ => decide (x = Str.ofString (pyB2 o)) && isGl sc x && chkE T N sc a y && plainE y && chkE T N sc b z && plainE z
  | .rev a, .Subscript x (.Slice none none (some (.UnaryOp .USub (.Constant (.int 1) _ _) _)) _) _ => chkE T N sc a x
  | .ix a i, .Subscript x y _ => chkE T N sc a x && chkE T N sc i y && plainE y
  | .sl a lo hi, .Subscript x (.Slice l h none _) _ => chkE T N sc a x && chkO T N sc lo l && chkO T N sc hi h
  | .tup es, .Tuple xs _ _ => chkEs T N sc es xs
  | .lst es, .List xs _ => chkEs T N sc es xs
  | .lc elt tg it ifs, .ListComp x [⟨t, i, cs, 0⟩] scope _ => chkI T N sc it i && (match it with | .enm _ => isTuple t | .zip _ _ => isTuple t | _ => true) && blkC N sc scope (ownOf tg t) && plainE i &&
      chkTg N (isTg (relS scope sc) fun x => scope.names.lookup x == some .cell) tg t && chkEs T N (relS scope sc) ifs cs && chkE T N (relS scope sc) elt x
  | _, _ => false
def chkEs (T : Tb) (N : List Str) (sc : Scope) : Exs → List Expr → Bool
  | .nil, [] => true
  | .cons e es, x :: xs => chkE T N sc e x && plainE x && chkEs T N sc es xs
  | _, _ => false
def chkO (T : Tb) (N : List Str) (sc : Scope) : Exo → Option Expr → Bool
  | .no, none => true
  | .yes e, some x => chkE T N sc e x
  | _, _ => false
def chkI (T : Tb) (N : List Str) (sc : Scope) : Itx → Expr → Bool
  | .seq e, x => chkE T N sc e x
  | .rng1 e, .Call (.Name x _) [y] [] _ => decide (x = "range") && isGl sc x && chkE T N sc e y && plainE y
  | .rng2 a b, .Call (.Name x _) [y, z] [] _ => decide (x = "range") && isGl sc x && chkE T N sc a y && plainE y && chkE T N sc b z && plainE z
  | .zip a b, .Call (.Name x _) [y, z] [] _ => decide (x = "zip") && isGl sc x && chkE T N sc a y && plainE y && chkE T N sc b z && plainE z
  | .enm e, .Call (.Name x _) [y] [] _ => decide (x = "enumerate") && isGl sc x && chkE T N sc e y && plainE y
  | _, _ => false
end

/-- names of builtins that must be the builtins' own -/
def bltNames : List String := ["len", "all", "any", "tuple", "list", "str", "int", "isinstance", "bool", "range", "enumerate", "zip", "sorted", "dict", "set", "min", "max", "ValueError"]

/-- the promise of a def by its meaning -/
def spF (XT : Xt) (K : PySem.W.Frag) (n : Nat) (call : List Wv → Sr → Rs (Wv × Sr)) : Sp := fun vs H Q E => ∃ fo φ st ws, Sok K fo φ H st ∧ Paired (RepW K fo φ H) ws vs ∧ ws.length = n ∧
  Go K (fun c fs _ φ' H' => ∀ cls d, XRep XT K (fo ++ φ') H' c fs cls d → E cls d H') fo φ H (call ws st) (fun w _ φ' H' => ∀ v, RepW K fo φ' H' w v → Q v H')

structure CxOk (XT : Xt) (T : Tb) (Γ : Gam) (N : List Str) (X : Cx) (W : WX) (sc : Scope) : Prop where
  n : X.N = N
  nd : X.N.Nodup
  scope : X.env.scope = sc
  calm : X.calm = true
  units : X.A.units + 65 < cLine
  takes : TakesB XT.nn X W
  tn : T.nn = XT.nn
  glob : ∀ (k : Nat) (x : Str), T.gls[k]? = some x → ∃ (d : Dt) (v : V) (u : Value), Γ.glob[k]? = some d ∧ X.mg x = some u ∧ RelV v u ∧ ∀ av H, Rep X.K av H d v
  blt : ∀ x ∈ bltNames, X.mg (Str.ofString x) = none
  xc : (∀ (c : Nat) (x : Str), T.xcs[c]? = some (x, []) → XcOk XT X.K X.mg c x) ∧ ∀ (k : Nat) (C : Value), XT.cls k = some C → XT.flds k = [] → ∃ A, C = .ref A ∧ XsOk XT X.K k A
  fn : ∀ (f : Nat) (x : Str) (n : Nat), T.fns[f]? = some (x, n) → (T.nn = true → f ∈ T.cln) → ∃ (k : Nat) (a : Addr) (fd : FuncData) (ps : List Str),
    FnOk X.prog X.w X.K X.mg X.base (CXB XT.nn X.prog X.w) k a fd ps (spF XT X.K n (Γ.call f)) ∧ Room k X.A ∧ X.mg x = some (.ref a) ∧ PySem.W.keepIn X.K (.ref a) = true ∧ Binds X.K fd ps [] ∧ ps.length = n
  fnN : T.nn = false → ∀ (f : Nat) (x : Str) (n : Nat), T.fns[f]? = some (x, n) → f ∈ T.cln → ∃ (k : Nat) (a : Addr) (fd : FuncData) (ps : List Str),
    FnOk X.prog X.w X.K X.mg X.base (L2N.CX X.prog X.w) k a fd ps (spF XT X.K n (Γ.call f)) ∧ Room k X.A ∧ X.mg x = some (.ref a) ∧ PySem.W.keepIn X.K (.ref a) = true ∧ Binds X.K fd ps [] ∧ ps.length = n

theorem plainE_star {e : Expr} (h : plainE e = true) (es : List Expr) (env : PySem.Env) : starEach (e :: es) env = (false, eval e env) :: starEach es env := by
  cases e <;> first | rfl | cases h
theorem isGl_gl {sc : Scope} {x : Str} (h : isGl sc x = true) : sc.names.lookup x = some .globalImplicit ∧ (x == ("__debug__" : Str)) = false := by
  unfold isGl at h
  split at h
  · rename_i e
    exact ⟨e, by simpa using h⟩
  · cases h
theorem isVis_vis {sc : Scope} {x : Str} (h : isVis sc x = true) : Vis sc x ∧ (x == ("__debug__" : Str)) = false ∧ (x == ("__classdict__" : Str)) = false := by
  unfold isVis at h
  simp only [Bool.and_eq_true, Bool.not_eq_true'] at h
  refine ⟨?_, h.1.2, h.2⟩
  have h1 := h.1.1
  split at h1
  · rename_i e; exact .inl e
  · rename_i e; exact .inr (.inl e)
  · rename_i e; exact .inr (.inr e)
  · cases h1
theorem plainE_base {e : Expr} (h : plainE e = true) (n : Str) (env : PySem.Env) : attributeBase e n env (eval e env) = eval e env := by
  cases e with
  | Call f as ks p =>
    cases as with
    | nil => cases h
    | cons _ _ => cases f <;> cases ks <;> rfl
  | _ => rfl
theorem plainE_ix {e : Expr} (h : plainE e = true) : PlainIx e := by
  intro o i
  cases e <;> first | rfl | cases h
theorem plainE_mark {e : Expr} (h : plainE e = true) (op : CmpOp) : behindInMarks op e = false := by
  cases e <;> first | rfl | cases h
theorem plainE_set {e : Expr} (h : plainE e = true) (env : PySem.Env) (x : Value) : foldedSetIterable e env x = pure x := by
  cases e <;> first | rfl | cases h
end PB

set_option Elab.async false
set_option linter.all false
set_option maxRecDepth 100000
set_option maxHeartbeats 4000000
set_option backward.match.sparseCases false
/-! Expressions keep their meaning: the pieces. -/
namespace PB
open PySem PySem.Spec PyProof.Rows L2
section
variable {XT : Xt} {T : Tb} {Γ : Gam} {N : List Str} {X : Cx} {W : WX} {sc : Scope} {K : PySem.W.Frag} {σ : L2.St} {H : Hp} {Q : VK}

theorem Go.bad {α : Type} {xw : Xw} {fo φ : List Addr} {R : α → Sr → List Addr → Hp → Prop} (h : Go K xw fo φ H (.bad : Rs (α × Sr)) R) : False := h

theorem pe_v {i : Nat} {x : Str} {pos : Pos} (c : CxOk XT T Γ N X W sc) (h1 : N[i]? = some x) (h2 : isVis sc x = true) : PE X (.Name x pos) (tW XT X.K W (evE Γ (.v i))) := by
  obtain ⟨hv, h3, h4⟩ := isVis_vis h2
  refine PE.weak (pe_var (i := i) (by rw [c.n]; exact h1) (by rw [c.scope]; exact hv) h3 h4) fun σ H Q h => ?_
  obtain ⟨fo, φ, ρ, st, hs, he, h⟩ := h
  unfold evE at h
  split at h
  · rename_i w e
    obtain ⟨v, e1, r⟩ := he.at_ i w e
    exact ⟨v, e1, (Go.run h hs) v r⟩
  · exact h.elim
theorem pe_cst {e : Ex} {d : Dt} {v : V} {pe : Expr} (h : PE X pe (tC v)) (he : ∀ ρ st, evE Γ e ρ st = .ok (.d d, st)) (r : ∀ av H, Rep X.K av H d v) : PE X pe (tW XT X.K W (evE Γ e)) := by
  refine PE.weak h fun σ H Q h => ?_
  obtain ⟨fo, φ, ρ, st, hs, _, h⟩ := h
  rw [he] at h
  exact (Go.run h hs) v (r _ _)
theorem pe_gl {k : Nat} {x : Str} {pos : Pos} (c : CxOk XT T Γ N X W sc) (h1 : T.gls[k]? = some x) (h2 : isGl sc x = true) : PE X (.Name x pos) (tW XT X.K W (evE Γ (.g k))) := by
  obtain ⟨d, v, u, e1, e2, r1, r2⟩ := c.glob k x h1
  obtain ⟨g1, g2⟩ := isGl_gl h2
  refine pe_cst (d := d) (v := v) (pe_glob (show X.env.scope.names.lookup x = _ by rw [c.scope]; exact g1) e2 r1 g2) (fun ρ st => ?_) r2
  unfold evE
  rw [e1]
theorem pe_bin {o : Bop} {a b : Ex} {x y : Expr} {pos : Pos} (ha : PE X x (tW XT X.K W (evE Γ a))) (hb : PE X y (tW XT X.K W (evE Γ b))) : PE X (.BinOp x (pyBop o) y pos) (tW XT X.K W (evE Γ (.bin o a b))) := by
  refine PE.weak (pe_op (op_bop o) ha hb) fun σ H Q h => tW_op2 (ops_bop o) ?_
  exact h
theorem uns_neg : UnS K negD (rU fun i => .int (-i)) := by
  intro av H x z v Q ht hx e q
  unfold negD at e
  split at e
  · cases e
    cases vint hx
    exact ⟨_, rfl, q _ H (.refl H) (.int _)⟩
  · cases e
theorem pe_neg {a : Ex} {x : Expr} {pos : Pos} (ha : PE X x (tW XT X.K W (evE Γ a))) : PE X (.UnaryOp .USub x pos) (tW XT X.K W (evE Γ (.neg a))) :=
  PE.weak (L2.pe_un un_neg ha) fun σ H Q h => tW_op1 uns_neg h
theorem tru_view {av : List Addr} {x : Dt} {v : V} (h : VRep K av H x v) : TruV K v H (truthD x) := by
  cases x with
  | non => cases vnon h; rfl
  | bl b => cases vbl h; rfl
  | int i => cases vint h; rfl
  | str s =>
    obtain ⟨rfl, hs⟩ := vstr h
    refine ⟨by rw [toS_len, ← lim_eq]; exact hs.1, ?_⟩
    rw [toS_len]
    cases s <;> simp [truthD]
    omega
  | tup xs =>
    obtain ⟨a, vs, rfl, ha, ra⟩ := vtup h
    refine .inr (.inl ⟨vs, ha, ?_⟩)
    have := ra.length
    cases xs <;> cases vs <;> first | rfl | (simp at this)
  | lst xs =>
    obtain ⟨a, vs, rfl, ha, ra⟩ := vlst h
    refine .inl ⟨vs, .inl ha, ?_⟩
    have := ra.length
    cases xs <;> cases vs <;> first | rfl | (simp at this)
  | scr ns =>
    obtain ⟨a, rfl, r⟩ := vscr h
    refine .inl ⟨_, r, ?_⟩
    cases ns <;> rfl
theorem uns_not : UnS K notD (fun v H Q => ∃ k, TruV K v H k ∧ Q (.bl (!k)) H) := by
  intro av H x z v Q ht hx e q
  cases e
  exact ⟨_, tru_view hx, q _ H (.refl H) (.bl _)⟩
theorem pe_nott {a : Ex} {x : Expr} {pos : Pos} (ha : PE X x (tW XT X.K W (evE Γ a))) : PE X (.UnaryOp .Not x pos) (tW XT X.K W (evE Γ (.not a))) :=
  PE.weak (pe_notT ha) fun σ H Q h => tW_op1 uns_not h
theorem pe_cmpE {o : Cop} {a b : Ex} {x y : Expr} {pos : Pos} (hu : X.A.units + 65 < cLine) (ha : PE X x (tW XT X.K W (evE Γ a))) (hb : PE X y (tW XT X.K W (evE Γ b))) (hy : plainE y = true) :
    PE X (.Compare x [pyCop o] [y] pos) (tW XT X.K W (evE Γ (.cmp o a b))) :=
  PE.weak (pe_cmpR (op_cop hu o) ha hb (plainE_mark hy _)) fun σ H Q h => tW_op2 (ops_cop o) h
/-- a value's truth in the store -/
theorem truW_ok {fo φ : List Addr} {st : Sr} {w : Wv} {v : V} {k : Bool} (hs : Sok K fo φ H st) (r : RepW K fo φ H w v) (e : truW (w, st) = .ok k) : TruV K v H k := by
  unfold truW at e
  dsimp only at e
  cases e1 : viewW st w with
  | none => rw [e1] at e; cases e
  | some x =>
    rw [e1] at e
    cases e
    exact tru_view (view_of hs r e1)
theorem truW_exc {p : Wv × Sr} {c : Nat} {fs : List Dt} {sx : Sr} (e : truW p = .exc c fs sx) : False := by
  unfold truW at e
  cases e1 : (viewW p.2 p.1) with
  | none => rw [e1] at e; cases e
  | some x => rw [e1] at e; cases e
/-- the truth of an expression whose test is its value's truth -/
theorem pt_of {a : Ex} {x : Expr} (ha : PE X x (tW XT X.K W (evE Γ a))) (he : ∀ whole, isTrue x X.env whole = (do let v ← whole; standAt x.pos; holding [v] (truthy v))) : PT X x (tT XT X.K W (evT Γ a)) := by
  refine PT.weak (pt_truth ha he) fun σ H Q h => ?_
  obtain ⟨fo, φ, ρ, st, hs, he, h⟩ := h
  refine ⟨fo, φ, ρ, st, hs, he, (Go.of_bind h).imp fun w st1 φ1 H1 s1 q1 h1 v rv => ?_⟩
  cases e : truW (w, st1) with
  | ok k =>
    rw [e] at h1
    exact ⟨k, truW_ok q1 rv e, Go.run h1 q1⟩
  | exc c fs sx => exact (truW_exc e).elim
  | bad => rw [e] at h1; exact h1.elim
theorem pt_nott {a : Ex} {x : Expr} {pos : Pos} (ha : PT X x (tT XT X.K W (evT Γ a))) : PT X (.UnaryOp .Not x pos) (tT XT X.K W (evT Γ (.not a))) := by
  refine PT.weak (pt_not ha) fun σ H Q h => ?_
  obtain ⟨fo, φ, ρ, st, hs, he, h⟩ := h
  refine ⟨fo, φ, ρ, st, hs, he, ?_⟩
  unfold evT at h ⊢
  unfold evE at h
  cases e : evE Γ a ρ st with
  | bad => rw [e] at h; exact h
  | exc c fs sx => rw [e] at h; exact h
  | ok p =>
    rw [e] at h
    simp only [Rs.bind_ok] at h ⊢
    unfold op1 truW at h
    unfold truW
    cases e2 : viewW p.2 p.1 with
    | none => rw [e2] at h; exact h.elim
    | some z =>
      rw [e2] at h
      exact h
/-- a comparison's value is a truth -/
theorem op2_bl {f : Dt → Dt → Option Bool} {x : Wv} {p q : Wv × Sr} (h : op2 (fun x y => blO (f x y)) x p = .ok q) : ∃ b, q.1 = .d (.bl b) ∧ q.2 = p.2 := by
  unfold op2 at h
  cases e1 : viewW p.2 x with
  | none => rw [e1] at h; cases h
  | some a =>
    cases e2 : viewW p.2 p.1 with
    | none => rw [e1, e2] at h; cases h
    | some b =>
      cases e3 : f a b with
      | none => simp only [e1, e2, e3, Option.bind_some, blO] at h; cases h
      | some k =>
        simp only [e1, e2, e3, Option.bind_some, blO] at h
        cases h
        exact ⟨k, rfl, rfl⟩
/-- every value of it is a truth -/
def BlM (m : Ev → Sr → Rs (Wv × Sr)) : Prop := ∀ ρ st q, m ρ st = .ok q → ∃ b, q.1 = .d (.bl b)
theorem bind_ok_inv {α β : Type} {r : Rs α} {f : α → Rs β} {b : β} (h : r.bind f = .ok b) : ∃ a, r = .ok a ∧ f a = .ok b := by
  cases r with
  | ok a => exact ⟨a, rfl, h⟩
  | exc _ _ => cases h
  | bad => cases h
theorem blM_cmp {o : Cop} {a b : Ex} : BlM (evE Γ (.cmp o a b)) := fun ρ st q h => by
  unfold evE at h
  obtain ⟨p, _, h⟩ := bind_ok_inv h
  obtain ⟨r, _, h⟩ := bind_ok_inv h
  obtain ⟨k, e, _⟩ := op2_bl h
  exact ⟨k, e⟩
theorem blM_cmp2 {o o' : Cop} {a b c : Ex} : BlM (evE Γ (.cmp2 o o' a b c)) := fun ρ st q h => by
  unfold evE at h
  obtain ⟨p, _, h⟩ := bind_ok_inv h
  obtain ⟨r, _, h⟩ := bind_ok_inv h
  obtain ⟨k, e, h⟩ := bind_ok_inv h
  obtain ⟨t, e2, h⟩ := bind_ok_inv h
  split at h
  · obtain ⟨z, _, h⟩ := bind_ok_inv h
    obtain ⟨k, e, _⟩ := op2_bl h
    exact ⟨k, e⟩
  · cases h
    obtain ⟨k, e, _⟩ := op2_bl e
    exact ⟨k, e⟩
/-- as a test: the value's reading, a truth -/
theorem tW_of_tT {e : Ex} {Qb : Bool → Hp → Prop} (hb : BlM (evE Γ e)) (h : tT XT K W (evT Γ e) σ H Qb) : tW XT K W (evE Γ e) σ H (fun x H' => ∃ k, x = .bl k ∧ Qb k H') := by
  obtain ⟨fo, φ, ρ, st, hs, he, h⟩ := h
  refine ⟨fo, φ, ρ, st, hs, he, ?_⟩
  unfold evT at h
  cases e1 : evE Γ e ρ st with
  | bad => rw [e1] at h; exact h
  | exc c fs sx => rw [e1] at h; exact h
  | ok p =>
    rw [e1] at h
    obtain ⟨b, e2⟩ := hb ρ st p e1
    obtain ⟨w, st1⟩ := p
    cases (show w = .d (.bl b) from e2)
    intro φ' H' s' q' v rv
    cases (show Rep K (fo ++ φ') H' (.bl b) v from rv)
    exact ⟨b, rfl, (Go.at_ (r := .ok (b, st1)) h s').run q'⟩
theorem pt_cmpE {o : Cop} {a b : Ex} {x y : Expr} {pos : Pos} (hu : X.A.units + 65 < cLine) (ha : PE X x (tW XT X.K W (evE Γ a))) (hb : PE X y (tW XT X.K W (evE Γ b))) (hy : plainE y = true) :
    PT X (.Compare x [pyCop o] [y] pos) (tT XT X.K W (evT Γ (.cmp o a b))) :=
  PT.weak (pt_cmpR (op_cop hu o) ha hb (plainE_mark hy _)) fun σ H Q h => tW_op2 (ops_cop o) (tW_of_tT blM_cmp h)
theorem op2_cases (f : Dt → Dt → Option Dt) (w : Wv) (p : Wv × Sr) : op2 f w p = .bad ∨ ∃ x y z, viewW p.2 w = some x ∧ viewW p.2 p.1 = some y ∧ f x y = some z ∧ op2 f w p = .ok (.d z, p.2) := by
  unfold op2
  cases e1 : viewW p.2 w with
  | none => exact .inl rfl
  | some x =>
    cases e2 : viewW p.2 p.1 with
    | none => exact .inl rfl
    | some y =>
      cases e3 : f x y with
      | none => exact .inl (by simp only [Option.bind_some, e3]; rfl)
      | some z => exact .inr ⟨x, y, z, rfl, rfl, e3, by simp only [Option.bind_some, e3]; rfl⟩
theorem tW_chain {o o' : Cop} {a b c : Ex} (h : tW XT K W (evE Γ (.cmp2 o o' a b c)) σ H Q) : tChain (rCop K o) (rCop K o') (tW XT K W (evE Γ a)) (tW XT K W (evE Γ b)) (tW XT K W (evE Γ c)) σ H Q := by
  obtain ⟨fo, φ, ρ, st, hs, he, h⟩ := h
  unfold evE at h
  refine ⟨fo, φ, ρ, st, hs, he, (Go.of_bind h).imp fun w st1 φ1 H1 s1 q1 h1 v rv => ?_⟩
  refine ⟨fo, φ1, ρ, st1, q1, he.step s1, (Go.of_bind h1).imp fun w2 st2 φ2 H2 s2 q2 h2 v2 rv2 => ?_⟩
  dsimp only at h2
  rcases op2_cases (fun x y => blO (copD o x y)) w (w2, st2) with e | ⟨x, y, z, e1, e2, e3, e⟩
  · rw [e] at h2; exact h2.elim
  · rw [e] at h2
    obtain ⟨b, rfl⟩ : ∃ b, z = .bl b := by
      cases hc : copD o x y with
      | none => rw [hc] at e3; cases e3
      | some b => rw [hc] at e3; cases e3; exact ⟨b, rfl⟩
    refine ops_cop o (fo ++ φ2) H2 x y (.bl b) v v2 _ q2.trk (view_of q2 (rv.step s2) e1) (view_of q2 rv2 e2) e3 fun u H' sm rz => ?_
    cases rz
    refine ⟨b, rfl, ?_⟩
    have s3 : Step φ2 H2 φ2 H' := Step.same sm
    have q3 := q2.same sm
    have h3 : Go K (xwOf XT K W σ fo) fo φ2 H2 (if b = true then (evE Γ c ρ st2).bind fun r => op2 (fun x y => blO (copD o' x y)) w2 r else .ok (.d (.bl b), st2)) (fun w x φ' H' => ∀ v, RepW K fo φ' H' w v → Q v H') := h2
    cases b with
    | false =>
      rw [if_neg Bool.false_ne_true] at h3 ⊢
      exact (Go.run (Go.at_ h3 s3) q3) _ (Rep.bl _)
    | true =>
      rw [if_pos rfl] at h3 ⊢
      refine ⟨fo, φ2, ρ, st2, q3, (he.step s1).step (s2.trans s3), (Go.of_bind (Go.at_ h3 s3)).imp fun w4 st4 φ4 H4 s4 q4 h4 v4 rv4 => ?_⟩
      rcases op2_cases (fun x y => blO (copD o' x y)) w2 (w4, st4) with e | ⟨x5, y6, z7, e5, e6, e7, e⟩
      · rw [e] at h4; exact h4.elim
      · rw [e] at h4
        exact ops_cop o' (fo ++ φ4) H4 x5 y6 z7 v2 v4 Q q4.trk (view_of q4 (rv2.step (s3.trans s4)) e5) (view_of q4 rv4 e6) e7 fun u H' sm rz => h4 φ4 H' (Step.same sm) (q4.same sm) u rz
theorem marks2 {op op' : CmpOp} {b c : Expr} (h : plainE c = true) : lastMarks [op, op'] [b, c] = false := by
  show behindInMarks op' c = false
  exact plainE_mark h _
theorem pe_cmp2E {o o' : Cop} {a b c : Ex} {x y z : Expr} {pos : Pos} (hu : X.A.units + 65 < cLine) (ha : PE X x (tW XT X.K W (evE Γ a))) (hb : PE X y (tW XT X.K W (evE Γ b))) (hc : PE X z (tW XT X.K W (evE Γ c))) (hz : plainE z = true) :
    PE X (.Compare x [pyCop o, pyCop o'] [y, z] pos) (tW XT X.K W (evE Γ (.cmp2 o o' a b c))) :=
  PE.weak (pe_chain (op_cop hu o) (op_cop hu o') ha hb hc (marks2 hz)) fun σ H Q h => tW_chain h
theorem pt_cmp2E {o o' : Cop} {a b c : Ex} {x y z : Expr} {pos : Pos} (hu : X.A.units + 65 < cLine) (ha : PE X x (tW XT X.K W (evE Γ a))) (hb : PE X y (tW XT X.K W (evE Γ b))) (hc : PE X z (tW XT X.K W (evE Γ c))) (hz : plainE z = true) :
    PT X (.Compare x [pyCop o, pyCop o'] [y, z] pos) (tT XT X.K W (evT Γ (.cmp2 o o' a b c))) :=
  PT.weak (pt_chain (op_cop hu o) (op_cop hu o') ha hb hc (marks2 hz)) fun σ H Q h => tW_chain (tW_of_tT blM_cmp2 h)
/-! #### argument lists -/
theorem pa_consE {e : Ex} {es : Exs} {x : Expr} {xs : List Expr} (ha : PE X x (tW XT X.K W (evE Γ e))) (hr : PA X xs (tL XT X.K W (evEs Γ es))) (hx : plainE x = true) : PA X (x :: xs) (tL XT X.K W (evEs Γ (.cons e es))) := by
  refine PA.weak (pa_cons ha hr (plainE_star hx _ _)) fun σ H Q h => ?_
  obtain ⟨fo, φ, ρ, st, hs, he, h⟩ := h
  unfold evEs at h
  refine ⟨fo, φ, ρ, st, hs, he, (Go.of_bind h).imp fun w st1 φ1 H1 s1 q1 h1 v rv => ?_⟩
  refine ⟨fo, φ1, ρ, st1, q1, he.step s1, (Go.of_bind h1).imp fun ws st2 φ2 H2 s2 q2 h2 vs rvs => ?_⟩
  exact (Go.run h2 q2) (v :: vs) (.cons (rv.step s2) rvs)
theorem pa_nilE : PA X [] (tL XT X.K W (evEs Γ .nil)) := by
  refine PA.weak pa_nil fun σ H Q h => ?_
  obtain ⟨fo, φ, ρ, st, hs, he, h⟩ := h
  unfold evEs at h
  exact (Go.run h hs) [] .nil
theorem mapD_rep {fo φ : List Addr} : ∀ {ws : List Wv} {vs : List V} {xs : List Dt}, Paired (RepW K fo φ H) ws vs → mapD ws = some xs → RepL K (fo ++ φ) H xs vs
  | _, _, xs, .nil, e => by simp [mapD] at e; subst e; exact .nil
  | w :: ws, _, xs, .cons h r, e => by
    cases w with
    | d x =>
      simp only [mapD, Option.map_eq_some_iff] at e
      obtain ⟨ys, e1, rfl⟩ := e
      exact .cons h (mapD_rep r e1)
    | ob n => simp [mapD] at e
theorem paired_len {α β : Type} {R : α → β → Prop} : ∀ {xs : List α} {ys : List β}, Paired R xs ys → xs.length = ys.length := fun h => Paired.length h
theorem pe_tupE {es : Exs} {xs : List Expr} {k : Nat} {pos : Pos} (h : PA X xs (tL XT X.K W (evEs Γ es))) : PE X (.Tuple xs k pos) (tW XT X.K W (evE Γ (.tup es))) := by
  refine PE.weak (pe_tup h) fun σ H Q h => ?_
  obtain ⟨fo, φ, ρ, st, hs, he, h⟩ := h
  unfold evE at h
  refine ⟨fo, φ, ρ, st, hs, he, (Go.of_bind h).imp fun ws st1 φ1 H1 s1 q1 h1 vs rv => ?_⟩
  unfold mkTup at h1
  dsimp only at h1
  split at h1
  · rename_i hl
    refine ⟨by rw [← Paired.length rv, ← lim_eq]; exact hl, fun p hp => ?_⟩
    cases e : mapD ws with
    | none => rw [e] at h1; exact h1.elim
    | some ds =>
      rw [e] at h1
      have sm : Same H1 (upd H1 p (.tup vs)) := same_new hp
      exact h1 φ1 _ (Step.same sm) (q1.same sm) _ (rep_newT q1.trk hp (mapD_rep rv e))
  · exact h1.elim
/-- a fresh list's reading: the list stands alone at a new place -/
def tF (XT : Xt) (K : PySem.W.Frag) (W : WX) (m : Ev → Sr → Rs (Wv × Sr)) : TE := fun σ H Q => ∃ fo φ ρ st, Sok K fo φ H st ∧ EnvOk K fo φ H ρ σ ∧
  Go K (xwOf XT K W σ fo) fo φ H (m ρ st) (fun w st' φ' H' => ∀ xs vs p, w = .d (.lst xs) → H' p = none → RepL K (fo ++ φ') H' xs vs → Q (.ref p) (upd H' p (.lst vs)))
theorem tW_tF {m : Ev → Sr → Rs (Wv × Sr)} (h : tW XT K W m σ H Q) : tF XT K W m σ H Q := by
  obtain ⟨fo, φ, ρ, st, hs, he, h⟩ := h
  refine ⟨fo, φ, ρ, st, hs, he, ?_⟩
  cases e : m ρ st with
  | bad => rw [e] at h; exact h
  | exc c fs sx => rw [e] at h; exact h
  | ok p =>
    rw [e] at h
    intro φ' H' s' q' xs vs a ew ha r
    have sm : Same H' (upd H' a (.lst vs)) := same_new ha
    refine h φ' _ (s'.trans (Step.same sm)) (q'.same sm) _ ?_
    rw [ew]
    exact rep_newL q'.trk ha r
theorem pe_lstF {es : Exs} {xs : List Expr} {pos : Pos} (h : PA X xs (tL XT X.K W (evEs Γ es))) : PE X (.List xs pos) (tF XT X.K W (evE Γ (.lst es))) := by
  refine PE.weak (pe_lst h) fun σ H Q h => ?_
  obtain ⟨fo, φ, ρ, st, hs, he, h⟩ := h
  unfold evE at h
  refine ⟨fo, φ, ρ, st, hs, he, (Go.of_bind h).imp fun ws st1 φ1 H1 s1 q1 h1 vs rv => ?_⟩
  unfold mkLst at h1
  dsimp only at h1
  split at h1
  · rename_i hl
    refine ⟨by rw [← Paired.length rv, ← lim_eq]; exact hl, fun p hp => ?_⟩
    cases e : mapD ws with
    | none => rw [e] at h1; exact h1.elim
    | some ds =>
      rw [e] at h1
      exact (Go.run h1 q1) ds vs p rfl hp (mapD_rep rv e)
  · exact h1.elim
end
end PB

set_option Elab.async false
set_option linter.all false
set_option maxRecDepth 100000
set_option maxHeartbeats 4000000
set_option backward.match.sparseCases false
/-! Expressions keep their meaning: calls, builtins, walks, comprehensions. -/
namespace PB
open PySem PySem.Spec PyProof.Rows L2
section
variable {XT : Xt} {T : Tb} {Γ : Gam} {N : List Str} {X : Cx} {W : WX} {sc : Scope} {K : PySem.W.Frag} {σ : L2.St} {H : Hp} {Q : VK}

theorem CxOk.gl (c : CxOk XT T Γ N X W sc) {x : Str} (h : isGl sc x = true) : Gl X x := by
  show X.env.scope.names.lookup x = _
  rw [c.scope]
  exact (isGl_gl h).1
theorem boot_p1 (p : P1) : bootBuiltins (Str.ofString (pyP1 p)) = some (valP1 p) := by cases p <;> decide +kernel
theorem ne_p1 (p : P1) : Str.ofString (pyP1 p) ≠ ("__name__" : Str) := by cases p <;> decide +kernel
theorem mem_p1 (p : P1) : pyP1 p ∈ bltNames := by cases p <;> decide
theorem one_arg {es : List Expr} {pos : Pos} {env : PySem.Env} : (backTo pos (starEach [] env)).any (·.1) = false := rfl
theorem pa_one {a : Ex} {y : Expr} (ha : PE X y (tW XT X.K W (evE Γ a))) (hy : plainE y = true) : PA X [y] (tCons (tW XT X.K W (evE Γ a)) tNil) := pa_cons ha pa_nil (plainE_star hy _ _)
theorem pe_p1E {p : P1} {a : Ex} {y : Expr} {pn pos : Pos} (c : CxOk XT T Γ N X W sc) (hg : isGl sc (Str.ofString (pyP1 p)) = true) (ha : PE X y (tW XT X.K W (evE Γ a))) (hy : plainE y = true) :
    PE X (.Call (.Name (Str.ofString (pyP1 p)) pn) [y] [] pos) (tW XT X.K W (evE Γ (.p1 p a))) := by
  have hb := boot_p1 p
  have hc := call_p1 (X := X) c.calm c.units p
  have hm := c.blt _ (mem_p1 p)
  have key : PE X (.Call (.Name (Str.ofString (pyP1 p)) pn) [y] [] pos) (tCB (rP1 X.K p) (tCons (tW XT X.K W (evE Γ a)) tNil)) := by
    unfold valP1 at hb hc
    cases ht : p1Ty p with
    | true =>
      rw [ht] at hb hc
      exact pe_callTy hc (c.gl hg) hm hb (pa_one ha hy) (ne_p1 p) (isGl_gl hg).2 (plainE_star hy _ _) rfl
    | false =>
      rw [ht] at hb hc
      exact pe_callB hc (c.gl hg) hm hb (pa_one ha hy) (ne_p1 p) (isGl_gl hg).2 (plainE_star hy _ _) rfl
  refine PE.weak key fun σ H Q h => ?_
  exact tW_op1 (uns_p1 p) h
theorem boot_b2 (p : B2) : bootBuiltins (Str.ofString (pyB2 p)) = some (.builtin (pyB2 p)) := by cases p <;> decide +kernel
theorem ne_b2 (p : B2) : Str.ofString (pyB2 p) ≠ ("__name__" : Str) := by cases p <;> decide +kernel
theorem mem_b2 (p : B2) : pyB2 p ∈ bltNames := by cases p <;> decide
theorem pe_b2E {o : B2} {a b : Ex} {y z : Expr} {pn pos : Pos} (c : CxOk XT T Γ N X W sc) (hg : isGl sc (Str.ofString (pyB2 o)) = true) (ha : PE X y (tW XT X.K W (evE Γ a))) (hy : plainE y = true) (hb : PE X z (tW XT X.K W (evE Γ b))) (hz : plainE z = true) :
    PE X (.Call (.Name (Str.ofString (pyB2 o)) pn) [y, z] [] pos) (tW XT X.K W (evE Γ (.b2 o a b))) := by
  have hA : PA X [y, z] (tCons (tW XT X.K W (evE Γ a)) (tCons (tW XT X.K W (evE Γ b)) tNil)) := pa_cons ha (pa_cons hb pa_nil (plainE_star hz _ _)) (plainE_star hy _ _)
  refine PE.weak (pe_callB (call_b2 c.calm o) (c.gl hg) (c.blt _ (mem_b2 o)) (boot_b2 o) hA (ne_b2 o) (isGl_gl hg).2 (plainE_star hy _ _) (by rw [plainE_star hz]; rfl)) fun σ H Q h => ?_
  exact tW_op2 (ops_b2 o) h
def tyP : Ty → Value := fun t => .type (pyTy t)
theorem boot_ty (t : Ty) : bootBuiltins (Str.ofString (pyTy t)) = some (.type (pyTy t)) := by cases t <;> decide +kernel
theorem ne_ty (t : Ty) : Str.ofString (pyTy t) ≠ ("__name__" : Str) := by cases t <;> decide +kernel
theorem mem_ty (t : Ty) : pyTy t ∈ bltNames := by cases t <;> decide
theorem boot_isi : bootBuiltins ("isinstance" : Str) = some (.builtin "isinstance") := by decide +kernel
theorem pe_isiE {t : Ty} {a : Ex} {y : Expr} {pn pz pos : Pos} (c : CxOk XT T Γ N X W sc) (hg : isGl sc "isinstance" = true) (hz : isGl sc (Str.ofString (pyTy t)) = true) (ha : PE X y (tW XT X.K W (evE Γ a))) (hy : plainE y = true) :
    PE X (.Call (.Name "isinstance" pn) [y, .Name (Str.ofString (pyTy t)) pz] [] pos) (tW XT X.K W (evE Γ (.isi a t))) := by
  have hT : PE X (.Name (Str.ofString (pyTy t)) pz) (tC (.ty (pyTy t))) := pe_bltn (v := .ty (pyTy t)) (c.gl hz) (c.blt _ (mem_ty t)) (boot_ty t) rfl (ne_ty t) (isGl_gl hz).2
  have hA : PA X [y, .Name (Str.ofString (pyTy t)) pz] (tCons (tW XT X.K W (evE Γ a)) (tCons (tC (.ty (pyTy t))) tNil)) := pa_cons ha (pa_cons hT pa_nil rfl) (plainE_star hy _ _)
  refine PE.weak (pe_callB call_isi (c.gl hg) (c.blt "isinstance" (by decide)) boot_isi hA (by decide +kernel) (isGl_gl hg).2 (plainE_star hy _ _) rfl) fun σ H Q h => ?_
  exact tW_op1 (uns_isi t) h
theorem pe_isi2E {t u : Ty} {a : Ex} {y : Expr} {pn pz pz2 pos pt : Pos} {k : Nat} (c : CxOk XT T Γ N X W sc) (hg : isGl sc "isinstance" = true) (hz : isGl sc (Str.ofString (pyTy t)) = true) (hz2 : isGl sc (Str.ofString (pyTy u)) = true) (ha : PE X y (tW XT X.K W (evE Γ a))) (hy : plainE y = true) :
    PE X (.Call (.Name "isinstance" pn) [y, .Tuple [.Name (Str.ofString (pyTy t)) pz, .Name (Str.ofString (pyTy u)) pz2] k pt] [] pos) (tW XT X.K W (evE Γ (.isi2 a t u))) := by
  have hT : PE X (.Name (Str.ofString (pyTy t)) pz) (tC (.ty (pyTy t))) := pe_bltn (v := .ty (pyTy t)) (c.gl hz) (c.blt _ (mem_ty t)) (boot_ty t) rfl (ne_ty t) (isGl_gl hz).2
  have hU : PE X (.Name (Str.ofString (pyTy u)) pz2) (tC (.ty (pyTy u))) := pe_bltn (v := .ty (pyTy u)) (c.gl hz2) (c.blt _ (mem_ty u)) (boot_ty u) rfl (ne_ty u) (isGl_gl hz2).2
  have hP : PA X [.Name (Str.ofString (pyTy t)) pz, .Name (Str.ofString (pyTy u)) pz2] (tCons (tC (.ty (pyTy t))) (tCons (tC (.ty (pyTy u))) tNil)) := pa_cons hT (pa_cons hU pa_nil rfl) rfl
  have hA := pa_cons ha (pa_cons (pe_tup (x1 := k) (pos := pt) hP) pa_nil rfl) (plainE_star hy _ _)
  refine PE.weak (pe_callB call_isiT (c.gl hg) (c.blt "isinstance" (by decide)) boot_isi hA (by decide +kernel) (isGl_gl hg).2 (plainE_star hy _ _) rfl) fun σ H Q h => ?_
  have h' := tW_op1 (uns_isi2 t u) (show tW XT X.K W (fun ρ st => (evE Γ a ρ st).bind (op1 fun x => some (.bl (isiD t x || isiD u x)))) σ H Q from by
    obtain ⟨fo, φ, ρ, st, hs, he, h⟩ := h
    unfold evE at h
    exact ⟨fo, φ, ρ, st, hs, he, h⟩)
  exact h'
theorem RepL.snoc : ∀ {av : List Addr} {xs : List Dt} {vs : List V} {x : Dt} {v : V}, RepL K av H xs vs → Rep K av H x v → RepL K av H (xs ++ [x]) (vs ++ [v])
  | _, _, _, _, _, .nil, h => .cons h .nil
  | _, _, _, _, _, .cons a r, h => .cons a (RepL.snoc r h)
theorem RepL.reverse : ∀ {av : List Addr} {xs : List Dt} {vs : List V}, RepL K av H xs vs → RepL K av H xs.reverse vs.reverse
  | _, _, _, .nil => .nil
  | _, _, _, .cons a r => by
    rw [List.reverse_cons, List.reverse_cons]
    exact RepL.snoc (RepL.reverse r) a
theorem pe_ixE {a i : Ex} {x y : Expr} {pos : Pos} (ha : PE X x (tW XT X.K W (evE Γ a))) (hb : PE X y (tW XT X.K W (evE Γ i))) (hy : plainE y = true) : PE X (.Subscript x y pos) (tW XT X.K W (evE Γ (.ix a i))) :=
  PE.weak (pe_ix ix_seq ha hb (plainE_ix hy)) fun σ H Q h => tW_op2 ops_ix h
theorem po_no : PO X none (tO XT X.K W (evO Γ .no)) := by
  refine ⟨fun pins s σ H Q I h => po_none.run pins s σ H Q I ?_⟩
  obtain ⟨fo, φ, ρ, st, hs, he, h⟩ := h
  unfold evO at h
  exact Go.run h hs
theorem intW_inv {w : Wv} {i : Int} (h : intW w = some i) : w = .d (.int i) := by
  unfold intW at h
  split at h
  · cases h; rfl
  · cases h
theorem po_yes {e : Ex} {x : Expr} (ha : PE X x (tW XT X.K W (evE Γ e))) : PO X (some x) (tO XT X.K W (evO Γ (.yes e))) := by
  refine ⟨fun pins s σ H Q I h => (po_some ha).run pins s σ H Q I ?_⟩
  obtain ⟨fo, φ, ρ, st, hs, he, h⟩ := h
  unfold evO at h
  refine ⟨fo, φ, ρ, st, hs, he, (Go.of_bind h).imp fun w st1 φ1 H1 s1 q1 h1 v rv => ?_⟩
  dsimp only at h1
  cases e1 : intW w with
  | none => rw [e1] at h1; exact h1.elim
  | some i =>
    rw [e1] at h1
    cases intW_inv e1
    cases (show Rep X.K (fo ++ φ1) H1 (.int i) v from rv)
    exact ⟨i, rfl, Go.run h1 q1⟩
theorem pe_slE {a : Ex} {lo hi : Exo} {x : Expr} {l h : Option Expr} {p2 pos : Pos} (ha : PE X x (tW XT X.K W (evE Γ a))) (hl : PO X l (tO XT X.K W (evO Γ lo))) (hh : PO X h (tO XT X.K W (evO Γ hi))) :
    PE X (.Subscript x (.Slice l h none p2) pos) (tW XT X.K W (evE Γ (.sl a lo hi))) := by
  refine PE.weak (pe_slice sl_any ha hl hh) fun σ H Q h => ?_
  obtain ⟨fo, φ, ρ, st, hs, he, h⟩ := h
  unfold evE at h
  refine ⟨fo, φ, ρ, st, hs, he, (Go.of_bind h).imp fun w st1 φ1 H1 s1 q1 h1 v rv => ?_⟩
  refine ⟨fo, φ1, ρ, st1, q1, he.step s1, (Go.of_bind h1).imp fun o1 st2 φ2 H2 s2 q2 h2 => ?_⟩
  refine ⟨fo, φ2, ρ, st2, q2, he.step (s1.trans s2), (Go.of_bind h2).imp fun o2 st3 φ3 H3 s3 q3 h3 => ?_⟩
  dsimp only at h3
  unfold op1 at h3
  dsimp only at h3
  cases e1 : viewW st3 w with
  | none => rw [e1] at h3; exact h3.elim
  | some x =>
    cases e2 : slD x o1 o2 with
    | none => rw [e1] at h3; simp only [Option.bind_some, e2] at h3; exact h3.elim
    | some z =>
      rw [e1] at h3; simp only [Option.bind_some, e2] at h3
      exact uns_sl o1 o2 (fo ++ φ3) H3 x z v Q q3.trk (view_of q3 (rv.step (s2.trans s3)) e1) e2 fun u H' sm rz => h3 φ3 H' (Step.same sm) (q3.same sm) u rz
theorem pe_revE {a : Ex} {x : Expr} {k : Nat} {p1 p2 p3 pos : Pos} (ha : PE X x (tW XT X.K W (evE Γ a))) : PE X (.Subscript x (.Slice none none (some (.UnaryOp .USub (.Constant (.int 1) k p1) p2)) p3) pos) (tW XT X.K W (evE Γ (.rev a))) := by
  refine PE.weak (pe_revL ha) fun σ H Q h => ?_
  refine tW_op1 (f := revD) (r := fun x H1 Q => ∃ a xs, x = .ref a ∧ SqL X.K H1 a xs ∧ ∀ p, H1 p = none → Q (.ref p) (upd H1 p (.lst xs.reverse))) ?_ h
  intro av H x z v Q ht hx e q
  cases x with
  | lst xs =>
    cases e
    obtain ⟨a, vs, rfl, ha, ra⟩ := vlst hx
    exact ⟨a, vs, rfl, .inl ha, fun p hp => q _ _ (same_new hp) (rep_newL ht hp (RepL.reverse ra))⟩
  | _ => cases e
/-! #### methods of texts -/
theorem m1_join {a b : Ex} {x y : Expr} {ap cp : Pos} (ha : PE X x (tW XT X.K W (evE Γ a))) (hb : PE X y (tW XT X.K W (evE Γ b))) (hx : plainE x = true) (hy : plainE y = true) (hl : (ap.endLine == cp.line) = true) :
    PE X (.Call (.Attribute x "join" ap) [y] [] cp) (tW XT X.K W (evE Γ (.m1 .join a b))) := by
  have hfew : ((backTo cp (starEach [y] X.env)).all (fun x => !x.1) && (backToKw cp (keywordEach [] X.env)).all (fun x => x.1.isSome)
      && decide ([y].length + ([] : List Keyword).length + (if ([] : List Keyword).isEmpty then 0 else 1) < 30)) = true := by
    rw [plainE_star hy]
    rfl
  refine PE.weak (pe_bm PySem.F.plainAttrs_str PySem.F.slot_str_join PySem.F.type_str_join mt_join ha (pa_one hb hy) (plainE_base hx _ _) hfew hl (plainE_star hy _ _) rfl) fun σ H Q h => ?_
  obtain ⟨fo, φ, ρ, st, hs, he, h⟩ := h
  unfold evE at h
  refine ⟨fo, φ, ρ, st, hs, he, (Go.of_bind h).imp fun w st1 φ1 H1 s1 q1 h1 v rv => ?_⟩
  dsimp only at h1
  cases e1 : strW w with
  | none => rw [e1] at h1; exact h1.elim
  | some s =>
    rw [e1] at h1
    have ew : w = .d (.str s) := by
      unfold strW at e1
      split at e1
      · cases e1; rfl
      · cases e1
    subst ew
    obtain ⟨rfl, ho⟩ := vstr (Rep.view rv)
    refine ⟨rfl, ?_⟩
    exact tW_op1 (uns_join ho) ⟨fo, φ1, ρ, st1, q1, he.step s1, h1⟩
theorem m1_zfill {a b : Ex} {x y : Expr} {ap cp : Pos} (ha : PE X x (tW XT X.K W (evE Γ a))) (hb : PE X y (tW XT X.K W (evE Γ b))) (hx : plainE x = true) (hy : plainE y = true) (hl : (ap.endLine == cp.line) = true) :
    PE X (.Call (.Attribute x "zfill" ap) [y] [] cp) (tW XT X.K W (evE Γ (.m1 .zfill a b))) := by
  have hfew : ((backTo cp (starEach [y] X.env)).all (fun x => !x.1) && (backToKw cp (keywordEach [] X.env)).all (fun x => x.1.isSome)
      && decide ([y].length + ([] : List Keyword).length + (if ([] : List Keyword).isEmpty then 0 else 1) < 30)) = true := by
    rw [plainE_star hy]
    rfl
  refine PE.weak (pe_bm PySem.F.plainAttrs_str PySem.F.slot_str_zfill PySem.F.type_str_zfill mt_zfill ha (pa_one hb hy) (plainE_base hx _ _) hfew hl (plainE_star hy _ _) rfl) fun σ H Q h => ?_
  obtain ⟨fo, φ, ρ, st, hs, he, h⟩ := h
  unfold evE at h
  refine ⟨fo, φ, ρ, st, hs, he, (Go.of_bind h).imp fun w st1 φ1 H1 s1 q1 h1 v rv => ?_⟩
  dsimp only at h1
  cases e1 : strW w with
  | none => rw [e1] at h1; exact h1.elim
  | some s =>
    rw [e1] at h1
    have ew : w = .d (.str s) := by
      unfold strW at e1
      split at e1
      · cases e1; rfl
      · cases e1
    subst ew
    obtain ⟨rfl, ho⟩ := vstr (Rep.view rv)
    refine ⟨rfl, ?_⟩
    exact tW_op1 (uns_zfill ho) ⟨fo, φ1, ρ, st1, q1, he.step s1, h1⟩
theorem m1_split {a b : Ex} {x y : Expr} {ap cp : Pos} (ha : PE X x (tW XT X.K W (evE Γ a))) (hb : PE X y (tW XT X.K W (evE Γ b))) (hx : plainE x = true) (hy : plainE y = true) (hl : (ap.endLine == cp.line) = true) :
    PE X (.Call (.Attribute x "split" ap) [y] [] cp) (tW XT X.K W (evE Γ (.m1 .split a b))) := by
  have hfew : ((backTo cp (starEach [y] X.env)).all (fun x => !x.1) && (backToKw cp (keywordEach [] X.env)).all (fun x => x.1.isSome)
      && decide ([y].length + ([] : List Keyword).length + (if ([] : List Keyword).isEmpty then 0 else 1) < 30)) = true := by
    rw [plainE_star hy]
    rfl
  refine PE.weak (pe_bm PySem.F.plainAttrs_str PySem.F.slot_str_split PySem.F.type_str_split mt_split ha (pa_one hb hy) (plainE_base hx _ _) hfew hl (plainE_star hy _ _) rfl) fun σ H Q h => ?_
  obtain ⟨fo, φ, ρ, st, hs, he, h⟩ := h
  unfold evE at h
  refine ⟨fo, φ, ρ, st, hs, he, (Go.of_bind h).imp fun w st1 φ1 H1 s1 q1 h1 v rv => ?_⟩
  dsimp only at h1
  cases e1 : strW w with
  | none => rw [e1] at h1; exact h1.elim
  | some s =>
    rw [e1] at h1
    have ew : w = .d (.str s) := by
      unfold strW at e1
      split at e1
      · cases e1; rfl
      · cases e1
    subst ew
    obtain ⟨rfl, ho⟩ := vstr (Rep.view rv)
    refine ⟨rfl, ?_⟩
    exact tW_op1 (uns_split ho) ⟨fo, φ1, ρ, st1, q1, he.step s1, h1⟩
end
end PB

set_option Elab.async false
set_option linter.all false
set_option maxRecDepth 100000
set_option maxHeartbeats 4000000
set_option backward.match.sparseCases false
/-! len(set(xs)) of data. -/
namespace PB
open PySem PySem.Spec PyProof.Rows L2
mutual
/-- a datum as a key -/
def nkD : Dt → NK
  | .non => .none
  | .bl b => .num (if b = true then 1 else 0)
  | .int i => .num i
  | .str s => .text (toS s)
  | .tup xs => .tup (nkDs xs)
  | .lst _ => .none
  | .scr _ => .none
def nkDs : List Dt → List NK
  | [] => []
  | x :: xs => nkD x :: nkDs xs
end
mutual
theorem nk_dep : ∀ x : Dt, keyOk x = true → (nkD x).depth = depD x
  | .non, _ => rfl
  | .bl _, _ => rfl
  | .int _, _ => rfl
  | .str _, _ => rfl
  | .tup xs, h => by simp only [nkD, NestedKey.depth, depD, nk_deps xs (by simpa [keyOk] using h)]
  | .lst _, h => by simp [keyOk] at h
  | .scr _, h => by simp [keyOk] at h
theorem nk_deps : ∀ xs : List Dt, keyOks xs = true → NestedKey.depthAll (nkDs xs) = depDs xs
  | [], _ => rfl
  | x :: xs, h => by
    simp only [keyOks, Bool.and_eq_true] at h
    simp only [nkDs, NestedKey.depthAll, depDs, nk_dep x h.1, nk_deps xs h.2]
end
mutual
theorem nk_eq : ∀ x y : Dt, keyOk x = true → keyOk y = true → NestedKey.beq (nkD x) (nkD y) = eqD x y
  | .tup xs, .tup ys, h, h' => by
    simp only [nkD, NestedKey.beq, eqD]
    exact nk_eqs xs ys (by simpa [keyOk] using h) (by simpa [keyOk] using h')
  | .str a, .str b, _, _ => by
    simp only [nkD, NestedKey.beq, eqD]
    rw [← toS_beq]
    rfl
  | .lst _, _, h, _ => by simp [keyOk] at h
  | .scr _, _, h, _ => by simp [keyOk] at h
  | .non, y, _, h' => by cases y <;> first | rfl | (simp [keyOk] at h')
  | .bl a, y, _, h' => by cases y <;> first | rfl | (simp [keyOk] at h'; done) | (rename_i b; cases a <;> cases b <;> rfl)
  | .int i, y, _, h' => by cases y <;> first | rfl | (simp [keyOk] at h'; done)
  | .str _, .non, _, _ => rfl
  | .str _, .bl _, _, _ => rfl
  | .str _, .int _, _, _ => rfl
  | .str _, .tup _, _, _ => rfl
  | .str _, .lst _, _, h' => by simp [keyOk] at h'
  | .str _, .scr _, _, h' => by simp [keyOk] at h'
  | .tup _, .non, _, _ => rfl
  | .tup _, .bl _, _, _ => rfl
  | .tup _, .int _, _, _ => rfl
  | .tup _, .str _, _, _ => rfl
  | .tup _, .lst _, _, h' => by simp [keyOk] at h'
  | .tup _, .scr _, _, h' => by simp [keyOk] at h'
theorem nk_eqs : ∀ xs ys : List Dt, keyOks xs = true → keyOks ys = true → NestedKey.beqAll (nkDs xs) (nkDs ys) = eqDs xs ys
  | [], [], _, _ => rfl
  | [], _ :: _, _, _ => rfl
  | _ :: _, [], _, _ => rfl
  | x :: xs, y :: ys, h, h' => by
    simp only [keyOks, Bool.and_eq_true] at h h'
    simp only [nkDs, NestedKey.beqAll, eqDs, nk_eq x y h.1 h'.1, nk_eqs xs ys h.2 h'.2]
end
theorem nk_iff {x y : Dt} (h : keyOk x = true) (h' : keyOk y = true) : nkD x = nkD y ↔ eqD x y = true := by
  rw [← nk_eq x y h h']
  constructor
  · intro e
    rw [e]
    exact NestedKey.beq_self _
  · exact NestedKey.eq_of_beq _ _
/-- the keys of unlike ones -/
theorem nub_keys : ∀ xs : List Dt, (∀ x ∈ xs, keyOk x = true) → ((nubD xs).map nkD).Nodup ∧ (∀ k, k ∈ (nubD xs).map nkD ↔ k ∈ xs.map nkD)
  | [], _ => ⟨List.nodup_nil, fun k => Iff.rfl⟩
  | x :: xs, h => by
    have hx := h x List.mem_cons_self
    have hr := fun y hy => h y (List.mem_cons_of_mem x hy)
    obtain ⟨i1, i2⟩ := nub_keys xs hr
    by_cases c : xs.any (fun z => eqD x z) = true
    · rw [nubD, if_pos c]
      refine ⟨i1, fun k => ?_⟩
      rw [i2, List.map_cons, List.mem_cons]
      constructor
      · exact .inr
      · rintro (e | e)
        · obtain ⟨z, hz, ez⟩ := List.any_eq_true.mp c
          rw [e, (nk_iff hx (hr z hz)).mpr ez]
          exact List.mem_map_of_mem hz
        · exact e
    · rw [nubD, if_neg c, List.map_cons]
      refine ⟨List.nodup_cons.mpr ⟨fun m => ?_, i1⟩, fun k => ?_⟩
      · rw [i2] at m
        obtain ⟨z, hz, ez⟩ := List.mem_map.mp m
        exact c (List.any_eq_true.mpr ⟨z, hz, (nk_iff hx (hr z hz)).mp ez.symm⟩)
      · rw [List.mem_cons, i2, List.map_cons, List.mem_cons]
section
variable {X : Cx} {pins : List (Addr × Obj)} {σ : L2.St} {H : Hp} {s : Shared} {av : List Addr}
mutual
theorem rep_nk (I : Inv X pins σ H s) : ∀ {x : Dt} {v : V} {u : Value}, Rep X.K av H x v → RelV v u → keyOk x = true → NestedIs s.heap (nkD x) u
  | _, _, _, .non, r, _ => by cases r; exact .none
  | _, _, _, .bl b, r, _ => by cases r; exact .bool rfl
  | _, _, _, .int i, r, _ => by obtain ⟨t, rfl⟩ := r; exact .int _ _
  | _, _, _, .str z h, r, _ => by obtain ⟨t, rfl⟩ := r; exact .text _ _
  | _, _, _, .tup h q e, r, k => by
    cases r
    obtain ⟨its, rv, ⟨o, g1, g2, m, g3⟩, _⟩ := I.tuple (.inl q)
    exact .tup g1 g2 g3 (by simpa using rep_nks I e rv (by simpa [keyOk] using k))
  | _, _, _, .tupK q e, r, k => by
    cases r
    obtain ⟨its, rv, ⟨o, g1, g2, m, g3⟩, _⟩ := I.tuple (.inr q)
    exact .tup g1 g2 g3 (by simpa using rep_nks I e rv (by simpa [keyOk] using k))
  | _, _, _, .lst _ _ _, _, k => by simp [keyOk] at k
  | _, _, _, .scr _, _, k => by simp [keyOk] at k
theorem rep_nks (I : Inv X pins σ H s) : ∀ {xs : List Dt} {vs : List V} {us : List Value}, RepL X.K av H xs vs → Vals vs us → keyOks xs = true → NestedAll s.heap (nkDs xs) us
  | _, _, _, .nil, r, _ => by cases r; exact .nil
  | _, _, _, .cons h q, r, k => by
    cases r with
    | cons r1 r2 =>
      simp only [keyOks, Bool.and_eq_true] at k
      exact .cons (rep_nk I h r1 k.1) (rep_nks I q r2 k.2)
end
/-- tuples that are keys, with their places -/
theorem reps_ks (I : Inv X pins σ H s) : ∀ {xs : List Dt} {vs : List V} {us : List Value}, RepL X.K av H xs vs → Vals vs us → xs.all (fun x => isTupD x && keyOk x && decide (depD x ≤ 8)) = true →
    ∃ ks : List (Addr × NK), us = (ks.map fun p => Value.ref p.1) ∧ ks.map (·.2) = xs.map nkD ∧ ∀ p ∈ ks, isN s.heap p.2 p.1
  | _, _, _, .nil, r, _ => by cases r; exact ⟨[], rfl, rfl, fun p h => by cases h⟩
  | x :: xs, _, _, .cons h q, r, k => by
    cases r with
    | cons r1 r2 =>
      simp only [List.all_cons, Bool.and_eq_true, decide_eq_true_eq] at k
      obtain ⟨⟨⟨k1, k2⟩, k3⟩, k4⟩ := k
      obtain ⟨ks, e1, e2, e3⟩ := reps_ks I q r2 (by simpa only [List.all_eq_true, Bool.and_eq_true, decide_eq_true_eq] using k4)
      have n1 := rep_nk I h r1 k2
      obtain ⟨a, ha⟩ : ∃ a, _ = V.ref a := by
        cases x with
        | tup ys => obtain ⟨a, vs, e, _⟩ := Rep.sqT h; exact ⟨a, e⟩
        | _ => simp [isTupD] at k1
      subst ha
      cases r1
      refine ⟨(a, nkD x) :: ks, by rw [e1]; rfl, by rw [List.map_cons, List.map_cons, e2], fun p hp => ?_⟩
      rcases List.mem_cons.mp hp with e | hp
      · rw [e]
        exact ⟨n1, by rw [nk_dep x k2]; exact k3⟩
      · exact e3 p hp
end
section
variable {XT : Xt} {T : Tb} {Γ : Gam} {N : List Str} {X : Cx} {W : WX} {sc : Scope}
/-- the reading of len(set(..)) -/
def rLens (K : PySem.W.Frag) : V → Hp → VK → Prop := fun v H Q => ∃ (av : List Addr) (xs : List Dt) (a : Addr) (vs : List V), v = .ref a ∧ SqT K H a vs ∧ RepL K av H xs vs ∧
  xs.all (fun x => isTupD x && keyOk x && decide (depD x ≤ 8)) = true ∧ xs.length < 64 ∧ Q (.int (nubD xs).length) H
theorem uns_lens {K : PySem.W.Frag} : UnS K lensD (rLens K) := by
  intro av H x z v Q ht hx e q
  cases x with
  | tup xs =>
    unfold lensD at e
    dsimp only at e
    split at e
    · rename_i c
      cases e
      obtain ⟨a, vs, rfl, ha, ra⟩ := vtup hx
      exact ⟨av, xs, a, vs, rfl, ha, ra, c.1, c.2, q _ H (.refl H) (.int _)⟩
    · cases e
  | _ => cases e
theorem pe_lensV {a : Expr} {ta : TE} {p p2 q pos : Pos} (hc : X.calm = true) (room : X.A.units + 65 < cLine) (hg : Gl X "len") (hm : X.mg "len" = none) (hg2 : Gl X "set") (hm2 : X.mg "set" = none) (ha : PE X a ta)
    (na : starEach [a] X.env = (false, eval a X.env) :: starEach [] X.env) : PE X (.Call (.Name "len" p) [.Call (.Name "set" p2) [a] [] q] [] pos) (fun σ H Q => ta σ H fun x H1 => rLens X.K x H1 Q) := by
  refine ⟨fun pins s σ H Q I h => ?_⟩
  refine Call_ (ld_blt I hg hm PySem.boot_len ?_)
  refine PyProof.Rows.callWith_builtin1 (PyProof.Rows.args_cons ?_ rfl) rfl rfl
  refine Call_ (ld_blt I hg2 hm2 PyProof.Rows.boot_set ?_)
  refine PyProof.Rows.callWith_type1 (PyProof.Rows.args_cons (thn (ha.run pins s σ H _ I h) fun v s1 ⟨x, H1, I1, r1, q1⟩ => PyProof.Rows.args_nil ?_) na) na rfl
  obtain ⟨av, xs, t, vs, rfl, sq, rl, ok, few, q1⟩ := q1
  cases r1
  obtain ⟨its, rv, tu, _⟩ := I1.tuple sq
  obtain ⟨ks, e1, e2, e3⟩ := reps_ks I1 rl rv ok
  have kl : ks.length = xs.length := by
    have := congrArg List.length e2
    simpa using this
  refine call_setN_tuple (P := X.prog) (w := X.w) ks (I1.ok.hd hc) (show s1.heap.IsTuple t its.toArray from tu) (by simpa using e1) e3 (by omega) (by omega) fun h' tk L es ep tb S g kp => ?_
  refine PyProof.Rows.args_nil ?_
  obtain ⟨o, g1, g2, g3⟩ := S.obj
  have I2 : Inv X pins σ H1 { s1 with heap := h', toks := tk } := I1.kept kp
  have key : ∀ x ∈ xs, keyOk x = true := fun x hx => by
    have := List.all_eq_true.mp ok x hx
    simp only [Bool.and_eq_true] at this
    exact this.1.2
  obtain ⟨u1, u2⟩ := nub_keys xs key
  have cnt : es.size = (nubD xs).length := by
    have pm : (L.map (·.2)).Perm ((nubD xs).map nkD) := by
      refine (List.perm_ext_iff_of_nodup S.nod u1).mpr fun k => ?_
      rw [u2, ← e2]
      constructor
      · intro m
        obtain ⟨p, hp, rfl⟩ := List.mem_map.mp m
        exact List.mem_map_of_mem (List.mem_of_mem_take (g.sub p hp))
      · intro m
        obtain ⟨p, hp, rfl⟩ := List.mem_map.mp m
        exact g.all p (by rw [List.take_length]; exact hp)
    have := pm.length_eq
    rw [List.length_map, List.length_map] at this
    rw [S.size (s := { s1 with heap := h', toks := tk }), this]
  have few2 := S.few
  have sz2 := S.size (s := { s1 with heap := h', toks := tk })
  refine call_len_set g1 g2 g3 (S.fits (s := { s1 with heap := h', toks := tk })) (by omega) ⟨.int (nubD xs).length, H1, I2.tok _, ⟨_, by rw [cnt]⟩, q1⟩
theorem pe_lensE {a : Ex} {y : Expr} {p1 p2 q1 q : Pos} (c : CxOk XT T Γ N X W sc) (g1 : isGl sc "len" = true) (g2 : isGl sc "set" = true) (ha : PE X y (tW XT X.K W (evE Γ a))) (hy : plainE y = true) :
    PE X (.Call (.Name "len" p1) [.Call (.Name "set" p2) [y] [] q1] [] q) (tW XT X.K W (evE Γ (.lens a))) := by
  refine PE.weak (pe_lensV c.calm c.units (c.gl g1) (c.blt "len" (by decide)) (c.gl g2) (c.blt "set" (by decide)) ha (plainE_star hy _ _)) fun σ H Q h => tW_op1 uns_lens ?_
  exact h
end
end PB

set_option Elab.async false
set_option linter.all false
set_option maxRecDepth 100000
set_option maxHeartbeats 4000000
set_option backward.match.sparseCases false
/-! Expressions keep their meaning: calls of defs, and, or, walks, comprehensions. -/
namespace PB
open PySem PySem.Spec PyProof.Rows L2
/-- enumerate(v) by what begins v's walk -/
theorem enum_newB {v : Value} {o : Obj} {H : Heap → Prop} (B : PySem.Begins v o H) :
    Meets (Builtin.«enumerate.__new__» ⟨[.type "enumerate", v], []⟩) (fun _ R s => H s.heap ∧
      R (.ok (.ret (.ref (s.heap.push o).objs.size))) { s with heap := (s.heap.push o).push { cls := .type "enumerate", data := .fields #[.none, .bool false, .ref s.heap.objs.size, rawInt 0, .none, .none] } }) :=
  .of_wp fun prog w A R s h => by
    obtain ⟨hp, g, d, tk, os⟩ := s
    obtain ⟨h1, h⟩ := h
    have hsub := sub_enumerate
    have q1 : ∀ {A' : Around} {E : Value → Shared → Prop} {Q : Value → Shared → Prop}, Q (.ref hp.objs.size) ⟨hp.push o, g, d, tk, os⟩ → wpAny (model prog w) A' (pyIter v) Q E ⟨hp, g, d, tk, os⟩ :=
      fun q => B.iter prog w _ _ ⟨hp, g, d, tk, os⟩ _ h1 q
    wp_walk using q1
    refine wpAny_stack_any fun st => wpAny_pure ?_
    split
    · rename_i c _ _ _ _ _
      cases (c == Value.type "enumerate") <;> (wp_walk using q1; exact ⟨_, rfl, h⟩)
    · wp_walk using q1
      exact ⟨_, rfl, h⟩

theorem call_enumT {prog : Program} {w : World} {A : Around} {E : Value → Shared → Prop} {s : Shared} {t : Addr} {items : Array Value} {Q : Value → Shared → Prop} (hT : s.heap.IsTuple t items)
    (h : ∀ h', IsEnum h' (s.heap.objs.size + 1) s.heap.objs.size 0 .none → h'.IsTupleIter s.heap.objs.size t 0 → h'.objs.size = s.heap.objs.size + 2 →
      (∀ b o, s.heap.get? b = some o → h'.get? b = some o) → Q (.ref (s.heap.objs.size + 1)) { s with heap := h' }) :
    wpAny (model prog w) A (call (.type "enumerate") [.ref t]) Q E s := by
  refine callType_new F.called_enumerate (by decide) (F.typeCall_enumerate_1 _) (F.newCall_enumerate_1 _) (fun obj => F.args_object_init_2 obj _) F.entry_enumerate_new (enum_newB (begins_tuple t items)) ⟨hT, ?_⟩
  generalize hO : ({ cls := .type "tuple_iterator", data := .fields #[.ref t, .int 0 0] } : Obj) = O
  generalize hU : ({ cls := .type "enumerate", data := .fields #[.none, .bool false, .ref s.heap.objs.size, rawInt 0, .none, .none] } : Obj) = U
  have hz : (s.heap.push O).objs.size = s.heap.objs.size + 1 := Heap.size_push ..
  have fO : O.isFreed = false := by rw [← hO]; rfl
  have fU : U.isFreed = false := by rw [← hU]; rfl
  have g1 : ((s.heap.push O).push U).get? (s.heap.objs.size + 1) = some U := by
    have q := Heap.get?_push_size (s.heap.push O) fU
    rwa [hz] at q
  have g0 : ((s.heap.push O).push U).get? s.heap.objs.size = some O := Heap.get?_push_of_some _ (Heap.get?_push_size _ fO)
  show _ ∧ _
  rw [hz]
  refine ⟨⟨_, g1, by rw [← hU]⟩, h _ (by rw [← hU] at g1 ⊢; exact g1) ⟨O, g0, by rw [← hO], by rw [← hO]; rfl⟩ (by rw [Heap.size_push, hz]) fun b o x => Heap.get?_push_of_some _ (Heap.get?_push_of_some _ x)⟩
/-- the tuple at a, each item in a new pair -/
def IteT (K : PySem.W.Frag) (a : Addr) : It :=
  ⟨fun i H => ∃ (xs : List V) (x : V), SqT K H a xs ∧ xs[i]? = some x, fun i H v H' => ∃ T x, v = .ref T ∧ H T = none ∧ H' = upd H T (.tup [.int (i : Nat), x]) ∧ ∀ xs, SqT K H a xs → xs[i]? = some x, fun i H => ∃ xs : List V, SqT K H a xs ∧ xs.length = i⟩
theorem turn_enumT {P : Program} {w : World} {K : PySem.W.Frag} {elts : List Expr} {kk : Nat} {tpos : Pos} (a e it : Addr) (hat : a ≠ it) (hea : e ≠ a) :
    Turn P w K (.Tuple elts kk tpos) (IteT K a) [e, it] e (fun i h => (∃ old, IsEnum h e it ((i : Nat) : Int) old) ∧ h.IsTupleIter it a i ∧ e ≠ it) where
  mem := by simp
  obj := fun i h st b hb => by
    obtain ⟨⟨old, he⟩, ⟨o, ho, hc, hd⟩, _⟩ := st
    rcases (by simpa using hb : b = e ∨ b = it) with rfl | rfl
    · exact ⟨_, he, fun v q => nomatch q⟩
    · exact ⟨o, ho, fun v q => by rw [hd] at q; cases q⟩
  keep := fun i h h' st k => let ⟨⟨old, he⟩, hi, hne⟩ := st; ⟨⟨old, k e (by simp) _ he⟩, hi.at fun o q => k it (by simp) o q, hne⟩
  item := by
    intro X hP hw hK hc i pins s σ H E I hf st hg
    subst hP hw hK
    obtain ⟨⟨old, he⟩, hit, hne⟩ := st
    obtain ⟨xs, x, hq, hx⟩ := hg
    obtain ⟨its, rv, p, hz⟩ := I.tuple hq
    obtain ⟨u, hu, ru⟩ := rv.get hx
    have hel : e < s.heap.objs.size := Heap.lt_size he
    have hil : it < s.heap.objs.size := by obtain ⟨_, q, _⟩ := hit; exact Heap.lt_size q
    have pT : s.heap.IsTuple a its.toArray := p
    have hlt : i < its.toArray.size := by
      have := (List.getElem?_eq_some_iff.mp hu).1
      simpa using this
    refine wpAny_pyNext_enum_itemD (Draws.tuple (A := X.A.in1) (I.ok.hd hc) it a hat its.toArray) he ⟨hit, pT⟩ hlt hne (by simp [hne, hea]) fun y h' tk hy ho hst hT hsz hk => ?_
    have ey : y = u := by
      have hy : its.toArray[i]? = some y := hy
      have : its[i]? = some y := by simpa using hy
      rw [hu] at this
      exact (Option.some.inj this).symm
    subst ey
    refine ⟨_, rfl, wpAny_letOwnedTupleGo_enum (s := { s with heap := h', toks := tk + 1 }) ho fun h'' he' sb => ?_⟩
    have hT2 : h''.get? s.heap.objs.size = some { cls := .type "tuple", data := .seq #[.int i tk, y] } := (sb.2 _ (Nat.ne_of_gt hel)).trans hT
    have new : ObjOk X.prog X.w (upd H s.heap.objs.size (.tup [.int (i : Nat), x])) h'' s.heap.objs.size (.tup [.int (i : Nat), x]) :=
      ⟨by show 2 ≤ sizeLine; decide, [.int i tk, y], .cons ⟨_, rfl⟩ (.cons ru .nil), ⟨_, hT2, rfl, _, rfl⟩⟩
    have I1 : Inv X pins σ (upd H s.heap.objs.size (.tup [.int (i : Nat), x])) { s with heap := h'', toks := tk + 1 } :=
      I.turnedNew (ch := [e, it]) (fun b ob hb q => (sb.2 b (fun z => hb (by simp [z]))).trans (hk b ob (fun z => hb (by simp [z])) (fun z => hb (by simp [z])) q)) hf (Nat.le_refl _) new
    refine ⟨.ref s.heap.objs.size, _, I1, rfl, ⟨_, x, rfl, I.hok.fresh (Nat.le_refl _), rfl, fun ys hy => ?_⟩, ⟨⟨y, ?_⟩, hst.1.at fun o q => (sb.2 it (Ne.symm hne)).trans q, hne⟩, fun b hb => ?_⟩
    · rw [I.tuple_inj hy hq]; exact hx
    · have e1 : ((i + 1 : Nat) : Int) = (i : Int) + 1 := by omega
      rw [e1]; exact he'
    · have hb' : b < s.heap.objs.size := by
        rcases (by simpa using hb : b = e ∨ b = it) with rfl | rfl
        · exact hel
        · exact hil
      rw [upd_ne (Nat.ne_of_lt hb')]
      exact (hf b hb).1
  done := by
    intro X hP hw hK hc i pins s σ H E I hf st hg
    subst hP hw hK
    obtain ⟨⟨old, he⟩, hit, hne⟩ := st
    obtain ⟨xs, hq, hx⟩ := hg
    obtain ⟨its, rv, p, hz⟩ := I.tuple hq
    obtain ⟨f0, f1, f2, f3, f4, f5⟩ := hf it (by simp)
    have hl := rv.length
    have hn : i = its.toArray.size := by simp; omega
    exact wpAny_pyNext_enum_endD (Draws.tuple (A := X.A.in1) (I.ok.hd hc) it a hat its.toArray) he ⟨by rw [← hn]; exact hit, p⟩ fun h' eb => ⟨rfl, I.turned (t' := s.toks) (fun b o hb q => eb b o hb q) f0 f1 f3 f4 f5⟩
  self := fun A i s Q E st h => let ⟨⟨_, he⟩, _⟩ := st; wpAny_pyIter_enum he h
def iEnumT (K : PySem.W.Frag) (ta : TA) : TI := fun σ H R => ta σ H fun vs H1 => ∃ a xs, vs = [.ref a] ∧ SqT K H1 a xs ∧ R (IteT K a) H1
theorem pi_enumT {X : Cx} {e : Expr} {ta : TA} {p pos tpos : Pos} {elts : List Expr} {kk : Nat} (hg : Gl X "enumerate") (hm : X.mg "enumerate" = none) (ha : PA X [e] ta) (hs : starEach [e] X.env = [(false, eval e X.env)]) :
    PI X (.Tuple elts kk tpos) (.Call (.Name "enumerate" p) [e] [] pos) (iEnumT X.K ta) := by
  refine ⟨fun pins s σ H R I h => ?_⟩
  refine Call_ (ld_blt I hg hm boot_enumerate (PyProof.Rows.callWith_type1 (thn (ha.run pos pins s σ H _ I h) fun us s1 ⟨vs, H1, I1, r1, q1⟩ => ?_) hs rfl))
  obtain ⟨a, xs, rfl, hq, q⟩ := q1
  obtain ⟨u, rfl, ru⟩ := vals1 r1
  obtain rfl : u = Value.ref a := ru
  obtain ⟨its, rv, p', hz⟩ := I1.tuple hq
  have pT : s1.heap.IsTuple a its.toArray := p'
  have hal : a < s1.heap.objs.size := by obtain ⟨_, g, _⟩ := pT; exact Heap.lt_size g
  refine call_enumT pT fun h' he hit hsz hk => wpAny_pyIter_enum he ?_
  have I2 : Inv X pins σ H1 { s1 with heap := h' } := I1.kept (t' := s1.toks) hk
  refine ⟨s1.heap.objs.size + 1, [s1.heap.objs.size + 1, s1.heap.objs.size], _, _, H1, rfl, I2, turn_enumT a (s1.heap.objs.size + 1) s1.heap.objs.size (Nat.ne_of_lt hal) (Ne.symm (Nat.ne_of_lt (Nat.lt_succ_of_lt hal))), ⟨⟨.none, he⟩, hit, Nat.succ_ne_self _⟩, fun b hb => ?_, q⟩
  have hle : s1.heap.objs.size ≤ b := by
    rcases (by simpa using hb : b = s1.heap.objs.size + 1 ∨ b = s1.heap.objs.size) with rfl | rfl
    · exact Nat.le_add_right _ _
    · exact Nat.le_refl _
  exact I1.fpOk hle (I1.hok.fresh hle)
section
variable {XT : Xt} {T : Tb} {Γ : Gam} {N : List Str} {X : Cx} {W : WX} {sc : Scope} {K : PySem.W.Frag} {σ : L2.St} {H : Hp} {Q : VK}

theorem evEs_len : ∀ (es : Exs) {ρ : Ev} {st : Sr} {p : List Wv × Sr}, evEs Γ es ρ st = .ok p → p.1.length = es.len
  | .nil, ρ, st, p, h => by
    unfold evEs at h
    cases h; rfl
  | .cons e es, ρ, st, p, h => by
    unfold evEs at h
    obtain ⟨a, _, h⟩ := bind_ok_inv h
    obtain ⟨b, h2, h⟩ := bind_ok_inv h
    cases h
    show b.1.length + 1 = es.len + 1
    rw [evEs_len es h2]
theorem pe_callE {f : Nat} {es : Exs} {x : Str} {y : Expr} {ys : List Expr} {pn pos : Pos} (c : CxOk XT T Γ N X W sc) (hf : T.fns[f]? = some (x, es.len)) (hcl : T.nn = true → f ∈ T.cln) (hg : isGl sc x = true) (ha : PA X (y :: ys) (tL XT X.K W (evEs Γ es)))
    (hs : starEach (y :: ys) X.env = (false, eval y X.env) :: starEach ys X.env) (hpl : (backTo pos (starEach ys X.env)).any (·.1) = false) :
    PE X (.Call (.Name x pn) (y :: ys) [] pos) (tW XT X.K W (evE Γ (.call f es))) := by
  obtain ⟨k, a, fd, ps, F, hr, hm, hk, hb, hn⟩ := c.fn f x es.len hf hcl
  refine PE.weak (pe_callSD F hr (c.gl hg) hm hk hb .nil (fun σ => passB c.takes σ) ha (isGl_gl hg).2 hs hpl) fun σ H Q h => ?_
  obtain ⟨fo, φ, ρ, st, hs, he, h⟩ := h
  unfold evE at h
  refine ⟨fo, φ, ρ, st, hs, he, ?_⟩
  have h2 := Go.of_bind h
  cases e : evEs Γ es ρ st with
  | bad => rw [e] at h2; exact h2
  | exc c fs sx => rw [e] at h2; exact h2
  | ok p =>
    rw [e] at h2
    intro φ' H' s' q' vs rv
    refine ⟨fo, φ', p.2, p.1, q', ?_, evEs_len es e, h2 φ' H' s' q'⟩
    rw [List.append_nil]
    exact rv
theorem pe_call0E {f : Nat} {x : Str} {pn pos : Pos} (c : CxOk XT T Γ N X W sc) (hf : T.fns[f]? = some (x, 0)) (hcl : T.nn = true → f ∈ T.cln) (hg : isGl sc x = true) : PE X (.Call (.Name x pn) [] [] pos) (tW XT X.K W (evE Γ (.call0 f))) := by
  obtain ⟨k, a, fd, ps, F, hr, hm, hk, hb, hn⟩ := c.fn f x 0 hf hcl
  refine PE.weak (pe_call0 (E := fun _ _ _ => False) (dvs := []) F hr (c.gl hg) hm hk hb .nil (fun pins σ H s e s' I z => by
    revert z
    cases XT.nn with
    | true => exact fun ⟨_, _, _, _, _, _, _, _, _, _, _, _, z⟩ => z.elim
    | false => exact fun ⟨_, _, _, _, _, _, _, _, _, _, _, _, z⟩ => z.elim) (isGl_gl hg).2) fun σ H Q h => ?_
  obtain ⟨fo, φ, ρ, st, hs, he, h⟩ := h
  unfold evE at h
  refine ⟨fo, φ, st, [], hs, .nil, rfl, ?_⟩
  cases e : Γ.call f [] st with
  | ok p => rw [e] at h; exact h
  | exc c fs sx => rw [e] at h; exact h.elim
  | bad => rw [e] at h; exact h
theorem no_star : ∀ {T : Tb} {N : List Str} {sc : Scope} {es : Exs} {ys : List Expr} {pos : Pos} {env : PySem.Env}, chkEs T N sc es ys = true → (backTo pos (starEach ys env)).any (·.1) = false
  | T, N, sc, .nil, [], pos, env, h => rfl
  | T, N, sc, .cons e es, y :: ys, pos, env, h => by
    unfold chkEs at h
    simp only [Bool.and_eq_true] at h
    rw [plainE_star h.1.2]
    have := no_star (T := T) (N := N) (sc := sc) (es := es) (ys := ys) (pos := pos) (env := env) h.2
    show (false || (backTo pos (starEach ys env)).any (·.1)) = false
    rw [this]
    rfl
  | T, N, sc, .nil, _ :: _, pos, env, h => by unfold chkEs at h; cases h
  | T, N, sc, .cons _ _, [], pos, env, h => by unfold chkEs at h; cases h
/-! #### and, or -/
theorem evAnd_one (e : Ex) : evAnd Γ (.cons e .nil) = evE Γ e := by
  funext ρ st
  unfold evAnd
  rfl
theorem evOr_one (e : Ex) : evOr Γ (.cons e .nil) = evE Γ e := by
  funext ρ st
  unfold evOr
  rfl
theorem evAnd_more (e e2 : Ex) (r : Exs) (ρ : Ev) (st : Sr) : evAnd Γ (.cons e (.cons e2 r)) ρ st = (evE Γ e ρ st).bind fun p => (truW p).bind fun t => if t = true then evAnd Γ (.cons e2 r) ρ p.2 else .ok p := by
  rw [evAnd]
  rfl
theorem evOr_more (e e2 : Ex) (r : Exs) (ρ : Ev) (st : Sr) : evOr Γ (.cons e (.cons e2 r)) ρ st = (evE Γ e ρ st).bind fun p => (truW p).bind fun t => if t = true then .ok p else evOr Γ (.cons e2 r) ρ p.2 := by
  rw [evOr]
  rfl
theorem truW_cases (p : Wv × Sr) : truW p = .bad ∨ ∃ k, truW p = .ok k := by
  cases e : truW p with
  | bad => exact .inl rfl
  | ok k => exact .inr ⟨k, rfl⟩
  | exc c fs sx => exact (truW_exc e).elim
theorem pe_andE {e e2 : Ex} {r : Exs} {x y : Expr} {ys : List Expr} {pos : Pos} (ha : PE X x (tW XT X.K W (evE Γ e))) (hb : PE X (.BoolOp .And (y :: ys) pos) (tW XT X.K W (evAnd Γ (.cons e2 r)))) :
    PE X (.BoolOp .And (x :: y :: ys) pos) (tW XT X.K W (evAnd Γ (.cons e (.cons e2 r)))) := by
  refine PE.weak (pe_andT ha hb) fun σ H Q h => ?_
  obtain ⟨fo, φ, ρ, st, hs, he, h⟩ := h
  rw [evAnd_more] at h
  refine ⟨fo, φ, ρ, st, hs, he, (Go.of_bind h).imp fun w st1 φ1 H1 s1 q1 h1 v rv => ?_⟩
  rcases truW_cases (w, st1) with e1 | ⟨k, e1⟩
  · rw [e1] at h1; exact h1.elim
  · rw [e1] at h1
    refine ⟨k, truW_ok q1 rv e1, ?_⟩
    cases k with
    | true => exact ⟨fo, φ1, ρ, st1, q1, he.step s1, h1⟩
    | false => exact (Go.run (a := w) (st := st1) h1 q1) v rv
theorem pe_orE {e e2 : Ex} {r : Exs} {x y : Expr} {ys : List Expr} {pos : Pos} (ha : PE X x (tW XT X.K W (evE Γ e))) (hb : PE X (.BoolOp .Or (y :: ys) pos) (tW XT X.K W (evOr Γ (.cons e2 r)))) :
    PE X (.BoolOp .Or (x :: y :: ys) pos) (tW XT X.K W (evOr Γ (.cons e (.cons e2 r)))) := by
  refine PE.weak (pe_orT ha hb) fun σ H Q h => ?_
  obtain ⟨fo, φ, ρ, st, hs, he, h⟩ := h
  rw [evOr_more] at h
  refine ⟨fo, φ, ρ, st, hs, he, (Go.of_bind h).imp fun w st1 φ1 H1 s1 q1 h1 v rv => ?_⟩
  rcases truW_cases (w, st1) with e1 | ⟨k, e1⟩
  · rw [e1] at h1; exact h1.elim
  · rw [e1] at h1
    refine ⟨k, truW_ok q1 rv e1, ?_⟩
    cases k with
    | false => exact ⟨fo, φ1, ρ, st1, q1, he.step s1, h1⟩
    | true => exact (Go.run (a := w) (st := st1) h1 q1) v rv
/-- a test of and, or: as the truth of the value -/
def evTAnd (Γ : Gam) (es : Exs) (ρ : Ev) (st : Sr) : Rs (Bool × Sr) := (evAnd Γ es ρ st).bind fun p => (truW p).bind fun t => .ok (t, p.2)
def evTOr (Γ : Gam) (es : Exs) (ρ : Ev) (st : Sr) : Rs (Bool × Sr) := (evOr Γ es ρ st).bind fun p => (truW p).bind fun t => .ok (t, p.2)
theorem pw_one {e : Ex} {x : Expr} {op : BoolOp} {pos : Pos} (ha : PT X x (tT XT X.K W (evT Γ e))) : PW X (.BoolOp op [x] pos) (tT XT X.K W (evT Γ e)) := by
  cases op with
  | And => exact pw_and1 ha
  | Or => exact pw_or1 ha
theorem PW.weak {e : Expr} {t t' : TT} (h : PW X e t) (f : ∀ σ H Q, t' σ H Q → t σ H Q) : PW X e t' := ⟨fun wh pins s σ H Q I q => h.run wh pins s σ H Q I (f σ H Q q)⟩
theorem pw_andE {e e2 : Ex} {r : Exs} {x y : Expr} {ys : List Expr} {pos : Pos} (ha : PT X x (tT XT X.K W (evT Γ e))) (hb : PW X (.BoolOp .And (y :: ys) pos) (tT XT X.K W (evTAnd Γ (.cons e2 r)))) :
    PW X (.BoolOp .And (x :: y :: ys) pos) (tT XT X.K W (evTAnd Γ (.cons e (.cons e2 r)))) := by
  refine PW.weak (pw_and ha hb) fun σ H Q h => ?_
  obtain ⟨fo, φ, ρ, st, hs, he, h⟩ := h
  refine ⟨fo, φ, ρ, st, hs, he, ?_⟩
  unfold evTAnd at h
  rw [evAnd_more] at h
  unfold evT
  cases e1 : evE Γ e ρ st with
  | bad => rw [e1] at h; exact h
  | exc c fs sx => rw [e1] at h; exact h
  | ok p =>
    rw [e1] at h
    simp only [Rs.bind_ok] at h ⊢
    rcases truW_cases p with e2 | ⟨k, e2⟩
    · rw [e2] at h; exact False.elim h
    · rw [e2] at h ⊢
      simp only [Rs.bind_ok] at h ⊢
      intro φ' H' s' q'
      cases k with
      | true => exact ⟨fo, φ', ρ, p.2, q', he.step s', Go.at_ h s'⟩
      | false =>
        rw [if_neg Bool.false_ne_true] at h ⊢
        simp only [Rs.bind_ok, e2] at h
        exact Go.run (Go.at_ h s') q'
theorem pw_orE {e e2 : Ex} {r : Exs} {x y : Expr} {ys : List Expr} {pos : Pos} (ha : PT X x (tT XT X.K W (evT Γ e))) (hb : PW X (.BoolOp .Or (y :: ys) pos) (tT XT X.K W (evTOr Γ (.cons e2 r)))) :
    PW X (.BoolOp .Or (x :: y :: ys) pos) (tT XT X.K W (evTOr Γ (.cons e (.cons e2 r)))) := by
  refine PW.weak (pw_or ha hb) fun σ H Q h => ?_
  obtain ⟨fo, φ, ρ, st, hs, he, h⟩ := h
  refine ⟨fo, φ, ρ, st, hs, he, ?_⟩
  unfold evTOr at h
  rw [evOr_more] at h
  unfold evT
  cases e1 : evE Γ e ρ st with
  | bad => rw [e1] at h; exact h
  | exc c fs sx => rw [e1] at h; exact h
  | ok p =>
    rw [e1] at h
    simp only [Rs.bind_ok] at h ⊢
    rcases truW_cases p with e2 | ⟨k, e2⟩
    · rw [e2] at h; exact False.elim h
    · rw [e2] at h ⊢
      simp only [Rs.bind_ok] at h ⊢
      intro φ' H' s' q'
      cases k with
      | false =>
        rw [if_neg Bool.false_ne_true] at h ⊢
        exact ⟨fo, φ', ρ, p.2, q', he.step s', Go.at_ h s'⟩
      | true =>
        rw [if_pos rfl] at h ⊢
        simp only [Rs.bind_ok, e2] at h
        exact Go.run (Go.at_ h s') q'
/-! #### targets -/
def gMany : List Nat → TGs
  | [] => gNil
  | i :: is => gCons (gName i) (gMany is)
def gTg (K : PySem.W.Frag) : Tg → TG
  | .one i => gName i
  | .many is => gTup K is.length (gMany is)
theorem isTg_loc {sc : Scope} {cell : Str → Bool} {x : Str} (h : isTg sc cell x = true) : Loc sc x ∧ (cell x = true ∨ sc.names.lookup x = some .local) := by
  unfold isTg at h
  split at h
  · rename_i e; exact ⟨.inl e, .inr e⟩
  · rename_i e; exact ⟨.inr e, .inl h⟩
  · cases h
theorem pgs_many {cell : Str → Bool} (hn : X.N = N) (nd : X.N.Nodup) (hsc : X.env.scope = sc) (hcell : ∀ x, cell x = true → X.fn x = true) : ∀ {is : List Nat} {es : List Expr}, chkTgs N (isTg sc cell) is es = true →
    PGs X es (gMany is) ∧ (assignEach es X.env).length = is.length ∧ (assignEach es X.env).findIdx? (·.1) = none
  | [], [], _ => ⟨pgs_nil, rfl, rfl⟩
  | i :: is, e :: es, h => by
    cases e with
    | Name x p =>
      unfold chkTgs at h
      simp only [Bool.and_eq_true, decide_eq_true_eq] at h
      obtain ⟨h1, h2, h3⟩ := pgs_many (cell := cell) hn nd hsc hcell h.2
      obtain ⟨l1, l2⟩ := isTg_loc h.1.2
      refine ⟨pgs_cons (pg_name nd (by rw [hn]; exact h.1.1) (by rw [hsc]; exact l1) (by rw [hsc]; exact l2.imp (hcell x) id)) h1 rfl, ?_, ?_⟩
      · show (assignEach es X.env).length + 1 = is.length + 1
        rw [h2]
      · show ((false, assign (.Name x p) X.env) :: assignEach es X.env).findIdx? (·.1) = none
        rw [List.findIdx?_cons]
        simp [h3]
    | _ => unfold chkTgs at h; cases h
  | [], _ :: _, h => by unfold chkTgs at h; cases h
  | _ :: _, [], h => by unfold chkTgs at h; cases h
theorem pg_tg {cell : Str → Bool} (hn : X.N = N) (nd : X.N.Nodup) (hsc : X.env.scope = sc) (hcell : ∀ x, cell x = true → X.fn x = true) (hc : X.calm = true) {tg : Tg} {t : Expr} (h : chkTg N (isTg sc cell) tg t = true) : PG X t (gTg X.K tg) := by
  cases tg with
  | one i =>
    cases t with
    | Name x p =>
      unfold chkTg at h
      simp only [Bool.and_eq_true, decide_eq_true_eq] at h
      obtain ⟨l1, l2⟩ := isTg_loc h.2
      exact pg_name nd (by rw [hn]; exact h.1) (by rw [hsc]; exact l1) (by rw [hsc]; exact l2.imp (hcell x) id)
    | _ => unfold chkTg at h; cases h
  | many is =>
    cases t with
    | Tuple es k p =>
      unfold chkTg at h
      obtain ⟨h1, h2, h3⟩ := pgs_many (cell := cell) hn nd hsc hcell h
      exact pg_tup hc h1 h2 h3
    | _ => unfold chkTg at h; cases h
theorem wipe_set {σ : L2.St} {i : Nat} {v : Option V} : ∀ {vs : List Nat}, i ∈ vs → wipe (σ.set i v) vs = wipe σ vs
  | u :: vs, h => by
    show (wipe (σ.set i v) vs).set u none = (wipe σ vs).set u none
    by_cases hu : i ∈ vs
    · rw [wipe_set hu]
    · rcases List.mem_cons.mp h with rfl | h
      · have : ∀ (ws : List Nat), wipe (σ.set i v) ws = (wipe σ ws).set i v ∨ wipe (σ.set i v) ws = wipe σ ws := by
          intro ws
          induction ws with
          | nil => exact .inl rfl
          | cons w ws ih =>
            show ((wipe (σ.set i v) ws).set w none = ((wipe σ ws).set w none).set i v) ∨ ((wipe (σ.set i v) ws).set w none = (wipe σ ws).set w none)
            by_cases hw : w = i
            · subst hw
              rcases ih with ih | ih
              · right; rw [ih, List.set_set]
              · right; rw [ih]
            · rcases ih with ih | ih
              · left; rw [ih, List.set_comm _ _ (Ne.symm hw)]
              · right; rw [ih]
        rcases this vs with e | e
        · rw [e, List.set_set]
        · rw [e]
      · exact absurd h hu
theorem gMany_ok {fo φ : List Addr} {all : List Nat} {Qs : L2.St → Hp → Prop} : ∀ {is : List Nat} {xs : List Dt} {vs : List V} {ρ ρ' : Ev} {σ : L2.St}, setMany is xs ρ = some ρ' → (∀ i ∈ is, i ∈ all) → EnvOk K fo φ H ρ σ → RepL K (fo ++ φ) H xs vs →
    (∀ σ', EnvOk K fo φ H ρ' σ' → wipe σ' all = wipe σ all → Qs σ' H) → gMany is vs σ H Qs
  | [], [], _, ρ, ρ', σ, e, _, he, .nil, q => by
    cases e
    exact ⟨rfl, q σ he rfl⟩
  | i :: is, x :: xs, _, ρ, ρ', σ, e, ha, he, .cons h r, q => by
    refine ⟨_, _, rfl, ?_⟩
    show gMany is _ (σ.set i (some _)) H Qs
    refine gMany_ok e (fun j hj => ha j (List.mem_cons_of_mem _ hj)) (he.set (w := .d x) h) r fun σ' he' hw => q σ' he' ?_
    rw [hw]
    exact wipe_set (ha i List.mem_cons_self)
  | [], _ :: _, _, _, _, _, e, _, _, _, _ => by cases e
  | _ :: _, [], _, _, _, _, e, _, _, _, _ => by cases e
theorem gMany_len : ∀ {is : List Nat} {xs : List Dt} {ρ ρ' : Ev}, setMany is xs ρ = some ρ' → xs.length = is.length
  | [], [], _, _, _ => rfl
  | i :: is, x :: xs, ρ, ρ', e => by
    show xs.length + 1 = is.length + 1
    rw [gMany_len (ρ := ρ.set i (some (.d x))) e]
  | [], _ :: _, _, _, e => by cases e
  | _ :: _, [], _, _, e => by cases e
theorem gTg_ok {fo φ : List Addr} {tg : Tg} {d : Dt} {v : V} {ρ ρ' : Ev} {Qs : L2.St → Hp → Prop} (e : setTg tg d ρ = some ρ') (he : EnvOk K fo φ H ρ σ) (r : Rep K (fo ++ φ) H d v)
    (q : ∀ σ', EnvOk K fo φ H ρ' σ' → wipe σ' tg.slots = wipe σ tg.slots → Qs σ' H) : gTg K tg v σ H Qs := by
  cases tg with
  | one i =>
    cases e
    exact q _ (he.set (w := .d d) r) (wipe_set (by simp [Tg.slots]))
  | many is =>
    cases d with
    | tup xs =>
      obtain ⟨a, vs, rfl, hs, hr⟩ := r.sqT
      refine ⟨a, vs, rfl, hs, by rw [← hr.length]; exact gMany_len e, gMany_ok e (fun i hi => hi) he hr q⟩
    | _ => cases e
/-! #### walks -/
mutual
theorem sameD_eq : ∀ {x y : Dt}, sameD x y = true → x = y
  | .non, .non, _ => rfl
  | .bl a, .bl b, h => by
    simp only [sameD, beq_iff_eq] at h
    rw [h]
  | .int a, .int b, h => by
    simp only [sameD, beq_iff_eq] at h
    rw [h]
  | .str a, .str b, h => by
    simp only [sameD, beq_iff_eq] at h
    rw [h]
  | .tup a, .tup b, h => by
    simp only [sameD] at h
    rw [sameDs_eq h]
  | .lst a, .lst b, h => by
    simp only [sameD] at h
    rw [sameDs_eq h]
  | .scr a, .scr b, h => by
    simp only [sameD, beq_iff_eq] at h
    rw [h]
  | .non, .bl _, h => by cases h
  | .non, .int _, h => by cases h
  | .non, .str _, h => by cases h
  | .non, .tup _, h => by cases h
  | .non, .lst _, h => by cases h
  | .non, .scr _, h => by cases h
  | .bl _, .non, h => by cases h
  | .bl _, .int _, h => by cases h
  | .bl _, .str _, h => by cases h
  | .bl _, .tup _, h => by cases h
  | .bl _, .lst _, h => by cases h
  | .bl _, .scr _, h => by cases h
  | .int _, .non, h => by cases h
  | .int _, .bl _, h => by cases h
  | .int _, .str _, h => by cases h
  | .int _, .tup _, h => by cases h
  | .int _, .lst _, h => by cases h
  | .int _, .scr _, h => by cases h
  | .str _, .non, h => by cases h
  | .str _, .bl _, h => by cases h
  | .str _, .int _, h => by cases h
  | .str _, .tup _, h => by cases h
  | .str _, .lst _, h => by cases h
  | .str _, .scr _, h => by cases h
  | .tup _, .non, h => by cases h
  | .tup _, .bl _, h => by cases h
  | .tup _, .int _, h => by cases h
  | .tup _, .str _, h => by cases h
  | .tup _, .lst _, h => by cases h
  | .tup _, .scr _, h => by cases h
  | .lst _, .non, h => by cases h
  | .lst _, .bl _, h => by cases h
  | .lst _, .int _, h => by cases h
  | .lst _, .str _, h => by cases h
  | .lst _, .tup _, h => by cases h
  | .lst _, .scr _, h => by cases h
  | .scr _, .non, h => by cases h
  | .scr _, .bl _, h => by cases h
  | .scr _, .int _, h => by cases h
  | .scr _, .str _, h => by cases h
  | .scr _, .tup _, h => by cases h
  | .scr _, .lst _, h => by cases h
theorem sameDs_eq : ∀ {xs ys : List Dt}, sameDs xs ys = true → xs = ys
  | [], [], _ => rfl
  | x :: xs, y :: ys, h => by
    simp only [sameDs, Bool.and_eq_true] at h
    rw [sameD_eq h.1, sameDs_eq h.2]
  | [], _ :: _, h => by cases h
  | _ :: _, [], h => by cases h
end
mutual
theorem sameD_refl : ∀ x : Dt, sameD x x = true
  | .non => rfl
  | .bl _ => by simp [sameD]
  | .int _ => by simp [sameD]
  | .str _ => by simp [sameD]
  | .tup xs => by simp only [sameD]; exact sameDs_refl xs
  | .lst xs => by simp only [sameD]; exact sameDs_refl xs
  | .scr _ => by simp [sameD]
theorem sameDs_refl : ∀ xs : List Dt, sameDs xs xs = true
  | [] => rfl
  | x :: xs => by simp only [sameDs, sameD_refl x, sameDs_refl xs, Bool.and_self]
end
theorem watch_one {n : Nat} {xs : List Dt} {st : Sr} (h : watchOk [(n, xs)] st = true) : st[n]? = some (.lst xs) := by
  unfold watchOk at h
  simp only [List.all_cons, List.all_nil, Bool.and_true] at h
  split at h
  · rename_i ys e
    rw [e, sameDs_eq h]
  · cases h
theorem watch_self {n : Nat} {xs : List Dt} {st : Sr} (h : st[n]? = some (.lst xs)) : watchOk [(n, xs)] st = true := by
  unfold watchOk
  simp only [List.all_cons, List.all_nil, Bool.and_true, h]
  exact sameDs_refl xs
/-- the list that is walked, as it stands at each turn -/
def LivesL (K : PySem.W.Frag) (fo φ₀ : List Addr) (H₀ : Hp) (ws : List (Nat × List Dt)) (xs : List Dt) (a : Addr) : Prop :=
  ∀ fo' φ H st, (∃ t, φ = φ₀ ++ t) → Keeps (fo ++ φ₀) H₀ (fo' ++ φ) H → Sok K fo' φ H st → watchOk ws st = true → ∃ vs, Rd H a (.lst vs) ∧ RepL K (fo' ++ φ) H xs vs
theorem lives_d {fo φ₀ : List Addr} {H₀ : Hp} {xs : List Dt} {vs : List V} {a : Addr} (h : a ∉ fo ++ φ₀) (r : Rd H₀ a (.lst vs)) (e : RepL K (fo ++ φ₀) H₀ xs vs) : LivesL K fo φ₀ H₀ [] xs a := fun fo' φ H st _ s q _ =>
  ⟨vs, (s.rd h r).1, RepL.keep s e⟩
theorem lives_ob {fo φ₀ : List Addr} {H₀ : Hp} {xs : List Dt} {n : Nat} {a : Addr} (h : φ₀[n]? = some a) : LivesL K fo φ₀ H₀ [(n, xs)] xs a := fun fo' φ H st x s q w => by
  obtain ⟨t, rfl⟩ := x
  obtain ⟨vs, e, r⟩ := q.ob n a xs (by rw [List.getElem?_append_left (List.getElem?_eq_some_iff.mp h).1]; exact h) (watch_one w)
  exact ⟨vs, .inl e, r⟩
theorem get_lt {α : Type} {xs : List α} {i : Nat} (h : i < xs.length) : ∃ x, xs[i]? = some x := ⟨xs[i], List.getElem?_eq_getElem h⟩
theorem wk_list {fo φ₀ : List Addr} {H₀ : Hp} {ws : List (Nat × List Dt)} {xs : List Dt} {a : Addr} (h : LivesL K fo φ₀ H₀ ws xs a) : WkOk K fo φ₀ H₀ (Itl K a) (xs, ws) := fun fo' φ H st x s q w => by
  obtain ⟨vs, r, e⟩ := h fo' φ H st x s q w
  have hl := e.length
  refine ⟨fun i hi => ?_, ⟨vs, .inl r, by show vs.length ≤ xs.length; omega⟩, fun i d x H' hd hy => ?_⟩
  · obtain ⟨v, hv⟩ := get_lt (xs := vs) (i := i) (by rw [← hl]; exact hi)
    exact ⟨vs, v, .inl r, hv⟩
  · obtain ⟨rfl, hy⟩ := hy
    obtain ⟨v, e1, r1⟩ := e.get hd
    have := hy vs (.inl r)
    rw [e1] at this
    cases this
    exact ⟨.refl _, r1⟩
theorem wk_tup {fo φ₀ : List Addr} {H₀ : Hp} {xs : List Dt} {a : Addr} (h : Rep K (fo ++ φ₀) H₀ (.tup xs) (.ref a)) : WkOk K fo φ₀ H₀ (Itt K a) (xs, []) := fun fo' φ H st x s q w => by
  obtain ⟨a', vs, e0, r, e⟩ := (Rep.keep s h).sqT
  cases e0
  have hl := e.length
  refine ⟨fun i hi => ?_, ⟨vs, r, by show vs.length ≤ xs.length; omega⟩, fun i d x H' hd hy => ?_⟩
  · obtain ⟨v, hv⟩ := get_lt (xs := vs) (i := i) (by rw [← hl]; exact hi)
    exact ⟨vs, v, r, hv⟩
  · obtain ⟨rfl, hy⟩ := hy
    obtain ⟨v, e1, r1⟩ := e.get hd
    have := hy vs r
    rw [e1] at this
    cases this
    exact ⟨.refl _, r1⟩
theorem wk_str {fo φ₀ : List Addr} {H₀ : Hp} {s : List Nat} (ho : okS s) : WkOk K fo φ₀ H₀ (Its (toS s)) (s.map (fun c => .str [c]), []) := fun fo' φ H st x s' q w => by
  have hl : (toS s).cps.size = s.length := by simp [toS]
  refine ⟨fun i hi => ?_, ?_, fun i d x H' hd hy => ?_⟩
  · show i < (toS s).cps.size
    rw [hl]
    simpa using hi
  · show (toS s).cps.size ≤ (s.map _).length
    rw [hl, List.length_map]
    exact Nat.le_refl _
  · obtain ⟨rfl, c, hc, rfl⟩ := hy
    refine ⟨.refl _, ?_⟩
    rw [List.getElem?_map] at hd
    have e : (toS s).cps[i]? = s[i]? := by simp [toS]
    rw [e] at hc
    rw [hc] at hd
    cases hd
    exact .str [c] ⟨by show 1 ≤ 16777216; decide, fun c' hc' => by
      have : c' = c := by simpa using hc'
      rw [this]; exact ho.2 c (List.mem_of_getElem? hc)⟩
theorem rangeL_len : ∀ (n : Nat) (lo : Int), (rangeL lo n).length = n
  | 0, _ => rfl
  | n + 1, lo => by show (rangeL (lo + 1) n).length + 1 = n + 1; rw [rangeL_len n]
theorem rangeL_get : ∀ (n : Nat) (lo : Int) (i : Nat), i < n → (rangeL lo n)[i]? = some (.int (lo + i))
  | n + 1, lo, 0, _ => by simp [rangeL]
  | n + 1, lo, i + 1, h => by
    show (rangeL (lo + 1) n)[i]? = _
    rw [rangeL_get n (lo + 1) i (by omega)]
    congr 2
    omega
theorem wk_range {fo φ₀ : List Addr} {H₀ : Hp} {lo : Int} {n : Nat} : WkOk K fo φ₀ H₀ (Itr lo n) (rangeL lo n, []) := fun fo' φ H st x s q w => by
  refine ⟨fun i hi => ?_, ?_, fun i d x H' hd hy => ?_⟩
  · show i < n
    rw [rangeL_len] at hi
    exact hi
  · show n ≤ (rangeL lo n).length
    rw [rangeL_len]
    exact Nat.le_refl _
  · obtain ⟨rfl, rfl⟩ := hy
    have hi : i < n := by
      have := (List.getElem?_eq_some_iff.mp hd).1
      rw [rangeL_len] at this
      exact this
    have hd : (rangeL lo n)[i]? = some d := hd
    rw [rangeL_get n lo i hi] at hd
    cases hd
    exact ⟨.refl _, .int _⟩
theorem enumL_len : ∀ (xs : List Dt) (k : Int), (enumL k xs).length = xs.length
  | [], _ => rfl
  | x :: xs, k => by show (enumL (k + 1) xs).length + 1 = xs.length + 1; rw [enumL_len xs]
theorem enumL_get : ∀ (xs : List Dt) (k : Int) (i : Nat) (d : Dt), (enumL k xs)[i]? = some d → ∃ x, xs[i]? = some x ∧ d = .tup [.int (k + i), x]
  | [], k, i, d, h => by simp [enumL] at h
  | x :: xs, k, 0, d, h => by
    simp [enumL] at h
    exact ⟨x, rfl, by rw [← h]; simp⟩
  | x :: xs, k, i + 1, d, h => by
    have h : (enumL (k + 1) xs)[i]? = some d := h
    obtain ⟨y, e, rfl⟩ := enumL_get xs (k + 1) i d h
    refine ⟨y, e, ?_⟩
    congr 3
    omega
theorem wk_enum {fo φ₀ : List Addr} {H₀ : Hp} {ws : List (Nat × List Dt)} {xs : List Dt} {a : Addr} (h : LivesL K fo φ₀ H₀ ws xs a) : WkOk K fo φ₀ H₀ (Ite K a) (enumL 0 xs, ws) := fun fo' φ H st x s q w => by
  obtain ⟨vs, r, e⟩ := h fo' φ H st x s q w
  have hl := e.length
  refine ⟨fun i hi => ?_, ⟨vs, .inl r, by show vs.length ≤ (enumL 0 xs).length; rw [enumL_len]; omega⟩, fun i d x H' hd hy => ?_⟩
  · have hi : i < (enumL 0 xs).length := hi
    rw [enumL_len] at hi
    obtain ⟨v, hv⟩ := get_lt (xs := vs) (i := i) (by rw [← hl]; exact hi)
    exact ⟨vs, v, .inl r, hv⟩
  · obtain ⟨Tn, y, rfl, hT, rfl, hy⟩ := hy
    obtain ⟨dx, e1, rfl⟩ := enumL_get xs 0 i d hd
    obtain ⟨v, e2, r1⟩ := e.get e1
    have := hy vs (.inl r)
    rw [e2] at this
    cases this
    refine ⟨same_new hT, ?_⟩
    have e3 : (0 : Int) + (i : Int) = ((i : Nat) : Int) := by omega
    rw [e3]
    exact rep_newT q.trk hT (.cons (.int _) (.cons r1 .nil))
theorem PI.weak {tg it : Expr} {t t' : TI} (h : PI X tg it t) (f : ∀ σ H R, t' σ H R → t σ H R) : PI X tg it t' := ⟨fun pins s σ H R I q => h.run pins s σ H R I (f σ H R q)⟩
theorem PI.or {tg it : Expr} {t t' : TI} (h : PI X tg it t) (h' : PI X tg it t') : PI X tg it (fun σ H R => t σ H R ∨ t' σ H R) := ⟨fun pins s σ H R I q => q.elim (h.run pins s σ H R I) (h'.run pins s σ H R I)⟩
theorem pi_seq {tg : Expr} {e : Ex} {x : Expr} (ha : PE X x (tW XT X.K W (evE Γ e))) : PI X tg x (tI XT X.K W (evI Γ (.seq e))) := by
  refine PI.weak (PI.or (pi_list ha) (PI.or (pi_tup ha) (pi_str ha))) fun σ H R h => ?_
  obtain ⟨fo, φ, ρ, st, hs, he, h⟩ := h
  unfold evI at h
  cases ev : evE Γ e ρ st with
  | bad => rw [ev] at h; exact False.elim h
  | exc c fs sx => exact .inl ⟨fo, φ, ρ, st, hs, he, by rw [ev] at h ⊢; exact h⟩
  | ok p =>
    rw [ev] at h
    obtain ⟨w, st1⟩ := p
    have h : Go X.K (xwOf XT X.K W σ fo) fo φ H (Rs.ofO (itSeq (w, st1))) (fun p st' φ' H' => ∀ J, WkOk X.K fo φ' H' J p → watchOk p.2 st' = true → R J H') := h
    unfold itSeq at h
    cases w with
    | ob n =>
      dsimp only at h
      split at h
      · rename_i xs e1
        refine .inl ⟨fo, φ, ρ, st, hs, he, ?_⟩
        rw [ev]
        intro φ' H' s' q' v rv
        obtain ⟨a, e2, rfl⟩ := rv
        obtain ⟨vs, e3, r3⟩ := q'.ob n a xs e2 e1
        exact ⟨a, rfl, ⟨vs, .inl (.inl e3)⟩, h φ' H' s' q' _ (wk_list (lives_ob e2)) (watch_self e1)⟩
      · exact False.elim h
    | d x' =>
      dsimp only at h
      cases x' with
      | tup xs =>
        refine .inr (.inl ⟨fo, φ, ρ, st, hs, he, ?_⟩)
        rw [ev]
        intro φ' H' s' q' v rv
        obtain ⟨a, vs, rfl, r, e⟩ := Rep.sqT rv
        exact ⟨a, rfl, ⟨vs, r⟩, h φ' H' s' q' _ (wk_tup rv) rfl⟩
      | lst xs =>
        refine .inl ⟨fo, φ, ρ, st, hs, he, ?_⟩
        rw [ev]
        intro φ' H' s' q' v rv
        cases (show Rep X.K (fo ++ φ') H' (.lst xs) v from rv) with
        | lst hn r e => exact ⟨_, rfl, ⟨_, .inl r⟩, h φ' H' s' q' _ (wk_list (lives_d hn r e)) rfl⟩
      | str s =>
        refine .inr (.inr ⟨fo, φ, ρ, st, hs, he, ?_⟩)
        rw [ev]
        intro φ' H' s' q' v rv
        obtain ⟨rfl, ho⟩ := vstr (Rep.view rv)
        exact ⟨_, rfl, h φ' H' s' q' _ (wk_str ho) rfl⟩
      | non => exact False.elim h
      | scr ns => exact False.elim h
      | bl b => exact False.elim h
      | int i => exact False.elim h
theorem itRng_inv {st : Sr} {i j : Int} {p : Wk} (h : itRng st i j = some p) : (i < 2 ^ 30 ∧ -(2 ^ 30) < i ∧ j < 2 ^ 30 ∧ -(2 ^ 30) < j) ∧ p = ((rangeL i (j - i).toNat, []), st) := by
  unfold itRng at h
  split at h
  · rename_i hc
    cases h
    exact ⟨hc, rfl⟩
  · cases h
theorem pi_rng1 {tg : Expr} {e : Ex} {y : Expr} {pn pos : Pos} (c : CxOk XT T Γ N X W sc) (hg : isGl sc "range" = true) (ha : PE X y (tW XT X.K W (evE Γ e))) (hy : plainE y = true) : PI X tg (.Call (.Name "range" pn) [y] [] pos) (tI XT X.K W (evI Γ (.rng1 e))) := by
  refine PI.weak (pi_range1 (c.gl hg) (c.blt "range" (by decide)) (pa_one ha hy) (plainE_star hy _ _)) fun σ H R h => ?_
  obtain ⟨fo, φ, ρ, st, hs, he, h⟩ := h
  unfold evI at h
  refine ⟨fo, φ, ρ, st, hs, he, (Go.of_bind h).imp fun w st1 φ1 H1 s1 q1 h1 v rv => ?_⟩
  dsimp only at h1
  cases e1 : intW w with
  | none => rw [e1] at h1; exact False.elim h1
  | some j =>
    rw [e1] at h1
    simp only [Option.bind_some] at h1
    cases e2 : itRng st1 0 j with
    | none => rw [e2] at h1; exact False.elim h1
    | some p =>
      rw [e2] at h1
      obtain ⟨hc, rfl⟩ := itRng_inv e2
      cases intW_inv e1
      cases (show Rep X.K (fo ++ φ1) H1 (.int j) v from rv)
      refine ⟨j, rfl, by omega, by omega, ?_⟩
      have e3 : (j - 0).toNat = j.toNat := by omega
      rw [← e3]
      exact (Go.run h1 q1) _ wk_range rfl
theorem pi_rng2 {tg : Expr} {a b : Ex} {y z : Expr} {pn pos : Pos} (c : CxOk XT T Γ N X W sc) (hg : isGl sc "range" = true) (ha : PE X y (tW XT X.K W (evE Γ a))) (hy : plainE y = true) (hb : PE X z (tW XT X.K W (evE Γ b))) (hz : plainE z = true) :
    PI X tg (.Call (.Name "range" pn) [y, z] [] pos) (tI XT X.K W (evI Γ (.rng2 a b))) := by
  refine PI.weak (pi_range2 (c.gl hg) (c.blt "range" (by decide)) (pa_cons ha (pa_one hb hz) (plainE_star hy _ _)) (by rw [plainE_star hy, plainE_star hz]; rfl) (plainE_star hz _ _)) fun σ H R h => ?_
  obtain ⟨fo, φ, ρ, st, hs, he, h⟩ := h
  unfold evI at h
  refine ⟨fo, φ, ρ, st, hs, he, (Go.of_bind h).imp fun w st1 φ1 H1 s1 q1 h1 v rv => ?_⟩
  refine ⟨fo, φ1, ρ, st1, q1, he.step s1, (Go.of_bind h1).imp fun w2 st2 φ2 H2 s2 q2 h2 v2 rv2 => ?_⟩
  dsimp only at h2
  cases e1 : intW w with
  | none => rw [e1] at h2; exact False.elim h2
  | some i =>
    cases e2 : intW w2 with
    | none => rw [e1, e2] at h2; exact False.elim h2
    | some j =>
      rw [e1, e2] at h2
      simp only [Option.bind_some] at h2
      cases e3 : itRng st2 i j with
      | none => rw [e3] at h2; exact False.elim h2
      | some p =>
        rw [e3] at h2
        obtain ⟨hc, rfl⟩ := itRng_inv e3
        cases intW_inv e1
        cases intW_inv e2
        cases (show Rep X.K (fo ++ φ1) H1 (.int i) v from rv)
        cases (show Rep X.K (fo ++ φ2) H2 (.int j) v2 from rv2)
        exact ⟨i, j, rfl, by omega, (Go.run h2 q2) _ wk_range rfl⟩
theorem wk_enumT {fo φ₀ : List Addr} {H₀ : Hp} {xs : List Dt} {a : Addr} (h : Rep K (fo ++ φ₀) H₀ (.tup xs) (.ref a)) : WkOk K fo φ₀ H₀ (IteT K a) (enumL 0 xs, []) := fun fo' φ H st x s q w => by
  obtain ⟨a', vs, e0, r, e⟩ := (Rep.keep s h).sqT
  cases e0
  have hl := e.length
  refine ⟨fun i hi => ?_, ⟨vs, r, by show vs.length = (enumL 0 xs).length; rw [enumL_len]; omega⟩, fun i d x H' hd hy => ?_⟩
  · have hi : i < (enumL 0 xs).length := hi
    rw [enumL_len] at hi
    obtain ⟨v, hv⟩ := get_lt (xs := vs) (i := i) (by rw [← hl]; exact hi)
    exact ⟨vs, v, r, hv⟩
  · obtain ⟨Tn, y, rfl, hT, rfl, hy⟩ := hy
    obtain ⟨dx, e1, rfl⟩ := enumL_get xs 0 i d hd
    obtain ⟨v, e2, r1⟩ := e.get e1
    have := hy vs r
    rw [e2] at this
    cases this
    refine ⟨same_new hT, ?_⟩
    rw [show (0 : Int) + (i : Int) = ((i : Nat) : Int) by omega]
    exact rep_newT q.trk hT (.cons (.int _) (.cons r1 .nil))
theorem pi_enm {e : Ex} {y : Expr} {pn pos tpos : Pos} {elts : List Expr} {kk : Nat} (c : CxOk XT T Γ N X W sc) (hg : isGl sc "enumerate" = true) (ha : PE X y (tW XT X.K W (evE Γ e))) (hy : plainE y = true) :
    PI X (.Tuple elts kk tpos) (.Call (.Name "enumerate" pn) [y] [] pos) (tI XT X.K W (evI Γ (.enm e))) := by
  refine PI.weak (PI.or (pi_enum (c.gl hg) (c.blt "enumerate" (by decide)) (pa_one ha hy) (plainE_star hy _ _)) (pi_enumT (c.gl hg) (c.blt "enumerate" (by decide)) (pa_one ha hy) (plainE_star hy _ _))) fun σ H R h => ?_
  obtain ⟨fo, φ, ρ, st, hs, he, h⟩ := h
  unfold evI at h
  cases ev : evE Γ e ρ st with
  | bad => rw [ev] at h; exact False.elim h
  | exc c' fs sx => exact .inl ⟨fo, φ, ρ, st, hs, he, by rw [ev] at h ⊢; exact h⟩
  | ok p =>
    rw [ev] at h
    obtain ⟨w, st1⟩ := p
    have h : Go X.K (xwOf XT X.K W σ fo) fo φ H (Rs.ofO (itEnm (w, st1))) (fun p st' φ' H' => ∀ J, WkOk X.K fo φ' H' J p → watchOk p.2 st' = true → R J H') := h
    unfold itEnm at h
    cases w with
    | ob n =>
      dsimp only at h
      split at h
      · rename_i xs e1
        refine .inl ⟨fo, φ, ρ, st, hs, he, ?_⟩
        rw [ev]
        intro φ' H' s' q' v rv
        obtain ⟨a, e2, rfl⟩ := rv
        obtain ⟨vs, e3, r3⟩ := q'.ob n a xs e2 e1
        exact ⟨a, vs, rfl, .inl (.inl e3), h φ' H' s' q' _ (wk_enum (lives_ob e2)) (watch_self e1)⟩
      · exact False.elim h
    | d x' =>
      dsimp only at h
      cases x' with
      | tup xs =>
        refine .inr ⟨fo, φ, ρ, st, hs, he, ?_⟩
        rw [ev]
        intro φ' H' s' q' v rv
        obtain ⟨a, vs, rfl, r, e⟩ := Rep.sqT rv
        exact ⟨a, vs, rfl, r, h φ' H' s' q' _ (wk_enumT rv) rfl⟩
      | lst xs =>
        refine .inl ⟨fo, φ, ρ, st, hs, he, ?_⟩
        rw [ev]
        intro φ' H' s' q' v rv
        cases (show Rep X.K (fo ++ φ') H' (.lst xs) v from rv) with
        | lst hn r e => exact ⟨_, _, rfl, .inl r, h φ' H' s' q' _ (wk_enum (lives_d hn r e)) rfl⟩
      | non => exact False.elim h
      | scr ns => exact False.elim h
      | bl b => exact False.elim h
      | int i => exact False.elim h
      | str s => exact False.elim h
theorem zipL_len : ∀ xs ys : List Dt, (zipL xs ys).length = min xs.length ys.length
  | [], _ => by simp [zipL]
  | _ :: _, [] => by simp [zipL]
  | x :: xs, y :: ys => by
    show (zipL xs ys).length + 1 = min (xs.length + 1) (ys.length + 1)
    rw [zipL_len xs ys]
    omega
theorem zipL_get : ∀ (xs ys : List Dt) (i : Nat) (d : Dt), (zipL xs ys)[i]? = some d → ∃ x y, xs[i]? = some x ∧ ys[i]? = some y ∧ d = .tup [x, y]
  | [], _, i, d, h => by simp [zipL] at h
  | _ :: _, [], i, d, h => by simp [zipL] at h
  | x :: xs, y :: ys, 0, d, h => by
    simp [zipL] at h
    exact ⟨x, y, rfl, rfl, h.symm⟩
  | x :: xs, y :: ys, i + 1, d, h => by
    have h : (zipL xs ys)[i]? = some d := h
    obtain ⟨u, v, e1, e2, e3⟩ := zipL_get xs ys i d h
    exact ⟨u, v, e1, e2, e3⟩
theorem wk_zip {fo φ₀ : List Addr} {H₀ : Hp} {xs ys : List Dt} {a b : Addr} (h : Rep K (fo ++ φ₀) H₀ (.tup xs) (.ref a)) (h2 : Rep K (fo ++ φ₀) H₀ (.tup ys) (.ref b)) : WkOk K fo φ₀ H₀ (RZ.ItzT K a b) (zipL xs ys, []) := fun fo' φ H st x s q w => by
  obtain ⟨a', vs, e0, r, e⟩ := (Rep.keep s h).sqT
  cases e0
  obtain ⟨b', us, e0, r2, e2⟩ := (Rep.keep s h2).sqT
  cases e0
  have hl := e.length
  have hl2 := e2.length
  refine ⟨fun i hi => ?_, ⟨vs, us, r, r2, ?_⟩, fun i d x H' hd hy => ?_⟩
  · have hi : i < (zipL xs ys).length := hi
    rw [zipL_len] at hi
    obtain ⟨v, hv⟩ := get_lt (xs := vs) (i := i) (by omega)
    obtain ⟨u, hu⟩ := get_lt (xs := us) (i := i) (by omega)
    exact ⟨vs, us, v, u, r, r2, hv, hu⟩
  · show vs.length ≤ (zipL xs ys).length ∨ us.length ≤ (zipL xs ys).length
    rw [zipL_len]
    omega
  · obtain ⟨T, x1, y1, rfl, hT, rfl, g1, g2⟩ := hy
    obtain ⟨dx, dy, d1, d2, rfl⟩ := zipL_get xs ys i d hd
    obtain ⟨v, f1, r1⟩ := e.get d1
    obtain ⟨u, f2, r3⟩ := e2.get d2
    have a1 := g1 vs r
    have a2 := g2 us r2
    rw [f1] at a1
    rw [f2] at a2
    cases a1
    cases a2
    exact ⟨same_new hT, rep_newT q.trk hT (.cons r1 (.cons r3 .nil))⟩
theorem pi_zipE {a b : Ex} {y z : Expr} {pn pos tpos : Pos} {elts : List Expr} {kk : Nat} (c : CxOk XT T Γ N X W sc) (hg : isGl sc "zip" = true) (ha : PE X y (tW XT X.K W (evE Γ a))) (hy : plainE y = true) (hb : PE X z (tW XT X.K W (evE Γ b))) (hz : plainE z = true) :
    PI X (.Tuple elts kk tpos) (.Call (.Name "zip" pn) [y, z] [] pos) (tI XT X.K W (evI Γ (.zip a b))) := by
  refine PI.weak (RZ.pi_zipA (c.gl hg) (c.blt "zip" (by decide)) (pa_cons ha (pa_one hb hz) (plainE_star hy _ _)) (by rw [plainE_star hy]) (by rw [plainE_star hz]; rfl)) fun σ H R h => ?_
  obtain ⟨fo, φ, ρ, st, hs, he, h⟩ := h
  unfold evI at h
  refine ⟨fo, φ, ρ, st, hs, he, (Go.of_bind h).imp fun w st1 φ1 H1 s1 q1 h1 v rv => ?_⟩
  refine ⟨fo, φ1, ρ, st1, q1, he.step s1, (Go.of_bind h1).imp fun w2 st2 φ2 H2 s2 q2 h2 v2 rv2 => ?_⟩
  dsimp only at h2
  unfold itZip at h2
  split at h2
  · rename_i xs ys e1
    have rv' := rv.step s2
    obtain ⟨p, vs, rfl, r, e⟩ := Rep.sqT rv'
    have e1' : w2 = .d (.tup ys) := e1
    subst e1'
    obtain ⟨p2, us, rfl, r2, e2⟩ := Rep.sqT rv2
    exact ⟨p, p2, vs, us, rfl, .inr ⟨r, r2, (Go.run h2 q2) _ (wk_zip rv' rv2) rfl⟩⟩
  · exact False.elim h2
end
end PB

set_option Elab.async false
set_option linter.all false
set_option maxRecDepth 100000
set_option maxHeartbeats 4000000
set_option backward.match.sparseCases false
/-! A list comprehension keeps its meaning. -/
namespace PB
open PySem PySem.Spec PyProof.Rows L2
/-- the heap without one place -/
def er (D : Addr) (H : Hp) : Hp := fun b => if b = D then none else H b
theorem er_ne {D b : Addr} {H : Hp} (h : b ≠ D) : er D H b = H b := if_neg h
theorem er_at {D : Addr} {H : Hp} : er D H D = none := if_pos rfl
theorem er_some {D b : Addr} {H : Hp} {o : HO} (h : er D H b = some o) : b ≠ D ∧ H b = some o := by
  by_cases e : b = D
  · subst e; rw [er_at] at h; cases h
  · rw [er_ne e] at h; exact ⟨e, h⟩
theorem upd_er {D : Addr} {H : Hp} {o : HO} (h : H D = some o) : upd (er D H) D o = H := by
  funext b
  by_cases e : b = D
  · subst e; rw [upd_same]; exact h.symm
  · rw [upd_ne e, er_ne e]
theorem er_upd {D : Addr} {H : Hp} {o : HO} : er D (upd H D o) = er D H := by
  funext b
  by_cases e : b = D
  · subst e; rw [er_at, er_at]
  · rw [er_ne e, er_ne e, upd_ne e]
theorem er_none {D : Addr} {H : Hp} (h : H D = none) : er D H = H := by
  funext b
  by_cases e : b = D
  · subst e; rw [er_at]; exact h.symm
  · rw [er_ne e]
section
variable {XT : Xt} {T : Tb} {Γ : Gam} {N : List Str} {X : Cx} {W : WX} {sc : Scope} {K : PySem.W.Frag} {σ : L2.St} {H H1 H2 : Hp} {Q : VK} {fo φ φ1 : List Addr} {D : Addr} {st : Sr}
theorem Step.er (a : Step φ H φ1 H1) : Step φ (er D H) φ1 (PB.er D H1) := ⟨a.ext, fun b o n e => by
  obtain ⟨h1, h2⟩ := er_some e
  obtain ⟨h3, h4⟩ := a.keep b o n h2
  exact ⟨by rw [er_ne h1]; exact h3, h4⟩⟩
/-- a new place is put aside -/
theorem Sok.aside {o : HO} (s : Sok K fo φ H st) (h : H D = none) : Sok K (D :: fo) φ (upd H D o) st := by
  have kp : Keeps (fo ++ φ) H (D :: fo ++ φ) (upd H D o) := fun b u n e => by
    have hb : b ≠ D := ne_of_none e h
    refine ⟨by rw [upd_ne hb]; exact e, ?_⟩
    rw [List.cons_append, List.mem_cons, not_or]
    exact ⟨hb, n⟩
  refine ⟨s.len, s.nd, fun a ha => ?_, fun a ha => ?_, fun n a xs e1 e2 => ?_⟩
  · rcases List.mem_cons.mp ha with rfl | ha
    · exact ⟨o, upd_same⟩
    · obtain ⟨u, e⟩ := s.ft a ha
      exact ⟨u, by rw [upd_ne (ne_of_none e h)]; exact e⟩
  · rw [List.mem_cons, not_or]
    refine ⟨fun e => ?_, s.dj a ha⟩
    obtain ⟨u, e2⟩ := s.trk a (List.mem_append_right _ ha)
    rw [e, h] at e2; cases e2
  · obtain ⟨vs, e3, r⟩ := s.ob n a xs e1 e2
    exact ⟨vs, by rw [upd_ne (ne_of_none e3 h)]; exact e3, RepL.keep kp r⟩
theorem aside_keeps {o : HO} (h : H D = none) : Keeps (fo ++ φ) H (D :: fo ++ φ) (upd H D o) := fun b u n e => by
  have hb : b ≠ D := ne_of_none e h
  refine ⟨by rw [upd_ne hb]; exact e, ?_⟩
  rw [List.cons_append, List.mem_cons, not_or]
  exact ⟨hb, n⟩
theorem EnvOk.keeps {fo' : List Addr} {ρ : Ev} (k : Keeps (fo ++ φ) H (fo' ++ φ) H1) (h : EnvOk K fo φ H ρ σ) : EnvOk K fo' φ H1 ρ σ := ⟨h.len, fun i w e => by
  obtain ⟨v, e1, r⟩ := h.at_ i w e
  refine ⟨v, e1, ?_⟩
  cases w with
  | d x => exact Rep.keep k r
  | ob n => exact r⟩
/-- the place that was put aside changes -/
theorem Sok.change {o : HO} (s : Sok K (D :: fo) φ H st) : Sok K (D :: fo) φ (upd H D o) st := by
  have kp : Keeps (D :: fo ++ φ) H (D :: fo ++ φ) (upd H D o) := fun b u n e => by
    have hb : b ≠ D := fun z => n (by rw [z]; exact List.mem_cons_self)
    exact ⟨by rw [upd_ne hb]; exact e, n⟩
  refine ⟨s.len, s.nd, fun a ha => ?_, s.dj, fun n a xs e1 e2 => ?_⟩
  · by_cases hb : a = D
    · subst hb; exact ⟨o, upd_same⟩
    · obtain ⟨u, e⟩ := s.ft a ha
      exact ⟨u, by rw [upd_ne hb]; exact e⟩
  · obtain ⟨vs, e3, r⟩ := s.ob n a xs e1 e2
    have hb : a ≠ D := fun z => s.dj a (List.mem_of_getElem? e1) (by rw [z]; exact List.mem_cons_self)
    exact ⟨vs, by rw [upd_ne hb]; exact e3, RepL.keep kp r⟩
theorem change_keeps {o : HO} : Keeps (D :: fo ++ φ) H (D :: fo ++ φ) (upd H D o) := fun b u n e => by
  have hb : b ≠ D := fun z => n (by rw [z]; exact List.mem_cons_self)
  exact ⟨by rw [upd_ne hb]; exact e, n⟩
/-- .. and comes back -/
theorem back_keeps : Keeps (D :: fo ++ φ) H (fo ++ φ) (er D H) := fun b u n e => by
  rw [List.cons_append, List.mem_cons, not_or] at n
  exact ⟨by rw [er_ne n.1]; exact e, n.2⟩
theorem Sok.back (s : Sok K (D :: fo) φ H st) (hD : D ∉ fo) : Sok K fo φ (er D H) st := by
  refine ⟨s.len, s.nd, fun a ha => ?_, fun a ha z => s.dj a ha (List.mem_cons_of_mem _ z), fun n a xs e1 e2 => ?_⟩
  · obtain ⟨u, e⟩ := s.ft a (List.mem_cons_of_mem _ ha)
    exact ⟨u, by rw [er_ne (fun z => hD (by rw [← z]; exact ha))]; exact e⟩
  · obtain ⟨vs, e3, r⟩ := s.ob n a xs e1 e2
    have hb : a ≠ D := fun z => s.dj a (List.mem_of_getElem? e1) (by rw [z]; exact List.mem_cons_self)
    exact ⟨vs, by rw [er_ne hb]; exact e3, RepL.keep back_keeps r⟩
theorem wipe_wipe : ∀ (vs us : List Nat), wipe (wipe σ us) vs = wipe (wipe σ vs) us
  | [], us => rfl
  | v :: vs, us => by
    show (wipe (wipe σ us) vs).set v none = wipe ((wipe σ vs).set v none) us
    rw [wipe_wipe vs us]
    have : ∀ (τ : L2.St) (ws : List Nat), (wipe τ ws).set v none = wipe (τ.set v none) ws := by
      intro τ ws
      induction ws with
      | nil => rfl
      | cons w ws ih =>
        show ((wipe τ ws).set w none).set v none = (wipe (τ.set v none) ws).set w none
        rw [← ih]
        by_cases e : w = v
        · subst e; rfl
        · exact List.set_comm _ _ e
    exact this _ _
theorem set_wipe {v : Nat} : ∀ {vs : List Nat}, v ∈ vs → (wipe σ vs).set v none = wipe σ vs
  | w :: vs, h => by
    show ((wipe σ vs).set w none).set v none = (wipe σ vs).set w none
    by_cases e : w = v
    · subst e; rw [List.set_set]
    · rcases List.mem_cons.mp h with z | h
      · exact absurd z.symm e
      · rw [List.set_comm _ _ e, set_wipe h]
theorem wipe_idem (vs : List Nat) : wipe (wipe σ vs) vs = wipe σ vs := by
  have : ∀ (us : List Nat), (∀ u ∈ us, u ∈ vs) → wipe (wipe σ vs) us = wipe σ vs := by
    intro us
    induction us with
    | nil => intro _; rfl
    | cons u us ih =>
      intro h
      show (wipe (wipe σ vs) us).set u none = wipe σ vs
      rw [ih fun w hw => h w (List.mem_cons_of_mem _ hw)]
      exact set_wipe (h u List.mem_cons_self)
  exact this vs fun _ h => h
theorem lcTurn_exc {ifs : Ev → Sr → Rs (Bool × Sr)} {elt : Ev → Sr → Rs (Wv × Sr)} {tg : Tg} {ρ : Ev} {d : Dt} {c : Nat} {fs : List Dt} {sx : Sr} (h : lcTurn ifs elt tg ρ d st = .exc c fs sx) : False := by
  unfold lcTurn at h
  cases e : setTg tg d (wipeE ρ tg.slots) with
  | none => rw [e] at h; cases h
  | some ρ' =>
    rw [e] at h
    simp only [Rs.ofO_some, Rs.bind_ok] at h
    unfold noExc at h
    split at h <;> cases h
theorem lcL_exc {ws : List (Nat × List Dt)} {f : Dt → Sr → Rs (Option Dt × Sr)} (hf : ∀ d st c fs sx, f d st ≠ .exc c fs sx) : ∀ (xs : List Dt) (st : Sr) (c : Nat) (fs : List Dt) (sx : Sr), lcL ws f xs st ≠ .exc c fs sx
  | [], st, c, fs, sx, h => by cases h
  | x :: xs, st, c, fs, sx, h => by
    unfold lcL at h
    cases e : f x st with
    | bad => rw [e] at h; cases h
    | exc c' fs' sx' => exact hf _ _ _ _ _ e
    | ok p =>
      rw [e] at h
      simp only [Rs.bind_ok] at h
      split at h
      · cases e2 : lcL ws f xs p.2 with
        | bad => rw [e2] at h; cases h
        | exc c' fs' sx' => exact lcL_exc hf _ _ _ _ _ e2
        | ok q => rw [e2] at h; cases h
      · cases h
/-- what a turn gives: the tests' answer, the item -/
theorem lcTurn_inv {ifs : Ev → Sr → Rs (Bool × Sr)} {elt : Ev → Sr → Rs (Wv × Sr)} {tg : Tg} {ρ : Ev} {d : Dt} {p : Option Dt × Sr} (h : lcTurn ifs elt tg ρ d st = .ok p) :
    ∃ ρ', setTg tg d (wipeE ρ tg.slots) = some ρ' ∧ ∃ b st3, ifs ρ' st = .ok (b, st3) ∧ ((b = false ∧ p = (none, st3)) ∨ (b = true ∧ ∃ y st4, elt ρ' st3 = .ok (.d y, st4) ∧ p = (some y, st4))) := by
  unfold lcTurn at h
  cases e : setTg tg d (wipeE ρ tg.slots) with
  | none => rw [e] at h; cases h
  | some ρ' =>
    rw [e] at h
    simp only [Rs.ofO_some, Rs.bind_ok] at h
    refine ⟨ρ', rfl, ?_⟩
    cases e2 : ifs ρ' st with
    | bad => rw [e2] at h; cases h
    | exc c fs sx => rw [e2] at h; cases h
    | ok q =>
      rw [e2] at h
      obtain ⟨b, st3⟩ := q
      refine ⟨b, st3, rfl, ?_⟩
      simp only [Rs.bind_ok] at h
      cases b with
      | false =>
        rw [if_neg Bool.false_ne_true] at h
        cases h
        exact .inl ⟨rfl, rfl⟩
      | true =>
        rw [if_pos rfl] at h
        refine .inr ⟨rfl, ?_⟩
        cases e3 : elt ρ' st3 with
        | bad => rw [e3] at h; cases h
        | exc c fs sx => rw [e3] at h; cases h
        | ok r =>
          rw [e3] at h
          obtain ⟨w, st4⟩ := r
          cases w with
          | d y =>
            cases h
            exact ⟨y, st4, rfl, rfl⟩
          | ob n => cases h
/-- no exception leaves a block -/
abbrev W0 : WX := fun _ _ _ _ => False
theorem lc_read {it : Ev → Sr → Rs Wk} {ifs : Ev → Sr → Rs (Bool × Sr)} {elt : Ev → Sr → Rs (Wv × Sr)} {tg : Tg}
    (h : tF XT K W (fun ρ st => (it ρ st).bind fun p => (lcL p.1.2 (lcTurn ifs elt tg ρ) p.1.1 p.2).bind lcEnd) σ H Q) : tLc (tI XT K W it) (gTg K tg) (tT XT K W0 ifs) (tW XT K W0 elt) tg.slots σ H Q := by
  obtain ⟨fo, φ, ρ, st, hs, he, h⟩ := h
  refine ⟨fo, φ, ρ, st, hs, he, (Go.of_bind h).imp fun p st1 φ1 H1 s1 q1 h1 J wk wo => ?_⟩
  obtain ⟨items, ws⟩ := p
  dsimp only at h1 wo
  intro D hD
  have hDf : D ∉ fo := fun z => by
    obtain ⟨o, e⟩ := q1.ft D z
    rw [hD] at e; cases e
  have nex : ∀ d st c fs sx, lcTurn ifs elt tg ρ d st ≠ .exc c fs sx := fun d st c fs sx e => lcTurn_exc e
  refine ⟨fun i m H => m = items.length - i ∧ i ≤ items.length ∧ ∃ φ st acc vs, Sok K (D :: fo) φ H st ∧ EnvOk K (D :: fo) φ H ρ σ ∧ (∃ t, φ = φ1 ++ t) ∧ Keeps (fo ++ φ1) H1 (D :: fo ++ φ) H ∧ watchOk ws st = true ∧ H D = some (.lst vs) ∧
      RepL K (D :: fo ++ φ) H acc vs ∧ Go K (xwOf XT K W σ fo) fo φ (er D H) ((lcL ws (lcTurn ifs elt tg ρ) (items.drop i) st).bind fun q => lcEnd (acc ++ q.1, q.2))
        (fun w st' φ' H' => ∀ xs vs p, w = .d (.lst xs) → H' p = none → RepL K (fo ++ φ') H' xs vs → Q (.ref p) (upd H' p (.lst vs))),
    ⟨items.length, by simp, Nat.zero_le _, φ1, st1, [], [], q1.aside hD, (he.step s1).keeps (aside_keeps hD), ⟨[], by simp⟩, aside_keeps hD, wo, upd_same, .nil, ?_⟩, ?_⟩
  · rw [er_upd, er_none hD, List.drop_zero]
    simp only [List.nil_append]
    exact h1
  · rintro i m H ⟨rfl, hi, φ, st, acc, vs, q, en, ex, kp, wo, hDv, racc, hg⟩
    obtain ⟨w1, w2, w3⟩ := wk (D :: fo) φ H st ex kp q wo
    by_cases hlt : i < items.length
    · obtain ⟨d, hd⟩ := get_lt hlt
      have hdrop : items.drop i = d :: items.drop (i + 1) := by
        rw [List.drop_eq_getElem_cons hlt]
        congr 1
        exact Option.some.inj ((List.getElem?_eq_getElem hlt).symm.trans hd)
      rw [hdrop] at hg
      have hne : lcL ws (lcTurn ifs elt tg ρ) (d :: items.drop (i + 1)) st = (lcTurn ifs elt tg ρ d st).bind fun p => if watchOk ws p.2 = true then (lcL ws (lcTurn ifs elt tg ρ) (items.drop (i + 1)) p.2).bind fun q => .ok (consO p.1 q.1, q.2) else .bad := by
        rw [lcL]
      rw [hne] at hg
      cases et : lcTurn ifs elt tg ρ d st with
      | bad => rw [et] at hg; exact False.elim hg
      | exc c fs sx => exact (nex _ _ _ _ _ et).elim
      | ok p =>
        rw [et] at hg
        simp only [Rs.bind_ok] at hg
        by_cases hw : watchOk ws p.2 = true
        · rw [if_pos hw] at hg
          obtain ⟨ρ', es, b, st3, ei, hb⟩ := lcTurn_inv et
          refine .inr ⟨w1 i hlt, fun H' => items.length - (i + 1) = items.length - (i + 1) ∧ i + 1 ≤ items.length ∧ ∃ φ st acc vs, Sok K (D :: fo) φ H' st ∧ EnvOk K (D :: fo) φ H' ρ σ ∧ (∃ t, φ = φ1 ++ t) ∧ Keeps (fo ++ φ1) H1 (D :: fo ++ φ) H' ∧ watchOk ws st = true ∧ H' D = some (.lst vs) ∧
      RepL K (D :: fo ++ φ) H' acc vs ∧ Go K (xwOf XT K W σ fo) fo φ (er D H') ((lcL ws (lcTurn ifs elt tg ρ) (items.drop (i + 1)) st).bind fun q => lcEnd (acc ++ q.1, q.2))
        (fun w st' φ' H' => ∀ xs vs p, w = .d (.lst xs) → H' p = none → RepL K (fo ++ φ') H' xs vs → Q (.ref p) (upd H' p (.lst vs))), fun H' hN => ⟨_, by omega, hN⟩, fun x H' hy => ?_⟩
          obtain ⟨sm, rx⟩ := w3 i d x H' hd hy
          have sm' : Step φ H φ H' := Step.same sm
          have qn := q.same sm
          have en2 : EnvOk K (D :: fo) φ H' (wipeE ρ tg.slots) (wipe σ tg.slots) := (en.step sm').wiped _
          refine gTg_ok es en2 rx fun σ2 en3 hwp => ⟨by rw [hwp, wipe_idem], ?_⟩
          refine ⟨D :: fo, φ, ρ', st, qn, en3, ?_⟩
          rw [ei]
          intro φ3 H3 s3 q3
          have s03 : Step φ H φ3 H3 := sm'.trans s3
          have hDφ : D ∉ φ := fun z => q.dj D z List.mem_cons_self
          have hD3 : H3 D = some (.lst vs) := (s03.keep D _ hDφ hDv).1
          have ex3 : ∃ t, φ3 = φ1 ++ t := by
            obtain ⟨t, e1⟩ := ex
            obtain ⟨u, e2⟩ := s03.ext
            exact ⟨t ++ u, by rw [e2, e1, List.append_assoc]⟩
          have kp3 : Keeps (fo ++ φ1) H1 (D :: fo ++ φ3) H3 := kp.trans (s03.keeps (fo := D :: fo))
          rcases hb with ⟨rfl, rfl⟩ | ⟨rfl, y, st4, ee, rfl⟩
          · refine iteF ⟨rfl, hlt, φ3, st3, acc, vs, q3, en.step s03, ex3, kp3, hw, hD3, RepL.keep (s03.keeps (fo := D :: fo)) racc, ?_⟩
            refine Go.at_ (φ := φ) (H := er D H) ?_ s03.er
            have : ((lcL ws (lcTurn ifs elt tg ρ) (items.drop (i + 1)) st3).bind fun q => Rs.ok (consO none q.1, q.2)) = lcL ws (lcTurn ifs elt tg ρ) (items.drop (i + 1)) st3 := by
              cases lcL ws (lcTurn ifs elt tg ρ) (items.drop (i + 1)) st3 <;> rfl
            dsimp only at hg
            rw [this] at hg
            exact hg
          · refine iteT ⟨D :: fo, φ3, ρ', st3, q3, en3.step s3, ?_⟩
            rw [ee]
            intro φ4 H4 s4 q4 v rv
            have s04 : Step φ H φ4 H4 := s03.trans s4
            have hD4 : H4 D = some (.lst vs) := (s04.keep D _ hDφ hDv).1
            have ex4 : ∃ t, φ4 = φ1 ++ t := by
              obtain ⟨t, e1⟩ := ex
              obtain ⟨u, e2⟩ := s04.ext
              exact ⟨t ++ u, by rw [e2, e1, List.append_assoc]⟩
            have kp4 : Keeps (fo ++ φ1) H1 (D :: fo ++ φ4) (upd H4 D (.lst (vs ++ [v]))) := (kp.trans (s04.keeps (fo := D :: fo))).trans change_keeps
            dsimp only at hg hw
            have hg2 : Go K (xwOf XT K W σ fo) fo φ (er D H) ((lcL ws (lcTurn ifs elt tg ρ) (items.drop (i + 1)) st4).bind fun q => lcEnd ((acc ++ [y]) ++ q.1, q.2)) (fun w st' φ' H' => ∀ xs vs p, w = .d (.lst xs) → H' p = none → RepL K (fo ++ φ') H' xs vs → Q (.ref p) (upd H' p (.lst vs))) := by
              cases el : lcL ws (lcTurn ifs elt tg ρ) (items.drop (i + 1)) st4 with
              | bad => rw [el] at hg; exact hg
              | exc c fs sx => exact (lcL_exc nex _ _ _ _ _ el).elim
              | ok r =>
                rw [el] at hg
                simp only [Rs.bind_ok, consO, List.append_assoc, List.singleton_append] at hg ⊢
                exact hg
            refine ⟨vs, hD4, ?_, rfl, hlt, φ4, st4, acc ++ [y], vs ++ [v], q4.change, (en.step s04).keeps change_keeps, ex4, kp4, hw, upd_same, ?_, ?_⟩
            · rw [← racc.length, ← lim_eq]
              cases el : lcL ws (lcTurn ifs elt tg ρ) (items.drop (i + 1)) st4 with
              | bad => rw [el] at hg2; exact False.elim hg2
              | exc c fs sx => exact (lcL_exc nex _ _ _ _ _ el).elim
              | ok r =>
                rw [el] at hg2
                simp only [Rs.bind_ok] at hg2
                unfold lcEnd at hg2
                split at hg2
                · rename_i hl
                  simp only [List.length_append, List.length_singleton] at hl
                  omega
                · exact False.elim hg2
            · exact RepL.keep change_keeps ((RepL.keep (s04.keeps (fo := D :: fo)) racc).append (.cons rv .nil))
            · rw [er_upd]
              exact Go.at_ hg2 s04.er
        · rw [if_neg hw] at hg
          exact False.elim hg
    · have ei : i = items.length := by omega
      subst ei
      refine .inl ⟨w2, ?_⟩
      rw [List.drop_length] at hg
      have e0 : lcL ws (lcTurn ifs elt tg ρ) [] st = .ok ([], st) := by rw [lcL]
      rw [e0] at hg
      simp only [Rs.bind_ok, List.append_nil] at hg
      unfold lcEnd at hg
      split at hg
      · have := (Go.run hg (q.back hDf)) acc vs D rfl er_at (RepL.keep back_keeps racc)
        rw [upd_er hDv] at this
        exact this
      · exact False.elim hg
/-! #### the block's context -/
theorem CxOk.blk (c : CxOk XT T Γ N X W sc) (s : Shared) (H : Hp) (C : Addr) (cl : List (Str × Addr)) (fp : List Addr) (scope : Scope) : CxOk XT T Γ N (X.blk s H scope (compEnvC scope cl C X.env) fp) W0 (relS scope sc) := by
  refine ⟨c.n, c.nd, ?_, c.calm, c.units, takesB0, c.tn, c.glob, c.blt, c.xc, c.fn, c.fnN⟩
  show relS scope X.env.scope = _
  rw [c.scope]
theorem own_slots {cell : Str → Bool} : ∀ {is : List Nat} {es : List Expr}, chkTgs N (isTg sc cell) is es = true → ((es.zip is).map fun p => ((match p.1 with | .Name x _ => x | _ => ("" : Str)), p.2)).map (·.2) = is
  | [], [], _ => rfl
  | i :: is, e :: es, h => by
    cases e with
    | Name x p =>
      unfold chkTgs at h
      simp only [Bool.and_eq_true] at h
      show i :: _ = i :: is
      congr 1
      exact own_slots h.2
    | _ => unfold chkTgs at h; cases h
  | [], _ :: _, h => by unfold chkTgs at h; cases h
  | _ :: _, [], h => by unfold chkTgs at h; cases h
theorem ownOf_slots {cell : Str → Bool} {tg : Tg} {t : Expr} (h : chkTg N (isTg sc cell) tg t = true) : (ownOf tg t).map (·.2) = tg.slots := by
  cases tg with
  | one i =>
    cases t with
    | Name x p => rfl
    | _ => unfold chkTg at h; cases h
  | many is =>
    cases t with
    | Tuple es k p =>
      unfold chkTg at h
      exact own_slots h
    | _ => unfold chkTg at h; cases h
theorem pts_E {ifs : Exs} {cs : List Expr} (h : ∀ e x, ifs = .cons e .nil → cs = [x] → PT X x (tT XT X.K W (evT Γ e))) (hn : (ifs = .nil ∧ cs = []) ∨ (∃ e x, ifs = .cons e .nil ∧ cs = [x]) ∨ ∃ e e2 r, ifs = .cons e (.cons e2 r)) : ∃ tt, PTs X cs tt ∧ ∀ σ H Q, tT XT X.K W (evIfs Γ ifs) σ H Q → tt σ H Q := by
  rcases hn with ⟨rfl, rfl⟩ | ⟨e, x, rfl, rfl⟩ | ⟨e, e2, r, rfl⟩
  · refine ⟨_, pts_nil, fun σ H Q h => ?_⟩
    obtain ⟨fo, φ, ρ, st, hs, he, h⟩ := h
    unfold evIfs at h
    exact Go.run h hs
  · refine ⟨_, pts_one (h e x rfl rfl), fun σ H Q h => ?_⟩
    obtain ⟨fo, φ, ρ, st, hs, he, h⟩ := h
    refine ⟨fo, φ, ρ, st, hs, he, ?_⟩
    unfold evIfs at h
    exact h
  · refine ⟨fun _ _ _ => False, ⟨fun _ _ _ _ _ _ q => q.elim⟩, fun σ H Q h => ?_⟩
    obtain ⟨fo, φ, ρ, st, hs, he, h⟩ := h
    unfold evIfs at h
    exact False.elim h
end
end PB

set_option Elab.async false
set_option linter.all false
set_option maxRecDepth 100000
set_option maxHeartbeats 4000000
set_option backward.match.sparseCases false
/-! Expressions keep their meaning. -/
namespace PB
open PySem PySem.Spec PyProof.Rows L2
section
variable {XT : Xt} {T : Tb} {Γ : Gam} {N : List Str}
theorem pe_lcF {X : Cx} {W : WX} {sc : Scope} {elt : Ex} {tg : Tg} {it : Itx} {ifs : Exs} {x t i : Expr} {cs : List Expr} {scope : Scope} {pos : Pos} (c : CxOk XT T Γ N X W sc) (hi : PI X t i (tI XT X.K W (evI Γ it))) (hb : blkC N sc scope (ownOf tg t) = true) (hp : plainE i = true)
    (ht : chkTg N (isTg (relS scope sc) fun x => scope.names.lookup x == some .cell) tg t = true)
    (hif : ∀ (X' : Cx), CxOk XT T Γ N X' W0 (relS scope sc) → ∃ tt, PTs X' cs tt ∧ ∀ σ H Q, tT XT X'.K W0 (evIfs Γ ifs) σ H Q → tt σ H Q)
    (he : ∀ (X' : Cx), CxOk XT T Γ N X' W0 (relS scope sc) → PE X' x (tW XT X'.K W0 (evE Γ elt))) :
    PE X (.ListComp x [⟨t, i, cs, 0⟩] scope pos) (tF XT X.K W (evE Γ (.lc elt tg it ifs))) := by
  have hg : ∀ (s : Shared) (H : Hp) (C : Addr) (cl : List (Str × Addr)) (fp : List Addr), PG (X.blk s H scope (compEnvC scope cl C X.env) fp) t (gTg X.K tg) := fun s H C cl fp =>
    pg_tg (X := X.blk s H scope (compEnvC scope cl C X.env) fp) (N := N) (sc := relS scope sc) (cell := fun x => scope.names.lookup x == some .cell) c.n c.nd (c.blk s H C cl fp scope).scope (fun x h => h) c.calm ht
  have hif' : ∀ (s : Shared) (H : Hp) (C : Addr) (cl : List (Str × Addr)) (fp : List Addr), PTs (X.blk s H scope (compEnvC scope cl C X.env) fp) cs (tT XT X.K W0 (evIfs Γ ifs)) := fun s H C cl fp => by
    obtain ⟨tt, h1, h2⟩ := hif (X.blk s H scope (compEnvC scope cl C X.env) fp) (c.blk s H C cl fp scope)
    exact ⟨fun pins s σ H Q I q => h1.run pins s σ H Q I (h2 σ H Q q)⟩
  have he' : ∀ (s : Shared) (H : Hp) (C : Addr) (cl : List (Str × Addr)) (fp : List Addr), PE (X.blk s H scope (compEnvC scope cl C X.env) fp) x (tW XT X.K W0 (evE Γ elt)) := fun s H C cl fp => he _ (c.blk s H C cl fp scope)
  have ok : BlkOk X.N X.env.scope scope (ownOf tg t) := by
    rw [c.n, c.scope]
    exact blkOk_by hb
  refine PE.weak (pe_lc c.calm c.nd hi ok hg hif' he' (plainE_set hp _)) fun σ H Q h => ?_
  rw [ownOf_slots ht]
  refine lc_read (it := evI Γ it) (ifs := evIfs Γ ifs) (elt := evE Γ elt) ?_
  obtain ⟨fo, φ, ρ, st, hs, he, h⟩ := h
  refine ⟨fo, φ, ρ, st, hs, he, ?_⟩
  unfold evE at h
  exact h

/-! #### what the checker has seen -/
section
variable {sc : Scope} {pe : Expr}
theorem chk_v {i : Nat} (h : chkE T N sc (.v i) pe = true) : ∃ x p, pe = .Name x p ∧ N[i]? = some x ∧ isVis sc x = true := by
  unfold chkE at h
  split at h <;> try (rename_i z; cases z)
  · simp only [Bool.and_eq_true, decide_eq_true_eq] at h
    exact ⟨_, _, rfl, h.1, h.2⟩
  · cases h
theorem chk_non (h : chkE T N sc .non pe = true) : ∃ k p, pe = .Constant .none k p := by
  unfold chkE at h
  split at h <;> try (rename_i z; cases z)
  · exact ⟨_, _, rfl⟩
  · cases h
theorem chk_bl {b : Bool} (h : chkE T N sc (.bl b) pe = true) : ∃ k p, pe = .Constant (.bool b) k p := by
  unfold chkE at h
  split at h <;> try (rename_i z; cases z)
  · simp only [beq_iff_eq] at h
    subst h
    exact ⟨_, _, rfl⟩
  · cases h
theorem chk_int {b : Int} (h : chkE T N sc (.int b) pe = true) : ∃ k p, pe = .Constant (.int b) k p := by
  unfold chkE at h
  split at h <;> try (rename_i z; cases z)
  · simp only [beq_iff_eq] at h
    subst h
    exact ⟨_, _, rfl⟩
  · cases h
theorem chk_str {s : List Nat} (h : chkE T N sc (.str s) pe = true) : ∃ k p, pe = .Constant (.str (toS s)) k p ∧ okS s := by
  unfold chkE at h
  split at h <;> try (rename_i z; cases z)
  · simp only [Bool.and_eq_true, decide_eq_true_eq, List.all_eq_true] at h
    obtain ⟨⟨h1, h2⟩, h3⟩ := h
    subst h1
    exact ⟨_, _, rfl, h2, h3⟩
  · cases h
theorem chk_g {k : Nat} (h : chkE T N sc (.g k) pe = true) : ∃ x p, pe = .Name x p ∧ T.gls[k]? = some x ∧ isGl sc x = true := by
  unfold chkE at h
  split at h <;> try (rename_i z; cases z)
  · simp only [Bool.and_eq_true, decide_eq_true_eq] at h
    exact ⟨_, _, rfl, h.1, h.2⟩
  · cases h
theorem chk_bin {o : Bop} {a b : Ex} (h : chkE T N sc (.bin o a b) pe = true) : ∃ x y p, pe = .BinOp x (pyBop o) y p ∧ chkE T N sc a x = true ∧ chkE T N sc b y = true := by
  unfold chkE at h
  split at h <;> try (rename_i z; cases z)
  · simp only [Bool.and_eq_true] at h
    obtain ⟨⟨h1, h2⟩, h3⟩ := h
    cases bopB_eq h1
    exact ⟨_, _, _, rfl, h2, h3⟩
  · cases h
theorem chk_neg {a : Ex} (h : chkE T N sc (.neg a) pe = true) : ∃ x p, pe = .UnaryOp .USub x p ∧ chkE T N sc a x = true := by
  unfold chkE at h
  split at h <;> try (rename_i z; cases z)
  · exact ⟨_, _, rfl, h⟩
  · cases h
theorem chk_not {a : Ex} (h : chkE T N sc (.not a) pe = true) : ∃ x p, pe = .UnaryOp .Not x p ∧ chkE T N sc a x = true := by
  unfold chkE at h
  split at h <;> try (rename_i z; cases z)
  · exact ⟨_, _, rfl, h⟩
  · cases h
theorem chk_and {es : Exs} (h : chkE T N sc (.and es) pe = true) : ∃ xs p, pe = .BoolOp .And xs p ∧ chkEs T N sc es xs = true ∧ es.isNil = false := by
  unfold chkE at h
  split at h <;> try (rename_i z; cases z)
  · simp only [Bool.and_eq_true, Bool.not_eq_true'] at h
    exact ⟨_, _, rfl, h.1, h.2⟩
  · cases h
theorem chk_or {es : Exs} (h : chkE T N sc (.or es) pe = true) : ∃ xs p, pe = .BoolOp .Or xs p ∧ chkEs T N sc es xs = true ∧ es.isNil = false := by
  unfold chkE at h
  split at h <;> try (rename_i z; cases z)
  · simp only [Bool.and_eq_true, Bool.not_eq_true'] at h
    exact ⟨_, _, rfl, h.1, h.2⟩
  · cases h
theorem chk_cmp {o : Cop} {a b : Ex} (h : chkE T N sc (.cmp o a b) pe = true) : ∃ x y p, pe = .Compare x [pyCop o] [y] p ∧ chkE T N sc a x = true ∧ chkE T N sc b y = true ∧ plainE y = true := by
  unfold chkE at h
  split at h <;> try (rename_i z; cases z)
  · simp only [Bool.and_eq_true] at h
    obtain ⟨⟨⟨h1, h2⟩, h3⟩, h4⟩ := h
    cases copB_eq h1
    exact ⟨_, _, _, rfl, h2, h3, h4⟩
  · cases h
theorem chk_cmp2 {o o' : Cop} {a b c : Ex} (h : chkE T N sc (.cmp2 o o' a b c) pe = true) : ∃ x y z p, pe = .Compare x [pyCop o, pyCop o'] [y, z] p ∧ chkE T N sc a x = true ∧ chkE T N sc b y = true ∧ chkE T N sc c z = true ∧ plainE z = true := by
  unfold chkE at h
  split at h <;> try (rename_i z; cases z)
  · simp only [Bool.and_eq_true] at h
    obtain ⟨⟨⟨⟨⟨h1, h2⟩, h3⟩, h4⟩, h5⟩, h6⟩ := h
    cases copB_eq h1
    cases copB_eq h2
    exact ⟨_, _, _, _, rfl, h3, h4, h5, h6⟩
  · cases h
theorem chk_call0 {f : Nat} (h : chkE T N sc (.call0 f) pe = true) : ∃ x p q, pe = .Call (.Name x p) [] [] q ∧ T.fns[f]? = some (x, 0) ∧ isGl sc x = true ∧ (T.nn = true → f ∈ T.cln) := by
  unfold chkE at h
  split at h <;> try (rename_i z; cases z)
  · simp only [Bool.and_eq_true, Bool.or_eq_true, Bool.not_eq_true', decide_eq_true_eq] at h
    exact ⟨_, _, _, rfl, h.1.1, h.1.2, fun z => h.2.elim (fun y => by rw [z] at y; cases y) id⟩
  · cases h
theorem chk_call {f : Nat} {es : Exs} (h : chkE T N sc (.call f es) pe = true) : ∃ x p xs q, pe = .Call (.Name x p) xs [] q ∧ T.fns[f]? = some (x, es.len) ∧ isGl sc x = true ∧ chkEs T N sc es xs = true ∧ es.isNil = false ∧ (T.nn = true → f ∈ T.cln) := by
  unfold chkE at h
  split at h <;> try (rename_i z; cases z)
  · simp only [Bool.and_eq_true, Bool.or_eq_true, Bool.not_eq_true', decide_eq_true_eq] at h
    obtain ⟨⟨⟨⟨h1, h2⟩, h3⟩, h4⟩, h5⟩ := h
    exact ⟨_, _, _, _, rfl, h1, h2, h3, h4, fun z => h5.elim (fun y => by rw [z] at y; cases y) id⟩
  · cases h
theorem chk_p1 {p : P1} {a : Ex} (h : chkE T N sc (.p1 p a) pe = true) : ∃ p1 y q, pe = .Call (.Name (Str.ofString (pyP1 p)) p1) [y] [] q ∧ isGl sc (Str.ofString (pyP1 p)) = true ∧ chkE T N sc a y = true ∧ plainE y = true := by
  unfold chkE at h
  split at h <;> try (rename_i z; cases z)
  · simp only [Bool.and_eq_true, decide_eq_true_eq] at h
    obtain ⟨⟨⟨h1, h2⟩, h3⟩, h4⟩ := h
    subst h1
    exact ⟨_, _, _, rfl, h2, h3, h4⟩
  · cases h
theorem chk_lens {a : Ex} (h : chkE T N sc (.lens a) pe = true) : ∃ p1 p2 y q1 q, pe = .Call (.Name "len" p1) [.Call (.Name "set" p2) [y] [] q1] [] q ∧ isGl sc "len" = true ∧ isGl sc "set" = true ∧ chkE T N sc a y = true ∧ plainE y = true := by
  unfold chkE at h
  split at h <;> try (rename_i z; cases z)
  · simp only [Bool.and_eq_true, decide_eq_true_eq] at h
    obtain ⟨⟨⟨⟨⟨h1, h2⟩, h3⟩, h4⟩, h5⟩, h6⟩ := h
    subst h1; subst h3
    exact ⟨_, _, _, _, _, rfl, h2, h4, h5, h6⟩
  · cases h
theorem chk_isi {t : Ty} {a : Ex} (h : chkE T N sc (.isi a t) pe = true) : ∃ p1 y p2 q, pe = .Call (.Name "isinstance" p1) [y, .Name (Str.ofString (pyTy t)) p2] [] q ∧ isGl sc "isinstance" = true ∧ isGl sc (Str.ofString (pyTy t)) = true ∧ chkE T N sc a y = true ∧ plainE y = true := by
  unfold chkE at h
  split at h <;> try (rename_i z; cases z)
  · simp only [Bool.and_eq_true, decide_eq_true_eq] at h
    obtain ⟨⟨⟨⟨⟨h1, h2⟩, h3⟩, h4⟩, h5⟩, h6⟩ := h
    subst h1 h3
    exact ⟨_, _, _, _, rfl, h2, h4, h5, h6⟩
  · cases h
theorem chk_m1 {m : M1} {a b : Ex} (h : chkE T N sc (.m1 m a b) pe = true) : ∃ x ap y cp, pe = .Call (.Attribute x (Str.ofString (pyM1 m)) ap) [y] [] cp ∧ (ap.endLine == cp.line) = true ∧ chkE T N sc a x = true ∧ chkE T N sc b y = true ∧ plainE x = true ∧ plainE y = true := by
  unfold chkE at h
  split at h <;> try (rename_i z; cases z)
  · simp only [Bool.and_eq_true, decide_eq_true_eq] at h
    obtain ⟨⟨⟨⟨⟨h1, h2⟩, h3⟩, h4⟩, h5⟩, h6⟩ := h
    subst h1
    exact ⟨_, _, _, _, rfl, h2, h3, h4, h5, h6⟩
  · cases h
theorem chk_isi2 {t u : Ty} {a : Ex} (h : chkE T N sc (.isi2 a t u) pe = true) : ∃ p1 y p2 p3 k p4 q, pe = .Call (.Name "isinstance" p1) [y, .Tuple [.Name (Str.ofString (pyTy t)) p2, .Name (Str.ofString (pyTy u)) p3] k p4] [] q ∧ isGl sc "isinstance" = true ∧ isGl sc (Str.ofString (pyTy t)) = true ∧ isGl sc (Str.ofString (pyTy u)) = true ∧ chkE T N sc a y = true ∧ plainE y = true := by
  unfold chkE at h
  split at h <;> try (rename_i z; cases z)
  · simp only [Bool.and_eq_true, decide_eq_true_eq] at h
    obtain ⟨⟨⟨⟨⟨⟨⟨h1, h2⟩, h3⟩, h4⟩, h5⟩, h6⟩, h7⟩, h8⟩ := h
    subst h1 h3 h5
    exact ⟨_, _, _, _, _, _, _, rfl, h2, h4, h6, h7, h8⟩
  · cases h
theorem chk_b2 {o : B2} {a b : Ex} (h : chkE T N sc (.b2 o a b) pe = true) : ∃ p1 y z q, pe = .Call (.Name (Str.ofString (pyB2 o)) p1) [y, z] [] q ∧ isGl sc (Str.ofString (pyB2 o)) = true ∧ chkE T N sc a y = true ∧ plainE y = true ∧ chkE T N sc b z = true ∧ plainE z = true := by
  unfold chkE at h
  split at h <;> try (rename_i z; cases z)
  · simp only [Bool.and_eq_true, decide_eq_true_eq] at h
    obtain ⟨⟨⟨⟨⟨h1, h2⟩, h3⟩, h4⟩, h5⟩, h6⟩ := h
    subst h1
    exact ⟨_, _, _, _, rfl, h2, h3, h4, h5, h6⟩
  · cases h
theorem chk_rev {a : Ex} (h : chkE T N sc (.rev a) pe = true) : ∃ x k p1 p2 p3 p, pe = .Subscript x (.Slice none none (some (.UnaryOp .USub (.Constant (.int 1) k p1) p2)) p3) p ∧ chkE T N sc a x = true := by
  unfold chkE at h
  split at h <;> try (rename_i z; cases z)
  · exact ⟨_, _, _, _, _, _, rfl, h⟩
  · cases h
theorem chk_ix {a i : Ex} (h : chkE T N sc (.ix a i) pe = true) : ∃ x y p, pe = .Subscript x y p ∧ chkE T N sc a x = true ∧ chkE T N sc i y = true ∧ plainE y = true := by
  unfold chkE at h
  split at h <;> try (rename_i z; cases z)
  · simp only [Bool.and_eq_true] at h
    exact ⟨_, _, _, rfl, h.1.1, h.1.2, h.2⟩
  · cases h
theorem chk_sl {a : Ex} {lo hi : Exo} (h : chkE T N sc (.sl a lo hi) pe = true) : ∃ x l u p2 p, pe = .Subscript x (.Slice l u none p2) p ∧ chkE T N sc a x = true ∧ chkO T N sc lo l = true ∧ chkO T N sc hi u = true := by
  unfold chkE at h
  split at h <;> try (rename_i z; cases z)
  · simp only [Bool.and_eq_true] at h
    exact ⟨_, _, _, _, _, rfl, h.1.1, h.1.2, h.2⟩
  · cases h
theorem chk_tup {es : Exs} (h : chkE T N sc (.tup es) pe = true) : ∃ xs k p, pe = .Tuple xs k p ∧ chkEs T N sc es xs = true := by
  unfold chkE at h
  split at h <;> try (rename_i z; cases z)
  · exact ⟨_, _, _, rfl, h⟩
  · cases h
theorem chk_lst {es : Exs} (h : chkE T N sc (.lst es) pe = true) : ∃ xs p, pe = .List xs p ∧ chkEs T N sc es xs = true := by
  unfold chkE at h
  split at h <;> try (rename_i z; cases z)
  · exact ⟨_, _, rfl, h⟩
  · cases h
def tupIt (it : Itx) (t : Expr) : Bool := match it with | .enm _ => isTuple t | .zip _ _ => isTuple t | _ => true
theorem chk_lc {elt : Ex} {tg : Tg} {it : Itx} {ifs : Exs} (h : chkE T N sc (.lc elt tg it ifs) pe = true) : ∃ x t i cs scope p, pe = .ListComp x [⟨t, i, cs, 0⟩] scope p ∧ chkI T N sc it i = true ∧ tupIt it t = true ∧ blkC N sc scope (ownOf tg t) = true ∧ plainE i = true ∧
    chkTg N (isTg (relS scope sc) fun x => scope.names.lookup x == some .cell) tg t = true ∧ chkEs T N (relS scope sc) ifs cs = true ∧ chkE T N (relS scope sc) elt x = true := by
  unfold chkE at h
  split at h <;> try (rename_i z; cases z)
  · simp only [Bool.and_eq_true] at h
    obtain ⟨⟨⟨⟨⟨⟨h1, h2⟩, h3⟩, h4⟩, h5⟩, h6⟩, h7⟩ := h
    exact ⟨_, _, _, _, _, _, rfl, h1, h2, h3, h4, h5, h6, h7⟩
  · cases h
theorem chk_cons {e : Ex} {es : Exs} {xs : List Expr} (h : chkEs T N sc (.cons e es) xs = true) : ∃ y ys, xs = y :: ys ∧ chkE T N sc e y = true ∧ plainE y = true ∧ chkEs T N sc es ys = true := by
  cases xs with
  | nil => unfold chkEs at h; cases h
  | cons y ys =>
    unfold chkEs at h
    simp only [Bool.and_eq_true] at h
    exact ⟨y, ys, rfl, h.1.1, h.1.2, h.2⟩
theorem chk_nil {xs : List Expr} (h : chkEs T N sc .nil xs = true) : xs = [] := by
  cases xs with
  | nil => rfl
  | cons y ys => unfold chkEs at h; cases h
end

mutual
theorem peS : ∀ (e : Ex) {X : Cx} {W : WX} {sc : Scope} (c : CxOk XT T Γ N X W sc) (pe : Expr), chkE T N sc e pe = true → PE X pe (tW XT X.K W (evE Γ e))
  | .v i, X, W, sc, c, pe, h => by
    obtain ⟨x, p, rfl, h1, h2⟩ := chk_v h
    exact pe_v c h1 h2
  | .non, X, W, sc, c, pe, h => by
    obtain ⟨k, p, rfl⟩ := chk_non h
    exact pe_cst (d := .non) pe_non (fun _ _ => by unfold evE; rfl) fun _ _ => .non
  | .bl b, X, W, sc, c, pe, h => by
    obtain ⟨k, p, rfl⟩ := chk_bl h
    exact pe_cst (d := .bl b) pe_bl (fun _ _ => by unfold evE; rfl) fun _ _ => .bl b
  | .int b, X, W, sc, c, pe, h => by
    obtain ⟨k, p, rfl⟩ := chk_int h
    exact pe_cst (d := .int b) pe_int (fun _ _ => by unfold evE; rfl) fun _ _ => .int b
  | .str s, X, W, sc, c, pe, h => by
    obtain ⟨k, p, rfl, ho⟩ := chk_str h
    exact pe_cst (d := .str s) pe_str (fun _ _ => by unfold evE; rfl) fun _ _ => .str s ho
  | .g k, X, W, sc, c, pe, h => by
    obtain ⟨x, p, rfl, h1, h2⟩ := chk_g h
    exact pe_gl c h1 h2
  | .bin o a b, X, W, sc, c, pe, h => by
    obtain ⟨x, y, p, rfl, h1, h2⟩ := chk_bin h
    exact pe_bin (peS a c x h1) (peS b c y h2)
  | .neg a, X, W, sc, c, pe, h => by
    obtain ⟨x, p, rfl, h1⟩ := chk_neg h
    exact pe_neg (peS a c x h1)
  | .not a, X, W, sc, c, pe, h => by
    obtain ⟨x, p, rfl, h1⟩ := chk_not h
    exact pe_nott (peS a c x h1)
  | .and es, X, W, sc, c, pe, h => by
    obtain ⟨xs, p, rfl, h1, h2⟩ := chk_and h
    have := andS es c xs p h1 h2
    exact PE.weak this fun σ H Q h => by
      obtain ⟨fo, φ, ρ, st, hs, he, h⟩ := h
      exact ⟨fo, φ, ρ, st, hs, he, by unfold evE at h; exact h⟩
  | .or es, X, W, sc, c, pe, h => by
    obtain ⟨xs, p, rfl, h1, h2⟩ := chk_or h
    have := orS es c xs p h1 h2
    exact PE.weak this fun σ H Q h => by
      obtain ⟨fo, φ, ρ, st, hs, he, h⟩ := h
      exact ⟨fo, φ, ρ, st, hs, he, by unfold evE at h; exact h⟩
  | .cmp o a b, X, W, sc, c, pe, h => by
    obtain ⟨x, y, p, rfl, h1, h2, h3⟩ := chk_cmp h
    exact pe_cmpE c.units (peS a c x h1) (peS b c y h2) h3
  | .cmp2 o o' a b d, X, W, sc, c, pe, h => by
    obtain ⟨x, y, z, p, rfl, h1, h2, h3, h4⟩ := chk_cmp2 h
    exact pe_cmp2E c.units (peS a c x h1) (peS b c y h2) (peS d c z h3) h4
  | .call f es, X, W, sc, c, pe, h => by
    obtain ⟨x, p, xs, q, rfl, h1, h2, h3, h4, h5⟩ := chk_call h
    have ha := paS es c xs h3
    cases es with
    | nil => cases h4
    | cons e es =>
      obtain ⟨y, ys, rfl, k1, k2, k3⟩ := chk_cons h3
      exact pe_callE c h1 h5 h2 ha (plainE_star k2 _ _) (no_star k3)
  | .call0 f, X, W, sc, c, pe, h => by
    obtain ⟨x, p, q, rfl, h1, h2, h5⟩ := chk_call0 h
    exact pe_call0E c h1 h5 h2
  | .p1 p a, X, W, sc, c, pe, h => by
    obtain ⟨p1, y, q, rfl, h1, h2, h3⟩ := chk_p1 h
    exact pe_p1E c h1 (peS a c y h2) h3
  | .lens a, X, W, sc, c, pe, h => by
    obtain ⟨p1, p2, y, q1, q, rfl, h1, h2, h3, h4⟩ := chk_lens h
    exact pe_lensE c h1 h2 (peS a c y h3) h4
  | .isi a t, X, W, sc, c, pe, h => by
    obtain ⟨p1, y, p2, q, rfl, h1, h2, h3, h4⟩ := chk_isi h
    exact pe_isiE c h1 h2 (peS a c y h3) h4
  | .isi2 a t u, X, W, sc, c, pe, h => by
    obtain ⟨p1, y, p2, p3, k, p4, q, rfl, h1, h2, h3, h4, h5⟩ := chk_isi2 h
    exact pe_isi2E c h1 h2 h3 (peS a c y h4) h5
  | .m1 m a b, X, W, sc, c, pe, h => by
    obtain ⟨x, ap, y, cp, rfl, h1, h2, h3, h4, h5⟩ := chk_m1 h
    cases m with
    | join => exact m1_join (peS a c x h2) (peS b c y h3) h4 h5 h1
    | zfill => exact m1_zfill (peS a c x h2) (peS b c y h3) h4 h5 h1
    | split => exact m1_split (peS a c x h2) (peS b c y h3) h4 h5 h1
  | .b2 o a b, X, W, sc, c, pe, h => by
    obtain ⟨p1, y, z, q, rfl, h1, h2, h3, h4, h5⟩ := chk_b2 h
    exact pe_b2E c h1 (peS a c y h2) h3 (peS b c z h4) h5
  | .rev a, X, W, sc, c, pe, h => by
    obtain ⟨x, k, p1, p2, p3, p, rfl, h1⟩ := chk_rev h
    exact pe_revE (peS a c x h1)
  | .ix a i, X, W, sc, c, pe, h => by
    obtain ⟨x, y, p, rfl, h1, h2, h3⟩ := chk_ix h
    exact pe_ixE (peS a c x h1) (peS i c y h2) h3
  | .sl a lo hi, X, W, sc, c, pe, h => by
    obtain ⟨x, l, u, p2, p, rfl, h1, h2, h3⟩ := chk_sl h
    exact pe_slE (peS a c x h1) (poS lo c l h2) (poS hi c u h3)
  | .tup es, X, W, sc, c, pe, h => by
    obtain ⟨xs, k, p, rfl, h1⟩ := chk_tup h
    exact pe_tupE (paS es c xs h1)
  | .lst es, X, W, sc, c, pe, h => by
    obtain ⟨xs, p, rfl, h1⟩ := chk_lst h
    exact PE.weak (pe_lstF (paS es c xs h1)) fun σ H Q h => tW_tF h
  | .lc elt tg it ifs, X, W, sc, c, pe, h => by
    obtain ⟨x, t, i, cs, scope, p, rfl, h1, h2, h3, h4, h5, h6, h7⟩ := chk_lc h
    exact PE.weak (pe_lcF c (piS it c i t h2 h1) h3 h4 h5 (fun X' c' => ifS ifs c' cs h6) fun X' c' => peS elt c' x h7) fun σ H Q h => tW_tF h
theorem ptS : ∀ (e : Ex) {X : Cx} {W : WX} {sc : Scope} (c : CxOk XT T Γ N X W sc) (pe : Expr), chkE T N sc e pe = true → PT X pe (tT XT X.K W (evT Γ e))
  | .not a, X, W, sc, c, pe, h => by
    obtain ⟨x, p, rfl, h1⟩ := chk_not h
    exact pt_nott (ptS a c x h1)
  | .and es, X, W, sc, c, pe, h => by
    obtain ⟨xs, p, rfl, h1, h2⟩ := chk_and h
    exact PT.weak (PW.pt (andT es c xs p h1 h2)) fun σ H Q h => by
      obtain ⟨fo, φ, ρ, st, hs, he, h⟩ := h
      exact ⟨fo, φ, ρ, st, hs, he, by unfold evT evE at h; exact h⟩
  | .or es, X, W, sc, c, pe, h => by
    obtain ⟨xs, p, rfl, h1, h2⟩ := chk_or h
    exact PT.weak (PW.pt (orT es c xs p h1 h2)) fun σ H Q h => by
      obtain ⟨fo, φ, ρ, st, hs, he, h⟩ := h
      exact ⟨fo, φ, ρ, st, hs, he, by unfold evT evE at h; exact h⟩
  | .cmp o a b, X, W, sc, c, pe, h => by
    obtain ⟨x, y, p, rfl, h1, h2, h3⟩ := chk_cmp h
    exact pt_cmpE c.units (peS a c x h1) (peS b c y h2) h3
  | .cmp2 o o' a b d, X, W, sc, c, pe, h => by
    obtain ⟨x, y, z, p, rfl, h1, h2, h3, h4⟩ := chk_cmp2 h
    exact pt_cmp2E c.units (peS a c x h1) (peS b c y h2) (peS d c z h3) h4
  | .v i, X, W, sc, c, pe, h => by
    obtain ⟨x, p, rfl, h1, h2⟩ := chk_v h
    exact pt_of (pe_v c h1 h2) fun _ => rfl
  | .non, X, W, sc, c, pe, h => by
    obtain ⟨k, p, rfl⟩ := chk_non h
    exact pt_of (pe_cst (d := .non) pe_non (fun _ _ => by unfold evE; rfl) fun _ _ => .non) fun _ => rfl
  | .bl b, X, W, sc, c, pe, h => by
    obtain ⟨k, p, rfl⟩ := chk_bl h
    exact pt_of (pe_cst (d := .bl b) pe_bl (fun _ _ => by unfold evE; rfl) fun _ _ => .bl b) fun _ => rfl
  | .int b, X, W, sc, c, pe, h => by
    obtain ⟨k, p, rfl⟩ := chk_int h
    exact pt_of (pe_cst (d := .int b) pe_int (fun _ _ => by unfold evE; rfl) fun _ _ => .int b) fun _ => rfl
  | .str s, X, W, sc, c, pe, h => by
    obtain ⟨k, p, rfl, ho⟩ := chk_str h
    exact pt_of (pe_cst (d := .str s) pe_str (fun _ _ => by unfold evE; rfl) fun _ _ => .str s ho) fun _ => rfl
  | .g k, X, W, sc, c, pe, h => by
    obtain ⟨x, p, rfl, h1, h2⟩ := chk_g h
    exact pt_of (pe_gl c h1 h2) fun _ => rfl
  | .bin o a b, X, W, sc, c, pe, h => by
    obtain ⟨x, y, p, rfl, h1, h2⟩ := chk_bin h
    exact pt_of (pe_bin (peS a c x h1) (peS b c y h2)) fun _ => rfl
  | .neg a, X, W, sc, c, pe, h => by
    obtain ⟨x, p, rfl, h1⟩ := chk_neg h
    exact pt_of (pe_neg (peS a c x h1)) fun _ => rfl
  | .call f es, X, W, sc, c, pe, h => by
    obtain ⟨x, p, xs, q, rfl, h1, h2, h3, h4, h5⟩ := chk_call h
    have ha := paS es c xs h3
    cases es with
    | nil => cases h4
    | cons e es =>
      obtain ⟨y, ys, rfl, k1, k2, k3⟩ := chk_cons h3
      exact pt_of (pe_callE c h1 h5 h2 ha (plainE_star k2 _ _) (no_star k3)) fun _ => rfl
  | .call0 f, X, W, sc, c, pe, h => by
    obtain ⟨x, p, q, rfl, h1, h2, h5⟩ := chk_call0 h
    exact pt_of (pe_call0E c h1 h5 h2) fun _ => rfl
  | .p1 p a, X, W, sc, c, pe, h => by
    obtain ⟨p1, y, q, rfl, h1, h2, h3⟩ := chk_p1 h
    exact pt_of (pe_p1E c h1 (peS a c y h2) h3) fun _ => rfl
  | .lens a, X, W, sc, c, pe, h => by
    obtain ⟨p1, p2, y, q1, q, rfl, h1, h2, h3, h4⟩ := chk_lens h
    exact pt_of (pe_lensE c h1 h2 (peS a c y h3) h4) fun _ => rfl
  | .isi a t, X, W, sc, c, pe, h => by
    obtain ⟨p1, y, p2, q, rfl, h1, h2, h3, h4⟩ := chk_isi h
    exact pt_of (pe_isiE c h1 h2 (peS a c y h3) h4) fun _ => rfl
  | .isi2 a t u, X, W, sc, c, pe, h => by
    obtain ⟨p1, y, p2, p3, k, p4, q, rfl, h1, h2, h3, h4, h5⟩ := chk_isi2 h
    exact pt_of (pe_isi2E c h1 h2 h3 (peS a c y h4) h5) fun _ => rfl
  | .m1 m a b, X, W, sc, c, pe, h => by
    obtain ⟨x, ap, y, cp, rfl, h1, h2, h3, h4, h5⟩ := chk_m1 h
    cases m with
    | join => exact pt_of (m1_join (peS a c x h2) (peS b c y h3) h4 h5 h1) fun _ => rfl
    | zfill => exact pt_of (m1_zfill (peS a c x h2) (peS b c y h3) h4 h5 h1) fun _ => rfl
    | split => exact pt_of (m1_split (peS a c x h2) (peS b c y h3) h4 h5 h1) fun _ => rfl
  | .b2 o a b, X, W, sc, c, pe, h => by
    obtain ⟨p1, y, z, q, rfl, h1, h2, h3, h4, h5⟩ := chk_b2 h
    exact pt_of (pe_b2E c h1 (peS a c y h2) h3 (peS b c z h4) h5) fun _ => rfl
  | .rev a, X, W, sc, c, pe, h => by
    obtain ⟨x, k, p1, p2, p3, p, rfl, h1⟩ := chk_rev h
    exact pt_of (pe_revE (peS a c x h1)) fun _ => rfl
  | .ix a i, X, W, sc, c, pe, h => by
    obtain ⟨x, y, p, rfl, h1, h2, h3⟩ := chk_ix h
    exact pt_of (pe_ixE (peS a c x h1) (peS i c y h2) h3) fun _ => rfl
  | .sl a lo hi, X, W, sc, c, pe, h => by
    obtain ⟨x, l, u, p2, p, rfl, h1, h2, h3⟩ := chk_sl h
    exact pt_of (pe_slE (peS a c x h1) (poS lo c l h2) (poS hi c u h3)) fun _ => rfl
  | .tup es, X, W, sc, c, pe, h => by
    obtain ⟨xs, k, p, rfl, h1⟩ := chk_tup h
    exact pt_of (pe_tupE (paS es c xs h1)) fun _ => rfl
  | .lst es, X, W, sc, c, pe, h => by
    obtain ⟨xs, p, rfl, h1⟩ := chk_lst h
    exact pt_of (PE.weak (pe_lstF (paS es c xs h1)) fun σ H Q h => tW_tF h) fun _ => rfl
  | .lc elt tg it ifs, X, W, sc, c, pe, h => by
    obtain ⟨x, t, i, cs, scope, p, rfl, h1, h2, h3, h4, h5, h6, h7⟩ := chk_lc h
    exact pt_of (PE.weak (pe_lcF c (piS it c i t h2 h1) h3 h4 h5 (fun X' c' => ifS ifs c' cs h6) fun X' c' => peS elt c' x h7) fun σ H Q h => tW_tF h) fun _ => rfl
theorem andS : ∀ (es : Exs) {X : Cx} {W : WX} {sc : Scope} (c : CxOk XT T Γ N X W sc) (xs : List Expr) (p : Pos), chkEs T N sc es xs = true → es.isNil = false → PE X (.BoolOp .And xs p) (tW XT X.K W (evAnd Γ es))
  | .nil, X, W, sc, c, xs, p, h, hn => by cases hn
  | .cons e .nil, X, W, sc, c, xs, p, h, hn => by
    obtain ⟨y, ys, rfl, k1, k2, k3⟩ := chk_cons h
    cases chk_nil k3
    rw [evAnd_one]
    exact pe_one (peS e c y k1)
  | .cons e (.cons e2 r), X, W, sc, c, xs, p, h, hn => by
    obtain ⟨y, ys, rfl, k1, k2, k3⟩ := chk_cons h
    have := andS (.cons e2 r) c ys p k3 rfl
    obtain ⟨y2, ys, rfl, _⟩ := chk_cons k3
    exact pe_andE (peS e c y k1) this
theorem orS : ∀ (es : Exs) {X : Cx} {W : WX} {sc : Scope} (c : CxOk XT T Γ N X W sc) (xs : List Expr) (p : Pos), chkEs T N sc es xs = true → es.isNil = false → PE X (.BoolOp .Or xs p) (tW XT X.K W (evOr Γ es))
  | .nil, X, W, sc, c, xs, p, h, hn => by cases hn
  | .cons e .nil, X, W, sc, c, xs, p, h, hn => by
    obtain ⟨y, ys, rfl, k1, k2, k3⟩ := chk_cons h
    cases chk_nil k3
    rw [evOr_one]
    exact pe_one (peS e c y k1)
  | .cons e (.cons e2 r), X, W, sc, c, xs, p, h, hn => by
    obtain ⟨y, ys, rfl, k1, k2, k3⟩ := chk_cons h
    have := orS (.cons e2 r) c ys p k3 rfl
    obtain ⟨y2, ys, rfl, _⟩ := chk_cons k3
    exact pe_orE (peS e c y k1) this
theorem andT : ∀ (es : Exs) {X : Cx} {W : WX} {sc : Scope} (c : CxOk XT T Γ N X W sc) (xs : List Expr) (p : Pos), chkEs T N sc es xs = true → es.isNil = false → PW X (.BoolOp .And xs p) (tT XT X.K W (evTAnd Γ es))
  | .nil, X, W, sc, c, xs, p, h, hn => by cases hn
  | .cons e .nil, X, W, sc, c, xs, p, h, hn => by
    obtain ⟨y, ys, rfl, k1, k2, k3⟩ := chk_cons h
    cases chk_nil k3
    have e1 : evTAnd Γ (.cons e .nil) = evT Γ e := by funext ρ st; unfold evTAnd evT; rw [evAnd_one]
    rw [e1]
    exact pw_one (ptS e c y k1)
  | .cons e (.cons e2 r), X, W, sc, c, xs, p, h, hn => by
    obtain ⟨y, ys, rfl, k1, k2, k3⟩ := chk_cons h
    have := andT (.cons e2 r) c ys p k3 rfl
    obtain ⟨y2, ys, rfl, _⟩ := chk_cons k3
    exact pw_andE (ptS e c y k1) this
theorem orT : ∀ (es : Exs) {X : Cx} {W : WX} {sc : Scope} (c : CxOk XT T Γ N X W sc) (xs : List Expr) (p : Pos), chkEs T N sc es xs = true → es.isNil = false → PW X (.BoolOp .Or xs p) (tT XT X.K W (evTOr Γ es))
  | .nil, X, W, sc, c, xs, p, h, hn => by cases hn
  | .cons e .nil, X, W, sc, c, xs, p, h, hn => by
    obtain ⟨y, ys, rfl, k1, k2, k3⟩ := chk_cons h
    cases chk_nil k3
    have e1 : evTOr Γ (.cons e .nil) = evT Γ e := by funext ρ st; unfold evTOr evT; rw [evOr_one]
    rw [e1]
    exact pw_one (ptS e c y k1)
  | .cons e (.cons e2 r), X, W, sc, c, xs, p, h, hn => by
    obtain ⟨y, ys, rfl, k1, k2, k3⟩ := chk_cons h
    have := orT (.cons e2 r) c ys p k3 rfl
    obtain ⟨y2, ys, rfl, _⟩ := chk_cons k3
    exact pw_orE (ptS e c y k1) this
theorem ifS : ∀ (es : Exs) {X : Cx} {W : WX} {sc : Scope} (c : CxOk XT T Γ N X W sc) (cs : List Expr), chkEs T N sc es cs = true → ∃ tt, PTs X cs tt ∧ ∀ σ H Q, tT XT X.K W (evIfs Γ es) σ H Q → tt σ H Q
  | .nil, X, W, sc, c, cs, h => by
    cases chk_nil h
    exact pts_E (fun e x e1 => by cases e1) (.inl ⟨rfl, rfl⟩)
  | .cons e .nil, X, W, sc, c, cs, h => by
    obtain ⟨y, ys, rfl, k1, k2, k3⟩ := chk_cons h
    cases chk_nil k3
    have := ptS e c y k1
    exact pts_E (fun e' x e1 e2 => by cases e1; cases e2; exact this) (.inr (.inl ⟨e, y, rfl, rfl⟩))
  | .cons e (.cons e2 r), X, W, sc, c, cs, h => pts_E (fun e' x e1 => by cases e1) (.inr (.inr ⟨e, e2, r, rfl⟩))
theorem paS : ∀ (es : Exs) {X : Cx} {W : WX} {sc : Scope} (c : CxOk XT T Γ N X W sc) (xs : List Expr), chkEs T N sc es xs = true → PA X xs (tL XT X.K W (evEs Γ es))
  | .nil, X, W, sc, c, xs, h => by
    cases chk_nil h
    exact pa_nilE
  | .cons e es, X, W, sc, c, xs, h => by
    obtain ⟨y, ys, rfl, k1, k2, k3⟩ := chk_cons h
    exact pa_consE (peS e c y k1) (paS es c ys k3) k2
theorem poS : ∀ (o : Exo) {X : Cx} {W : WX} {sc : Scope} (c : CxOk XT T Γ N X W sc) (x : Option Expr), chkO T N sc o x = true → PO X x (tO XT X.K W (evO Γ o))
  | .no, X, W, sc, c, x, h => by
    cases x with
    | none => exact po_no
    | some y => unfold chkO at h; cases h
  | .yes e, X, W, sc, c, x, h => by
    cases x with
    | none => unfold chkO at h; cases h
    | some y =>
      unfold chkO at h
      exact po_yes (peS e c y h)
theorem piS : ∀ (it : Itx) {X : Cx} {W : WX} {sc : Scope} (c : CxOk XT T Γ N X W sc) (x t : Expr), tupIt it t = true → chkI T N sc it x = true → PI X t x (tI XT X.K W (evI Γ it))
  | .seq e, X, W, sc, c, x, t, ht, h => by
    unfold chkI at h
    exact pi_seq (peS e c x h)
  | .rng1 e, X, W, sc, c, x, t, ht, h => by
    unfold chkI at h
    split at h <;> try (rename_i z; cases z)
    · simp only [Bool.and_eq_true, decide_eq_true_eq] at h
      obtain ⟨⟨⟨h1, h2⟩, h3⟩, h4⟩ := h
      subst h1
      exact pi_rng1 c h2 (peS e c _ h3) h4
    · cases h
  | .rng2 a b, X, W, sc, c, x, t, ht, h => by
    unfold chkI at h
    split at h <;> try (rename_i z; cases z)
    · simp only [Bool.and_eq_true, decide_eq_true_eq] at h
      obtain ⟨⟨⟨⟨⟨h1, h2⟩, h3⟩, h4⟩, h5⟩, h6⟩ := h
      subst h1
      exact pi_rng2 c h2 (peS a c _ h3) h4 (peS b c _ h5) h6
    · cases h
  | .enm e, X, W, sc, c, x, t, ht, h => by
    unfold chkI at h
    split at h <;> try (rename_i z; cases z)
    · simp only [Bool.and_eq_true, decide_eq_true_eq] at h
      obtain ⟨⟨⟨h1, h2⟩, h3⟩, h4⟩ := h
      subst h1
      cases t with
      | Tuple es k p => exact pi_enm c h2 (peS e c _ h3) h4
      | _ => cases ht
    · cases h
  | .zip a b, X, W, sc, c, x, t, ht, h => by
    unfold chkI at h
    split at h <;> try (rename_i z; cases z)
    · simp only [Bool.and_eq_true, decide_eq_true_eq] at h
      obtain ⟨⟨⟨⟨⟨h1, h2⟩, h3⟩, h4⟩, h5⟩, h6⟩ := h
      subst h1
      cases t with
      | Tuple es k p => exact pi_zipE c h2 (peS a c _ h3) h4 (peS b c _ h5) h6
      | _ => cases ht
    · cases h
end
theorem lcS (elt : Ex) (tg : Tg) (it : Itx) (ifs : Exs) {X : Cx} {W : WX} {sc : Scope} (c : CxOk XT T Γ N X W sc) (pe : Expr) (h : chkE T N sc (.lc elt tg it ifs) pe = true) : PE X pe (tF XT X.K W (evE Γ (.lc elt tg it ifs))) := by
  obtain ⟨x, t, i, cs, scope, p, rfl, h1, h2, h3, h4, h5, h6, h7⟩ := chk_lc h
  exact pe_lcF c (piS it c i t h2 h1) h3 h4 h5 (fun X' c' => ifS ifs c' cs h6) fun X' c' => peS elt c' x h7
end
end PB

set_option Elab.async false
set_option linter.all false
set_option maxRecDepth 100000
set_option maxHeartbeats 4000000
set_option backward.match.sparseCases false
/-! Statements keep their meaning. -/
namespace PB
open PySem PySem.Spec PyProof.Rows L2

def isLC : Expr → Bool
  | .ListComp _ _ _ _ => true
  | .SetComp _ _ _ _ => true
  | .DictComp _ _ _ _ _ => true
  | _ => false
/-- a comprehension's list goes straight to the name -/
def swB (sc : Scope) (x : Str) (px : Pos) : Expr → Bool
  | .ListComp _ _ scope pos => (match sc.names.lookup x with | some .local => true | _ => false) && (px.line == pos.line) && !(scope.names.any fun (n, k) => n == x && (k == .local || k == .cell))
  | _ => false
def freshE : Ex → Bool
  | .lst _ => true
  | .lc _ _ _ _ => true
  | _ => false
/-- what makes a new list -/
def freshX : Ex → Bool
  | .p1 .list _ => true
  | .bin .add _ _ => true
  | e => freshE e
/-- what is asked of the exception at the name n -/
def chkX (T : Tb) (sc : Scope) (n : Str) : Xe → Expr → Bool
  | .isi none, .Call (.Name x _) [.Name y _, .Name z _] [] _ => decide (x = "isinstance") && isGl sc x && decide (y = n) && decide (z = "ValueError") && isGl sc z
  | .isi (some k), .Call (.Name x _) [.Name y _, .Name z _] [] _ => decide (x = "isinstance") && isGl sc x && decide (y = n) && decide (T.xcs[k]? = some (z, [])) && isGl sc z
  | .not a, .UnaryOp .Not e _ => chkX T sc n a e
  | .and a b, .BoolOp .And [e, f] _ => chkX T sc n a e && chkX T sc n b f
  | _, _ => false
def chkXs (T : Tb) (sc : Scope) (n : Str) : List Xe → List Expr → Bool
  | [], [] => true
  | x :: xs, e :: es => chkX T sc n x e && plainE e && chkXs T sc n xs es
  | _, _ => false
/-- a call without arguments may be walked, too -/
def walkE : Expr → Bool
  | .Call _ [] _ _ => true
  | e => plainE e
theorem walkE_set {e : Expr} (h : walkE e = true) (env : PySem.Env) (x : Value) : foldedSetIterable e env x = pure x := by
  cases e <;> first | rfl | (unfold walkE at h; exact plainE_set h env x)
mutual
/-- bodies of a try: no name is set ahead of what may raise -/
def simS : Sm → Bool
  | .expr _ => true
  | .set _ (.call _ _) => true
  | .unp _ (.call _ _) => true
  | .ife _ a b => simSs a && simSs b
  | _ => false
def simSs : Sms → Bool
  | .nil => true
  | .cons s r => simS s && (match r with | .nil => true | _ => false)
end
mutual
def chkS (T : Tb) (N : List Str) (sc : Scope) : Sm → Stmt → Bool
  | .set i e, .Assign [.Name x px] y _ => decide (N[i]? = some x) && isTg sc (fun _ => true) x && chkE T N sc e y
  | .setL i e, .Assign [.Name x px] y _ => decide (N[i]? = some x) && isTg sc (fun _ => true) x && chkE T N sc e y && freshX e
  | .unp is e, .Assign [.Tuple ts k p] y _ => chkTgs N (isTg sc fun _ => true) is ts && chkE T N sc e y && !isTuple y && !isLC y
  | .ret e, .Return (some y) _ => chkE T N sc e y
  | .ife c a b, .If y u v _ => chkE T N sc c y && chkSs T N sc a u && chkSs T N sc b v
  | .forS tg it b, .For t y u [] _ => chkI T N sc it y && tupIt it t && walkE y && chkTg N (isTg sc fun _ => true) tg t && chkSs T N sc b u
  | .whl c b, .While y u [] _ => chkE T N sc c y && chkSs T N sc b u
  | .app i e, .Expr (.Call (.Attribute (.Name x px) n ap) [y] [] cp) _ => decide (n = "append") && (ap.endLine == cp.line) && decide (N[i]? = some x) && isVis sc x && chkE T N sc e y && plainE y
  | .expr e, .Expr y _ => chkE T N sc e y && !isLC y
  | .brk, .Break _ => true
  | .cnt, .Continue _ => true
  | .pass, .Pass _ => true
  | .never, _ => true
  | .tryN c b, .Try u [.ExceptHandler (some (.Name x _)) none (_ :: _) _] [] [] _ => decide (T.xcs[c]? = some (x, [])) && isGl sc x && simSs b && !T.nn && chkSs T N sc b u
  | .tryX c b i j xs, .Try u [.ExceptHandler (some (.Name x _)) (some n) [.Assign [.Name y _] (.Tuple es _ _) _] _] [] [] _ => decide (T.xcs[c]? = some (x, [])) && isGl sc x && decide (N[i]? = some n) && (match sc.names.lookup n with | some .local => true | _ => false) && isVis sc n &&
      decide (N[j]? = some y) && isTg sc (fun _ => true) y && simSs b && chkSs T N sc b u && chkXs T sc n xs es && !T.nn
  | .tryR c k b, .Try u [.ExceptHandler (some (.Name x _)) none [.Raise (some (.Call (.Name y _) [.Constant (.str m) _ _] [] _)) (some (.Constant .none _ _)) _] _] [] [] _ =>
      !T.nn && decide (T.xcs[c]? = some (x, [])) && isGl sc x && decide (T.xcs[k]? = some (y, [])) && isGl sc y && simSs b && chkSs { T with nn := true } N sc b u
  | .rai c, .Raise (some (.Call (.Name x _) [.Constant (.str m) _ _] [] _)) none _ => decide (T.xcs[c]? = some (x, [])) && isGl sc x
  | _, _ => false
def chkSs (T : Tb) (N : List Str) (sc : Scope) : Sms → List Stmt → Bool
  | .nil, [] => true
  | .cons s r, x :: xs => chkS T N sc s x && chkSs T N sc r xs
  | _, _ => false
end

/-- what is wanted behind a statement -/
def FlP (K : PySem.W.Frag) (fo : List Addr) (D : Ends) (p : Fl × Ev) (φ : List Addr) (H : Hp) : Prop := ∀ σ, EnvOk K fo φ H p.2 σ → match p.1 with
  | .nx => D.nx σ H
  | .bk => D.bk σ H
  | .ct => D.ct σ H
  | .rt w => ∀ v, RepW K fo φ H w v → D.rt v H
/-- the wish about exceptions, whatever the slots -/
abbrev WEE (E : XK) : WX := fun cls d _ H => E cls d H
def tS (XT : Xt) (K : PySem.W.Frag) (E : XK) (m : Ev → Sr → Rs Sx) : TS := fun D σ H => ∃ fo φ ρ st, Sok K fo φ H st ∧ EnvOk K fo φ H ρ σ ∧
  Go K (xwOf XT K (WEE E) σ fo) fo φ H (m ρ st) (fun p _ φ' H' => FlP K fo D p φ' H')

/-- a fresh list's reading, that it is a list is known -/
def tG (XT : Xt) (K : PySem.W.Frag) (W : WX) (m : Ev → Sr → Rs (Wv × Sr)) : TE := fun σ H Q => ∃ fo φ ρ st, Sok K fo φ H st ∧ EnvOk K fo φ H ρ σ ∧
  Go K (xwOf XT K W σ fo) fo φ H (m ρ st) (fun w st' φ' H' => ∃ xs, w = .d (.lst xs) ∧ ∀ vs p, H' p = none → RepL K (fo ++ φ') H' xs vs → Q (.ref p) (upd H' p (.lst vs)))
def OpSG (K : PySem.W.Frag) (f : Dt → Dt → Option Dt) (r : R2) : Prop := ∀ (av : List Addr) (H : Hp) (x y : Dt) (zs : List Dt) (v u : V) (Q : VK), (∀ a ∈ av, ∃ o, H a = some o) → VRep K av H x v → VRep K av H y u → f x y = some (.lst zs) →
  (∀ vs p, H p = none → RepL K av H zs vs → Q (.ref p) (upd H p (.lst vs))) → r v u H Q
def UnSG (K : PySem.W.Frag) (f : Dt → Option Dt) (r : V → Hp → VK → Prop) : Prop := ∀ (av : List Addr) (H : Hp) (x : Dt) (zs : List Dt) (v : V) (Q : VK), (∀ a ∈ av, ∃ o, H a = some o) → VRep K av H x v → f x = some (.lst zs) →
  (∀ vs p, H p = none → RepL K av H zs vs → Q (.ref p) (upd H p (.lst vs))) → r v H Q
section
variable {XT : Xt} {K : PySem.W.Frag} {W : WX} {σ : L2.St} {H : Hp} {Q : VK} {m : Ev → Sr → Rs (Wv × Sr)} {m' : Ev → Sr → Rs (Wv × Sr)}
theorem tG_tF (h : tG XT K W m σ H Q) : tF XT K W m σ H Q := by
  obtain ⟨fo, φ, ρ, st, hs, he, h⟩ := h
  refine ⟨fo, φ, ρ, st, hs, he, h.imp fun w st1 φ1 H1 s1 q1 h1 xs' vs p e' hp r => ?_⟩
  obtain ⟨xs, e, h1⟩ := h1
  subst e
  cases e'
  exact h1 vs p hp r
theorem tG_op1 {f : Dt → Option Dt} {r : V → Hp → VK → Prop} (hr : UnSG K f r) (h : tG XT K W (fun ρ st => (m ρ st).bind (op1 f)) σ H Q) : tW XT K W m σ H (fun x H1 => r x H1 Q) := by
  obtain ⟨fo, φ, ρ, st, hs, he, h⟩ := h
  refine ⟨fo, φ, ρ, st, hs, he, (Go.of_bind h).imp fun w st1 φ1 H1 s1 q1 h1 v rv => ?_⟩
  unfold op1 at h1
  simp only at h1
  cases e1 : viewW st1 w with
  | none => rw [e1] at h1; exact h1.elim
  | some x =>
    rw [e1] at h1
    cases e2 : f x with
    | none => simp only [Option.bind_some, e2] at h1; exact h1.elim
    | some z =>
      simp only [Option.bind_some, e2] at h1
      obtain ⟨zs, ez, h3⟩ := Go.run h1 q1
      cases ez
      exact hr (fo ++ φ1) H1 x zs v Q q1.trk (view_of q1 rv e1) e2 fun vs p hp r => h3 vs p hp r
theorem tG_op2 {f : Dt → Dt → Option Dt} {r : R2} (hr : OpSG K f r) (h : tG XT K W (fun ρ st => (m ρ st).bind fun p => (m' ρ p.2).bind fun q => op2 f p.1 q) σ H Q) : tOp r (tW XT K W m) (tW XT K W m') σ H Q := by
  obtain ⟨fo, φ, ρ, st, hs, he, h⟩ := h
  refine ⟨fo, φ, ρ, st, hs, he, (Go.of_bind h).imp fun w st1 φ1 H1 s1 q1 h1 v rv => ?_⟩
  refine ⟨fo, φ1, ρ, st1, q1, he.step s1, (Go.of_bind h1).imp fun w2 st2 φ2 H2 s2 q2 h2 v2 rv2 => ?_⟩
  unfold op2 at h2
  simp only at h2
  cases e1 : viewW st2 w with
  | none => rw [e1] at h2; exact h2.elim
  | some x =>
    cases e2 : viewW st2 w2 with
    | none => simp only [e1, e2, Option.bind_some] at h2; exact h2.elim
    | some y =>
      cases e3 : f x y with
      | none => simp only [e1, e2, e3, Option.bind_some] at h2; exact h2.elim
      | some z =>
        simp only [e1, e2, e3, Option.bind_some] at h2
        obtain ⟨zs, ez, h3⟩ := Go.run h2 q2
        cases ez
        exact hr (fo ++ φ2) H2 x y zs v v2 Q q2.trk (view_of q2 (rv.step s2) e1) (view_of q2 rv2 e2) e3 fun vs p hp r => h3 vs p hp r
theorem opsG_add : OpSG K (bopD .add) (rBop K .add) := by
  intro av H x y zs v u Q ht hx hy e q
  unfold bopD at e
  split at e <;> try (cases e; done)
  · split at e <;> cases e
  · split at e <;> cases e
  · split at e
    · rename_i hl
      cases e
      obtain ⟨a, vs, rfl, ha, ra⟩ := vlst hx
      obtain ⟨b, us, rfl, hb, rb⟩ := vlst hy
      exact .inr (.inr (.inr ⟨a, b, vs, us, rfl, rfl, ha, hb, by rw [← ra.length, ← rb.length, ← lim_eq]; exact hl, fun p hp => q _ p hp (ra.append rb)⟩))
    · cases e
  all_goals (rename_i h1; cases h1)
theorem unsG_list : UnSG K (p1D .list) (fun v H Q => rP1 K .list [v] H Q) := by
  intro av H x zs v Q ht hx e q
  cases x with
  | lst xs =>
    cases e
    obtain ⟨a, vs, rfl, ha, ra⟩ := vlst hx
    exact ⟨a, vs, rfl, .inl (.inl ha), fun l hl => q _ l hl ra⟩
  | tup xs =>
    cases e
    obtain ⟨a, vs, rfl, ha, ra⟩ := vtup hx
    exact ⟨a, vs, rfl, .inr ha, fun l hl => q _ l hl ra⟩
  | _ => cases e
end
section
variable {XT : Xt} {T : Tb} {Γ : Gam} {N : List Str} {X : Cx} {E : XK} {sc : Scope} {K : PySem.W.Frag} {σ : L2.St} {H : Hp}
theorem PS.weak {s : Stmt} {t t' : TS} (h : PS X s t) (f : ∀ D σ H, t' D σ H → t D σ H) : PS X s t' := ⟨fun pins s σ H D I q => h.run pins s σ H D I (f D σ H q)⟩
theorem PSs.weak {s : List Stmt} {t t' : TS} (h : PSs X s t) (f : ∀ D σ H, t' D σ H → t D σ H) : PSs X s t' := ⟨fun pins s σ H D I q => h.run pins s σ H D I (f D σ H q)⟩
structure SxOk (XT : Xt) (T : Tb) (Γ : Gam) (N : List Str) (X : Cx) (E : XK) (sc : Scope) : Prop where
  cx : CxOk XT T Γ N X (WEE E) sc
  kind : sc.kind = .function
  fn : ∀ x, X.fn x = true
  own : PassesOwn (model X.prog X.w) X.A X.env X.xe
  stk : X.stack = X.env :: X.outer
  frm : X.env.frame = some X.env.locals
  ownAt : ∀ hd : Option Value, PassesOwnAt (model X.prog X.w) (X.A.mark hd) X.A X.env X.xe
theorem swaps_no {e : Expr} (h : isLC e = false) (t : Option Expr) (l : Nat) (env : PySem.Env) : swapsWith e t l env = pure false := by
  cases e <;> first | rfl | cases h
theorem swaps_lc {sc : Scope} {x : Str} {px : Pos} {e : Expr} {l : Nat} {env : PySem.Env} (hs : env.scope = sc) (h : swB sc x px e = false) (h0 : (∃ a b c d, e = .ListComp a b c d) ∨ isLC e = false) : swapsWith e (some (.Name x px)) l env = pure false := by
  cases e with
  | ListComp elt gs scope pos =>
    unfold swB at h
    unfold swapsWith
    subst hs
    show pure (_ && _ && _ && _) = pure false
    congr 1
    have hk : env.kindOf x = env.scope.names.lookup x := rfl
    rw [hk]
    cases hl : env.scope.names.lookup x with
    | none => simp
    | some k =>
      rw [hl] at h
      cases k with
      | «local» =>
        simp only [Bool.true_and] at h
        simp only [beq_self_eq_true, Bool.and_true, Expr.pos]
        rw [Bool.and_assoc, h, Bool.and_false]
      | _ => simp
  | SetComp a b c d => rcases h0 with ⟨_, _, _, _, z⟩ | z <;> cases z
  | DictComp a b c d f => rcases h0 with ⟨_, _, _, _, z⟩ | z <;> cases z
  | _ => rfl
/-! #### names stored -/
theorem chk_isLC {e : Ex} {y : Expr} (h : chkE T N sc e y = true) : (∃ a b c d, y = .ListComp a b c d) ∨ isLC y = false := by
  cases y with
  | ListComp a b c d => exact .inl ⟨a, b, c, d, rfl⟩
  | SetComp a b c d =>
    exfalso
    unfold chkE at h
    split at h <;> rename_i z <;> first | (cases z; done) | skip
    all_goals (first | cases h | (rename_i z2; cases z2))
  | DictComp a b c d f =>
    exfalso
    unfold chkE at h
    split at h <;> rename_i z <;> first | (cases z; done) | skip
    all_goals (first | cases h | (rename_i z2; cases z2))
  | _ => exact .inr rfl
theorem swB_inv {x : Str} {px pos : Pos} {elt : Expr} {gs : List Comprehension} {scope : Scope} {l : Nat} {env : PySem.Env} (hs : env.scope = sc) (hk : sc.kind = .function) (h : swB sc x px (.ListComp elt gs scope pos) = true) :
    env.scope.names.lookup x = some .local ∧ swapsWith (.ListComp elt gs scope pos) (some (.Name x px)) l env = pure true := by
  unfold swB at h
  simp only [Bool.and_eq_true] at h
  obtain ⟨⟨h1, h2⟩, h3⟩ := h
  subst hs
  have h1' : env.scope.names.lookup x = some .local := by
    split at h1
    · assumption
    · cases h1
  exact ⟨h1', sw_true hk h1' h2 (by simpa using h3)⟩
/-- name = [..] straight to the name -/
theorem ps_setLcF {W : WX} {i0 : Nat} {y : Str} {py spos : Pos} {elt : Ex} {tg : Tg} {it : Itx} {ifs : Exs} {x t i : Expr} {cs : List Expr} {scope : Scope} {pos : Pos} (c : CxOk XT T Γ N X W sc) (hN : N[i0]? = some y) (hyl : X.env.scope.names.lookup y = some .local)
    (hsw : swapsWith (.ListComp x [⟨t, i, cs, 0⟩] scope pos) (some (.Name y py)) spos.line X.env = pure true) (hi : PI X t i (tI XT X.K W (evI Γ it))) (hb : blkC N sc scope (ownOf tg t) = true) (hp : plainE i = true)
    (ht : chkTg N (isTg (relS scope sc) fun x => scope.names.lookup x == some .cell) tg t = true)
    (hif : ∀ (X' : Cx), CxOk XT T Γ N X' W0 (relS scope sc) → ∃ tt, PTs X' cs tt ∧ ∀ σ H Q, tT XT X'.K W0 (evIfs Γ ifs) σ H Q → tt σ H Q)
    (he : ∀ (X' : Cx), CxOk XT T Γ N X' W0 (relS scope sc) → PE X' x (tW XT X'.K W0 (evE Γ elt))) :
    PS X (.Assign [.Name y py] (.ListComp x [⟨t, i, cs, 0⟩] scope pos) spos) (tAsg (tF XT X.K W (evE Γ (.lc elt tg it ifs))) (gName i0)) := by
  have hg : ∀ (s : Shared) (H : Hp) (C : Addr) (cl : List (Str × Addr)) (fp : List Addr), PG (X.blk s H scope (compEnvC scope cl C X.env) fp) t (gTg X.K tg) := fun s H C cl fp =>
    pg_tg (X := X.blk s H scope (compEnvC scope cl C X.env) fp) (N := N) (sc := relS scope sc) (cell := fun x => scope.names.lookup x == some .cell) c.n c.nd (c.blk s H C cl fp scope).scope (fun x h => h) c.calm ht
  have hif' : ∀ (s : Shared) (H : Hp) (C : Addr) (cl : List (Str × Addr)) (fp : List Addr), PTs (X.blk s H scope (compEnvC scope cl C X.env) fp) cs (tT XT X.K W0 (evIfs Γ ifs)) := fun s H C cl fp => by
    obtain ⟨tt, h1, h2⟩ := hif (X.blk s H scope (compEnvC scope cl C X.env) fp) (c.blk s H C cl fp scope)
    exact ⟨fun pins s σ H Q I q => h1.run pins s σ H Q I (h2 σ H Q q)⟩
  have he' : ∀ (s : Shared) (H : Hp) (C : Addr) (cl : List (Str × Addr)) (fp : List Addr), PE (X.blk s H scope (compEnvC scope cl C X.env) fp) x (tW XT X.K W0 (evE Γ elt)) := fun s H C cl fp => he _ (c.blk s H C cl fp scope)
  have ok : BlkOk X.N X.env.scope scope (ownOf tg t) := by
    rw [c.n, c.scope]
    exact blkOk_by hb
  refine PS.weak (ps_setLc (i := i0) c.calm c.nd (by rw [c.n]; exact hN) hyl hsw hi ok hg hif' he' (plainE_set hp _)) fun D σ H h => ?_
  show tLc _ _ _ _ _ σ H _
  rw [ownOf_slots ht]
  refine lc_read (it := evI Γ it) (ifs := evIfs Γ ifs) (elt := evE Γ elt) ?_
  obtain ⟨fo, φ, ρ, st, hs, he, h⟩ := h
  refine ⟨fo, φ, ρ, st, hs, he, ?_⟩
  unfold evE at h
  exact h
theorem ps_fresh {i : Nat} {e : Ex} {x : Str} {px pos : Pos} {y : Expr} (c : SxOk XT T Γ N X E sc) (hN : N[i]? = some x) (hx : isTg sc (fun _ => true) x = true) (hy : chkE T N sc e y = true) (hf : freshE e = true) :
    PS X (.Assign [.Name x px] y pos) (tAsg (tF XT X.K (WEE E) (evE Γ e)) (gName i)) := by
  obtain ⟨l1, l2⟩ := isTg_loc hx
  have hN' : X.N[i]? = some x := by rw [c.cx.n]; exact hN
  have hl : Loc X.env.scope x := by rw [c.cx.scope]; exact l1
  cases e with
  | lst es =>
    obtain ⟨xs, p, rfl, h1⟩ := chk_lst hy
    exact ps_set (i := i) c.cx.nd hN' hl (pe_lstF (paS es c.cx xs h1)) rfl (.inl (c.fn x))
  | lc elt tg it ifs =>
    have hPE := lcS elt tg it ifs c.cx y hy
    obtain ⟨x', t, i', cs, scope, p, rfl, h1, h2, h3, h4, h5, h6, h7⟩ := chk_lc hy
    cases hsw : swB sc x px (.ListComp x' [⟨t, i', cs, 0⟩] scope p) with
    | false => exact ps_set (i := i) c.cx.nd hN' hl hPE (swaps_lc c.cx.scope hsw (.inl ⟨_, _, _, _, rfl⟩)) (.inl (c.fn x))
    | true =>
      obtain ⟨k1, k2⟩ := swB_inv (l := pos.line) (env := X.env) c.cx.scope c.kind hsw
      exact ps_setLcF c.cx hN k1 k2 (piS it c.cx i' t h2 h1) h3 h4 h5 (fun X' c' => ifS ifs c' cs h6) fun X' c' => peS elt c' x' h7
  | _ => cases hf
theorem ps_any {i : Nat} {e : Ex} {x : Str} {px pos : Pos} {y : Expr} (c : SxOk XT T Γ N X E sc) (hN : N[i]? = some x) (hx : isTg sc (fun _ => true) x = true) (hy : chkE T N sc e y = true) :
    PS X (.Assign [.Name x px] y pos) (tAsg (tW XT X.K (WEE E) (evE Γ e)) (gName i)) := by
  cases hf : freshE e with
  | true => exact PS.weak (ps_fresh c hN hx hy hf) fun D σ H h => tW_tF h
  | false =>
    obtain ⟨l1, l2⟩ := isTg_loc hx
    have hN' : X.N[i]? = some x := by rw [c.cx.n]; exact hN
    have hl : Loc X.env.scope x := by rw [c.cx.scope]; exact l1
    have hLC : isLC y = false := by
      rcases chk_isLC hy with ⟨a, b, d, f, rfl⟩ | h
      · exfalso
        unfold chkE at hy
        split at hy <;> rename_i z <;> first | (cases z; done) | skip
        all_goals (first | (cases hy; done) | (rename_i z2; cases z2; done) | (cases hf; done) | skip)
      · exact h
    exact ps_set (i := i) c.cx.nd hN' hl (peS e c.cx y hy) (swaps_no hLC _ _ _) (.inl (c.fn x))
theorem pe_listG {W : WX} {a : Ex} {y : Expr} {pn pos : Pos} (c : CxOk XT T Γ N X W sc) (hg : isGl sc (Str.ofString (pyP1 .list)) = true) (ha : PE X y (tW XT X.K W (evE Γ a))) (hy : plainE y = true) :
    PE X (.Call (.Name (Str.ofString (pyP1 .list)) pn) [y] [] pos) (tG XT X.K W (evE Γ (.p1 .list a))) := by
  have hb := boot_p1 .list
  have hc := call_p1 (X := X) c.calm c.units .list
  have hm := c.blt _ (mem_p1 .list)
  refine PE.weak (pe_callTy hc (c.gl hg) hm hb (pa_one ha hy) (ne_p1 .list) (isGl_gl hg).2 (plainE_star hy _ _) rfl) fun σ H Q h => ?_
  refine tG_op1 unsG_list ?_
  obtain ⟨fo, φ, ρ, st, hs, he, h⟩ := h
  unfold evE at h
  exact ⟨fo, φ, ρ, st, hs, he, h⟩
theorem pe_addG {W : WX} {a b : Ex} {x y : Expr} {pos : Pos} (ha : PE X x (tW XT X.K W (evE Γ a))) (hb : PE X y (tW XT X.K W (evE Γ b))) : PE X (.BinOp x (pyBop .add) y pos) (tG XT X.K W (evE Γ (.bin .add a b))) := by
  refine PE.weak (pe_op (op_bop .add) ha hb) fun σ H Q h => ?_
  refine tG_op2 opsG_add ?_
  obtain ⟨fo, φ, ρ, st, hs, he, h⟩ := h
  unfold evE at h
  exact ⟨fo, φ, ρ, st, hs, he, h⟩
theorem ps_freshX {i : Nat} {e : Ex} {x : Str} {px pos : Pos} {y : Expr} (c : SxOk XT T Γ N X E sc) (hN : N[i]? = some x) (hx : isTg sc (fun _ => true) x = true) (hy : chkE T N sc e y = true) (hf : freshX e = true) :
    PS X (.Assign [.Name x px] y pos) (tAsg (tG XT X.K (WEE E) (evE Γ e)) (gName i)) := by
  cases hf0 : freshE e with
  | true => exact PS.weak (ps_fresh c hN hx hy hf0) fun D σ H h => tG_tF h
  | false =>
    obtain ⟨l1, l2⟩ := isTg_loc hx
    have hN' : X.N[i]? = some x := by rw [c.cx.n]; exact hN
    have hl : Loc X.env.scope x := by rw [c.cx.scope]; exact l1
    unfold freshX at hf
    split at hf
    · obtain ⟨p1, z, q, rfl, h1, h2, h3⟩ := chk_p1 hy
      exact ps_set (i := i) c.cx.nd hN' hl (pe_listG c.cx h1 (peS _ c.cx z h2) h3) rfl (.inl (c.fn x))
    · obtain ⟨u, v, p, rfl, h1, h2⟩ := chk_bin hy
      exact ps_set (i := i) c.cx.nd hN' hl (pe_addG (peS _ c.cx u h1) (peS _ c.cx v h2)) rfl (.inl (c.fn x))
    · rw [hf0] at hf; cases hf
end
end PB

set_option Elab.async false
set_option linter.all false
set_option maxRecDepth 100000
set_option maxHeartbeats 4000000
set_option backward.match.sparseCases false
/-! Statements keep their meaning: the theorem. -/
namespace PB
open PySem PySem.Spec PyProof.Rows L2
section
variable {XT : Xt} {T : Tb} {Γ : Gam} {N : List Str} {X : Cx} {E : XK} {sc : Scope} {K : PySem.W.Frag} {σ : L2.St} {H H1 : Hp} {fo φ : List Addr} {st : Sr}
theorem get_push {α : Type} (xs : List α) (x : α) {n : Nat} {y : α} (h : (xs ++ [x])[n]? = some y) : xs[n]? = some y ∨ (n = xs.length ∧ y = x) := by
  rw [List.getElem?_append] at h
  split at h
  · exact .inl h
  · rename_i hn
    right
    have : n - xs.length = 0 := by
      have := (List.getElem?_eq_some_iff.mp h).1
      simp at this
      omega
    rw [this] at h
    simp at h
    exact ⟨by omega, h.symm⟩
/-- a new list is laid into the store -/
theorem Sok.pushL {p : Addr} {xs : List Dt} {vs : List V} (s : Sok K fo φ H st) (hp : H p = none) (r : RepL K (fo ++ φ) H xs vs) :
    Step φ H (φ ++ [p]) (upd H p (.lst vs)) ∧ Sok K fo (φ ++ [p]) (upd H p (.lst vs)) (st ++ [.lst xs]) ∧ (φ ++ [p])[st.length]? = some p := by
  have hpn := s.fresh hp
  rw [List.mem_append, not_or] at hpn
  have stp : Step φ H (φ ++ [p]) (upd H p (.lst vs)) := ⟨⟨[p], rfl⟩, fun a o n e => by
    have ha : a ≠ p := ne_of_none e hp
    exact ⟨by rw [upd_ne ha]; exact e, by simp [n, ha]⟩⟩
  refine ⟨stp, ⟨by simp [s.len], ?_, fun a ha => ?_, fun a ha => ?_, fun n a ys e1 e2 => ?_⟩, ?_⟩
  · rw [List.nodup_append]
    refine ⟨s.nd, by simp, fun a ha b hb => ?_⟩
    have : b = p := by simpa using hb
    rw [this]
    exact fun e => hpn.2 (by rw [← e]; exact ha)
  · obtain ⟨o, e⟩ := s.ft a ha
    exact ⟨o, by rw [upd_ne (ne_of_none e hp)]; exact e⟩
  · rcases List.mem_append.mp ha with ha | ha
    · exact s.dj a ha
    · have : a = p := by simpa using ha
      rw [this]; exact hpn.1
  · rcases get_push _ _ e2 with e2 | ⟨rfl, e5⟩
    · have hn : n < φ.length := by rw [s.len]; exact (List.getElem?_eq_some_iff.mp e2).1
      rw [List.getElem?_append_left hn] at e1
      obtain ⟨us, e3, q⟩ := s.ob n a ys e1 e2
      exact ⟨us, by rw [upd_ne (ne_of_none e3 hp)]; exact e3, RepL.keep stp.keeps q⟩
    · cases e5
      rw [← s.len] at e1
      simp at e1
      subst e1
      exact ⟨vs, upd_same, RepL.keep stp.keeps r⟩
  · rw [← s.len]; simp
/-- an object of the store changes -/
theorem Sok.setL {n : Nat} {a : Addr} {xs : List Dt} {vs : List V} (s : Sok K fo φ H st) (ha : φ[n]? = some a) (r : RepL K (fo ++ φ) H xs vs) :
    Step φ H φ (upd H a (.lst vs)) ∧ Sok K fo φ (upd H a (.lst vs)) (st.set n (.lst xs)) := by
  have hm : a ∈ φ := List.mem_of_getElem? ha
  have stp : Step φ H φ (upd H a (.lst vs)) := ⟨⟨[], by simp⟩, fun b o hn e => by
    have hb : b ≠ a := fun z => hn (by rw [z]; exact hm)
    exact ⟨by rw [upd_ne hb]; exact e, hn⟩⟩
  refine ⟨stp, ⟨by simp [s.len], s.nd, fun b hb => ?_, s.dj, fun m b ys e1 e2 => ?_⟩⟩
  · obtain ⟨o, e⟩ := s.ft b hb
    have hne : b ≠ a := fun z => s.dj a hm (by rw [← z]; exact hb)
    exact ⟨o, by rw [upd_ne hne]; exact e⟩
  · by_cases hmn : n = m
    · subst hmn
      rw [ha] at e1
      cases e1
      have hl : n < st.length := by rw [← s.len]; exact (List.getElem?_eq_some_iff.mp ha).1
      rw [List.getElem?_set_self hl] at e2
      cases e2
      exact ⟨vs, upd_same, RepL.keep stp.keeps r⟩
    · rw [List.getElem?_set_ne hmn] at e2
      obtain ⟨us, e3, q⟩ := s.ob m b ys e1 e2
      have hne : b ≠ a := fun z => by
        rw [z] at e1
        obtain ⟨h1, h2⟩ := List.getElem?_eq_some_iff.mp ha
        obtain ⟨h3, h4⟩ := List.getElem?_eq_some_iff.mp e1
        exact hmn ((List.getElem_inj s.nd).mp (h2.trans h4.symm))
      exact ⟨us, by rw [upd_ne hne]; exact e3, RepL.keep stp.keeps q⟩
theorem s_set {i : Nat} {e : Ex} {D : Ends} (h : tS XT K E (exS Γ (.set i e)) D σ H) : tAsg (tW XT K (WEE E) (evE Γ e)) (gName i) D σ H := by
  obtain ⟨fo, φ, ρ, st, hs, he, h⟩ := h
  unfold exS at h
  refine ⟨fo, φ, ρ, st, hs, he, (Go.of_bind h).imp fun w st1 φ1 H1 s1 q1 h1 v rv => ?_⟩
  exact (Go.run h1 q1) _ ((he.step s1).set rv)
theorem s_setL {i : Nat} {e : Ex} {D : Ends} (h : tS XT K E (exS Γ (.setL i e)) D σ H) : tAsg (tG XT K (WEE E) (evE Γ e)) (gName i) D σ H := by
  obtain ⟨fo, φ, ρ, st, hs, he, h⟩ := h
  unfold exS at h
  refine ⟨fo, φ, ρ, st, hs, he, (Go.of_bind h).imp fun w st1 φ1 H1 s1 q1 h1 => ?_⟩
  unfold layL at h1
  dsimp only at h1
  split at h1
  · rename_i xs
    refine ⟨xs, rfl, fun vs p hp r => ?_⟩
    obtain ⟨a1, a2, a3⟩ := q1.pushL hp r
    have h2 : Go K (xwOf XT K (WEE E) σ fo) fo φ1 H1 (.ok ((Fl.nx, ρ.set i (some (.ob st1.length))), st1 ++ [.lst xs])) (fun p _ φ' H' => FlP K fo D p φ' H') := h1
    exact h2 _ _ a1 a2 _ (((he.step s1).step a1).set ⟨p, a3, rfl⟩)
  · exact False.elim h1
theorem s_unp {is : List Nat} {e : Ex} {D : Ends} (h : tS XT K E (exS Γ (.unp is e)) D σ H) : tAsg (tW XT K (WEE E) (evE Γ e)) (gTup K is.length (gMany is)) D σ H := by
  obtain ⟨fo, φ, ρ, st, hs, he, h⟩ := h
  unfold exS at h
  refine ⟨fo, φ, ρ, st, hs, he, (Go.of_bind h).imp fun w st1 φ1 H1 s1 q1 h1 v rv => ?_⟩
  unfold unpW at h1
  dsimp only at h1
  split at h1
  · rename_i xs
    cases e1 : setMany is xs ρ with
    | none => rw [e1] at h1; exact False.elim h1
    | some ρ' =>
      rw [e1] at h1
      obtain ⟨a, vs, rfl, r, rr⟩ := Rep.sqT rv
      refine ⟨a, vs, rfl, r, by rw [← rr.length]; exact gMany_len e1, ?_⟩
      exact gMany_ok (all := is) e1 (fun i hi => hi) (he.step s1) rr fun σ' he' _ => (Go.run h1 q1) σ' he'
  · exact False.elim h1
theorem s_ret {e : Ex} {D : Ends} (h : tS XT K E (exS Γ (.ret e)) D σ H) : tRet (tW XT K (WEE E) (evE Γ e)) D σ H := by
  obtain ⟨fo, φ, ρ, st, hs, he, h⟩ := h
  unfold exS at h
  refine ⟨fo, φ, ρ, st, hs, he, (Go.of_bind h).imp fun w st1 φ1 H1 s1 q1 h1 v rv => ?_⟩
  exact (Go.run h1 q1) σ (he.step s1) v rv
theorem s_expr {e : Ex} {D : Ends} (h : tS XT K E (exS Γ (.expr e)) D σ H) : tDrop (tW XT K (WEE E) (evE Γ e)) D σ H := by
  obtain ⟨fo, φ, ρ, st, hs, he, h⟩ := h
  unfold exS at h
  refine ⟨fo, φ, ρ, st, hs, he, (Go.of_bind h).imp fun w st1 φ1 H1 s1 q1 h1 v rv => ?_⟩
  exact (Go.run h1 q1) σ (he.step s1)
theorem s_ife {c : Ex} {a b : Sms} {D : Ends} (h : tS XT K E (exS Γ (.ife c a b)) D σ H) : tIfS (tT XT K (WEE E) (evT Γ c)) (tS XT K E (exSs Γ a)) (tS XT K E (exSs Γ b)) D σ H := by
  obtain ⟨fo, φ, ρ, st, hs, he, h⟩ := h
  unfold exS at h
  refine ⟨fo, φ, ρ, st, hs, he, (Go.of_bind h).imp fun k st1 φ1 H1 s1 q1 h1 => ?_⟩
  cases k with
  | true => exact ⟨fo, φ1, ρ, st1, q1, he.step s1, h1⟩
  | false => exact ⟨fo, φ1, ρ, st1, q1, he.step s1, h1⟩
theorem obW_inv {o : Option (Option Wv)} {n : Nat} (h : obW o = some n) : o = some (some (.ob n)) := by
  unfold obW at h
  split at h
  · cases h; rfl
  · cases h
theorem s_app {i : Nat} {e : Ex} {D : Ends} (h : tS XT K E (exS Γ (.app i e)) D σ H) : tDrop (tBM K "list" rAppend (tVar i) (tCons (tW XT K (WEE E) (evE Γ e)) tNil)) D σ H := by
  obtain ⟨fo, φ, ρ, st, hs, he, h⟩ := h
  unfold exS at h
  cases e1 : obW ρ[i]? with
  | none => rw [e1] at h; exact False.elim h
  | some n =>
    rw [e1] at h
    simp only [Option.map_some, Rs.ofO_some, Rs.bind_ok] at h
    obtain ⟨v, e2, a, ea, rfl⟩ := he.at_ i _ (obW_inv e1)
    refine ⟨.ref a, e2, ?_⟩
    unfold seenW at h
    cases e3 : st[n]? with
    | none => rw [e3] at h; exact False.elim h
    | some o =>
      cases o with
      | lst xs0 =>
        rw [e3] at h
        simp only [Rs.bind_ok] at h
        obtain ⟨vs0, h0, r0⟩ := hs.ob n a xs0 ea e3
        refine ⟨.inl ⟨rfl, vs0, .inl (.inl h0)⟩, ?_⟩
        refine ⟨fo, φ, ρ, st, hs, he, (Go.of_bind h).imp fun w st1 φ1 H1 s1 q1 h1 v rv => ?_⟩
        unfold appW at h1
        dsimp only at h1
        split at h1
        · rename_i y xs e4
          split at h1
          · rename_i hl
            obtain ⟨vs, h5, r5⟩ := q1.ob n a xs (s1.get ea) e4
            refine ⟨a, vs, v, rfl, rfl, h5, by rw [← r5.length, ← lim_eq]; exact hl, ?_⟩
            obtain ⟨b1, b2⟩ := q1.setL (s1.get ea) (r5.append (.cons rv .nil))
            exact h1 _ _ b1 b2 σ ((he.step s1).step b1)
          · exact False.elim h1
        · exact False.elim h1
theorem s_seq {s : Sm} {r : Sms} {D : Ends} (h : tS XT K E (exSs Γ (.cons s r)) D σ H) : tSeq (tS XT K E (exS Γ s)) (tS XT K E (exSs Γ r)) D σ H := by
  obtain ⟨fo, φ, ρ, st, hs, he, h⟩ := h
  unfold exSs at h
  refine ⟨fo, φ, ρ, st, hs, he, (Go.of_bind h).imp fun p st1 φ1 H1 s1 q1 h1 => ?_⟩
  obtain ⟨fl, ρ'⟩ := p
  intro σ' he'
  cases fl with
  | nx => exact ⟨fo, φ1, ρ', st1, q1, he', h1⟩
  | rt w => exact (Go.run (a := (Fl.rt w, ρ')) (st := st1) h1 q1) σ' he'
  | bk => exact (Go.run (a := (Fl.bk, ρ')) (st := st1) h1 q1) σ' he'
  | ct => exact (Go.run (a := (Fl.ct, ρ')) (st := st1) h1 q1) σ' he'
theorem s_nil {D : Ends} (h : tS XT K E (exSs Γ .nil) D σ H) : tNext D σ H := by
  obtain ⟨fo, φ, ρ, st, hs, he, h⟩ := h
  unfold exSs at h
  exact (Go.run h hs) σ he
theorem s_for {tg : Tg} {it : Itx} {b : Sms} {D : Ends} (h : tS XT K E (exS Γ (.forS tg it b)) D σ H) : tFor (tI XT K (WEE E) (evI Γ it)) (gTg K tg) (tS XT K E (exSs Γ b)) D σ H := by
  obtain ⟨fo, φ, ρ, st, hs, he, h⟩ := h
  unfold exS at h
  refine ⟨fo, φ, ρ, st, hs, he, (Go.of_bind h).imp fun p st1 φ1 H1 s1 q1 h1 J wk wo => ?_⟩
  obtain ⟨items, ws⟩ := p
  dsimp only at h1 wo
  refine ⟨fun i m σ H => m = items.length - i ∧ i ≤ items.length ∧ ∃ φ ρ st, Sok K fo φ H st ∧ EnvOk K fo φ H ρ σ ∧ (∃ t, φ = φ1 ++ t) ∧ Keeps (fo ++ φ1) H1 (fo ++ φ) H ∧ watchOk ws st = true ∧
      Go K (xwOf XT K (WEE E) σ fo) fo φ H (exFor (exSs Γ b) tg ws (items.drop i) ρ st) (fun p _ φ' H' => FlP K fo D p φ' H'),
    ⟨items.length, by simp, Nat.zero_le _, φ1, ρ, st1, q1, he.step s1, ⟨[], by simp⟩, .refl, wo, by rw [List.drop_zero]; exact h1⟩, ?_⟩
  rintro i m σ H ⟨rfl, hi, φ, ρ, st, q, en, ex, kp, wo, hg⟩
  obtain ⟨w1, w2, w3⟩ := wk fo φ H st ex kp q wo
  by_cases hlt : i < items.length
  · obtain ⟨d, hd⟩ := get_lt hlt
    have hdrop : items.drop i = d :: items.drop (i + 1) := by
      rw [List.drop_eq_getElem_cons hlt]
      congr 1
      exact Option.some.inj ((List.getElem?_eq_getElem hlt).symm.trans hd)
    rw [hdrop] at hg
    unfold exFor at hg
    cases es : setTg tg d ρ with
    | none => rw [es] at hg; exact False.elim hg
    | some ρ' =>
      rw [es] at hg
      dsimp only at hg
      refine .inr ⟨w1 i hlt, fun σ' H' => items.length - (i + 1) = items.length - (i + 1) ∧ i + 1 ≤ items.length ∧ ∃ φ ρ st, Sok K fo φ H' st ∧ EnvOk K fo φ H' ρ σ' ∧ (∃ t, φ = φ1 ++ t) ∧ Keeps (fo ++ φ1) H1 (fo ++ φ) H' ∧ watchOk ws st = true ∧
        Go K (xwOf XT K (WEE E) σ' fo) fo φ H' (exFor (exSs Γ b) tg ws (items.drop (i + 1)) ρ st) (fun p _ φ' H' => FlP K fo D p φ' H'), fun σ' H' hN => ⟨_, by omega, hN⟩, fun x H' hy => ?_⟩
      obtain ⟨sm, rx⟩ := w3 i d x H' hd hy
      have sm' : Step φ H φ H' := Step.same sm
      refine gTg_ok es (en.step sm') rx fun σ2 en3 _ => ?_
      refine ⟨fo, φ, ρ', st, q.same sm, en3, (Go.of_bind (Go.at_ hg sm')).imp fun p st3 φ3 H3 s3 q3 h3 => ?_⟩
      obtain ⟨fl, ρ3⟩ := p
      have s03 : Step φ H φ3 H3 := sm'.trans s3
      have ex3 : ∃ t, φ3 = φ1 ++ t := by
        obtain ⟨t, e1⟩ := ex
        obtain ⟨u, e2⟩ := s03.ext
        exact ⟨t ++ u, by rw [e2, e1, List.append_assoc]⟩
      have kp3 : Keeps (fo ++ φ1) H1 (fo ++ φ3) H3 := kp.trans (s03.keeps (fo := fo))
      intro σ3 he3
      dsimp only at h3
      cases fl with
      | nx =>
        dsimp only at h3
        split at h3
        · rename_i hw
          exact ⟨rfl, hlt, φ3, ρ3, st3, q3, he3, ex3, kp3, hw, h3⟩
        · exact False.elim h3
      | ct =>
        dsimp only at h3
        split at h3
        · rename_i hw
          exact ⟨rfl, hlt, φ3, ρ3, st3, q3, he3, ex3, kp3, hw, h3⟩
        · exact False.elim h3
      | bk => exact (Go.run (a := (Fl.nx, ρ3)) (st := st3) h3 q3) σ3 he3
      | rt w => exact (Go.run (a := (Fl.rt w, ρ3)) (st := st3) h3 q3) σ3 he3
  · have ei : i = items.length := by omega
    subst ei
    rw [List.drop_length] at hg
    unfold exFor at hg
    exact .inl ⟨w2, (Go.run hg q) σ en⟩
theorem s_whl {c : Ex} {b : Sms} {D : Ends} (h : tS XT K E (exS Γ (.whl c b)) D σ H) : tWhile (tT XT K (WEE E) (evT Γ c)) (tS XT K E (exSs Γ b)) D σ H := by
  obtain ⟨fo, φ, ρ, st, hs, he, h⟩ := h
  unfold exS at h
  refine ⟨fun m σ H => ∃ φ ρ st, Sok K fo φ H st ∧ EnvOk K fo φ H ρ σ ∧ Go K (xwOf XT K (WEE E) σ fo) fo φ H (exWhl (evT Γ c) (exSs Γ b) m ρ st) (fun p _ φ' H' => FlP K fo D p φ' H'), ⟨turns, φ, ρ, st, hs, he, h⟩, ?_⟩
  rintro m σ H ⟨φ, ρ, st, q, en, hg⟩
  cases m with
  | zero => exact False.elim hg
  | succ m =>
    unfold exWhl at hg
    refine ⟨fo, φ, ρ, st, q, en, (Go.of_bind hg).imp fun k st1 φ1 H1 s1 q1 h1 => ?_⟩
    cases k with
    | false => exact (Go.run (a := (Fl.nx, ρ)) (st := st1) h1 q1) σ (en.step s1)
    | true =>
      refine ⟨fun σ H => ∃ φ ρ st, Sok K fo φ H st ∧ EnvOk K fo φ H ρ σ ∧ Go K (xwOf XT K (WEE E) σ fo) fo φ H (exWhl (evT Γ c) (exSs Γ b) m ρ st) (fun p _ φ' H' => FlP K fo D p φ' H'), fun σ' H' hN => ⟨m, Nat.lt_succ_self m, hN⟩, ?_⟩
      have h1 : Go K (xwOf XT K (WEE E) σ fo) fo φ1 H1 ((exSs Γ b ρ st1).bind fun p => match p.1.1 with
        | .nx => exWhl (evT Γ c) (exSs Γ b) m p.1.2 p.2
        | .ct => exWhl (evT Γ c) (exSs Γ b) m p.1.2 p.2
        | .bk => .ok ((.nx, p.1.2), p.2)
        | .rt w => .ok ((.rt w, p.1.2), p.2)) (fun p _ φ' H' => FlP K fo D p φ' H') := h1
      refine ⟨fo, φ1, ρ, st1, q1, en.step s1, (Go.of_bind h1).imp fun p st3 φ3 H3 s3 q3 h3 => ?_⟩
      obtain ⟨fl, ρ3⟩ := p
      intro σ3 he3
      dsimp only at h3
      cases fl with
      | nx => exact ⟨φ3, ρ3, st3, q3, he3, h3⟩
      | ct => exact ⟨φ3, ρ3, st3, q3, he3, h3⟩
      | bk => exact (Go.run (a := (Fl.nx, ρ3)) (st := st3) h3 q3) σ3 he3
      | rt w => exact (Go.run (a := (Fl.rt w, ρ3)) (st := st3) h3 q3) σ3 he3

/-! #### a try whose suite tells of the exception's classes -/
def tSW (XT : Xt) (K : PySem.W.Frag) (W : WX) (m : Ev → Sr → Rs Sx) : TS := fun D σ H => ∃ fo φ ρ st, Sok K fo φ H st ∧ EnvOk K fo φ H ρ σ ∧
  Go K (xwOf XT K W σ fo) fo φ H (m ρ st) (fun p _ φ' H' => FlP K fo D p φ' H')
section
variable {W : WX}
theorem w_expr {e : Ex} {D : Ends} (h : tSW XT K W (exS Γ (.expr e)) D σ H) : tDrop (tW XT K W (evE Γ e)) D σ H := by
  obtain ⟨fo, φ, ρ, st, hs, he, h⟩ := h
  unfold exS at h
  refine ⟨fo, φ, ρ, st, hs, he, (Go.of_bind h).imp fun w st1 φ1 H1 s1 q1 h1 v rv => ?_⟩
  exact (Go.run h1 q1) σ (he.step s1)
theorem w_set {i : Nat} {e : Ex} {D : Ends} (h : tSW XT K W (exS Γ (.set i e)) D σ H) : tAsg (tW XT K W (evE Γ e)) (gName i) D σ H := by
  obtain ⟨fo, φ, ρ, st, hs, he, h⟩ := h
  unfold exS at h
  refine ⟨fo, φ, ρ, st, hs, he, (Go.of_bind h).imp fun w st1 φ1 H1 s1 q1 h1 v rv => ?_⟩
  exact (Go.run h1 q1) _ ((he.step s1).set rv)
theorem w_ife {c : Ex} {a b : Sms} {D : Ends} (h : tSW XT K W (exS Γ (.ife c a b)) D σ H) : tIfS (tT XT K W (evT Γ c)) (tSW XT K W (exSs Γ a)) (tSW XT K W (exSs Γ b)) D σ H := by
  obtain ⟨fo, φ, ρ, st, hs, he, h⟩ := h
  unfold exS at h
  refine ⟨fo, φ, ρ, st, hs, he, (Go.of_bind h).imp fun k st1 φ1 H1 s1 q1 h1 => ?_⟩
  cases k with
  | true => exact ⟨fo, φ1, ρ, st1, q1, he.step s1, h1⟩
  | false => exact ⟨fo, φ1, ρ, st1, q1, he.step s1, h1⟩
theorem w_one {s : Sm} {D : Ends} (h : tSW XT K W (exSs Γ (.cons s .nil)) D σ H) : tSW XT K W (exS Γ s) D σ H := by
  obtain ⟨fo, φ, ρ, st, hs, he, h⟩ := h
  refine ⟨fo, φ, ρ, st, hs, he, ?_⟩
  unfold exSs at h
  refine (Go.of_bind h).imp fun p st1 φ1 H1 s1 q1 h1 => ?_
  obtain ⟨fl, ρ'⟩ := p
  cases fl with
  | nx =>
    unfold exSs at h1
    exact Go.run (a := (Fl.nx, ρ')) (st := st1) h1 q1
  | rt w => exact Go.run (a := (Fl.rt w, ρ')) (st := st1) h1 q1
  | bk => exact Go.run (a := (Fl.bk, ρ')) (st := st1) h1 q1
  | ct => exact Go.run (a := (Fl.ct, ρ')) (st := st1) h1 q1
theorem w_nil {D : Ends} (h : tSW XT K W (exSs Γ .nil) D σ H) : tNext D σ H := by
  obtain ⟨fo, φ, ρ, st, hs, he, h⟩ := h
  unfold exSs at h
  exact (Go.run h hs) σ he
end
section
variable {W : WX}
theorem w_unp {is : List Nat} {e : Ex} {D : Ends} (h : tSW XT K W (exS Γ (.unp is e)) D σ H) : tAsg (tW XT K W (evE Γ e)) (gTup K is.length (gMany is)) D σ H := by
  obtain ⟨fo, φ, ρ, st, hs, he, h⟩ := h
  unfold exS at h
  refine ⟨fo, φ, ρ, st, hs, he, (Go.of_bind h).imp fun w st1 φ1 H1 s1 q1 h1 v rv => ?_⟩
  unfold unpW at h1
  dsimp only at h1
  split at h1
  · rename_i xs
    cases e1 : setMany is xs ρ with
    | none => rw [e1] at h1; exact False.elim h1
    | some ρ' =>
      rw [e1] at h1
      obtain ⟨a, vs, rfl, r, rr⟩ := Rep.sqT rv
      refine ⟨a, vs, rfl, r, by rw [← rr.length]; exact gMany_len e1, ?_⟩
      exact gMany_ok (all := is) e1 (fun i hi => hi) (he.step s1) rr fun σ' he' _ => (Go.run h1 q1) σ' he'
  · exact False.elim h1
theorem ps_unpW {is : List Nat} {e : Ex} {ts : List Expr} {k : Nat} {p pos : Pos} {y : Expr} (c : CxOk XT T Γ N X W sc) (fn : ∀ x, X.fn x = true) (ht : chkTgs N (isTg sc fun _ => true) is ts = true) (hy : chkE T N sc e y = true) (h1 : isTuple y = false) (h2 : isLC y = false) :
    PS X (.Assign [.Tuple ts k p] y pos) (tAsg (tW XT X.K W (evE Γ e)) (gTup X.K is.length (gMany is))) := by
  obtain ⟨k1, k2, k3⟩ := pgs_many (cell := fun _ => true) c.n c.nd c.scope (fun x _ => fn x) ht
  refine ps_asg (peS e c y hy) (pg_tup c.calm k1 k2 k3) (by show swapsWith y (some (.Tuple ts k p)) pos.line X.env = pure false; exact swaps_no h2 _ _ _) ?_ rfl
  cases y <;> first | rfl | cases h1
end
mutual
theorem psW : ∀ (s : Sm) {X : Cx} {W : WX} {sc : Scope} (c : CxOk XT T Γ N X W sc) (fn : ∀ x, X.fn x = true) (ps : Stmt), simS s = true → chkS T N sc s ps = true → PS X ps (tSW XT X.K W (exS Γ s))
  | .expr e, X, W, sc, c, fn, ps, _, h => by
    unfold chkS at h
    split at h <;> try (rename_i z; cases z)
    · simp only [Bool.and_eq_true, Bool.not_eq_true'] at h
      exact PS.weak (ps_expr (peS e c _ h.1) (swaps_no h.2 _ _ _)) fun D σ H h => w_expr h
    · cases h
  | .set i e, X, W, sc, c, fn, ps, hs, h => by
    cases e with
    | call f es =>
      unfold chkS at h
      split at h <;> try (rename_i z; cases z)
      · simp only [Bool.and_eq_true, decide_eq_true_eq] at h
        obtain ⟨l1, l2⟩ := isTg_loc h.1.2
        obtain ⟨x', p, xs, q, e, _⟩ := chk_call h.2
        subst e
        have hLC : isLC (.Call (.Name x' p) xs [] q) = false := rfl
        exact PS.weak (ps_set (i := i) c.nd (by rw [c.n]; exact h.1.1) (by rw [c.scope]; exact l1) (peS _ c _ h.2) (swaps_no hLC _ _ _) (.inl (fn _))) fun D σ H h => w_set h
      · cases h
    | _ => simp [simS] at hs
  | .ife d a b, X, W, sc, c, fn, ps, hs, h => by
    unfold chkS at h
    unfold simS at hs
    split at h <;> try (rename_i z; cases z)
    · simp only [Bool.and_eq_true] at h hs
      exact PS.weak (ps_if (ptS d c _ h.1.1) (pssW a c fn _ hs.1 h.1.2) (pssW b c fn _ hs.2 h.2)) fun D σ H h => w_ife h
    · cases h
  | .setL _ _, X, W, sc, c, fn, ps, hs, h => by simp [simS] at hs
  | .unp is e, X, W, sc, c, fn, ps, hs, h => by
    unfold chkS at h
    split at h <;> try (rename_i z; cases z)
    · simp only [Bool.and_eq_true, Bool.not_eq_true'] at h
      exact PS.weak (ps_unpW c fn h.1.1.1 h.1.1.2 h.1.2 h.2) fun D σ H h => w_unp h
    · cases h
  | .ret _, X, W, sc, c, fn, ps, hs, h => by simp [simS] at hs
  | .forS _ _ _, X, W, sc, c, fn, ps, hs, h => by simp [simS] at hs
  | .whl _ _, X, W, sc, c, fn, ps, hs, h => by simp [simS] at hs
  | .app _ _, X, W, sc, c, fn, ps, hs, h => by simp [simS] at hs
  | .brk, X, W, sc, c, fn, ps, hs, h => by simp [simS] at hs
  | .cnt, X, W, sc, c, fn, ps, hs, h => by simp [simS] at hs
  | .pass, X, W, sc, c, fn, ps, hs, h => by simp [simS] at hs
  | .never, X, W, sc, c, fn, ps, hs, h => by simp [simS] at hs
  | .rai _, X, W, sc, c, fn, ps, hs, h => by simp [simS] at hs
  | .tryN _ _, X, W, sc, c, fn, ps, hs, h => by simp [simS] at hs
  | .tryX _ _ _ _ _, X, W, sc, c, fn, ps, hs, h => by simp [simS] at hs
  | .tryR _ _ _, X, W, sc, c, fn, ps, hs, h => by simp [simS] at hs
  | .quo _, X, W, sc, c, fn, ps, hs, h => by simp [simS] at hs
theorem pssW : ∀ (s : Sms) {X : Cx} {W : WX} {sc : Scope} (c : CxOk XT T Γ N X W sc) (fn : ∀ x, X.fn x = true) (ps : List Stmt), simSs s = true → chkSs T N sc s ps = true → PSs X ps (tSW XT X.K W (exSs Γ s))
  | .nil, X, W, sc, c, fn, ps, _, h => by
    cases ps with
    | nil => exact PSs.weak pss_nil fun D σ H h => w_nil h
    | cons _ _ => unfold chkSs at h; cases h
  | .cons s .nil, X, W, sc, c, fn, ps, hs, h => by
    unfold simSs at hs
    simp only [Bool.and_eq_true] at hs
    cases ps with
    | nil => unfold chkSs at h; cases h
    | cons p ps =>
      unfold chkSs at h
      simp only [Bool.and_eq_true] at h
      cases ps with
      | nil => exact PSs.weak (pss_one (psW s c fn p hs.1 h.1)) fun D σ H h => w_one h
      | cons _ _ => have h2 := h.2; unfold chkSs at h2; cases h2
  | .cons s (.cons _ _), X, W, sc, c, fn, ps, hs, h => by simp [simSs] at hs
end
theorem kit_of {k c : Nat} {C D : Addr} (h : PySem.W.kitCls K (.ref C) (.ref D) = some (subB k c)) (h2 : C = D → subB k c = true) : PySem.W.kitOne K (.ref C) (.ref D) = some (subB k c) := by
  unfold PySem.W.kitOne
  split
  · rename_i e
    rw [h2 (Value.ref.inj (beq_iff_eq.mp e))]
  · exact h
theorem boot_ve : bootBuiltins ("ValueError" : Str) = some (.type "ValueError") := by decide +kernel
theorem ld_class {W : WX} {x : Str} {C : Addr} {pos : Pos} (c : CxOk XT T Γ N X W sc) (hg : isGl sc x = true) (hm : X.mg x = some (.ref C)) {a : Addr} {pn : List (Addr × Obj)} : PE (X.suite a pn) (.Name x pos) (tC (.ref C)) :=
  ⟨fun pins s σ H Q I h => ld_glob I (c.gl hg) hm ⟨.ref C, H, I, rfl, h⟩ (isGl_gl hg).2⟩
theorem pe_isX {W : WX} {i : Nat} {n z : Str} {C a : Addr} {oe : Obj} {pn : List (Addr × Obj)} {cv : V} {u : Value} {b : Bool} {p1 p2 p3 p4 : Pos} (c : CxOk XT T Γ N X W sc) (hi : N[i]? = some n) (hv : isVis sc n = true) (x8 : L2.ExcC X.K C) (hz : Zc (.ref C) none oe) (hf : ∃ vs, oe.data = .fields vs) (hg : isGl sc "isinstance" = true)
    (hT : PE (X.suite a ((a, oe) :: pn)) (.Name z p3) (tC cv)) (hcv : ∀ u', RelV cv u' → u' = u) (hk : PySem.W.kitOne X.K (.ref C) u = some b) :
    PE (X.suite a ((a, oe) :: pn)) (.Call (.Name "isinstance" p1) [.Name n p2, .Name z p3] [] p4) (fun σ H Q => σ[i]? = some (some (.ref a)) ∧ Q (.bl b) H) := by
  obtain ⟨v1, v2, v3⟩ := isVis_vis hv
  have hV : PE (X.suite a ((a, oe) :: pn)) (.Name n p2) (tVar i) := pe_var (i := i) (by show X.N[i]? = _; rw [c.n]; exact hi) (by show Vis X.env.scope n; rw [c.scope]; exact v1) v2 v3
  exact PE.weak (pe_callB (X := X.suite a ((a, oe) :: pn)) (call_isE x8 hz hf) (c.gl hg) (c.blt "isinstance" (by decide)) boot_isi (pa_cons hV (pa_cons hT pa_nil rfl) rfl) (by decide +kernel) (isGl_gl hg).2 rfl rfl) fun σ H Q h => ⟨.ref a, h.1, cv, u, b, rfl, hcv, hk, h.2⟩
theorem chkX_isi {n : Str} {o : Option Nat} {e : Expr} (h : chkX T sc n (.isi o) e = true) : ∃ p1 p2 z p3 p4, e = .Call (.Name "isinstance" p1) [.Name n p2, .Name z p3] [] p4 ∧ isGl sc "isinstance" = true ∧ isGl sc z = true ∧ ((o = none ∧ z = "ValueError") ∨ ∃ k, o = some k ∧ T.xcs[k]? = some (z, [])) := by
  unfold chkX at h
  split at h <;> rename_i z1 <;> first | (cases z1; done) | skip
  · cases z1
    simp only [Bool.and_eq_true, decide_eq_true_eq] at h
    obtain ⟨⟨⟨⟨rfl, h2⟩, rfl⟩, rfl⟩, h5⟩ := h
    exact ⟨_, _, _, _, _, rfl, h2, h5, .inl ⟨rfl, rfl⟩⟩
  · cases z1
    simp only [Bool.and_eq_true, decide_eq_true_eq] at h
    obtain ⟨⟨⟨⟨rfl, h2⟩, rfl⟩, h4⟩, h5⟩ := h
    exact ⟨_, _, _, _, _, rfl, h2, h5, .inr ⟨_, rfl, h4⟩⟩
  · cases h
theorem chkX_not {n : Str} {y : Xe} {e : Expr} (h : chkX T sc n (.not y) e = true) : ∃ f p, e = .UnaryOp .Not f p ∧ chkX T sc n y f = true := by
  unfold chkX at h
  split at h <;> rename_i z1 <;> first | (cases z1; done) | skip
  · cases z1
    exact ⟨_, _, rfl, h⟩
  · cases h
theorem chkX_and {n : Str} {y z : Xe} {e : Expr} (h : chkX T sc n (.and y z) e = true) : ∃ f g p, e = .BoolOp .And [f, g] p ∧ chkX T sc n y f = true ∧ chkX T sc n z g = true := by
  unfold chkX at h
  split at h <;> rename_i z1 <;> first | (cases z1; done) | skip
  · cases z1
    simp only [Bool.and_eq_true] at h
    exact ⟨_, _, _, rfl, h.1, h.2⟩
  · cases h
theorem pe_xe {W : WX} {k i : Nat} {n : Str} {C a : Addr} {oe : Obj} {pn : List (Addr × Obj)} (c : CxOk XT T Γ N X W sc) (hi : N[i]? = some n) (hv : isVis sc n = true) (x1 : XT.cls k = some (.ref C)) (x8 : XsOk XT X.K k C) (hz : Zc (.ref C) none oe) (hf : ∃ vs, oe.data = .fields vs) :
    ∀ (x : Xe) (e : Expr), chkX T sc n x e = true → PE (X.suite a ((a, oe) :: pn)) e (fun σ H Q => σ[i]? = some (some (.ref a)) ∧ Q (.bl (xeB k x)) H)
  | .isi o, e, h => by
    obtain ⟨p1, p2, z, p3, p4, rfl, g1, g2, hq⟩ := chkX_isi h
    rcases hq with ⟨rfl, rfl⟩ | ⟨k', rfl, hq⟩
    · exact pe_isX c hi hv x8.1 hz hf g1 (pe_bltn (X := X.suite a ((a, oe) :: pn)) (v := .ty "ValueError") (c.gl g2) (c.blt "ValueError" (by decide)) boot_ve rfl (by decide +kernel) (isGl_gl g2).2) (fun u' r => r) x8.2.1
    · obtain ⟨D, y1, y2, y3, y4, y5, y6, y7, y8⟩ := c.xc.1 _ _ hq
      refine pe_isX c hi hv x8.1 hz hf g1 (ld_class c g2 y3) (fun u' r => r) (kit_of (k := k) (c := k') (x8.2.2 k' D y1 y2) fun e => ?_)
      subst e
      have q1 := x8.2.2 k' C y1 y2
      have q2 := y8.2.2 k' C y1 y2
      rw [q1] at q2
      rw [Option.some.inj q2]
      unfold subB
      simp
  | .not y, e, h => by
    obtain ⟨f, p, rfl, h⟩ := chkX_not h
    exact PE.weak (pe_not (pe_xe c hi hv x1 x8 hz hf y f h)) fun σ H Q q => ⟨q.1, _, rfl, q.2⟩
  | .and y z, e, h => by
    obtain ⟨f, g, p, rfl, h1, h2⟩ := chkX_and h
    refine PE.weak (pe_and (pe_xe c hi hv x1 x8 hz hf y f h1) (pe_one (pe_xe c hi hv x1 x8 hz hf z g h2))) fun σ H Q q => ⟨q.1, _, rfl, ?_⟩
    have q2 := q.2
    unfold xeB at q2
    cases e : xeB k y with
    | true => rw [e, Bool.true_and] at q2; exact ⟨q.1, q2⟩
    | false => rw [e, Bool.false_and] at q2; exact q2
theorem pa_xs {W : WX} {k i : Nat} {n : Str} {C a : Addr} {oe : Obj} {pn : List (Addr × Obj)} (c : CxOk XT T Γ N X W sc) (hi : N[i]? = some n) (hv : isVis sc n = true) (x1 : XT.cls k = some (.ref C)) (x8 : XsOk XT X.K k C) (hz : Zc (.ref C) none oe) (hf : ∃ vs, oe.data = .fields vs) :
    ∀ (xs : List Xe) (es : List Expr), chkXs T sc n xs es = true → PA (X.suite a ((a, oe) :: pn)) es (fun σ H Q => σ[i]? = some (some (.ref a)) ∧ Q (xs.map fun x => V.bl (xeB k x)) H)
  | [], [], h => ⟨fun p pins s σ H Q I q => pa_nil.run p pins s σ H Q I q.2⟩
  | x :: xs, e :: es, h => by
    unfold chkXs at h
    simp only [Bool.and_eq_true] at h
    have h1 := pe_xe (a := a) (pn := pn) c hi hv x1 x8 hz hf x e h.1.1
    have h2 := pa_xs (a := a) (pn := pn) c hi hv x1 x8 hz hf xs es h.2
    exact ⟨fun p pins s σ H Q I q => (pa_cons h1 h2 (plainE_star h.1.2 _ _)).run p pins s σ H Q I ⟨q.1, q.1, q.2⟩⟩
  | [], _ :: _, h => by unfold chkXs at h; cases h
  | _ :: _, [], h => by unfold chkXs at h; cases h
/-- the suite's reading -/
def tsX (XT : Xt) (K : PySem.W.Frag) (i j : Nat) (xs : List Xe) (a : Addr) (cls : Value) (d : Option Addr) : TS := fun D σ H => ∃ k C, cls = .ref C ∧ d = none ∧ XT.cls k = some (.ref C) ∧ XsOk XT K k C ∧ σ[i]? = some (some (.ref a)) ∧ xs.length ≤ sizeLine ∧
  ∀ t, H t = none → D.nx (σ.set j (some (.ref t))) (upd H t (.tup (xs.map fun x => V.bl (xeB k x))))
theorem ps_suiteX {i j : Nat} {xs : List Xe} {n y : Str} {a : Addr} {oe : Obj} {cls : Value} {d : Option Addr} {pn : List (Addr × Obj)} {es : List Expr} {k : Nat} {p1 p2 p3 : Pos} (c : SxOk XT T Γ N X E sc) (hi : N[i]? = some n) (hv : isVis sc n = true) (hj : N[j]? = some y) (hy : isTg sc (fun _ => true) y = true)
    (hx : chkXs T sc n xs es = true) (hz : Zc cls d oe) (hf : ∃ vs, oe.data = .fields vs) : PSs (X.suite a ((a, oe) :: pn)) [.Assign [.Name y p1] (.Tuple es k p2) p3] (tsX XT X.K i j xs a cls d) := by
  refine ⟨fun pins s σ H D I q => ?_⟩
  obtain ⟨k', C, rfl, rfl, x1, x8, q1, q2, q3⟩ := q
  obtain ⟨l1, l2⟩ := isTg_loc hy
  have hE := pe_tup (x1 := k) (pos := p2) (pa_xs (a := a) (pn := pn) c.cx hi hv x1 x8 hz hf xs es hx)
  refine (pss_one (ps_set (X := X.suite a ((a, oe) :: pn)) (i := j) (pos' := p1) (pos := p3) c.cx.nd (by show X.N[j]? = _; rw [c.cx.n]; exact hj) (by show Loc X.env.scope y; rw [c.cx.scope]; exact l1) hE rfl (.inl (c.fn y)))).run pins s σ H D I ?_
  exact ⟨q1, by rw [List.length_map]; exact q2, q3⟩
theorem EnvOk.wipeAt {i : Nat} {ρ : Ev} {σ2 : L2.St} (h : EnvOk K fo φ H ρ σ) (hl : σ2.length = σ.length) (ha : ∀ m, m ≠ i → σ2[m]? = σ[m]?) : EnvOk K fo φ H (ρ.set i none) σ2 := by
  refine ⟨by rw [List.length_set, h.len, hl], fun m w e => ?_⟩
  by_cases hm : m = i
  · subst hm
    rw [List.getElem?_set] at e
    simp only [if_true] at e
    split at e <;> cases e
  · rw [List.getElem?_set_ne (Ne.symm hm)] at e
    obtain ⟨v, e1, r⟩ := h.at_ m w e
    exact ⟨v, by rw [ha m hm]; exact e1, r⟩
theorem repL_bls : ∀ (bs : List Bool) {av : List Addr}, RepL K av H (bs.map Dt.bl) (bs.map V.bl)
  | [], _ => .nil
  | b :: bs, _ => .cons (.bl b) (repL_bls bs)
theorem s_tryX {c k i j : Nat} {xs : List Xe} {b : Sms} {D : Ends} {C : Addr} (hxc : ∀ (k : Nat) (C : Value), XT.cls k = some C → XT.flds k = [] → ∃ A, C = .ref A ∧ XsOk XT K k A) (x1 : XT.cls c = some (.ref C)) (x2 : XT.flds c = []) (x6 : PySem.W.subIn K (.ref C) (.type "BaseException") = some true)
    (h : tS XT K E (exS Γ (.tryX c b i j xs)) D σ H) : tSW XT K (wAs K (.ref C) i (tsX XT K i j xs) (WEE E) D) (exSs Γ b) D σ H := by
  obtain ⟨fo, φ, ρ, st, hs, he, h⟩ := h
  refine ⟨fo, φ, ρ, st, hs, he, ?_⟩
  unfold exS at h
  cases e : exSs Γ b ρ st with
  | ok p => rw [e] at h; exact h
  | bad => rw [e] at h; exact h
  | exc k' fs sx =>
    rw [e] at h
    unfold tryW at h
    dsimp only at h
    split at h
    case isFalse => exact h.elim
    rename_i hh
    obtain ⟨g1, rfl, g3, g4, g5⟩ := hh
    intro φ' H' s' q' cls d xr
    obtain ⟨e1, e2, e3⟩ := xr
    have hfl : XT.flds k' = [] := List.length_eq_zero_iff.mp e2.symm
    obtain ⟨A, rfl, x8⟩ := hxc k' cls e1 hfl
    have hd : d = none := by
      rcases e3 with ⟨_, e⟩ | ⟨e, _⟩
      · exact e
      · exact absurd rfl e
    subst hd
    have hex : PySem.W.exmOne K (.ref A) (.ref C) = some true := by
      unfold PySem.W.exmOne
      rw [x6]
      have := x8.2.2 c C x1 x2
      rw [g1] at this
      simpa using this
    refine ⟨true, hex, fun _ a ha => ?_, fun z => by cases z⟩
    refine ⟨k', A, rfl, rfl, e1, x8, ?_, by rw [← lim_eq]; exact g5, fun t ht => ?_⟩
    · have : i < σ.length := by rw [← he.len]; exact g4
      simp [this]
    · have sm : Same H' (upd H' t (.tup (xs.map fun x => V.bl (xeB k' x)))) := same_new ht
      have rb : RepL K (fo ++ φ') H' (xs.map fun x => Dt.bl (xeB k' x)) (xs.map fun x => V.bl (xeB k' x)) := by
        have := repL_bls (K := K) (H := H') (xs.map (xeB k')) (av := fo ++ φ')
        rwa [List.map_map, List.map_map] at this
      have rt := rep_newT (K := K) q'.trk ht rb
      have en : EnvOk K fo φ' (upd H' t (.tup (xs.map fun x => V.bl (xeB k' x)))) (ρ.set j (some (.d (.tup (xs.map fun x => .bl (xeB k' x)))))) (σ.set j (some (.ref t))) := ((he.step s').step (Step.same sm)).set rt
      refine h φ' _ (s'.trans (Step.same sm)) (q'.same sm) _ (en.wipeAt (by simp) fun m hm => ?_)
      rw [List.getElem?_set_ne (Ne.symm hm)]
      by_cases hmj : m = j
      · subst hmj
        simp [List.getElem?_set]
      · rw [List.getElem?_set_ne (Ne.symm hmj), List.getElem?_set_ne (Ne.symm hm), List.getElem?_set_ne (Ne.symm hmj)]
theorem ps_unpE {is : List Nat} {e : Ex} {ts : List Expr} {k : Nat} {p pos : Pos} {y : Expr} (c : SxOk XT T Γ N X E sc) (ht : chkTgs N (isTg sc fun _ => true) is ts = true) (hy : chkE T N sc e y = true) (h1 : isTuple y = false) (h2 : isLC y = false) :
    PS X (.Assign [.Tuple ts k p] y pos) (tAsg (tW XT X.K (WEE E) (evE Γ e)) (gTup X.K is.length (gMany is))) := by
  obtain ⟨k1, k2, k3⟩ := pgs_many (cell := fun _ => true) c.cx.n c.cx.nd c.cx.scope (fun x _ => c.fn x) ht
  refine ps_asg (peS e c.cx y hy) (pg_tup c.cx.calm k1 k2 k3) (by show swapsWith y (some (.Tuple ts k p)) pos.line X.env = pure false; exact swaps_no h2 _ _ _) ?_ rfl
  cases y <;> first | rfl | cases h1
theorem takesL {nn : Bool} (h : TakesB nn X W) (e : nn = false) : L2.Takes X W := by subst e; exact h
section
variable {W : WX} {C : Addr}
/-- an exception of the program's own made in a suite -/
theorem pmk5_own {x m : Str} {j : Nat} {p p2 pos : Pos} {bm : List Value} {Bn newId initId : String} (F : ExcBaseFacts Bn newId initId bm) (q : PySem.W.excIn X.K C bm newId = true) (gC : X.mg x = some (.ref C)) (kC : PySem.W.keepIn X.K (.ref C) = true) (r : Raises X (.ref C)) (hg : Gl X x)
    (hdb : (x == ("__debug__" : Str)) = false) : L2H.PMk5 X (.Call (.Name x p) [.Constant (.str m) j p2] [] pos) (fun _ H Q => Q (.ref C) none H) := by
  intro pins s σ H Q I fin
  refine wpAny_Call_Name_kw (ld_glob I hg gC ?_ hdb)
  have args : PA X [.Constant (.str m) j p2] (tCons (tC (.str m)) tNil) := pa_cons pe_str pa_nil
  refine PySem.W.callWith_K (h₀ := X.base) I.ok.mod.kin kC (thn (args.run pos pins s σ H (fun vs H1 => vs = [V.str m] ∧ H = H1) I ⟨rfl, rfl⟩) fun us s1 hh => ?_)
  obtain ⟨vs, H1, J, r1, e1, e2⟩ := hh
  subst e1
  subst e2
  refine ⟨J.kIn, ?_⟩
  cases r1 with
  | cons ru rn =>
    rename_i u us'
    cases rn
    show wpAny _ _ (call (.ref C) [u]) _ _ _
    obtain ⟨bm', N', nm, qn, bs, hdct, sn, sub, ab, col, dd, k0, k1, k2, k3, k5, mN, hC, hN, hni, TT⟩ := exc_obj J.kIn q
    refine wpAny_call_exc_subT F TT hC hN hni (fun h' e hm => ?_) (by show 1 ≤ sizeLine; rw [sizeLine_eq]; omega)
    exact L2H.mk_of5 J hm r fin (J.hok.gone hm.new)
theorem ps_raiB {nn : Bool} {x m : Str} {j : Nat} {p p2 p3 pos : Pos} {bm : List Value} {Bn newId initId : String} (hc : X.calm = true) (tk : TakesB nn X W) (F : ExcBaseFacts Bn newId initId bm) (q : PySem.W.excIn X.K C bm newId = true) (gC : X.mg x = some (.ref C)) (kC : PySem.W.keepIn X.K (.ref C) = true) (r : Raises X (.ref C)) (hg : Gl X x)
    (hdb : (x == ("__debug__" : Str)) = false) : PS X (.Raise (some (.Call (.Name x p) [.Constant (.str m) j p2] [] p3)) none pos) (fun _ σ H => W (.ref C) none σ H) := by
  cases nn with
  | true => exact L2N.ps_raise hc tk (L2N.pmk_own F q gC kC r hg hdb)
  | false => exact L2.ps_raise hc tk (L2.pmk_own F q gC kC r hg hdb)
theorem s_tryR {c k : Nat} {b : Sms} {D : Ends} {C C2 : Addr} (hxc : ∀ (k : Nat) (C : Value), XT.cls k = some C → XT.flds k = [] → ∃ A, C = .ref A ∧ XsOk XT K k A) (x1 : XT.cls c = some (.ref C)) (x2 : XT.flds c = []) (x6 : PySem.W.subIn K (.ref C) (.type "BaseException") = some true)
    (y1 : XT.cls k = some (.ref C2)) (y2 : XT.flds k = []) (h : tS XT K E (exS Γ (.tryR c k b)) D σ H) : tSW XT K (wOnly K (.ref C) (fun _ _ _ _ _ H' => E (.ref C2) none H') (WEE E) D) (exSs Γ b) D σ H := by
  obtain ⟨fo, φ, ρ, st, hs, he, h⟩ := h
  refine ⟨fo, φ, ρ, st, hs, he, ?_⟩
  unfold exS at h
  cases e : exSs Γ b ρ st with
  | ok p => rw [e] at h; exact h
  | bad => rw [e] at h; exact h
  | exc k' fs sx =>
    rw [e] at h
    unfold tryRW at h
    dsimp only at h
    split at h
    case isFalse => exact h.elim
    rename_i hh
    obtain ⟨g1, rfl⟩ := hh
    intro φ' H' s' q' cls d xr
    obtain ⟨e1, e2, e3⟩ := xr
    have hfl : XT.flds k' = [] := List.length_eq_zero_iff.mp e2.symm
    obtain ⟨A, rfl, x8⟩ := hxc k' cls e1 hfl
    have hex : PySem.W.exmOne K (.ref A) (.ref C) = some true := by
      unfold PySem.W.exmOne
      rw [x6]
      have := x8.2.2 c C x1 x2
      rw [g1] at this
      simpa using this
    exact ⟨true, hex, fun _ a ha => h φ' H' s' q' (.ref C2) none ⟨y1, by rw [y2]; rfl, .inl ⟨rfl, rfl⟩⟩, fun z => by cases z⟩
end
mutual
theorem psS : ∀ (s : Sm) {X : Cx} {E : XK} {sc : Scope} (c : SxOk XT T Γ N X E sc) (ps : Stmt), chkS T N sc s ps = true → PS X ps (tS XT X.K E (exS Γ s))
  | .set i e, X, E, sc, c, ps, h => by
    unfold chkS at h
    split at h <;> try (rename_i z; cases z)
    · simp only [Bool.and_eq_true, decide_eq_true_eq] at h
      exact PS.weak (ps_any c h.1.1 h.1.2 h.2) fun D σ H h => s_set h
    · cases h
  | .setL i e, X, E, sc, c, ps, h => by
    unfold chkS at h
    split at h <;> try (rename_i z; cases z)
    · simp only [Bool.and_eq_true, decide_eq_true_eq] at h
      exact PS.weak (ps_freshX c h.1.1.1 h.1.1.2 h.1.2 h.2) fun D σ H h => s_setL h
    · cases h
  | .unp is e, X, E, sc, c, ps, h => by
    unfold chkS at h
    split at h <;> try (rename_i z; cases z)
    · simp only [Bool.and_eq_true, Bool.not_eq_true'] at h
      exact PS.weak (ps_unpE c h.1.1.1 h.1.1.2 h.1.2 h.2) fun D σ H h => s_unp h
    · cases h
  | .ret e, X, E, sc, c, ps, h => by
    unfold chkS at h
    split at h <;> try (rename_i z; cases z)
    · exact PS.weak (ps_ret (peS e c.cx _ h)) fun D σ H h => s_ret h
    · cases h
  | .ife d a b, X, E, sc, c, ps, h => by
    unfold chkS at h
    split at h <;> try (rename_i z; cases z)
    · simp only [Bool.and_eq_true] at h
      exact PS.weak (ps_if (ptS d c.cx _ h.1.1) (pssS a c _ h.1.2) (pssS b c _ h.2)) fun D σ H h => s_ife h
    · cases h
  | .forS tg it b, X, E, sc, c, ps, h => by
    unfold chkS at h
    split at h <;> try (rename_i z; cases z)
    · simp only [Bool.and_eq_true] at h
      obtain ⟨⟨⟨⟨h1, h2⟩, h3⟩, h4⟩, h5⟩ := h
      exact PS.weak (ps_for c.own c.cx.calm (piS it c.cx _ _ h2 h1) (pg_tg (cell := fun _ => true) c.cx.n c.cx.nd c.cx.scope (fun x _ => c.fn x) c.cx.calm h4) (pssS b c _ h5) (walkE_set h3 _)) fun D σ H h => s_for h
    · cases h
  | .whl d b, X, E, sc, c, ps, h => by
    unfold chkS at h
    split at h <;> try (rename_i z; cases z)
    · simp only [Bool.and_eq_true] at h
      exact PS.weak (ps_while c.own (ptS d c.cx _ h.1) (pssS b c _ h.2)) fun D σ H h => s_whl h
    · cases h
  | .app i e, X, E, sc, c, ps, h => by
    unfold chkS at h
    split at h <;> try (rename_i z; cases z)
    · simp only [Bool.and_eq_true, decide_eq_true_eq] at h
      obtain ⟨⟨⟨⟨⟨h1, h2⟩, h3⟩, h4⟩, h5⟩, h6⟩ := h
      subst h1
      obtain ⟨v1, v2, v3⟩ := isVis_vis h4
      have hv := fun pp : Pos => pe_var (X := X) (pos := pp) (i := i) (by rw [c.cx.n]; exact h3) (by rw [c.cx.scope]; exact v1) v2 v3
      refine PS.weak (ps_expr (pe_bm PySem.F.plainAttrs_list PySem.F.slot_list_append PySem.F.type_list_append mt_append (hv _) (pa_one (peS e c.cx _ h5) h6) rfl ?_ h2 (plainE_star h6 _ _) rfl) rfl) fun D σ H h => s_app h
      rw [plainE_star h6]
      rfl
    · cases h
  | .expr e, X, E, sc, c, ps, h => by
    unfold chkS at h
    split at h <;> try (rename_i z; cases z)
    · simp only [Bool.and_eq_true, Bool.not_eq_true'] at h
      exact PS.weak (ps_expr (peS e c.cx _ h.1) (swaps_no h.2 _ _ _)) fun D σ H h => s_expr h
    · cases h
  | .brk, X, E, sc, c, ps, h => by
    unfold chkS at h
    split at h <;> try (rename_i z; cases z)
    · refine PS.weak ps_break fun D σ H h => ?_
      obtain ⟨fo, φ, ρ, st, hs, he, h⟩ := h
      unfold exS at h
      exact (Go.run h hs) σ he
    · cases h
  | .cnt, X, E, sc, c, ps, h => by
    unfold chkS at h
    split at h <;> try (rename_i z; cases z)
    · refine PS.weak ps_continue fun D σ H h => ?_
      obtain ⟨fo, φ, ρ, st, hs, he, h⟩ := h
      unfold exS at h
      exact (Go.run h hs) σ he
    · cases h
  | .pass, X, E, sc, c, ps, h => by
    unfold chkS at h
    split at h <;> try (rename_i z; cases z)
    · refine PS.weak ps_pass fun D σ H h => ?_
      obtain ⟨fo, φ, ρ, st, hs, he, h⟩ := h
      unfold exS at h
      exact (Go.run h hs) σ he
    · cases h
  | .tryN k b, X, E, sc, c, ps, h => by
    unfold chkS at h
    split at h <;> try (rename_i z; cases z)
    · simp only [Bool.and_eq_true, Bool.not_eq_true', decide_eq_true_eq] at h
      obtain ⟨⟨⟨⟨h1, h2⟩, h3⟩, h4⟩, hch⟩ := h
      obtain ⟨C, x1, x2, x3, x4, x5, x6, x7, x8⟩ := c.cx.xc.1 _ _ h1
      obtain ⟨g1, g2⟩ := isGl_gl h2
      have en : XT.nn = false := c.cx.tn.symm.trans h4
      refine PS.weak (ps_try_only (c := .ref C) (Wout := WEE E) (tb := fun W => tSW XT X.K (fun _ _ _ _ => False) (exSs Γ b)) (ts := fun _ _ _ _ _ _ => False) c.stk c.frm ⟨by show X.env.scope.names.lookup _ = _; rw [c.cx.scope]; exact g1, g2, .inl x3⟩ (takesL c.cx.takes en) (fun W pn xe tk po => ?_) (fun a oe cls d pn _ _ => ⟨fun pins s σ H D I q => q.elim⟩)) fun D σ H h => ?_
      · exact pssW b (X := X.tr pn xe) ⟨c.cx.n, c.cx.nd, c.cx.scope, c.cx.calm, c.cx.units, takesB0, c.cx.tn, c.cx.glob, c.cx.blt, c.cx.xc, c.cx.fn, c.cx.fnN⟩ c.fn _ h3 hch
      · obtain ⟨fo, φ, ρ, st, hs, he, h⟩ := h
        refine ⟨fo, φ, ρ, st, hs, he, ?_⟩
        unfold exS at h
        cases e : exSs Γ b ρ st with
        | ok p => rw [e] at h; exact h
        | exc c fs sx => rw [e] at h; exact False.elim h
        | bad => rw [e] at h; exact False.elim h
    · cases h
  | .tryR k k2 b, X, E, sc, c, ps, h => by
    unfold chkS at h
    split at h <;> try (rename_i z; cases z)
    · simp only [Bool.and_eq_true, Bool.not_eq_true', decide_eq_true_eq] at h
      obtain ⟨⟨⟨⟨⟨⟨h0, h1⟩, h2⟩, h3⟩, h4⟩, h5⟩, h6⟩ := h
      obtain ⟨C, x1, x2, x3, x4, x5, x6, x7, x8⟩ := c.cx.xc.1 _ _ h1
      obtain ⟨C2, y1, y2, y3, y4, y5, y6, y7, y8⟩ := c.cx.xc.1 _ _ h3
      obtain ⟨g1, g2⟩ := isGl_gl h2
      obtain ⟨g3, g4⟩ := isGl_gl h4
      have en : XT.nn = false := c.cx.tn.symm.trans h0
      have cxN : ∀ (W : WX) (pn : List (Addr × Obj)) (xe : Value → Shared → Prop), L2N.Takes (X.tr pn xe) W → CxOk { XT with nn := true } { T with nn := true } Γ N (X.tr pn xe) W sc := fun W pn xe tk =>
        ⟨c.cx.n, c.cx.nd, c.cx.scope, c.cx.calm, c.cx.units, tk, rfl, c.cx.glob, c.cx.blt, c.cx.xc, fun f x n hf hcl => c.cx.fnN h0 f x n hf (hcl rfl), fun z => by cases z⟩
      refine PS.weak (L2H.ps_try_onlyX (c := .ref C) (Wout := WEE E) (tb := fun W => tSW XT X.K W (exSs Γ b)) (ts := fun _ _ _ _ _ H' => E (.ref C2) none H') c.stk c.frm ⟨by show X.env.scope.names.lookup _ = _; rw [c.cx.scope]; exact g1, g2, .inl x3⟩ c.ownAt (takesL c.cx.takes en)
        (fun W pn xe tk _ _ => pssW b (cxN W pn xe tk) c.fn _ h5 h6) (fun a oe cls d pn hz hf tkS hot => ?_)) fun D σ H h => s_tryR (k := k2) c.cx.xc.2 x1 x2 x6 y1 y2 h
      exact pss_one (PS.weak (L2H.ps_raiseHN hot tkS (pmk5_own (X := L2H.suiteX X a ((a, oe) :: pn)) PySem.F.excBase_ValueError y4 y3 y5 (raises_own y6 y7) (by show X.env.scope.names.lookup _ = _; rw [c.cx.scope]; exact g3) g4)) fun D σ H q => q)
    · cases h
  | .tryX k b i j xs, X, E, sc, c, ps, h => by
    unfold chkS at h
    split at h <;> try (rename_i z; cases z)
    · rename_i x _ n y _ es _ _ _ _ _
      simp only [Bool.and_eq_true, decide_eq_true_eq] at h
      obtain ⟨⟨⟨⟨⟨⟨⟨⟨⟨⟨h1, h2⟩, h3⟩, h4⟩, h5⟩, h6⟩, h7⟩, h8⟩, h9⟩, h10⟩, h11⟩ := h
      have en : XT.nn = false := c.cx.tn.symm.trans (by simpa using h11)
      obtain ⟨C, x1, x2, x3, x4, x5, x6, x7, x8⟩ := c.cx.xc.1 _ _ h1
      obtain ⟨g1, g2⟩ := isGl_gl h2
      have hln : X.env.kindOf n = some .local := by
        show X.env.scope.names.lookup n = _
        rw [c.cx.scope]
        split at h4
        · assumption
        · cases h4
      refine PS.weak (ps_try_as (c := .ref C) (i := i) (Wout := WEE E) (tb := fun W => tSW XT X.K W (exSs Γ b)) (ts := tsX XT X.K i j xs) c.stk c.frm c.cx.nd (by rw [c.cx.n]; exact h3) hln ⟨by show X.env.scope.names.lookup _ = _; rw [c.cx.scope]; exact g1, g2, .inl x3⟩ (takesL c.cx.takes en) (fun W pn xe tk po => ?_) (fun a oe cls d pn hz hf => ps_suiteX c h3 h5 h6 h7 h10 hz hf)) fun D σ H h => s_tryX (k := k) c.cx.xc.2 x1 x2 x6 h
      exact pssW b (X := X.tr pn xe) ⟨c.cx.n, c.cx.nd, c.cx.scope, c.cx.calm, c.cx.units, (by rw [en]; exact tk), c.cx.tn, c.cx.glob, c.cx.blt, c.cx.xc, c.cx.fn, c.cx.fnN⟩ c.fn _ h8 h9
    · cases h
  | .rai k, X, E, sc, c, ps, h => by
    unfold chkS at h
    split at h <;> try (rename_i z; cases z)
    · simp only [Bool.and_eq_true, decide_eq_true_eq] at h
      obtain ⟨C, x1, x2, x3, x4, x5, x6, x7, x8⟩ := c.cx.xc.1 _ _ h.1
      obtain ⟨g1, g2⟩ := isGl_gl h.2
      refine PS.weak (ps_raiB c.cx.calm c.cx.takes PySem.F.excBase_ValueError x4 x3 x5 (raises_own x6 x7) (by show X.env.scope.names.lookup _ = _; rw [c.cx.scope]; exact g1) g2) fun D σ H h => ?_
      obtain ⟨fo, φ, ρ, st, hs, he, h⟩ := h
      unfold exS at h
      exact h φ H .refl hs (.ref C) none ⟨x1, by rw [x2]; rfl, .inl ⟨rfl, rfl⟩⟩
    · cases h
  | .never, X, E, sc, c, ps, h => PS.weak ps_never fun D σ H h => by
      obtain ⟨fo, φ, ρ, st, hs, he, h⟩ := h
      unfold exS at h
      exact h
  | .quo i, X, E, sc, c, ps, h => by
    unfold chkS at h
    cases h
theorem pssS : ∀ (s : Sms) {X : Cx} {E : XK} {sc : Scope} (c : SxOk XT T Γ N X E sc) (ps : List Stmt), chkSs T N sc s ps = true → PSs X ps (tS XT X.K E (exSs Γ s))
  | .nil, X, E, sc, c, ps, h => by
    cases ps with
    | nil => exact PSs.weak pss_nil fun D σ H h => s_nil h
    | cons _ _ => unfold chkSs at h; cases h
  | .cons s r, X, E, sc, c, ps, h => by
    cases ps with
    | nil => unfold chkSs at h; cases h
    | cons p ps =>
      unfold chkSs at h
      simp only [Bool.and_eq_true] at h
      exact PSs.weak (pss_cons (psS s c p h.1) (pssS r c ps h.2)) fun D σ H h => s_seq h
end
end
end PB

set_option Elab.async false
set_option linter.all false
set_option maxRecDepth 100000
set_option maxHeartbeats 4000000
set_option backward.match.sparseCases false
/-! Defs keep their meaning; the law's end. -/
namespace PB
open PySem PySem.Spec PyProof.Rows L2
/-! #### the def that quotes -/
theorem sub_join (c : Nat) (z : List Nat) : ∀ s : List Nat, joinL z (splitC c s) = subC c z s
  | [] => rfl
  | x :: xs => by
    have ih := sub_join c z xs
    rw [splitC, subC]
    by_cases h : x = c
    · rw [if_pos h, if_pos h]
      cases e : splitC c xs with
      | nil =>
        exfalso
        cases xs with
        | nil => simp [splitC] at e
        | cons y ys =>
          rw [splitC] at e
          split at e
          · cases e
          · split at e <;> cases e
      | cons p ps =>
        rw [e] at ih
        rw [joinL, ih]
        rfl
    · rw [if_neg h, if_neg h]
      cases e : splitC c xs with
      | nil =>
        rw [e] at ih
        rw [← ih]
        rfl
      | cons p ps =>
        rw [e] at ih
        show joinL z ((x :: p) :: ps) = [x] ++ subC c z xs
        rw [← ih]
        cases ps with
        | nil => rfl
        | cons q r => rw [joinL, joinL]; simp
theorem repl_toS (s z : List Nat) (c : Nat) : Txt.replace (toS s) (toS [c]) (toS z) = toS (subC c z s) := by
  have h := StrLaws.replace_one (toS s) (toS z) c
  have e0 : (⟨#[c]⟩ : Str) = toS [c] := rfl
  rw [e0, split_toS] at h
  rw [h]
  have h2 := join_codes (toS z) ((splitC c s).map toS)
  rw [List.map_map] at h2
  have e2 : ((fun q : Str => q.cps.toList) ∘ toS) = id := by funext q; simp [toS]
  rw [e2, List.map_id, toS_cps, sub_join] at h2
  have : ∀ x : Str, x = toS x.cps.toList := fun x => by cases x; simp [toS]
  rw [this (Str.join (toS z) ((splitC c s).map toS)), h2]
theorem subC_len (c : Nat) (z : List Nat) (hz : z.length ≤ 2) : ∀ s : List Nat, (subC c z s).length ≤ 2 * s.length
  | [] => by simp [subC]
  | x :: xs => by
    have := subC_len c z hz xs
    rw [subC, List.length_append, List.length_cons]
    split
    · omega
    · simp; omega
theorem subC_mem (c : Nat) (z : List Nat) : ∀ (s : List Nat) (x : Nat), x ∈ subC c z s → x ∈ z ∨ x ∈ s
  | [], x, h => by simp [subC] at h
  | y :: ys, x, h => by
    rw [subC] at h
    rcases List.mem_append.mp h with h | h
    · split at h
      · exact .inl h
      · exact .inr (by rw [List.mem_singleton.mp h]; exact List.mem_cons_self)
    · rcases subC_mem c z ys x h with h | h
      · exact .inl h
      · exact .inr (List.mem_cons_of_mem _ h)
def quoSt (sc : Scope) : List Stmt → Bool
  | [.Assign [.Name x _] (.Call (.Attribute (.Call (.Attribute (.Name t _) r1 a1) [.Constant (.str y1) _ _, .Constant (.str z1) _ _] [] c1) r2 a2) [.Constant (.str y2) _ _, .Constant (.str z2) _ _] [] c2) _,
     .Return (some (.BinOp (.BinOp (.Constant (.str q1) _ _) .Add (.Name x2 _) _) .Add (.Constant (.str q2) _ _) _)) _] =>
    decide (x = "inner") && decide (t = "text") && decide (x2 = "inner") && decide (r1 = "replace") && decide (r2 = "replace") && decide (y1 = toS [92]) && decide (z1 = toS [92, 92]) && decide (y2 = toS [34]) && decide (z2 = toS [92, 34]) && decide (q1 = toS [34]) && decide (q2 = toS [34]) &&
      (a1.endLine == c1.line) && (a2.endLine == c2.line) && isVis sc "text" && isVis sc "inner" && isTg sc (fun _ => true) "inner" && sc.names.all (fun y => match y.2 with | .cell => false | _ => true)
  | _ => false
section
variable {X : Cx}
theorem pst_set {i : Nat} {x : Str} {e : Expr} {te : TE} {pos' pos : Pos} (hN : X.N.Nodup) (hi : X.N[i]? = some x) (hx : Loc X.env.scope x) (he : PET X e te) (hs : swapsWith e (some (.Name x pos')) pos.line X.env = pure false := by rfl) (hf : X.fn x = true) :
    PST X (.Assign [.Name x pos'] e pos) (tAsg te (gName i)) := fun pins s σ H D h0 I h =>
  wpAny_Assign_Name (thn (he pins s σ H _ h0 I h) fun v s1 ⟨y, H1, I1, r1, q1⟩ => store_ok I1 hN hi hx r1 (fun s2 I2 => ⟨_, H1, I2, q1⟩) (.inl hf)) hs
end
/-- a def of the text, as the top has left it, and its own form -/
def DefIs (K : PySem.W.Frag) (mg : Str → Option Value) (T : Tb) (tab : List Fn) (f : Nat) (x : Str) (np : Nat) (a : Addr) (fd : FuncData) (ps : List Str) : Prop :=
  ∃ (st : Stmt) (qual : Str) (N : List Str) (F : Fn), Fun K x qual st a fd ∧ FnScope N ps (defScope st) ∧ mg x = some (.ref a) ∧ (∀ us : List Value, us.length = ps.length → bindArgs fd ⟨us, []⟩ = pure (ps.zip us)) ∧ ps.length = np ∧ tab[f]? = some F ∧ F.np = np ∧ F.ns = N.length ∧
    (chkSs T N (defScope st) F.body (defBody st) = true ∨ (F.body = .cons (.quo 0) .nil ∧ N = ([("text" : Str), ("inner" : Str)]) ∧ np = 1 ∧ quoSt (defScope st) (defBody st) = true))
section
variable {XT : Xt} {T : Tb} {P : Program} {w : World} {K : PySem.W.Frag} {mg : Str → Option Value} {base : Heap} {tab : List Fn} {gl : List Dt}
theorem start_ok {fo φ : List Addr} {H : Hp} : ∀ {ds : List Dt} {vs : List V} (n : Nat), RepL K (fo ++ φ) H ds vs → EnvOk K (fo ++ φ) [] H (ds.map (fun x => some (Wv.d x)) ++ List.replicate n none) (vs.map some ++ List.replicate n none) := by
  intro ds vs n r
  refine ⟨by simp [r.length], fun i w e => ?_⟩
  rw [List.getElem?_append] at e
  split at e
  · rename_i hi
    rw [List.length_map] at hi
    rw [List.getElem?_map] at e
    obtain ⟨x, hx⟩ := get_lt hi
    rw [hx] at e
    cases e
    obtain ⟨v, hv, rv⟩ := r.get hx
    refine ⟨v, ?_, ?_⟩
    · rw [List.getElem?_append_left (by rw [List.length_map, ← r.length]; exact hi), List.getElem?_map, hv]
      rfl
    · show Rep K ((fo ++ φ) ++ []) H x v
      rw [List.append_nil]
      exact rv
  · have := List.mem_of_getElem? e
    rw [List.mem_replicate] at this
    cases this.2
theorem paired_len2 {α β : Type} {R : α → β → Prop} {xs : List α} {ys : List β} (h : Paired R xs ys) : xs.length = ys.length := Paired.length h
theorem sp_len {np : Nat} {ps : List Str} (hp : ps.length = np) {call : List Wv → Sr → Rs (Wv × Sr)} : ∀ vs H Q E, spF XT K np call vs H Q E → vs.length = ps.length := fun vs H Q E h => by
  obtain ⟨fo, φ, st, ws, _, r, hl, _⟩ := h
  rw [hp, ← hl]
  exact (Paired.length r).symm
theorem RepL.fewer {av av' : List Addr} {H : Hp} {xs : List Dt} {vs : List V} (h : ∀ a ∈ av', a ∈ av) (r : RepL K av H xs vs) : RepL K av' H xs vs := RepL.keep (Keeps.fewer h) r
theorem Rep.fewer {av av' : List Addr} {H : Hp} {x : Dt} {v : V} (h : ∀ a ∈ av', a ∈ av) (r : Rep K av H x v) : Rep K av' H x v := Rep.keep (Keeps.fewer h) r
/-- a def's body, read by the own meaning, keeps the def's promise -/
theorem body_read {n f np : Nat} {F : Fn} {N : List Str} {vs : List V} {H : Hp} {Q : VK} {E : XK} (hF : tab[f]? = some F) (hnp : F.np = np) (hns : F.ns = N.length)
    (h : spF XT K np (callW (runP tab gl (n + 1)) f) vs H Q E) : tS XT K E (exSs ⟨callW (runP tab gl n), gl⟩ F.body) { nx := fun _ H' => Q .non H', rt := Q } (L2.start N vs) H := by
  obtain ⟨fo, φ, st, ws, hs, r, hl, h⟩ := h
  unfold callW at h
  cases e : mapD ws with
  | none => rw [e] at h; exact False.elim h
  | some ds =>
    rw [e] at h
    simp only [Rs.ofO_some, Rs.bind_ok] at h
    have rd := mapD_rep r e
    have hlen : ds.length = np := by
      rw [rd.length, ← hl]
      exact (Paired.length r).symm
    have hrun : runP tab gl (n + 1) f ds = (exSs ⟨callW (runP tab gl n), gl⟩ F.body (startE F.ns ds) []).bind endD := by
      rw [runP, hF]
      simp only
      rw [if_pos (by rw [hlen, hnp])]
    rw [hrun] at h
    have hs0 : Sok K (fo ++ φ) [] H [] := ⟨rfl, List.nodup_nil, hs.trk, fun a ha => (List.not_mem_nil ha).elim, fun n a xs e => by simp at e⟩
    have he0 : EnvOk K (fo ++ φ) [] H (startE F.ns ds) (L2.start N vs) := by
      unfold startE L2.start
      rw [hns, show N.length - ds.length = N.length - vs.length by rw [rd.length]]
      exact start_ok _ rd
    -- the caller's store behind the callee
    have back : ∀ {φ2 : List Addr} {H2 : Hp}, Step [] H φ2 H2 → Same H H2 := fun s a o e => (s.keep a o (by simp) e).1
    have sub : ∀ {φ2 : List Addr}, ∀ a ∈ fo ++ φ, a ∈ (fo ++ φ) ++ φ2 := fun a ha => List.mem_append_left _ ha
    refine ⟨fo ++ φ, [], startE F.ns ds, [], hs0, he0, ?_⟩
    cases ex : exSs ⟨callW (runP tab gl n), gl⟩ F.body (startE F.ns ds) [] with
    | bad => rw [ex] at h; exact False.elim h
    | exc c fs sx =>
      rw [ex] at h
      intro φ2 H2 s2 q2 cls d hx
      have sm := back s2
      refine h φ H2 (Step.same sm) (hs.same sm) cls d ?_
      obtain ⟨x1, x2, x3⟩ := hx
      refine ⟨x1, x2, ?_⟩
      rcases x3 with x3 | ⟨y0, a, vs, y1, y2, y3, y4⟩
      · exact .inl x3
      · exact .inr ⟨y0, a, vs, y1, fun z => y2 (sub a z), y3, RepL.fewer sub y4⟩
    | ok p =>
      obtain ⟨⟨fl, ρ'⟩, st'⟩ := p
      rw [ex] at h
      simp only [Rs.bind_ok] at h
      intro φ2 H2 s2 q2 σ' he'
      have sm := back s2
      have fin : ∀ d v, endD ((fl, ρ'), st') = .ok d → Rep K (fo ++ φ) H2 d v → Q v H2 := fun d v e2 rv => by
        rw [e2] at h
        exact h φ H2 (Step.same sm) (hs.same sm) v rv
      cases fl with
      | nx => exact fin .non .non rfl .non
      | bk => exact False.elim h
      | ct => exact False.elim h
      | rt w =>
        intro v rv
        cases w with
        | d x => exact fin x v rfl (Rep.fewer sub rv)
        | ob m =>
          obtain ⟨a, ea, rfl⟩ := rv
          cases e3 : st'[m]? with
          | none =>
            have : endD ((Fl.rt (.ob m), ρ'), st') = .bad := by unfold endD; simp only [e3]
            rw [this] at h; exact False.elim h
          | some o =>
            cases o with
            | lst xs =>
              obtain ⟨us, h3, r3⟩ := q2.ob m a xs ea e3
              refine fin (.lst xs) (.ref a) (by unfold endD; simp only [e3]) (.lst (q2.dj a (List.mem_of_getElem? ea)) (.inl h3) (RepL.fewer sub r3))
theorem quo_ok {CX : CXT} {n f np : Nat} {x qual : Str} {st : Stmt} {a : Addr} {fd : FuncData} {N ps : List Str} {F : Fn} (hf : Fun K x qual st a fd) (S : FnScope N ps (defScope st)) (hp : ps.length = np) (ht : tab[f]? = some F) (hnp : F.np = np) (hns : F.ns = N.length)
    (hc : F.body = .cons (.quo 0) .nil ∧ N = ([("text" : Str), ("inner" : Str)]) ∧ np = 1 ∧ quoSt (defScope st) (defBody st) = true) : FnOk P w K mg base CX (n + 1) a fd ps (spF XT K np (callW (runP tab gl (n + 1)) f)) := by
  obtain ⟨hb, hN, h1, hq⟩ := hc
  obtain ⟨⟨oc, od, kV, doc, pm, an, cdv, ct, osl, rfl, lk, hcd⟩, kp⟩ := hf
  have hps : 1 ≤ ps.length := by omega
  unfold quoSt at hq
  split at hq
  · rename_i x1 _ t1 _ r1 a1 y1 _ _ z1 _ _ c1 r2 a2 y2 _ _ z2 _ _ c2 _ q1 _ _ x2 _ _ q2 _ _ _ _ hbody
    simp only [Bool.and_eq_true, decide_eq_true_eq, List.all_eq_true] at hq
    obtain ⟨⟨⟨⟨⟨⟨⟨⟨⟨⟨⟨⟨⟨⟨⟨⟨rfl, rfl⟩, rfl⟩, rfl⟩, rfl⟩, rfl⟩, rfl⟩, rfl⟩, rfl⟩, rfl⟩, rfl⟩, l1⟩, l2⟩, v1⟩, v2⟩, g1⟩, nc⟩ := hq
    obtain ⟨w1, w2, w3⟩ := isVis_vis v1
    obtain ⟨u1, u2, u3⟩ := isVis_vis v2
    obtain ⟨k1, _⟩ := isTg_loc g1
    refine fn_ofT lk hcd S (fun y hy e => ?_) hps (sp_len hp) fun A outer s H vs Q E hr hsp => ?_
    · have := nc y hy
      rw [e] at this
      cases this
    · have hread := body_read ht hnp hns hsp
      rw [hb] at hread
      generalize hX : cxOf CX P w K mg base N qual (defScope st) a cdv A outer s H E = X
      have XN : X.N = N := by rw [← hX]; rfl
      have Xsc : X.env.scope = defScope st := by rw [← hX]; rfl
      have Xfn : ∀ y, X.fn y = true := fun y => by rw [← hX]; rfl
      have hv0 : ∀ p : Pos, PE X (.Name "text" p) (tVar 0) := fun p => pe_var (i := 0) (x := "text") (by rw [XN, hN]; rfl) (by rw [Xsc]; exact w1) w2 w3
      have hv1 : ∀ p : Pos, PE X (.Name "inner" p) (tVar 1) := fun p => pe_var (i := 1) (x := "inner") (by rw [XN, hN]; rfl) (by rw [Xsc]; exact u1) u2 u3
      rw [hbody]
      refine ⟨_, psst_cons (pst_set (X := X) (i := 1) (x := "inner") (by rw [XN]; exact S.nd) (by rw [XN, hN]; rfl) (by rw [Xsc]; exact k1) (CwR.pet_replT (CwR.pet_replC (hv0 _) (by decide +kernel) rfl rfl l1) (by decide +kernel) rfl rfl l2) rfl (Xfn _)) (CwR.psst_one (CwR.pst_ret (X := X) (CwR.pet_op op_add_str (CwR.pet_op op_add_str (CwR.PET.of pe_str) (CwR.PET.of (hv1 _))) (CwR.PET.of pe_str)))), ?_⟩
      obtain ⟨fo, φ, ρ, st0, hs, he, h⟩ := hread
      have hx : exSs ⟨callW (runP tab gl n), gl⟩ (.cons (.quo 0) .nil) ρ st0 = quoW ρ[0]? ρ st0 := by
        unfold exSs exS quoW
        split
        · split <;> rfl
        · rfl
      rw [hx] at h
      unfold quoW at h
      split at h
      · rename_i s0 e0
        split at h
        · rename_i hl
          obtain ⟨v, ev, rv⟩ := he.at_ 0 _ e0
          obtain ⟨rfl, ho⟩ := vstr (Rep.view rv)
          have n1 := subC_len 92 [92, 92] (by decide) s0
          have n2 := subC_len 34 [92, 34] (by decide) (subC 92 [92, 92] s0)
          have hslen : 2 ≤ (L2.start N vs).length := by rw [← he.len]; have := (List.getElem?_eq_some_iff.mp e0).1; rw [he.len]; unfold L2.start; rw [hN]; simp; omega
          refine ⟨_, ev, toS s0, rfl, by rw [toS_len, toS_len]; show s0.length + (s0.length + 1) * 2 ≤ 16777216; omega, ?_⟩
          rw [repl_toS]
          refine ⟨_, rfl, by rw [toS_len, toS_len]; show (subC 92 [92, 92] s0).length + ((subC 92 [92, 92] s0).length + 1) * 2 ≤ 16777216; omega, ?_⟩
          rw [repl_toS]
          refine ⟨.str (toS (subC 34 [92, 34] (subC 92 [92, 92] s0))), by rw [List.getElem?_set_self (by omega)], _, _, rfl, rfl, ?_, _, _, rfl, rfl, ?_, ?_⟩
          · rw [toS_len, toS_len, sizeLine_eq]
            show 1 + _ ≤ _
            omega
          · rw [toS_append, toS_len, toS_len, sizeLine_eq, List.length_append]
            show 1 + _ + 1 ≤ _
            omega
          · rw [toS_append, toS_append]
            refine (Go.run h hs) _ he _ (show Rep K (fo ++ φ) H (.str (quoL s0)) _ from .str _ ⟨?_, fun c hc => ?_⟩)
            · unfold quoL
              rw [List.length_cons, List.length_append]
              show _ + 1 + 1 ≤ 16777216
              omega
            · unfold quoL at hc
              rcases List.mem_cons.mp hc with rfl | hc
              · decide
              · rcases List.mem_append.mp hc with hc | hc
                · rcases subC_mem _ _ _ _ hc with hc | hc
                  · simp only [List.mem_cons, List.not_mem_nil, or_false] at hc
                    rcases hc with rfl | rfl <;> decide
                  · rcases subC_mem _ _ _ _ hc with hc | hc
                    · simp only [List.mem_cons, List.not_mem_nil, or_false] at hc
                      rcases hc with rfl | rfl <;> decide
                    · exact ho.2 c hc
                · rw [List.mem_singleton.mp hc]; decide
        · exact False.elim h
      · exact False.elim h
  · cases hq
theorem takesB_of {nn : Bool} {N : List Str} {qual : Str} {sc : Scope} {a : Addr} {cdv : Value} {A : Around} {outer : List Env} {s : Shared} {H : Hp} {E : XK} : TakesB nn (cxOf (CXB nn P w) P w K mg base N qual sc a cdv A outer s H E) (WEE E) := by
  cases nn with
  | true => exact L2N.takes_of rfl rfl rfl rfl
  | false => exact L2.takes_of rfl rfl rfl rfl
theorem fn_ok (tn : T.nn = XT.nn) (FN : T.nn = false → ∀ (n f : Nat) (x : Str) (np : Nat), T.fns[f]? = some (x, np) → f ∈ T.cln → ∃ a fd ps, FnOk P w K mg base (L2N.CX P w) n a fd ps (spF XT K np (callW (runP tab gl n) f)) ∧ mg x = some (.ref a) ∧ PySem.W.keepIn K (.ref a) = true ∧ Binds K fd ps [] ∧ ps.length = np) (D : ∀ f x np, T.fns[f]? = some (x, np) → (T.nn = true → f ∈ T.cln) → ∃ a fd ps, DefIs K mg T tab f x np a fd ps) (G : ∀ (k : Nat) (x : Str), T.gls[k]? = some x → ∃ (d : Dt) (v : V) (u : Value), gl[k]? = some d ∧ mg x = some u ∧ RelV v u ∧ ∀ av H, Rep K av H d v)
    (B : ∀ x ∈ bltNames, mg (Str.ofString x) = none) (XX : (∀ (c : Nat) (x : Str), T.xcs[c]? = some (x, []) → XcOk XT K mg c x) ∧ ∀ (k : Nat) (C : Value), XT.cls k = some C → XT.flds k = [] → ∃ A, C = .ref A ∧ XsOk XT K k A) : ∀ (n f : Nat) (x : Str) (np : Nat) (a : Addr) (fd : FuncData) (ps : List Str), DefIs K mg T tab f x np a fd ps →
    FnOk P w K mg base (CXB XT.nn P w) n a fd ps (spF XT K np (callW (runP tab gl n) f)) := by
  intro n
  induction n with
  | zero =>
    intro f x np a fd ps ⟨st, qual, N, F, hf, S, hm, hb, hp, _⟩
    refine ⟨sp_len hp, fun A outer s H args us vs Q E _ _ _ _ hsp => ?_⟩
    exfalso
    obtain ⟨fo, φ, st, ws, hs, r, hl, h⟩ := hsp
    unfold callW at h
    cases e : mapD ws with
    | none => rw [e] at h; exact h
    | some ds => rw [e] at h; exact h
  | succ n ih =>
    intro f x np a fd ps ⟨st, qual, N, F, hf, S, hm, hb, hp, ht, hnp, hns, hc⟩
    rcases hc with hc | hc
    case inr => exact quo_ok hf S hp ht hnp hns hc
    obtain ⟨oc, od, kV, doc, pm, an, cdv, ct, osl, rfl, lk, hcd⟩ := hf.ex
    refine fn_of lk hcd S (sp_len hp) (fun A outer s H vs Q E hr hsp => ?_)
    have cx : CxOk XT T ⟨callW (runP tab gl n), gl⟩ N (cxOf (CXB XT.nn P w) P w K mg base N qual (defScope st) a cdv A outer s H E) (WEE E) (defScope st) := by
      refine ⟨rfl, S.nd, rfl, rfl, ?_, takesB_of, tn, G, B, XX, fun f' x' n' h' hcl => ?_, fun z f' x' n' h' hcl => ?_⟩
      · have := hr.un
        show (A.deeper _).units + 65 < cLine
        omega
      · obtain ⟨a', fd', ps', hd⟩ := D f' x' n' h' hcl
        have h1 := ih f' x' n' a' fd' ps' hd
        obtain ⟨_, _, _, _, k1, _, k3, k4, k5, _⟩ := hd
        exact ⟨n, a', fd', ps', h1, hr, k3, k1.kp, .all k4, k5⟩
      · obtain ⟨a', fd', ps', k1, k2, k3, k4, k5⟩ := FN z n f' x' n' h' hcl
        exact ⟨n, a', fd', ps', k1, hr, k2, k3, k4, k5⟩
    have sx : SxOk XT T ⟨callW (runP tab gl n), gl⟩ N (cxOf (CXB XT.nn P w) P w K mg base N qual (defScope st) a cdv A outer s H E) E (defScope st) := ⟨cx, S.kind, fun _ => rfl, passes_of rfl, rfl, rfl, fun hd => L2H.passesAt_of rfl hd⟩
    exact ⟨_, pssS F.body sx (defBody st) hc, body_read ht hnp hns hsp⟩
end
section
variable {T : Tb} {K : PySem.W.Frag} {mg : Str → Option Value} {tab : List Fn} {gl : List Dt}
/-- the defs that raise no exception with a context -/
def AllCln (K : PySem.W.Frag) (mg : Str → Option Value) (T : Tb) (tab : List Fn) : List Nat → Prop
  | [] => True
  | f :: r => (∀ x np, T.fns[f]? = some (x, np) → ∃ a fd ps, DefIs K mg T tab f x np a fd ps) ∧ AllCln K mg T tab r
theorem AllCln.get : ∀ {L : List Nat}, AllCln K mg T tab L → ∀ f x np, T.fns[f]? = some (x, np) → f ∈ L → ∃ a fd ps, DefIs K mg T tab f x np a fd ps
  | [], _, f, x, np, _, h => by cases h
  | g :: r, a, f, x, np, e, h => by
    rcases List.mem_cons.mp h with rfl | h
    · exact a.1 x np e
    · exact AllCln.get a.2 f x np e h
def AllDefs (K : PySem.W.Frag) (mg : Str → Option Value) (T : Tb) (tab : List Fn) : Nat → List (Str × Nat) → Prop
  | _, [] => True
  | i, (x, np) :: r => (∃ a fd ps, DefIs K mg T tab i x np a fd ps) ∧ AllDefs K mg T tab (i + 1) r
theorem AllDefs.get0 : ∀ {L : List (Str × Nat)} {i : Nat}, AllDefs K mg T tab i L → ∀ (f : Nat) (x : Str) (np : Nat), L[f]? = some (x, np) → ∃ a fd ps, DefIs K mg T tab (i + f) x np a fd ps
  | [], _, _, f, x, np, e => by simp at e
  | (y, m) :: r, i, h, 0, x, np, e => by
    simp at e
    obtain ⟨rfl, rfl⟩ := e
    exact h.1
  | (y, m) :: r, i, h, f + 1, x, np, e => by
    have := AllDefs.get0 h.2 f x np (by simpa using e)
    rw [show i + (f + 1) = i + 1 + f by omega]
    exact this
theorem AllDefs.get {L : List (Str × Nat)} (h : AllDefs K mg T tab 0 L) : ∀ (f : Nat) (x : Str) (np : Nat), L[f]? = some (x, np) → ∃ a fd ps, DefIs K mg T tab f x np a fd ps := fun f x np e => by
  have := AllDefs.get0 h f x np e
  rwa [Nat.zero_add] at this
def AllGl (K : PySem.W.Frag) (mg : Str → Option Value) (gl : List Dt) : Nat → List Str → Prop
  | _, [] => True
  | i, x :: r => (∃ (d : Dt) (v : V) (u : Value), gl[i]? = some d ∧ mg x = some u ∧ RelV v u ∧ ∀ av H, Rep K av H d v) ∧ AllGl K mg gl (i + 1) r
theorem AllGl.get0 : ∀ {L : List Str} {i : Nat}, AllGl K mg gl i L → ∀ (k : Nat) (x : Str), L[k]? = some x → ∃ (d : Dt) (v : V) (u : Value), gl[i + k]? = some d ∧ mg x = some u ∧ RelV v u ∧ ∀ av H, Rep K av H d v
  | [], _, _, f, x, e => by simp at e
  | y :: r, i, h, 0, x, e => by
    simp at e
    subst e
    exact h.1
  | y :: r, i, h, f + 1, x, e => by
    have := AllGl.get0 h.2 f x (by simpa using e)
    rw [show i + (f + 1) = i + 1 + f by omega]
    exact this
theorem AllGl.get {L : List Str} (h : AllGl K mg gl 0 L) : ∀ (k : Nat) (x : Str), L[k]? = some x → ∃ (d : Dt) (v : V) (u : Value), gl[k]? = some d ∧ mg x = some u ∧ RelV v u ∧ ∀ av H, Rep K av H d v := fun k x e => by
  have := AllGl.get0 h k x e
  rwa [Nat.zero_add] at this
def AllBlt (mg : Str → Option Value) : List String → Prop
  | [] => True
  | x :: r => mg (Str.ofString x) = none ∧ AllBlt mg r
theorem AllBlt.get : ∀ {L : List String}, AllBlt mg L → ∀ x ∈ L, mg (Str.ofString x) = none
  | y :: r, h, x, hx => by
    rcases List.mem_cons.mp hx with rfl | hx
    · exact h.1
    · exact AllBlt.get h.2 x hx
theorem rep_lit {s : List Nat} {x : Str} {av : List Addr} {H : Hp} (h : x = toS s) (ho : (decide (s.length ≤ lim) && s.all fun c => decide (c < 1114112)) = true) : Rep K av H (.str s) (.str x) := by
  subst h
  simp only [Bool.and_eq_true, decide_eq_true_eq, List.all_eq_true] at ho
  exact .str s ho
end
def AllXc (XT : Xt) (K : PySem.W.Frag) (mg : Str → Option Value) : Nat → List (Str × List Str) → Prop
  | _, [] => True
  | i, (x, []) :: r => XcOk XT K mg i x ∧ AllXc XT K mg (i + 1) r
  | i, _ :: r => AllXc XT K mg (i + 1) r
theorem AllXc.get0 {XT : Xt} {K : PySem.W.Frag} {mg : Str → Option Value} : ∀ {L : List (Str × List Str)} {i : Nat}, AllXc XT K mg i L → ∀ (c : Nat) (x : Str), L[c]? = some (x, []) → XcOk XT K mg (i + c) x
  | [], _, _, c, x, e => by simp at e
  | (y, []) :: r, i, h, 0, x, e => by
    simp at e
    subst e
    exact h.1
  | (y, _ :: _) :: r, i, h, 0, x, e => by simp at e
  | (y, []) :: r, i, h, c + 1, x, e => by
    have := AllXc.get0 (i := i + 1) h.2 c x (by simpa using e)
    rw [show i + (c + 1) = i + 1 + c by omega]
    exact this
  | (y, z :: q) :: r, i, h, c + 1, x, e => by
    have h' : AllXc XT K mg (i + 1) r := h
    have := AllXc.get0 h' c x (by simpa using e)
    rw [show i + (c + 1) = i + 1 + c by omega]
    exact this
theorem AllXc.get {XT : Xt} {K : PySem.W.Frag} {mg : Str → Option Value} {L : List (Str × List Str)} (h : AllXc XT K mg 0 L) : ∀ (c : Nat) (x : Str), L[c]? = some (x, []) → XcOk XT K mg c x := fun c x e => by
  have := AllXc.get0 h c x e
  rwa [Nat.zero_add] at this
theorem kit_sub {K : PySem.W.Frag} {C D : Addr} {b : Bool} (h1 : PySem.W.subIn K (.ref D) (.type "BaseException") = some true) (h2 : PySem.W.hasDictIn K D = true) (h3 : PySem.W.typeIn K (.ref D) = some (.type "type")) (h4 : PySem.W.subIn K (.ref C) (.ref D) = some b) : PySem.W.kitCls K (.ref C) (.ref D) = some b := by
  have h := PySem.W.exm_ref (cls := .ref C) h1 h2 h3 h4
  unfold PySem.W.exmOne at h
  rw [h1] at h
  simpa using h
theorem kit_ve {K : PySem.W.Frag} {C : Addr} (h : PySem.W.subIn K (.ref C) (.type "ValueError") = some true) : PySem.W.kitOne K (.ref C) (.type "ValueError") = some true := by
  have h0 : PySem.W.kitMeta "ValueError" = true := by decide +kernel
  unfold PySem.W.kitOne
  split
  · rfl
  · show (if PySem.W.kitMeta "ValueError" = true then PySem.W.subIn K (.ref C) (.type "ValueError") else none) = some true
    rw [if_pos h0]; exact h
/-- the class at C beside the others -/
def AllKit (K : PySem.W.Frag) (c : Nat) (C : Addr) : Nat → List (Str × List Str) → Prop
  | _, [] => True
  | i, (y, []) :: r => (∀ D, PySem.W.nsIn K mainGlobals y = some (some (.ref D)) → PySem.W.kitCls K (.ref C) (.ref D) = some (subB c i)) ∧ AllKit K c C (i + 1) r
  | i, _ :: r => AllKit K c C (i + 1) r
theorem AllKit.get0 {K : PySem.W.Frag} {c : Nat} {C D : Addr} : ∀ {L : List (Str × List Str)} {i : Nat}, AllKit K c C i L → ∀ (k : Nat) (x : Str), L[k]? = some (x, []) → PySem.W.nsIn K mainGlobals x = some (some (.ref D)) → PySem.W.kitCls K (.ref C) (.ref D) = some (subB c (i + k))
  | [], _, _, k, x, e, _ => by simp at e
  | (y, []) :: r, i, h, 0, x, e, hd => by
    simp at e
    subst e
    exact h.1 D hd
  | (y, _ :: _) :: r, i, h, 0, x, e, _ => by simp at e
  | (y, []) :: r, i, h, k + 1, x, e, hd => by
    have := AllKit.get0 (i := i + 1) h.2 k x (by simpa using e) hd
    rw [show i + (k + 1) = i + 1 + k by omega]
    exact this
  | (y, z :: q) :: r, i, h, k + 1, x, e, hd => by
    have h' : AllKit K c C (i + 1) r := h
    have := AllKit.get0 h' k x (by simpa using e) hd
    rw [show i + (k + 1) = i + 1 + k by omega]
    exact this
theorem xtK_inv {K : PySem.W.Frag} {L : List (Str × List Str)} {k : Nat} {C : Value} (e1 : (xtK K L).cls k = some C) (e2 : (xtK K L).flds k = []) : ∃ x, L[k]? = some (x, []) ∧ PySem.W.nsIn K mainGlobals x = some (some C) := by
  have e1' : (match L[k]? with | some p => (PySem.W.nsIn K mainGlobals p.1).join | none => none) = some C := e1
  have e2' : (match L[k]? with | some p => p.2 | none => []) = [] := e2
  cases h : L[k]? with
  | none => rw [h] at e1'; cases e1'
  | some p =>
    rw [h] at e1' e2'
    obtain ⟨x, q⟩ := p
    dsimp only at e1' e2'
    subst e2'
    refine ⟨x, rfl, ?_⟩
    cases hn : PySem.W.nsIn K mainGlobals x with
    | none => rw [hn] at e1'; cases e1'
    | some o =>
      rw [hn] at e1'
      cases o with
      | none => cases e1'
      | some v => cases e1'; rfl
theorem AllKit.get {K : PySem.W.Frag} {c : Nat} {C : Addr} {L : List (Str × List Str)} (h : AllKit K c C 0 L) (k : Nat) (D : Addr) (e1 : (xtK K L).cls k = some (.ref D)) (e2 : (xtK K L).flds k = []) : PySem.W.kitCls K (.ref C) (.ref D) = some (subB c k) := by
  obtain ⟨x, h1, h2⟩ := xtK_inv e1 e2
  have := AllKit.get0 h k x h1 h2
  rwa [Nat.zero_add] at this
theorem xcOk_mk {K : PySem.W.Frag} {mg : Str → Option Value} {h : Heap} {L : List (Str × List Str)} {c : Nat} {x : Str} {C : Addr} (X : K.In h) (G : h.Ns mainGlobals mg) (hc : L[c]? = some (x, [])) (n : PySem.W.nsIn K mainGlobals x = some (some (.ref C))) (h1 : PySem.W.excIn K C bmVE "ValueError.__new__" = true)
    (h2 : PySem.W.keepIn K (.ref C) = true) (h3 : PySem.W.subIn K (.ref C) (.type "BaseException") = some true) (h4 : PySem.W.typeIn K (.ref C) = some (.type "type")) (h5 : L2.ExcC K C) (h6 : PySem.W.kitOne K (.ref C) (.type "ValueError") = some true) (h7 : AllKit K c C 0 L) : XcOk (xtK K L) K mg c x := by
  refine ⟨C, ?_, ?_, PySem.W.mg_of X G n, h1, h2, h3, h4, h5, h6, fun k D e1 e2 => h7.get k D e1 e2⟩
  · show (match L[c]? with | some p => (PySem.W.nsIn K mainGlobals p.1).join | none => none) = _
    rw [hc]
    show (PySem.W.nsIn K mainGlobals x).join = _
    rw [n]; rfl
  · show (match L[c]? with | some p => p.2 | none => []) = _
    rw [hc]
/-- the walk: from the law's own meaning to the row -/
theorem walk_law {l : PySem.W.OpenLaw} {q : Program} {loose : List Str} {XP : (Str → Option Value) → Heap → Prop} {YP : World → Heap → Prop} {d : DefRec} {K : Params → PySem.W.Frag} (T : Tb) (tab : List Fn) (gl : List Dt) (n fL : Nat)
    (hnn : T.nn = false) (hn : l.most = some 63) (hdf : d.params.defaults = []) (hr : Room n callerA) (hY : ∀ (w : World) (h : Heap), YP w h → (K w.params).In h)
    (F : ∀ (w : World) (mg : Str → Option Value) (fa : Addr) (h : Heap), (K w.params).In h → h.Ns mainGlobals mg → mg d.name = some (.ref fa) →
      (∀ f x np, T.fns[f]? = some (x, np) → ∃ a fd ps, DefIs (K w.params) mg T tab f x np a fd ps) ∧ (∃ fd, DefIs (K w.params) mg T tab fL d.name 1 fa fd ["script"]) ∧
      (∀ (k : Nat) (x : Str), T.gls[k]? = some x → ∃ (d : Dt) (v : V) (u : Value), gl[k]? = some d ∧ mg x = some u ∧ RelV v u ∧ ∀ av H, Rep (K w.params) av H d v) ∧
      (∀ x ∈ bltNames, mg (Str.ofString x) = none) ∧ (∀ (c : Nat) (x : Str), T.xcs[c]? = some (x, []) → XcOk (xtK (K w.params) T.xcs) (K w.params) mg c x) ∧ AllCln (K w.params) mg { T with nn := true } tab T.cln)
    (hlaw : ∀ ns : List Int, ns.length ≤ 63 → runP tab gl n fL [.scr ns] = .ok (.bl true)) :
    PySem.W.WalkO q loose XP YP l.row.toRowW d [] (fun f vs => PySem.call f vs) := by
  refine L2.walk_of (n := 63) (k := n) (x := "script") (CX := fun w => L2.CX l.prog w) (sp := fun w => spF (xtK (K w.params) T.xcs) (K w.params) 1 (callW (runP tab gl n) fL)) hn (by decide) hdf hr hY (fun w mg fa h KX Gm hm => ?_) (fun w H a ns hl hO hS => ?_) ?_
  · obtain ⟨D, ⟨fd, hd⟩, G, B, XX, CL⟩ := F w mg fa h KX Gm hm
    have XX' : (∀ (c : Nat) (x : Str), T.xcs[c]? = some (x, []) → XcOk (xtK (K w.params) T.xcs) (K w.params) mg c x) ∧ ∀ (k : Nat) (C : Value), (xtK (K w.params) T.xcs).cls k = some C → (xtK (K w.params) T.xcs).flds k = [] → ∃ A, C = .ref A ∧ XsOk (xtK (K w.params) T.xcs) (K w.params) k A := ⟨XX, fun k C e1 e2 => by
      obtain ⟨x, h1, h2⟩ := xtK_inv e1 e2
      obtain ⟨A, y1, _, _, _, _, _, _, y8⟩ := XX k x h1
      rw [e1] at y1
      cases y1
      exact ⟨A, rfl, y8⟩⟩
    refine ⟨fd, fun s u => ?_, fun base _ _ => fn_ok (XT := xtK (K w.params) T.xcs) hnn (fun _ m f x np e hcl => ?_) (fun f x np e _ => D f x np e) G B XX' n fL d.name 1 fa fd ["script"] hd⟩
    rotate_left
    · obtain ⟨a', fd', ps', hd'⟩ := CL.get f x np e hcl
      have N := fn_ok (P := l.prog) (w := w) (base := base) (XT := { xtK (K w.params) T.xcs with nn := true }) (T := { T with nn := true }) rfl (fun z => by cases z) (fun f x np e h => CL.get f x np e (h rfl)) G B XX' m f x np a' fd' ps' hd'
      obtain ⟨_, _, _, _, k1, _, k3, k4, k5, _⟩ := hd'
      exact ⟨a', fd', ps', N, k3, k1.kp, .all k4, k5⟩
    obtain ⟨_, _, _, _, _, _, _, k4, _⟩ := hd
    exact .of_eq (k4 [u] rfl)
  · have rs : Rep (K w.params) ([] ++ []) H (.scr ns) (.ref a) := .scr (by
      rcases hS with h | h
      · exact .inl ⟨by simp, h⟩
      · exact .inr h)
    refine ⟨[], [], [], [.d (.scr ns)], ⟨rfl, List.nodup_nil, fun a ha => (List.not_mem_nil ha).elim, fun a ha => (List.not_mem_nil ha).elim, fun n a xs e => by simp at e⟩, .cons rs .nil, rfl, ?_⟩
    have : callW (runP tab gl n) fL [.d (.scr ns)] [] = .ok (.d (.bl true), []) := by
      unfold callW
      simp only [mapD, Option.map_some, Rs.ofO_some, Rs.bind_ok, hlaw ns hl]
    rw [this]
    intro φ' H' _ _ v rv
    cases (show Rep (K w.params) ([] ++ φ') H' (.bl true) v from rv)
    rfl
  · intro w H s e s' z
    obtain ⟨_, _, _, _, _, _, _, _, _, _, _, _, z⟩ := z
    exact z
end PB

set_option Elab.async false
set_option linter.all false
set_option maxRecDepth 100000
set_option maxHeartbeats 4000000
set_option backward.match.sparseCases false
/-! Reckoning with the own meaning. -/
namespace PB
open PySem
section
variable {Γ : Gam} {ρ : Ev} {st : Sr}
def lookW : Option (Option Wv) → Sr → Rs (Wv × Sr)
  | some (some w), st => .ok (w, st)
  | _, _ => .bad
@[simp] theorem lookW_some (w : Wv) : lookW (some (some w)) st = .ok (w, st) := rfl
@[simp] theorem evE_v (i : Nat) : evE Γ (.v i) ρ st = lookW ρ[i]? st := by
  rw [evE]
  rcases ρ[i]? with _ | (_ | w) <;> rfl
@[simp] theorem evE_non : evE Γ .non ρ st = .ok (.d .non, st) := by rw [evE]
@[simp] theorem evE_bl (b : Bool) : evE Γ (.bl b) ρ st = .ok (.d (.bl b), st) := by rw [evE]
@[simp] theorem evE_int (i : Int) : evE Γ (.int i) ρ st = .ok (.d (.int i), st) := by rw [evE]
@[simp] theorem evE_str (s : List Nat) : evE Γ (.str s) ρ st = .ok (.d (.str s), st) := by rw [evE]
def globW : Option Dt → Sr → Rs (Wv × Sr)
  | some x, st => .ok (.d x, st)
  | none, _ => .bad
@[simp] theorem globW_some (x : Dt) : globW (some x) st = .ok (.d x, st) := rfl
@[simp] theorem evE_g (k : Nat) : evE Γ (.g k) ρ st = globW Γ.glob[k]? st := by
  rw [evE]
  rcases Γ.glob[k]? with _ | w <;> rfl
@[simp] theorem evE_bin (o : Bop) (a b : Ex) : evE Γ (.bin o a b) ρ st = (evE Γ a ρ st).bind fun p => (evE Γ b ρ p.2).bind fun q => op2 (bopD o) p.1 q := by rw [evE]
@[simp] theorem evE_neg (a : Ex) : evE Γ (.neg a) ρ st = (evE Γ a ρ st).bind (op1 negD) := by rw [evE]
@[simp] theorem evE_not (a : Ex) : evE Γ (.not a) ρ st = (evE Γ a ρ st).bind (op1 notD) := by rw [evE]
@[simp] theorem evE_and (es : Exs) : evE Γ (.and es) ρ st = evAnd Γ es ρ st := by rw [evE]
@[simp] theorem evE_or (es : Exs) : evE Γ (.or es) ρ st = evOr Γ es ρ st := by rw [evE]
@[simp] theorem evAnd1 (e : Ex) : evAnd Γ (.cons e .nil) ρ st = evE Γ e ρ st := by rw [evAnd_one]
@[simp] theorem evOr1 (e : Ex) : evOr Γ (.cons e .nil) ρ st = evE Γ e ρ st := by rw [evOr_one]
@[simp] theorem evAnd2 (e e2 : Ex) (r : Exs) : evAnd Γ (.cons e (.cons e2 r)) ρ st = (evE Γ e ρ st).bind fun p => (truW p).bind fun t => if t = true then evAnd Γ (.cons e2 r) ρ p.2 else .ok p := evAnd_more e e2 r ρ st
@[simp] theorem evOr2 (e e2 : Ex) (r : Exs) : evOr Γ (.cons e (.cons e2 r)) ρ st = (evE Γ e ρ st).bind fun p => (truW p).bind fun t => if t = true then .ok p else evOr Γ (.cons e2 r) ρ p.2 := evOr_more e e2 r ρ st
@[simp] theorem evE_cmp (o : Cop) (a b : Ex) : evE Γ (.cmp o a b) ρ st = (evE Γ a ρ st).bind fun p => (evE Γ b ρ p.2).bind fun q => op2 (fun x y => blO (copD o x y)) p.1 q := by rw [evE]
@[simp] theorem evE_cmp2 (o o' : Cop) (a b c : Ex) : evE Γ (.cmp2 o o' a b c) ρ st = (evE Γ a ρ st).bind fun p => (evE Γ b ρ p.2).bind fun q => (op2 (fun x y => blO (copD o x y)) p.1 q).bind fun k =>
      (truW k).bind fun t => if t = true then (evE Γ c ρ k.2).bind fun r => op2 (fun x y => blO (copD o' x y)) q.1 r else .ok k := by rw [evE]
@[simp] theorem evE_call0 (f : Nat) : evE Γ (.call0 f) ρ st = noExc (Γ.call f [] st) := by rw [evE]
@[simp] theorem evE_call (f : Nat) (es : Exs) : evE Γ (.call f es) ρ st = (evEs Γ es ρ st).bind fun p => Γ.call f p.1 p.2 := by rw [evE]
@[simp] theorem evE_p1 (p : P1) (a : Ex) : evE Γ (.p1 p a) ρ st = (evE Γ a ρ st).bind (op1 (p1D p)) := by rw [evE]
@[simp] theorem evE_lens (a : Ex) : evE Γ (.lens a) ρ st = (evE Γ a ρ st).bind (op1 lensD) := by rw [evE]
@[simp] theorem evE_isi (a : Ex) (t : Ty) : evE Γ (.isi a t) ρ st = (evE Γ a ρ st).bind (op1 (fun x => some (.bl (isiD t x)))) := by rw [evE]
@[simp] theorem evE_isi2 (a : Ex) (t u : Ty) : evE Γ (.isi2 a t u) ρ st = (evE Γ a ρ st).bind (op1 (fun x => some (.bl (isiD t x || isiD u x)))) := by rw [evE]
@[simp] theorem evE_m1 (m : M1) (a b : Ex) : evE Γ (.m1 m a b) ρ st = (evE Γ a ρ st).bind fun p => (Rs.ofO ((strW p.1).map fun s => (s, p.2))).bind fun s => (evE Γ b ρ s.2).bind (op1 (m1S m s.1)) := by rw [evE]
@[simp] theorem evE_b2 (o : B2) (a b : Ex) : evE Γ (.b2 o a b) ρ st = (evE Γ a ρ st).bind fun p => (evE Γ b ρ p.2).bind fun q => op2 (b2D o) p.1 q := by rw [evE]
@[simp] theorem evE_rev (a : Ex) : evE Γ (.rev a) ρ st = (evE Γ a ρ st).bind (op1 revD) := by rw [evE]
@[simp] theorem evE_ix (a i : Ex) : evE Γ (.ix a i) ρ st = (evE Γ a ρ st).bind fun p => (evE Γ i ρ p.2).bind fun q => op2 ixD p.1 q := by rw [evE]
@[simp] theorem evE_sl (a : Ex) (lo hi : Exo) : evE Γ (.sl a lo hi) ρ st = (evE Γ a ρ st).bind fun p => (evO Γ lo ρ p.2).bind fun l => (evO Γ hi ρ l.2).bind fun h => op1 (fun x => slD x l.1 h.1) (p.1, h.2) := by rw [evE]
@[simp] theorem evE_tup (es : Exs) : evE Γ (.tup es) ρ st = (evEs Γ es ρ st).bind mkTup := by rw [evE]
@[simp] theorem evE_lst (es : Exs) : evE Γ (.lst es) ρ st = (evEs Γ es ρ st).bind mkLst := by rw [evE]
@[simp] theorem evE_lc (elt : Ex) (tg : Tg) (it : Itx) (ifs : Exs) : evE Γ (.lc elt tg it ifs) ρ st = (evI Γ it ρ st).bind fun p => (lcL p.1.2 (lcTurn (evIfs Γ ifs) (evE Γ elt) tg ρ) p.1.1 p.2).bind lcEnd := by rw [evE]
@[simp] theorem evEs_nil : evEs Γ .nil ρ st = .ok ([], st) := by rw [evEs]
@[simp] theorem evEs_cons (e : Ex) (es : Exs) : evEs Γ (.cons e es) ρ st = (evE Γ e ρ st).bind fun p => (evEs Γ es ρ p.2).bind fun q => .ok (p.1 :: q.1, q.2) := by rw [evEs]
@[simp] theorem evIfs_nil : evIfs Γ .nil ρ st = .ok (true, st) := by rw [evIfs]
@[simp] theorem evIfs_one (e : Ex) : evIfs Γ (.cons e .nil) ρ st = (evE Γ e ρ st).bind fun p => (truW p).bind fun t => .ok (t, p.2) := by rw [evIfs]; rfl
@[simp] theorem evO_no : evO Γ .no ρ st = .ok (none, st) := by rw [evO]
@[simp] theorem evO_yes (e : Ex) : evO Γ (.yes e) ρ st = (evE Γ e ρ st).bind fun p => Rs.ofO ((intW p.1).map fun i => (some i, p.2)) := by rw [evO]
@[simp] theorem evI_seq (e : Ex) : evI Γ (.seq e) ρ st = (evE Γ e ρ st).bind fun p => Rs.ofO (itSeq p) := by rw [evI]
@[simp] theorem evI_rng1 (e : Ex) : evI Γ (.rng1 e) ρ st = (evE Γ e ρ st).bind fun p => Rs.ofO ((intW p.1).bind fun i => itRng p.2 0 i) := by rw [evI]
@[simp] theorem evI_rng2 (a b : Ex) : evI Γ (.rng2 a b) ρ st = (evE Γ a ρ st).bind fun p => (evE Γ b ρ p.2).bind fun q => Rs.ofO ((intW p.1).bind fun i => (intW q.1).bind fun j => itRng q.2 i j) := by rw [evI]
@[simp] theorem evI_enm (e : Ex) : evI Γ (.enm e) ρ st = (evE Γ e ρ st).bind fun p => Rs.ofO (itEnm p) := by rw [evI]
@[simp] theorem evI_zip (a b : Ex) : evI Γ (.zip a b) ρ st = (evE Γ a ρ st).bind fun p => (evE Γ b ρ p.2).bind fun q => Rs.ofO (itZip p.1 q) := by rw [evI]
@[simp] theorem evT_eq (e : Ex) : evT Γ e ρ st = (evE Γ e ρ st).bind fun p => (truW p).bind fun t => .ok (t, p.2) := rfl
@[simp] theorem exSs_nil : exSs Γ .nil ρ st = .ok ((.nx, ρ), st) := by rw [exSs]
/-- on behind a statement -/
def thenS (r : Ev → Sr → Rs Sx) (p : Sx) : Rs Sx := match p.1.1 with
    | .nx => r p.1.2 p.2
    | .rt w => .ok ((.rt w, p.1.2), p.2)
    | .bk => .ok ((.bk, p.1.2), p.2)
    | .ct => .ok ((.ct, p.1.2), p.2)
@[simp] theorem thenS_nx {r : Ev → Sr → Rs Sx} : thenS r ((.nx, ρ), st) = r ρ st := rfl
@[simp] theorem thenS_rt {r : Ev → Sr → Rs Sx} (w : Wv) : thenS r ((.rt w, ρ), st) = .ok ((.rt w, ρ), st) := rfl
@[simp] theorem thenS_bk {r : Ev → Sr → Rs Sx} : thenS r ((.bk, ρ), st) = .ok ((.bk, ρ), st) := rfl
@[simp] theorem thenS_ct {r : Ev → Sr → Rs Sx} : thenS r ((.ct, ρ), st) = .ok ((.ct, ρ), st) := rfl
@[simp] theorem exSs_cons (s : Sm) (r : Sms) : exSs Γ (.cons s r) ρ st = (exS Γ s ρ st).bind (thenS (exSs Γ r)) := by
  rw [exSs]; unfold thenS; rfl
@[simp] theorem exS_set (i : Nat) (e : Ex) : exS Γ (.set i e) ρ st = (evE Γ e ρ st).bind fun p => .ok ((.nx, ρ.set i (some p.1)), p.2) := by rw [exS]
@[simp] theorem exS_setL (i : Nat) (e : Ex) : exS Γ (.setL i e) ρ st = (evE Γ e ρ st).bind (layL i ρ) := by rw [exS]
@[simp] theorem exS_unp (is : List Nat) (e : Ex) : exS Γ (.unp is e) ρ st = (evE Γ e ρ st).bind (unpW is ρ) := by rw [exS]
@[simp] theorem exS_ret (e : Ex) : exS Γ (.ret e) ρ st = (evE Γ e ρ st).bind fun p => .ok ((.rt p.1, ρ), p.2) := by rw [exS]
@[simp] theorem exS_ife (c : Ex) (a b : Sms) : exS Γ (.ife c a b) ρ st = (evT Γ c ρ st).bind fun p => if p.1 = true then exSs Γ a ρ p.2 else exSs Γ b ρ p.2 := by rw [exS]
@[simp] theorem exS_for (tg : Tg) (it : Itx) (b : Sms) : exS Γ (.forS tg it b) ρ st = (evI Γ it ρ st).bind fun p => exFor (exSs Γ b) tg p.1.2 p.1.1 ρ p.2 := by rw [exS]
@[simp] theorem exS_whl (c : Ex) (b : Sms) : exS Γ (.whl c b) ρ st = exWhl (evT Γ c) (exSs Γ b) turns ρ st := by rw [exS]
@[simp] theorem exS_app (i : Nat) (e : Ex) : exS Γ (.app i e) ρ st = (Rs.ofO ((obW ρ[i]?).map fun n => (n, st))).bind fun n => (seenW n.1 n.2).bind fun u => (evE Γ e ρ u.2).bind (appW n.1 ρ) := by rw [exS]
@[simp] theorem exS_expr (e : Ex) : exS Γ (.expr e) ρ st = (evE Γ e ρ st).bind fun p => .ok ((.nx, ρ), p.2) := by rw [exS]
@[simp] theorem exS_tryR (c k : Nat) (b : Sms) : exS Γ (.tryR c k b) ρ st = tryRW c k (exSs Γ b ρ st) := by rw [exS]
@[simp] theorem exS_quo (i : Nat) : exS Γ (.quo i) ρ st = quoW ρ[i]? ρ st := by rw [exS]
@[simp] theorem exS_rai (c : Nat) : exS Γ (.rai c) ρ st = .exc c [] st := by rw [exS]
@[simp] theorem exS_tryX (c : Nat) (b : Sms) (i j : Nat) (xs : List Xe) : exS Γ (.tryX c b i j xs) ρ st = tryW c i j xs ρ (exSs Γ b ρ st) := by rw [exS]
@[simp] theorem exS_tryN (c : Nat) (b : Sms) : exS Γ (.tryN c b) ρ st = noExc (exSs Γ b ρ st) := by rw [exS]
@[simp] theorem exS_brk : exS Γ .brk ρ st = .ok ((.bk, ρ), st) := by rw [exS]
@[simp] theorem exS_cnt : exS Γ .cnt ρ st = .ok ((.ct, ρ), st) := by rw [exS]
@[simp] theorem exS_pass : exS Γ .pass ρ st = .ok ((.nx, ρ), st) := by rw [exS]
/-! #### pieces -/
@[simp] theorem op1_d (f : Dt → Option Dt) (x : Dt) : op1 f (.d x, st) = Rs.ofO ((f x).map fun z => (.d z, st)) := rfl
@[simp] theorem op2_d (f : Dt → Dt → Option Dt) (x y : Dt) : op2 f (.d x) (.d y, st) = Rs.ofO ((f x y).map fun z => (.d z, st)) := rfl
@[simp] theorem truW_d (x : Dt) : truW (.d x, st) = .ok (truthD x) := rfl
@[simp] theorem intW_i (i : Int) : intW (.d (.int i)) = some i := rfl
@[simp] theorem strW_s (s : List Nat) : strW (.d (.str s)) = some s := rfl
@[simp] theorem dataW_d (x : Dt) : dataW (.d x) = some x := rfl
@[simp] theorem blO_some (b : Bool) : blO (some b) = some (.bl b) := rfl
@[simp] theorem negD_i (i : Int) : negD (.int i) = some (.int (-i)) := rfl
@[simp] theorem notD_x (x : Dt) : notD x = some (.bl (!truthD x)) := rfl
@[simp] theorem truthD_bl (b : Bool) : truthD (.bl b) = b := rfl
@[simp] theorem mapD_nil : mapD [] = some [] := rfl
@[simp] theorem mapD_cons (x : Dt) (r : List Wv) : mapD (.d x :: r) = (mapD r).map (x :: ·) := rfl
theorem mkTup_ok {ws : List Wv} {xs : List Dt} (h : mapD ws = some xs) (hl : ws.length ≤ lim) : mkTup (ws, st) = .ok (.d (.tup xs), st) := by
  unfold mkTup
  simp only [h]
  rw [if_pos hl]
  rfl
theorem mkLst_ok {ws : List Wv} {xs : List Dt} (h : mapD ws = some xs) (hl : ws.length ≤ lim) : mkLst (ws, st) = .ok (.d (.lst xs), st) := by
  unfold mkLst
  simp only [h]
  rw [if_pos hl]
  rfl
theorem lim16 : lim = 16777216 := by unfold lim; exact (Nat.add_zero _).symm.trans (Nat.add_zero _)
@[simp] theorem mkTup0 : mkTup ([], st) = .ok (.d (.tup []), st) := rfl
@[simp] theorem mkTup1 (a : Dt) : mkTup ([.d a], st) = .ok (.d (.tup [a]), st) := mkTup_ok rfl (by simp [lim16])
@[simp] theorem mkTup2 (a b : Dt) : mkTup ([.d a, .d b], st) = .ok (.d (.tup [a, b]), st) := mkTup_ok rfl (by simp [lim16])
@[simp] theorem mkTup3 (a b c : Dt) : mkTup ([.d a, .d b, .d c], st) = .ok (.d (.tup [a, b, c]), st) := mkTup_ok rfl (by simp [lim16])
@[simp] theorem mkTup4 (a b c d : Dt) : mkTup ([.d a, .d b, .d c, .d d], st) = .ok (.d (.tup [a, b, c, d]), st) := mkTup_ok rfl (by simp [lim16])
@[simp] theorem mkLst0 : mkLst ([], st) = .ok (.d (.lst []), st) := rfl
@[simp] theorem mkLst1 (a : Dt) : mkLst ([.d a], st) = .ok (.d (.lst [a]), st) := mkLst_ok rfl (by simp [lim16])
@[simp] theorem mkLst2 (a b : Dt) : mkLst ([.d a, .d b], st) = .ok (.d (.lst [a, b]), st) := mkLst_ok rfl (by simp [lim16])
@[simp] theorem mkLst3 (a b c : Dt) : mkLst ([.d a, .d b, .d c], st) = .ok (.d (.lst [a, b, c]), st) := mkLst_ok rfl (by simp [lim16])
@[simp] theorem callW_0 (r : Nat → List Dt → Rs Dt) (f : Nat) : callW r f [] st = (match r f [] with | .ok d => .ok (.d d, st) | .exc c fs _ => .exc c fs st | .bad => .bad) := rfl
/-- a call's value -/
def valD (st : Sr) : Rs Dt → Rs (Wv × Sr)
  | .ok d => .ok (.d d, st)
  | .exc c fs _ => .exc c fs st
  | .bad => .bad
@[simp] theorem valD_ok (d : Dt) : valD st (.ok d) = .ok (.d d, st) := rfl
@[simp] theorem valD_exc (c : Nat) (fs : List Dt) (s : Sr) : valD st (.exc c fs s) = .exc c fs st := rfl
theorem callW_eq (r : Nat → List Dt → Rs Dt) (f : Nat) {ws : List Wv} {ds : List Dt} (h : mapD ws = some ds) : callW r f ws st = valD st (r f ds) := by
  unfold callW valD
  rw [h]
  rfl
@[simp] theorem callW_1 (r : Nat → List Dt → Rs Dt) (f : Nat) (a : Dt) : callW r f [.d a] st = valD st (r f [a]) := callW_eq r f rfl
@[simp] theorem callW_2 (r : Nat → List Dt → Rs Dt) (f : Nat) (a b : Dt) : callW r f [.d a, .d b] st = valD st (r f [a, b]) := callW_eq r f rfl
@[simp] theorem callW_3 (r : Nat → List Dt → Rs Dt) (f : Nat) (a b c : Dt) : callW r f [.d a, .d b, .d c] st = valD st (r f [a, b, c]) := callW_eq r f rfl
@[simp] theorem callW_4 (r : Nat → List Dt → Rs Dt) (f : Nat) (a b c d : Dt) : callW r f [.d a, .d b, .d c, .d d] st = valD st (r f [a, b, c, d]) := callW_eq r f rfl
@[simp] theorem endD_nx : endD ((.nx, ρ), st) = .ok .non := rfl
@[simp] theorem endD_rt (x : Dt) : endD ((.rt (.d x), ρ), st) = .ok x := rfl
/-! #### operators -/
@[simp] theorem add_ii (i j : Int) : bopD .add (.int i) (.int j) = some (.int (i + j)) := rfl
@[simp] theorem sub_ii (i j : Int) : bopD .sub (.int i) (.int j) = some (.int (i - j)) := rfl
theorem mul_ii {i j : Int} (h : smallI i ∨ smallI j) : bopD .mul (.int i) (.int j) = some (.int (i * j)) := if_pos h
theorem mod_ii {i j : Int} (h : 0 < j) : bopD .mod (.int i) (.int j) = some (.int (i % j)) := if_pos h
theorem fdiv_ii {i j : Int} (h : 0 < j ∧ j < 1073741824) : bopD .fdiv (.int i) (.int j) = some (.int (i / j)) := if_pos h
theorem add_ss {a b : List Nat} (h : a.length + b.length ≤ lim) : bopD .add (.str a) (.str b) = some (.str (a ++ b)) := if_pos h
theorem add_tt {a b : List Dt} (h : a.length + b.length ≤ lim) : bopD .add (.tup a) (.tup b) = some (.tup (a ++ b)) := if_pos h
theorem add_ll {a b : List Dt} (h : a.length + b.length ≤ lim) : bopD .add (.lst a) (.lst b) = some (.lst (a ++ b)) := if_pos h
theorem mul_si {a : List Nat} {j : Int} (h : a.length * j.toNat ≤ lim ∧ -(2 ^ 62) < j ∧ j < 2 ^ 62) : bopD .mul (.str a) (.int j) = some (.str (List.replicate j.toNat a).flatten) := if_pos h
@[simp] theorem lt_ii (i j : Int) : copD .lt (.int i) (.int j) = some (decide (i < j)) := rfl
@[simp] theorem le_ii (i j : Int) : copD .le (.int i) (.int j) = some (decide (i ≤ j)) := rfl
@[simp] theorem gt_ii (i j : Int) : copD .gt (.int i) (.int j) = some (decide (j < i)) := rfl
@[simp] theorem ge_ii (i j : Int) : copD .ge (.int i) (.int j) = some (decide (j ≤ i)) := rfl
@[simp] theorem is_bb (a b : Bool) : copD .is (.bl a) (.bl b) = some (a == b) := rfl
@[simp] theorem isnot_bb (a b : Bool) : copD .isnot (.bl a) (.bl b) = some (!(a == b)) := rfl
@[simp] theorem min_ii (i j : Int) : b2D .min (.int i) (.int j) = some (.int (if j < i then j else i)) := rfl
@[simp] theorem max_ii (i j : Int) : b2D .max (.int i) (.int j) = some (.int (if j > i then j else i)) := rfl
theorem eq_dd {a b : Dt} (h : depD a ≤ 64 ∨ depD b ≤ 64) : copD .eq a b = some (eqD a b) := if_pos h
theorem ne_dd {a b : Dt} (h : depD a ≤ 64 ∨ depD b ≤ 64) : copD .ne a b = some (!eqD a b) := if_pos h
@[simp] theorem eq_ii (i j : Int) : copD .eq (.int i) (.int j) = some (decide (i = j)) := by
  rw [eq_dd (.inl (by simp [depD]))]; simp [eqD, Bool.beq_eq_decide_eq]
@[simp] theorem ne_ii (i j : Int) : copD .ne (.int i) (.int j) = some (!decide (i = j)) := by
  rw [ne_dd (.inl (by simp [depD]))]; simp [eqD, Bool.beq_eq_decide_eq]
@[simp] theorem eq_ss (i j : List Nat) : copD .eq (.str i) (.str j) = some (decide (i = j)) := by
  rw [eq_dd (.inl (by simp [depD]))]; simp [eqD, Bool.beq_eq_decide_eq]
@[simp] theorem ne_ss (i j : List Nat) : copD .ne (.str i) (.str j) = some (!decide (i = j)) := by
  rw [ne_dd (.inl (by simp [depD]))]; simp [eqD, Bool.beq_eq_decide_eq]
@[simp] theorem in_cs (c : Nat) (s : List Nat) : copD .inn (.str [c]) (.str s) = some (decide (c ∈ s)) := rfl
@[simp] theorem notin_cs (c : Nat) (s : List Nat) : copD .notin (.str [c]) (.str s) = some (!decide (c ∈ s)) := rfl
@[simp] theorem len_s (s : List Nat) : p1D .len (.str s) = some (.int s.length) := rfl
@[simp] theorem len_t (s : List Dt) : p1D .len (.tup s) = some (.int s.length) := rfl
@[simp] theorem len_l (s : List Dt) : p1D .len (.lst s) = some (.int s.length) := rfl
@[simp] theorem len_c (s : List Int) : p1D .len (.scr s) = some (.int s.length) := rfl
@[simp] theorem tuple_l (s : List Dt) : p1D .tuple (.lst s) = some (.tup s) := rfl
@[simp] theorem tuple_t (s : List Dt) : p1D .tuple (.tup s) = some (.tup s) := rfl
@[simp] theorem list_l (s : List Dt) : p1D .list (.lst s) = some (.lst s) := rfl
@[simp] theorem list_t (s : List Dt) : p1D .list (.tup s) = some (.lst s) := rfl
@[simp] theorem int_b (b : Bool) : p1D .int (.bl b) = some (.int (if b then 1 else 0)) := rfl
@[simp] theorem int_i (i : Int) : p1D .int (.int i) = some (.int i) := rfl
theorem allBl_map {α : Type} (f : α → Bool) : ∀ xs : List α, allBl (xs.map fun x => Dt.bl (f x)) = some (xs.map f)
  | [] => rfl
  | x :: xs => by
    show (allBl (xs.map fun x => Dt.bl (f x))).map (f x :: ·) = _
    rw [allBl_map f xs]; rfl
theorem all_map {α : Type} (f : α → Bool) (xs : List α) : p1D .all (.lst (xs.map fun x => Dt.bl (f x))) = some (.bl (xs.all f)) := by
  show (allBl _).map _ = _
  rw [allBl_map]
  simp [List.all_map]
theorem any_map {α : Type} (f : α → Bool) (xs : List α) : p1D .any (.lst (xs.map fun x => Dt.bl (f x))) = some (.bl (xs.any f)) := by
  show (allBl _).map _ = _
  rw [allBl_map]
  simp [List.any_map]
/-! #### walks -/
@[simp] theorem itSeq_t (xs : List Dt) : itSeq (.d (.tup xs), st) = some ((xs, []), st) := rfl
@[simp] theorem itSeq_l (xs : List Dt) : itSeq (.d (.lst xs), st) = some ((xs, []), st) := rfl
@[simp] theorem itSeq_s (s : List Nat) : itSeq (.d (.str s), st) = some ((s.map fun c => .str [c], []), st) := rfl
@[simp] theorem itEnm_l (xs : List Dt) : itEnm (.d (.lst xs), st) = some ((enumL 0 xs, []), st) := rfl
@[simp] theorem watch_nil : watchOk [] st = true := rfl
@[simp] theorem wipe_one (i : Nat) : wipeE ρ [i] = ρ.set i none := rfl
@[simp] theorem slots_one (i : Nat) : (Tg.one i).slots = [i] := rfl
@[simp] theorem slots_many (is : List Nat) : (Tg.many is).slots = is := rfl
@[simp] theorem setTg_one (i : Nat) (x : Dt) : setTg (.one i) x ρ = some (ρ.set i (some (.d x))) := rfl
/-- a comprehension whose turns give f, without tests -/
theorem lcL_map (f : Dt → Sr → Rs (Option Dt × Sr)) (g : Dt → Dt) (h : ∀ x, f x st = .ok (some (g x), st)) : ∀ xs : List Dt, lcL [] f xs st = .ok (xs.map g, st)
  | [] => rfl
  | x :: xs => by
    rw [lcL, h x]
    simp only [Rs.bind_ok, watch_nil, if_true, lcL_map f g h xs, consO, List.map_cons]
theorem lcL_map' {α : Type} (f : Dt → Sr → Rs (Option Dt × Sr)) (e : α → Dt) (g : α → Dt) : ∀ (xs : List α), (∀ x ∈ xs, f (e x) st = .ok (some (g x), st)) → lcL [] f (xs.map e) st = .ok (xs.map g, st)
  | [], _ => rfl
  | x :: xs, h => by
    rw [List.map_cons, lcL, h x List.mem_cons_self]
    simp only [Rs.bind_ok, watch_nil, if_true, lcL_map' f e g xs fun y hy => h y (List.mem_cons_of_mem _ hy), consO, List.map_cons]
/-- .. with a test -/
theorem lcL_filter' {α : Type} (f : Dt → Sr → Rs (Option Dt × Sr)) (e : α → Dt) (t : α → Bool) (g : α → Dt) : ∀ (xs : List α), (∀ x ∈ xs, f (e x) st = .ok (if t x then some (g x) else none, st)) → lcL [] f (xs.map e) st = .ok ((xs.filter t).map g, st)
  | [], _ => rfl
  | x :: xs, h => by
    rw [List.map_cons, lcL, h x List.mem_cons_self]
    simp only [Rs.bind_ok, watch_nil, if_true, lcL_filter' f e t g xs fun y hy => h y (List.mem_cons_of_mem _ hy), List.filter_cons]
    cases t x <;> rfl
@[simp] theorem lcEnd_ok {xs : List Dt} (h : xs.length ≤ lim) : lcEnd (xs, st) = .ok (.d (.lst xs), st) := if_pos h
theorem noExc_ok {α : Type} (a : α) : noExc (.ok a : Rs α) = .ok a := rfl
theorem lcTurn_one {ifs : Ev → Sr → Rs (Bool × Sr)} {elt : Ev → Sr → Rs (Wv × Sr)} {i : Nat} {x y : Dt} (h1 : ifs (ρ.set i (some (.d x))) st = .ok (true, st)) (h2 : elt (ρ.set i (some (.d x))) st = .ok (.d y, st)) :
    lcTurn ifs elt (.one i) ρ x st = .ok (some y, st) := by
  simp [lcTurn, h1, h2, noExc]
/-- with a test whose answer is t -/
theorem lcTurn_if {ifs : Ev → Sr → Rs (Bool × Sr)} {elt : Ev → Sr → Rs (Wv × Sr)} {i : Nat} {x y : Dt} {t : Bool} (h1 : ifs (ρ.set i (some (.d x))) st = .ok (t, st)) (h2 : t = true → elt (ρ.set i (some (.d x))) st = .ok (.d y, st)) :
    lcTurn ifs elt (.one i) ρ x st = .ok (if t then some y else none, st) := by
  cases t with
  | true => simp [lcTurn, h1, h2 rfl, noExc]
  | false => simp [lcTurn, h1, noExc]
/-- a for's turns keep what they have, and go on -/
theorem exFor_nil {body : Ev → Sr → Rs Sx} {tg : Tg} {ws : List (Nat × List Dt)} : exFor body tg ws [] ρ st = .ok ((.nx, ρ), st) := rfl
theorem exFor_cons {body : Ev → Sr → Rs Sx} {tg : Tg} {ws : List (Nat × List Dt)} {x : Dt} {xs : List Dt} {ρ1 ρ2 : Ev} {st2 : Sr} (h1 : setTg tg x ρ = some ρ1) (h2 : body ρ1 st = .ok ((.nx, ρ2), st2)) (h3 : watchOk ws st2 = true) :
    exFor body tg ws (x :: xs) ρ st = exFor body tg ws xs ρ2 st2 := by
  rw [exFor, h1]
  simp [h2, h3]
/-- an invariant of a for whose turns all go on -/
theorem exFor_inv {body : Ev → Sr → Rs Sx} {tg : Tg} (I : Nat → Ev → Prop) : ∀ (xs : List Dt) (k : Nat) (ρ : Ev), I k ρ → (∀ j x ρ, xs[j]? = some x → I (k + j) ρ → ∃ ρ1 ρ2, setTg tg x ρ = some ρ1 ∧ body ρ1 st = .ok ((.nx, ρ2), st) ∧ I (k + j + 1) ρ2) →
    ∃ ρ', exFor body tg [] xs ρ st = .ok ((.nx, ρ'), st) ∧ I (k + xs.length) ρ'
  | [], k, ρ, h, _ => ⟨ρ, rfl, h⟩
  | x :: xs, k, ρ, h, hs => by
    obtain ⟨ρ1, ρ2, h1, h2, h3⟩ := hs 0 x ρ rfl h
    obtain ⟨ρ', h4, h5⟩ := exFor_inv I xs (k + 1) ρ2 h3 fun j y ρ hj hI => by
      have := hs (j + 1) y ρ hj (by rwa [show k + (j + 1) = k + 1 + j by omega])
      rwa [show k + (j + 1) + 1 = k + 1 + j + 1 by omega] at this
    refine ⟨ρ', ?_, ?_⟩
    · rw [exFor_cons h1 h2 rfl]; exact h4
    · rw [List.length_cons, show k + (xs.length + 1) = k + 1 + xs.length by omega]; exact h5
end
theorem exFor_mem {body : Ev → Sr → Rs Sx} {tg : Tg} {st : Sr} (I : Ev → Prop) : ∀ (xs : List Dt) (ρ : Ev), I ρ → (∀ x ∈ xs, ∀ ρ, I ρ → ∃ ρ1 ρ2, setTg tg x ρ = some ρ1 ∧ body ρ1 st = .ok ((.nx, ρ2), st) ∧ I ρ2) →
    ∃ ρ', exFor body tg [] xs ρ st = .ok ((.nx, ρ'), st) ∧ I ρ'
  | [], ρ, h, _ => ⟨ρ, rfl, h⟩
  | x :: xs, ρ, h, hs => by
    obtain ⟨ρ1, ρ2, h1, h2, h3⟩ := hs x List.mem_cons_self ρ h
    obtain ⟨ρ', h4, h5⟩ := exFor_mem I xs ρ2 h3 fun y hy => hs y (List.mem_cons_of_mem _ hy)
    exact ⟨ρ', by rw [exFor_cons h1 h2 rfl]; exact h4, h5⟩
theorem ixP_in {n : Nat} {i : Int} (h0 : 0 ≤ i) (h1 : i < n) : ixP n i = some i.toNat := by simp [ixP, h0, h1]
theorem ixL_in {α : Type} {xs : List α} {i : Int} (h0 : 0 ≤ i) (h1 : i < xs.length) : ∃ x ∈ xs, ixL xs i = some x := by
  have h2 : i.toNat < xs.length := by omega
  refine ⟨xs[i.toNat], List.getElem_mem h2, ?_⟩
  simp [ixL, ixP_in h0 h1, h2]
theorem ix_s {s : List Nat} {i : Int} (h0 : 0 ≤ i) (h1 : i < s.length) : ∃ c ∈ s, ixD (.str s) (.int i) = some (.str [c]) := by
  obtain ⟨c, h, e⟩ := ixL_in h0 h1
  exact ⟨c, h, by simp [ixD, e]⟩
theorem ix_t {s : List Dt} {i : Int} (h0 : 0 ≤ i) (h1 : i < s.length) : ∃ c ∈ s, ixD (.tup s) (.int i) = some c := ixL_in h0 h1
theorem rangeL_at (lo : Int) : ∀ (n j : Nat) (x : Dt), (rangeL lo n)[j]? = some x → x = .int (lo + j) ∧ j < n
  | 0, j, x, h => by simp [rangeL] at h
  | n + 1, 0, x, h => by simp [rangeL] at h; simp [h]
  | n + 1, j + 1, x, h => by
    have := rangeL_at (lo + 1) n j x (by simpa [rangeL] using h)
    refine ⟨by rw [this.1]; congr 1; omega, by omega⟩
theorem itRng_ok {st : Sr} {i j : Int} (h : i < 1073741824 ∧ -1073741824 < i ∧ j < 1073741824 ∧ -1073741824 < j) : itRng st i j = some ((rangeL i (j - i).toNat, []), st) := if_pos h
theorem cutL_len {α : Type} (xs : List α) (lo hi : Option Int) : (cutL xs lo hi).length ≤ xs.length := by
  unfold cutL
  simp only [List.length_take, List.length_drop]
  omega
@[simp] theorem sl_s (s : List Nat) (lo hi : Option Int) : slD (.str s) lo hi = some (.str (cutL s lo hi)) := rfl
@[simp] theorem sl_t (s : List Dt) (lo hi : Option Int) : slD (.tup s) lo hi = some (.tup (cutL s lo hi)) := rfl
@[simp] theorem sl_l (s : List Dt) (lo hi : Option Int) : slD (.lst s) lo hi = some (.lst (cutL s lo hi)) := rfl
theorem cut_hi {α : Type} (xs : List α) (k : Nat) : cutL xs none (some (k : Int)) = xs.take k := by
  unfold cutL slP
  have h : ¬ (k : Int) < 0 := by omega
  simp [h]
theorem mkTup6 {st : Sr} (a b c d e f : Dt) : mkTup ([.d a, .d b, .d c, .d d, .d e, .d f], st) = .ok (.d (.tup [a, b, c, d, e, f]), st) := mkTup_ok rfl (by simp [lim16])
theorem mkLst5 {st : Sr} (a b c d e : Dt) : mkLst ([.d a, .d b, .d c, .d d, .d e], st) = .ok (.d (.lst [a, b, c, d, e]), st) := mkLst_ok rfl (by simp [lim16])
theorem lcL_cons {f : Dt → Sr → Rs (Option Dt × Sr)} {x y : Dt} {xs ys : List Dt} {st : Sr} (h : f x st = .ok (some y, st)) (h2 : lcL [] f xs st = .ok (ys, st)) : lcL [] f (x :: xs) st = .ok (y :: ys, st) := by
  rw [lcL, h]
  simp [h2, consO]
theorem beq_nil (xs : List Dt) : eqD (.lst xs) (.lst []) = xs.isEmpty := by cases xs <;> simp [eqD, eqDs]
end PB
namespace PB
open PySem
theorem in_it (i : Int) (xs : List Dt) : copD .inn (.int i) (.tup xs) = some (xs.any fun z => eqD z (.int i)) := by simp [copD, depD]
theorem in_st (a : List Nat) (xs : List Dt) : copD .inn (.str a) (.tup xs) = some (xs.any fun z => eqD z (.str a)) := by cases a <;> simp [copD, depD]
@[simp] theorem eqD_ii (i j : Int) : eqD (.int i) (.int j) = decide (i = j) := by simp [eqD, Bool.beq_eq_decide_eq]
@[simp] theorem eqD_ss (i j : List Nat) : eqD (.str i) (.str j) = decide (i = j) := by simp [eqD, Bool.beq_eq_decide_eq]
@[simp] theorem unp3 {ρ : Ev} {st : Sr} (i j k : Nat) (a b c : Dt) : unpW [i, j, k] ρ (.d (.tup [a, b, c]), st) = .ok ((.nx, ((ρ.set i (some (.d a))).set j (some (.d b))).set k (some (.d c))), st) := rfl
@[simp] theorem unp2 {ρ : Ev} {st : Sr} (i j : Nat) (a b : Dt) : unpW [i, j] ρ (.d (.tup [a, b]), st) = .ok ((.nx, ((ρ.set i (some (.d a))).set j (some (.d b)))), st) := rfl
theorem str_i {i : Int} (h : i.natAbs < 18446744073709551616) : ∃ s, p1D .str (.int i) = some (.str s) := ⟨_, if_pos h⟩
end PB
namespace PB
open PySem
theorem range0_at {n j : Nat} {x : Dt} (h : (rangeL 0 n)[j]? = some x) : x = .int j ∧ j < n := by
  have := rangeL_at 0 n j x h
  rwa [Int.zero_add] at this
end PB
namespace PB
open PySem
theorem lcL_ex {st : Sr} {f : Dt → Sr → Rs (Option Dt × Sr)} (P : Dt → Prop) : ∀ xs : List Dt, (∀ x ∈ xs, ∃ y, f x st = .ok (some y, st) ∧ P y) → ∃ ys, lcL [] f xs st = .ok (ys, st) ∧ ys.length = xs.length ∧ ∀ y ∈ ys, P y
  | [], _ => ⟨[], rfl, rfl, by simp⟩
  | x :: xs, h => by
    obtain ⟨y, h1, h2⟩ := h x List.mem_cons_self
    obtain ⟨ys, h3, h4, h5⟩ := lcL_ex P xs fun z hz => h z (List.mem_cons_of_mem _ hz)
    refine ⟨y :: ys, lcL_cons h1 h3, by simp [h4], ?_⟩
    intro z hz
    rcases List.mem_cons.mp hz with rfl | hz
    · exact h2
    · exact h5 z hz
theorem range0_mem {n : Nat} {x : Dt} (h : x ∈ rangeL 0 n) : ∃ j : Nat, x = .int j ∧ j < n := by
  obtain ⟨j, hj, e⟩ := List.getElem_of_mem h
  exact ⟨j, range0_at (by rw [List.getElem?_eq_getElem hj, e])⟩
theorem map_of_ex {α β : Type} {e : α → β} {P : α → Prop} : ∀ ys : List β, (∀ y ∈ ys, ∃ a, y = e a ∧ P a) → ∃ as : List α, ys = as.map e ∧ ∀ a ∈ as, P a
  | [], _ => ⟨[], rfl, by simp⟩
  | y :: ys, h => by
    obtain ⟨a, h1, h2⟩ := h y List.mem_cons_self
    obtain ⟨as, h3, h4⟩ := map_of_ex ys fun z hz => h z (List.mem_cons_of_mem _ hz)
    refine ⟨a :: as, by rw [h1, h3]; rfl, ?_⟩
    intro z hz
    rcases List.mem_cons.mp hz with rfl | hz
    · exact h2
    · exact h4 z hz
theorem allStr_map {α : Type} (f : α → List Nat) : ∀ xs : List α, allStr (xs.map fun x => .str (f x)) = some (xs.map f)
  | [] => rfl
  | x :: xs => by
    show (allStr (xs.map fun x => .str (f x))).map (f x :: ·) = _
    rw [allStr_map f xs]; rfl
theorem joinL_one : ∀ cs : List Nat, joinL [] (cs.map fun c => [c]) = cs
  | [] => rfl
  | [c] => rfl
  | c :: d :: r => by
    have := joinL_one (d :: r)
    simp only [List.map_cons] at this ⊢
    rw [joinL, this]
    rfl
theorem sumLen_one : ∀ cs : List Nat, sumLen (cs.map fun c => [c]) = cs.length
  | [] => rfl
  | c :: r => by
    simp only [List.map_cons, sumLen, List.length_cons, List.length_nil, sumLen_one r]
    omega
theorem join_one {cs : List Nat} (h : cs.length ≤ 16777216) : m1S .join [] (.lst (cs.map fun c => .str [c])) = some (.str cs) := by
  have e : allStr (cs.map fun c => .str [c]) = some (cs.map fun c => [c]) := allStr_map (fun c => [c]) cs
  simp only [m1S, e, Option.bind_some, sumLen_one, joinL_one, List.length_nil, Nat.mul_zero, Nat.add_zero]
  exact if_pos (by rw [lim16]; exact h)
end PB
namespace PB
open PySem
theorem bind_strW {β : Type} (s : List Nat) (st : Sr) (f : List Nat × Sr → Rs β) : (Rs.ofO ((strW (.d (.str s))).map fun s => (s, st))).bind f = f (s, st) := rfl
theorem op1_ok {f : Dt → Option Dt} {x z : Dt} {st : Sr} (h : f x = some z) : op1 f (.d x, st) = .ok (.d z, st) := by rw [op1_d, h]; rfl
theorem evE_m1_ok {Γ : Gam} {ρ : Ev} {st st1 st2 : Sr} {m : M1} {a b : Ex} {s : List Nat} {x z : Dt} (h1 : evE Γ a ρ st = .ok (.d (.str s), st1)) (h2 : evE Γ b ρ st1 = .ok (.d x, st2)) (h3 : m1S m s x = some z) : evE Γ (.m1 m a b) ρ st = .ok (.d z, st2) := by
  rw [evE_m1, h1, Rs.bind_ok]
  generalize m1S m = f at h3 ⊢
  rw [bind_strW]
  dsimp only
  rw [h2, Rs.bind_ok, op1_ok h3]
theorem evE_lc_ok {Γ : Gam} {ρ : Ev} {st st1 : Sr} {elt : Ex} {tg : Tg} {it : Itx} {ifs : Exs} {xs ys : List Dt} (h1 : evI Γ it ρ st = .ok ((xs, []), st1)) (h2 : lcL [] (lcTurn (evIfs Γ ifs) (evE Γ elt) tg ρ) xs st1 = .ok (ys, st1)) (h3 : ys.length ≤ 16777216) :
    evE Γ (.lc elt tg it ifs) ρ st = .ok (.d (.lst ys), st1) := by
  rw [evE_lc, h1, Rs.bind_ok]
  show (lcL [] (lcTurn (evIfs Γ ifs) (evE Γ elt) tg ρ) xs st1).bind lcEnd = _
  rw [h2, Rs.bind_ok, lcEnd_ok (by rw [lim16]; exact h3)]
theorem bind_intW {β : Type} (i : Int) (f : Int → Option β) : (intW (.d (.int i))).bind f = f i := rfl
theorem evI_rng_ok {Γ : Gam} {ρ : Ev} {st st1 : Sr} {e : Ex} {m : Nat} (h1 : evE Γ e ρ st = .ok (.d (.int m), st1)) (h2 : m < 1073741824) : evI Γ (.rng1 e) ρ st = .ok ((rangeL 0 m, []), st1) := by
  have hr : itRng st1 0 (m : Int) = some ((rangeL 0 m, []), st1) := by
    rw [itRng_ok ⟨by decide, by decide, by omega, by omega⟩, Int.sub_zero, Int.toNat_natCast]
  rw [evI_rng1, h1, Rs.bind_ok]
  revert hr
  generalize itRng = f
  intro hr
  dsimp only
  rw [bind_intW, hr, Rs.ofO_some]
end PB
namespace PB
open PySem
/-- an invariant of a for whose turns change objects too -/
theorem exFor_invS {body : Ev → Sr → Rs Sx} {tg : Tg} (I : Nat → Ev → Sr → Prop) : ∀ (xs : List Dt) (k : Nat) (ρ : Ev) (st : Sr), I k ρ st → (∀ j x ρ st, xs[j]? = some x → I (k + j) ρ st → ∃ ρ1 ρ2 st2, setTg tg x ρ = some ρ1 ∧ body ρ1 st = .ok ((.nx, ρ2), st2) ∧ I (k + j + 1) ρ2 st2) →
    ∃ ρ' st', exFor body tg [] xs ρ st = .ok ((.nx, ρ'), st') ∧ I (k + xs.length) ρ' st'
  | [], k, ρ, st, h, _ => ⟨ρ, st, rfl, h⟩
  | x :: xs, k, ρ, st, h, hs => by
    obtain ⟨ρ1, ρ2, st2, h1, h2, h3⟩ := hs 0 x ρ st rfl h
    obtain ⟨ρ', st', h4, h5⟩ := exFor_invS I xs (k + 1) ρ2 st2 h3 fun j y ρ st hj hI => by
      have := hs (j + 1) y ρ st hj (by rwa [show k + (j + 1) = k + 1 + j by omega])
      rwa [show k + (j + 1) + 1 = k + 1 + j + 1 by omega] at this
    refine ⟨ρ', st', ?_, ?_⟩
    · rw [exFor_cons h1 h2 rfl]; exact h4
    · rw [List.length_cons, show k + (xs.length + 1) = k + 1 + xs.length by omega]; exact h5
theorem exS_for_ok {Γ : Gam} {ρ ρ' : Ev} {st st1 st' : Sr} {tg : Tg} {it : Itx} {b : Sms} {xs : List Dt} (h1 : evI Γ it ρ st = .ok ((xs, []), st1)) (h2 : exFor (exSs Γ b) tg [] xs ρ st1 = .ok ((.nx, ρ'), st')) : exS Γ (.forS tg it b) ρ st = .ok ((.nx, ρ'), st') := by
  rw [exS_for, h1, Rs.bind_ok, h2]
@[simp] theorem view0 (vs : List Dt) : viewW [.lst vs] (.ob 0) = some (.lst vs) := rfl
theorem op1_v {f : Dt → Option Dt} {w : Wv} {st : Sr} {x : Dt} (h : viewW st w = some x) : op1 f (w, st) = Rs.ofO ((f x).map fun z => (.d z, st)) := by
  unfold op1; rw [h]; rfl
theorem op2_v {f : Dt → Dt → Option Dt} {w u : Wv} {st : Sr} {x y : Dt} (h : viewW st w = some x) (h2 : viewW st u = some y) : op2 f w (u, st) = Rs.ofO ((f x y).map fun z => (.d z, st)) := by
  unfold op2; rw [h, h2]; rfl
theorem notin_lst {a : Dt} {xs : List Dt} (h : depD a ≤ 64 ∨ depDs xs ≤ 64) : copD .notin a (.lst xs) = some (!xs.any fun z => eqD z a) := by
  cases a with
  | str s => cases s <;> simp [copD, h]
  | _ => simp [copD, h]
theorem app0 {Γ : Gam} {ρ : Ev} {vs : List Dt} {i : Nat} {e : Ex} {y : Dt} (h1 : ρ[i]? = some (some (.ob 0))) (h2 : evE Γ e ρ [.lst vs] = .ok (.d y, [.lst vs])) (h3 : vs.length < 16777216) : exS Γ (.app i e) ρ [.lst vs] = .ok ((.nx, ρ), [.lst (vs ++ [y])]) := by
  rw [exS_app, h1]
  show (evE Γ e ρ [.lst vs]).bind (appW 0 ρ) = _
  rw [h2, Rs.bind_ok]
  unfold appW
  exact if_pos (by rw [lim16]; exact h3)
end PB
namespace PB
open PySem
theorem exWhl_stop {c : Ev → Sr → Rs (Bool × Sr)} {body : Ev → Sr → Rs Sx} {N : Nat} {ρ : Ev} {st st' : Sr} (h : c ρ st = .ok (false, st')) : exWhl c body (N + 1) ρ st = .ok ((.nx, ρ), st') := by
  rw [exWhl, h]; rfl
theorem exWhl_go {c : Ev → Sr → Rs (Bool × Sr)} {body : Ev → Sr → Rs Sx} {N : Nat} {ρ ρ2 : Ev} {st st' st2 : Sr} (h : c ρ st = .ok (true, st')) (hb : body ρ st' = .ok ((.nx, ρ2), st2)) : exWhl c body (N + 1) ρ st = exWhl c body N ρ2 st2 := by
  rw [exWhl, h]
  show (body ρ st').bind _ = _
  rw [hb]; rfl
theorem turns_3 : turns = 999997 + 1 + 1 + 1 := by unfold turns; omega
/-- a for that may break: I ahead of each turn, J at the end -/
theorem exFor_invB {body : Ev → Sr → Rs Sx} {tg : Tg} {st : Sr} (I : Ev → Prop) (J : Ev → Prop) (hIJ : ∀ ρ, I ρ → J ρ) : ∀ (xs : List Dt) (ρ : Ev), I ρ → (∀ x ∈ xs, ∀ ρ, I ρ → ∃ ρ1 ρ2, setTg tg x ρ = some ρ1 ∧ ((body ρ1 st = .ok ((.nx, ρ2), st) ∧ I ρ2) ∨ (body ρ1 st = .ok ((.bk, ρ2), st) ∧ J ρ2))) →
    ∃ ρ', exFor body tg [] xs ρ st = .ok ((.nx, ρ'), st) ∧ J ρ'
  | [], ρ, h, _ => ⟨ρ, rfl, hIJ ρ h⟩
  | x :: xs, ρ, h, hs => by
    obtain ⟨ρ1, ρ2, h1, ⟨h2, h3⟩ | ⟨h2, h3⟩⟩ := hs x List.mem_cons_self ρ h
    · obtain ⟨ρ', h4, h5⟩ := exFor_invB I J hIJ xs ρ2 h3 fun y hy => hs y (List.mem_cons_of_mem _ hy)
      exact ⟨ρ', by rw [exFor_cons h1 h2 rfl]; exact h4, h5⟩
    · exact ⟨ρ2, by rw [exFor, h1]; simp [h2], h3⟩
/-- a for that tells the first item that a test finds, or goes through -/
theorem exFor_find {body : Ev → Sr → Rs Sx} {tg : Tg} {st : Sr} {ws : List (Nat × List Dt)} (hw : watchOk ws st = true) (I : Ev → Prop) (t : Dt → Bool) : ∀ (xs : List Dt) (ρ : Ev), I ρ → (∀ x ∈ xs, ∀ ρ, I ρ → ∃ ρ1 ρ2, setTg tg x ρ = some ρ1 ∧ body ρ1 st = .ok ((if t x then .rt (.d x) else .nx, ρ2), st) ∧ I ρ2) →
    ∃ ρ', I ρ' ∧ ((exFor body tg ws xs ρ st = .ok ((.nx, ρ'), st) ∧ ∀ x ∈ xs, t x = false) ∨ ∃ x ∈ xs, t x = true ∧ exFor body tg ws xs ρ st = .ok ((.rt (.d x), ρ'), st))
  | [], ρ, h, _ => ⟨ρ, h, .inl ⟨rfl, by simp⟩⟩
  | x :: xs, ρ, h, hs => by
    obtain ⟨ρ1, ρ2, h1, h2, h3⟩ := hs x List.mem_cons_self ρ h
    cases ht : t x with
    | true =>
      refine ⟨ρ2, h3, .inr ⟨x, List.mem_cons_self, ht, ?_⟩⟩
      rw [ht] at h2
      rw [exFor, h1]; simp [h2]
    | false =>
      rw [ht] at h2
      obtain ⟨ρ', h4, h5⟩ := exFor_find hw I t xs ρ2 h3 fun y hy => hs y (List.mem_cons_of_mem _ hy)
      refine ⟨ρ', h4, ?_⟩
      have e : exFor body tg ws (x :: xs) ρ st = exFor body tg ws xs ρ2 st := exFor_cons h1 h2 hw
      rcases h5 with ⟨h5, h6⟩ | ⟨y, hy, h6, h7⟩
      · refine .inl ⟨by rw [e]; exact h5, ?_⟩
        intro z hz
        rcases List.mem_cons.mp hz with rfl | hz
        · exact ht
        · exact h6 z hz
      · exact .inr ⟨y, List.mem_cons_of_mem _ hy, h6, by rw [e]; exact h7⟩
end PB
namespace PB
open PySem
theorem op2_ok {f : Dt → Dt → Option Dt} {x y z : Dt} {st : Sr} (h : f x y = some z) : op2 f (.d x) (.d y, st) = .ok (.d z, st) := by rw [op2_d, h]; rfl
theorem evE_b2_ok {Γ : Gam} {ρ : Ev} {st st1 st2 : Sr} {o : B2} {a b : Ex} {x y z : Dt} (h1 : evE Γ a ρ st = .ok (.d x, st1)) (h2 : evE Γ b ρ st1 = .ok (.d y, st2)) (h3 : b2D o x y = some z) : evE Γ (.b2 o a b) ρ st = .ok (.d z, st2) := by
  rw [evE_b2, h1, Rs.bind_ok]
  dsimp only
  rw [h2, Rs.bind_ok, op2_ok h3]
theorem evE_bin_ok {Γ : Gam} {ρ : Ev} {st st1 st2 : Sr} {o : Bop} {a b : Ex} {x y z : Dt} (h1 : evE Γ a ρ st = .ok (.d x, st1)) (h2 : evE Γ b ρ st1 = .ok (.d y, st2)) (h3 : bopD o x y = some z) : evE Γ (.bin o a b) ρ st = .ok (.d z, st2) := by
  rw [evE_bin, h1, Rs.bind_ok]
  dsimp only
  rw [h2, Rs.bind_ok, op2_ok h3]
theorem evE_cmp_ok {Γ : Gam} {ρ : Ev} {st st1 st2 : Sr} {o : Cop} {a b : Ex} {x y : Dt} {z : Bool} (h1 : evE Γ a ρ st = .ok (.d x, st1)) (h2 : evE Γ b ρ st1 = .ok (.d y, st2)) (h3 : copD o x y = some z) : evE Γ (.cmp o a b) ρ st = .ok (.d (.bl z), st2) := by
  rw [evE_cmp, h1, Rs.bind_ok]
  dsimp only
  rw [h2, Rs.bind_ok]
  exact op2_ok (by simp only [h3]; rfl)
theorem exS_ret_ok {Γ : Gam} {ρ : Ev} {st st1 : Sr} {e : Ex} {w : Wv} (h : evE Γ e ρ st = .ok (w, st1)) : exS Γ (.ret e) ρ st = .ok ((.rt w, ρ), st1) := by rw [exS_ret, h]; rfl
theorem exS_set_ok {Γ : Gam} {ρ : Ev} {st st1 : Sr} {e : Ex} {i : Nat} {w : Wv} (h : evE Γ e ρ st = .ok (w, st1)) : exS Γ (.set i e) ρ st = .ok ((.nx, ρ.set i (some w)), st1) := by rw [exS_set, h]; rfl
/-- a branch that is not taken, or is -/
theorem exS_if_no {Γ : Gam} {ρ : Ev} {st st1 : Sr} {c : Ex} {a : Sms} {x : Dt} (h : evE Γ c ρ st = .ok (.d x, st1)) (hx : truthD x = false) : exS Γ (.ife c a .nil) ρ st = .ok ((.nx, ρ), st1) := by
  rw [exS_ife, evT_eq, h, Rs.bind_ok]
  show ((Rs.ok (truthD x)).bind _).bind _ = _
  rw [hx, Rs.bind_ok, Rs.bind_ok]
  exact exSs_nil (Γ := Γ)
theorem exS_if_yes {Γ : Gam} {ρ : Ev} {st st1 : Sr} {c : Ex} {a b : Sms} {x : Dt} (h : evE Γ c ρ st = .ok (.d x, st1)) (hx : truthD x = true) : exS Γ (.ife c a b) ρ st = exSs Γ a ρ st1 := by
  rw [exS_ife, evT_eq, h, Rs.bind_ok]
  show ((Rs.ok (truthD x)).bind _).bind _ = _
  rw [hx, Rs.bind_ok, Rs.bind_ok]; rfl
theorem exSs_nx {Γ : Gam} {ρ ρ1 : Ev} {st st1 : Sr} {s : Sm} {r : Sms} (h : exS Γ s ρ st = .ok ((.nx, ρ1), st1)) : exSs Γ (.cons s r) ρ st = exSs Γ r ρ1 st1 := by rw [exSs_cons, h, Rs.bind_ok, thenS_nx]
theorem exSs_rt {Γ : Gam} {ρ ρ1 : Ev} {st st1 : Sr} {s : Sm} {r : Sms} {w : Wv} (h : exS Γ s ρ st = .ok ((.rt w, ρ1), st1)) : exSs Γ (.cons s r) ρ st = .ok ((.rt w, ρ1), st1) := by rw [exSs_cons, h, Rs.bind_ok, thenS_rt]
theorem evE_p1_ok {Γ : Gam} {ρ : Ev} {st st1 : Sr} {p : P1} {a : Ex} {x z : Dt} (h1 : evE Γ a ρ st = .ok (.d x, st1)) (h3 : p1D p x = some z) : evE Γ (.p1 p a) ρ st = .ok (.d z, st1) := by
  rw [evE_p1, h1, Rs.bind_ok, op1_ok h3]
end PB

set_option backward.match.sparseCases true
namespace PBX
open PySem PB
def s_abcdefgh_50bd : List Nat := [97, 98, 99, 100, 101, 102, 103, 104, 105, 106, 107, 108, 109, 110, 111, 112, 113, 114, 115, 116, 117, 118, 119, 120, 121, 122]
def s_abcdefgh_ddbe : List Nat := [97, 98, 99, 100, 101, 102, 103, 104, 105, 106, 107, 108, 109, 110, 111, 112, 113, 114, 115, 116, 117, 118, 119, 120, 121, 122, 48, 49, 50, 51, 52, 53, 54, 55, 56, 57, 45]
def s_01234567_50ba : List Nat := [48, 49, 50, 51, 52, 53, 54, 55, 56, 57, 45]
def s_list_f818 : List Nat := [108, 105, 115, 116]
def s_text_a7c7 : List Nat := [116, 101, 120, 116]
def s_truth_2626 : List Nat := [116, 114, 117, 116, 104]
def s_number_1f54 : List Nat := [110, 117, 109, 98, 101, 114]
def s_01234567_c7c6 : List Nat := [48, 49, 50, 51, 52, 53, 54, 55, 56, 57]
def s_setting_b898 : List Nat := [115, 101, 116, 116, 105, 110, 103]
def s_section_7aef : List Nat := [115, 101, 99, 116, 105, 111, 110]
def s_remark_d839 : List Nat := [114, 101, 109, 97, 114, 107]
def s_nothing_8ed7 : List Nat := [110, 111, 116, 104, 105, 110, 103]
def s_a_fd6d : List Nat := [34, 92, 35, 93, 44, 91, 32, 61, 36, 123, 97, 125, 46]
def s_01234567_b361 : List Nat := [32, 33, 34, 35, 36, 38, 39, 40, 41, 42, 43, 44, 45, 46, 47, 48, 49, 50, 51, 52, 53, 54, 55, 56, 57, 58, 59, 60, 61, 62, 63, 64, 65, 66, 67, 68, 69, 70, 71, 72, 73, 74, 75, 76, 77, 78, 79, 80, 81, 82, 83, 84, 85, 86, 87, 88, 89, 90, 91, 92, 93, 94, 95, 96, 97, 98, 99, 100, 101, 102, 103, 104, 105, 106, 107, 108, 109, 110, 111, 112, 113, 114, 115, 116, 117, 118, 119, 120, 121, 122, 123, 124, 125, 126]
def s_none_00cf : List Nat := [110, 111, 110, 101]
def s_a_1b54 : List Nat := [46, 46, 97, 93]
def s_a_365e : List Nat := [46, 32, 97, 93]
def s_1_0102 : List Nat := [93, 32, 61, 32, 49]
def s_1_2279 : List Nat := [32, 61, 32, 49]
def s_1_761c : List Nat := [34, 32, 61, 32, 49]
def s__5331 : List Nat := [32, 61, 32, 35]
def s__6e97 : List Nat := [32, 61, 61, 32]
def s_a1_5ad1 : List Nat := [35, 32, 97, 32, 61, 32, 49]
def s_abc_cf0d : List Nat := [91, 97, 46, 98, 93, 32, 35, 32, 99]
def s_a1_50a3 : List Nat := [32, 32, 35, 97, 32, 61, 32, 49]
def s_a01_020d : List Nat := [97, 32, 61, 32, 48, 49]
def s_a1_3c44 : List Nat := [97, 32, 61, 32, 91, 49, 44, 93]
def s_a1b_3214 : List Nat := [97, 32, 61, 32, 49, 32, 59, 32, 98]
def s_a_dcc3 : List Nat := [97, 32, 61, 32, 91]
def s_a1_ffd2 : List Nat := [39, 97, 32, 61, 32, 49, 39]
def s_a1_aa35 : List Nat := [34, 97, 34, 32, 61, 32, 49]
def s_a12_b495 : List Nat := [97, 32, 61, 32, 49, 32, 50]
def s_a1_0ba4 : List Nat := [97, 58, 32, 49]
abbrev c_is_number : Nat := 0
abbrev c_is_name : Nat := 1
abbrev c_days_in : Nat := 2
abbrev c_is_day : Nat := 3
abbrev c_is_value_so_deep : Nat := 4
abbrev c_is_value : Nat := 5
abbrev c_quoted : Nat := 6
abbrev c_written_value : Nat := 7
abbrev c_behind_blanks : Nat := 8
abbrev c_text_from : Nat := 9
abbrev c_list_from : Nat := 10
abbrev c_are_figures : Nat := 11
abbrev c_plain_value : Nat := 12
abbrev c_value_from : Nat := 13
abbrev c_whole_value_from : Nat := 14
abbrev c_name_from : Nat := 15
abbrev c_section_from : Nat := 16
abbrev c_setting_from : Nat := 17
abbrev c_remark_behind : Nat := 18
abbrev c_parts_of : Nat := 19
abbrev c_read_row : Nat := 20
abbrev c_remark_in : Nat := 21
abbrev c_row_with : Nat := 22
abbrev c__law_cell : Nat := 23
abbrev c__law_mix : Nat := 24
abbrev c__law_name : Nat := 25
abbrev c__law_text : Nat := 26
abbrev c__law_days : Nat := 27
abbrev c__law_day : Nat := 28
abbrev c__law_value : Nat := 29
abbrev c__law_quoted : Nat := 30
abbrev c__law_written : Nat := 31
abbrev c__law_told : Nat := 32
abbrev c__law_spoilt : Nat := 33
abbrev c_law : Nat := 34
abbrev g_LETTERS : Nat := 0
abbrev g_MOST : Nat := 1
abbrev g_MONTHS : Nat := 2
abbrev g_SIGNS : Nat := 3
abbrev x_SettingsError : Nat := 0
abbrev x_NoValue : Nat := 1
abbrev x_NoRow : Nat := 2
/-- is_number -/
def b_is_number : Sms :=
    (.cons (.ret (.and (.cons (.isi (.v 0) .int) (.cons (.not (.isi (.v 0) .bool)) (.cons (.cmp2 .le .le (.v 1) (.v 0) (.v 2)) .nil)))))
    .nil)
abbrev f_is_number : Fn := ⟨3, 3, b_is_number⟩
abbrev le0_is_name : Ex :=
    (.or (.cons (.cmp .inn (.v 1) (.g 0)) (.cons (.cmp .inn (.v 1) (.str s_01234567_50ba)) .nil)))
abbrev li0_is_name : Exs :=
    .nil
/-- is_name -/
def b_is_name : Sms :=
    (.cons (.ife (.or (.cons (.not (.isi (.v 0) .str)) (.cons (.not (.cmp2 .le .le (.int 1) (.p1 .len (.v 0)) (.int 8))) (.cons (.cmp .notin (.ix (.v 0) (.int 0)) (.g 0)) .nil)))) (.cons (.ret (.bl false))
    .nil) .nil)
    (.cons (.ret (.p1 .all (.lc (.or (.cons (.cmp .inn (.v 1) (.g 0)) (.cons (.cmp .inn (.v 1) (.str s_01234567_50ba)) .nil))) (.one 1) (.seq (.v 0)) .nil)))
    .nil))
abbrev f_is_name : Fn := ⟨1, 2, b_is_name⟩
/-- days_in -/
def b_days_in : Sms :=
    (.cons (.ife (.and (.cons (.cmp .eq (.v 1) (.int 2)) (.cons (.cmp .eq (.bin .mod (.v 0) (.int 4)) (.int 0)) (.cons (.or (.cons (.cmp .ne (.bin .mod (.v 0) (.int 100)) (.int 0)) (.cons (.cmp .eq (.bin .mod (.v 0) (.int 400)) (.int 0)) .nil))) .nil)))) (.cons (.ret (.int 29))
    .nil) .nil)
    (.cons (.ret (.ix (.g 2) (.bin .sub (.v 1) (.int 1))))
    .nil))
abbrev f_days_in : Fn := ⟨2, 2, b_days_in⟩
/-- is_day -/
def b_is_day : Sms :=
    (.cons (.ife (.or (.cons (.not (.isi (.v 0) .tuple)) (.cons (.cmp .ne (.p1 .len (.v 0)) (.int 3)) .nil))) (.cons (.ret (.bl false))
    .nil) .nil)
    (.cons (.unp [1, 2, 3] (.v 0))
    (.cons (.ret (.and (.cons (.call 0 (.cons (.v 1) (.cons (.int 1) (.cons (.int 9999) .nil)))) (.cons (.call 0 (.cons (.v 2) (.cons (.int 1) (.cons (.int 12) .nil)))) (.cons (.call 0 (.cons (.v 3) (.cons (.int 1) (.cons (.call 2 (.cons (.v 1) (.cons (.v 2) .nil))) .nil)))) .nil)))))
    .nil)))
abbrev f_is_day : Fn := ⟨1, 4, b_is_day⟩
abbrev le0_is_value_so_deep : Ex :=
    (.call 4 (.cons (.v 4) (.cons (.bin .sub (.v 1) (.int 1)) .nil)))
abbrev li0_is_value_so_deep : Exs :=
    .nil
/-- is_value_so_deep -/
def b_is_value_so_deep : Sms :=
    (.cons (.ife (.or (.cons (.not (.isi (.v 0) .tuple)) (.cons (.cmp .ne (.p1 .len (.v 0)) (.int 2)) (.cons (.not (.isi (.ix (.v 0) (.int 0)) .str)) .nil)))) (.cons (.ret (.bl false))
    .nil) .nil)
    (.cons (.unp [2, 3] (.v 0))
    (.cons (.ife (.cmp .eq (.v 2) (.str s_number_1f54)) (.cons (.ret (.call 0 (.cons (.v 3) (.cons (.neg (.g 1)) (.cons (.g 1) .nil)))))
    .nil) .nil)
    (.cons (.ife (.cmp .eq (.v 2) (.str s_truth_2626)) (.cons (.ret (.isi (.v 3) .bool))
    .nil) .nil)
    (.cons (.ife (.cmp .eq (.v 2) (.str s_text_a7c7)) (.cons (.ret (.and (.cons (.isi (.v 3) .str) (.cons (.cmp .le (.p1 .len (.v 3)) (.int 60)) .nil))))
    .nil) .nil)
    (.cons (.ife (.cmp .eq (.v 2) (.str [100, 97, 121])) (.cons (.ret (.call 3 (.cons (.v 3) .nil)))
    .nil) .nil)
    (.cons (.ife (.or (.cons (.cmp .ne (.v 2) (.str s_list_f818)) (.cons (.cmp .eq (.v 1) (.int 0)) (.cons (.not (.isi (.v 3) .tuple)) (.cons (.cmp .gt (.p1 .len (.v 3)) (.int 6)) .nil))))) (.cons (.ret (.bl false))
    .nil) .nil)
    (.cons (.ret (.p1 .all (.lc (.call 4 (.cons (.v 4) (.cons (.bin .sub (.v 1) (.int 1)) .nil))) (.one 4) (.seq (.v 3)) .nil)))
    .nil))))))))
abbrev f_is_value_so_deep : Fn := ⟨2, 5, b_is_value_so_deep⟩
/-- is_value -/
def b_is_value : Sms :=
    (.cons (.ret (.call 4 (.cons (.v 0) (.cons (.int 3) .nil))))
    .nil)
abbrev f_is_value : Fn := ⟨1, 1, b_is_value⟩
/-- quoted -/
def b_quoted : Sms :=
    (.cons (.quo 0) .nil)
abbrev f_quoted : Fn := ⟨1, 2, b_quoted⟩
abbrev le0_written_value : Ex :=
    (.call 7 (.cons (.v 3) .nil))
abbrev li0_written_value : Exs :=
    .nil
/-- written_value -/
def b_written_value : Sms :=
    (.cons (.unp [1, 2] (.v 0))
    (.cons (.ife (.cmp .eq (.v 1) (.str s_number_1f54)) (.cons (.ret (.p1 .str (.v 2)))
    .nil) .nil)
    (.cons (.ife (.cmp .eq (.v 1) (.str s_truth_2626)) (.cons (.ife (.v 2) (.cons (.ret (.str [121, 101, 115]))
    .nil) .nil)
    (.cons (.ret (.str [110, 111]))
    .nil)) .nil)
    (.cons (.ife (.cmp .eq (.v 1) (.str s_text_a7c7)) (.cons (.ret (.call 6 (.cons (.v 2) .nil)))
    .nil) .nil)
    (.cons (.ife (.cmp .eq (.v 1) (.str [100, 97, 121])) (.cons (.ret (.bin .add (.bin .add (.bin .add (.bin .add (.m1 .zfill (.p1 .str (.ix (.v 2) (.int 0))) (.int 4)) (.str [45])) (.m1 .zfill (.p1 .str (.ix (.v 2) (.int 1))) (.int 2))) (.str [45])) (.m1 .zfill (.p1 .str (.ix (.v 2) (.int 2))) (.int 2))))
    .nil) .nil)
    (.cons (.ret (.bin .add (.bin .add (.str [91]) (.m1 .join (.str [44, 32]) (.lc (.call 7 (.cons (.v 3) .nil)) (.one 3) (.seq (.v 2)) .nil))) (.str [93])))
    .nil))))))
abbrev f_written_value : Fn := ⟨1, 4, b_written_value⟩
abbrev wc0_behind_blanks : Ex :=
    (.cmp .eq (.sl (.v 0) (.yes (.v 1)) (.yes (.bin .add (.v 1) (.int 1)))) (.str [32]))
abbrev wb0_behind_blanks : Sms :=
    (.cons (.set 1 (.bin .add (.v 1) (.int 1)))
    .nil)
/-- behind_blanks -/
def b_behind_blanks : Sms :=
    (.cons (.whl (.cmp .eq (.sl (.v 0) (.yes (.v 1)) (.yes (.bin .add (.v 1) (.int 1)))) (.str [32])) (.cons (.set 1 (.bin .add (.v 1) (.int 1)))
    .nil))
    (.cons (.ret (.v 1))
    .nil))
abbrev f_behind_blanks : Fn := ⟨2, 2, b_behind_blanks⟩
abbrev wc0_text_from : Ex :=
    (.cmp .ne (.sl (.v 0) (.yes (.v 1)) (.yes (.bin .add (.v 1) (.int 1)))) (.str [34]))
abbrev wb0_text_from : Sms :=
    (.cons (.set 3 (.sl (.v 0) (.yes (.v 1)) (.yes (.bin .add (.v 1) (.int 1)))))
    (.cons (.ife (.cmp .eq (.v 3) (.str [92])) (.cons (.set 1 (.bin .add (.v 1) (.int 1)))
    (.cons (.set 3 (.sl (.v 0) (.yes (.v 1)) (.yes (.bin .add (.v 1) (.int 1)))))
    (.cons (.ife (.cmp .notin (.v 3) (.tup (.cons (.str [34]) (.cons (.str [92]) .nil)))) (.cons (.rai x_NoValue)
    .nil) .nil)
    .nil))) .nil)
    (.cons (.ife (.cmp .eq (.v 3) (.str [])) (.cons (.rai x_NoValue)
    .nil) .nil)
    (.cons (.set 2 (.bin .add (.v 2) (.v 3)))
    (.cons (.set 1 (.bin .add (.v 1) (.int 1)))
    .nil)))))
/-- text_from -/
def b_text_from : Sms :=
    (.cons (.set 2 (.str []))
    (.cons (.set 1 (.bin .add (.v 1) (.int 1)))
    (.cons (.whl (.cmp .ne (.sl (.v 0) (.yes (.v 1)) (.yes (.bin .add (.v 1) (.int 1)))) (.str [34])) (.cons (.set 3 (.sl (.v 0) (.yes (.v 1)) (.yes (.bin .add (.v 1) (.int 1)))))
    (.cons (.ife (.cmp .eq (.v 3) (.str [92])) (.cons (.set 1 (.bin .add (.v 1) (.int 1)))
    (.cons (.set 3 (.sl (.v 0) (.yes (.v 1)) (.yes (.bin .add (.v 1) (.int 1)))))
    (.cons (.ife (.cmp .notin (.v 3) (.tup (.cons (.str [34]) (.cons (.str [92]) .nil)))) (.cons (.rai x_NoValue)
    .nil) .nil)
    .nil))) .nil)
    (.cons (.ife (.cmp .eq (.v 3) (.str [])) (.cons (.rai x_NoValue)
    .nil) .nil)
    (.cons (.set 2 (.bin .add (.v 2) (.v 3)))
    (.cons (.set 1 (.bin .add (.v 1) (.int 1)))
    .nil))))))
    (.cons (.ret (.tup (.cons (.tup (.cons (.str s_text_a7c7) (.cons (.v 2) .nil))) (.cons (.bin .add (.v 1) (.int 1)) .nil))))
    .nil))))
abbrev f_text_from : Fn := ⟨2, 4, b_text_from⟩
abbrev wc0_list_from : Ex :=
    (.bl true)
abbrev wb0_list_from : Sms :=
    (.cons (.unp [4, 1] (.call 13 (.cons (.v 0) (.cons (.v 1) (.cons (.bin .sub (.v 2) (.int 1)) .nil)))))
    (.cons (.app 3 (.v 4))
    (.cons (.set 1 (.call 8 (.cons (.v 0) (.cons (.v 1) .nil))))
    (.cons (.ife (.cmp .eq (.sl (.v 0) (.yes (.v 1)) (.yes (.bin .add (.v 1) (.int 1)))) (.str [93])) (.cons (.ret (.tup (.cons (.tup (.cons (.str s_list_f818) (.cons (.p1 .tuple (.v 3)) .nil))) (.cons (.bin .add (.v 1) (.int 1)) .nil))))
    .nil) .nil)
    (.cons (.ife (.cmp .ne (.sl (.v 0) (.yes (.v 1)) (.yes (.bin .add (.v 1) (.int 1)))) (.str [44])) (.cons (.rai x_NoValue)
    .nil) .nil)
    (.cons (.set 1 (.call 8 (.cons (.v 0) (.cons (.bin .add (.v 1) (.int 1)) .nil))))
    .nil))))))
/-- list_from -/
def b_list_from : Sms :=
    (.cons (.ife (.cmp .eq (.v 2) (.int 0)) (.cons (.rai x_NoValue)
    .nil) .nil)
    (.cons (.setL 3 (.lst .nil))
    (.cons (.set 1 (.call 8 (.cons (.v 0) (.cons (.bin .add (.v 1) (.int 1)) .nil))))
    (.cons (.ife (.cmp .eq (.sl (.v 0) (.yes (.v 1)) (.yes (.bin .add (.v 1) (.int 1)))) (.str [93])) (.cons (.ret (.tup (.cons (.tup (.cons (.str s_list_f818) (.cons (.tup .nil) .nil))) (.cons (.bin .add (.v 1) (.int 1)) .nil))))
    .nil) .nil)
    (.cons (.whl (.bl true) (.cons (.unp [4, 1] (.call 13 (.cons (.v 0) (.cons (.v 1) (.cons (.bin .sub (.v 2) (.int 1)) .nil)))))
    (.cons (.app 3 (.v 4))
    (.cons (.set 1 (.call 8 (.cons (.v 0) (.cons (.v 1) .nil))))
    (.cons (.ife (.cmp .eq (.sl (.v 0) (.yes (.v 1)) (.yes (.bin .add (.v 1) (.int 1)))) (.str [93])) (.cons (.ret (.tup (.cons (.tup (.cons (.str s_list_f818) (.cons (.p1 .tuple (.v 3)) .nil))) (.cons (.bin .add (.v 1) (.int 1)) .nil))))
    .nil) .nil)
    (.cons (.ife (.cmp .ne (.sl (.v 0) (.yes (.v 1)) (.yes (.bin .add (.v 1) (.int 1)))) (.str [44])) (.cons (.rai x_NoValue)
    .nil) .nil)
    (.cons (.set 1 (.call 8 (.cons (.v 0) (.cons (.bin .add (.v 1) (.int 1)) .nil))))
    .nil)))))))
    .nil)))))
abbrev f_list_from : Fn := ⟨3, 5, b_list_from⟩
abbrev le0_are_figures : Ex :=
    (.cmp .inn (.v 1) (.str s_01234567_c7c6))
abbrev li0_are_figures : Exs :=
    .nil
/-- are_figures -/
def b_are_figures : Sms :=
    (.cons (.ret (.and (.cons (.cmp .ne (.v 0) (.str [])) (.cons (.p1 .all (.lc (.cmp .inn (.v 1) (.str s_01234567_c7c6)) (.one 1) (.seq (.v 0)) .nil)) .nil))))
    .nil)
abbrev f_are_figures : Fn := ⟨1, 2, b_are_figures⟩
abbrev le0_plain_value : Ex :=
    (.call 11 (.cons (.v 2) .nil))
abbrev li0_plain_value : Exs :=
    .nil
abbrev le1_plain_value : Ex :=
    (.p1 .int (.v 2))
abbrev li1_plain_value : Exs :=
    .nil
/-- plain_value -/
def b_plain_value : Sms :=
    (.cons (.ife (.cmp .inn (.v 0) (.tup (.cons (.str [121, 101, 115]) (.cons (.str [110, 111]) .nil)))) (.cons (.ret (.tup (.cons (.str s_truth_2626) (.cons (.cmp .eq (.v 0) (.str [121, 101, 115])) .nil))))
    .nil) .nil)
    (.cons (.ife (.and (.cons (.call 11 (.cons (.v 0) .nil)) (.cons (.cmp .le (.p1 .len (.v 0)) (.int 9)) .nil))) (.cons (.ret (.tup (.cons (.str s_number_1f54) (.cons (.p1 .int (.v 0)) .nil))))
    .nil) .nil)
    (.cons (.ife (.and (.cons (.cmp .eq (.sl (.v 0) .no (.yes (.int 1))) (.str [45])) (.cons (.call 11 (.cons (.sl (.v 0) (.yes (.int 1)) .no) .nil)) (.cons (.cmp .le (.p1 .len (.v 0)) (.int 10)) .nil)))) (.cons (.ret (.tup (.cons (.str s_number_1f54) (.cons (.neg (.p1 .int (.sl (.v 0) (.yes (.int 1)) .no))) .nil))))
    .nil) .nil)
    (.cons (.set 1 (.m1 .split (.v 0) (.str [45])))
    (.cons (.ife (.and (.cons (.cmp .eq (.p1 .len (.v 0)) (.int 10)) (.cons (.cmp .eq (.p1 .len (.v 1)) (.int 3)) (.cons (.p1 .all (.lc (.call 11 (.cons (.v 2) .nil)) (.one 2) (.seq (.v 1)) .nil)) .nil)))) (.cons (.ret (.tup (.cons (.str [100, 97, 121]) (.cons (.p1 .tuple (.lc (.p1 .int (.v 2)) (.one 2) (.seq (.v 1)) .nil)) .nil))))
    .nil) .nil)
    (.cons (.ret .non)
    .nil))))))
abbrev f_plain_value : Fn := ⟨1, 3, b_plain_value⟩
abbrev wc0_value_from : Ex :=
    (.and (.cons (.cmp .ne (.sl (.v 0) (.yes (.v 3)) (.yes (.bin .add (.v 3) (.int 1)))) (.str [])) (.cons (.cmp .inn (.ix (.v 0) (.v 3)) (.g 3)) .nil)))
abbrev wb0_value_from : Sms :=
    (.cons (.set 3 (.bin .add (.v 3) (.int 1)))
    .nil)
/-- value_from -/
def b_value_from : Sms :=
    (.cons (.ife (.cmp .eq (.sl (.v 0) (.yes (.v 1)) (.yes (.bin .add (.v 1) (.int 1)))) (.str [34])) (.cons (.ret (.call 9 (.cons (.v 0) (.cons (.v 1) .nil))))
    .nil) .nil)
    (.cons (.ife (.cmp .eq (.sl (.v 0) (.yes (.v 1)) (.yes (.bin .add (.v 1) (.int 1)))) (.str [91])) (.cons (.ret (.call 10 (.cons (.v 0) (.cons (.v 1) (.cons (.v 2) .nil)))))
    .nil) .nil)
    (.cons (.set 3 (.v 1))
    (.cons (.whl (.and (.cons (.cmp .ne (.sl (.v 0) (.yes (.v 3)) (.yes (.bin .add (.v 3) (.int 1)))) (.str [])) (.cons (.cmp .inn (.ix (.v 0) (.v 3)) (.g 3)) .nil))) (.cons (.set 3 (.bin .add (.v 3) (.int 1)))
    .nil))
    (.cons (.set 4 (.call 12 (.cons (.sl (.v 0) (.yes (.v 1)) (.yes (.v 3))) .nil)))
    (.cons (.ife (.or (.cons (.cmp .is (.v 4) .non) (.cons (.cmp .ne (.call 7 (.cons (.v 4) .nil)) (.sl (.v 0) (.yes (.v 1)) (.yes (.v 3)))) .nil))) (.cons (.rai x_NoValue)
    .nil) .nil)
    (.cons (.ret (.tup (.cons (.v 4) (.cons (.v 3) .nil))))
    .nil)))))))
abbrev f_value_from : Fn := ⟨3, 5, b_value_from⟩
/-- whole_value_from -/
def b_whole_value_from : Sms :=
    (.cons (.unp [2, 3] (.call 13 (.cons (.v 0) (.cons (.v 1) (.cons (.int 3) .nil)))))
    (.cons (.ife (.not (.call 5 (.cons (.v 2) .nil))) (.cons (.rai x_NoValue)
    .nil) .nil)
    (.cons (.ret (.tup (.cons (.v 2) (.cons (.v 3) .nil))))
    .nil)))
abbrev f_whole_value_from : Fn := ⟨2, 4, b_whole_value_from⟩
abbrev wc0_name_from : Ex :=
    (.and (.cons (.cmp .ne (.sl (.v 0) (.yes (.v 2)) (.yes (.bin .add (.v 2) (.int 1)))) (.str [])) (.cons (.cmp .inn (.ix (.v 0) (.v 2)) (.g 3)) .nil)))
abbrev wb0_name_from : Sms :=
    (.cons (.set 2 (.bin .add (.v 2) (.int 1)))
    .nil)
/-- name_from -/
def b_name_from : Sms :=
    (.cons (.set 2 (.v 1))
    (.cons (.whl (.and (.cons (.cmp .ne (.sl (.v 0) (.yes (.v 2)) (.yes (.bin .add (.v 2) (.int 1)))) (.str [])) (.cons (.cmp .inn (.ix (.v 0) (.v 2)) (.g 3)) .nil))) (.cons (.set 2 (.bin .add (.v 2) (.int 1)))
    .nil))
    (.cons (.ife (.not (.call 1 (.cons (.sl (.v 0) (.yes (.v 1)) (.yes (.v 2))) .nil))) (.cons (.rai x_NoRow)
    .nil) .nil)
    (.cons (.ret (.tup (.cons (.sl (.v 0) (.yes (.v 1)) (.yes (.v 2))) (.cons (.v 2) .nil))))
    .nil))))
abbrev f_name_from : Fn := ⟨2, 3, b_name_from⟩
abbrev wc0_section_from : Ex :=
    (.cmp .eq (.sl (.v 0) (.yes (.v 1)) (.yes (.bin .add (.v 1) (.int 1)))) (.str [46]))
abbrev wb0_section_from : Sms :=
    (.cons (.unp [3, 1] (.call 15 (.cons (.v 0) (.cons (.bin .add (.v 1) (.int 1)) .nil))))
    (.cons (.set 2 (.bin .add (.v 2) (.tup (.cons (.v 3) .nil))))
    .nil))
/-- section_from -/
def b_section_from : Sms :=
    (.cons (.unp [3, 1] (.call 15 (.cons (.v 0) (.cons (.bin .add (.v 1) (.int 1)) .nil))))
    (.cons (.set 2 (.tup (.cons (.v 3) .nil)))
    (.cons (.whl (.cmp .eq (.sl (.v 0) (.yes (.v 1)) (.yes (.bin .add (.v 1) (.int 1)))) (.str [46])) (.cons (.unp [3, 1] (.call 15 (.cons (.v 0) (.cons (.bin .add (.v 1) (.int 1)) .nil))))
    (.cons (.set 2 (.bin .add (.v 2) (.tup (.cons (.v 3) .nil))))
    .nil)))
    (.cons (.ife (.or (.cons (.cmp .ne (.sl (.v 0) (.yes (.v 1)) (.yes (.bin .add (.v 1) (.int 1)))) (.str [93])) (.cons (.cmp .gt (.p1 .len (.v 2)) (.int 3)) .nil))) (.cons (.rai x_NoRow)
    .nil) .nil)
    (.cons (.ret (.tup (.cons (.v 2) (.cons (.bin .add (.v 1) (.int 1)) .nil))))
    .nil)))))
abbrev f_section_from : Fn := ⟨2, 4, b_section_from⟩
/-- setting_from -/
def b_setting_from : Sms :=
    (.cons (.unp [3, 1] (.call 15 (.cons (.v 0) (.cons (.v 1) .nil))))
    (.cons (.set 1 (.call 8 (.cons (.v 0) (.cons (.v 1) .nil))))
    (.cons (.ife (.cmp .ne (.sl (.v 0) (.yes (.v 1)) (.yes (.bin .add (.v 1) (.int 1)))) (.str [61])) (.cons (.rai x_NoRow)
    .nil) .nil)
    (.cons (.set 2 (.call 8 (.cons (.v 0) (.cons (.bin .add (.v 1) (.int 1)) .nil))))
    (.cons (.tryR x_NoValue x_NoRow (.cons (.unp [4, 5] (.call 14 (.cons (.v 0) (.cons (.v 2) .nil))))
    .nil))
    (.cons (.ret (.tup (.cons (.v 3) (.cons (.v 4) (.cons (.v 2) (.cons (.v 5) .nil))))))
    .nil))))))
abbrev f_setting_from : Fn := ⟨2, 6, b_setting_from⟩
/-- remark_behind -/
def b_remark_behind : Sms :=
    (.cons (.set 2 (.call 8 (.cons (.v 0) (.cons (.v 1) .nil))))
    (.cons (.ife (.cmp .eq (.v 2) (.p1 .len (.v 0))) (.cons (.ret .non)
    .nil) .nil)
    (.cons (.ife (.cmp .ne (.ix (.v 0) (.v 2)) (.str [35])) (.cons (.rai x_NoRow)
    .nil) .nil)
    (.cons (.ret (.sl (.v 0) (.yes (.bin .add (.v 2) (.int 1))) .no))
    .nil))))
abbrev f_remark_behind : Fn := ⟨2, 3, b_remark_behind⟩
/-- parts_of -/
def b_parts_of : Sms :=
    (.cons (.set 1 (.call 8 (.cons (.v 0) (.cons (.int 0) .nil))))
    (.cons (.ife (.cmp .eq (.v 1) (.p1 .len (.v 0))) (.cons (.ret (.tup (.cons (.tup (.cons (.str s_nothing_8ed7) .nil)) (.cons .non .nil))))
    .nil) .nil)
    (.cons (.ife (.cmp .eq (.ix (.v 0) (.v 1)) (.str [35])) (.cons (.ret (.tup (.cons (.tup (.cons (.str s_remark_d839) (.cons (.sl (.v 0) (.yes (.bin .add (.v 1) (.int 1))) .no) .nil))) (.cons (.sl (.v 0) (.yes (.bin .add (.v 1) (.int 1))) .no) .nil))))
    .nil) .nil)
    (.cons (.ife (.cmp .eq (.ix (.v 0) (.v 1)) (.str [91])) (.cons (.unp [6, 5] (.call 16 (.cons (.v 0) (.cons (.v 1) .nil))))
    (.cons (.ret (.tup (.cons (.tup (.cons (.str s_section_7aef) (.cons (.v 6) .nil))) (.cons (.call 18 (.cons (.v 0) (.cons (.v 5) .nil))) .nil))))
    .nil)) .nil)
    (.cons (.unp [2, 3, 4, 5] (.call 17 (.cons (.v 0) (.cons (.v 1) .nil))))
    (.cons (.ret (.tup (.cons (.tup (.cons (.str s_setting_b898) (.cons (.v 2) (.cons (.v 3) .nil)))) (.cons (.call 18 (.cons (.v 0) (.cons (.v 5) .nil))) .nil))))
    .nil))))))
abbrev f_parts_of : Fn := ⟨1, 7, b_parts_of⟩
/-- read_row -/
def b_read_row : Sms :=
    (.cons (.ret (.ix (.call 19 (.cons (.v 0) .nil)) (.int 0)))
    .nil)
abbrev f_read_row : Fn := ⟨1, 1, b_read_row⟩
/-- remark_in -/
def b_remark_in : Sms :=
    (.cons (.ret (.ix (.call 19 (.cons (.v 0) .nil)) (.int 1)))
    .nil)
abbrev f_remark_in : Fn := ⟨1, 1, b_remark_in⟩
/-- row_with -/
def b_row_with : Sms :=
    (.cons (.ife (.cmp .ne (.ix (.call 20 (.cons (.v 0) .nil)) (.int 0)) (.str s_setting_b898)) (.cons (.rai x_NoRow)
    .nil) .nil)
    (.cons (.unp [2, 3, 4, 5] (.call 17 (.cons (.v 0) (.cons (.call 8 (.cons (.v 0) (.cons (.int 0) .nil))) .nil))))
    (.cons (.ret (.bin .add (.bin .add (.sl (.v 0) .no (.yes (.v 4))) (.call 7 (.cons (.v 1) .nil))) (.sl (.v 0) (.yes (.v 5)) .no)))
    .nil)))
abbrev f_row_with : Fn := ⟨2, 6, b_row_with⟩
/-- _law_cell -/
def b__law_cell : Sms :=
    (.cons (.ife (.cmp .lt (.v 1) (.p1 .len (.v 0))) (.cons (.ret (.ix (.v 0) (.v 1)))
    .nil) .nil)
    (.cons (.ret (.int 0))
    .nil))
abbrev f__law_cell : Fn := ⟨2, 2, b__law_cell⟩
/-- _law_mix -/
def b__law_mix : Sms :=
    (.cons (.set 3 (.bin .mod (.bin .mul (.v 0) (.int 48271)) (.v 1)))
    (.cons (.ret (.bin .mod (.bin .mod (.bin .mul (.v 3) (.bin .add (.v 3) (.int 7))) (.v 1)) (.v 2)))
    .nil))
abbrev f__law_mix : Fn := ⟨3, 4, b__law_mix⟩
abbrev fb0__law_name : Sms :=
    (.cons (.set 2 (.bin .add (.v 2) (.ix (.v 1) (.call 24 (.cons (.bin .add (.v 0) (.bin .mul (.int 7) (.v 3))) (.cons (.int 9941) (.cons (.int 37) .nil)))))))
    .nil)
/-- _law_name -/
def b__law_name : Sms :=
    (.cons (.set 1 (.str s_abcdefgh_ddbe))
    (.cons (.ife (.cmp .eq (.bin .mod (.v 0) (.int 3)) (.int 0)) (.cons (.ret (.ix (.tup (.cons (.str [97]) (.cons (.str [98]) (.cons (.str [97, 45, 49]) (.cons (.str [97, 98]) .nil))))) (.call 24 (.cons (.v 0) (.cons (.int 9973) (.cons (.int 4) .nil))))))
    .nil) .nil)
    (.cons (.set 2 (.ix (.v 1) (.call 24 (.cons (.v 0) (.cons (.int 9967) (.cons (.int 26) .nil))))))
    (.cons (.forS (.one 3) (.rng1 (.call 24 (.cons (.v 0) (.cons (.int 9949) (.cons (.int 8) .nil))))) (.cons (.set 2 (.bin .add (.v 2) (.ix (.v 1) (.call 24 (.cons (.bin .add (.v 0) (.bin .mul (.int 7) (.v 3))) (.cons (.int 9941) (.cons (.int 37) .nil)))))))
    .nil))
    (.cons (.ret (.v 2))
    .nil)))))
abbrev f__law_name : Fn := ⟨1, 4, b__law_name⟩
abbrev le0__law_text : Ex :=
    (.ix (.v 1) (.call 24 (.cons (.bin .add (.v 0) (.bin .mul (.int 7) (.v 3))) (.cons (.int 9923) (.cons (.p1 .len (.v 1)) .nil)))))
abbrev li0__law_text : Exs :=
    .nil
/-- _law_text -/
def b__law_text : Sms :=
    (.cons (.set 1 (.str s_01234567_b361))
    (.cons (.ife (.cmp .eq (.bin .mod (.v 0) (.int 4)) (.int 0)) (.cons (.set 1 (.str s_a_fd6d))
    .nil) .nil)
    (.cons (.set 2 (.call 24 (.cons (.v 0) (.cons (.int 9931) (.cons (.int 7) .nil)))))
    (.cons (.ife (.cmp .eq (.call 24 (.cons (.v 0) (.cons (.int 9929) (.cons (.int 9) .nil)))) (.int 0)) (.cons (.set 2 (.int 60))
    .nil) .nil)
    (.cons (.ret (.m1 .join (.str []) (.lc (.ix (.v 1) (.call 24 (.cons (.bin .add (.v 0) (.bin .mul (.int 7) (.v 3))) (.cons (.int 9923) (.cons (.p1 .len (.v 1)) .nil))))) (.one 3) (.rng1 (.v 2)) .nil)))
    .nil)))))
abbrev f__law_text : Fn := ⟨1, 4, b__law_text⟩
/-- _law_days -/
def b__law_days : Sms :=
    (.cons (.ife (.cmp .eq (.v 1) (.int 2)) (.cons (.ret (.bin .add (.int 28) (.p1 .int (.and (.cons (.cmp .eq (.bin .mod (.v 0) (.int 4)) (.int 0)) (.cons (.or (.cons (.cmp .gt (.bin .mod (.v 0) (.int 100)) (.int 0)) (.cons (.cmp .eq (.bin .mod (.v 0) (.int 400)) (.int 0)) .nil))) .nil))))))
    .nil) .nil)
    (.cons (.ret (.bin .add (.int 30) (.p1 .int (.cmp .inn (.v 1) (.tup (.cons (.int 1) (.cons (.int 3) (.cons (.int 5) (.cons (.int 7) (.cons (.int 8) (.cons (.int 10) (.cons (.int 12) .nil))))))))))))
    .nil))
abbrev f__law_days : Fn := ⟨2, 2, b__law_days⟩
/-- _law_day -/
def b__law_day : Sms :=
    (.cons (.set 1 (.bin .add (.int 1) (.bin .mod (.call 24 (.cons (.v 0) (.cons (.int 9973) (.cons (.int 9999) .nil)))) (.int 9999))))
    (.cons (.ife (.cmp .eq (.bin .mod (.v 0) (.int 3)) (.int 0)) (.cons (.set 1 (.ix (.tup (.cons (.int 1) (.cons (.int 4) (.cons (.int 100) (.cons (.int 400) (.cons (.int 1900) (.cons (.int 2000) (.cons (.int 2024) (.cons (.int 9999) .nil))))))))) (.call 24 (.cons (.v 0) (.cons (.int 9967) (.cons (.int 8) .nil))))))
    .nil) .nil)
    (.cons (.set 2 (.bin .add (.int 1) (.call 24 (.cons (.v 0) (.cons (.int 9949) (.cons (.int 12) .nil))))))
    (.cons (.ife (.cmp .eq (.bin .mod (.v 0) (.int 2)) (.int 0)) (.cons (.ret (.tup (.cons (.v 1) (.cons (.v 2) (.cons (.call 27 (.cons (.v 1) (.cons (.v 2) .nil))) .nil)))))
    .nil) .nil)
    (.cons (.ret (.tup (.cons (.v 1) (.cons (.v 2) (.cons (.bin .add (.int 1) (.call 24 (.cons (.v 0) (.cons (.int 9941) (.cons (.call 27 (.cons (.v 1) (.cons (.v 2) .nil))) .nil))))) .nil)))))
    .nil)))))
abbrev f__law_day : Fn := ⟨1, 3, b__law_day⟩
abbrev le0__law_value : Ex :=
    (.call 29 (.cons (.bin .add (.bin .add (.v 0) (.bin .mul (.int 17) (.v 4))) (.int 5)) (.cons (.bin .sub (.v 1) (.int 1)) .nil)))
abbrev li0__law_value : Exs :=
    .nil
/-- _law_value -/
def b__law_value : Sms :=
    (.cons (.set 2 (.call 24 (.cons (.v 0) (.cons (.int 9907) (.cons (.bin .add (.int 4) (.bin .mul (.int 2) (.p1 .int (.cmp .gt (.v 1) (.int 0))))) .nil)))))
    (.cons (.ife (.cmp .eq (.v 2) (.int 0)) (.cons (.ife (.cmp .eq (.bin .mod (.v 0) (.int 3)) (.int 0)) (.cons (.ret (.tup (.cons (.str s_number_1f54) (.cons (.bin .sub (.bin .mod (.v 0) (.int 1999999999)) (.int 999999999)) .nil))))
    .nil) .nil)
    (.cons (.ret (.tup (.cons (.str s_number_1f54) (.cons (.bin .sub (.call 24 (.cons (.v 0) (.cons (.int 9901) (.cons (.int 41) .nil)))) (.int 20)) .nil))))
    .nil)) .nil)
    (.cons (.ife (.cmp .eq (.v 2) (.int 1)) (.cons (.ret (.tup (.cons (.str s_truth_2626) (.cons (.cmp .eq (.bin .mod (.v 0) (.int 2)) (.int 0)) .nil))))
    .nil) .nil)
    (.cons (.ife (.cmp .eq (.v 2) (.int 2)) (.cons (.ret (.tup (.cons (.str s_text_a7c7) (.cons (.call 26 (.cons (.v 0) .nil)) .nil))))
    .nil) .nil)
    (.cons (.ife (.cmp .eq (.v 2) (.int 3)) (.cons (.ret (.tup (.cons (.str [100, 97, 121]) (.cons (.call 28 (.cons (.v 0) .nil)) .nil))))
    .nil) .nil)
    (.cons (.set 3 (.call 24 (.cons (.v 0) (.cons (.int 9887) (.cons (.int 4) .nil)))))
    (.cons (.ife (.cmp .eq (.call 24 (.cons (.v 0) (.cons (.int 9883) (.cons (.int 9) .nil)))) (.int 0)) (.cons (.set 3 (.int 6))
    .nil) .nil)
    (.cons (.ret (.tup (.cons (.str s_list_f818) (.cons (.p1 .tuple (.lc (.call 29 (.cons (.bin .add (.bin .add (.v 0) (.bin .mul (.int 17) (.v 4))) (.int 5)) (.cons (.bin .sub (.v 1) (.int 1)) .nil))) (.one 4) (.rng1 (.v 3)) .nil)) .nil))))
    .nil))))))))
abbrev f__law_value : Fn := ⟨2, 5, b__law_value⟩
abbrev le0__law_quoted : Ex :=
    (.bin .add (.bin .mul (.str [92]) (.p1 .int (.or (.cons (.cmp .eq (.v 1) (.str [34])) (.cons (.cmp .eq (.v 1) (.str [92])) .nil))))) (.v 1))
abbrev li0__law_quoted : Exs :=
    .nil
/-- _law_quoted -/
def b__law_quoted : Sms :=
    (.cons (.ret (.bin .add (.bin .add (.str [34]) (.m1 .join (.str []) (.lc (.bin .add (.bin .mul (.str [92]) (.p1 .int (.or (.cons (.cmp .eq (.v 1) (.str [34])) (.cons (.cmp .eq (.v 1) (.str [92])) .nil))))) (.v 1)) (.one 1) (.seq (.v 0)) .nil))) (.str [34])))
    .nil)
abbrev f__law_quoted : Fn := ⟨1, 2, b__law_quoted⟩
abbrev le0__law_written : Ex :=
    (.call 31 (.cons (.v 3) .nil))
abbrev li0__law_written : Exs :=
    .nil
/-- _law_written -/
def b__law_written : Sms :=
    (.cons (.unp [1, 2] (.v 0))
    (.cons (.ife (.cmp .eq (.v 1) (.str s_number_1f54)) (.cons (.ret (.p1 .str (.v 2)))
    .nil) .nil)
    (.cons (.ife (.cmp .eq (.v 1) (.str s_truth_2626)) (.cons (.ret (.ix (.tup (.cons (.str [110, 111]) (.cons (.str [121, 101, 115]) .nil))) (.p1 .int (.v 2))))
    .nil) .nil)
    (.cons (.ife (.cmp .eq (.v 1) (.str s_text_a7c7)) (.cons (.ret (.call 30 (.cons (.v 2) .nil)))
    .nil) .nil)
    (.cons (.ife (.cmp .eq (.v 1) (.str [100, 97, 121])) (.cons (.ret (.bin .add (.bin .add (.bin .add (.bin .add (.sl (.bin .add (.str [48, 48, 48]) (.p1 .str (.ix (.v 2) (.int 0)))) (.yes (.neg (.int 4))) .no) (.str [45])) (.sl (.bin .add (.str [48]) (.p1 .str (.ix (.v 2) (.int 1)))) (.yes (.neg (.int 2))) .no)) (.str [45])) (.sl (.bin .add (.str [48]) (.p1 .str (.ix (.v 2) (.int 2)))) (.yes (.neg (.int 2))) .no)))
    .nil) .nil)
    (.cons (.ret (.bin .add (.bin .add (.str [91]) (.m1 .join (.str [44, 32]) (.lc (.call 31 (.cons (.v 3) .nil)) (.one 3) (.seq (.v 2)) .nil))) (.str [93])))
    .nil))))))
abbrev f__law_written : Fn := ⟨1, 4, b__law_written⟩
/-- _law_told -/
def b__law_told : Sms :=
    (.cons (.set 2 (.str s_none_00cf))
    (.cons (.tryX x_SettingsError (.cons (.ife (.cmp .eq (.v 0) (.int 0)) (.cons (.expr (.call 20 (.cons (.v 1) .nil)))
    .nil) (.cons (.ife (.cmp .eq (.v 0) (.int 1)) (.cons (.expr (.call 21 (.cons (.v 1) .nil)))
    .nil) (.cons (.expr (.call 22 (.cons (.v 1) (.cons (.tup (.cons (.str s_truth_2626) (.cons (.bl true) .nil))) .nil))))
    .nil))
    .nil))
    .nil) 3 2 [(.isi none), (.isi (some x_NoRow)), (.isi (some x_NoValue))])
    (.cons (.ret (.v 2))
    .nil)))
abbrev f__law_told : Fn := ⟨2, 4, b__law_told⟩
/-- _law_spoilt -/
def b__law_spoilt : Sms :=
    (.cons (.set 1 (.call 25 (.cons (.v 0) .nil)))
    (.cons (.set 2 (.call 31 (.cons (.call 29 (.cons (.bin .add (.v 0) (.int 1)) (.cons (.int 2) .nil))) .nil)))
    (.cons (.setL 3 (.lst (.cons (.v 1) (.cons (.bin .add (.bin .add (.v 1) (.str [32])) (.v 2)) (.cons (.bin .add (.str [61, 32]) (.v 2)) (.cons (.bin .add (.v 1) (.str [32, 61])) (.cons (.bin .add (.bin .add (.v 1) (.str s__5331)) (.v 2)) (.cons (.bin .add (.bin .add (.v 1) (.str s__6e97)) (.v 2)) .nil))))))))
    (.cons (.app 3 (.bin .add (.bin .add (.str [34]) (.v 1)) (.str s_1_761c)))
    (.cons (.setL 3 (.bin .add (.v 3) (.lst (.cons (.bin .add (.bin .add (.bin .add (.bin .add (.v 1) (.str [32, 61, 32])) (.v 2)) (.str [32])) (.v 2)) (.cons (.bin .add (.bin .add (.bin .add (.v 1) (.str [32, 61, 32])) (.v 2)) (.str [93])) (.cons (.bin .add (.bin .add (.bin .add (.v 1) (.str [46])) (.v 1)) (.str s_1_2279)) .nil))))))
    (.cons (.setL 3 (.bin .add (.v 3) (.lst (.cons (.bin .add (.bin .add (.str [65]) (.v 1)) (.str s_1_2279)) (.cons (.bin .add (.bin .add (.str [49]) (.sl (.v 1) .no (.yes (.int 7)))) (.str s_1_2279)) .nil)))))
    (.cons (.setL 3 (.bin .add (.v 3) (.lst (.cons (.bin .add (.sl (.bin .mul (.v 1) (.int 9)) .no (.yes (.int 9))) (.str s_1_2279)) (.cons (.bin .add (.bin .add (.bin .add (.v 1) (.str [32])) (.v 1)) (.str s_1_2279)) .nil)))))
    (.cons (.setL 3 (.bin .add (.v 3) (.lst (.cons (.bin .add (.str [91]) (.v 1)) (.cons (.bin .add (.v 1) (.str [93])) (.cons (.bin .add (.bin .add (.str [91]) (.v 1)) (.str [93, 93])) .nil))))))
    (.cons (.setL 3 (.bin .add (.v 3) (.lst (.cons (.bin .add (.bin .add (.str [91, 91]) (.v 1)) (.str [93, 93])) (.cons (.bin .add (.bin .add (.str [91]) (.v 1)) (.str [46, 93])) (.cons (.bin .add (.bin .add (.str [91, 46]) (.v 1)) (.str [93])) .nil))))))
    (.cons (.setL 3 (.bin .add (.v 3) (.lst (.cons (.bin .add (.bin .add (.bin .add (.str [91]) (.v 1)) (.str [93, 32])) (.v 1)) (.cons (.bin .add (.bin .add (.str [91, 32]) (.v 1)) (.str [93])) .nil)))))
    (.cons (.setL 3 (.bin .add (.v 3) (.lst (.cons (.bin .add (.bin .add (.str [91]) (.v 1)) (.str [32, 93])) (.cons (.bin .add (.bin .add (.str [91]) (.m1 .join (.str [46]) (.bin .mul (.lst (.cons (.v 1) .nil)) (.int 4)))) (.str [93])) .nil)))))
    (.cons (.ret (.bin .add (.v 3) (.lst (.cons (.bin .add (.bin .add (.str [91]) (.v 1)) (.str s_a_1b54)) (.cons (.bin .add (.bin .add (.str [91]) (.v 1)) (.str s_a_365e)) (.cons (.str [91, 65, 93]) (.cons (.str [91, 93]) (.cons (.bin .add (.bin .add (.str [91]) (.v 1)) (.str s_1_0102)) (.cons (.bin .add (.bin .add (.str [91]) (.v 1)) (.str [44, 97, 93])) .nil)))))))))
    .nil))))))))))))
abbrev f__law_spoilt : Fn := ⟨1, 4, b__law_spoilt⟩
abbrev fb0_law : Sms :=
    (.cons (.set 1 (.bin .add (.v 1) (.call 33 (.cons (.bin .add (.call 23 (.cons (.v 0) (.cons (.v 2) .nil))) (.bin .mul (.int 13) (.v 2))) .nil))))
    .nil)
abbrev fb1_law : Sms :=
    (.cons (.ife (.lc (.v 4) (.one 4) (.rng1 (.int 3)) (.cons (.cmp .ne (.call 32 (.cons (.v 4) (.cons (.v 3) .nil))) (.tup (.cons (.bl true) (.cons (.bl true) (.cons (.bl false) .nil))))) .nil)) (.cons (.ret (.bl false))
    .nil) .nil)
    (.cons (.ife (.cmp .ne (.call 32 (.cons (.int 0) (.cons (.bin .add (.str [32, 32]) (.v 3)) .nil))) (.tup (.cons (.bl true) (.cons (.bl true) (.cons (.bl false) .nil))))) (.cons (.ret (.bl false))
    .nil) .nil)
    .nil))
abbrev fb2_law : Sms :=
    (.cons (.ife (.or (.cons (.cmp .ne (.call 32 (.cons (.int 2) (.cons (.v 3) .nil))) (.tup (.cons (.bl true) (.cons (.bl true) (.cons (.bl false) .nil))))) (.cons (.cmp .ne (.call 32 (.cons (.int 0) (.cons (.v 3) .nil))) (.str s_none_00cf)) (.cons (.cmp .ne (.call 32 (.cons (.int 1) (.cons (.v 3) .nil))) (.str s_none_00cf)) .nil)))) (.cons (.ret (.bl false))
    .nil) .nil)
    .nil)
abbrev le0_law : Ex :=
    (.v 4)
abbrev li0_law : Exs :=
    (.cons (.cmp .ne (.call 32 (.cons (.v 4) (.cons (.v 3) .nil))) (.tup (.cons (.bl true) (.cons (.bl true) (.cons (.bl false) .nil))))) .nil)
/-- law -/
def b_law : Sms :=
    (.cons (.set 1 (.lst (.cons (.str [61]) (.cons (.str [97]) (.cons (.str [97, 32, 61]) (.cons (.str [91]) (.cons (.str [93]) (.cons (.str s_a12_b495) (.cons (.str s_a1_0ba4) .nil)))))))))
    (.cons (.set 1 (.bin .add (.v 1) (.lst (.cons (.str s_a01_020d) (.cons (.str s_a1_3c44) (.cons (.str s_a1b_3214) (.cons (.str s_a_dcc3) (.cons (.str s_a1_ffd2) (.cons (.str s_a1_aa35) .nil)))))))))
    (.cons (.forS (.one 2) (.rng1 (.int 4)) (.cons (.set 1 (.bin .add (.v 1) (.call 33 (.cons (.bin .add (.call 23 (.cons (.v 0) (.cons (.v 2) .nil))) (.bin .mul (.int 13) (.v 2))) .nil))))
    .nil))
    (.cons (.forS (.one 3) (.seq (.v 1)) (.cons (.ife (.lc (.v 4) (.one 4) (.rng1 (.int 3)) (.cons (.cmp .ne (.call 32 (.cons (.v 4) (.cons (.v 3) .nil))) (.tup (.cons (.bl true) (.cons (.bl true) (.cons (.bl false) .nil))))) .nil)) (.cons (.ret (.bl false))
    .nil) .nil)
    (.cons (.ife (.cmp .ne (.call 32 (.cons (.int 0) (.cons (.bin .add (.str [32, 32]) (.v 3)) .nil))) (.tup (.cons (.bl true) (.cons (.bl true) (.cons (.bl false) .nil))))) (.cons (.ret (.bl false))
    .nil) .nil)
    .nil)))
    (.cons (.forS (.one 3) (.seq (.tup (.cons (.str []) (.cons (.str [32, 32]) (.cons (.str [35]) (.cons (.str s_a1_5ad1) (.cons (.str [91, 97, 93]) (.cons (.str s_abc_cf0d) (.cons (.str s_a1_50a3) .nil))))))))) (.cons (.ife (.or (.cons (.cmp .ne (.call 32 (.cons (.int 2) (.cons (.v 3) .nil))) (.tup (.cons (.bl true) (.cons (.bl true) (.cons (.bl false) .nil))))) (.cons (.cmp .ne (.call 32 (.cons (.int 0) (.cons (.v 3) .nil))) (.str s_none_00cf)) (.cons (.cmp .ne (.call 32 (.cons (.int 1) (.cons (.v 3) .nil))) (.str s_none_00cf)) .nil)))) (.cons (.ret (.bl false))
    .nil) .nil)
    .nil))
    (.cons (.ret (.bl true))
    .nil))))))
abbrev f_law : Fn := ⟨1, 5, b_law⟩
def tab : List Fn := [f_is_number, f_is_name, f_days_in, f_is_day, f_is_value_so_deep, f_is_value, f_quoted, f_written_value, f_behind_blanks, f_text_from, f_list_from, f_are_figures, f_plain_value, f_value_from, f_whole_value_from, f_name_from, f_section_from, f_setting_from, f_remark_behind, f_parts_of, f_read_row, f_remark_in, f_row_with, f__law_cell, f__law_mix, f__law_name, f__law_text, f__law_days, f__law_day, f__law_value, f__law_quoted, f__law_written, f__law_told, f__law_spoilt, f_law]
def gls : List Dt := [(.str s_abcdefgh_50bd), (.int 999999999), (.tup [(.int 31), (.int 28), (.int 31), (.int 30), (.int 31), (.int 30), (.int 31), (.int 31), (.int 30), (.int 31), (.int 30), (.int 31)]), (.str s_abcdefgh_ddbe)]

abbrev Gm (n : Nat) : Gam := ⟨callW (runP tab gls n), gls⟩
/-! ### calls -/
theorem call1_v {n f : Nat} {ρ : Ev} {st st1 : Sr} {a : Ex} {x : Dt} (h1 : evE (Gm n) a ρ st = .ok (.d x, st1)) : evE (Gm n) (.call f (.cons a .nil)) ρ st = valD st1 (runP tab gls n f [x]) := by
  simp only [evE_call, evEs_cons, evEs_nil, h1, Rs.bind_ok, callW_1]
theorem call2_v {n f : Nat} {ρ : Ev} {st st1 st2 : Sr} {a b : Ex} {x y : Dt} (h1 : evE (Gm n) a ρ st = .ok (.d x, st1)) (h2 : evE (Gm n) b ρ st1 = .ok (.d y, st2)) : evE (Gm n) (.call f (.cons a (.cons b .nil))) ρ st = valD st2 (runP tab gls n f [x, y]) := by
  simp only [evE_call, evEs_cons, evEs_nil, h1, h2, Rs.bind_ok, callW_2]
theorem call3_v {n f : Nat} {ρ : Ev} {st st1 st2 st3 : Sr} {a b c : Ex} {x y z : Dt} (h1 : evE (Gm n) a ρ st = .ok (.d x, st1)) (h2 : evE (Gm n) b ρ st1 = .ok (.d y, st2)) (h3 : evE (Gm n) c ρ st2 = .ok (.d z, st3)) : evE (Gm n) (.call f (.cons a (.cons b (.cons c .nil)))) ρ st = valD st3 (runP tab gls n f [x, y, z]) := by
  simp only [evE_call, evEs_cons, evEs_nil, h1, h2, h3, Rs.bind_ok, callW_3]
def mix (c p m : Int) : Int := (c * 48271 % p) * ((c * 48271 % p) + 7) % p % m
theorem mix_range {c p m : Int} (hm : 0 < m) : 0 ≤ mix c p m ∧ mix c p m < m := ⟨Int.emod_nonneg _ (by omega), Int.emod_lt_of_pos _ hm⟩
theorem run3 (n : Nat) (a b c : Dt) : runP tab gls (n + 1) c__law_mix [a, b, c] = (exSs (Gm n) b__law_mix [some (.d a), some (.d b), some (.d c), none] []).bind endD := rfl
theorem run_mix (n : Nat) (c p m : Int) (hp : 0 < p) (hp2 : p < 2 ^ 63) (hm : 0 < m) : runP tab gls (n + 1) c__law_mix [.int c, .int p, .int m] = .ok (.int (mix c p m)) := by
  have h1 : 0 ≤ c * 48271 % p := Int.emod_nonneg _ (by omega)
  have h2 : c * 48271 % p < p := Int.emod_lt_of_pos _ hp
  have h3 : smallI (c * 48271 % p) := by unfold smallI; omega
  have h4 : smallI 48271 := by decide
  rw [run3]
  simp [b__law_mix, mul_ii, mod_ii, hp, hm, h3, h4, mix]
def cellAt (ns : List Int) (k : Nat) : Int := ns.getD k 0
theorem run2 (n : Nat) (a b : Dt) : runP tab gls (n + 1) c__law_cell [a, b] = (exSs (Gm n) b__law_cell [some (.d a), some (.d b)] []).bind endD := rfl
theorem run_cell (n : Nat) (ns : List Int) (k : Nat) : runP tab gls (n + 1) c__law_cell [.scr ns, .int k] = .ok (.int (cellAt ns k)) := by
  rw [run2]
  by_cases h : k < ns.length
  · simp [b__law_cell, h, ixD, ixL, ixP, cellAt]
  · simp [b__law_cell, h, cellAt]
def okC (c : Nat) : Bool := decide (c ∈ s_abcdefgh_50bd) || decide (c ∈ s_01234567_50ba)
def isNm : List Nat → Bool
  | [] => false
  | c :: r => decide (r.length < 8) && decide (c ∈ s_abcdefgh_50bd) && (c :: r).all okC
def isNameD : Dt → Bool
  | .str s => isNm s
  | _ => false
theorem run0 (n : Nat) (a : Dt) : runP tab gls (n + 1) c_is_name [a] = (exSs (Gm n) b_is_name [some (.d a), none] []).bind endD := rfl
theorem run_is_name (n : Nat) (d : Dt) : runP tab gls (n + 1) c_is_name [d] = .ok (.bl (isNameD d)) := by
  rw [run0]
  cases d with
  | str s =>
    cases s with
    | nil => simp [b_is_name, isiD, isNameD, isNm]
    | cons c r =>
      have hlc : ∀ (ifs : Exs) (elt : Ex), ifs = .nil → elt = (.or (.cons (.cmp .inn (.v 1) (.g g_LETTERS)) (.cons (.cmp .inn (.v 1) (.str s_01234567_50ba)) .nil))) → (lcL [] (lcTurn (evIfs (Gm n) ifs) (evE (Gm n) elt) (.one 1) [some (.d (.str (c :: r))), none]) ((c :: r).map fun c => .str [c]) []) = .ok ((c :: r).map (fun c => .bl (okC c)), []) := by
        intro ifs elt h1 h2
        subst h1 h2
        refine lcL_map' _ _ _ _ fun x _ => lcTurn_one (by simp) ?_
        simp [gls, okC]
        by_cases hx : x ∈ s_abcdefgh_50bd <;> simp [hx]
      have h0 : (1 : Int) ≤ (r.length : Int) + 1 := by omega
      by_cases h1 : r.length < 8
      · have hl : ((c :: r).map (fun c => Dt.bl (okC c))).length ≤ lim := by simp [lim16]; omega
        have h3 : ((r.length : Int) + 1 ≤ 8) := by omega
        by_cases h2 : c ∈ s_abcdefgh_50bd
        · simp only [b_is_name, exSs_cons, exS_ife, evT_eq, evE_or, evOr2, evOr1, evE_not, evE_isi, evE_v, evE_cmp2, evE_p1, evE_int, evE_cmp, evE_ix, evE_g, exS_ret, evE_lc, evI_seq]
          simp [isiD, h0, h3, ixD, ixL, ixP, gls, h2, -List.map_cons]
          rw [hlc _ _ rfl rfl]
          simp only [Rs.bind_ok]
          rw [lcEnd_ok hl]
          simp [-List.map_cons]
          rw [all_map]
          simp [isNameD, isNm, h1, h2]
        · simp [b_is_name, isiD, h0, h3, ixD, ixL, ixP, gls, h2, isNameD, isNm]
      · have h3 : ¬ ((r.length : Int) + 1 ≤ 8) := by omega
        simp [b_is_name, isiD, h0, h3, isNameD, isNm, h1]
  | _ => simp [b_is_name, isiD, isNameD]
theorem mem2 (c : Nat) : c ∈ s_abcdefgh_ddbe ↔ c ∈ s_abcdefgh_50bd ∨ c ∈ s_01234567_50ba := by
  rw [show s_abcdefgh_ddbe = s_abcdefgh_50bd ++ s_01234567_50ba from rfl, List.mem_append]
theorem apart (c : Nat) (h : c ∈ s_01234567_50ba) : ¬ c ∈ s_abcdefgh_50bd := by
  have h1 : ∀ c ∈ s_01234567_50ba, ¬ c ∈ s_abcdefgh_50bd := by decide
  exact h1 c h
theorem run4 (n : Nat) (a : Dt) : runP tab gls (n + 1) c__law_name [a] = (exSs (Gm n) b__law_name [some (.d a), none, none, none] []).bind endD := rfl
theorem run_name (n : Nat) (c : Int) : ∃ s, runP tab gls (n + 2) c__law_name [.int c] = .ok (.str s) ∧ isNm s = true := by
  by_cases h0 : c % 3 = 0
  · have ⟨m1, m2⟩ := @mix_range c 9973 4 (by decide)
    obtain ⟨x, hx, ex⟩ := @ix_t [.str [97], .str [98], .str [97, 45, 49], .str [97, 98]] (mix c 9973 4) m1 (by simpa using m2)
    have : ∃ s, x = .str s ∧ isNm s = true := by
      simp at hx
      rcases hx with h | h | h | h <;> exact ⟨_, h, by decide⟩
    obtain ⟨s, rfl, hs⟩ := this
    refine ⟨s, ?_, hs⟩
    rw [run4]
    simp [b__law_name, mod_ii, h0, run_mix, ex]
  · have ⟨m1, m2⟩ := @mix_range c 9967 26 (by decide)
    obtain ⟨x, hx, ex⟩ := @ix_s s_abcdefgh_ddbe (mix c 9967 26) m1 (by simp [s_abcdefgh_ddbe]; omega)
    have hx0 : x ∈ s_abcdefgh_50bd := by
      have : ixL s_abcdefgh_ddbe (mix c 9967 26) = ixL s_abcdefgh_50bd (mix c 9967 26) := by
        simp only [ixL]
        rw [ixP_in m1 (by simp [s_abcdefgh_ddbe]; omega), ixP_in m1 (by simp [s_abcdefgh_50bd]; omega)]
        simp only [Option.bind_some]
        rw [show s_abcdefgh_ddbe = s_abcdefgh_50bd ++ s_01234567_50ba from rfl, List.getElem?_append_left (by simp [s_abcdefgh_50bd]; omega)]
      obtain ⟨y, hy, ey⟩ := @ixL_in _ s_abcdefgh_50bd (mix c 9967 26) m1 (by simp [s_abcdefgh_50bd]; omega)
      simp only [ixD, this, ey, Option.map_some, Option.some.injEq, Dt.str.injEq, List.cons.injEq, and_true] at ex
      exact ex ▸ hy
    have ⟨n1, n2⟩ := @mix_range c 9949 8 (by decide)
    obtain ⟨ρ', hf, w, hw1, hw2, hw3, hw4⟩ := @exFor_inv [] (exSs (Gm (n + 1)) (.cons (.set 2 (.bin .add (.v 2) (.ix (.v 1) (.call c__law_mix (.cons (.bin .add (.v 0) (.bin .mul (.int 7) (.v 3))) (.cons (.int 9941) (.cons (.int 37) .nil)))))))
    .nil)) (.one 3) (fun k ρ => ∃ s z, ρ = [some (.d (.int c)), some (.d (.str s_abcdefgh_ddbe)), some (.d (.str (x :: s))), z] ∧ s.length = k ∧ s.all okC = true) (rangeL 0 (mix c 9949 8).toNat) 0 [some (.d (.int c)), some (.d (.str s_abcdefgh_ddbe)), some (.d (.str [x])), none] ⟨[], none, rfl, rfl, rfl⟩ (by
        rintro j y ρ hj ⟨s, z, rfl, h1, h2⟩
        obtain ⟨rfl, hj2⟩ := rangeL_at _ _ _ _ hj
        have ⟨p1, p2⟩ := @mix_range (c + 7 * (j : Int)) 9941 37 (by decide)
        obtain ⟨u, hu, eu⟩ := @ix_s s_abcdefgh_ddbe (mix (c + 7 * (j : Int)) 9941 37) p1 (by simp [s_abcdefgh_ddbe]; omega)
        refine ⟨_, _, rfl, ?_, s ++ [u], some (.d (.int ((0 : Int) + j))), rfl, by simp; omega, by simp [h2]; simpa [okC, mem2] using hu⟩
        have h7 : smallI 7 := by decide
        have hl : (x :: s).length + [u].length ≤ lim := by simp [lim16]; omega
        simp [run_mix, mul_ii, h7, eu]
        rw [add_ss hl]
        simp)
    refine ⟨x :: w, ?_, ?_⟩
    · have hr : itRng [] 0 (mix c 9949 8) = some ((rangeL 0 (mix c 9949 8).toNat, []), []) := by
        rw [itRng_ok (by omega)]; simp
      rw [run4]
      simp [b__law_name, mod_ii, h0, run_mix, ex, hr]
      rw [hf, hw2]
      simp
    · have : w.length < 8 := by rw [hw3, rangeL_len]; omega
      simp only [isNm, hx0, List.all_cons, hw4, okC]
      simp [this]
/-! ### numbers and days -/
def isNumD (d : Dt) (lo hi : Int) : Bool := match d with
  | .int i => decide (lo ≤ i) && decide (i ≤ hi)
  | _ => false
def daysL : List Int := [31, 28, 31, 30, 31, 30, 31, 31, 30, 31, 30, 31]
def leap (y : Int) : Bool := decide (y % 4 = 0) && (!decide (y % 100 = 0) || decide (y % 400 = 0))
def daysIn (y m : Int) : Int := if m = 2 ∧ leap y = true then 29 else daysL.getD (m - 1).toNat 0
def isDayD : Dt → Bool
  | .tup [.int y, .int m, d] => isNumD (.int y) 1 9999 && isNumD (.int m) 1 12 && isNumD d 1 (daysIn y m)
  | _ => false
theorem isDay_no {y m d : Dt} (h : isNumD y 1 9999 = false ∨ isNumD m 1 12 = false) : isDayD (.tup [y, m, d]) = false := by
  unfold isDayD
  split
  · rename_i e
    cases e
    rcases h with h | h <;> simp [h]
  · rfl
theorem run_is_number' (n : Nat) (a b c : Dt) : runP tab gls (n + 1) c_is_number [a, b, c] = (exSs (Gm n) b_is_number [some (.d a), some (.d b), some (.d c)] []).bind endD := rfl
theorem run_is_number (n : Nat) (d : Dt) (lo hi : Int) : runP tab gls (n + 1) c_is_number [d, .int lo, .int hi] = .ok (.bl (isNumD d lo hi)) := by
  rw [run_is_number']
  cases d with
  | int i =>
    by_cases h : lo ≤ i
    · simp [b_is_number, isiD, isNumD, h]
    · simp [b_is_number, isiD, isNumD, h]
  | _ => simp [b_is_number, isiD, isNumD]
theorem run_days_in' (n : Nat) (a b : Dt) : runP tab gls (n + 1) c_days_in [a, b] = (exSs (Gm n) b_days_in [some (.d a), some (.d b)] []).bind endD := rfl
theorem run_days_in (n : Nat) (y m : Int) (h1 : 1 ≤ m) (h2 : m ≤ 12) : runP tab gls (n + 1) c_days_in [.int y, .int m] = .ok (.int (daysIn y m)) := by
  rw [run_days_in']
  obtain ⟨k, rfl⟩ : ∃ k : Nat, m = (k : Int) + 1 := ⟨(m - 1).toNat, by omega⟩
  have hk : k < 12 := by omega
  have hix : ∀ k : Nat, k < 12 → ixD (.tup [(.int 31), (.int 28), (.int 31), (.int 30), (.int 31), (.int 30), (.int 31), (.int 31), (.int 30), (.int 31), (.int 30), (.int 31)]) (.int k) = some (.int (daysL.getD k 0)) := by
    intro k hk
    match k, hk with
    | 0, _ | 1, _ | 2, _ | 3, _ | 4, _ | 5, _ | 6, _ | 7, _ | 8, _ | 9, _ | 10, _ | 11, _ => rfl
  have hg : gls[g_MONTHS]? = some (.tup [(.int 31), (.int 28), (.int 31), (.int 30), (.int 31), (.int 30), (.int 31), (.int 31), (.int 30), (.int 31), (.int 30), (.int 31)]) := rfl
  have e : (k : Int) + 1 - 1 = k := by omega
  have hd : daysL.getD ((k : Int) + 1 - 1).toNat 0 = daysL.getD k 0 := by rw [e]; rfl
  have hx := hix k hk
  by_cases h0 : (k : Int) + 1 = 2
  · by_cases h4 : y % 4 = 0
    · by_cases h100 : y % 100 = 0
      · by_cases h400 : y % 400 = 0
        · simp [b_days_in, mod_ii, h0, h4, h100, h400, daysIn, leap]
        · simp [b_days_in, mod_ii, h0, h4, h100, h400, daysIn, leap, hg]; rfl
      · simp [b_days_in, mod_ii, h0, h4, h100, daysIn, leap]
    · simp [b_days_in, mod_ii, h0, h4, daysIn, leap, hg]; rfl
  · simp [b_days_in, mod_ii, h0, daysIn, hg, e, hx]
theorem run_is_day' (n : Nat) (a : Dt) : runP tab gls (n + 1) c_is_day [a] = (exSs (Gm n) b_is_day [some (.d a), none, none, none] []).bind endD := rfl
theorem run_is_day (n : Nat) (d : Dt) : runP tab gls (n + 2) c_is_day [d] = .ok (.bl (isDayD d)) := by
  rw [run_is_day']
  cases d with
  | tup xs =>
    match xs with
    | [] => simp [b_is_day, isiD, isDayD]
    | [_] => simp [b_is_day, isiD, isDayD]
    | [_, _] => simp [b_is_day, isiD, isDayD]
    | [y, m, d] =>
      by_cases h1 : isNumD y 1 9999 = true
      · by_cases h2 : isNumD m 1 12 = true
        · cases y <;> simp [isNumD] at h1
          cases m <;> simp [isNumD] at h2
          simp [b_is_day, isiD, run_is_number, run_days_in, h2, isNumD, h1, isDayD]
        · simp [b_is_day, isiD, run_is_number, h1, h2]
          rw [isDay_no (.inr (by simpa using h2))]
      · simp [b_is_day, isiD, run_is_number, h1]
        rw [isDay_no (.inl (by simpa using h1))]
    | _ :: _ :: _ :: _ :: r =>
      have : ¬ ((r.length : Int) + 1 + 1 + 1 + 1 = 3) := by omega
      simp [b_is_day, isiD, isDayD, this]
  | _ => simp [b_is_day, isiD, isDayD]

/-! ### the law's days -/
theorem daysIn_range (y m : Int) (h1 : 1 ≤ m) (h2 : m ≤ 12) : 28 ≤ daysIn y m ∧ daysIn y m ≤ 31 := by
  obtain ⟨k, rfl⟩ : ∃ k : Nat, m = (k : Int) + 1 := ⟨(m - 1).toNat, by omega⟩
  have hk : k < 12 := by omega
  unfold daysIn
  split
  · omega
  · rw [show ((k : Int) + 1 - 1).toNat = k by omega]
    match k, hk with
    | 0, _ | 1, _ | 2, _ | 3, _ | 4, _ | 5, _ | 6, _ | 7, _ | 8, _ | 9, _ | 10, _ | 11, _ => simp [daysL]
theorem run_law_days' (n : Nat) (a b : Dt) : runP tab gls (n + 1) c__law_days [a, b] = (exSs (Gm n) b__law_days [some (.d a), some (.d b)] []).bind endD := rfl
theorem run_law_days (n : Nat) (y m : Int) (h1 : 1 ≤ m) (h2 : m ≤ 12) : runP tab gls (n + 1) c__law_days [.int y, .int m] = .ok (.int (daysIn y m)) := by
  rw [run_law_days']
  by_cases h0 : m = 2
  · subst h0
    by_cases h4 : y % 4 = 0
    · by_cases h100 : y % 100 = 0
      · by_cases h400 : y % 400 = 0
        · simp [b__law_days, mod_ii, h4, h100, h400, daysIn, leap]
        · simp [b__law_days, mod_ii, h4, h100, h400, daysIn, leap]; rfl
      · have h5 : 0 < y % 100 := by omega
        simp [b__law_days, mod_ii, h4, h100, h5, daysIn, leap]
    · simp [b__law_days, mod_ii, h4, daysIn, leap]; rfl
  · obtain ⟨k, rfl⟩ : ∃ k : Nat, m = (k : Int) + 1 := ⟨(m - 1).toNat, by omega⟩
    have hk : k < 12 := by omega
    simp only [daysIn, h0, false_and, if_false, show ((k : Int) + 1 - 1).toNat = k by omega]
    match k, hk, h0 with
    | 1, _, h0 => exact absurd rfl h0
    | 0, _, _ | 2, _, _ | 3, _, _ | 4, _, _ | 5, _, _ | 6, _, _ | 7, _, _ | 8, _, _ | 9, _, _ | 10, _, _ | 11, _, _ => simp [b__law_days, mkTup, lim16, in_it, daysL]
theorem run_law_day' (n : Nat) (a : Dt) : runP tab gls (n + 1) c__law_day [a] = (exSs (Gm n) b__law_day [some (.d a), none, none] []).bind endD := rfl
theorem run_law_day (n : Nat) (c : Int) : ∃ y m d : Int, runP tab gls (n + 2) c__law_day [.int c] = .ok (.tup [.int y, .int m, .int d]) ∧ 1 ≤ y ∧ y ≤ 9999 ∧ 1 ≤ m ∧ m ≤ 12 ∧ 1 ≤ d ∧ d ≤ daysIn y m := by
  have ⟨p1, p2⟩ := @mix_range c 9973 9999 (by decide)
  have ⟨q1, q2⟩ := @mix_range c 9967 8 (by decide)
  have ⟨m1, m2⟩ := @mix_range c 9949 12 (by decide)
  have hy : ∃ y : Int, 1 ≤ y ∧ y ≤ 9999 ∧ ∀ r x2, (exSs (Gm (n + 1)) (.cons (.set 1 (.bin .add (.int 1) (.bin .mod (.call c__law_mix (.cons (.v 0) (.cons (.int 9973) (.cons (.int 9999) .nil)))) (.int 9999))))
    (.cons (.ife (.cmp .eq (.bin .mod (.v 0) (.int 3)) (.int 0)) (.cons (.set 1 (.ix (.tup (.cons (.int 1) (.cons (.int 4) (.cons (.int 100) (.cons (.int 400) (.cons (.int 1900) (.cons (.int 2000) (.cons (.int 2024) (.cons (.int 9999) .nil))))))))) (.call c__law_mix (.cons (.v 0) (.cons (.int 9967) (.cons (.int 8) .nil))))))
    .nil) .nil) r)) [some (.d (.int c)), none, x2] []) = exSs (Gm (n + 1)) r [some (.d (.int c)), some (.d (.int y)), x2] [] := by
    by_cases h3 : c % 3 = 0
    · obtain ⟨x, hx, ex⟩ := @ix_t [.int 1, .int 4, .int 100, .int 400, .int 1900, .int 2000, .int 2024, .int 9999] (mix c 9967 8) q1 (by simpa using q2)
      have : ∃ y : Int, x = .int y ∧ 1 ≤ y ∧ y ≤ 9999 := by
        simp at hx
        rcases hx with h | h | h | h | h | h | h | h <;> exact ⟨_, h, by decide, by decide⟩
      obtain ⟨y, rfl, y1, y2⟩ := this
      refine ⟨y, y1, y2, fun r x2 => ?_⟩
      simp [run_mix, mod_ii, h3, mkTup, lim16, ex]
    · refine ⟨1 + mix c 9973 9999 % 9999, by omega, by omega, fun r x2 => ?_⟩
      simp [run_mix, mod_ii, h3]
  obtain ⟨y, y1, y2, hy⟩ := hy
  have ⟨d1, d2⟩ := daysIn_range y (1 + mix c 9949 12) (by omega) (by omega)
  have ⟨e1, e2⟩ := @mix_range c 9941 (daysIn y (1 + mix c 9949 12)) (by omega)
  have hd := run_law_days n y (1 + mix c 9949 12) (by omega) (by omega)
  have hm := run_mix n c 9941 (daysIn y (1 + mix c 9949 12)) (by decide) (by decide) (by omega)
  by_cases h2 : c % 2 = 0
  · refine ⟨y, 1 + mix c 9949 12, daysIn y (1 + mix c 9949 12), ?_, y1, y2, by omega, by omega, by omega, by omega⟩
    rw [run_law_day', b__law_day, hy]
    simp [run_mix, mod_ii, h2, hd]
  · refine ⟨y, 1 + mix c 9949 12, 1 + mix c 9941 (daysIn y (1 + mix c 9949 12)), ?_, y1, y2, by omega, by omega, by omega, by omega⟩
    rw [run_law_day', b__law_day, hy]
    simp [run_mix, mod_ii, h2, hd, hm]
/-! ### values -/
def isBlD : Dt → Bool
  | .bl _ => true
  | _ => false
def isTextD : Dt → Bool
  | .str s => decide (s.length ≤ 60)
  | _ => false
/-- a plain value -/
def plainV (s : List Nat) (c : Dt) : Bool :=
  if s = s_number_1f54 then isNumD c (-999999999) 999999999
  else if s = s_truth_2626 then isBlD c
  else if s = s_text_a7c7 then isTextD c
  else if s = [100, 97, 121] then isDayD c else false
def isValD : Nat → Dt → Bool
  | 0, .tup [.str s, c] => plainV s c
  | k + 1, .tup [.str s, c] => if s = s_list_f818 then (match c with
      | .tup xs => decide (xs.length ≤ 6) && xs.all (isValD k)
      | _ => false) else plainV s c
  | _, _ => false
theorem vsd_no (k : Nat) (a c : Dt) (h : ∀ s, a ≠ .str s) : isValD k (.tup [a, c]) = false := by
  cases k <;> cases a <;> first | rfl | exact absurd rfl (h _)
theorem isVal_plain {k : Nat} {s : List Nat} {c : Dt} (h : s ≠ s_list_f818) : isValD k (.tup [.str s, c]) = plainV s c := by
  cases k with
  | zero => rfl
  | succ k => simp [isValD, h]
theorem isVal_long (k : Nat) (a b c : Dt) (r : List Dt) : isValD k (.tup (a :: b :: c :: r)) = false := by cases k <;> simp [isValD]
theorem isVal_nt (k : Nat) (a : Dt) (h : ∀ xs, a ≠ .tup xs) : isValD k a = false := by
  cases k <;> cases a <;> first | rfl | exact absurd rfl (h _)
theorem isVal_number (k : Nat) {i : Int} (h1 : -999999999 ≤ i) (h2 : i ≤ 999999999) : isValD k (.tup [.str s_number_1f54, .int i]) = true := by
  rw [isVal_plain (by decide)]
  simp [plainV, isNumD, h1, h2]
theorem isVal_truth (k : Nat) (b : Bool) : isValD k (.tup [.str s_truth_2626, .bl b]) = true := by
  rw [isVal_plain (by decide)]
  simp [plainV, isBlD, show ¬ s_truth_2626 = s_number_1f54 by decide]
theorem isVal_text (k : Nat) {s : List Nat} (h : s.length ≤ 60) : isValD k (.tup [.str s_text_a7c7, .str s]) = true := by
  rw [isVal_plain (by decide)]
  simp [plainV, isTextD, show ¬ s_text_a7c7 = s_number_1f54 by decide, show ¬ s_text_a7c7 = s_truth_2626 by decide, h]
theorem isVal_day (k : Nat) {c : Dt} (h : isDayD c = true) : isValD k (.tup [.str [100, 97, 121], c]) = true := by
  rw [isVal_plain (by decide)]
  simp [plainV, show ¬ [100, 97, 121] = s_number_1f54 by decide, show ¬ [100, 97, 121] = s_truth_2626 by decide, show ¬ [100, 97, 121] = s_text_a7c7 by decide, h]
theorem isVal_list {k : Nat} {vs : List Dt} (h1 : vs.length ≤ 6) (h2 : ∀ v ∈ vs, isValD k v = true) : isValD (k + 1) (.tup [.str s_list_f818, .tup vs]) = true := by
  simp [isValD, h1]
  exact h2
theorem run_vsd' (n : Nat) (a b : Dt) : runP tab gls (n + 1) c_is_value_so_deep [a, b] = (exSs (Gm n) b_is_value_so_deep [some (.d a), some (.d b), none, none, none] []).bind endD := rfl
theorem gMost : gls[g_MOST]? = some (.int 999999999) := rfl
theorem run_vsd : ∀ (k n : Nat) (d : Dt), runP tab gls (n + k + 3) c_is_value_so_deep [d, .int k] = .ok (.bl (isValD k d)) := by
  have n1 : ¬ s_truth_2626 = s_number_1f54 := by decide
  have n2 : ¬ s_text_a7c7 = s_number_1f54 := by decide
  have n3 : ¬ s_text_a7c7 = s_truth_2626 := by decide
  have n4 : ¬ [100, 97, 121] = s_number_1f54 := by decide
  have n5 : ¬ [100, 97, 121] = s_truth_2626 := by decide
  have n6 : ¬ [100, 97, 121] = s_text_a7c7 := by decide
  have n7 : ¬ s_list_f818 = s_number_1f54 := by decide
  have n8 : ¬ s_list_f818 = s_truth_2626 := by decide
  have n9 : ¬ s_list_f818 = s_text_a7c7 := by decide
  have n0 : ¬ s_list_f818 = [100, 97, 121] := by decide
  intro k
  induction k with
  | zero =>
    intro n d
    rw [run_vsd']
    cases d with
    | tup xs =>
      match xs with
      | [] => simp [b_is_value_so_deep, isiD, isValD]
      | [_] => simp [b_is_value_so_deep, isiD, isValD]
      | [a, c] =>
        cases a with
        | str s =>
          by_cases h1 : s = s_number_1f54
          · subst h1
            simp [b_is_value_so_deep, isiD, isValD, ixD, ixL, ixP, plainV, gMost, run_is_number]
          by_cases h2 : s = s_truth_2626
          · subst h2
            cases c <;> simp [b_is_value_so_deep, isiD, isValD, ixD, ixL, ixP, plainV, n1, isBlD]
          by_cases h3 : s = s_text_a7c7
          · subst h3
            cases c with
            | str t => 
              have : ((t.length : Int) ≤ 60) = (t.length ≤ 60) := by simp only [eq_iff_iff]; omega
              simp [b_is_value_so_deep, isiD, isValD, ixD, ixL, ixP, plainV, n2, n3, isTextD, this]
            | _ => simp [b_is_value_so_deep, isiD, isValD, ixD, ixL, ixP, plainV, n2, n3, isTextD]
          by_cases h4 : s = [100, 97, 121]
          · subst h4
            simp [b_is_value_so_deep, isiD, isValD, ixD, ixL, ixP, plainV, n4, n5, n6, run_is_day]
          · by_cases h5 : s = s_list_f818
            · subst h5
              simp [b_is_value_so_deep, isiD, isValD, ixD, ixL, ixP, plainV, n7, n8, n9, n0]
            · simp [b_is_value_so_deep, isiD, isValD, ixD, ixL, ixP, plainV, h1, h2, h3, h4, h5]
        | _ => simp [b_is_value_so_deep, isiD, isValD, ixD, ixL, ixP]
      | _ :: _ :: _ :: r =>
        have : ¬ ((r.length : Int) + 1 + 1 + 1 = 2) := by omega
        simp [b_is_value_so_deep, isiD, isValD, this]
    | _ => simp [b_is_value_so_deep, isiD, isValD]
  | succ k ih =>
    intro n d
    rw [run_vsd']
    have ek : ¬ ((k : Int) + 1 = 0) := by omega
    cases d with
    | tup xs =>
      match xs with
      | [] => simp [b_is_value_so_deep, isiD, isValD]
      | [_] => simp [b_is_value_so_deep, isiD, isValD]
      | [a, c] =>
        cases a with
        | str s =>
          by_cases h1 : s = s_number_1f54
          · subst h1
            simp [b_is_value_so_deep, isiD, isVal_plain, Ne.symm n7, ixD, ixL, ixP, plainV, gMost, run_is_number]
          by_cases h2 : s = s_truth_2626
          · subst h2
            cases c <;> simp [b_is_value_so_deep, isiD, isVal_plain, Ne.symm n8, ixD, ixL, ixP, plainV, n1, isBlD]
          by_cases h3 : s = s_text_a7c7
          · subst h3
            cases c with
            | str t => 
              have : ((t.length : Int) ≤ 60) = (t.length ≤ 60) := by simp only [eq_iff_iff]; omega
              simp [b_is_value_so_deep, isiD, isVal_plain, Ne.symm n9, ixD, ixL, ixP, plainV, n2, n3, isTextD, this]
            | _ => simp [b_is_value_so_deep, isiD, isVal_plain, Ne.symm n9, ixD, ixL, ixP, plainV, n2, n3, isTextD]
          by_cases h4 : s = [100, 97, 121]
          · subst h4
            have r := run_is_day (n + k + 1 ) c
            simp only [show n + k + 1 + 2 = n + (k + 1) + 2 by omega] at r
            simp [b_is_value_so_deep, isiD, isVal_plain, Ne.symm n0, ixD, ixL, ixP, plainV, n4, n5, n6, r]
          · by_cases h5 : s = s_list_f818
            · subst h5
              cases c with
              | tup ys =>
                by_cases hl : ys.length ≤ 6
                · have e2 : ¬ (6 : Int) < (ys.length : Int) := by omega
                  have hlc : ∀ ifs elt (x4 : Option Wv), ifs = Exs.nil → elt = (.call c_is_value_so_deep (.cons (.v 4) (.cons (.bin .sub (.v 1) (.int 1)) .nil))) → lcL [] (lcTurn (evIfs (Gm (n + (k + 1) + 2)) ifs) (evE (Gm (n + (k + 1) + 2)) elt) (.one 4) [some (.d (.tup [.str s_list_f818, .tup ys])), some (.d (.int ((k : Int) + 1))), some (.d (.str s_list_f818)), some (.d (.tup ys)), x4]) ys [] = .ok (ys.map (fun c => .bl (isValD k c)), []) := by
                    intro ifs elt x4 h1 h2
                    subst h1 h2
                    refine lcL_map _ _ (fun x => lcTurn_one (by simp) ?_) ys
                    have r := ih n x
                    simp only [show n + k + 3 = n + (k + 1) + 2 by omega] at r
                    have e : (k : Int) + 1 - 1 = k := by omega
                    simp [e, r]
                  have hm : (ys.map (fun c => Dt.bl (isValD k c))).length ≤ lim := by simp [lim16]; omega
                  simp [b_is_value_so_deep, isiD, ixD, ixL, ixP, n7, n8, n9, n0, ek, e2]
                  rw [hlc _ _ _ rfl rfl]
                  simp only [Rs.bind_ok]
                  rw [lcEnd_ok hm]
                  simp [all_map, isValD, hl]
                · have e2 : (6 : Int) < (ys.length : Int) := by omega
                  simp [b_is_value_so_deep, isiD, ixD, ixL, ixP, n7, n8, n9, n0, ek, e2, isValD, hl]
              | _ => simp [b_is_value_so_deep, isiD, isValD, ixD, ixL, ixP, plainV, n7, n8, n9, n0, ek]
            · simp [b_is_value_so_deep, isiD, isVal_plain, ixD, ixL, ixP, plainV, h1, h2, h3, h4, h5]
        | _ => simp [b_is_value_so_deep, isiD, isValD, ixD, ixL, ixP]
      | _ :: _ :: _ :: r =>
        have : ¬ ((r.length : Int) + 1 + 1 + 1 = 2) := by omega
        simp [b_is_value_so_deep, isiD, isValD, this]
    | _ => simp [b_is_value_so_deep, isiD, isValD]
theorem run_is_value' (n : Nat) (a : Dt) : runP tab gls (n + 1) c_is_value [a] = (exSs (Gm n) b_is_value [some (.d a)] []).bind endD := rfl
theorem run_is_value (n : Nat) (d : Dt) : runP tab gls (n + 7) c_is_value [d] = .ok (.bl (isValD 3 d)) := by
  rw [run_is_value']
  have r := run_vsd 3 n d
  simp only [Int.cast_ofNat_Int] at r
  simp [b_is_value, r]

/-! ### the law's texts -/
def txC (c : Nat) : Prop := 32 ≤ c ∧ c ≤ 126 ∧ c ≠ 37
def txB (c : Nat) : Bool := decide (32 ≤ c) && (decide (c ≤ 126) && decide (c ≠ 37))
theorem txAll {S : List Nat} (h : S.all txB = true) : ∀ x ∈ S, txC x := by
  intro x hx
  have := List.all_eq_true.mp h x hx
  simpa [txB, txC] using this
theorem run_law_text' (n : Nat) (a : Dt) : runP tab gls (n + 1) c__law_text [a] = (exSs (Gm n) b__law_text [some (.d a), none, none, none] []).bind endD := rfl
theorem law_text_signs (n : Nat) (c : Int) : ∃ S : List Nat, (∀ x ∈ S, txC x) ∧ 0 < S.length ∧ ∀ r x2 x3, exSs (Gm (n + 1)) (.cons (.set 1 (.str s_01234567_b361))
  (.cons (.ife (.cmp .eq (.bin .mod (.v 0) (.int 4)) (.int 0)) (.cons (.set 1 (.str s_a_fd6d)) .nil) .nil) r)) [some (.d (.int c)), none, x2, x3] [] = exSs (Gm (n + 1)) r [some (.d (.int c)), some (.d (.str S)), x2, x3] [] := by
  by_cases h4 : c % 4 = 0
  · exact ⟨s_a_fd6d, txAll (by decide +kernel), by decide +kernel, fun r x2 x3 => by simp [mod_ii, h4]⟩
  · exact ⟨s_01234567_b361, txAll (by decide +kernel), by decide +kernel, fun r x2 x3 => by simp [mod_ii, h4]⟩
theorem law_text_many (n : Nat) (c : Int) (S : List Nat) : ∃ m : Nat, m ≤ 60 ∧ ∀ r x3, exSs (Gm (n + 1)) (.cons (.set 2 (.call c__law_mix (.cons (.v 0) (.cons (.int 9931) (.cons (.int 7) .nil)))))
  (.cons (.ife (.cmp .eq (.call c__law_mix (.cons (.v 0) (.cons (.int 9929) (.cons (.int 9) .nil)))) (.int 0)) (.cons (.set 2 (.int 60)) .nil) .nil) r)) [some (.d (.int c)), some (.d (.str S)), none, x3] [] = exSs (Gm (n + 1)) r [some (.d (.int c)), some (.d (.str S)), some (.d (.int m)), x3] [] := by
  have ⟨q1, q2⟩ := @mix_range c 9931 7 (by decide)
  by_cases h9 : mix c 9929 9 = 0
  · exact ⟨60, by decide, fun r x3 => by simp [run_mix, h9]⟩
  · refine ⟨(mix c 9931 7).toNat, by omega, fun r x3 => ?_⟩
    rw [show (((mix c 9931 7).toNat : Nat) : Int) = mix c 9931 7 by omega]
    simp [run_mix, h9]
theorem run_law_text (n : Nat) (c : Int) : ∃ s, runP tab gls (n + 2) c__law_text [.int c] = .ok (.str s) ∧ s.length ≤ 60 ∧ ∀ x ∈ s, txC x := by
  have s7 : smallI 7 := by decide
  obtain ⟨S, hS1, hS2, hS3⟩ := law_text_signs n c
  obtain ⟨m, hm, hM⟩ := law_text_many n c S
  have e0 : (0 : Int) < S.length := by omega
  obtain ⟨ys, h1, h2, h3⟩ := @lcL_ex [] (lcTurn (evIfs (Gm (n + 1)) .nil) (evE (Gm (n + 1)) (.ix (.v 1) (.call c__law_mix (.cons (.bin .add (.v 0) (.bin .mul (.int 7) (.v 3))) (.cons (.int 9923) (.cons (.p1 .len (.v 1)) .nil)))))) (.one 3) [some (.d (.int c)), some (.d (.str S)), some (.d (.int m)), none]) (fun y => ∃ a, y = .str [a] ∧ txC a) (rangeL 0 m) (by
    intro x hx
    obtain ⟨j, rfl, hj⟩ := range0_mem hx
    have ⟨p1, p2⟩ := @mix_range (c + 7 * (j : Int)) 9923 S.length e0
    obtain ⟨u, hu, eu⟩ := @ix_s S (mix (c + 7 * (j : Int)) 9923 S.length) p1 p2
    have r := run_mix n (c + 7 * (j : Int)) 9923 S.length (by decide) (by decide) e0
    exact ⟨.str [u], lcTurn_one (by simp) (by simp [mul_ii, s7, r, eu]), u, rfl, hS1 u hu⟩)
  obtain ⟨cs, rfl, h4⟩ := map_of_ex ys h3
  rw [rangeL_len, List.length_map] at h2
  refine ⟨cs, ?_, by omega, h4⟩
  rw [run_law_text', b__law_text, hS3, hM, exSs_cons, exS_ret, evE_m1_ok (evE_str _) (evE_lc_ok (evI_rng_ok (m := m) (by simp) (by omega)) h1 (by simp; omega)) (join_one (by omega))]
  simp
/-! ### the law's values -/
theorem run_law_value' (n : Nat) (a b : Dt) : runP tab gls (n + 1) c__law_value [a, b] = (exSs (Gm n) b__law_value [some (.d a), some (.d b), none, none, none] []).bind endD := rfl
theorem lv_num3z (n : Nat) (c d : Int) (hd : ¬ 0 < d) (h : mix c 9907 4 = 0) (h3 : c % 3 = 0) : runP tab gls (n + 2) c__law_value [.int c, .int d] = .ok (.tup [.str s_number_1f54, .int (c % 1999999999 - 999999999)]) := by
  have s2 : smallI 2 := by decide
  rw [run_law_value']
  simp [b__law_value, run_mix, mul_ii, s2, hd, h, mod_ii, h3]
theorem lv_numz (n : Nat) (c d : Int) (hd : ¬ 0 < d) (h : mix c 9907 4 = 0) (h3 : ¬ c % 3 = 0) : runP tab gls (n + 2) c__law_value [.int c, .int d] = .ok (.tup [.str s_number_1f54, .int (mix c 9901 41 - 20)]) := by
  have s2 : smallI 2 := by decide
  rw [run_law_value']
  simp [b__law_value, run_mix, mul_ii, s2, hd, h, mod_ii, h3]
theorem lv_truthz (n : Nat) (c d : Int) (hd : ¬ 0 < d) (h : mix c 9907 4 = 1) : runP tab gls (n + 2) c__law_value [.int c, .int d] = .ok (.tup [.str s_truth_2626, .bl (decide (c % 2 = 0))]) := by
  have s2 : smallI 2 := by decide
  rw [run_law_value']
  simp [b__law_value, run_mix, mul_ii, s2, hd, h, mod_ii]
theorem lv_textz (n : Nat) (c d : Int) (hd : ¬ 0 < d) (h : mix c 9907 4 = 2) : ∃ t, runP tab gls (n + 3) c__law_value [.int c, .int d] = .ok (.tup [.str s_text_a7c7, .str t]) ∧ t.length ≤ 60 ∧ ∀ x ∈ t, txC x := by
  have s2 : smallI 2 := by decide
  obtain ⟨t, hs1, hs2, hs3⟩ := run_law_text n c
  refine ⟨t, ?_, hs2, hs3⟩
  rw [run_law_value']
  simp [b__law_value, run_mix, mul_ii, s2, hd, h, hs1]
theorem lv_dayz (n : Nat) (c d : Int) (hd : ¬ 0 < d) (h : mix c 9907 4 = 3) : ∃ y m e : Int, runP tab gls (n + 3) c__law_value [.int c, .int d] = .ok (.tup [.str [100, 97, 121], .tup [.int y, .int m, .int e]]) ∧ isDayD (.tup [.int y, .int m, .int e]) = true := by
  have s2 : smallI 2 := by decide
  obtain ⟨y, m, e, hr, y1, y2, m1, m2, d1, d2⟩ := run_law_day n c
  refine ⟨y, m, e, ?_, by simp [isDayD, isNumD]; omega⟩
  rw [run_law_value']
  simp [b__law_value, run_mix, mul_ii, s2, hd, h, hr]
theorem lv_num3s (n : Nat) (c d : Int) (hd : 0 < d) (h : mix c 9907 6 = 0) (h3 : c % 3 = 0) : runP tab gls (n + 2) c__law_value [.int c, .int d] = .ok (.tup [.str s_number_1f54, .int (c % 1999999999 - 999999999)]) := by
  have s2 : smallI 2 := by decide
  rw [run_law_value']
  simp [b__law_value, run_mix, mul_ii, s2, hd, h, mod_ii, h3]
theorem lv_nums (n : Nat) (c d : Int) (hd : 0 < d) (h : mix c 9907 6 = 0) (h3 : ¬ c % 3 = 0) : runP tab gls (n + 2) c__law_value [.int c, .int d] = .ok (.tup [.str s_number_1f54, .int (mix c 9901 41 - 20)]) := by
  have s2 : smallI 2 := by decide
  rw [run_law_value']
  simp [b__law_value, run_mix, mul_ii, s2, hd, h, mod_ii, h3]
theorem lv_truths (n : Nat) (c d : Int) (hd : 0 < d) (h : mix c 9907 6 = 1) : runP tab gls (n + 2) c__law_value [.int c, .int d] = .ok (.tup [.str s_truth_2626, .bl (decide (c % 2 = 0))]) := by
  have s2 : smallI 2 := by decide
  rw [run_law_value']
  simp [b__law_value, run_mix, mul_ii, s2, hd, h, mod_ii]
theorem lv_texts (n : Nat) (c d : Int) (hd : 0 < d) (h : mix c 9907 6 = 2) : ∃ t, runP tab gls (n + 3) c__law_value [.int c, .int d] = .ok (.tup [.str s_text_a7c7, .str t]) ∧ t.length ≤ 60 ∧ ∀ x ∈ t, txC x := by
  have s2 : smallI 2 := by decide
  obtain ⟨t, hs1, hs2, hs3⟩ := run_law_text n c
  refine ⟨t, ?_, hs2, hs3⟩
  rw [run_law_value']
  simp [b__law_value, run_mix, mul_ii, s2, hd, h, hs1]
theorem lv_days (n : Nat) (c d : Int) (hd : 0 < d) (h : mix c 9907 6 = 3) : ∃ y m e : Int, runP tab gls (n + 3) c__law_value [.int c, .int d] = .ok (.tup [.str [100, 97, 121], .tup [.int y, .int m, .int e]]) ∧ isDayD (.tup [.int y, .int m, .int e]) = true := by
  have s2 : smallI 2 := by decide
  obtain ⟨y, m, e, hr, y1, y2, m1, m2, d1, d2⟩ := run_law_day n c
  refine ⟨y, m, e, ?_, by simp [isDayD, isNumD]; omega⟩
  rw [run_law_value']
  simp [b__law_value, run_mix, mul_ii, s2, hd, h, hr]
def lvRest : Sms :=
    (.cons (.set 3 (.call c__law_mix (.cons (.v 0) (.cons (.int 9887) (.cons (.int 4) .nil)))))
    (.cons (.ife (.cmp .eq (.call c__law_mix (.cons (.v 0) (.cons (.int 9883) (.cons (.int 9) .nil)))) (.int 0)) (.cons (.set 3 (.int 6))
    .nil) .nil)
    (.cons (.ret (.tup (.cons (.str s_list_f818) (.cons (.p1 .tuple (.lc (.call c__law_value (.cons (.bin .add (.bin .add (.v 0) (.bin .mul (.int 17) (.v 4))) (.int 5)) (.cons (.bin .sub (.v 1) (.int 1)) .nil))) (.one 4) (.rng1 (.v 3)) .nil)) .nil))))
    .nil)))
def lvPre (r : Sms) : Sms :=
    (.cons (.set 2 (.call c__law_mix (.cons (.v 0) (.cons (.int 9907) (.cons (.bin .add (.int 4) (.bin .mul (.int 2) (.p1 .int (.cmp .gt (.v 1) (.int 0))))) .nil)))))
    (.cons (.ife (.cmp .eq (.v 2) (.int 0)) (.cons (.ife (.cmp .eq (.bin .mod (.v 0) (.int 3)) (.int 0)) (.cons (.ret (.tup (.cons (.str s_number_1f54) (.cons (.bin .sub (.bin .mod (.v 0) (.int 1999999999)) (.int 999999999)) .nil))))
    .nil) .nil)
    (.cons (.ret (.tup (.cons (.str s_number_1f54) (.cons (.bin .sub (.call c__law_mix (.cons (.v 0) (.cons (.int 9901) (.cons (.int 41) .nil)))) (.int 20)) .nil))))
    .nil)) .nil)
    (.cons (.ife (.cmp .eq (.v 2) (.int 1)) (.cons (.ret (.tup (.cons (.str s_truth_2626) (.cons (.cmp .eq (.bin .mod (.v 0) (.int 2)) (.int 0)) .nil))))
    .nil) .nil)
    (.cons (.ife (.cmp .eq (.v 2) (.int 2)) (.cons (.ret (.tup (.cons (.str s_text_a7c7) (.cons (.call c__law_text (.cons (.v 0) .nil)) .nil))))
    .nil) .nil)
    (.cons (.ife (.cmp .eq (.v 2) (.int 3)) (.cons (.ret (.tup (.cons (.str [100, 97, 121]) (.cons (.call c__law_day (.cons (.v 0) .nil)) .nil))))
    .nil) .nil) r)))))
theorem lv_list (n k : Nat) (c : Int) (ih : ∀ c : Int, ∃ v, runP tab gls (n + 3) c__law_value [.int c, .int k] = .ok v ∧ isValD k v = true) (h0 : ¬ mix c 9907 6 = 0) (h1 : ¬ mix c 9907 6 = 1) (h2 : ¬ mix c 9907 6 = 2) (h3 : ¬ mix c 9907 6 = 3) :
    ∃ v, runP tab gls (n + 4) c__law_value [.int c, .int ((k + 1 : Nat) : Int)] = .ok v ∧ isValD (k + 1) v = true := by
  have s2 : smallI 2 := by decide
  have s17 : smallI 17 := by decide
  have ek : (0 : Int) < (k : Int) + 1 := by omega
  have ⟨q1, q2⟩ := @mix_range c 9887 4 (by decide)
  rw [show ((k + 1 : Nat) : Int) = (k : Int) + 1 from rfl]
  have hm : ∃ m : Nat, m ≤ 6 ∧ ∀ r x2 x4, exSs (Gm (n + 3)) (.cons (.set 3 (.call c__law_mix (.cons (.v 0) (.cons (.int 9887) (.cons (.int 4) .nil)))))
    (.cons (.ife (.cmp .eq (.call c__law_mix (.cons (.v 0) (.cons (.int 9883) (.cons (.int 9) .nil)))) (.int 0)) (.cons (.set 3 (.int 6)) .nil) .nil) r)) [some (.d (.int c)), some (.d (.int ((k : Int) + 1))), x2, none, x4] [] =
      exSs (Gm (n + 3)) r [some (.d (.int c)), some (.d (.int ((k : Int) + 1))), x2, some (.d (.int m)), x4] [] := by
    by_cases h9 : mix c 9883 9 = 0
    · exact ⟨6, by decide, fun r x2 x4 => by simp [run_mix, h9]⟩
    · refine ⟨(mix c 9887 4).toNat, by omega, fun r x2 x4 => ?_⟩
      rw [show (((mix c 9887 4).toNat : Nat) : Int) = mix c 9887 4 by omega]
      simp [run_mix, h9]
  obtain ⟨m, hm1, hm2⟩ := hm
  obtain ⟨ys, y1, y2, y3⟩ := @lcL_ex [] (lcTurn (evIfs (Gm (n + 3)) .nil) (evE (Gm (n + 3)) (.call c__law_value (.cons (.bin .add (.bin .add (.v 0) (.bin .mul (.int 17) (.v 4))) (.int 5)) (.cons (.bin .sub (.v 1) (.int 1)) .nil)))) (.one 4) [some (.d (.int c)), some (.d (.int ((k : Int) + 1))), some (.d (.int (mix c 9907 6))), some (.d (.int m)), none]) (fun v => isValD k v = true) (rangeL 0 m) (by
    intro x hx
    obtain ⟨j, rfl, hj⟩ := range0_mem hx
    obtain ⟨v, v1, v2⟩ := ih (c + 17 * (j : Int) + 5)
    have e : (k : Int) + 1 - 1 = k := by omega
    exact ⟨v, lcTurn_one (by simp) (by simp [mul_ii, s17, e, v1]), v2⟩)
  rw [rangeL_len] at y2
  have hlc : evE (Gm (n + 3)) (Ex.lc (.call c__law_value (.cons (.bin .add (.bin .add (.v 0) (.bin .mul (.int 17) (.v 4))) (.int 5)) (.cons (.bin .sub (.v 1) (.int 1)) .nil))) (.one 4) (.rng1 (.v 3)) .nil) [some (.d (.int c)), some (.d (.int ((k : Int) + 1))), some (.d (.int (mix c 9907 6))), some (.d (.int m)), none] [] = .ok (.d (.lst ys), []) :=
    evE_lc_ok (evI_rng_ok (m := m) (by simp) (by omega)) y1 (by omega)
  refine ⟨.tup [.str s_list_f818, .tup ys], ?_, isVal_list (by omega) y3⟩
  have hb : b__law_value = lvPre lvRest := rfl
  have hp : exSs (Gm (n + 3)) (lvPre lvRest) [some (.d (.int c)), some (.d (.int ((k : Int) + 1))), none, none, none] [] = exSs (Gm (n + 3)) lvRest [some (.d (.int c)), some (.d (.int ((k : Int) + 1))), some (.d (.int (mix c 9907 6))), none, none] [] := by
    generalize lvRest = r
    simp [lvPre, run_mix, mul_ii, s2, ek, h0, h1, h2, h3]
  rw [run_law_value', hb, hp]
  unfold lvRest
  rw [hm2, exSs_cons, exS_ret, evE_tup, evEs_cons, evE_str, Rs.bind_ok, evEs_cons, evE_p1, hlc]
  simp
theorem run_law_value : ∀ (k n : Nat) (c : Int), ∃ v, runP tab gls (n + k + 3) c__law_value [.int c, .int k] = .ok v ∧ isValD k v = true := by
  intro k
  induction k with
  | zero =>
    intro n c
    have ⟨p1, p2⟩ := @mix_range c 9907 4 (by decide)
    have hd : ¬ (0 : Int) < ((0 : Nat) : Int) := by decide
    by_cases h0 : mix c 9907 4 = 0
    · by_cases h3 : c % 3 = 0
      · exact ⟨_, lv_num3z (n + 1) c _ hd h0 h3, isVal_number _ (by omega) (by omega)⟩
      · have ⟨q1, q2⟩ := @mix_range c 9901 41 (by decide)
        exact ⟨_, lv_numz (n + 1) c _ hd h0 h3, isVal_number _ (by omega) (by omega)⟩
    by_cases h1 : mix c 9907 4 = 1
    · exact ⟨_, lv_truthz (n + 1) c _ hd h1, isVal_truth _ _⟩
    by_cases h2 : mix c 9907 4 = 2
    · obtain ⟨s, hs1, hs2, hs3⟩ := lv_textz n c _ hd h2
      exact ⟨_, hs1, isVal_text _ hs2⟩
    · obtain ⟨y, m, d, hr, h⟩ := lv_dayz n c _ hd (by omega)
      exact ⟨_, hr, isVal_day _ h⟩
  | succ k ih =>
    intro n c
    have ⟨p1, p2⟩ := @mix_range c 9907 6 (by decide)
    have s2 : smallI 2 := by decide
    have s17 : smallI 17 := by decide
    have hd : (0 : Int) < ((k + 1 : Nat) : Int) := by omega
    have ek : (0 : Int) < (k : Int) + 1 := by omega
    by_cases h0 : mix c 9907 6 = 0
    · by_cases h3 : c % 3 = 0
      · exact ⟨_, lv_num3s (n + (k + 1) + 1) c _ hd h0 h3, isVal_number _ (by omega) (by omega)⟩
      · have ⟨q1, q2⟩ := @mix_range c 9901 41 (by decide)
        exact ⟨_, lv_nums (n + (k + 1) + 1) c _ hd h0 h3, isVal_number _ (by omega) (by omega)⟩
    by_cases h1 : mix c 9907 6 = 1
    · exact ⟨_, lv_truths (n + (k + 1) + 1) c _ hd h1, isVal_truth _ _⟩
    by_cases h2 : mix c 9907 6 = 2
    · obtain ⟨s, hs1, hs2, hs3⟩ := lv_texts (n + (k + 1)) c _ hd h2
      exact ⟨_, hs1, isVal_text _ hs2⟩
    by_cases h3 : mix c 9907 6 = 3
    · obtain ⟨y, m, d, hr, h⟩ := lv_days (n + (k + 1)) c _ hd h3
      exact ⟨_, hr, isVal_day _ h⟩
    · exact lv_list (n + k) k c (fun c => by have := ih n c; rwa [show n + k + 3 = n + k + 2 + 1 from rfl] at this) h0 h1 h2 h3
/-- what a value looks like -/
theorem isVal_inv {k : Nat} {v : Dt} (h : isValD k v = true) : ∃ s c, v = .tup [.str s, c] ∧ (s = s_number_1f54 → ∃ i, c = .int i) ∧ (s = s_list_f818 → ∃ xs j, k = j + 1 ∧ c = .tup xs ∧ xs.length ≤ 6 ∧ ∀ x ∈ xs, isValD j x = true) := by
  cases v with
  | tup xs =>
    match xs, h with
    | [a, c], h =>
      cases a with
      | str s =>
        refine ⟨s, c, rfl, ?_, ?_⟩
        · rintro rfl
          rw [isVal_plain (by decide)] at h
          cases c <;> simp [plainV, isNumD] at h
          exact ⟨_, rfl⟩
        · rintro rfl
          cases k with
          | zero =>
            simp [isValD, plainV, show ¬ s_list_f818 = s_number_1f54 by decide, show ¬ s_list_f818 = s_truth_2626 by decide, show ¬ s_list_f818 = s_text_a7c7 by decide, show ¬ s_list_f818 = [100, 97, 121] by decide] at h
          | succ j =>
            cases c with
            | tup ys =>
              simp [isValD] at h
              exact ⟨ys, j, rfl, rfl, h.1, h.2⟩
            | _ => simp [isValD] at h
      | _ => cases k <;> simp [isValD] at h
    | [], h => cases k <;> simp [isValD] at h
    | [a], h => cases k <;> simp [isValD] at h
    | a :: b :: c :: r, h => rw [isVal_long] at h; cases h
  | _ => cases k <;> simp [isValD] at h
theorem isVal_mono : ∀ {k : Nat} {v : Dt}, isValD k v = true → isValD (k + 1) v = true := by
  intro k
  induction k with
  | zero =>
    intro v h
    obtain ⟨s, c, rfl, h1, h2⟩ := isVal_inv h
    by_cases hs : s = s_list_f818
    · obtain ⟨xs, j, e, _⟩ := h2 hs
      cases e
    · rwa [isVal_plain hs, ← isVal_plain (k := 0) hs]
  | succ k ih =>
    intro v h
    obtain ⟨s, c, rfl, h1, h2⟩ := isVal_inv h
    by_cases hs : s = s_list_f818
    · obtain ⟨xs, j, e, rfl, h3, h4⟩ := h2 hs
      cases e
      subst hs
      exact isVal_list h3 fun x hx => ih (h4 x hx)
    · rwa [isVal_plain hs, ← isVal_plain (k := k + 1) hs]
/-! ### sameness -/
mutual
def plainT : Dt → Bool
  | .tup xs => decide (xs.length ≤ 1000) && plainTs xs
  | .str _ => true
  | .int _ => true
  | .bl _ => true
  | .non => true
  | _ => false
def plainTs : List Dt → Bool
  | [] => true
  | x :: xs => plainT x && plainTs xs
end
theorem plainTs_mem : ∀ {xs : List Dt}, plainTs xs = true → ∀ x ∈ xs, plainT x = true
  | y :: xs, h, x, hx => by
    rw [plainTs, Bool.and_eq_true] at h
    rcases List.mem_cons.mp hx with rfl | hx
    · exact h.1
    · exact plainTs_mem h.2 x hx
theorem dep_mem : ∀ {xs : List Dt} {x : Dt}, x ∈ xs → depD x ≤ depDs xs
  | y :: xs, x, h => by
    simp only [depDs]
    rcases List.mem_cons.mp h with rfl | h
    · omega
    · have := dep_mem h; omega
theorem zip_self : ∀ xs : List Dt, zipL xs xs = xs.map fun x => .tup [x, x]
  | [] => rfl
  | x :: xs => by rw [zipL, zip_self xs]; rfl
theorem is_non (x : Dt) : copD .is x .non = some (isNonD x) := by cases x <;> rfl
/-! ### valid values are plain -/
theorem isDay_inv {c : Dt} (h : isDayD c = true) : ∃ y m d : Int, c = .tup [.int y, .int m, .int d] ∧ 1 ≤ y ∧ y ≤ 9999 ∧ 1 ≤ m ∧ m ≤ 12 ∧ 1 ≤ d ∧ d ≤ daysIn y m := by
  unfold isDayD at h
  split at h
  · rename_i y m d
    cases d with
    | int d =>
      simp only [isNumD, Bool.and_eq_true, decide_eq_true_eq] at h
      exact ⟨y, m, d, rfl, h.1.1.1, h.1.1.2, h.1.2.1, h.1.2.2, h.2.1, h.2.2⟩
    | _ => simp [isNumD] at h
  · cases h
theorem plain_inv {s : List Nat} {c : Dt} (h : plainV s c = true) : (s = s_number_1f54 ∧ ∃ i : Int, c = .int i ∧ -999999999 ≤ i ∧ i ≤ 999999999) ∨ (s = s_truth_2626 ∧ ∃ b, c = .bl b) ∨ (s = s_text_a7c7 ∧ ∃ t, c = .str t ∧ t.length ≤ 60) ∨ (s = [100, 97, 121] ∧ isDayD c = true) := by
  unfold plainV at h
  split at h
  · rename_i e
    left
    cases c <;> simp [isNumD] at h
    exact ⟨e, _, rfl, h⟩
  split at h
  · rename_i e
    cases c <;> simp [isBlD] at h
    exact .inr (.inl ⟨e, _, rfl⟩)
  split at h
  · rename_i e
    cases c <;> simp [isTextD] at h
    exact .inr (.inr (.inl ⟨e, _, rfl, h⟩))
  split at h
  · rename_i e
    exact .inr (.inr (.inr ⟨e, h⟩))
  · cases h
theorem plainTs_of : ∀ {xs : List Dt}, (∀ x ∈ xs, plainT x = true) → plainTs xs = true
  | [], _ => rfl
  | x :: xs, h => by rw [plainTs, h x List.mem_cons_self, plainTs_of fun y hy => h y (List.mem_cons_of_mem _ hy)]; rfl
theorem depDs_of : ∀ {xs : List Dt} {n : Nat}, (∀ x ∈ xs, depD x ≤ n) → depDs xs ≤ n
  | [], _, _ => by simp [depDs]
  | x :: xs, n, h => by
    have a := h x List.mem_cons_self
    have b := depDs_of fun y hy => h y (List.mem_cons_of_mem _ hy)
    simp only [depDs]
    omega
theorem plainV_pd {s : List Nat} {c : Dt} (h : plainV s c = true) : plainT c = true ∧ depD c ≤ 1 := by
  rcases plain_inv h with ⟨_, i, rfl, _⟩ | ⟨_, b, rfl⟩ | ⟨_, t, rfl, _⟩ | ⟨_, hd⟩
  · simp [plainT, depD]
  · simp [plainT, depD]
  · simp [plainT, depD]
  · obtain ⟨y, m, d, rfl, _⟩ := isDay_inv hd
    simp [plainT, plainTs, depD, depDs]
theorem val_pd : ∀ {k : Nat} {v : Dt}, isValD k v = true → plainT v = true ∧ depD v ≤ 2 * k + 2 := by
  intro k
  induction k with
  | zero =>
    intro v h
    obtain ⟨s, c, rfl, _, h2⟩ := isVal_inv h
    have hs : s ≠ s_list_f818 := by
      intro e
      obtain ⟨xs, j, e, _⟩ := h2 e
      cases e
    rw [isVal_plain hs] at h
    have := plainV_pd h
    simp only [plainT, plainTs, this.1, depD, depDs]
    refine ⟨by simp, ?_⟩
    omega
  | succ k ih =>
    intro v h
    obtain ⟨s, c, rfl, _, h2⟩ := isVal_inv h
    by_cases hs : s = s_list_f818
    · obtain ⟨xs, j, e, rfl, hl, h4⟩ := h2 hs
      cases e
      have a := plainTs_of fun x hx => (ih (h4 x hx)).1
      have b := depDs_of fun x hx => (ih (h4 x hx)).2
      have hl2 : xs.length ≤ 1000 := by omega
      simp only [plainT, plainTs, a, depD, depDs, hl2]
      refine ⟨by simp, ?_⟩
      omega
    · rw [isVal_plain hs] at h
      have := plainV_pd h
      simp only [plainT, plainTs, this.1, depD, depDs]
      refine ⟨by simp, ?_⟩
      omega
/-! ### numbers as texts -/
def numN (n : Nat) : List Nat := (Nat.toDigits 10 n).map Char.toNat
def numS (i : Int) : List Nat := if 0 ≤ i then numN i.toNat else 45 :: numN (-i).toNat
theorem digitChar_nat {d : Nat} (h : d < 10) : (Nat.digitChar d).toNat = 48 + d := by
  have : ∀ d, d < 10 → (Nat.digitChar d).toNat = 48 + d := by decide
  exact this d h
theorem numN_lt {n : Nat} (h : n < 10) : numN n = [48 + n] := by
  rw [numN, Nat.toDigits_of_lt_base h, List.map_cons, digitChar_nat h]; rfl
theorem numN_ge {n : Nat} (h : 10 ≤ n) : numN n = numN (n / 10) ++ [48 + n % 10] := by
  rw [numN, Nat.toDigits_of_base_le (by omega) h, List.map_append, List.map_cons, digitChar_nat (by omega)]; rfl
theorem numN_dig : ∀ n : Nat, ∀ c ∈ numN n, 48 ≤ c ∧ c ≤ 57 := by
  intro n
  induction n using Nat.strongRecOn with
  | ind n ih =>
    by_cases h : n < 10
    · rw [numN_lt h]; intro c hc; rw [List.mem_singleton.mp hc]; omega
    · rw [numN_ge (by omega)]
      intro c hc
      rcases List.mem_append.mp hc with hc | hc
      · exact ih (n / 10) (by omega) c hc
      · rw [List.mem_singleton.mp hc]; omega
theorem digV_snoc (s : List Nat) (c : Nat) : digV (s ++ [c]) = digV s * 10 + (c - 48) := by
  unfold digV; rw [List.foldl_append]; rfl
theorem numN_val : ∀ n : Nat, digV (numN n) = n := by
  intro n
  induction n using Nat.strongRecOn with
  | ind n ih =>
    by_cases h : n < 10
    · rw [numN_lt h]; show 0 * 10 + (48 + n - 48) = n; omega
    · rw [numN_ge (by omega), digV_snoc, ih (n / 10) (by omega)]; omega
theorem numN_len : ∀ (k n : Nat), n < 10 ^ (k + 1) → 1 ≤ (numN n).length ∧ (numN n).length ≤ k + 1 := by
  intro k
  induction k with
  | zero => intro n h; rw [numN_lt (by simpa using h)]; simp
  | succ k ih =>
    intro n h
    by_cases h10 : n < 10
    · rw [numN_lt h10]; simp
    · have := ih (n / 10) (by rw [Nat.div_lt_iff_lt_mul (by omega)]; rw [Nat.pow_succ] at h; exact h)
      rw [numN_ge (by omega), List.length_append]
      simp only [List.length_cons, List.length_nil]
      omega
theorem S2_num (i : Int) : S2 (toString i) = numS i := by
  have e : toString i = i.repr := rfl
  rw [e, Int.repr_eq_if, numS]
  split
  · rw [Nat.repr_eq_ofList_toDigits]; simp [S2, numN]
  · rw [Nat.repr_eq_ofList_toDigits]; simp [S2, numN]
/-! ### reading: blanks -/
theorem slP_nat (n d k : Nat) : slP n d (some (k : Int)) = min k n := by
  show (if (k : Int) < 0 then ((k : Int) + (n : Int)).toNat else min (k : Int).toNat n) = _
  rw [if_neg (by omega), Int.toNat_natCast]
theorem cutN {α : Type} (t : List α) (p q : Nat) : cutL t (some (p : Int)) (some (q : Int)) = (t.drop p).take (q - p) := by
  unfold cutL
  rw [slP_nat, slP_nat]
  by_cases h : p < t.length
  · rw [Nat.min_eq_left (a := p) (by omega)]
    by_cases h2 : q ≤ t.length
    · rw [Nat.min_eq_left h2]
    · rw [Nat.min_eq_right (by omega), List.take_of_length_le (by rw [List.length_drop]; omega), List.take_of_length_le (by rw [List.length_drop]; omega)]
  · rw [Nat.min_eq_right (a := p) (by omega), List.drop_eq_nil_of_le (as := t) (i := p) (by omega), List.drop_eq_nil_of_le (by omega)]; simp
theorem cut1 (t : List Nat) (p : Nat) : cutL t (some (p : Int)) (some ((p : Int) + 1)) = (t.drop p).take 1 := by
  have := cutN t p (p + 1)
  rw [show ((p + 1 : Nat) : Int) = (p : Int) + 1 from rfl, show p + 1 - p = 1 by omega] at this
  exact this
/-- blanks ahead -/
def nbl : List Nat → Nat
  | [] => 0
  | c :: r => if c = 32 then nbl r + 1 else 0
theorem nbl_le : ∀ l : List Nat, nbl l ≤ l.length
  | [] => by simp [nbl]
  | c :: r => by
    have := nbl_le r
    unfold nbl
    split
    · simp; omega
    · omega
theorem drop_next {t l : List Nat} {p c : Nat} (h : t.drop p = c :: l) : t.drop (p + 1) = l := by
  rw [← List.drop_drop, h]; rfl
theorem bb_loop (n : Nat) (t : List Nat) : ∀ (l : List Nat) (p N : Nat), t.drop p = l → l.length < N →
    exWhl (evT (Gm n) wc0_behind_blanks) (exSs (Gm n) wb0_behind_blanks) N [some (.d (.str t)), some (.d (.int p))] [] = .ok ((.nx, [some (.d (.str t)), some (.d (.int ((p + nbl l : Nat) : Int)))]), []) := by
  intro l
  induction l with
  | nil =>
    intro p N h hN
    obtain ⟨N, rfl⟩ : ∃ M, N = M + 1 := ⟨N - 1, by omega⟩
    rw [exWhl_stop (by simp [cut1, h]; rfl)]
    simp [nbl]
  | cons c l ih =>
    intro p N h hN
    obtain ⟨N, rfl⟩ : ∃ M, N = M + 1 := ⟨N - 1, by omega⟩
    by_cases hc : c = 32
    · subst hc
      rw [exWhl_go (ρ2 := [some (.d (.str t)), some (.d (.int ((p + 1 : Nat) : Int)))]) (st' := []) (st2 := []) (by simp [cut1, h]) (by simp), ih (p + 1) N (drop_next h) (by simp at hN; omega)]
      simp only [nbl, if_true]
      rw [show p + 1 + nbl l = p + (nbl l + 1) by omega]
    · rw [exWhl_stop (st' := []) (by simp [cut1, h, hc])]
      simp [nbl, hc]
theorem run_bb' (n : Nat) (a b : Dt) : runP tab gls (n + 1) c_behind_blanks [a, b] = (exSs (Gm n) b_behind_blanks [some (.d a), some (.d b)] []).bind endD := rfl
theorem run_bb (n : Nat) (t : List Nat) (p : Nat) (h : t.length ≤ 400000) : runP tab gls (n + 1) c_behind_blanks [.str t, .int p] = .ok (.int ((p + nbl (t.drop p) : Nat) : Int)) := by
  rw [run_bb']
  unfold b_behind_blanks
  rw [exSs_nx ((exS_whl ..).trans (bb_loop n t _ p turns rfl (by rw [List.length_drop]; unfold turns; omega))), exSs_rt (exS_ret_ok (by rw [evE_v]; rfl))]
  rfl
/-! ### reading: texts -/
/-- the signs of a text behind its quote, and how many signs stand for them -/
def tfC : List Nat → Option (List Nat × Nat)
  | [] => none
  | [c] => if c = 34 then some ([], 0) else none
  | c :: d :: r => if c = 34 then some ([], 0) else if c = 92 then (if d = 34 ∨ d = 92 then (tfC r).map fun q => (d :: q.1, q.2 + 2) else none) else (tfC (d :: r)).map fun q => (c :: q.1, q.2 + 1)
theorem tfC_end (r : List Nat) : tfC (34 :: r) = some ([], 0) := by cases r <;> simp [tfC]
theorem tfC_esc (d : Nat) (r : List Nat) : tfC (92 :: d :: r) = if d = 34 ∨ d = 92 then (tfC r).map fun q => (d :: q.1, q.2 + 2) else none := by simp [tfC]
theorem tfC_esc1 : tfC [92] = none := by simp [tfC]
theorem tfC_sign {c : Nat} (h1 : c ≠ 34) (h2 : c ≠ 92) (r : List Nat) : tfC (c :: r) = (tfC r).map fun q => (c :: q.1, q.2 + 1) := by
  cases r with
  | nil => simp [tfC, h1]
  | cons d r => simp [tfC, h1, h2]
theorem exWhl_exc {c : Ev → Sr → Rs (Bool × Sr)} {body : Ev → Sr → Rs Sx} {N k : Nat} {fs : List Dt} {ρ : Ev} {st st' st2 : Sr} (h : c ρ st = .ok (true, st')) (hb : body ρ st' = .exc k fs st2) : exWhl c body (N + 1) ρ st = .exc k fs st2 := by
  rw [exWhl, h]
  show (body ρ st').bind _ = _
  rw [hb]; rfl
theorem eq_ss2 (a b : List Nat) : copD .eq (.str a) (.str b) = some (decide (a = b)) := by rw [eq_dd (.inl (by simp [depD])), eqD_ss]
theorem ne_ss2 (a b : List Nat) : copD .ne (.str a) (.str b) = some (!decide (a = b)) := by rw [ne_dd (.inl (by simp [depD])), eqD_ss]
theorem notin_st (a : List Nat) (xs : List Dt) : copD .notin (.str a) (.tup xs) = some (!xs.any fun z => eqD z (.str a)) := by cases a <;> simp [copD, depD]
abbrev tfE (t : List Nat) (p : Nat) (f : List Nat) (s : Option Wv) : Ev := [some (.d (.str t)), some (.d (.int p)), some (.d (.str f)), s]
theorem tf_turn_sign (n : Nat) (t f l : List Nat) (p c : Nat) (s : Option Wv) (h : t.drop p = c :: l) (h2 : c ≠ 92) (hf : f.length ≤ 400000) :
    exSs (Gm n) wb0_text_from (tfE t p f s) [] = .ok ((.nx, tfE t (p + 1) (f ++ [c]) (some (.d (.str [c])))), []) := by
  have ha : f.length + [c].length ≤ lim := by rw [lim16]; simp; omega
  simp [wb0_text_from, cut1, h, h2, add_ss ha]
theorem tf_turn_esc (n : Nat) (t f l : List Nat) (p d : Nat) (s : Option Wv) (h : t.drop p = 92 :: d :: l) (h2 : d = 34 ∨ d = 92) (hf : f.length ≤ 400000) :
    exSs (Gm n) wb0_text_from (tfE t p f s) [] = .ok ((.nx, tfE t (p + 2) (f ++ [d]) (some (.d (.str [d])))), []) := by
  have ha : f.length + [d].length ≤ lim := by rw [lim16]; simp; omega
  have h1 := drop_next h
  have c1 := cut1 t (p + 1)
  rw [show ((p + 1 : Nat) : Int) = (p : Int) + 1 from rfl, h1] at c1
  rcases h2 with rfl | rfl <;> (simp [wb0_text_from, cut1, h, c1, add_ss ha, notin_st]; omega)
theorem tf_turn_bad (n : Nat) (t f l : List Nat) (p : Nat) (s : Option Wv) (h : t.drop p = 92 :: l) (h2 : ∀ d r, l = d :: r → ¬ (d = 34 ∨ d = 92)) :
    exSs (Gm n) wb0_text_from (tfE t p f s) [] = .exc x_NoValue [] [] := by
  have h1 := drop_next h
  have c1 := cut1 t (p + 1)
  rw [show ((p + 1 : Nat) : Int) = (p : Int) + 1 from rfl, h1] at c1
  cases l with
  | nil => simp [wb0_text_from, cut1, h, c1, notin_st]
  | cons d r =>
    have := h2 d r rfl
    rw [not_or] at this
    simp [wb0_text_from, cut1, h, c1, notin_st, Ne.symm this.1, Ne.symm this.2]
theorem tf_turn_end (n : Nat) (t f : List Nat) (p : Nat) (s : Option Wv) (h : t.drop p = []) : exSs (Gm n) wb0_text_from (tfE t p f s) [] = .exc x_NoValue [] [] := by
  simp [wb0_text_from, cut1, h]
theorem tf_cond (n : Nat) (t f : List Nat) (p : Nat) (s : Option Wv) : evT (Gm n) wc0_text_from (tfE t p f s) [] = .ok (!decide ((t.drop p).take 1 = [34]), []) := by
  simp [wc0_text_from, cut1, ne_ss2]
theorem tf_loop (n : Nat) (t : List Nat) : ∀ (m : Nat) (l f : List Nat) (p N : Nat) (s : Option Wv), l.length ≤ m → t.drop p = l → m < N → f.length + l.length ≤ 400000 →
    match tfC l with
    | some q => ∃ s', exWhl (evT (Gm n) wc0_text_from) (exSs (Gm n) wb0_text_from) N (tfE t p f s) [] = .ok ((.nx, tfE t (p + q.2) (f ++ q.1) s'), [])
    | none => exWhl (evT (Gm n) wc0_text_from) (exSs (Gm n) wb0_text_from) N (tfE t p f s) [] = .exc x_NoValue [] [] := by
  intro m
  induction m with
  | zero =>
    intro l f p N s hl h hN hf
    obtain ⟨N, rfl⟩ : ∃ M, N = M + 1 := ⟨N - 1, by omega⟩
    have : l = [] := List.length_eq_zero_iff.mp (by omega)
    subst this
    show _ = _
    exact exWhl_exc (by rw [tf_cond, h]; simp) (tf_turn_end n t f p s h)
  | succ m ih =>
    intro l f p N s hl h hN hf
    obtain ⟨N, rfl⟩ : ∃ M, N = M + 1 := ⟨N - 1, by omega⟩
    cases l with
    | nil => exact exWhl_exc (by rw [tf_cond, h]; simp) (tf_turn_end n t f p s h)
    | cons c l =>
      simp only [List.length_cons] at hl hf
      by_cases h34 : c = 34
      · subst h34
        rw [tfC_end]
        refine ⟨s, ?_⟩
        rw [exWhl_stop (st' := []) (by rw [tf_cond, h]; simp)]
        simp
      have ht : evT (Gm n) wc0_text_from (tfE t p f s) [] = .ok (true, []) := by rw [tf_cond, h]; simp [h34]
      by_cases h92 : c = 92
      · subst h92
        by_cases hd : ∃ d r, l = d :: r ∧ (d = 34 ∨ d = 92)
        · obtain ⟨d, r, rfl, hd⟩ := hd
          simp only [List.length_cons] at hl hf
          have := ih r (f ++ [d]) (p + 2) N (some (.d (.str [d]))) (by omega) (drop_next (p := p + 1) (drop_next h)) (by omega) (by simp; omega)
          rw [tfC_esc, if_pos hd, exWhl_go ht (tf_turn_esc n t f r p d s h hd (by omega))]
          cases e : tfC r with
          | none => rw [e] at this; exact this
          | some q =>
            rw [e] at this
            obtain ⟨s', hs⟩ := this
            exact ⟨s', by rw [hs]; simp; omega⟩
        · have hb : ∀ d r, l = d :: r → ¬ (d = 34 ∨ d = 92) := fun d r e z => hd ⟨d, r, e, z⟩
          have : tfC (92 :: l) = none := by
            cases l with
            | nil => exact tfC_esc1
            | cons d r => rw [tfC_esc, if_neg (hb d r rfl)]
          rw [this]
          exact exWhl_exc ht (tf_turn_bad n t f l p s h hb)
      · have := ih l (f ++ [c]) (p + 1) N (some (.d (.str [c]))) (by omega) (drop_next h) (by omega) (by simp; omega)
        rw [tfC_sign h34 h92, exWhl_go ht (tf_turn_sign n t f l p c s h h92 (by omega))]
        cases e : tfC l with
        | none => rw [e] at this; exact this
        | some q =>
          rw [e] at this
          obtain ⟨s', hs⟩ := this
          exact ⟨s', by rw [hs]; simp; omega⟩
theorem run_tf' (n : Nat) (a b : Dt) : runP tab gls (n + 1) c_text_from [a, b] = (exSs (Gm n) b_text_from [some (.d a), some (.d b), none, none] []).bind endD := rfl
def textV (s : List Nat) : Dt := .tup [.str s_text_a7c7, .str s]
/-- a reading: a value and the place behind, or the refusal -/
def rdR (p : Nat) : Option (Dt × Nat) → Rs Dt
  | some q => .ok (.tup [q.1, .int ((p + q.2 : Nat) : Int)])
  | none => .exc x_NoValue [] []
theorem run_tf (n : Nat) (t : List Nat) (p : Nat) (h : t.length ≤ 400000) : runP tab gls (n + 1) c_text_from [.str t, .int p] = rdR p ((tfC (t.drop (p + 1))).map fun q => (textV q.1, q.2 + 2)) := by
  rw [run_tf']
  unfold b_text_from
  have hl := tf_loop n t (t.drop (p + 1)).length (t.drop (p + 1)) [] (p + 1) turns none (Nat.le_refl _) rfl (by rw [List.length_drop]; unfold turns; omega) (by simp; omega)
  rw [exSs_nx (ρ1 := [some (.d (.str t)), some (.d (.int p)), some (.d (.str [])), none]) (st1 := []) (by simp), exSs_nx (ρ1 := tfE t (p + 1) [] none) (st1 := []) (by simp), exSs_cons, exS_whl]
  cases e : tfC (t.drop (p + 1)) with
  | none =>
    rw [e] at hl
    rw [hl]; rfl
  | some q =>
    rw [e] at hl
    obtain ⟨s', hs⟩ := hl
    rw [hs]
    simp [rdR, textV, tfE]
    omega
/-! ### reading: words -/
def dig (c : Nat) : Bool := decide (48 ≤ c) && decide (c ≤ 57)
def figs (w : List Nat) : Bool := !w.isEmpty && w.all dig
theorem dig_mem (c : Nat) : decide (c ∈ s_01234567_c7c6) = dig c := by
  unfold dig
  rw [← Bool.decide_and]
  apply decide_eq_decide.mpr
  simp [s_01234567_c7c6]
  omega
theorem run_figs' (n : Nat) (a : Dt) : runP tab gls (n + 1) c_are_figures [a] = (exSs (Gm n) b_are_figures [some (.d a), none] []).bind endD := rfl
theorem run_figs (n : Nat) (w : List Nat) (h : w.length ≤ 400000) : runP tab gls (n + 1) c_are_figures [.str w] = .ok (.bl (figs w)) := by
  rw [run_figs']
  unfold b_are_figures
  have hlc : evE (Gm n) (.lc le0_are_figures (.one 1) (.seq (.v 0)) li0_are_figures) [some (.d (.str w)), none] [] = .ok (.d (.lst (w.map fun c => .bl (dig c))), []) := by
    refine evE_lc_ok (xs := w.map fun c => .str [c]) (by rw [evI_seq]; rfl) (lcL_map' _ _ _ _ fun x _ => lcTurn_one (by simp) ?_) (by rw [List.length_map]; omega)
    simp [le0_are_figures, ← dig_mem]
  cases w with
  | nil => simp [figs]
  | cons c w =>
    rw [exSs_rt (exS_ret_ok (w := .d (.bl (figs (c :: w)))) (st1 := []) ?_)]
    · rfl
    · rw [evE_and, evAnd2, evE_cmp_ok (z := true) (st1 := []) (st2 := []) (by rw [evE_v]; rfl) (by rw [evE_str]) (by rw [ne_ss2]; simp), Rs.bind_ok]
      show evE _ _ _ _ = _
      rw [evE_p1_ok hlc (all_map dig (c :: w))]
      simp [figs]
def numV (i : Int) : Dt := .tup [.str s_number_1f54, .int i]
def truV (b : Bool) : Dt := .tup [.str s_truth_2626, .bl b]
def dayV (c : Dt) : Dt := .tup [.str [100, 97, 121], c]
def lstV (vs : List Dt) : Dt := .tup [.str s_list_f818, .tup vs]
def pvD (w : List Nat) : Dt :=
  if w = [121, 101, 115] ∨ w = [110, 111] then truV (decide (w = [121, 101, 115]))
  else if (figs w && decide (w.length ≤ 9)) = true then numV (digV w)
  else if (decide (w.take 1 = [45]) && figs (w.drop 1) && decide (w.length ≤ 10)) = true then numV (-digV (w.drop 1))
  else if (decide (w.length = 10) && decide ((splitC 45 w).length = 3) && (splitC 45 w).all figs) = true then dayV (.tup ((splitC 45 w).map fun p => .int (digV p)))
  else .non
theorem int_figs {w : List Nat} (h : figs w = true) (hl : w.length ≤ 600) : p1D .int (.str w) = some (.int (digV w)) := by
  unfold figs at h
  rw [Bool.and_eq_true] at h
  refine if_pos ⟨?_, h.2, hl⟩
  intro e
  rw [e] at h
  exact absurd h.1 (by decide)
theorem cut_lo {α : Type} (xs : List α) (k : Nat) : cutL xs (some (k : Int)) none = xs.drop k := by
  unfold cutL
  rw [slP_nat]
  show (xs.drop (min k xs.length)).take (xs.length - min k xs.length) = _
  rw [List.take_of_length_le (by rw [List.length_drop]; omega)]
  by_cases h : k ≤ xs.length
  · rw [Nat.min_eq_left h]
  · rw [Nat.min_eq_right (by omega), List.drop_eq_nil_of_le (Nat.le_refl _), List.drop_eq_nil_of_le (by omega)]
theorem splitC_len (c : Nat) : ∀ s : List Nat, (splitC c s).length ≤ s.length + 1
  | [] => by simp [splitC]
  | x :: xs => by
    have := splitC_len c xs
    unfold splitC
    split
    · simp; omega
    · split
      · simp
      · rename_i p ps e; rw [e] at this; simp at this ⊢; omega
theorem splitC_mem (c : Nat) : ∀ (s : List Nat), ∀ p ∈ splitC c s, p.length ≤ s.length
  | [], p, h => by simp [splitC] at h; simp [h]
  | x :: xs, p, h => by
    have ih := splitC_mem c xs
    unfold splitC at h
    split at h
    · rcases List.mem_cons.mp h with rfl | h
      · simp
      · have := ih p h; simp; omega
    · split at h
      · simp at h; simp [h]
      · rename_i q qs e
        rw [e] at ih
        rcases List.mem_cons.mp h with rfl | h
        · have := ih q List.mem_cons_self; simp; omega
        · have := ih p (List.mem_cons_of_mem _ h); simp; omega
theorem run_pv' (n : Nat) (a : Dt) : runP tab gls (n + 1) c_plain_value [a] = (exSs (Gm n) b_plain_value [some (.d a), none, none] []).bind endD := rfl
theorem run_pv (n : Nat) (w : List Nat) (h : w.length ≤ 400000) : runP tab gls (n + 2) c_plain_value [.str w] = .ok (pvD w) := by
  rw [run_pv']
  have hfw := run_figs n w (by omega)
  have hfd := run_figs n (w.drop 1) (by rw [List.length_drop]; omega)
  have hc1 : cutL w none (some 1) = w.take 1 := cut_hi w 1
  have hc2 : cutL w (some 1) none = w.drop 1 := cut_lo w 1
  have hl9 : ((w.length : Int) ≤ 9) = (w.length ≤ 9) := by simp only [eq_iff_iff]; omega
  have hl10 : ((w.length : Int) ≤ 10) = (w.length ≤ 10) := by simp only [eq_iff_iff]; omega
  unfold pvD
  by_cases h1 : w = [121, 101, 115]
  · subst h1; simp [b_plain_value, truV, in_st]
  by_cases h2 : w = [110, 111]
  · subst h2; simp [b_plain_value, truV, in_st]
  rw [if_neg (by rw [not_or]; exact ⟨h1, h2⟩)]
  have C1 : evE (Gm (n + 1)) (.cmp .inn (.v 0) (.tup (.cons (.str [121, 101, 115]) (.cons (.str [110, 111]) .nil)))) [some (.d (.str w)), none, none] [] = .ok (.d (.bl false), []) := by
    simp [in_st, Ne.symm h1, Ne.symm h2]
  unfold b_plain_value
  rw [exSs_nx (exS_if_no C1 rfl)]
  by_cases h3 : (figs w && decide (w.length ≤ 9)) = true
  · rw [if_pos h3]
    rw [Bool.and_eq_true, decide_eq_true_eq] at h3
    have hi := int_figs h3.1 (by omega)
    rw [exSs_rt ((exS_if_yes (x := .bl true) (st1 := []) (by simp [hfw, h3.1, hl9, h3.2]) rfl).trans (exSs_rt (exS_ret_ok (w := .d (numV (digV w))) (st1 := []) (by simp [hi, numV]))))]
    rfl
  rw [if_neg h3]
  have C2 : evE (Gm (n + 1)) (.and (.cons (.call c_are_figures (.cons (.v 0) .nil)) (.cons (.cmp .le (.p1 .len (.v 0)) (.int 9)) .nil))) [some (.d (.str w)), none, none] [] = .ok (.d (.bl false), []) := by
    cases hf : figs w
    · simp [hfw, hf]
    · rw [hf, Bool.true_and, decide_eq_true_eq] at h3
      simp [hfw, hf, hl9]
      omega
  rw [exSs_nx (exS_if_no C2 rfl)]
  by_cases h4 : (decide (w.take 1 = [45]) && figs (w.drop 1) && decide (w.length ≤ 10)) = true
  · rw [if_pos h4]
    rw [Bool.and_eq_true, Bool.and_eq_true, decide_eq_true_eq, decide_eq_true_eq] at h4
    have hi := int_figs h4.1.2 (by rw [List.length_drop]; omega)
    rw [exSs_rt ((exS_if_yes (x := .bl true) (st1 := []) (by simp [-List.drop_one, hc1, hc2, hfd, h4.1.1, h4.1.2, hl10, h4.2]) rfl).trans (exSs_rt (exS_ret_ok (w := .d (numV (-digV (w.drop 1)))) (st1 := []) (by simp [-List.drop_one, hc2, hi, numV]))))]
    rfl
  rw [if_neg h4]
  have C3 : evE (Gm (n + 1)) (.and (.cons (.cmp .eq (.sl (.v 0) .no (.yes (.int 1))) (.str [45])) (.cons (.call c_are_figures (.cons (.sl (.v 0) (.yes (.int 1)) .no) .nil)) (.cons (.cmp .le (.p1 .len (.v 0)) (.int 10)) .nil)))) [some (.d (.str w)), none, none] [] = .ok (.d (.bl false), []) := by
    by_cases ha : w.take 1 = [45]
    · cases hf : figs (w.drop 1)
      · simp [-List.drop_one, hc1, hc2, hfd, ha, hf]
      · rw [hf, ha] at h4
        simp at h4
        simp [-List.drop_one, hc1, hc2, hfd, ha, hf, hl10]
        omega
    · simp [hc1, ha]
  have hsp : evE (Gm (n + 1)) (.m1 .split (.v 0) (.str [45])) [some (.d (.str w)), none, none] [] = .ok (.d (.lst ((splitC 45 w).map Dt.str)), []) :=
    evE_m1_ok (s := w) (x := .str [45]) (st1 := []) (by rw [evE_v]; rfl) (by rw [evE_str]) (if_pos (by omega))
  rw [exSs_nx (exS_if_no C3 rfl), exSs_nx (exS_set_ok hsp)]
  have hsl := splitC_len 45 w
  have hsm := splitC_mem 45 w
  generalize splitC 45 w = ps at hsl hsm ⊢
  have hE : ([some (.d (.str w)), none, none] : Ev).set 1 (some (.d (.lst (ps.map Dt.str)))) = [some (.d (.str w)), some (.d (.lst (ps.map Dt.str))), none] := rfl
  rw [hE]
  have hlc : evE (Gm (n + 1)) (.lc le0_plain_value (.one 2) (.seq (.v 1)) li0_plain_value) [some (.d (.str w)), some (.d (.lst (ps.map Dt.str))), none] [] = .ok (.d (.lst (ps.map fun p => .bl (figs p))), []) := by
    refine evE_lc_ok (xs := ps.map Dt.str) (by rw [evI_seq]; rfl) (lcL_map' _ _ _ _ fun x hx => lcTurn_one (by simp) ?_) (by rw [List.length_map]; omega)
    simp [le0_plain_value, run_figs n x (by have := hsm x hx; omega)]
  have e10 : ((w.length : Int) = 10) = (w.length = 10) := by simp only [eq_iff_iff]; omega
  have e3 : ((ps.length : Int) = 3) = (ps.length = 3) := by simp only [eq_iff_iff]; omega
  have hall := evE_p1_ok hlc (all_map figs ps)
  have C4 : evE (Gm (n + 1)) (.and (.cons (.cmp .eq (.p1 .len (.v 0)) (.int 10)) (.cons (.cmp .eq (.p1 .len (.v 1)) (.int 3)) (.cons (.p1 .all (.lc le0_plain_value (.one 2) (.seq (.v 1)) li0_plain_value)) .nil)))) [some (.d (.str w)), some (.d (.lst (ps.map Dt.str))), none] [] = .ok (.d (.bl (decide (w.length = 10) && decide (ps.length = 3) && ps.all figs)), []) := by
    rw [evE_and, evAnd2, evE_cmp_ok (z := decide (w.length = 10)) (x := .int w.length) (y := .int 10) (st1 := []) (st2 := []) (by simp) (by simp) (by simp [e10])]
    by_cases hw : w.length = 10
    · simp only [Rs.bind_ok, truW_d, truthD_bl, hw, decide_true, if_true]
      rw [evAnd2, evE_cmp_ok (z := decide (ps.length = 3)) (x := .int ps.length) (y := .int 3) (st1 := []) (st2 := []) (by simp) (by simp) (by simp [e3])]
      by_cases hp : ps.length = 3
      · simp only [Rs.bind_ok, truW_d, truthD_bl, hp, decide_true, if_true, evAnd1, hall, Bool.true_and]
      · simp [hp]
    · simp [hw]
  by_cases h5 : (decide (w.length = 10) && decide (ps.length = 3) && ps.all figs) = true
  · rw [if_pos h5]
    rw [h5] at C4
    rw [Bool.and_eq_true, Bool.and_eq_true, decide_eq_true_eq, decide_eq_true_eq, List.all_eq_true] at h5
    have hlc2 : evE (Gm (n + 1)) (.lc le1_plain_value (.one 2) (.seq (.v 1)) li1_plain_value) [some (.d (.str w)), some (.d (.lst (ps.map Dt.str))), none] [] = .ok (.d (.lst (ps.map fun p => .int (digV p))), []) := by
      refine evE_lc_ok (xs := ps.map Dt.str) (by rw [evI_seq]; rfl) (lcL_map' _ _ _ _ fun x hx => lcTurn_one (by simp) ?_) (by rw [List.length_map]; omega)
      simp [le1_plain_value, int_figs (h5.2 x hx) (by have := hsm x hx; omega)]
    rw [exSs_rt ((exS_if_yes C4 rfl).trans (exSs_rt (exS_ret_ok (w := .d (dayV (.tup (ps.map fun p => .int (digV p))))) (st1 := []) ?_)))]
    · rfl
    · rw [evE_tup, evEs_cons, evE_str, Rs.bind_ok, evEs_cons, evE_p1_ok (z := .tup (ps.map fun p => .int (digV p))) hlc2 rfl]
      simp [dayV]
  · rw [if_neg h5]
    have h5' := Bool.not_eq_true _ ▸ h5
    rw [h5'] at C4
    rw [exSs_nx (exS_if_no C4 rfl), exSs_rt (exS_ret_ok (by rw [evE_non]))]
    rfl
/-! ### writing -/
def zf (k : Nat) (s : List Nat) : List Nat := List.replicate (k - s.length) 48 ++ s
def dayS (y m d : Int) : List Nat := zf 4 (numS y) ++ [45] ++ zf 2 (numS m) ++ [45] ++ zf 2 (numS d)
def wrPl (s : List Nat) (c : Dt) : List Nat :=
  if s = s_number_1f54 then (match c with | .int i => numS i | _ => [])
  else if s = s_truth_2626 then (match c with | .bl b => if b then [121, 101, 115] else [110, 111] | _ => [])
  else if s = s_text_a7c7 then (match c with | .str t => quoL t | _ => [])
  else (match c with | .tup [.int y, .int m, .int d] => dayS y m d | _ => [])
def wrD : Nat → Dt → List Nat
  | 0, .tup [.str s, c] => wrPl s c
  | k + 1, .tup [.str s, c] => if s = s_list_f818 then (match c with | .tup xs => 91 :: (joinL [44, 32] (xs.map (wrD k)) ++ [93]) | _ => []) else wrPl s c
  | _, _ => []
theorem wrD_plain {k : Nat} {s : List Nat} {c : Dt} (h : s ≠ s_list_f818) : wrD k (.tup [.str s, c]) = wrPl s c := by
  cases k with
  | zero => rfl
  | succ k => simp [wrD, h]
theorem wr_num (k : Nat) (i : Int) : wrD k (numV i) = numS i := by rw [numV, wrD_plain (by decide)]; simp [wrPl]
theorem wr_tru (k : Nat) (b : Bool) : wrD k (truV b) = if b then [121, 101, 115] else [110, 111] := by
  rw [truV, wrD_plain (by decide)]; simp [wrPl, show ¬ s_truth_2626 = s_number_1f54 by decide]
theorem wr_txt (k : Nat) (t : List Nat) : wrD k (textV t) = quoL t := by
  rw [textV, wrD_plain (by decide)]; simp [wrPl, show ¬ s_text_a7c7 = s_number_1f54 by decide, show ¬ s_text_a7c7 = s_truth_2626 by decide]
theorem wr_day (k : Nat) (y m d : Int) : wrD k (dayV (.tup [.int y, .int m, .int d])) = dayS y m d := by
  rw [dayV, wrD_plain (by decide)]; simp [wrPl, show ¬ [100, 97, 121] = s_number_1f54 by decide, show ¬ [100, 97, 121] = s_truth_2626 by decide, show ¬ [100, 97, 121] = s_text_a7c7 by decide]
theorem wr_lst (k : Nat) (vs : List Dt) : wrD (k + 1) (lstV vs) = 91 :: (joinL [44, 32] (vs.map (wrD k)) ++ [93]) := by simp [lstV, wrD]
theorem subC_len (c : Nat) (z : List Nat) (hz : z.length = 2) : ∀ s : List Nat, (subC c z s).length ≤ 2 * s.length
  | [] => by simp [subC]
  | x :: xs => by
    have := subC_len c z hz xs
    unfold subC
    rw [List.length_append, List.length_cons]
    split <;> simp [hz] <;> omega
/-- a text's signs, as they are written -/
def escL : List Nat → List Nat
  | [] => []
  | c :: r => (if c = 34 ∨ c = 92 then [92, c] else [c]) ++ escL r
theorem subC_app (c : Nat) (z : List Nat) : ∀ a b : List Nat, subC c z (a ++ b) = subC c z a ++ subC c z b
  | [], b => rfl
  | x :: a, b => by rw [List.cons_append, subC, subC, subC_app c z a b, List.append_assoc]
theorem quo_esc : ∀ s : List Nat, subC 34 [92, 34] (subC 92 [92, 92] s) = escL s
  | [] => rfl
  | c :: r => by
    rw [subC, subC_app, quo_esc r, escL]
    congr 1
    by_cases h1 : c = 92
    · subst h1; simp [subC]
    · by_cases h2 : c = 34
      · subst h2; simp [subC]
      · simp [subC, h1, h2]
theorem quoL_eq (s : List Nat) : quoL s = 34 :: (escL s ++ [34]) := by rw [quoL, quo_esc]
theorem escL_len : ∀ s : List Nat, (escL s).length ≤ 2 * s.length
  | [] => by simp [escL]
  | c :: r => by
    have := escL_len r
    unfold escL
    split <;> simp <;> omega
theorem run_quoted (n : Nat) (s : List Nat) (h : s.length ≤ 1000) : runP tab gls (n + 1) c_quoted [.str s] = .ok (.str (quoL s)) := by
  show (exSs (Gm n) b_quoted [some (.d (.str s)), none] []).bind endD = _
  unfold b_quoted
  have hq : exS (Gm n) (.quo 0) [some (.d (.str s)), none] [] = .ok ((.rt (.d (.str (quoL s))), [some (.d (.str s)), none]), []) := by
    rw [exS_quo]
    show (if s.length ≤ 1000 then _ else _) = _
    rw [if_pos h]
  rw [exSs_rt hq]
  rfl
theorem run_wr' (n : Nat) (a : Dt) : runP tab gls (n + 1) c_written_value [a] = (exSs (Gm n) b_written_value [some (.d a), none, none, none] []).bind endD := rfl
theorem str_num {i : Int} (h : i.natAbs < 18446744073709551616) : p1D .str (.int i) = some (.str (numS i)) := by
  rw [← S2_num]; exact if_pos h
theorem run_wr_num (n : Nat) (i : Int) (h : i.natAbs < 18446744073709551616) : runP tab gls (n + 1) c_written_value [numV i] = .ok (.str (numS i)) := by
  rw [run_wr']
  have := str_num h
  simp [b_written_value, numV, this]
theorem run_wr_tru (n : Nat) (b : Bool) : runP tab gls (n + 1) c_written_value [truV b] = .ok (.str (if b then [121, 101, 115] else [110, 111])) := by
  rw [run_wr']
  cases b <;> simp [b_written_value, truV, show ¬ s_truth_2626 = s_number_1f54 by decide]
theorem run_wr_txt (n : Nat) (t : List Nat) (h : t.length ≤ 1000) : runP tab gls (n + 2) c_written_value [textV t] = .ok (.str (quoL t)) := by
  rw [run_wr']
  simp [b_written_value, textV, show ¬ s_text_a7c7 = s_number_1f54 by decide, show ¬ s_text_a7c7 = s_truth_2626 by decide, run_quoted n t h]
theorem numN_head (m : Nat) : (numN m).head? ≠ some 43 ∧ (numN m).head? ≠ some 45 := by
  have h := numN_dig m
  cases e : numN m with
  | nil => simp
  | cons c r =>
    have := h c (by rw [e]; exact List.mem_cons_self)
    simp
    omega
theorem numS_nat (m : Nat) : numS (m : Int) = numN m := by unfold numS; rw [if_pos (by omega), Int.toNat_natCast]
theorem zf_num {m k : Nat} (hk : k ≤ 1000) (hm : m < 10000000000) : m1S .zfill (numN m) (.int (k : Int)) = some (.str (zf k (numN m))) := by
  have hl := (numN_len 9 m (by omega)).2
  have hh := numN_head m
  have : m1S .zfill (numN m) (.int (k : Int)) = if 0 ≤ (k : Int) ∧ (k : Int) ≤ 1000 ∧ (numN m).length ≤ 1000 ∧ (numN m).head? ≠ some 43 ∧ (numN m).head? ≠ some 45 then some (.str (List.replicate ((k : Int).toNat - (numN m).length) 48 ++ numN m)) else none := rfl
  rw [this, if_pos ⟨by omega, by omega, by omega, hh.1, hh.2⟩, Int.toNat_natCast]
  rfl
theorem zf_len {k m : Nat} (hm : m < 10000000000) : (zf k (numN m)).length ≤ k + 10 := by
  have hl := (numN_len 9 m (by omega)).2
  unfold zf
  rw [List.length_append, List.length_replicate]
  omega
theorem run_wr_day (n : Nat) (y m d : Nat) (h1 : y < 10000000000) (h2 : m < 10000000000) (h3 : d < 10000000000) : runP tab gls (n + 1) c_written_value [dayV (.tup [.int y, .int m, .int d])] = .ok (.str (dayS y m d)) := by
  rw [run_wr']
  have e1 : p1D .str (.int (y : Int)) = some (.str (numN y)) := by rw [str_num (by omega), numS_nat]
  have e2 : p1D .str (.int (m : Int)) = some (.str (numN m)) := by rw [str_num (by omega), numS_nat]
  have e3 : p1D .str (.int (d : Int)) = some (.str (numN d)) := by rw [str_num (by omega), numS_nat]
  have l1 := zf_len (k := 4) h1
  have l2 := zf_len (k := 2) h2
  have l3 := zf_len (k := 2) h3
  have z1 : ∀ (Γ : Gam) (ρ : Ev), ρ[2]? = some (some (.d (.tup [.int (y : Int), .int (m : Int), .int (d : Int)]))) → evE Γ (.m1 .zfill (.p1 .str (.ix (.v 2) (.int 0))) (.int 4)) ρ [] = .ok (.d (.str (zf 4 (numN y))), []) := fun Γ ρ hρ =>
    evE_m1_ok (st1 := []) (x := .int 4) (evE_p1_ok (x := .int y) (by simp [hρ, ixD, ixL, ixP]) e1) (by simp) (zf_num (k := 4) (by decide) h1)
  have z2 : ∀ (Γ : Gam) (ρ : Ev), ρ[2]? = some (some (.d (.tup [.int (y : Int), .int (m : Int), .int (d : Int)]))) → evE Γ (.m1 .zfill (.p1 .str (.ix (.v 2) (.int 1))) (.int 2)) ρ [] = .ok (.d (.str (zf 2 (numN m))), []) := fun Γ ρ hρ =>
    evE_m1_ok (st1 := []) (x := .int 2) (evE_p1_ok (x := .int m) (by simp [hρ, ixD, ixL, ixP]) e2) (by simp) (zf_num (k := 2) (by decide) h2)
  have z3 : ∀ (Γ : Gam) (ρ : Ev), ρ[2]? = some (some (.d (.tup [.int (y : Int), .int (m : Int), .int (d : Int)]))) → evE Γ (.m1 .zfill (.p1 .str (.ix (.v 2) (.int 2))) (.int 2)) ρ [] = .ok (.d (.str (zf 2 (numN d))), []) := fun Γ ρ hρ =>
    evE_m1_ok (st1 := []) (x := .int 2) (evE_p1_ok (x := .int d) (by simp [hρ, ixD, ixL, ixP]) e3) (by simp) (zf_num (k := 2) (by decide) h3)
  unfold b_written_value
  rw [exSs_nx (ρ1 := [some (.d (dayV (.tup [.int y, .int m, .int d]))), some (.d (.str [100, 97, 121])), some (.d (.tup [.int y, .int m, .int d])), none]) (st1 := []) (by simp [dayV]),
    exSs_nx (exS_if_no (x := .bl false) (st1 := []) (by simp [show ¬ [100, 97, 121] = s_number_1f54 by decide]) rfl),
    exSs_nx (exS_if_no (x := .bl false) (st1 := []) (by simp [show ¬ [100, 97, 121] = s_truth_2626 by decide]) rfl),
    exSs_nx (exS_if_no (x := .bl false) (st1 := []) (by simp [show ¬ [100, 97, 121] = s_text_a7c7 by decide]) rfl),
    exSs_rt ((exS_if_yes (x := .bl true) (st1 := []) (by simp) rfl).trans (exSs_rt (exS_ret_ok (w := .d (.str (dayS y m d))) (st1 := []) ?_)))]
  · rfl
  · rw [dayS, numS_nat, numS_nat, numS_nat]
    exact evE_bin_ok (evE_bin_ok (evE_bin_ok (evE_bin_ok (z1 _ _ rfl) (evE_str _) (add_ss (by rw [lim16]; simp; omega))) (z2 _ _ rfl) (add_ss (by rw [lim16]; simp; omega))) (evE_str _) (add_ss (by rw [lim16]; simp; omega))) (z3 _ _ rfl) (add_ss (by rw [lim16]; simp; omega))
theorem join_strs {sep : List Nat} {xs : List (List Nat)} (h : sumLen xs + xs.length * sep.length ≤ 16777216) : m1S .join sep (.lst (xs.map Dt.str)) = some (.str (joinL sep xs)) := by
  have e : allStr (xs.map Dt.str) = some xs := by have := allStr_map (fun x : List Nat => x) xs; simpa using this
  show (allStr (xs.map Dt.str)).bind _ = _
  rw [e]
  exact if_pos (by rw [lim16]; exact h)
theorem sumLen_le {b : Nat} : ∀ xs : List (List Nat), (∀ x ∈ xs, x.length ≤ b) → sumLen xs ≤ xs.length * b
  | [], _ => by simp [sumLen]
  | x :: xs, h => by
    have h1 := h x List.mem_cons_self
    have h2 := sumLen_le xs fun y hy => h y (List.mem_cons_of_mem _ hy)
    simp only [sumLen, List.length_cons, Nat.succ_mul]
    omega
theorem joinL_len (sep : List Nat) : ∀ xs : List (List Nat), (joinL sep xs).length ≤ sumLen xs + xs.length * sep.length
  | [] => by simp [joinL]
  | [x] => by simp [joinL, sumLen]
  | x :: y :: r => by
    have := joinL_len sep (y :: r)
    simp only [joinL, sumLen, List.length_append, List.length_cons, Nat.succ_mul] at this ⊢
    omega
/-- lists, given their items -/
theorem run_wr_lst (n : Nat) (vs : List Dt) (f : Dt → List Nat) (h : ∀ v ∈ vs, runP tab gls n c_written_value [v] = .ok (.str (f v))) (hl : vs.length ≤ 1000) (hb : ∀ v ∈ vs, (f v).length ≤ 10000) :
    runP tab gls (n + 1) c_written_value [lstV vs] = .ok (.str (91 :: (joinL [44, 32] (vs.map f) ++ [93]))) := by
  rw [run_wr']
  have n1 : ¬ s_list_f818 = s_number_1f54 := by decide
  have n2 : ¬ s_list_f818 = s_truth_2626 := by decide
  have n3 : ¬ s_list_f818 = s_text_a7c7 := by decide
  have n4 : ¬ s_list_f818 = [100, 97, 121] := by decide
  have hs : sumLen (vs.map f) ≤ vs.length * 10000 := by
    have := sumLen_le (b := 10000) (vs.map f) (by simpa using hb)
    rwa [List.length_map] at this
  have hs2 : sumLen (vs.map f) + (vs.map f).length * 2 ≤ 12000000 := by
    rw [List.length_map]
    have : vs.length * 10000 ≤ 1000 * 10000 := Nat.mul_le_mul_right _ hl
    omega
  have hj := joinL_len [44, 32] (vs.map f)
  simp only [List.length_cons, List.length_nil] at hj
  unfold b_written_value
  have hlc : evE (Gm n) (.lc le0_written_value (.one 3) (.seq (.v 2)) li0_written_value) [some (.d (lstV vs)), some (.d (.str s_list_f818)), some (.d (.tup vs)), none] [] = .ok (.d (.lst (vs.map fun v => .str (f v))), []) := by
    have := lcL_map' (st := []) (lcTurn (evIfs (Gm n) li0_written_value) (evE (Gm n) le0_written_value) (.one 3) [some (.d (lstV vs)), some (.d (.str s_list_f818)), some (.d (.tup vs)), none]) id (fun v => .str (f v)) vs (fun x hx => lcTurn_one (by simp) (by simp [le0_written_value, h x hx]))
    rw [List.map_id] at this
    exact evE_lc_ok (xs := vs) (by rw [evI_seq]; rfl) this (by rw [List.length_map]; omega)
  have hjo : evE (Gm n) (.m1 .join (.str [44, 32]) (.lc le0_written_value (.one 3) (.seq (.v 2)) li0_written_value)) [some (.d (lstV vs)), some (.d (.str s_list_f818)), some (.d (.tup vs)), none] [] = .ok (.d (.str (joinL [44, 32] (vs.map f))), []) := by
    refine evE_m1_ok (evE_str _) hlc ?_
    rw [show (vs.map fun v => Dt.str (f v)) = (vs.map f).map Dt.str by rw [List.map_map]; rfl]
    exact join_strs (by simp only [List.length_cons, List.length_nil]; omega)
  rw [exSs_nx (ρ1 := [some (.d (lstV vs)), some (.d (.str s_list_f818)), some (.d (.tup vs)), none]) (st1 := []) (by simp [lstV]),
    exSs_nx (exS_if_no (x := .bl false) (st1 := []) (by simp [n1]) rfl), exSs_nx (exS_if_no (x := .bl false) (st1 := []) (by simp [n2]) rfl),
    exSs_nx (exS_if_no (x := .bl false) (st1 := []) (by simp [n3]) rfl), exSs_nx (exS_if_no (x := .bl false) (st1 := []) (by simp [n4]) rfl),
    exSs_rt (exS_ret_ok (w := .d (.str (91 :: (joinL [44, 32] (vs.map f) ++ [93])))) (st1 := []) ?_)]
  · rfl
  · rw [evE_bin_ok (evE_bin_ok (evE_str _) hjo (add_ss (by rw [lim16]; simp; omega))) (evE_str _) (add_ss (by rw [lim16]; simp; omega))]
    simp
/-! ### reading: values -/
def sigC (c : Nat) : Bool := decide (c ∈ s_abcdefgh_ddbe)
def plC (l : List Nat) : Option (Dt × Nat) :=
  if isNonD (pvD (l.takeWhile sigC)) = true then none
  else if wrD 0 (pvD (l.takeWhile sigC)) = l.takeWhile sigC then some (pvD (l.takeWhile sigC), (l.takeWhile sigC).length) else none
def headC (l : List Nat) (f : List Nat → Option (Dt × Nat)) : Option (Dt × Nat) :=
  if l.take 1 = [34] then (tfC (l.drop 1)).map fun q => (textV q.1, q.2 + 2)
  else if l.take 1 = [91] then f (l.drop 1) else plC l
/-- the items of a list, and the signs up to its end -/
def itC (vf : List Nat → Option (Dt × Nat)) : Nat → List Nat → Option (List Dt × Nat)
  | 0, _ => none
  | f + 1, l => match vf l with
    | none => none
    | some q => if (l.drop (q.2 + nbl (l.drop q.2))).take 1 = [93] then some ([q.1], q.2 + nbl (l.drop q.2) + 1)
      else if (l.drop (q.2 + nbl (l.drop q.2))).take 1 = [44] then
        (itC vf f (l.drop (q.2 + nbl (l.drop q.2) + 1 + nbl (l.drop (q.2 + nbl (l.drop q.2) + 1))))).map fun r => (q.1 :: r.1, q.2 + nbl (l.drop q.2) + 1 + nbl (l.drop (q.2 + nbl (l.drop q.2) + 1)) + r.2)
      else none
def lstC (vf : List Nat → Option (Dt × Nat)) (r : List Nat) : Option (Dt × Nat) :=
  if (r.drop (nbl r)).take 1 = [93] then some (lstV [], nbl r + 2)
  else (itC vf (r.length + 1) (r.drop (nbl r))).map fun q => (lstV q.1, nbl r + 1 + q.2)
def vfC : Nat → List Nat → Option (Dt × Nat)
  | 0, l => headC l fun _ => none
  | k + 1, l => headC l (lstC (vfC k))
theorem drop_add (t : List Nat) (p k : Nat) : (t.drop p).drop k = t.drop (p + k) := by rw [List.drop_drop]
theorem run_wr_pv (n : Nat) (w : List Nat) (h : isNonD (pvD w) = false) (hw : w.length ≤ 400000) : runP tab gls (n + 1) c_written_value [pvD w] = .ok (.str (wrD 0 (pvD w))) := by
  have hd : ∀ s : List Nat, figs s = true → digV s < 10 ^ s.length := by
    intro s hs
    unfold figs at hs
    rw [Bool.and_eq_true] at hs
    have key : ∀ (s : List Nat) (a : Nat), s.all dig = true → s.foldl (fun acc c => acc * 10 + (c - 48)) a < (a + 1) * 10 ^ s.length := by
      intro s
      induction s with
      | nil => intro a _; simp
      | cons c s ih =>
        intro a hs
        rw [List.all_cons, Bool.and_eq_true] at hs
        have hc : c ≤ 57 := by have := hs.1; unfold dig at this; simp at this; omega
        have := ih (a * 10 + (c - 48)) hs.2
        rw [List.foldl_cons, List.length_cons, Nat.pow_succ, Nat.mul_comm (10 ^ s.length) 10, ← Nat.mul_assoc]
        refine Nat.lt_of_lt_of_le this (Nat.mul_le_mul_right _ ?_)
        omega
    have := key s 0 hs.2
    unfold digV
    omega
  unfold pvD at h ⊢
  split
  · rw [run_wr_tru, wr_tru]
  · rename_i h1
    rw [if_neg h1] at h
    split
    · rename_i h2
      rw [Bool.and_eq_true, decide_eq_true_eq] at h2
      have := hd w h2.1
      have h9 : 10 ^ w.length ≤ 10 ^ 9 := Nat.pow_le_pow_right (by decide) h2.2
      rw [run_wr_num n _ (by omega), wr_num]
    · rename_i h2
      rw [if_neg h2] at h
      split
      · rename_i h3
        rw [Bool.and_eq_true, Bool.and_eq_true, decide_eq_true_eq] at h3
        have h4 := hd _ h3.1.2
        have h9 : 10 ^ (w.drop 1).length ≤ 10 ^ 9 := Nat.pow_le_pow_right (by decide) (by rw [List.length_drop]; have := h3.2; simp at this; omega)
        rw [run_wr_num n _ (by omega), wr_num]
      · rename_i h3
        rw [if_neg h3] at h
        split
        · rename_i h5
          rw [Bool.and_eq_true, Bool.and_eq_true, decide_eq_true_eq, decide_eq_true_eq, List.all_eq_true] at h5
          have hm := splitC_mem 45 w
          generalize splitC 45 w = ps at h5 hm
          match ps, h5, hm with
          | [a, b, c], h5, hm =>
            have ha := hd a (h5.2 a (by simp))
            have hb := hd b (h5.2 b (by simp))
            have hc := hd c (h5.2 c (by simp))
            have la : 10 ^ a.length ≤ 10 ^ 10 := Nat.pow_le_pow_right (by decide) (by have := hm a (by simp); omega)
            have lb : 10 ^ b.length ≤ 10 ^ 10 := Nat.pow_le_pow_right (by decide) (by have := hm b (by simp); omega)
            have lc : 10 ^ c.length ≤ 10 ^ 10 := Nat.pow_le_pow_right (by decide) (by have := hm c (by simp); omega)
            show runP tab gls (n + 1) c_written_value [dayV (.tup [.int (digV a), .int (digV b), .int (digV c)])] = .ok (.str (wrD 0 (dayV (.tup [.int (digV a), .int (digV b), .int (digV c)]))))
            rw [run_wr_day n _ _ _ (by omega) (by omega) (by omega), wr_day]
          | [], h5, hm => simp at h5
          | [_], h5, hm => simp at h5
          | [_, _], h5, hm => simp at h5
          | _ :: _ :: _ :: _ :: _, h5, hm => simp at h5
        · rename_i h5
          rw [if_neg h5] at h
          cases h
theorem takeWhile_cons' (f : Nat → Bool) (c : Nat) (l : List Nat) : (c :: l).takeWhile f = if f c = true then c :: l.takeWhile f else [] := by
  rw [List.takeWhile_cons]
theorem ix_at {t l : List Nat} {p c : Nat} (h : t.drop p = c :: l) : ixD (.str t) (.int p) = some (.str [c]) := by
  have hp : p < t.length := by
    have := congrArg List.length h
    rw [List.length_drop, List.length_cons] at this
    omega
  have hc : t[p]? = some c := by
    have := List.getElem?_drop (xs := t) (i := p) (j := 0)
    rw [h] at this
    simpa using this.symm
  show (ixL t (p : Int)).map _ = _
  unfold ixL ixP
  rw [if_pos (by omega), if_pos (by omega), Int.toNat_natCast, Option.bind_some, hc]; rfl
theorem vf_loop (n : Nat) (t : List Nat) (p0 : Nat) (dd : Dt) (x4 : Option Wv) : ∀ (l : List Nat) (p N : Nat), t.drop p = l → l.length < N →
    exWhl (evT (Gm n) wc0_value_from) (exSs (Gm n) wb0_value_from) N [some (.d (.str t)), some (.d (.int p0)), some (.d dd), some (.d (.int p)), x4] [] = .ok ((.nx, [some (.d (.str t)), some (.d (.int p0)), some (.d dd), some (.d (.int ((p + (l.takeWhile sigC).length : Nat) : Int))), x4]), []) := by
  intro l
  induction l with
  | nil =>
    intro p N h hN
    obtain ⟨N, rfl⟩ : ∃ M, N = M + 1 := ⟨N - 1, by omega⟩
    rw [exWhl_stop (st' := []) (by simp [wc0_value_from, cut1, h])]
    simp
  | cons c l ih =>
    intro p N h hN
    obtain ⟨N, rfl⟩ : ∃ M, N = M + 1 := ⟨N - 1, by omega⟩
    have hix := ix_at h
    have hc : evT (Gm n) wc0_value_from [some (.d (.str t)), some (.d (.int p0)), some (.d dd), some (.d (.int p)), x4] [] = .ok (sigC c, []) := by
      simp [wc0_value_from, cut1, h, hix, gls, sigC]
    rw [takeWhile_cons']
    cases hs : sigC c with
    | true =>
      rw [hs] at hc
      rw [exWhl_go (ρ2 := [some (.d (.str t)), some (.d (.int p0)), some (.d dd), some (.d (.int ((p + 1 : Nat) : Int))), x4]) (st2 := []) hc (by simp [wb0_value_from]), ih (p + 1) N (drop_next h) (by simp at hN; omega)]
      simp
      omega
    | false =>
      rw [hs] at hc
      rw [exWhl_stop hc]
      simp
/-- what a reading that may have laid a list ends with -/
def rdOk (p : Nat) (o : Option (Dt × Nat)) (r : Rs Dt) : Prop := match o with
  | some q => r = .ok (.tup [q.1, .int ((p + q.2 : Nat) : Int)])
  | none => ∃ st, r = .exc x_NoValue [] st
def rdW (p : Nat) (st : Sr) : Option (Dt × Nat) → Rs (Wv × Sr)
  | some q => .ok (.d (.tup [q.1, .int ((p + q.2 : Nat) : Int)]), st)
  | none => .exc x_NoValue [] st
theorem rdOk_val {p : Nat} {o : Option (Dt × Nat)} {r : Rs Dt} (h : rdOk p o r) (st : Sr) : valD st r = rdW p st o := by
  cases o with
  | some q =>
    have h : r = _ := h
    rw [h]; rfl
  | none =>
    obtain ⟨s, h⟩ := h
    rw [h]; rfl
theorem rdR_ok (p : Nat) (o : Option (Dt × Nat)) : rdOk p o (rdR p o) := by
  cases o
  · exact ⟨[], rfl⟩
  · rfl
theorem run_vf' (n : Nat) (a b c : Dt) : runP tab gls (n + 1) c_value_from [a, b, c] = (exSs (Gm n) b_value_from [some (.d a), some (.d b), some (.d c), none, none] []).bind endD := rfl
theorem vf_head (n : Nat) (t : List Nat) (p k : Nat) (f : List Nat → Option (Dt × Nat)) (ht : t.length ≤ 400000) (hl : (t.drop p).take 1 = [91] → rdOk p (f ((t.drop p).drop 1)) (runP tab gls (n + 2) c_list_from [.str t, .int p, .int k])) :
    runP tab gls (n + 3) c_value_from [.str t, .int p, .int k] = rdR p (headC (t.drop p) f) := by
  rw [run_vf']
  unfold b_value_from headC
  by_cases h1 : (t.drop p).take 1 = [34]
  · rw [if_pos h1, exSs_cons, exS_if_yes (x := .bl true) (st1 := []) (by simp [cut1, h1]) rfl, exSs_cons, exS_ret]
    have := run_tf (n + 1) t p ht
    rw [← drop_add] at this
    simp only [evE_call, evEs_cons, evEs_nil, evE_v, List.getElem?_cons_zero, List.getElem?_cons_succ, lookW_some, Rs.bind_ok, callW_2]
    rw [this]
    cases tfC ((t.drop p).drop 1) <;> rfl
  · rw [if_neg h1, exSs_nx (exS_if_no (x := .bl false) (st1 := []) (by simp [cut1, h1]) rfl)]
    by_cases h2 : (t.drop p).take 1 = [91]
    · rw [if_pos h2, exSs_cons, exS_if_yes (x := .bl true) (st1 := []) (by simp [cut1, h2]) rfl, exSs_cons, exS_ret]
      have := rdOk_val (hl h2) []
      simp only [evE_call, evEs_cons, evEs_nil, evE_v, List.getElem?_cons_zero, List.getElem?_cons_succ, lookW_some, Rs.bind_ok, callW_3]
      rw [this]
      cases f ((t.drop p).drop 1) <;> rfl
    · rw [if_neg h2, exSs_nx (exS_if_no (x := .bl false) (st1 := []) (by simp [cut1, h2]) rfl), exSs_nx (ρ1 := [some (.d (.str t)), some (.d (.int p)), some (.d (.int k)), some (.d (.int p)), none]) (st1 := []) (by simp)]
      rw [exSs_nx ((exS_whl ..).trans (vf_loop (n + 2) t p (.int k) none (t.drop p) p turns rfl (by rw [List.length_drop]; unfold turns; omega)))]
      unfold plC
      have hwl : ((t.drop p).takeWhile sigC).length ≤ 400000 := by
        have := (List.takeWhile_sublist sigC (l := t.drop p)).length_le
        rw [List.length_drop] at this
        omega
      have hcut : cutL t (some (p : Int)) (some ((p + ((t.drop p).takeWhile sigC).length : Nat) : Int)) = (t.drop p).takeWhile sigC := by
        rw [cutN, show p + ((t.drop p).takeWhile sigC).length - p = ((t.drop p).takeWhile sigC).length by omega]
        exact (List.prefix_iff_eq_take.mp (List.takeWhile_prefix sigC)).symm
      generalize (t.drop p).takeWhile sigC = w at hwl hcut ⊢
      rw [exSs_nx (ρ1 := [some (.d (.str t)), some (.d (.int p)), some (.d (.int k)), some (.d (.int ((p + w.length : Nat) : Int))), some (.d (pvD w))]) (st1 := []) (by
        have := run_pv n w hwl
        rw [exS_set]
        simp only [evE_call, evEs_cons, evEs_nil, evE_sl, evO_yes, evE_v, List.getElem?_cons_zero, List.getElem?_cons_succ, lookW_some, Rs.bind_ok, intW_i, Option.map_some, Rs.ofO_some, op1_d, sl_s, hcut, callW_1, this]
        rfl)]
      cases hn : isNonD (pvD w) with
      | true =>
        rw [if_pos rfl, exSs_cons, exS_if_yes (x := .bl true) (st1 := []) (by simp [is_non, hn]) rfl, exSs_cons, exS_rai]
        rfl
      | false =>
        have hw := run_wr_pv (n + 1) w hn hwl
        rw [if_neg (by decide)]
        have hc : evE (Gm (n + 2)) (.or (.cons (.cmp .is (.v 4) .non) (.cons (.cmp .ne (.call c_written_value (.cons (.v 4) .nil)) (.sl (.v 0) (.yes (.v 1)) (.yes (.v 3)))) .nil))) [some (.d (.str t)), some (.d (.int p)), some (.d (.int k)), some (.d (.int ((p + w.length : Nat) : Int))), some (.d (pvD w))] [] = .ok (.d (.bl (!decide (wrD 0 (pvD w) = w))), []) := by
          rw [evE_or, evOr2, evE_cmp_ok (z := false) (st1 := []) (st2 := []) (x := pvD w) (y := .non) (by simp) (by simp) (by rw [is_non, hn])]
          simp only [Rs.bind_ok, truW_d, truthD_bl, if_neg (show ¬ false = true by decide), evOr1]
          refine evE_cmp_ok (x := .str (wrD 0 (pvD w))) (y := .str w) (st1 := []) ?_ ?_ (ne_ss2 _ _)
          · simp only [evE_call, evEs_cons, evEs_nil, evE_v, List.getElem?_cons_zero, List.getElem?_cons_succ, lookW_some, Rs.bind_ok, callW_1, hw]
            rfl
          · simp only [evE_sl, evO_yes, evE_v, List.getElem?_cons_zero, List.getElem?_cons_succ, lookW_some, Rs.bind_ok, intW_i, Option.map_some, Rs.ofO_some, op1_d, sl_s, hcut]
        by_cases hq : wrD 0 (pvD w) = w
        · rw [if_pos hq]
          rw [decide_eq_true hq] at hc
          rw [exSs_nx (exS_if_no hc rfl), exSs_rt (exS_ret_ok (w := .d (.tup [pvD w, .int ((p + w.length : Nat) : Int)])) (st1 := []) (by simp))]
          rfl
        · rw [if_neg hq]
          rw [decide_eq_false hq] at hc
          rw [exSs_cons, exS_if_yes hc rfl, exSs_cons, exS_rai]
          rfl
/-! ### reading: lists -/
abbrev lfE (t : List Nat) (p k : Nat) (x : Option Wv) : Ev := [some (.d (.str t)), some (.d (.int p)), some (.d (.int ((k + 1 : Nat) : Int))), some (.ob 0), x]
theorem exWhl_rt {c : Ev → Sr → Rs (Bool × Sr)} {body : Ev → Sr → Rs Sx} {N : Nat} {w : Wv} {ρ ρ2 : Ev} {st st' st2 : Sr} (h : c ρ st = .ok (true, st')) (hb : body ρ st' = .ok ((.rt w, ρ2), st2)) : exWhl c body (N + 1) ρ st = .ok ((.rt w, ρ2), st2) := by
  rw [exWhl, h]
  show (body ρ st').bind _ = _
  rw [hb]; rfl
theorem exSs_exc {Γ : Gam} {ρ : Ev} {st st1 : Sr} {s : Sm} {r : Sms} {c : Nat} {fs : List Dt} (h : exS Γ s ρ st = .exc c fs st1) : exSs Γ (.cons s r) ρ st = .exc c fs st1 := by rw [exSs_cons, h]; rfl
theorem call_bb (n : Nat) (t : List Nat) (p : Nat) (ht : t.length ≤ 400000) {ρ : Ev} {st : Sr} {e : Ex} (h0 : ρ[0]? = some (some (.d (.str t)))) (he : evE (Gm (n + 1)) e ρ st = .ok (.d (.int p), st)) :
    evE (Gm (n + 1)) (.call c_behind_blanks (.cons (.v 0) (.cons e .nil))) ρ st = .ok (.d (.int ((p + nbl (t.drop p) : Nat) : Int)), st) := by
  have := run_bb n t p ht
  simp only [evE_call, evEs_cons, evEs_nil, evE_v, h0, lookW_some, Rs.bind_ok, he, callW_2, this, valD_ok]
theorem lf_turn_exc (n : Nat) (t : List Nat) (p k : Nat) (x : Option Wv) (acc : List Dt) (hv : rdOk p none (runP tab gls (n + 1) c_value_from [.str t, .int p, .int k])) :
    exSs (Gm (n + 1)) wb0_list_from (lfE t p k x) [.lst acc] = .exc x_NoValue [] [.lst acc] := by
  have := rdOk_val hv [.lst acc]
  have e : ((k + 1 : Nat) : Int) - 1 = k := by omega
  unfold wb0_list_from
  rw [exSs_exc (by
    rw [exS_unp]
    simp only [evE_call, evEs_cons, evEs_nil, evE_bin, evE_int, evE_v, List.getElem?_cons_zero, List.getElem?_cons_succ, lookW_some, Rs.bind_ok, op2_d, sub_ii, Option.map_some, Rs.ofO_some, e, callW_3, this]
    rfl)]
/-- the turn up to the test -/
theorem lf_turn (n : Nat) (t : List Nat) (p k : Nat) (x : Option Wv) (acc : List Dt) (q : Dt × Nat) (ht : t.length ≤ 400000) (ha : acc.length ≤ 400000) (hv : rdOk p (some q) (runP tab gls (n + 1) c_value_from [.str t, .int p, .int k])) :
    exSs (Gm (n + 1)) wb0_list_from (lfE t p k x) [.lst acc] =
      if (t.drop (p + q.2 + nbl (t.drop (p + q.2)))).take 1 = [93] then .ok ((.rt (.d (.tup [lstV (acc ++ [q.1]), .int ((p + q.2 + nbl (t.drop (p + q.2)) + 1 : Nat) : Int)])), lfE t (p + q.2 + nbl (t.drop (p + q.2))) k (some (.d q.1))), [.lst (acc ++ [q.1])])
      else if (t.drop (p + q.2 + nbl (t.drop (p + q.2)))).take 1 = [44] then .ok ((.nx, lfE t (p + q.2 + nbl (t.drop (p + q.2)) + 1 + nbl (t.drop (p + q.2 + nbl (t.drop (p + q.2)) + 1))) k (some (.d q.1))), [.lst (acc ++ [q.1])])
      else .exc x_NoValue [] [.lst (acc ++ [q.1])] := by
  have hv := rdOk_val hv [.lst acc]
  have e : ((k + 1 : Nat) : Int) - 1 = k := by omega
  unfold wb0_list_from
  rw [exSs_nx (ρ1 := lfE t (p + q.2) k (some (.d q.1))) (st1 := [.lst acc]) (by
    rw [exS_unp]
    simp only [evE_call, evEs_cons, evEs_nil, evE_bin, evE_int, evE_v, List.getElem?_cons_zero, List.getElem?_cons_succ, lookW_some, Rs.bind_ok, op2_d, sub_ii, Option.map_some, Rs.ofO_some, e, callW_3, hv]
    simp [rdW])]
  rw [exSs_nx (app0 (i := 3) (e := .v 4) (y := q.1) rfl (by simp) (by omega))]
  rw [exSs_nx (exS_set_ok (call_bb n t (p + q.2) ht rfl (by rw [evE_v]; rfl)))]
  generalize p + q.2 + nbl (t.drop (p + q.2)) = m
  show exSs _ _ (lfE t m k (some (.d q.1))) _ = _
  by_cases h1 : (t.drop m).take 1 = [93]
  · rw [if_pos h1, exSs_rt ((exS_if_yes (x := .bl true) (st1 := [.lst (acc ++ [q.1])]) (by simp [cut1, h1]) rfl).trans (exSs_rt (exS_ret_ok (w := .d (.tup [lstV (acc ++ [q.1]), .int ((m + 1 : Nat) : Int)])) (st1 := [.lst (acc ++ [q.1])]) (by simp [lstV, op1_v (view0 _)]))))]
  · rw [if_neg h1, exSs_nx (exS_if_no (x := .bl false) (st1 := [.lst (acc ++ [q.1])]) (by simp [cut1, h1]) rfl)]
    by_cases h2 : (t.drop m).take 1 = [44]
    · rw [if_pos h2, exSs_nx (exS_if_no (x := .bl false) (st1 := [.lst (acc ++ [q.1])]) (by simp [cut1, h2]) rfl)]
      rw [exSs_nx (exS_set_ok (call_bb n t (m + 1) ht rfl (by simp)))]
      exact exSs_nil (Γ := Gm (n + 1))
    · rw [if_neg h2]
      rw [exSs_exc ((exS_if_yes (x := .bl true) (st1 := [.lst (acc ++ [q.1])]) (by simp [cut1, h2, ne_ss2]) rfl).trans (exSs_exc (exS_rai (Γ := Gm (n + 1)) _)))]
theorem lf_loop (n k : Nat) (t : List Nat) (ht : t.length ≤ 400000) (hv : ∀ p, rdOk p (vfC k (t.drop p)) (runP tab gls (n + 1) c_value_from [.str t, .int p, .int k])) : ∀ (f p N : Nat) (x : Option Wv) (acc : List Dt), (t.drop p).length < f → f ≤ N → acc.length + (t.drop p).length ≤ 400000 →
    match itC (vfC k) f (t.drop p) with
    | some q => ∃ ρ' st', exWhl (evT (Gm (n + 1)) wc0_list_from) (exSs (Gm (n + 1)) wb0_list_from) N (lfE t p k x) [.lst acc] = .ok ((.rt (.d (.tup [lstV (acc ++ q.1), .int ((p + q.2 : Nat) : Int)])), ρ'), st')
    | none => ∃ st', exWhl (evT (Gm (n + 1)) wc0_list_from) (exSs (Gm (n + 1)) wb0_list_from) N (lfE t p k x) [.lst acc] = .exc x_NoValue [] st' := by
  intro f
  induction f with
  | zero => intro p N x acc h; omega
  | succ f ih =>
    intro p N x acc h hN ha
    obtain ⟨N, rfl⟩ : ∃ M, N = M + 1 := ⟨N - 1, by omega⟩
    have ht1 : evT (Gm (n + 1)) wc0_list_from (lfE t p k x) [.lst acc] = .ok (true, [.lst acc]) := by simp [wc0_list_from]
    have hv1 := hv p
    unfold itC
    cases e : vfC k (t.drop p) with
    | none =>
      rw [e] at hv1
      exact ⟨_, exWhl_exc ht1 (lf_turn_exc n t p k x acc hv1)⟩
    | some q =>
      rw [e] at hv1
      have hb := lf_turn n t p k x acc q ht (by omega) hv1
      dsimp only
      simp only [drop_add]
      rw [show p + (q.2 + nbl (t.drop (p + q.2))) = p + q.2 + nbl (t.drop (p + q.2)) by omega]
      by_cases h1 : (t.drop (p + q.2 + nbl (t.drop (p + q.2)))).take 1 = [93]
      · rw [if_pos h1] at hb ⊢
        have h0 := exWhl_rt (N := N) ht1 hb
        rw [show p + q.2 + nbl (t.drop (p + q.2)) + 1 = p + (q.2 + nbl (t.drop (p + q.2)) + 1) by omega] at h0
        exact ⟨_, _, h0⟩
      · rw [if_neg h1] at hb ⊢
        by_cases h2 : (t.drop (p + q.2 + nbl (t.drop (p + q.2)))).take 1 = [44]
        · rw [if_pos h2] at hb ⊢
          generalize hm : q.2 + nbl (t.drop (p + q.2)) = m at hb h1 h2 ⊢
          have hm2 : p + q.2 + nbl (t.drop (p + q.2)) = p + m := by omega
          rw [hm2] at hb h2
          rw [show p + (m + 1) = p + m + 1 by omega]
          have hlen : p + m < t.length := by
            apply Classical.byContradiction
            intro z
            rw [List.drop_eq_nil_of_le (by omega)] at h2
            simp at h2
          generalize hb2 : nbl (t.drop (p + m + 1)) = b2 at hb ⊢
          rw [show p + (m + 1 + b2) = p + m + 1 + b2 by omega]
          have hd : (t.drop (p + m + 1 + b2)).length < (t.drop p).length := by
            rw [List.length_drop, List.length_drop]; omega
          have := ih (p + m + 1 + b2) N (some (.d q.1)) (acc ++ [q.1]) (by omega) (by omega) (by simp only [List.length_append, List.length_cons, List.length_nil]; omega)
          rw [exWhl_go ht1 hb]
          cases e2 : itC (vfC k) f (t.drop (p + m + 1 + b2)) with
          | none => rw [e2] at this; exact this
          | some r =>
            rw [e2] at this
            obtain ⟨ρ', st', h3⟩ := this
            refine ⟨ρ', st', h3.trans ?_⟩
            simp
            omega
        · rw [if_neg h2] at hb ⊢
          exact ⟨_, exWhl_exc ht1 hb⟩
theorem run_lf' (n : Nat) (a b c : Dt) : runP tab gls (n + 1) c_list_from [a, b, c] = (exSs (Gm n) b_list_from [some (.d a), some (.d b), some (.d c), none, none] []).bind endD := rfl
theorem run_lf (n k : Nat) (t : List Nat) (p : Nat) (ht : t.length ≤ 400000) (hp : p < t.length) (hv : ∀ p, rdOk p (vfC k (t.drop p)) (runP tab gls (n + 1) c_value_from [.str t, .int p, .int k])) :
    rdOk p (lstC (vfC k) ((t.drop p).drop 1)) (runP tab gls (n + 2) c_list_from [.str t, .int p, .int ((k + 1 : Nat) : Int)]) := by
  rw [run_lf', drop_add]
  unfold b_list_from lstC
  have hk : ¬ (((k + 1 : Nat) : Int) = 0) := by omega
  rw [exSs_nx (exS_if_no (x := .bl false) (st1 := []) (by rw [evE_cmp_ok (x := .int ((k + 1 : Nat) : Int)) (y := .int 0) (z := false) (st1 := []) (st2 := []) (by simp) (by simp) (by rw [eq_ii, decide_eq_false hk])]) rfl)]
  rw [exSs_nx (ρ1 := lfE t p k none) (st1 := [.lst []]) (by rw [exS_setL, evE_lst, evEs_nil, Rs.bind_ok, mkLst0]; rfl)]
  rw [exSs_nx (exS_set_ok (call_bb n t (p + 1) ht rfl (by simp)))]
  show rdOk p _ ((exSs _ _ (lfE t (p + 1 + nbl (t.drop (p + 1))) k none) _).bind endD)
  rw [drop_add]
  generalize hm : nbl (t.drop (p + 1)) = m
  have c1 := cut1 t (p + 1 + m)
  rw [show ((p + 1 + m : Nat) : Int) = (p : Int) + 1 + m by omega] at c1
  by_cases h1 : (t.drop (p + 1 + m)).take 1 = [93]
  · rw [if_pos h1, exSs_rt ((exS_if_yes (x := .bl true) (st1 := [.lst []]) (by simp [c1, h1]) rfl).trans (exSs_rt (exS_ret_ok (w := .d (.tup [lstV [], .int ((p + (m + 2) : Nat) : Int)])) (st1 := [.lst []]) (by simp [lstV]; omega))))]
    rfl
  · rw [if_neg h1, exSs_nx (exS_if_no (x := .bl false) (st1 := [.lst []]) (by simp [c1, h1]) rfl)]
    have hle : (t.drop (p + 1 + m)).length ≤ (t.drop (p + 1)).length := by rw [List.length_drop, List.length_drop]; omega
    have hl2 : (t.drop (p + 1)).length ≤ t.length := by rw [List.length_drop]; omega
    have := lf_loop n k t ht hv ((t.drop (p + 1)).length + 1) (p + 1 + m) turns none [] (by omega) (by unfold turns; omega) (by simp only [List.length_nil]; omega)
    rw [exSs_cons, exS_whl]
    cases e : itC (vfC k) ((t.drop (p + 1)).length + 1) (t.drop (p + 1 + m)) with
    | none =>
      rw [e] at this
      obtain ⟨st', h3⟩ := this
      exact ⟨st', by rw [h3]; rfl⟩
    | some q =>
      rw [e] at this
      obtain ⟨ρ', st', h3⟩ := this
      rw [h3]
      show _ = _
      simp
      omega
theorem run_lf0 (n : Nat) (t : List Nat) (p : Nat) : rdOk p none (runP tab gls (n + 1) c_list_from [.str t, .int p, .int 0]) := by
  rw [run_lf']
  exact ⟨[], by simp [b_list_from]⟩
theorem run_vf : ∀ (k n : Nat) (t : List Nat) (p : Nat), t.length ≤ 400000 → runP tab gls (n + 2 * k + 3) c_value_from [.str t, .int p, .int k] = rdR p (vfC k (t.drop p)) := by
  intro k
  induction k with
  | zero =>
    intro n t p ht
    exact vf_head n t p 0 _ ht fun _ => run_lf0 (n + 1) t p
  | succ k ih =>
    intro n t p ht
    rw [show n + 2 * (k + 1) + 3 = (n + 2 * k + 2) + 3 by omega]
    refine vf_head (n + 2 * k + 2) t p (k + 1) _ ht fun h => ?_
    refine run_lf (n + 2 * k + 2) k t p ht ?_ fun p => ?_
    · apply Classical.byContradiction
      intro z
      rw [List.drop_eq_nil_of_le (by omega)] at h
      simp at h
    · rw [show n + 2 * k + 2 + 1 = n + 2 * k + 3 by omega, ih n t p ht]
      exact rdR_ok _ _
theorem run_wvf' (n : Nat) (a b : Dt) : runP tab gls (n + 1) c_whole_value_from [a, b] = (exSs (Gm n) b_whole_value_from [some (.d a), some (.d b), none, none] []).bind endD := rfl
/-- a whole value -/
def wvC (l : List Nat) : Option (Dt × Nat) := (vfC 3 l).bind fun q => if isValD 3 q.1 = true then some q else none
theorem run_wvf (n : Nat) (t : List Nat) (p : Nat) (ht : t.length ≤ 400000) : runP tab gls (n + 10) c_whole_value_from [.str t, .int p] = rdR p (wvC (t.drop p)) := by
  rw [run_wvf']
  have hv := run_vf 3 n t p ht
  rw [show n + 2 * 3 + 3 = n + 9 by omega] at hv
  unfold b_whole_value_from wvC
  have hc : evE (Gm (n + 9)) (.call c_value_from (.cons (.v 0) (.cons (.v 1) (.cons (.int 3) .nil)))) [some (.d (.str t)), some (.d (.int p)), none, none] [] = rdW p [] (vfC 3 (t.drop p)) := by
    rw [← rdOk_val (rdR_ok p (vfC 3 (t.drop p))) [], ← hv]
    simp only [evE_call, evEs_cons, evEs_nil, evE_int, evE_v, List.getElem?_cons_zero, List.getElem?_cons_succ, lookW_some, Rs.bind_ok, callW_3]
    rfl
  cases e : vfC 3 (t.drop p) with
  | none =>
    rw [e] at hc
    rw [exSs_exc (c := x_NoValue) (fs := []) (st1 := []) (by rw [exS_unp, hc]; rfl)]
    rfl
  | some q =>
    rw [e] at hc
    have hi := run_is_value (n + 2) q.1
    rw [exSs_nx (ρ1 := [some (.d (.str t)), some (.d (.int p)), some (.d q.1), some (.d (.int ((p + q.2 : Nat) : Int)))]) (st1 := []) (by rw [exS_unp, hc]; simp [rdW])]
    rw [Option.bind_some]
    have hc2 : evE (Gm (n + 9)) (.not (.call c_is_value (.cons (.v 2) .nil))) [some (.d (.str t)), some (.d (.int p)), some (.d q.1), some (.d (.int ((p + q.2 : Nat) : Int)))] [] = .ok (.d (.bl (!isValD 3 q.1)), []) := by
      rw [show n + 2 + 7 = n + 9 by omega] at hi
      simp [hi]
    by_cases h : isValD 3 q.1 = true
    · rw [if_pos h]
      rw [h] at hc2
      rw [exSs_nx (exS_if_no hc2 rfl), exSs_rt (exS_ret_ok (w := .d (.tup [q.1, .int ((p + q.2 : Nat) : Int)])) (st1 := []) (by simp))]
      rfl
    · rw [if_neg h]
      have h' := Bool.not_eq_true _ ▸ h
      rw [h'] at hc2
      rw [exSs_exc ((exS_if_yes hc2 rfl).trans (exSs_exc (exS_rai (Γ := Gm (n + 9)) _)))]
      rfl
/-! ### written and loose texts are read back -/
def stopR (r : List Nat) : Prop := ∀ c r', r = c :: r' → sigC c = false
theorem tw_stop {w r : List Nat} (hw : ∀ c ∈ w, sigC c = true) (hr : stopR r) : (w ++ r).takeWhile sigC = w := by
  induction w with
  | nil =>
    cases r with
    | nil => rfl
    | cons c r => rw [List.nil_append, List.takeWhile_cons, hr c r rfl]; rfl
  | cons c w ih =>
    rw [List.cons_append, List.takeWhile_cons, hw c List.mem_cons_self]
    simp only [if_true]
    rw [ih fun d hd => hw d (List.mem_cons_of_mem _ hd)]
theorem tf_esc (r : List Nat) : ∀ t : List Nat, tfC (escL t ++ 34 :: r) = some (t, (escL t).length)
  | [] => tfC_end r
  | c :: t => by
    have ih := tf_esc r t
    unfold escL
    split
    · rename_i h
      show tfC (92 :: c :: (escL t ++ 34 :: r)) = _
      rw [tfC_esc, if_pos h, ih]; simp
    · rename_i h
      rw [not_or] at h
      show tfC (c :: (escL t ++ 34 :: r)) = _
      rw [tfC_sign h.1 h.2, ih]; simp
theorem sig_dig {c : Nat} (h : 48 ≤ c ∧ c ≤ 57) : sigC c = true := by
  unfold sigC
  rw [decide_eq_true_eq]
  simp [s_abcdefgh_ddbe]
  omega
theorem dig_iff (c : Nat) : dig c = true ↔ 48 ≤ c ∧ c ≤ 57 := by unfold dig; simp
theorem figs_num (m : Nat) : figs (numN m) = true := by
  have h := numN_dig m
  have hne : numN m ≠ [] := by
    intro e
    by_cases h10 : m < 10
    · rw [numN_lt h10] at e; cases e
    · rw [numN_ge (by omega)] at e; simp at e
  unfold figs
  rw [Bool.and_eq_true, List.all_eq_true]
  refine ⟨by cases e : numN m with | nil => exact absurd e hne | cons => rfl, fun c hc => (dig_iff c).mpr (h c hc)⟩
theorem figs_mem {w : List Nat} (h : figs w = true) : w ≠ [] ∧ ∀ c ∈ w, 48 ≤ c ∧ c ≤ 57 := by
  unfold figs at h
  rw [Bool.and_eq_true, List.all_eq_true] at h
  refine ⟨?_, fun c hc => (dig_iff c).mp (h.2 c hc)⟩
  rintro rfl
  exact absurd h.1 (by decide)
theorem figs_of {w : List Nat} (h : w ≠ []) (h2 : ∀ c ∈ w, 48 ≤ c ∧ c ≤ 57) : figs w = true := by
  unfold figs
  rw [Bool.and_eq_true, List.all_eq_true]
  exact ⟨by cases w with | nil => exact absurd rfl h | cons => rfl, fun c hc => (dig_iff c).mpr (h2 c hc)⟩
theorem pv_nat {m : Nat} (h : m < 1000000000) : pvD (numN m) = numV m := by
  have hd := numN_dig m
  have hf := figs_num m
  have hl := (numN_len 8 m (by omega)).2
  have hn : ¬ (numN m = [121, 101, 115] ∨ numN m = [110, 111]) := by
    rintro (e | e)
    · have := hd 121 (by rw [e]; simp); omega
    · have := hd 110 (by rw [e]; simp); omega
  unfold pvD
  rw [if_neg hn, if_pos (by rw [hf]; simp; omega), numN_val]
theorem pv_neg {m : Nat} (h : m < 1000000000) : pvD (45 :: numN m) = numV (-(m : Int)) := by
  have hf := figs_num m
  have hl := (numN_len 8 m (by omega)).2
  have h2 : figs (45 :: numN m) = false := by
    cases e : figs (45 :: numN m) with
    | false => rfl
    | true => have := (figs_mem e).2 45 (by simp); omega
  unfold pvD
  rw [if_neg (by rintro (e | e) <;> cases e), if_neg (by rw [h2]; simp), if_pos (by simp [hf]; omega)]
  show numV (-(digV (numN m))) = _
  rw [numN_val]
theorem digV_zeros (k : Nat) (s : List Nat) : digV (List.replicate k 48 ++ s) = digV s := by
  induction k with
  | zero => rfl
  | succ k ih =>
    rw [List.replicate_succ, List.cons_append]
    unfold digV at ih ⊢
    rw [List.foldl_cons]
    exact ih
theorem zf_dig (k m : Nat) : ∀ c ∈ zf k (numN m), 48 ≤ c ∧ c ≤ 57 := by
  intro c hc
  unfold zf at hc
  rcases List.mem_append.mp hc with hc | hc
  · rw [List.mem_replicate] at hc; omega
  · exact numN_dig m c hc
theorem zf_val (k m : Nat) : digV (zf k (numN m)) = m := by unfold zf; rw [digV_zeros, numN_val]
theorem zf_exact {k m : Nat} (h : m < 10 ^ (k + 1)) : (zf (k + 1) (numN m)).length = k + 1 := by
  have := (numN_len k m h).2
  unfold zf
  rw [List.length_append, List.length_replicate]
  omega
theorem pv_day {y m d : Nat} (h1 : y < 10000) (h2 : m < 100) (h3 : d < 100) : pvD (dayS y m d) = dayV (.tup [.int y, .int m, .int d]) := by
  have l1 : (zf 4 (numN y)).length = 4 := zf_exact (k := 3) (by omega)
  have l2 : (zf 2 (numN m)).length = 2 := zf_exact (k := 1) (by omega)
  have l3 : (zf 2 (numN d)).length = 2 := zf_exact (k := 1) (by omega)
  have d1 := zf_dig 4 y
  have d2 := zf_dig 2 m
  have d3 := zf_dig 2 d
  have v1 := zf_val 4 y
  have v2 := zf_val 2 m
  have v3 := zf_val 2 d
  unfold dayS
  rw [numS_nat, numS_nat, numS_nat]
  generalize zf 4 (numN y) = a at l1 d1 v1 ⊢
  generalize zf 2 (numN m) = b at l2 d2 v2 ⊢
  generalize zf 2 (numN d) = c at l3 d3 v3 ⊢
  have hs : splitC 45 (a ++ [45] ++ b ++ [45] ++ c) = [a, b, c] := by
    have := split_uniq 45 [a, b, c] (by simp) (by
      intro p hp h45
      simp only [List.mem_cons, List.not_mem_nil, or_false] at hp
      rcases hp with rfl | rfl | rfl
      · have := d1 45 h45; omega
      · have := d2 45 h45; omega
      · have := d3 45 h45; omega)
    rw [show joinL [45] [a, b, c] = a ++ [45] ++ b ++ [45] ++ c by simp [joinL]] at this
    exact this
  have hlen : (a ++ [45] ++ b ++ [45] ++ c).length = 10 := by simp [l1, l2, l3]
  have hf : figs (a ++ [45] ++ b ++ [45] ++ c) = false := by
    cases e : figs (a ++ [45] ++ b ++ [45] ++ c) with
    | false => rfl
    | true => have := (figs_mem e).2 45 (by simp); omega
  have ht : ¬ (a ++ [45] ++ b ++ [45] ++ c).take 1 = [45] := by
    match a, l1, d1 with
    | x :: a', l1, d1 =>
      have := d1 x List.mem_cons_self
      simp
      omega
  unfold pvD
  rw [if_neg (by rintro (e | e) <;> (rw [e] at hlen; simp at hlen)), if_neg (by rw [hf]; simp), if_neg (by rw [decide_eq_false ht]; simp), hs, hlen]
  rw [if_pos]
  · simp [v1, v2, v3]
  · simp only [List.all_cons, List.all_nil, Bool.and_true, Bool.and_eq_true]
    refine ⟨⟨rfl, rfl⟩, figs_of (by intro e; rw [e] at l1; cases l1) d1, figs_of (by intro e; rw [e] at l2; cases l2) d2, figs_of (by intro e; rw [e] at l3; cases l3) d3⟩
theorem sig_minus : sigC 45 = true := by decide
theorem pl_of {w r : List Nat} {v : Dt} (hw : ∀ c ∈ w, sigC c = true) (hr : stopR r) (h1 : pvD w = v) (h2 : isNonD v = false) (h3 : wrD 0 v = w) (h4 : ¬ w.take 1 = [34]) (h5 : ¬ w.take 1 = [91]) (hne : w ≠ []) (f : List Nat → Option (Dt × Nat)) :
    headC (w ++ r) f = some (v, w.length) := by
  have ht : (w ++ r).take 1 = w.take 1 := by
    cases w with
    | nil => exact absurd rfl hne
    | cons c w => simp
  unfold headC
  rw [ht, if_neg h4, if_neg h5]
  unfold plC
  rw [tw_stop hw hr, h1, h2, h3]
  simp
theorem vf_eq (k : Nat) (l : List Nat) : ∃ f, vfC k l = headC l f := by
  cases k with
  | zero => exact ⟨_, rfl⟩
  | succ k => exact ⟨_, rfl⟩
theorem take1_ne {w : List Nat} {a : Nat} (h : ∀ c ∈ w, c ≠ a) : ¬ w.take 1 = [a] := by
  cases w with
  | nil => simp
  | cons c w => have := h c List.mem_cons_self; simp [this]
theorem numS_sig (i : Int) : ∀ c ∈ numS i, (48 ≤ c ∧ c ≤ 57) ∨ c = 45 := by
  intro c hc
  unfold numS at hc
  split at hc
  · exact .inl (numN_dig _ c hc)
  · rcases List.mem_cons.mp hc with rfl | hc
    · exact .inr rfl
    · exact .inl (numN_dig _ c hc)
theorem numS_ne (i : Int) : numS i ≠ [] := by
  unfold numS
  split
  · exact (figs_mem (figs_num _)).1
  · simp
theorem pv_num {i : Int} (h1 : -999999999 ≤ i) (h2 : i ≤ 999999999) : pvD (numS i) = numV i := by
  unfold numS
  split
  · rw [pv_nat (by omega), show ((i.toNat : Nat) : Int) = i by omega]
  · rw [pv_neg (by omega), show (-(((-i).toNat : Nat) : Int)) = i by omega]
theorem vf_num (k : Nat) {i : Int} (h1 : -999999999 ≤ i) (h2 : i ≤ 999999999) {r : List Nat} (hr : stopR r) : vfC k (numS i ++ r) = some (numV i, (numS i).length) := by
  obtain ⟨f, hf⟩ := vf_eq k (numS i ++ r)
  rw [hf]
  have hc := numS_sig i
  refine pl_of (fun c h => ?_) hr (pv_num h1 h2) rfl (wr_num 0 i) (take1_ne fun c h e => ?_) (take1_ne fun c h e => ?_) (numS_ne i) f
  · rcases hc c h with h | rfl
    · exact sig_dig h
    · exact sig_minus
  · have := hc c h; omega
  · have := hc c h; omega
theorem vf_tru (k : Nat) (b : Bool) {r : List Nat} (hr : stopR r) : vfC k ((if b then [121, 101, 115] else [110, 111]) ++ r) = some (truV b, (if b then [121, 101, 115] else [110, 111] : List Nat).length) := by
  obtain ⟨f, hf⟩ := vf_eq k ((if b then [121, 101, 115] else [110, 111]) ++ r)
  rw [hf]
  cases b
  · exact pl_of (w := [110, 111]) (by decide) hr (by simp [pvD]) rfl (wr_tru 0 false) (by decide) (by decide) (by decide) f
  · exact pl_of (w := [121, 101, 115]) (by decide) hr (by simp [pvD]) rfl (wr_tru 0 true) (by decide) (by decide) (by decide) f
theorem vf_txt (k : Nat) (t r : List Nat) : vfC k (quoL t ++ r) = some (textV t, (quoL t).length) := by
  obtain ⟨f, hf⟩ := vf_eq k (quoL t ++ r)
  rw [hf, quoL_eq]
  unfold headC
  have e1 : (34 :: (escL t ++ [34]) ++ r).take 1 = [34] := rfl
  have e2 : (34 :: (escL t ++ [34]) ++ r).drop 1 = escL t ++ 34 :: r := by simp
  rw [if_pos e1, e2, tf_esc]
  simp
theorem dayS_sig (y m d : Nat) : ∀ c ∈ dayS y m d, (48 ≤ c ∧ c ≤ 57) ∨ c = 45 := by
  intro c hc
  unfold dayS at hc
  rw [numS_nat, numS_nat, numS_nat] at hc
  simp only [List.mem_append, List.mem_singleton] at hc
  rcases hc with ((((hc | hc) | hc) | hc) | hc)
  · exact .inl (zf_dig _ _ c hc)
  · exact .inr hc
  · exact .inl (zf_dig _ _ c hc)
  · exact .inr hc
  · exact .inl (zf_dig _ _ c hc)
theorem vf_day (k : Nat) {y m d : Nat} (h1 : y < 10000) (h2 : m < 100) (h3 : d < 100) {r : List Nat} (hr : stopR r) : vfC k (dayS y m d ++ r) = some (dayV (.tup [.int y, .int m, .int d]), (dayS y m d).length) := by
  obtain ⟨f, hf⟩ := vf_eq k (dayS y m d ++ r)
  rw [hf]
  have hc := dayS_sig y m d
  refine pl_of (fun c h => ?_) hr (pv_day h1 h2 h3) rfl (wr_day 0 y m d) (take1_ne fun c h e => ?_) (take1_ne fun c h e => ?_) (by unfold dayS; simp) f
  · rcases hc c h with h | rfl
    · exact sig_dig h
    · exact sig_minus
  · have := hc c h; omega
  · have := hc c h; omega
/-- a text that may be read as a value -/
def bls (b : Nat) : List Nat := List.replicate b 32
mutual
inductive Ls : Dt → List Nat → Prop
  | num (i : Int) (h1 : -999999999 ≤ i) (h2 : i ≤ 999999999) : Ls (numV i) (numS i)
  | tru (b : Bool) : Ls (truV b) (if b then [121, 101, 115] else [110, 111])
  | txt (t : List Nat) (h : t.length ≤ 60) : Ls (textV t) (quoL t)
  | day (y m d : Nat) (h1 : y < 10000) (h2 : m < 100) (h3 : d < 100) : Ls (dayV (.tup [.int y, .int m, .int d])) (dayS y m d)
  | lst (b0 b1 b2 b3 : Nat) {vs : List Dt} {ss : List (List Nat)} (h : Lss vs ss) : Ls (lstV vs) (91 :: (bls b0 ++ joinL (bls b1 ++ [44] ++ bls b2) ss ++ bls b3 ++ [93]))
inductive Lss : List Dt → List (List Nat) → Prop
  | nil : Lss [] []
  | cons {v : Dt} {s : List Nat} {vs : List Dt} {ss : List (List Nat)} (h : Ls v s) (r : Lss vs ss) : Lss (v :: vs) (s :: ss)
end
theorem Ls.head {v : Dt} {s : List Nat} (h : Ls v s) : ∃ c s', s = c :: s' ∧ c ≠ 32 ∧ c ≠ 93 ∧ c ≠ 44 := by
  cases h with
  | num i h1 h2 =>
    have hc := numS_sig i
    cases e : numS i with
    | nil => exact absurd e (numS_ne i)
    | cons c s' => have := hc c (by rw [e]; simp); exact ⟨c, s', rfl, by omega, by omega, by omega⟩
  | tru b => cases b <;> exact ⟨_, _, rfl, by decide, by decide, by decide⟩
  | txt t h => exact ⟨34, _, rfl, by decide, by decide, by decide⟩
  | day y m d h1 h2 h3 =>
    have hc := dayS_sig y m d
    cases e : dayS y m d with
    | nil => exact absurd e (by unfold dayS; simp)
    | cons c s' => have := hc c (by rw [e]; simp); exact ⟨c, s', rfl, by omega, by omega, by omega⟩
  | lst b0 b1 b2 b3 h => exact ⟨91, _, rfl, by decide, by decide, by decide⟩
theorem nbl_bls (b : Nat) {r : List Nat} (h : ∀ c r', r = c :: r' → c ≠ 32) : nbl (bls b ++ r) = b := by
  induction b with
  | zero =>
    show nbl r = 0
    cases r with
    | nil => rfl
    | cons c r => unfold nbl; rw [if_neg (h c r rfl)]
  | succ b ih =>
    show nbl (32 :: (bls b ++ r)) = _
    unfold nbl
    rw [if_pos rfl, ih]
theorem drop_bls (b : Nat) (r : List Nat) : (bls b ++ r).drop b = r := by
  have := List.drop_left (l₁ := bls b) (l₂ := r)
  rwa [show (bls b).length = b by unfold bls; simp] at this
theorem bls_len (b : Nat) : (bls b).length = b := by unfold bls; simp
theorem stop_bls (b : Nat) {c : Nat} (r : List Nat) (hc : sigC c = false) : stopR (bls b ++ c :: r) := by
  intro d r' e
  cases b with
  | zero => cases e; exact hc
  | succ b => cases e; decide
theorem joinL_cons (sep x y : List Nat) (r : List (List Nat)) : joinL sep (x :: y :: r) = x ++ sep ++ joinL sep (y :: r) := rfl
theorem it_ls {k : Nat} (b0 b1 b2 : Nat) (r : List Nat) : ∀ (f : Nat) {vs : List Dt} {ss : List (List Nat)}, Lss vs ss → vs ≠ [] → (∀ v ∈ vs, ∀ s, Ls v s → ∀ r, stopR r → vfC k (s ++ r) = some (v, s.length)) → ss.length < f →
    itC (vfC k) f (joinL (bls b1 ++ [44] ++ bls b2) ss ++ (bls b0 ++ 93 :: r)) = some (vs, (joinL (bls b1 ++ [44] ++ bls b2) ss).length + b0 + 1) := by
  intro f
  induction f with
  | zero => intro vs ss _ _ _ h; omega
  | succ f ih =>
    intro vs ss hL hne hv hf
    cases hL with
    | nil => exact absurd rfl hne
    | cons h1 hr =>
      rename_i v s vs ss
      have hvs := hv v List.mem_cons_self s h1
      cases hr with
      | nil =>
        rw [show joinL (bls b1 ++ [44] ++ bls b2) [s] = s from rfl]
        unfold itC
        have e := hvs (bls b0 ++ 93 :: r) (stop_bls b0 r (by decide))
        rw [e]
        dsimp only
        rw [List.drop_left, nbl_bls b0 (by intro c r' e; cases e; decide), ← List.drop_drop, List.drop_left, drop_bls]
        simp
      | cons h2 hr2 =>
        rename_i v2 s2 vs ss
        obtain ⟨c, s', es, hc1, hc2, hc3⟩ := h2.head
        have ih' := ih (vs := v2 :: vs) (ss := s2 :: ss) (.cons h2 hr2) (by simp) (fun v hv' => hv v (List.mem_cons_of_mem _ hv')) (by simp at hf ⊢; omega)
        generalize hJ : joinL (bls b1 ++ [44] ++ bls b2) (s2 :: ss) = J at ih'
        have hJc : ∃ J', J = c :: J' := by
          rw [← hJ, es]
          cases ss <;> exact ⟨_, rfl⟩
        obtain ⟨J', eJ⟩ := hJc
        rw [joinL_cons, hJ]
        unfold itC
        have hshape : s ++ (bls b1 ++ [44] ++ bls b2) ++ J ++ (bls b0 ++ 93 :: r) = s ++ (bls b1 ++ 44 :: (bls b2 ++ (J ++ (bls b0 ++ 93 :: r)))) := by simp [List.append_assoc]
        rw [hshape]
        have e := hvs (bls b1 ++ 44 :: (bls b2 ++ (J ++ (bls b0 ++ 93 :: r)))) (stop_bls b1 _ (by decide))
        rw [e]
        dsimp only
        have n1 : nbl (bls b1 ++ 44 :: (bls b2 ++ (J ++ (bls b0 ++ 93 :: r)))) = b1 := nbl_bls b1 (by intro c r' e; cases e; decide)
        have d1 : (s ++ (bls b1 ++ 44 :: (bls b2 ++ (J ++ (bls b0 ++ 93 :: r))))).drop (s.length + b1) = 44 :: (bls b2 ++ (J ++ (bls b0 ++ 93 :: r))) := by rw [← List.drop_drop, List.drop_left, drop_bls]
        have d2 : (s ++ (bls b1 ++ 44 :: (bls b2 ++ (J ++ (bls b0 ++ 93 :: r))))).drop (s.length + b1 + 1) = bls b2 ++ (J ++ (bls b0 ++ 93 :: r)) := by rw [← List.drop_drop, d1]; rfl
        have n2 : nbl (bls b2 ++ (J ++ (bls b0 ++ 93 :: r))) = b2 := nbl_bls b2 (by intro c' r' e; rw [eJ] at e; cases e; exact hc1)
        have d3 : (s ++ (bls b1 ++ 44 :: (bls b2 ++ (J ++ (bls b0 ++ 93 :: r))))).drop (s.length + b1 + 1 + b2) = J ++ (bls b0 ++ 93 :: r) := by rw [← List.drop_drop, d2, drop_bls]
        rw [List.drop_left, n1, d1, d2, n2, d3, ih']
        simp [bls_len]
        omega
theorem vf_ls : ∀ (k : Nat) {v : Dt} {s : List Nat}, isValD k v = true → Ls v s → ∀ r, stopR r → vfC k (s ++ r) = some (v, s.length) := by
  intro k
  induction k with
  | zero =>
    intro v s hv h r hr
    cases h with
    | num i h1 h2 => exact vf_num 0 h1 h2 hr
    | tru b => exact vf_tru 0 b hr
    | txt t h => exact vf_txt 0 t r
    | day y m d h1 h2 h3 => exact vf_day 0 h1 h2 h3 hr
    | lst b0 b1 b2 b3 h =>
      exfalso
      obtain ⟨s, c, e, _, h2⟩ := isVal_inv hv
      cases e
      obtain ⟨xs, j, e, _⟩ := h2 rfl
      cases e
  | succ k ih =>
    intro v s hv h r hr
    cases h with
    | num i h1 h2 => exact vf_num _ h1 h2 hr
    | tru b => exact vf_tru _ b hr
    | txt t h => exact vf_txt _ t r
    | day y m d h1 h2 h3 => exact vf_day _ h1 h2 h3 hr
    | lst b0 b1 b2 b3 hL =>
      rename_i vs ss
      obtain ⟨s, c, e, _, h2⟩ := isVal_inv hv
      cases e
      obtain ⟨xs, j, ek, ex, hl, hxs⟩ := h2 rfl
      cases ek
      cases ex
      show headC _ (lstC (vfC k)) = _
      unfold headC
      have e1 : (91 :: (bls b0 ++ joinL (bls b1 ++ [44] ++ bls b2) ss ++ bls b3 ++ [93]) ++ r).take 1 = [91] := rfl
      have e2 : (91 :: (bls b0 ++ joinL (bls b1 ++ [44] ++ bls b2) ss ++ bls b3 ++ [93]) ++ r).drop 1 = bls b0 ++ (joinL (bls b1 ++ [44] ++ bls b2) ss ++ (bls b3 ++ 93 :: r)) := by simp
      rw [if_neg (by rw [e1]; decide), if_pos e1, e2]
      unfold lstC
      cases hL with
      | nil =>
        have hn : nbl (bls b0 ++ (joinL (bls b1 ++ [44] ++ bls b2) [] ++ (bls b3 ++ 93 :: r))) = b0 + b3 := by
          show nbl (bls b0 ++ (bls b3 ++ 93 :: r)) = _
          rw [← List.append_assoc, show bls b0 ++ bls b3 = bls (b0 + b3) by unfold bls; rw [List.replicate_append_replicate]]
          exact nbl_bls _ (by intro c r' e; cases e; decide)
        have hd : (bls b0 ++ (joinL (bls b1 ++ [44] ++ bls b2) [] ++ (bls b3 ++ 93 :: r))).drop (b0 + b3) = 93 :: r := by
          show (bls b0 ++ (bls b3 ++ 93 :: r)).drop (b0 + b3) = _
          rw [← List.drop_drop, drop_bls, drop_bls]
        rw [hn, hd]
        simp [bls_len, joinL]
        omega
      | @cons v1 s1 vs ss h1 hr2 =>
        obtain ⟨c, s', es, hc1, hc2, hc3⟩ := h1.head
        have hJc : ∃ J', joinL (bls b1 ++ [44] ++ bls b2) (s1 :: ss) = c :: J' := by
          rw [es]
          cases ss <;> exact ⟨_, rfl⟩
        obtain ⟨J', eJ⟩ := hJc
        have hit := fun f hf => it_ls (k := k) b3 b1 b2 r f (vs := v1 :: vs) (ss := s1 :: ss) (.cons h1 hr2) (by simp) (fun v hv s hs r hr => ih (hxs v hv) hs r hr) hf
        have hn : nbl (bls b0 ++ (joinL (bls b1 ++ [44] ++ bls b2) (s1 :: ss) ++ (bls b3 ++ 93 :: r))) = b0 := nbl_bls b0 (by intro c' r' e; rw [eJ] at e; cases e; exact hc1)
        rw [hn, drop_bls, hit]
        · rw [eJ]
          simp [bls_len, hc2]
          omega
        · have : ∀ (sep : List Nat) (xs : List (List Nat)), (∀ x ∈ xs, x ≠ []) → xs.length ≤ (joinL sep xs).length := by
            intro sep xs
            induction xs with
            | nil => intro _; simp
            | cons x xs ihx =>
              intro hx
              have hx1 : x.length ≠ 0 := fun e => hx x List.mem_cons_self (List.length_eq_zero_iff.mp e)
              have := ihx fun y hy => hx y (List.mem_cons_of_mem _ hy)
              cases xs with
              | nil => simp [joinL]; omega
              | cons y ys =>
                rw [joinL_cons, List.length_append, List.length_append]
                simp only [List.length_cons] at this ⊢
                omega
          have hall : ∀ {vs : List Dt} {ss : List (List Nat)}, Lss vs ss → ∀ x ∈ ss, x ≠ [] := by
            intro vs ss hL
            induction ss generalizing vs with
            | nil => intro x hx; cases hx
            | cons s ss ih3 =>
              cases hL with
              | cons h hr =>
                intro x hx
                rcases List.mem_cons.mp hx with rfl | hx
                · obtain ⟨c, s', e, _⟩ := h.head; rw [e]; simp
                · exact ih3 hr x hx
          have hx := this (bls b1 ++ [44] ++ bls b2) (s1 :: ss) (hall (.cons h1 hr2))
          rw [List.length_append, List.length_append]
          omega
/-! ### written values, by the program and by the law -/
theorem daysIn_le (y m : Int) : daysIn y m ≤ 31 := by
  unfold daysIn
  split
  · decide
  · have h : ∀ k < 12, daysL.getD k 0 ≤ 31 := by decide
    by_cases hk : (m - 1).toNat < 12
    · exact h _ hk
    · rw [List.getD_eq_getElem?_getD, List.getElem?_eq_none (by show 12 ≤ _; omega)]; decide
theorem val_cases {k : Nat} {v : Dt} (h : isValD k v = true) : (∃ i : Int, v = numV i ∧ -999999999 ≤ i ∧ i ≤ 999999999) ∨ (∃ b, v = truV b) ∨ (∃ t : List Nat, v = textV t ∧ t.length ≤ 60) ∨
    (∃ y m d : Nat, v = dayV (.tup [.int y, .int m, .int d]) ∧ y < 10000 ∧ m < 100 ∧ d < 100) ∨ (∃ j vs, k = j + 1 ∧ v = lstV vs ∧ vs.length ≤ 6 ∧ ∀ x ∈ vs, isValD j x = true) := by
  obtain ⟨s, c, rfl, _, h2⟩ := isVal_inv h
  by_cases hs : s = s_list_f818
  · obtain ⟨xs, j, rfl, rfl, hl, hx⟩ := h2 hs
    subst hs
    exact .inr (.inr (.inr (.inr ⟨j, xs, rfl, rfl, hl, hx⟩)))
  · rw [isVal_plain hs] at h
    rcases plain_inv h with ⟨rfl, i, rfl, h1, h2⟩ | ⟨rfl, b, rfl⟩ | ⟨rfl, t, rfl, ht⟩ | ⟨rfl, hd⟩
    · exact .inl ⟨i, rfl, h1, h2⟩
    · exact .inr (.inl ⟨b, rfl⟩)
    · exact .inr (.inr (.inl ⟨t, rfl, ht⟩))
    · obtain ⟨y, m, d, rfl, a1, a2, a3, a4, a5, a6⟩ := isDay_inv hd
      have := daysIn_le y m
      refine .inr (.inr (.inr (.inl ⟨y.toNat, m.toNat, d.toNat, ?_, by omega, by omega, by omega⟩)))
      rw [show ((y.toNat : Nat) : Int) = y by omega, show ((m.toNat : Nat) : Int) = m by omega, show ((d.toNat : Nat) : Int) = d by omega]
      rfl
def bnd : Nat → Nat
  | 0 => 130
  | k + 1 => 6 * (bnd k + 5) + 6
theorem bnd_le {k : Nat} (h : k ≤ 3) : bnd k ≤ 30000 := by
  match k, h with
  | 0, _ => decide
  | 1, _ => decide
  | 2, _ => decide
  | 3, _ => decide
theorem bnd_ge (k : Nat) : 130 ≤ bnd k := by
  induction k with
  | zero => simp [bnd]
  | succ k ih => simp only [bnd]; omega
theorem numS_len {i : Int} (h1 : -999999999 ≤ i) (h2 : i ≤ 999999999) : (numS i).length ≤ 10 := by
  unfold numS
  split
  · have := (numN_len 8 i.toNat (by omega)).2; omega
  · have := (numN_len 8 (-i).toNat (by omega)).2; simp; omega
theorem dayS_len {y m d : Nat} (h1 : y < 10000) (h2 : m < 100) (h3 : d < 100) : (dayS y m d).length = 10 := by
  unfold dayS
  rw [numS_nat, numS_nat, numS_nat]
  have l1 : (zf 4 (numN y)).length = 4 := zf_exact (k := 3) (by omega)
  have l2 : (zf 2 (numN m)).length = 2 := zf_exact (k := 1) (by omega)
  have l3 : (zf 2 (numN d)).length = 2 := zf_exact (k := 1) (by omega)
  simp [l1, l2, l3]
theorem quoL_len {t : List Nat} (h : t.length ≤ 60) : (quoL t).length ≤ 122 := by
  rw [quoL_eq]
  have := escL_len t
  simp; omega
theorem wr_len : ∀ (k : Nat) {v : Dt}, isValD k v = true → (wrD k v).length ≤ bnd k := by
  intro k
  induction k with
  | zero =>
    intro v h
    rcases val_cases h with ⟨i, rfl, h1, h2⟩ | ⟨b, rfl⟩ | ⟨t, rfl, ht⟩ | ⟨y, m, d, rfl, h1, h2, h3⟩ | ⟨j, vs, e, _⟩
    · rw [wr_num]; have := numS_len h1 h2; simp [bnd]; omega
    · rw [wr_tru]; cases b <;> simp [bnd]
    · rw [wr_txt]; have := quoL_len ht; simp [bnd]; omega
    · rw [wr_day, dayS_len h1 h2 h3]; simp [bnd]
    · cases e
  | succ k ih =>
    intro v h
    have hb := bnd_ge (k + 1)
    rcases val_cases h with ⟨i, rfl, h1, h2⟩ | ⟨b, rfl⟩ | ⟨t, rfl, ht⟩ | ⟨y, m, d, rfl, h1, h2, h3⟩ | ⟨j, vs, e, rfl, hl, hx⟩
    · rw [wr_num]; have := numS_len h1 h2; omega
    · rw [wr_tru]; cases b <;> simp <;> omega
    · rw [wr_txt]; have := quoL_len ht; omega
    · rw [wr_day, dayS_len h1 h2 h3]; omega
    · cases e
      rw [wr_lst]
      have hj := joinL_len [44, 32] (vs.map (wrD k))
      have hs := sumLen_le (b := bnd k) (vs.map (wrD k)) (by
        intro x hx'
        obtain ⟨v, hv, rfl⟩ := List.mem_map.mp hx'
        exact ih (hx v hv))
      rw [List.length_map] at hj hs
      have hm : vs.length * bnd k ≤ 6 * bnd k := Nat.mul_le_mul_right _ hl
      simp only [List.length_cons, List.length_append, List.length_nil] at hj ⊢
      simp only [bnd]
      omega
theorem run_written : ∀ (k n : Nat) {v : Dt}, k ≤ 3 → isValD k v = true → runP tab gls (n + k + 2) c_written_value [v] = .ok (.str (wrD k v)) := by
  intro k
  induction k with
  | zero =>
    intro n v _ h
    rcases val_cases h with ⟨i, rfl, h1, h2⟩ | ⟨b, rfl⟩ | ⟨t, rfl, ht⟩ | ⟨y, m, d, rfl, h1, h2, h3⟩ | ⟨j, vs, e, _⟩
    · rw [run_wr_num _ _ (by omega), wr_num]
    · rw [run_wr_tru, wr_tru]
    · rw [run_wr_txt _ _ (by omega), wr_txt]
    · rw [run_wr_day _ _ _ _ (by omega) (by omega) (by omega), wr_day]
    · cases e
  | succ k ih =>
    intro n v hk h
    rcases val_cases h with ⟨i, rfl, h1, h2⟩ | ⟨b, rfl⟩ | ⟨t, rfl, ht⟩ | ⟨y, m, d, rfl, h1, h2, h3⟩ | ⟨j, vs, e, rfl, hl, hx⟩
    · rw [run_wr_num _ _ (by omega), wr_num]
    · rw [run_wr_tru, wr_tru]
    · rw [run_wr_txt _ _ (by omega), wr_txt]
    · rw [run_wr_day _ _ _ _ (by omega) (by omega) (by omega), wr_day]
    · cases e
      have hb2 : bnd k ≤ 10000 := by
        match k, hk with
        | 0, _ => decide
        | 1, _ => decide
        | 2, _ => decide
      rw [wr_lst, show n + (k + 1) + 2 = n + k + 2 + 1 by omega]
      exact run_wr_lst (n + k + 2) vs (wrD k) (fun v hv => ih n (by omega) (hx v hv)) (by omega) fun v hv => Nat.le_trans (wr_len k (hx v hv)) hb2
theorem Ls_wr : ∀ (k : Nat) {v : Dt}, isValD k v = true → Ls v (wrD k v) := by
  intro k
  induction k with
  | zero =>
    intro v h
    rcases val_cases h with ⟨i, rfl, h1, h2⟩ | ⟨b, rfl⟩ | ⟨t, rfl, ht⟩ | ⟨y, m, d, rfl, h1, h2, h3⟩ | ⟨j, vs, e, _⟩
    · rw [wr_num]; exact .num i h1 h2
    · rw [wr_tru]; exact .tru b
    · rw [wr_txt]; exact .txt t ht
    · rw [wr_day]; exact .day y m d h1 h2 h3
    · cases e
  | succ k ih =>
    intro v h
    rcases val_cases h with ⟨i, rfl, h1, h2⟩ | ⟨b, rfl⟩ | ⟨t, rfl, ht⟩ | ⟨y, m, d, rfl, h1, h2, h3⟩ | ⟨j, vs, e, rfl, hl, hx⟩
    · rw [wr_num]; exact .num i h1 h2
    · rw [wr_tru]; exact .tru b
    · rw [wr_txt]; exact .txt t ht
    · rw [wr_day]; exact .day y m d h1 h2 h3
    · cases e
      rw [wr_lst]
      have hL : ∀ vs : List Dt, (∀ x ∈ vs, isValD k x = true) → Lss vs (vs.map (wrD k)) := by
        intro vs
        induction vs with
        | nil => intro _; exact .nil
        | cons v vs ihv => intro hx; exact .cons (ih (hx v List.mem_cons_self)) (ihv fun y hy => hx y (List.mem_cons_of_mem _ hy))
      have := Ls.lst 0 0 1 0 (hL vs hx)
      simpa [bls] using this
theorem run_lq' (n : Nat) (a : Dt) : runP tab gls (n + 1) c__law_quoted [a] = (exSs (Gm n) b__law_quoted [some (.d a), none] []).bind endD := rfl
theorem joinE (f : Nat → List Nat) : ∀ t : List Nat, joinL [] (t.map f) = (t.map f).flatten
  | [] => rfl
  | [c] => by simp [joinL]
  | c :: d :: t => by
    have := joinE f (d :: t)
    simp only [List.map_cons] at this ⊢
    rw [joinL_cons, this]
    simp
theorem escL_flat : ∀ t : List Nat, (t.map fun c => if c = 34 ∨ c = 92 then [92, c] else [c]).flatten = escL t
  | [] => rfl
  | c :: t => by rw [List.map_cons, List.flatten_cons, escL_flat t]; rfl
theorem run_law_quoted (n : Nat) (t : List Nat) (h : t.length ≤ 1000) : runP tab gls (n + 1) c__law_quoted [.str t] = .ok (.str (quoL t)) := by
  rw [run_lq', quoL_eq]
  have s1 : ∀ (a : List Nat) (j : Nat), a.length * j ≤ 1000 → j ≤ 1 → bopD .mul (.str a) (.int (j : Int)) = some (.str (List.replicate j a).flatten) := by
    intro a j h1 h2
    rw [mul_si (by rw [Int.toNat_natCast, lim16]; omega), Int.toNat_natCast]
  have hlc : evE (Gm n) (.lc le0__law_quoted (.one 1) (.seq (.v 0)) li0__law_quoted) [some (.d (.str t)), none] [] = .ok (.d (.lst (t.map fun c => .str (if c = 34 ∨ c = 92 then [92, c] else [c]))), []) := by
    refine evE_lc_ok (xs := t.map fun c => .str [c]) (by rw [evI_seq]; rfl) (lcL_map' _ _ _ _ fun x _ => lcTurn_one (by simp) ?_) (by rw [List.length_map]; omega)
    have a1 : bopD .add (.str [92]) (.str [x]) = some (.str [92, x]) := add_ss (by rw [lim16]; simp)
    have a0 : bopD .add (.str []) (.str [x]) = some (.str [x]) := add_ss (by rw [lim16]; simp)
    have m1 := s1 [92] 1 (by simp) (by decide)
    have m0 := s1 [92] 0 (by simp) (by decide)
    simp at m1 m0
    by_cases h1 : x = 34
    · subst h1; simp [le0__law_quoted, m1, a1]
    · by_cases h2 : x = 92
      · subst h2; simp [le0__law_quoted, m1, a1]
      · simp [le0__law_quoted, h1, h2, m0, a0]
  have hl := escL_len t
  have hj : evE (Gm n) (.m1 .join (.str []) (.lc le0__law_quoted (.one 1) (.seq (.v 0)) li0__law_quoted)) [some (.d (.str t)), none] [] = .ok (.d (.str (escL t)), []) := by
    refine evE_m1_ok (evE_str _) hlc ?_
    rw [show (t.map fun c => Dt.str (if c = 34 ∨ c = 92 then [92, c] else [c])) = (t.map fun c => if c = 34 ∨ c = 92 then [92, c] else [c]).map Dt.str by rw [List.map_map]; rfl]
    rw [join_strs, joinE, escL_flat]
    have := sumLen_le (b := 2) (t.map fun c => if c = 34 ∨ c = 92 then [92, c] else [c]) (by
      intro x hx
      obtain ⟨c, _, rfl⟩ := List.mem_map.mp hx
      split <;> simp)
    rw [List.length_map] at this
    simp only [List.length_nil, Nat.mul_zero]
    omega
  unfold b__law_quoted
  rw [exSs_rt (exS_ret_ok (evE_bin_ok (evE_bin_ok (evE_str _) hj (add_ss (by rw [lim16]; simp; omega))) (evE_str _) (add_ss (by rw [lim16]; simp; omega))))]
  simp
theorem run_lw' (n : Nat) (a : Dt) : runP tab gls (n + 1) c__law_written [a] = (exSs (Gm n) b__law_written [some (.d a), none, none, none] []).bind endD := rfl
theorem run_lw_num (n : Nat) (i : Int) (h : i.natAbs < 18446744073709551616) : runP tab gls (n + 1) c__law_written [numV i] = .ok (.str (numS i)) := by
  rw [run_lw']
  have := str_num h
  simp [b__law_written, numV, this]
theorem run_lw_tru (n : Nat) (b : Bool) : runP tab gls (n + 1) c__law_written [truV b] = .ok (.str (if b then [121, 101, 115] else [110, 111])) := by
  rw [run_lw']
  cases b <;> simp [b__law_written, truV, show ¬ s_truth_2626 = s_number_1f54 by decide, ixD, ixL, ixP]
theorem run_lw_txt (n : Nat) (t : List Nat) (h : t.length ≤ 1000) : runP tab gls (n + 2) c__law_written [textV t] = .ok (.str (quoL t)) := by
  rw [run_lw']
  simp [b__law_written, textV, show ¬ s_text_a7c7 = s_number_1f54 by decide, show ¬ s_text_a7c7 = s_truth_2626 by decide, run_law_quoted n t h]
theorem cut_neg {s : List Nat} {k z : Nat} (hz : z + 1 = k) (h1 : 1 ≤ s.length) (h2 : s.length ≤ k) : cutL (List.replicate z 48 ++ s) (some (-(k : Int))) none = zf k s := by
  have hl : (List.replicate z 48 ++ s).length = z + s.length := by simp
  unfold cutL
  rw [hl]
  show List.take (z + s.length - (if (-(k : Int)) < 0 then (-(k : Int) + ((z + s.length : Nat) : Int)).toNat else _)) (List.drop (if (-(k : Int)) < 0 then (-(k : Int) + ((z + s.length : Nat) : Int)).toNat else _) _) = _
  rw [if_pos (by omega), show (-(k : Int) + ((z + s.length : Nat) : Int)).toNat = s.length - 1 by omega, List.take_of_length_le (by rw [List.length_drop, hl]; omega), List.drop_append_of_le_length (by rw [List.length_replicate]; omega), List.drop_replicate]
  unfold zf
  rw [show z - (s.length - 1) = k - s.length by omega]
theorem run_lw_day (n : Nat) (y m d : Nat) (h1 : y < 10000) (h2 : m < 100) (h3 : d < 100) : runP tab gls (n + 1) c__law_written [dayV (.tup [.int y, .int m, .int d])] = .ok (.str (dayS y m d)) := by
  rw [run_lw']
  have e1 : p1D .str (.int (y : Int)) = some (.str (numN y)) := by rw [str_num (by omega), numS_nat]
  have e2 : p1D .str (.int (m : Int)) = some (.str (numN m)) := by rw [str_num (by omega), numS_nat]
  have e3 : p1D .str (.int (d : Int)) = some (.str (numN d)) := by rw [str_num (by omega), numS_nat]
  have n1 := numN_len 3 y (by omega)
  have n2 := numN_len 1 m (by omega)
  have n3 := numN_len 1 d (by omega)
  have c1 := cut_neg (k := 4) (z := 3) rfl n1.1 n1.2
  have c2 := cut_neg (k := 2) (z := 1) rfl n2.1 n2.2
  have c3 := cut_neg (k := 2) (z := 1) rfl n3.1 n3.2
  have l1 : (zf 4 (numN y)).length = 4 := zf_exact (k := 3) (by omega)
  have l2 : (zf 2 (numN m)).length = 2 := zf_exact (k := 1) (by omega)
  have l3 : (zf 2 (numN d)).length = 2 := zf_exact (k := 1) (by omega)
  have z1 : ∀ (Γ : Gam) (ρ : Ev), ρ[2]? = some (some (.d (.tup [.int (y : Int), .int (m : Int), .int (d : Int)]))) → evE Γ (.sl (.bin .add (.str [48, 48, 48]) (.p1 .str (.ix (.v 2) (.int 0)))) (.yes (.neg (.int 4))) .no) ρ [] = .ok (.d (.str (zf 4 (numN y))), []) := fun Γ ρ hρ => by
    rw [evE_sl, evE_bin_ok (evE_str _) (evE_p1_ok (x := .int y) (st1 := []) (by simp [hρ, ixD, ixL, ixP]) e1) (add_ss (by rw [lim16]; simp; omega))]
    simp only [Rs.bind_ok, evO_yes, evO_no, evE_neg, evE_int, op1_d, negD_i, Option.map_some, Rs.ofO_some, intW_i, sl_s]
    exact congrArg (fun z => Rs.ok (Wv.d (Dt.str z), [])) c1
  have z2 : ∀ (Γ : Gam) (ρ : Ev), ρ[2]? = some (some (.d (.tup [.int (y : Int), .int (m : Int), .int (d : Int)]))) → evE Γ (.sl (.bin .add (.str [48]) (.p1 .str (.ix (.v 2) (.int 1)))) (.yes (.neg (.int 2))) .no) ρ [] = .ok (.d (.str (zf 2 (numN m))), []) := fun Γ ρ hρ => by
    rw [evE_sl, evE_bin_ok (evE_str _) (evE_p1_ok (x := .int m) (st1 := []) (by simp [hρ, ixD, ixL, ixP]) e2) (add_ss (by rw [lim16]; simp; omega))]
    simp only [Rs.bind_ok, evO_yes, evO_no, evE_neg, evE_int, op1_d, negD_i, Option.map_some, Rs.ofO_some, intW_i, sl_s]
    exact congrArg (fun z => Rs.ok (Wv.d (Dt.str z), [])) c2
  have z3 : ∀ (Γ : Gam) (ρ : Ev), ρ[2]? = some (some (.d (.tup [.int (y : Int), .int (m : Int), .int (d : Int)]))) → evE Γ (.sl (.bin .add (.str [48]) (.p1 .str (.ix (.v 2) (.int 2)))) (.yes (.neg (.int 2))) .no) ρ [] = .ok (.d (.str (zf 2 (numN d))), []) := fun Γ ρ hρ => by
    rw [evE_sl, evE_bin_ok (evE_str _) (evE_p1_ok (x := .int d) (st1 := []) (by simp [hρ, ixD, ixL, ixP]) e3) (add_ss (by rw [lim16]; simp; omega))]
    simp only [Rs.bind_ok, evO_yes, evO_no, evE_neg, evE_int, op1_d, negD_i, Option.map_some, Rs.ofO_some, intW_i, sl_s]
    exact congrArg (fun z => Rs.ok (Wv.d (Dt.str z), [])) c3
  unfold b__law_written
  rw [exSs_nx (ρ1 := [some (.d (dayV (.tup [.int y, .int m, .int d]))), some (.d (.str [100, 97, 121])), some (.d (.tup [.int y, .int m, .int d])), none]) (st1 := []) (by simp [dayV]),
    exSs_nx (exS_if_no (x := .bl false) (st1 := []) (by simp [show ¬ [100, 97, 121] = s_number_1f54 by decide]) rfl),
    exSs_nx (exS_if_no (x := .bl false) (st1 := []) (by simp [show ¬ [100, 97, 121] = s_truth_2626 by decide]) rfl),
    exSs_nx (exS_if_no (x := .bl false) (st1 := []) (by simp [show ¬ [100, 97, 121] = s_text_a7c7 by decide]) rfl),
    exSs_rt ((exS_if_yes (x := .bl true) (st1 := []) (by simp) rfl).trans (exSs_rt (exS_ret_ok (w := .d (.str (dayS y m d))) (st1 := []) ?_)))]
  · rfl
  · rw [dayS, numS_nat, numS_nat, numS_nat]
    exact evE_bin_ok (evE_bin_ok (evE_bin_ok (evE_bin_ok (z1 _ _ rfl) (evE_str _) (add_ss (by rw [lim16]; simp; omega))) (z2 _ _ rfl) (add_ss (by rw [lim16]; simp; omega))) (evE_str _) (add_ss (by rw [lim16]; simp; omega))) (z3 _ _ rfl) (add_ss (by rw [lim16]; simp; omega))
theorem run_lw_lst (n : Nat) (vs : List Dt) (f : Dt → List Nat) (h : ∀ v ∈ vs, runP tab gls n c__law_written [v] = .ok (.str (f v))) (hl : vs.length ≤ 1000) (hb : ∀ v ∈ vs, (f v).length ≤ 10000) :
    runP tab gls (n + 1) c__law_written [lstV vs] = .ok (.str (91 :: (joinL [44, 32] (vs.map f) ++ [93]))) := by
  rw [run_lw']
  have n1 : ¬ s_list_f818 = s_number_1f54 := by decide
  have n2 : ¬ s_list_f818 = s_truth_2626 := by decide
  have n3 : ¬ s_list_f818 = s_text_a7c7 := by decide
  have n4 : ¬ s_list_f818 = [100, 97, 121] := by decide
  have hs : sumLen (vs.map f) ≤ vs.length * 10000 := by
    have := sumLen_le (b := 10000) (vs.map f) (by simpa using hb)
    rwa [List.length_map] at this
  have hs2 : sumLen (vs.map f) + (vs.map f).length * 2 ≤ 12000000 := by
    rw [List.length_map]
    have : vs.length * 10000 ≤ 1000 * 10000 := Nat.mul_le_mul_right _ hl
    omega
  have hj := joinL_len [44, 32] (vs.map f)
  simp only [List.length_cons, List.length_nil] at hj
  unfold b__law_written
  have hlc : evE (Gm n) (.lc le0__law_written (.one 3) (.seq (.v 2)) li0__law_written) [some (.d (lstV vs)), some (.d (.str s_list_f818)), some (.d (.tup vs)), none] [] = .ok (.d (.lst (vs.map fun v => .str (f v))), []) := by
    have := lcL_map' (st := []) (lcTurn (evIfs (Gm n) li0__law_written) (evE (Gm n) le0__law_written) (.one 3) [some (.d (lstV vs)), some (.d (.str s_list_f818)), some (.d (.tup vs)), none]) id (fun v => .str (f v)) vs (fun x hx => lcTurn_one (by simp) (by simp [le0__law_written, h x hx]))
    rw [List.map_id] at this
    exact evE_lc_ok (xs := vs) (by rw [evI_seq]; rfl) this (by rw [List.length_map]; omega)
  have hjo : evE (Gm n) (.m1 .join (.str [44, 32]) (.lc le0__law_written (.one 3) (.seq (.v 2)) li0__law_written)) [some (.d (lstV vs)), some (.d (.str s_list_f818)), some (.d (.tup vs)), none] [] = .ok (.d (.str (joinL [44, 32] (vs.map f))), []) := by
    refine evE_m1_ok (evE_str _) hlc ?_
    rw [show (vs.map fun v => Dt.str (f v)) = (vs.map f).map Dt.str by rw [List.map_map]; rfl]
    exact join_strs (by simp only [List.length_cons, List.length_nil]; omega)
  rw [exSs_nx (ρ1 := [some (.d (lstV vs)), some (.d (.str s_list_f818)), some (.d (.tup vs)), none]) (st1 := []) (by simp [lstV]),
    exSs_nx (exS_if_no (x := .bl false) (st1 := []) (by simp [n1]) rfl), exSs_nx (exS_if_no (x := .bl false) (st1 := []) (by simp [n2]) rfl),
    exSs_nx (exS_if_no (x := .bl false) (st1 := []) (by simp [n3]) rfl), exSs_nx (exS_if_no (x := .bl false) (st1 := []) (by simp [n4]) rfl),
    exSs_rt (exS_ret_ok (w := .d (.str (91 :: (joinL [44, 32] (vs.map f) ++ [93])))) (st1 := []) ?_)]
  · rfl
  · rw [evE_bin_ok (evE_bin_ok (evE_str _) hjo (add_ss (by rw [lim16]; simp; omega))) (evE_str _) (add_ss (by rw [lim16]; simp; omega))]
    simp
theorem run_law_written : ∀ (k n : Nat) {v : Dt}, k ≤ 3 → isValD k v = true → runP tab gls (n + k + 2) c__law_written [v] = .ok (.str (wrD k v)) := by
  intro k
  induction k with
  | zero =>
    intro n v _ h
    rcases val_cases h with ⟨i, rfl, h1, h2⟩ | ⟨b, rfl⟩ | ⟨t, rfl, ht⟩ | ⟨y, m, d, rfl, h1, h2, h3⟩ | ⟨j, vs, e, _⟩
    · rw [run_lw_num _ _ (by omega), wr_num]
    · rw [run_lw_tru, wr_tru]
    · rw [run_lw_txt _ _ (by omega), wr_txt]
    · rw [run_lw_day _ _ _ _ (by omega) (by omega) (by omega), wr_day]
    · cases e
  | succ k ih =>
    intro n v hk h
    rcases val_cases h with ⟨i, rfl, h1, h2⟩ | ⟨b, rfl⟩ | ⟨t, rfl, ht⟩ | ⟨y, m, d, rfl, h1, h2, h3⟩ | ⟨j, vs, e, rfl, hl, hx⟩
    · rw [run_lw_num _ _ (by omega), wr_num]
    · rw [run_lw_tru, wr_tru]
    · rw [run_lw_txt _ _ (by omega), wr_txt]
    · rw [run_lw_day _ _ _ _ (by omega) (by omega) (by omega), wr_day]
    · cases e
      have hb2 : bnd k ≤ 10000 := by
        match k, hk with
        | 0, _ => decide
        | 1, _ => decide
        | 2, _ => decide
      rw [wr_lst, show n + (k + 1) + 2 = n + k + 2 + 1 by omega]
      exact run_lw_lst (n + k + 2) vs (wrD k) (fun v hv => ih n (by omega) (hx v hv)) (by omega) fun v hv => Nat.le_trans (wr_len k (hx v hv)) hb2
/-! ### rows: names, sections, remarks -/
def nfC (l : List Nat) : Option (List Nat) := if isNm (l.takeWhile sigC) = true then some (l.takeWhile sigC) else none
def nfR (p : Nat) : Option (List Nat) → Rs Dt
  | some w => .ok (.tup [.str w, .int ((p + w.length : Nat) : Int)])
  | none => .exc x_NoRow [] []
theorem nf_loop (n : Nat) (t : List Nat) (p0 : Nat) : ∀ (l : List Nat) (p N : Nat), t.drop p = l → l.length < N →
    exWhl (evT (Gm n) wc0_name_from) (exSs (Gm n) wb0_name_from) N [some (.d (.str t)), some (.d (.int p0)), some (.d (.int p))] [] = .ok ((.nx, [some (.d (.str t)), some (.d (.int p0)), some (.d (.int ((p + (l.takeWhile sigC).length : Nat) : Int)))]), []) := by
  intro l
  induction l with
  | nil =>
    intro p N h hN
    obtain ⟨N, rfl⟩ : ∃ M, N = M + 1 := ⟨N - 1, by omega⟩
    rw [exWhl_stop (st' := []) (by simp [wc0_name_from, cut1, h])]
    simp
  | cons c l ih =>
    intro p N h hN
    obtain ⟨N, rfl⟩ : ∃ M, N = M + 1 := ⟨N - 1, by omega⟩
    have hix := ix_at h
    have hc : evT (Gm n) wc0_name_from [some (.d (.str t)), some (.d (.int p0)), some (.d (.int p))] [] = .ok (sigC c, []) := by
      simp [wc0_name_from, cut1, h, hix, gls, sigC]
    rw [takeWhile_cons']
    cases hs : sigC c with
    | true =>
      rw [hs] at hc
      rw [exWhl_go (ρ2 := [some (.d (.str t)), some (.d (.int p0)), some (.d (.int ((p + 1 : Nat) : Int)))]) (st2 := []) hc (by simp [wb0_name_from]), ih (p + 1) N (drop_next h) (by simp at hN; omega)]
      simp
      omega
    | false =>
      rw [hs] at hc
      rw [exWhl_stop hc]
      simp
theorem run_nf' (n : Nat) (a b : Dt) : runP tab gls (n + 1) c_name_from [a, b] = (exSs (Gm n) b_name_from [some (.d a), some (.d b), none] []).bind endD := rfl
theorem run_nf (n : Nat) (t : List Nat) (p : Nat) (ht : t.length ≤ 400000) : runP tab gls (n + 2) c_name_from [.str t, .int p] = nfR p (nfC (t.drop p)) := by
  rw [run_nf']
  unfold b_name_from nfC
  rw [exSs_nx (ρ1 := [some (.d (.str t)), some (.d (.int p)), some (.d (.int p))]) (st1 := []) (by simp)]
  rw [exSs_nx ((exS_whl ..).trans (nf_loop (n + 1) t p (t.drop p) p turns rfl (by rw [List.length_drop]; unfold turns; omega)))]
  have hcut : cutL t (some (p : Int)) (some ((p + ((t.drop p).takeWhile sigC).length : Nat) : Int)) = (t.drop p).takeWhile sigC := by
    rw [cutN, show p + ((t.drop p).takeWhile sigC).length - p = ((t.drop p).takeWhile sigC).length by omega]
    exact (List.prefix_iff_eq_take.mp (List.takeWhile_prefix sigC)).symm
  generalize (t.drop p).takeWhile sigC = w at hcut ⊢
  have hsl : evE (Gm (n + 1)) (.sl (.v 0) (.yes (.v 1)) (.yes (.v 2))) [some (.d (.str t)), some (.d (.int p)), some (.d (.int ((p + w.length : Nat) : Int)))] [] = .ok (.d (.str w), []) := by
    simp only [evE_sl, evO_yes, evE_v, List.getElem?_cons_zero, List.getElem?_cons_succ, lookW_some, Rs.bind_ok, intW_i, Option.map_some, Rs.ofO_some, op1_d, sl_s, hcut]
  have hn := run_is_name n (.str w)
  have hc : evE (Gm (n + 1)) (.not (.call c_is_name (.cons (.sl (.v 0) (.yes (.v 1)) (.yes (.v 2))) .nil))) [some (.d (.str t)), some (.d (.int p)), some (.d (.int ((p + w.length : Nat) : Int)))] [] = .ok (.d (.bl (!isNm w)), []) := by
    rw [evE_not, call1_v hsl, hn]; rfl
  cases h : isNm w with
  | true =>
    rw [h] at hc
    rw [if_pos rfl, exSs_nx (exS_if_no hc rfl), exSs_rt (exS_ret_ok (w := .d (.tup [.str w, .int ((p + w.length : Nat) : Int)])) (st1 := []) (by rw [evE_tup, evEs_cons, hsl]; simp))]
    rfl
  | false =>
    rw [h] at hc
    rw [if_neg (by decide), exSs_exc ((exS_if_yes hc rfl).trans (exSs_exc (exS_rai (Γ := Gm (n + 1)) _)))]
    rfl
theorem nm_sig {w : List Nat} (h : isNm w = true) : ∀ c ∈ w, sigC c = true := by
  cases w with
  | nil => cases h
  | cons a r =>
    simp only [isNm, Bool.and_eq_true, List.all_eq_true] at h
    intro c hc
    have := h.2 c hc
    unfold okC at this
    unfold sigC
    simp only [Bool.or_eq_true, decide_eq_true_eq, s_abcdefgh_50bd, s_01234567_50ba, List.mem_cons, List.not_mem_nil, or_false] at this
    simp only [decide_eq_true_eq, s_abcdefgh_ddbe, List.mem_cons, List.not_mem_nil, or_false]
    omega
theorem nf_ok {w r : List Nat} (h : isNm w = true) (hr : stopR r) : nfC (w ++ r) = some w := by
  unfold nfC
  rw [tw_stop (nm_sig h) hr, if_pos h]
theorem nm_ne {w : List Nat} (h : isNm w = true) : ∃ c r, w = c :: r ∧ 97 ≤ c ∧ c ≤ 122 := by
  cases w with
  | nil => cases h
  | cons a r =>
    simp only [isNm, Bool.and_eq_true, decide_eq_true_eq] at h
    have := h.1.2
    simp only [s_abcdefgh_50bd, List.mem_cons, List.not_mem_nil, or_false] at this
    exact ⟨a, r, rfl, by omega, by omega⟩
theorem nm_len {w : List Nat} (h : isNm w = true) : w.length ≤ 8 := by
  cases w with
  | nil => cases h
  | cons a r =>
    simp only [isNm, Bool.and_eq_true, decide_eq_true_eq] at h
    simp
    omega
theorem call_nf (n : Nat) (t : List Nat) (p : Nat) (ht : t.length ≤ 400000) {ρ : Ev} {st : Sr} {e : Ex} (h0 : ρ[0]? = some (some (.d (.str t)))) (he : evE (Gm (n + 2)) e ρ st = .ok (.d (.int p), st)) {w : List Nat} (hw : nfC (t.drop p) = some w) :
    evE (Gm (n + 2)) (.call c_name_from (.cons (.v 0) (.cons e .nil))) ρ st = .ok (.d (.tup [.str w, .int ((p + w.length : Nat) : Int)]), st) := by
  rw [call2_v (x := .str t) (st1 := st) (by rw [evE_v, h0]; rfl) he, run_nf n t p ht, hw]; rfl
/-- a section's names -/
abbrev scE (t : List Nat) (p : Nat) (ws : List (List Nat)) (x : Option Wv) : Ev := [some (.d (.str t)), some (.d (.int p)), some (.d (.tup (ws.map Dt.str))), x]
def secR : List (List Nat) → List Nat → List Nat
  | [], r => 93 :: r
  | w :: ws, r => 46 :: (w ++ secR ws r)
def secN : List (List Nat) → Nat
  | [] => 0
  | w :: ws => w.length + 1 + secN ws
theorem sec_stop (ws : List (List Nat)) (r : List Nat) : stopR (secR ws r) := by
  intro c r' e
  cases ws <;> cases e <;> decide
theorem sec_loop (n : Nat) (t r : List Nat) (ht : t.length ≤ 400000) : ∀ (ws acc : List (List Nat)) (p N : Nat) (x : Option Wv), (∀ w ∈ ws, isNm w = true) → t.drop p = secR ws r → ws.length < N → acc.length + ws.length ≤ 1000 →
    ∃ x', exWhl (evT (Gm (n + 2)) wc0_section_from) (exSs (Gm (n + 2)) wb0_section_from) N (scE t p acc x) [] = .ok ((.nx, scE t (p + secN ws) (acc ++ ws) x'), []) := by
  intro ws
  induction ws with
  | nil =>
    intro acc p N x hw h hN ha
    obtain ⟨N, rfl⟩ : ∃ M, N = M + 1 := ⟨N - 1, by omega⟩
    refine ⟨x, ?_⟩
    rw [exWhl_stop (st' := []) (by simp [wc0_section_from, cut1, h, secR])]
    simp [secN]
  | cons w ws ih =>
    intro acc p N x hw h hN ha
    obtain ⟨N, rfl⟩ : ∃ M, N = M + 1 := ⟨N - 1, by omega⟩
    have hw1 := hw w List.mem_cons_self
    have h1 : t.drop (p + 1) = w ++ secR ws r := drop_next h
    have h2 : t.drop (p + 1 + w.length) = secR ws r := by rw [← List.drop_drop, h1, List.drop_left]
    obtain ⟨x', hx⟩ := ih (acc ++ [w]) (p + 1 + w.length) N (some (.d (.str w))) (fun v hv => hw v (List.mem_cons_of_mem _ hv)) h2 (by simp at hN; omega) (by simp at ha ⊢; omega)
    have hcl := call_nf n t (p + 1) ht (ρ := scE t p acc x) (st := []) (e := .bin .add (.v 1) (.int 1)) rfl (by simp) (by rw [h1]; exact nf_ok hw1 (sec_stop ws r))
    have hb : exSs (Gm (n + 2)) wb0_section_from (scE t p acc x) [] = .ok ((.nx, scE t (p + 1 + w.length) (acc ++ [w]) (some (.d (.str w)))), []) := by
      unfold wb0_section_from
      rw [exSs_nx (ρ1 := scE t (p + 1 + w.length) acc (some (.d (.str w)))) (st1 := []) (by rw [exS_unp, hcl]; simp)]
      have ha2 : bopD .add (.tup (acc.map Dt.str)) (.tup [.str w]) = some (.tup (acc.map Dt.str ++ [.str w])) := add_tt (by rw [lim16]; simp at ha ⊢; omega)
      simp [ha2]
    refine ⟨x', ?_⟩
    rw [exWhl_go (st' := []) (by simp [wc0_section_from, cut1, h, secR]) hb, hx, secN, List.append_assoc, show p + 1 + w.length + secN ws = p + (w.length + 1 + secN ws) by omega]
    rfl
theorem run_sec' (n : Nat) (a b : Dt) : runP tab gls (n + 1) c_section_from [a, b] = (exSs (Gm n) b_section_from [some (.d a), some (.d b), none, none] []).bind endD := rfl
theorem run_sec (n : Nat) (t r w : List Nat) (ws : List (List Nat)) (p : Nat) (ht : t.length ≤ 400000) (hw : isNm w = true) (hws : ∀ v ∈ ws, isNm v = true) (hl : ws.length ≤ 2) (h : t.drop (p + 1) = w ++ secR ws r) :
    runP tab gls (n + 3) c_section_from [.str t, .int p] = .ok (.tup [.tup ((w :: ws).map Dt.str), .int ((p + 1 + w.length + secN ws + 1 : Nat) : Int)]) := by
  rw [run_sec']
  unfold b_section_from
  have hcl := call_nf n t (p + 1) ht (ρ := [some (.d (.str t)), some (.d (.int p)), none, none]) (st := []) (e := .bin .add (.v 1) (.int 1)) rfl (by simp) (by rw [h]; exact nf_ok hw (sec_stop ws r))
  have h2 : t.drop (p + 1 + w.length) = secR ws r := by rw [← List.drop_drop, h, List.drop_left]
  obtain ⟨x', hx⟩ := sec_loop n t r ht ws [w] (p + 1 + w.length) turns (some (.d (.str w))) hws h2 (by unfold turns; omega) (by simp; omega)
  rw [exSs_nx (ρ1 := [some (.d (.str t)), some (.d (.int ((p + 1 + w.length : Nat) : Int))), none, some (.d (.str w))]) (st1 := []) (by rw [exS_unp, hcl]; simp),
    exSs_nx (ρ1 := scE t (p + 1 + w.length) [w] (some (.d (.str w)))) (st1 := []) (by simp), exSs_nx ((exS_whl ..).trans hx)]
  have h3 : ∀ (ws : List (List Nat)) (q : Nat), t.drop q = secR ws r → t.drop (q + secN ws) = 93 :: r := by
    intro ws
    induction ws with
    | nil => intro q hq; exact hq
    | cons v ws ih =>
      intro q hq
      have e1 : t.drop (q + 1) = v ++ secR ws r := drop_next hq
      have e2 : t.drop (q + 1 + v.length) = secR ws r := by rw [← List.drop_drop, e1, List.drop_left]
      rw [secN, show q + (v.length + 1 + secN ws) = q + 1 + v.length + secN ws by omega]
      exact ih _ e2
  have h4 := h3 ws _ h2
  generalize p + 1 + w.length + secN ws = m at h4 ⊢
  have hl2 : ¬ (3 : Int) < ((ws.length : Int) + 1) := by omega
  rw [exSs_nx (exS_if_no (x := .bl false) (st1 := []) (by simp [cut1, h4, ne_ss2, hl2]) rfl), exSs_rt (exS_ret_ok (w := .d (.tup [.tup ((w :: ws).map Dt.str), .int ((m + 1 : Nat) : Int)])) (st1 := []) (by simp))]
  rfl
/-! remarks behind -/
theorem run_rb' (n : Nat) (a b : Dt) : runP tab gls (n + 1) c_remark_behind [a, b] = (exSs (Gm n) b_remark_behind [some (.d a), some (.d b), none] []).bind endD := rfl
/-- the remark, if what follows is one -/
def rbC (l : List Nat) : Rs Dt := match l.drop (nbl l) with
  | [] => .ok .non
  | c :: r => if c = 35 then .ok (.str r) else .exc x_NoRow [] []
theorem run_rb (n : Nat) (t : List Nat) (p : Nat) (ht : t.length ≤ 400000) (hp : p ≤ t.length) : runP tab gls (n + 2) c_remark_behind [.str t, .int p] = rbC (t.drop p) := by
  rw [run_rb']
  unfold b_remark_behind rbC
  have hb := call_bb n t p ht (ρ := [some (.d (.str t)), some (.d (.int p)), none]) (st := []) (e := .v 1) rfl (by simp)
  have hle := nbl_le (t.drop p)
  rw [List.length_drop] at hle
  rw [exSs_nx (exS_set_ok hb), drop_add]
  generalize nbl (t.drop p) = b at hle ⊢
  show (exSs (Gm (n + 1)) _ [some (.d (.str t)), some (.d (.int p)), some (.d (.int ((p + b : Nat) : Int)))] []).bind endD = _
  generalize hm : p + b = m
  cases e : t.drop m with
  | nil =>
    have hml : m = t.length := by
      have := congrArg List.length e
      rw [List.length_drop] at this
      simp at this
      omega
    rw [exSs_rt ((exS_if_yes (x := .bl true) (st1 := []) (by simp [hml]) rfl).trans (exSs_rt (exS_ret_ok (by rw [evE_non]))))]
    rfl
  | cons c r =>
    have hml : ¬ ((m : Int) = (t.length : Int)) := by
      have := congrArg List.length e
      rw [List.length_drop, List.length_cons] at this
      omega
    have hix := ix_at e
    rw [exSs_nx (exS_if_no (x := .bl false) (st1 := []) (by simp [hml]) rfl)]
    show _ = if c = 35 then Rs.ok (Dt.str r) else Rs.exc x_NoRow [] []
    by_cases hc : c = 35
    · subst hc
      have hlo := cut_lo t (m + 1)
      rw [← List.drop_drop, e] at hlo
      rw [if_pos rfl, exSs_nx (exS_if_no (x := .bl false) (st1 := []) (by simp [hix, ne_ss2]) rfl), exSs_rt (exS_ret_ok (w := .d (.str r)) (st1 := []) (by
        simp only [evE_sl, evO_yes, evO_no, evE_bin, evE_int, evE_v, List.getElem?_cons_zero, List.getElem?_cons_succ, lookW_some, Rs.bind_ok, op2_d, add_ii, intW_i, Option.map_some, Rs.ofO_some, op1_d, sl_s]
        exact congrArg (fun z => Rs.ok (Wv.d (Dt.str z), [])) hlo))]
      rfl
    · rw [if_neg hc, exSs_exc ((exS_if_yes (x := .bl true) (st1 := []) (by simp [hix, ne_ss2, hc]) rfl).trans (exSs_exc (exS_rai (Γ := Gm (n + 1)) _)))]
      rfl
theorem pl_nil {l : List Nat} (h : l.takeWhile sigC = []) : plC l = none := by
  unfold plC
  rw [h, if_pos (by decide)]
theorem tw_no {c : Nat} (h : sigC c = false) (r : List Nat) : (c :: r).takeWhile sigC = [] := by simp [List.takeWhile, h]
theorem vf_no {c : Nat} (k : Nat) (h : sigC c = false) (h1 : c ≠ 34) (h2 : c ≠ 91) (r : List Nat) : vfC k (c :: r) = none := by
  obtain ⟨f, hf⟩ := vf_eq k (c :: r)
  rw [hf]
  unfold headC
  rw [if_neg (by simp [h1]), if_neg (by simp [h2]), pl_nil (tw_no h r)]
theorem vf_nil (k : Nat) : vfC k [] = none := by
  obtain ⟨f, hf⟩ := vf_eq k []
  rw [hf]
  unfold headC
  rw [if_neg (by simp), if_neg (by simp), pl_nil rfl]
/-! ### rows told whole: what is no row -/
def secL : Nat → List Nat → Option (List (List Nat) × List Nat)
  | 0, _ => none
  | f + 1, l => if l.take 1 = [46] then (nfC (l.drop 1)).bind fun w => (secL f (l.drop (1 + w.length))).map fun q => (w :: q.1, q.2) else some ([], l)
theorem nf_pre {l w : List Nat} (h : nfC l = some w) : ∃ r, l = w ++ r ∧ isNm w = true := by
  unfold nfC at h
  split at h
  · rename_i hn
    cases h
    exact ⟨l.dropWhile sigC, List.takeWhile_append_dropWhile.symm, hn⟩
  · cases h
theorem call_nfx (n : Nat) (t : List Nat) (p : Nat) (ht : t.length ≤ 400000) {ρ : Ev} {st : Sr} {e : Ex} (h0 : ρ[0]? = some (some (.d (.str t)))) (he : evE (Gm (n + 2)) e ρ st = .ok (.d (.int p), st)) (hw : nfC (t.drop p) = none) :
    evE (Gm (n + 2)) (.call c_name_from (.cons (.v 0) (.cons e .nil))) ρ st = .exc x_NoRow [] st := by
  rw [call2_v (x := .str t) (st1 := st) (by rw [evE_v, h0]; rfl) he, run_nf n t p ht, hw]; rfl
/-- the loop over a section's further names -/
def secW (t : List Nat) (acc : List (List Nat)) : Option (List (List Nat) × List Nat) → Rs Sx → Prop
  | none, r => r = .exc x_NoRow [] []
  | some q, r => ∃ m x, t.drop m = q.2 ∧ r = .ok ((.nx, scE t m (acc ++ q.1) x), [])
theorem sec_loopT (n : Nat) (t : List Nat) (ht : t.length ≤ 400000) : ∀ (f : Nat) (l : List Nat) (acc : List (List Nat)) (p N : Nat) (x : Option Wv), t.drop p = l → l.length < f → l.length < N → acc.length + l.length ≤ 500000 →
    secW t acc (secL f l) (exWhl (evT (Gm (n + 2)) wc0_section_from) (exSs (Gm (n + 2)) wb0_section_from) N (scE t p acc x) []) := by
  intro f
  induction f with
  | zero => intro l acc p N x _ h; omega
  | succ f ih =>
    intro l acc p N x h hf hN ha
    obtain ⟨N, rfl⟩ : ∃ M, N = M + 1 := ⟨N - 1, by omega⟩
    have hc : evT (Gm (n + 2)) wc0_section_from (scE t p acc x) [] = .ok (decide (l.take 1 = [46]), []) := by simp [wc0_section_from, cut1, h]
    unfold secL
    by_cases h46 : l.take 1 = [46]
    · rw [if_pos h46]
      rw [h46, decide_eq_true rfl] at hc
      obtain ⟨r, rfl⟩ : ∃ r, l = 46 :: r := by
        cases l with
        | nil => cases h46
        | cons c r => exact ⟨r, by simp at h46; rw [h46]⟩
      have h1 : t.drop (p + 1) = r := drop_next h
      show secW t acc ((nfC r).bind _) _
      cases e : nfC r with
      | none =>
        have hcl := call_nfx n t (p + 1) ht (ρ := scE t p acc x) (st := []) (e := .bin .add (.v 1) (.int 1)) rfl (by simp) (by rw [h1]; exact e)
        have hb : exSs (Gm (n + 2)) wb0_section_from (scE t p acc x) [] = .exc x_NoRow [] [] := by
          unfold wb0_section_from
          rw [exSs_cons, exS_unp, hcl]
          rfl
        exact exWhl_exc hc hb
      | some w =>
        obtain ⟨r2, hr, hw⟩ := nf_pre e
        have hd : r.drop w.length = r2 := by rw [hr, List.drop_left]
        have hd2 : (46 :: r).drop (1 + w.length) = r2 := by rw [Nat.add_comm]; exact hd
        have h2 : t.drop (p + 1 + w.length) = r2 := by rw [← List.drop_drop, h1, hd]
        obtain ⟨c0, w0, ew, _⟩ := nm_ne hw
        have hw1 : 1 ≤ w.length := by rw [ew]; simp
        have hrl : r.length = w.length + r2.length := by rw [hr, List.length_append]
        have hcl := call_nf n t (p + 1) ht (ρ := scE t p acc x) (st := []) (e := .bin .add (.v 1) (.int 1)) rfl (by simp) (by rw [h1]; exact e)
        simp only [List.length_cons] at hf hN ha
        have hb : exSs (Gm (n + 2)) wb0_section_from (scE t p acc x) [] = .ok ((.nx, scE t (p + 1 + w.length) (acc ++ [w]) (some (.d (.str w)))), []) := by
          unfold wb0_section_from
          rw [exSs_nx (ρ1 := scE t (p + 1 + w.length) acc (some (.d (.str w)))) (st1 := []) (by rw [exS_unp, hcl]; simp)]
          have ha2 : bopD .add (.tup (acc.map Dt.str)) (.tup [.str w]) = some (.tup (acc.map Dt.str ++ [.str w])) := add_tt (by rw [lim16]; simp at ha ⊢; omega)
          simp [ha2]
        rw [exWhl_go hc hb, Option.bind_some, hd2]
        have I := ih r2 (acc ++ [w]) (p + 1 + w.length) N (some (.d (.str w))) h2 (by omega) (by omega) (by simp; omega)
        cases e3 : secL f r2 with
        | none => rw [e3] at I; exact I
        | some q =>
          rw [e3] at I
          obtain ⟨m, x', a1, a2⟩ := I
          exact ⟨m, x', a1, by rw [a2, List.append_assoc]; rfl⟩
    · rw [if_neg h46]
      rw [decide_eq_false h46] at hc
      rw [exWhl_stop hc]
      exact ⟨p, x, h, by simp⟩
def secA (r : List Nat) : Option (List Nat) := (nfC r).bind fun w => (secL (r.length + 1) (r.drop w.length)).bind fun q => if q.2.take 1 = [93] ∧ q.1.length ≤ 2 then some (q.2.drop 1) else none
def secP (t : List Nat) : Option (List Nat) → Rs Dt → Prop
  | none, r => r = .exc x_NoRow [] []
  | some q, r => ∃ D m, r = .ok (.tup [D, .int ((m : Nat) : Int)]) ∧ t.drop m = q
theorem run_secA (n : Nat) (t : List Nat) (p : Nat) (ht : t.length ≤ 400000) : secP t (secA (t.drop (p + 1))) (runP tab gls (n + 3) c_section_from [.str t, .int p]) := by
  rw [run_sec']
  unfold b_section_from secA
  cases e : nfC (t.drop (p + 1)) with
  | none =>
    have hcl := call_nfx n t (p + 1) ht (ρ := [some (.d (.str t)), some (.d (.int p)), none, none]) (st := []) (e := .bin .add (.v 1) (.int 1)) rfl (by simp) e
    rw [exSs_exc (by rw [exS_unp, hcl]; rfl)]
    rfl
  | some w =>
    have hcl := call_nf n t (p + 1) ht (ρ := [some (.d (.str t)), some (.d (.int p)), none, none]) (st := []) (e := .bin .add (.v 1) (.int 1)) rfl (by simp) e
    have hl : ((t.drop (p + 1)).drop w.length).length ≤ (t.drop (p + 1)).length := by rw [List.length_drop]; omega
    have hl2 : (t.drop (p + 1)).length ≤ t.length := by rw [List.length_drop]; omega
    have L := sec_loopT n t ht ((t.drop (p + 1)).length + 1) ((t.drop (p + 1)).drop w.length) [w] (p + 1 + w.length) turns (some (.d (.str w))) (by rw [List.drop_drop]) (by omega) (by unfold turns; omega) (by simp only [List.length_cons, List.length_nil]; omega)
    rw [exSs_nx (ρ1 := [some (.d (.str t)), some (.d (.int ((p + 1 + w.length : Nat) : Int))), none, some (.d (.str w))]) (st1 := []) (by rw [exS_unp, hcl]; simp),
      exSs_nx (ρ1 := scE t (p + 1 + w.length) [w] (some (.d (.str w)))) (st1 := []) (by simp)]
    rw [Option.bind_some]
    cases e2 : secL ((t.drop (p + 1)).length + 1) ((t.drop (p + 1)).drop w.length) with
    | none =>
      rw [e2] at L
      rw [exSs_exc ((exS_whl ..).trans L)]
      rfl
    | some q =>
      rw [e2] at L
      obtain ⟨ws, l⟩ := q
      obtain ⟨m, x, a1, a2⟩ := L
      simp only at a1 a2
      rw [exSs_nx ((exS_whl ..).trans a2), Option.bind_some]
      have hcs : evE (Gm (n + 2)) (.sl (.v 0) (.yes (.v 1)) (.yes (.bin .add (.v 1) (.int 1)))) (scE t m ([w] ++ ws) x) [] = .ok (.d (.str (l.take 1)), []) := by
        have c1 := cut1 t m
        rw [a1] at c1
        simp [c1]
      have hlen : evE (Gm (n + 2)) (.cmp .gt (.p1 .len (.v 2)) (.int 3)) (scE t m ([w] ++ ws) x) [] = .ok (.d (.bl (decide ((3 : Int) < (ws.length : Int) + 1))), []) := by simp
      have hne : evE (Gm (n + 2)) (.cmp .ne (.sl (.v 0) (.yes (.v 1)) (.yes (.bin .add (.v 1) (.int 1)))) (.str [93])) (scE t m ([w] ++ ws) x) [] = .ok (.d (.bl (!decide (l.take 1 = [93]))), []) := evE_cmp_ok hcs (evE_str _) (by rw [ne_ss2])
      by_cases h93 : l.take 1 = [93]
      · rw [decide_eq_true h93] at hne
        have hor : evE (Gm (n + 2)) (.or (.cons (.cmp .ne (.sl (.v 0) (.yes (.v 1)) (.yes (.bin .add (.v 1) (.int 1)))) (.str [93])) (.cons (.cmp .gt (.p1 .len (.v 2)) (.int 3)) .nil))) (scE t m ([w] ++ ws) x) [] = .ok (.d (.bl (decide ((3 : Int) < (ws.length : Int) + 1))), []) := by
          rw [evE_or, evOr2, hne]
          show evOr _ _ _ _ = _
          rw [evOr1, hlen]
        by_cases h2 : ws.length ≤ 2
        · rw [if_pos ⟨h93, h2⟩]
          rw [decide_eq_false (by omega)] at hor
          rw [exSs_nx (exS_if_no hor rfl), exSs_rt (exS_ret_ok (w := .d (.tup [.tup (([w] ++ ws).map Dt.str), .int ((m + 1 : Nat) : Int)])) (st1 := []) (by simp))]
          exact ⟨_, m + 1, rfl, by rw [← List.drop_drop, a1]⟩
        · rw [if_neg (fun z => h2 z.2)]
          rw [decide_eq_true (by omega)] at hor
          rw [exSs_exc ((exS_if_yes hor rfl).trans (exSs_exc (exS_rai (Γ := Gm (n + 2)) _)))]
          rfl
      · rw [decide_eq_false h93] at hne
        rw [if_neg (fun z => h93 z.1)]
        have hor : evE (Gm (n + 2)) (.or (.cons (.cmp .ne (.sl (.v 0) (.yes (.v 1)) (.yes (.bin .add (.v 1) (.int 1)))) (.str [93])) (.cons (.cmp .gt (.p1 .len (.v 2)) (.int 3)) .nil))) (scE t m ([w] ++ ws) x) [] = .ok (.d (.bl true), []) := by
          rw [evE_or, evOr2, hne]
          rfl
        rw [exSs_exc ((exS_if_yes hor rfl).trans (exSs_exc (exS_rai (Γ := Gm (n + 2)) _)))]
        rfl
/-! settings told whole -/
def setD (l : List Nat) : Option (List Nat) := (wvC (l.drop (nbl l))).map fun q => (l.drop (nbl l)).drop q.2
def setB (l : List Nat) : Option (List Nat) := if (l.drop (nbl l)).take 1 = [61] then setD (l.drop (nbl l + 1)) else none
def setA (l : List Nat) : Option (List Nat) := (nfC l).bind fun w => setB (l.drop w.length)
def setP (t : List Nat) : Option (List Nat) → Rs Dt → Prop
  | none, r => r = .exc x_NoRow [] []
  | some q, r => ∃ D v b m, r = .ok (.tup [D, v, b, .int ((m : Nat) : Int)]) ∧ t.drop m = q
theorem run_set' (n : Nat) (a b : Dt) : runP tab gls (n + 1) c_setting_from [a, b] = (exSs (Gm n) b_setting_from [some (.d a), some (.d b), none, none, none, none] []).bind endD := rfl
theorem run_setA (n : Nat) (t : List Nat) (p : Nat) (ht : t.length ≤ 400000) : setP t (setA (t.drop p)) (runP tab gls (n + 11) c_setting_from [.str t, .int p]) := by
  rw [run_set']
  unfold b_setting_from setA
  cases e : nfC (t.drop p) with
  | none =>
    have hcl := call_nfx (n + 8) t p ht (ρ := [some (.d (.str t)), some (.d (.int p)), none, none, none, none]) (st := []) (e := .v 1) rfl (by simp) e
    rw [exSs_exc (by rw [exS_unp, hcl]; rfl)]
    rfl
  | some w =>
    have hcl := call_nf (n + 8) t p ht (ρ := [some (.d (.str t)), some (.d (.int p)), none, none, none, none]) (st := []) (e := .v 1) rfl (by simp) e
    rw [Option.bind_some, List.drop_drop]
    rw [exSs_nx (ρ1 := [some (.d (.str t)), some (.d (.int ((p + w.length : Nat) : Int))), none, some (.d (.str w)), none, none]) (st1 := []) (by rw [exS_unp, hcl]; simp)]
    generalize p + w.length = m
    have hb1 := call_bb (n + 9) t m ht (ρ := [some (.d (.str t)), some (.d (.int (m : Int))), none, some (.d (.str w)), none, none]) (st := []) (e := .v 1) rfl (by simp)
    rw [exSs_nx (exS_set_ok hb1)]
    unfold setB
    rw [List.drop_drop, List.drop_drop]
    generalize nbl (t.drop m) = b1
    rw [show m + (b1 + 1) = m + b1 + 1 by omega]
    generalize m + b1 = m1
    show setP t _ ((exSs (Gm (n + 10)) _ [some (.d (.str t)), some (.d (.int (m1 : Int))), none, some (.d (.str w)), none, none] []).bind endD)
    have c1 := cut1 t m1
    have hne : evE (Gm (n + 10)) (.cmp .ne (.sl (.v 0) (.yes (.v 1)) (.yes (.bin .add (.v 1) (.int 1)))) (.str [61])) [some (.d (.str t)), some (.d (.int (m1 : Int))), none, some (.d (.str w)), none, none] [] = .ok (.d (.bl (!decide ((t.drop m1).take 1 = [61]))), []) := evE_cmp_ok (x := .str ((t.drop m1).take 1)) (st1 := []) (by simp [c1]) (evE_str _) (by rw [ne_ss2])
    by_cases h61 : (t.drop m1).take 1 = [61]
    · rw [if_pos h61]
      rw [decide_eq_true h61] at hne
      have hb2 := call_bb (n + 9) t (m1 + 1) ht (ρ := [some (.d (.str t)), some (.d (.int (m1 : Int))), none, some (.d (.str w)), none, none]) (st := []) (e := .bin .add (.v 1) (.int 1)) rfl (by simp)
      unfold setD
      rw [exSs_nx (exS_if_no hne rfl), exSs_nx (exS_set_ok hb2), List.drop_drop]
      generalize m1 + 1 + nbl (t.drop (m1 + 1)) = m2
      show setP t _ ((exSs (Gm (n + 10)) _ [some (.d (.str t)), some (.d (.int (m1 : Int))), some (.d (.int (m2 : Int))), some (.d (.str w)), none, none] []).bind endD)
      have hwv := run_wvf n t m2 ht
      cases ew : wvC (t.drop m2) with
      | none =>
        rw [ew] at hwv
        have hcv : evE (Gm (n + 10)) (.call c_whole_value_from (.cons (.v 0) (.cons (.v 2) .nil))) [some (.d (.str t)), some (.d (.int (m1 : Int))), some (.d (.int (m2 : Int))), some (.d (.str w)), none, none] [] = .exc x_NoValue [] [] := by
          rw [call2_v (x := .str t) (y := .int (m2 : Int)) (st1 := []) (st2 := []) (by simp) (by simp), hwv]; rfl
        rw [exSs_exc (c := x_NoRow) (fs := []) (st1 := []) (by rw [exS_tryR, exSs_exc (by rw [exS_unp, hcv]; rfl)]; rfl)]
        rfl
      | some q =>
        obtain ⟨v, k⟩ := q
        rw [ew] at hwv
        have hcv : evE (Gm (n + 10)) (.call c_whole_value_from (.cons (.v 0) (.cons (.v 2) .nil))) [some (.d (.str t)), some (.d (.int (m1 : Int))), some (.d (.int (m2 : Int))), some (.d (.str w)), none, none] [] = .ok (.d (.tup [v, .int ((m2 + k : Nat) : Int)]), []) := by
          rw [call2_v (x := .str t) (y := .int (m2 : Int)) (st1 := []) (st2 := []) (by simp) (by simp), hwv]; rfl
        rw [exSs_nx (ρ1 := [some (.d (.str t)), some (.d (.int (m1 : Int))), some (.d (.int (m2 : Int))), some (.d (.str w)), some (.d v), some (.d (.int ((m2 + k : Nat) : Int)))]) (st1 := []) (by
          rw [exS_tryR, exSs_nx (ρ1 := [some (.d (.str t)), some (.d (.int (m1 : Int))), some (.d (.int (m2 : Int))), some (.d (.str w)), some (.d v), some (.d (.int ((m2 + k : Nat) : Int)))]) (st1 := []) (by rw [exS_unp, hcv]; simp), exSs_nil]
          rfl)]
        rw [exSs_rt (exS_ret_ok (w := .d (.tup [.str w, v, .int (m2 : Int), .int ((m2 + k : Nat) : Int)])) (st1 := []) (by simp))]
        exact ⟨_, _, _, m2 + k, rfl, by show t.drop (m2 + k) = (t.drop m2).drop k; rw [List.drop_drop]⟩
    · rw [if_neg h61]
      rw [decide_eq_false h61] at hne
      rw [exSs_exc ((exS_if_yes hne rfl).trans (exSs_exc (exS_rai (Γ := Gm (n + 10)) _)))]
      rfl
/-! whole rows that are none -/
def rbX (l : List Nat) : Prop := rbC l = .exc x_NoRow [] []
def PoBad (t : List Nat) : Prop := ∃ c r, t.drop (nbl t) = c :: r ∧ c ≠ 35 ∧ ((c = 91 ∧ ∀ q, secA r = some q → rbX q) ∨ (c ≠ 91 ∧ ∀ q, setA (c :: r) = some q → rbX q))
theorem run_po' (n : Nat) (a : Dt) : runP tab gls (n + 1) c_parts_of [a] = (exSs (Gm n) b_parts_of [some (.d a), none, none, none, none, none, none] []).bind endD := rfl
abbrev poE (t : List Nat) (p : Nat) (x2 x3 x4 x5 x6 : Option Wv) : Ev := [some (.d (.str t)), some (.d (.int p)), x2, x3, x4, x5, x6]
theorem po_start (n : Nat) (t : List Nat) (ht : t.length ≤ 400000) : evE (Gm (n + 1)) (.call c_behind_blanks (.cons (.v 0) (.cons (.int 0) .nil))) [some (.d (.str t)), none, none, none, none, none, none] [] = .ok (.d (.int (nbl t : Int)), []) := by
  have := call_bb n t 0 ht (ρ := [some (.d (.str t)), none, none, none, none, none, none]) (st := []) (e := .int 0) rfl (by rw [evE_int]; rfl)
  rwa [Nat.zero_add, List.drop_zero] at this
theorem rbX_ne {t : List Nat} {m : Nat} (h : rbX (t.drop m)) : m ≤ t.length := by
  apply Classical.byContradiction
  intro z
  rw [List.drop_eq_nil_of_le (by omega)] at h
  unfold rbX rbC at h
  simp [nbl] at h
theorem run_po_bad (n : Nat) {t : List Nat} (ht : t.length ≤ 400000) (h : PoBad t) : runP tab gls (n + 12) c_parts_of [.str t] = .exc x_NoRow [] [] := by
  obtain ⟨c, r, h1, h2, h3⟩ := h
  have hs := po_start (n + 10) t ht
  generalize nbl t = a at h1 hs
  have hix := ix_at h1
  have hlt : ¬ ((a : Int) = (t.length : Int)) := by
    intro z
    rw [List.drop_eq_nil_of_le (by omega)] at h1
    cases h1
  rw [run_po']
  unfold b_parts_of
  rw [exSs_nx (exS_set_ok hs)]
  show (exSs (Gm (n + 11)) _ (poE t a none none none none none) []).bind endD = _
  rw [exSs_nx (exS_if_no (x := .bl false) (st1 := []) (by simp [hlt]) rfl), exSs_nx (exS_if_no (x := .bl false) (st1 := []) (by simp [hix, h2]) rfl)]
  have rb : ∀ m : Nat, rbX (t.drop m) → ∀ x2 x3 x4 x6, evE (Gm (n + 11)) (.call c_remark_behind (.cons (.v 0) (.cons (.v 5) .nil))) (poE t a x2 x3 x4 (some (.d (.int (m : Int)))) x6) [] = .exc x_NoRow [] [] := fun m hm x2 x3 x4 x6 => by
    have := run_rb (n + 9) t m ht (rbX_ne hm)
    rw [hm] at this
    rw [call2_v (x := .str t) (y := .int (m : Int)) (st1 := []) (st2 := []) (by simp) (by simp), this]; rfl
  rcases h3 with ⟨rfl, h3⟩ | ⟨h91, h3⟩
  · rw [exSs_exc (c := x_NoRow) (fs := []) (st1 := [])]
    · rfl
    rw [exS_if_yes (x := .bl true) (st1 := []) (by simp [hix]) rfl]
    have S := run_secA (n + 8) t a ht
    rw [drop_next h1] at S
    cases e : secA r with
    | none =>
      rw [e] at S
      rw [exSs_exc (by rw [exS_unp, call2_v (x := .str t) (y := .int (a : Int)) (st1 := []) (st2 := []) (by simp) (by simp), S]; rfl)]
    | some q =>
      rw [e] at S
      obtain ⟨D, m, s1, s2⟩ := S
      have hr := rb m (by rw [s2]; exact h3 q e)
      rw [exSs_nx (ρ1 := poE t a none none none (some (.d (.int (m : Int)))) (some (.d D))) (st1 := []) (by rw [exS_unp, call2_v (x := .str t) (y := .int (a : Int)) (st1 := []) (st2 := []) (by simp) (by simp), s1]; rfl)]
      rw [exSs_exc]
      rw [exS_ret, evE_tup, evEs_cons, evE_tup]
      simp only [evEs_cons, evEs_nil, evE_str, evE_v, List.getElem?_cons_zero, List.getElem?_cons_succ, lookW_some, Rs.bind_ok, mkTup2, hr]
      rfl
  · rw [exSs_nx (exS_if_no (x := .bl false) (st1 := []) (by simp [hix, h91]) rfl)]
    have S := run_setA n t a ht
    rw [h1] at S
    cases e : setA (c :: r) with
    | none =>
      rw [e] at S
      rw [exSs_exc (by rw [exS_unp, call2_v (x := .str t) (y := .int (a : Int)) (st1 := []) (st2 := []) (by simp) (by simp), S]; rfl)]
      rfl
    | some q =>
      rw [e] at S
      obtain ⟨D, v, b, m, s1, s2⟩ := S
      have hr := rb m (by rw [s2]; exact h3 q e)
      rw [exSs_nx (ρ1 := poE t a (some (.d D)) (some (.d v)) (some (.d b)) (some (.d (.int (m : Int)))) none) (st1 := []) (by rw [exS_unp, call2_v (x := .str t) (y := .int (a : Int)) (st1 := []) (st2 := []) (by simp) (by simp), s1]; rfl)]
      rw [exSs_exc (c := x_NoRow) (fs := []) (st1 := [])]
      · rfl
      rw [exS_ret, evE_tup, evEs_cons, evE_tup]
      simp only [evEs_cons, evEs_nil, evE_str, evE_v, List.getElem?_cons_zero, List.getElem?_cons_succ, lookW_some, Rs.bind_ok, mkTup3, hr]
      rfl
/-! ### spoilt rows -/
theorem bad_sec {r : List Nat} (h : ∀ q, secA r = some q → rbX q) : PoBad (91 :: r) := ⟨91, r, by simp [nbl], by decide, .inl ⟨rfl, h⟩⟩
theorem bad_set {c : Nat} {r : List Nat} (h0 : c ≠ 32) (h1 : c ≠ 35) (h2 : c ≠ 91) (h : ∀ q, setA (c :: r) = some q → rbX q) : PoBad (c :: r) := ⟨c, r, by simp [nbl, h0], h1, .inr ⟨h2, h⟩⟩
theorem bad_ww {w r : List Nat} (hw : isNm w = true) (h : ∀ q, setA (w ++ r) = some q → rbX q) : PoBad (w ++ r) := by
  obtain ⟨c, w', e, h1, h2⟩ := nm_ne hw
  subst e
  exact bad_set (by omega) (by omega) (by omega) h
theorem none_x {o : Option (List Nat)} (h : o = none) : ∀ q, o = some q → rbX q := fun q e => by rw [h] at e; cases e
theorem some_x {o : Option (List Nat)} {r : List Nat} (h : o = some r) (hr : rbX r) : ∀ q, o = some q → rbX q := fun q e => by rw [h] at e; cases e; exact hr
theorem nf_no {c : Nat} (h : sigC c = false) (r : List Nat) : nfC (c :: r) = none := by
  unfold nfC
  rw [takeWhile_cons', h]
  rfl
theorem nf_nil : nfC [] = none := rfl
theorem secA_no {r : List Nat} (h : nfC r = none) : secA r = none := by unfold secA; rw [h]; rfl
theorem setA_no {r : List Nat} (h : nfC r = none) : setA r = none := by unfold setA; rw [h]; rfl
theorem secA_w {w r : List Nat} (hw : isNm w = true) (hr : stopR r) (h : r.take 1 ≠ [46]) : secA (w ++ r) = if r.take 1 = [93] then some (r.drop 1) else none := by
  unfold secA
  rw [nf_ok hw hr, Option.bind_some, List.drop_left]
  unfold secL
  rw [if_neg h, Option.bind_some]
  simp
theorem stop46 (r : List Nat) : stopR (46 :: r) := by intro c r' e; cases e; decide
theorem secA_dot {w r : List Nat} (hw : isNm w = true) (h : nfC r = none) : secA (w ++ 46 :: r) = none := by
  unfold secA
  rw [nf_ok hw (stop46 r), Option.bind_some, List.drop_left]
  unfold secL
  rw [if_pos (by rfl)]
  show ((nfC r).bind _).bind _ = _
  rw [h]
  rfl
theorem secL_go {f : Nat} {w r : List Nat} (hw : isNm w = true) (hr : stopR r) : secL (f + 1) (46 :: (w ++ r)) = (secL f r).map fun q => (w :: q.1, q.2) := by
  rw [secL, if_pos (by rfl)]
  show (nfC (w ++ r)).bind _ = _
  rw [nf_ok hw hr, Option.bind_some, show (46 :: (w ++ r)).drop (1 + w.length) = r by rw [Nat.add_comm]; exact List.drop_left]
theorem secA_4 {w : List Nat} (hw : isNm w = true) : secA (w ++ 46 :: (w ++ 46 :: (w ++ 46 :: (w ++ [93])))) = none := by
  unfold secA
  have st : stopR [93] := by intro c r' e; cases e; decide
  rw [nf_ok hw (stop46 _), Option.bind_some, List.drop_left]
  obtain ⟨f, hf⟩ : ∃ f, (w ++ 46 :: (w ++ 46 :: (w ++ 46 :: (w ++ [93])))).length + 1 = f + 1 + 1 + 1 + 1 := ⟨(w ++ 46 :: (w ++ 46 :: (w ++ 46 :: (w ++ [93])))).length - 3, by simp; omega⟩
  rw [hf, secL_go hw (stop46 _), secL_go hw (stop46 _), secL_go hw st, secL, if_neg (by decide)]
  rfl
theorem setA_w {w r : List Nat} (hw : isNm w = true) (hr : stopR r) : setA (w ++ r) = setB r := by
  unfold setA
  rw [nf_ok hw hr, Option.bind_some, List.drop_left]
theorem setB_no {r : List Nat} (h : (r.drop (nbl r)).take 1 ≠ [61]) : setB r = none := if_neg h
theorem setB_eq (r : List Nat) : setB (32 :: 61 :: r) = setD r := if_pos rfl
theorem setD_no {r : List Nat} (h : vfC 3 (r.drop (nbl r)) = none) : setD r = none := by unfold setD wvC; rw [h]; rfl
theorem setD_val {v : Dt} {s r : List Nat} (hv : isValD 3 v = true) (hs : Ls v s) (hr : stopR r) : setD (32 :: (s ++ r)) = some r := by
  obtain ⟨c, s', es, hc1, _, _⟩ := hs.head
  have hn : nbl (32 :: (s ++ r)) = 1 := by rw [es]; simp [nbl, hc1]
  unfold setD wvC
  rw [hn]
  show ((vfC 3 (s ++ r)).bind _).map _ = _
  rw [vf_ls 3 hv hs r hr, Option.bind_some, if_pos hv]
  show some ((s ++ r).drop s.length) = _
  rw [List.drop_left]
theorem rbX_no {c : Nat} {r : List Nat} (h0 : c ≠ 32) (h1 : c ≠ 35) : rbX (c :: r) := by
  unfold rbX rbC
  simp [nbl, h0, h1]
theorem rbX_b {c : Nat} {r : List Nat} (h0 : c ≠ 32) (h1 : c ≠ 35) : rbX (32 :: c :: r) := by
  unfold rbX rbC
  simp [nbl, h0, h1]
theorem stop32 (r : List Nat) : stopR (32 :: r) := by intro c r' e; cases e; decide
theorem stop93 (r : List Nat) : stopR (93 :: r) := by intro c r' e; cases e; decide
/-- a value's first sign -/
theorem Ls.head2 {v : Dt} {s : List Nat} (hv : isValD 3 v = true) (hs : Ls v s) : ∃ c s', s = c :: s' ∧ c ≠ 32 ∧ c ≠ 35 ∧ c ≠ 61 := by
  obtain ⟨c, s', es, hc1, hc2, hc3⟩ := hs.head
  refine ⟨c, s', es, hc1, ?_, ?_⟩
  · rintro rfl
    have := vf_ls 3 hv hs [] (by intro c r' e; cases e)
    rw [List.append_nil, es, vf_no 3 (by decide) (by decide) (by decide)] at this
    cases this
  · rintro rfl
    have := vf_ls 3 hv hs [] (by intro c r' e; cases e)
    rw [List.append_nil, es, vf_no 3 (by decide) (by decide) (by decide)] at this
    cases this
def Bads (W : List (List Nat)) : Prop := ∀ t ∈ W, PoBad t ∧ t.length ≤ 390000
theorem Bads.app {a b : List (List Nat)} (h1 : Bads a) (h2 : Bads b) : Bads (a ++ b) := fun t ht => by
  rcases List.mem_append.mp ht with h | h
  · exact h1 t h
  · exact h2 t h
theorem Bads.nil : Bads [] := fun t h => by cases h
theorem Bads.cons {t : List Nat} {W : List (List Nat)} (h : PoBad t) (hl : t.length ≤ 390000) (hW : Bads W) : Bads (t :: W) := fun u hu => by
  rcases List.mem_cons.mp hu with rfl | hu
  · exact ⟨h, hl⟩
  · exact hW u hu
section
variable {w s : List Nat} {v : Dt} (hw : isNm w = true) (hv : isValD 3 v = true) (hs : Ls v s) (hl : s.length ≤ 30000)
include hw hv hs hl
theorem badA : Bads [w, w ++ [32] ++ s, [61, 32] ++ s, w ++ [32, 61], w ++ s__5331 ++ s, w ++ s__6e97 ++ s] := by
  have wl := nm_len hw
  obtain ⟨c, s', es, h0, h35, h61⟩ := hs.head2 hv
  refine Bads.cons ?_ (by omega) (Bads.cons ?_ (by simp; omega) (Bads.cons ?_ (by simp; omega) (Bads.cons ?_ (by simp; omega) (Bads.cons ?_ (by simp [s__5331]; omega) (Bads.cons ?_ (by simp [s__6e97]; omega) Bads.nil)))))
  · have := bad_ww (r := []) hw (none_x (by rw [setA_w hw (by intro c r' e; cases e), setB_no (by simp [nbl])]))
    rwa [List.append_nil] at this
  · rw [List.append_assoc]
    exact bad_ww hw (none_x ((setA_w hw (stop32 _)).trans (setB_no (by rw [es]; simp [nbl, h0, h61]))))
  · exact bad_set (by decide) (by decide) (by decide) (none_x (setA_no (nf_no (by decide) _)))
  · exact bad_ww hw (none_x ((setA_w hw (stop32 _)).trans ((setB_eq _).trans (setD_no (r := []) (vf_nil 3)))))
  · rw [List.append_assoc]
    exact bad_ww hw (none_x ((setA_w hw (stop32 _)).trans ((setB_eq _).trans (setD_no (vf_no 3 (c := 35) (by decide) (by decide) (by decide) _)))))
  · rw [List.append_assoc]
    exact bad_ww hw (none_x ((setA_w hw (stop32 _)).trans ((setB_eq _).trans (setD_no (vf_no 3 (c := 61) (by decide) (by decide) (by decide) _)))))
theorem badC : Bads [w ++ [32, 61, 32] ++ s ++ [32] ++ s, w ++ [32, 61, 32] ++ s ++ [93], w ++ [46] ++ w ++ s_1_2279] := by
  have wl := nm_len hw
  obtain ⟨c, s', es, h0, h35, h61⟩ := hs.head2 hv
  refine Bads.cons ?_ (by simp; omega) (Bads.cons ?_ (by simp; omega) (Bads.cons ?_ (by simp [s_1_2279]; omega) Bads.nil))
  · have e : w ++ [32, 61, 32] ++ s ++ [32] ++ s = w ++ (32 :: 61 :: 32 :: (s ++ 32 :: s)) := by simp
    rw [e]
    exact bad_ww hw (some_x (r := 32 :: s) ((setA_w hw (stop32 _)).trans ((setB_eq _).trans (setD_val hv hs (stop32 _)))) (by rw [es]; exact rbX_b h0 h35))
  · have e : w ++ [32, 61, 32] ++ s ++ [93] = w ++ (32 :: 61 :: 32 :: (s ++ [93])) := by simp
    rw [e]
    exact bad_ww hw (some_x (r := [93]) ((setA_w hw (stop32 _)).trans ((setB_eq _).trans (setD_val hv hs (stop93 _)))) (rbX_no (by decide) (by decide)))
  · have e : w ++ [46] ++ w ++ s_1_2279 = w ++ (46 :: (w ++ s_1_2279)) := by simp
    rw [e]
    exact bad_ww hw (none_x ((setA_w hw (stop46 _)).trans (setB_no (by simp [nbl]))))
omit hv hs hl
theorem badB : Bads [[34] ++ w ++ s_1_761c] := by
  have wl := nm_len hw
  exact Bads.cons (bad_set (by decide) (by decide) (by decide) (none_x (setA_no (nf_no (by decide) _)))) (by simp [s_1_761c]; omega) Bads.nil
theorem badD : Bads [[65] ++ w ++ s_1_2279, [49] ++ w.take 7 ++ s_1_2279] := by
  have wl := nm_len hw
  refine Bads.cons (bad_set (by decide) (by decide) (by decide) (none_x (setA_no (nf_no (by decide) _)))) (by simp [s_1_2279]; omega) (Bads.cons ?_ (by simp [s_1_2279]; omega) Bads.nil)
  refine bad_set (by decide) (by decide) (by decide) (none_x (setA_no ?_))
  have hn : ((49 :: (w.take 7)) ++ s_1_2279).takeWhile sigC = 49 :: w.take 7 := tw_stop (by
    intro c hc
    rcases List.mem_cons.mp hc with rfl | hc
    · decide
    · exact nm_sig hw c (List.mem_of_mem_take hc)) (stop32 _)
  show nfC ((49 :: (w.take 7)) ++ s_1_2279) = none
  unfold nfC
  rw [hn, if_neg]
  simp only [isNm, Bool.and_eq_true, decide_eq_true_eq]
  intro z
  exact absurd z.1.2 (by decide)
theorem badE : Bads [(List.replicate 9 w).flatten.take 9 ++ s_1_2279, w ++ [32] ++ w ++ s_1_2279] := by
  have wl := nm_len hw
  obtain ⟨c, w', e, h1, h2⟩ := nm_ne hw
  refine Bads.cons ?_ (by simp [s_1_2279]; omega) (Bads.cons ?_ (by simp [s_1_2279]; omega) Bads.nil)
  · have hx : (List.replicate 9 w).flatten.take 9 = c :: ((List.replicate 9 w).flatten.take 9).tail := by rw [e]; rfl
    have hlen : ((List.replicate 9 w).flatten.take 9).length = 9 := by
      rw [List.length_take, List.length_flatten]
      simp
      have : 1 ≤ w.length := by rw [e]; simp
      omega
    have hall : ∀ d ∈ (List.replicate 9 w).flatten.take 9, sigC d = true := fun d hd => by
      obtain ⟨l, hl, hd⟩ := List.mem_flatten.mp (List.mem_of_mem_take hd)
      rw [(List.mem_replicate.mp hl).2] at hd
      exact nm_sig hw d hd
    have hn : nfC ((List.replicate 9 w).flatten.take 9 ++ s_1_2279) = none := by
      unfold nfC
      rw [tw_stop (r := s_1_2279) hall (stop32 _), if_neg]
      intro z
      have := nm_len z
      omega
    rw [hx] at hn ⊢
    exact bad_set (by omega) (by omega) (by omega) (none_x (setA_no hn))
  · have e2 : w ++ [32] ++ w ++ s_1_2279 = w ++ (32 :: (w ++ s_1_2279)) := by simp
    rw [e2]
    refine bad_ww hw (none_x ((setA_w hw (stop32 _)).trans (setB_no ?_)))
    have h32 : ¬ c = 32 := by omega
    have h61 : ¬ c = 61 := by omega
    rw [e]
    simp [nbl, h32, h61]
theorem badF : Bads [[91] ++ w, w ++ [93], [91] ++ w ++ [93, 93]] := by
  have wl := nm_len hw
  refine Bads.cons ?_ (by simp; omega) (Bads.cons ?_ (by simp; omega) (Bads.cons ?_ (by simp; omega) Bads.nil))
  · have := secA_w (r := []) hw (by intro c r' e; cases e) (by simp)
    rw [List.append_nil] at this
    exact bad_sec (none_x (this.trans (if_neg (by simp))))
  · exact bad_ww hw (none_x ((setA_w hw (stop93 _)).trans (setB_no (by simp [nbl]))))
  · exact bad_sec (some_x ((secA_w hw (stop93 _) (by simp)).trans (if_pos rfl)) (rbX_no (by decide) (by decide)))
theorem badG : Bads [[91, 91] ++ w ++ [93, 93], [91] ++ w ++ [46, 93], [91, 46] ++ w ++ [93]] := by
  have wl := nm_len hw
  exact Bads.cons (bad_sec (none_x (secA_no (nf_no (by decide) _)))) (by simp; omega) (Bads.cons (bad_sec (none_x (secA_dot hw (nf_no (by decide) _)))) (by simp; omega) (Bads.cons (bad_sec (none_x (secA_no (nf_no (by decide) _)))) (by simp; omega) Bads.nil))
theorem badH : Bads [[91] ++ w ++ [93, 32] ++ w, [91, 32] ++ w ++ [93]] := by
  have wl := nm_len hw
  obtain ⟨c, w', e, h1, h2⟩ := nm_ne hw
  refine Bads.cons ?_ (by simp; omega) (Bads.cons (bad_sec (none_x (secA_no (nf_no (by decide) _)))) (by simp; omega) Bads.nil)
  have e2 : [91] ++ w ++ [93, 32] ++ w = 91 :: (w ++ (93 :: 32 :: w)) := by simp
  rw [e2]
  exact bad_sec (some_x (r := 32 :: w) ((secA_w hw (stop93 _) (by simp)).trans (if_pos rfl)) (by rw [e]; exact rbX_b (by omega) (by omega)))
theorem badI : Bads [[91] ++ w ++ [32, 93], [91] ++ joinL [46] (List.replicate 4 w) ++ [93]] := by
  have wl := nm_len hw
  have e : [91] ++ joinL [46] (List.replicate 4 w) ++ [93] = 91 :: (w ++ 46 :: (w ++ 46 :: (w ++ 46 :: (w ++ [93])))) := by simp [List.replicate, joinL]
  rw [e]
  exact Bads.cons (bad_sec (none_x ((secA_w hw (stop32 _) (by simp)).trans (if_neg (by simp))))) (by simp; omega) (Bads.cons (bad_sec (none_x (secA_4 hw))) (by simp; omega) Bads.nil)
theorem badJ : Bads [[91] ++ w ++ s_a_1b54, [91] ++ w ++ s_a_365e, [91, 65, 93], [91, 93], [91] ++ w ++ s_1_0102, [91] ++ w ++ [44, 97, 93]] := by
  have wl := nm_len hw
  refine Bads.cons (bad_sec (none_x (secA_dot hw (nf_no (by decide) _)))) (by simp [s_a_1b54]; omega) (Bads.cons (bad_sec (none_x (secA_dot hw (nf_no (by decide) _)))) (by simp [s_a_365e]; omega)
    (Bads.cons (bad_sec (none_x (secA_no (nf_no (by decide) _)))) (by simp) (Bads.cons (bad_sec (none_x (secA_no (nf_no (by decide) _)))) (by simp)
    (Bads.cons (bad_sec (some_x (r := [32, 61, 32, 49]) ((secA_w hw (stop93 _) (by simp)).trans (if_pos rfl)) (rbX_b (by decide) (by decide)))) (by simp [s_1_0102]; omega)
    (Bads.cons (bad_sec (none_x ((secA_w hw (by intro c r' e; cases e; decide) (by simp)).trans (if_neg (by simp))))) (by simp; omega) Bads.nil)))))
end
/-! ### the law's spoilt rows, as they are made -/
abbrev spE (c : Int) (w s : List Nat) (k : Nat) : Ev := [some (.d (.int c)), some (.d (.str w)), some (.d (.str s)), some (.ob k)]
theorem catS {Γ : Gam} {ρ : Ev} {st : Sr} {a b : Ex} {s t : List Nat} (h1 : evE Γ a ρ st = .ok (.d (.str s), st)) (h2 : evE Γ b ρ st = .ok (.d (.str t), st)) (hl : s.length + t.length ≤ 1000000) : evE Γ (.bin .add a b) ρ st = .ok (.d (.str (s ++ t)), st) := evE_bin_ok h1 h2 (add_ss (by rw [lim16]; omega))
theorem oneS {Γ : Gam} {ρ : Ev} {st : Sr} {e : Ex} {t : List Nat} {es : Exs} {ts : List (List Nat)} (h : evE Γ e ρ st = .ok (.d (.str t), st)) (hr : evEs Γ es ρ st = .ok (ts.map fun t => .d (.str t), st)) : evEs Γ (.cons e es) ρ st = .ok ((t :: ts).map fun t => .d (.str t), st) := by
  rw [evEs_cons, h, Rs.bind_ok]
  dsimp only
  rw [hr]
  rfl
theorem nilS {Γ : Gam} {ρ : Ev} {st : Sr} : evEs Γ .nil ρ st = .ok (([] : List (List Nat)).map fun t => .d (.str t), st) := by rw [evEs_nil]; rfl
theorem mapD_strs : ∀ ts : List (List Nat), mapD (ts.map fun t => Wv.d (.str t)) = some (ts.map Dt.str)
  | [] => rfl
  | t :: ts => by
    show (mapD (ts.map fun t => Wv.d (.str t))).map (Dt.str t :: ·) = _
    rw [mapD_strs ts]; rfl
theorem lstS {Γ : Gam} {ρ : Ev} {st : Sr} {es : Exs} {ts : List (List Nat)} (hr : evEs Γ es ρ st = .ok (ts.map fun t => .d (.str t), st)) (hl : ts.length ≤ 1000) : evE Γ (.lst es) ρ st = .ok (.d (.lst (ts.map Dt.str)), st) := by
  rw [evE_lst, hr, Rs.bind_ok]
  exact mkLst_ok (mapD_strs ts) (by rw [lim16]; simp; omega)
theorem viewS {st : Sr} {k : Nat} {xs : List Dt} (h : st[k]? = some (.lst xs)) : viewW st (.ob k) = some (.lst xs) := by unfold viewW; simp only [h]
theorem addS {n : Nat} {c : Int} {w s : List Nat} {k : Nat} {st : Sr} {as bs : List (List Nat)} {es : Exs} (hk : st[k]? = some (.lst (as.map Dt.str))) (he : evEs (Gm n) es (spE c w s k) st = .ok (bs.map fun t => .d (.str t), st)) (hl : as.length + bs.length ≤ 1000) :
    evE (Gm n) (.bin .add (.v 3) (.lst es)) (spE c w s k) st = .ok (.d (.lst ((as ++ bs).map Dt.str)), st) := by
  rw [evE_bin, evE_v]
  show (evE (Gm n) (.lst es) (spE c w s k) st).bind (op2 (bopD .add) (.ob k)) = _
  rw [lstS he (by omega), Rs.bind_ok, op2_v (viewS hk) (y := .lst (bs.map Dt.str)) rfl]
  have : bopD .add (.lst (as.map Dt.str)) (.lst (bs.map Dt.str)) = some (.lst (as.map Dt.str ++ bs.map Dt.str)) := if_pos (by rw [lim16]; simp; omega)
  rw [this, ← List.map_append]
  rfl
theorem growS {n : Nat} {c : Int} {w s : List Nat} {k : Nat} {st : Sr} {as bs : List (List Nat)} {es : Exs} (hk : st[k]? = some (.lst (as.map Dt.str))) (he : evEs (Gm n) es (spE c w s k) st = .ok (bs.map fun t => .d (.str t), st)) (hl : as.length + bs.length ≤ 1000) :
    ∃ k' st', exS (Gm n) (.setL 3 (.bin .add (.v 3) (.lst es))) (spE c w s k) st = .ok ((.nx, spE c w s k'), st') ∧ st'[k']? = some (.lst ((as ++ bs).map Dt.str)) := by
  refine ⟨st.length, st ++ [.lst ((as ++ bs).map Dt.str)], ?_, by simp⟩
  rw [exS_setL, addS hk he hl]
  rfl
theorem appS {n : Nat} {c : Int} {w s t : List Nat} {k : Nat} {st : Sr} {as : List (List Nat)} {e : Ex} (hk : st[k]? = some (.lst (as.map Dt.str))) (he : evE (Gm n) e (spE c w s k) st = .ok (.d (.str t), st)) (hl : as.length ≤ 1000) :
    ∃ st', exS (Gm n) (.app 3 e) (spE c w s k) st = .ok ((.nx, spE c w s k), st') ∧ st'[k]? = some (.lst ((as ++ [t]).map Dt.str)) := by
  refine ⟨st.set k (.lst (as.map Dt.str ++ [.str t])), ?_, ?_⟩
  · rw [exS_app]
    show (seenW k st).bind _ = _
    unfold seenW
    simp only [hk, Rs.bind_ok, he]
    unfold appW
    simp only [hk]
    exact if_pos (by rw [lim16]; simp; omega)
  · have : k < st.length := (List.getElem?_eq_some_iff.mp hk).1
    simp [this]
theorem mul9 (w : List Nat) (h : w.length ≤ 8) : bopD .mul (.str w) (.int 9) = some (.str (List.replicate 9 w).flatten) := by
  have : bopD .mul (.str w) (.int 9) = if w.length * (9 : Int).toNat ≤ lim ∧ -(2 ^ 62) < (9 : Int) ∧ (9 : Int) < 2 ^ 62 then some (.str (List.replicate (9 : Int).toNat w).flatten) else none := rfl
  rw [this, if_pos ⟨by rw [lim16]; show w.length * 9 ≤ _; omega, by decide, by decide⟩]
  rfl
theorem mul4 (w : List Nat) : bopD .mul (.lst [.str w]) (.int 4) = some (.lst ((List.replicate 4 w).map Dt.str)) := by
  have : bopD .mul (.lst [.str w]) (.int 4) = if 0 < [Dt.str w].length ∧ (1 : Int) ≤ 4 ∧ (4 : Int) ≤ 1000 ∧ [Dt.str w].length ≤ 1000 then some (.lst (List.replicate (4 : Int).toNat [Dt.str w]).flatten) else none := rfl
  rw [this, if_pos ⟨by simp, by decide, by decide, by simp⟩]
  rfl
theorem run_sp' (n : Nat) (a : Dt) : runP tab gls (n + 1) c__law_spoilt [a] = (exSs (Gm n) b__law_spoilt [some (.d a), none, none, none] []).bind endD := rfl
theorem run_spoilt (c : Int) : ∃ W, runP tab gls 19 c__law_spoilt [.int c] = .ok (.lst (W.map Dt.str)) ∧ Bads W ∧ W.length ≤ 40 := by
  obtain ⟨w, hw1, hw⟩ := run_name 16 c
  obtain ⟨v, v1, hv2⟩ := run_law_value 2 13 (c + 1)
  have hv := isVal_mono hv2
  have v1' : runP tab gls 18 c__law_value [.int (c + 1), .int 2] = .ok v := v1
  have w1 : runP tab gls 18 c__law_written [v] = .ok (.str (wrD 3 v)) := run_law_written 3 13 (by decide) hv
  have hlen := Nat.le_trans (wr_len 3 hv) (bnd_le (k := 3) (by decide))
  have hL := Ls_wr 3 hv
  have wl := nm_len hw
  generalize wrD 3 v = s at w1 hlen hL
  rw [run_sp']
  unfold b__law_spoilt
  rw [exSs_nx (ρ1 := [some (.d (.int c)), some (.d (.str w)), none, none]) (st1 := []) (by rw [exS_set, call1_v (x := .int c) (st1 := []) (by simp), hw1]; rfl)]
  rw [exSs_nx (ρ1 := [some (.d (.int c)), some (.d (.str w)), some (.d (.str s)), none]) (st1 := []) (by
    have hc : evE (Gm 18) (.call c__law_value (.cons (.bin .add (.v 0) (.int 1)) (.cons (.int 2) .nil))) [some (.d (.int c)), some (.d (.str w)), none, none] [] = .ok (.d v, []) := by
      rw [call2_v (x := .int (c + 1)) (y := .int 2) (st1 := []) (st2 := []) (by simp) (by simp), v1']; rfl
    rw [exS_set, call1_v (x := v) (st1 := []) hc, w1]; rfl)]
  have V0 : ∀ x, evE (Gm 18) (.v 1) [some (.d (.int c)), some (.d (.str w)), some (.d (.str s)), x] [] = .ok (.d (.str w), []) := fun x => by rw [evE_v]; rfl
  have S0 : ∀ x, evE (Gm 18) (.v 2) [some (.d (.int c)), some (.d (.str w)), some (.d (.str s)), x] [] = .ok (.d (.str s), []) := fun x => by rw [evE_v]; rfl
  have V : ∀ k st, evE (Gm 18) (.v 1) (spE c w s k) st = .ok (.d (.str w), st) := fun k st => by rw [evE_v]; rfl
  have S : ∀ k st, evE (Gm 18) (.v 2) (spE c w s k) st = .ok (.d (.str s), st) := fun k st => by rw [evE_v]; rfl
  rw [exSs_nx (ρ1 := spE c w s 0) (st1 := [.lst ([w, w ++ [32] ++ s, [61, 32] ++ s, w ++ [32, 61], w ++ s__5331 ++ s, w ++ s__6e97 ++ s].map Dt.str)]) (by
    rw [exS_setL, lstS (oneS (V0 _) (oneS (catS (catS (V0 _) (evE_str _) (by simp; omega)) (S0 _) (by simp; omega)) (oneS (catS (evE_str _) (S0 _) (by simp; omega)) (oneS (catS (V0 _) (evE_str _) (by simp; omega)) (oneS (catS (catS (V0 _) (evE_str _) (by simp [s__5331]; omega)) (S0 _) (by simp [s__5331]; omega)) (oneS (catS (catS (V0 _) (evE_str _) (by simp [s__6e97]; omega)) (S0 _) (by simp [s__6e97]; omega)) nilS)))))) (by simp)]
    rfl)]
  obtain ⟨st1, e1, g1⟩ := appS (n := 18) (c := c) (w := w) (s := s) (k := 0) (st := [.lst ([w, w ++ [32] ++ s, [61, 32] ++ s, w ++ [32, 61], w ++ s__5331 ++ s, w ++ s__6e97 ++ s].map Dt.str)]) (as := [w, w ++ [32] ++ s, [61, 32] ++ s, w ++ [32, 61], w ++ s__5331 ++ s, w ++ s__6e97 ++ s]) rfl (catS (catS (evE_str [34]) (V _ _) (by simp; omega)) (evE_str s_1_761c) (by simp [s_1_761c]; omega)) (by simp)
  rw [exSs_nx e1]
  have b1 := (badA hw hv hL hlen).app (badB hw)
  have l1 : ([w, w ++ [32] ++ s, [61, 32] ++ s, w ++ [32, 61], w ++ s__5331 ++ s, w ++ s__6e97 ++ s] ++ [[34] ++ w ++ s_1_761c]).length = 7 := rfl
  generalize [w, w ++ [32] ++ s, [61, 32] ++ s, w ++ [32, 61], w ++ s__5331 ++ s, w ++ s__6e97 ++ s] ++ [[34] ++ w ++ s_1_761c] = W1 at g1 b1 l1
  obtain ⟨k2, st2, e2, g2⟩ := growS (n := 18) g1 (oneS (catS (catS (catS (catS (V _ _) (evE_str [32, 61, 32]) (by simp; omega)) (S _ _) (by simp; omega)) (evE_str [32]) (by simp; omega)) (S _ _) (by simp; omega)) (oneS (catS (catS (catS (V _ _) (evE_str [32, 61, 32]) (by simp; omega)) (S _ _) (by simp; omega)) (evE_str [93]) (by simp; omega)) (oneS (catS (catS (catS (V _ _) (evE_str [46]) (by simp; omega)) (V _ _) (by simp; omega)) (evE_str s_1_2279) (by simp [s_1_2279]; omega)) nilS))) (by simp; omega)
  rw [exSs_nx e2]
  have b2 := b1.app (badC hw hv hL hlen)
  have l2 : (W1 ++ [w ++ [32, 61, 32] ++ s ++ [32] ++ s, w ++ [32, 61, 32] ++ s ++ [93], w ++ [46] ++ w ++ s_1_2279]).length = 10 := by rw [List.length_append, l1]; rfl
  generalize W1 ++ [w ++ [32, 61, 32] ++ s ++ [32] ++ s, w ++ [32, 61, 32] ++ s ++ [93], w ++ [46] ++ w ++ s_1_2279] = W2 at g2 b2 l2
  have tk7 : ∀ k st, evE (Gm 18) (.sl (.v 1) .no (.yes (.int 7))) (spE c w s k) st = .ok (.d (.str (w.take 7)), st) := fun k st => by
    have := cut_hi w 7
    simp only [evE_sl, evO_yes, evO_no, V, evE_int, Rs.bind_ok, intW_i, Option.map_some, Rs.ofO_some, op1_d, sl_s]
    exact congrArg (fun z => Rs.ok (Wv.d (Dt.str z), st)) this
  obtain ⟨k3, st3, e3, g3⟩ := growS (n := 18) g2 (oneS (catS (catS (evE_str [65]) (V _ _) (by simp; omega)) (evE_str s_1_2279) (by simp [s_1_2279]; omega)) (oneS (catS (catS (evE_str [49]) (tk7 _ _) (by simp; omega)) (evE_str s_1_2279) (by simp [s_1_2279]; omega)) nilS)) (by simp; omega)
  rw [exSs_nx e3]
  have b3 := b2.app (badD hw)
  have l3 : (W2 ++ [[65] ++ w ++ s_1_2279, [49] ++ w.take 7 ++ s_1_2279]).length = 12 := by rw [List.length_append, l2]; rfl
  generalize W2 ++ [[65] ++ w ++ s_1_2279, [49] ++ w.take 7 ++ s_1_2279] = W3 at g3 b3 l3
  have tk9 : ∀ k st, evE (Gm 18) (.sl (.bin .mul (.v 1) (.int 9)) .no (.yes (.int 9))) (spE c w s k) st = .ok (.d (.str ((List.replicate 9 w).flatten.take 9)), st) := fun k st => by
    have := cut_hi (List.replicate 9 w).flatten 9
    have hm : evE (Gm 18) (.bin .mul (.v 1) (.int 9)) (spE c w s k) st = .ok (.d (.str (List.replicate 9 w).flatten), st) := evE_bin_ok (V k st) (evE_int _) (mul9 w wl)
    rw [evE_sl, hm]
    simp only [evO_yes, evO_no, evE_int, Rs.bind_ok, intW_i, Option.map_some, Rs.ofO_some, op1_d, sl_s]
    exact congrArg (fun z => Rs.ok (Wv.d (Dt.str z), st)) this
  have t9 : ((List.replicate 9 w).flatten.take 9).length ≤ 9 := by rw [List.length_take]; omega
  obtain ⟨k4, st4, e4, g4⟩ := growS (n := 18) g3 (oneS (catS (tk9 _ _) (evE_str s_1_2279) (by simp only [s_1_2279, List.length_cons, List.length_nil]; omega)) (oneS (catS (catS (catS (V _ _) (evE_str [32]) (by simp; omega)) (V _ _) (by simp; omega)) (evE_str s_1_2279) (by simp [s_1_2279]; omega)) nilS)) (by simp; omega)
  rw [exSs_nx e4]
  have b4 := b3.app (badE hw)
  have l4 : (W3 ++ [(List.replicate 9 w).flatten.take 9 ++ s_1_2279, w ++ [32] ++ w ++ s_1_2279]).length = 14 := by rw [List.length_append, l3]; rfl
  generalize W3 ++ [(List.replicate 9 w).flatten.take 9 ++ s_1_2279, w ++ [32] ++ w ++ s_1_2279] = W4 at g4 b4 l4
  obtain ⟨k5, st5, e5, g5⟩ := growS (n := 18) g4 (oneS (catS (evE_str [91]) (V _ _) (by simp; omega)) (oneS (catS (V _ _) (evE_str [93]) (by simp; omega)) (oneS (catS (catS (evE_str [91]) (V _ _) (by simp; omega)) (evE_str [93, 93]) (by simp; omega)) nilS))) (by simp; omega)
  rw [exSs_nx e5]
  have b5 := b4.app (badF hw)
  have l5 : (W4 ++ [[91] ++ w, w ++ [93], [91] ++ w ++ [93, 93]]).length = 17 := by rw [List.length_append, l4]; rfl
  generalize W4 ++ [[91] ++ w, w ++ [93], [91] ++ w ++ [93, 93]] = W5 at g5 b5 l5
  obtain ⟨k6, st6, e6, g6⟩ := growS (n := 18) g5 (oneS (catS (catS (evE_str [91, 91]) (V _ _) (by simp; omega)) (evE_str [93, 93]) (by simp; omega)) (oneS (catS (catS (evE_str [91]) (V _ _) (by simp; omega)) (evE_str [46, 93]) (by simp; omega)) (oneS (catS (catS (evE_str [91, 46]) (V _ _) (by simp; omega)) (evE_str [93]) (by simp; omega)) nilS))) (by simp; omega)
  rw [exSs_nx e6]
  have b6 := b5.app (badG hw)
  have l6 : (W5 ++ [[91, 91] ++ w ++ [93, 93], [91] ++ w ++ [46, 93], [91, 46] ++ w ++ [93]]).length = 20 := by rw [List.length_append, l5]; rfl
  generalize W5 ++ [[91, 91] ++ w ++ [93, 93], [91] ++ w ++ [46, 93], [91, 46] ++ w ++ [93]] = W6 at g6 b6 l6
  obtain ⟨k7, st7, e7, g7⟩ := growS (n := 18) g6 (oneS (catS (catS (catS (evE_str [91]) (V _ _) (by simp; omega)) (evE_str [93, 32]) (by simp; omega)) (V _ _) (by simp; omega)) (oneS (catS (catS (evE_str [91, 32]) (V _ _) (by simp; omega)) (evE_str [93]) (by simp; omega)) nilS)) (by simp; omega)
  rw [exSs_nx e7]
  have b7 := b6.app (badH hw)
  have l7 : (W6 ++ [[91] ++ w ++ [93, 32] ++ w, [91, 32] ++ w ++ [93]]).length = 22 := by rw [List.length_append, l6]; rfl
  generalize W6 ++ [[91] ++ w ++ [93, 32] ++ w, [91, 32] ++ w ++ [93]] = W7 at g7 b7 l7
  have hj := joinL_len [46] (List.replicate 4 w)
  have hsm := sumLen_le (b := 8) (List.replicate 4 w) (by intro x hx; rw [(List.mem_replicate.mp hx).2]; exact wl)
  simp only [List.length_replicate, List.length_cons, List.length_nil] at hj hsm
  have J4 : ∀ k st, evE (Gm 18) (.m1 .join (.str [46]) (.bin .mul (.lst (.cons (.v 1) .nil)) (.int 4))) (spE c w s k) st = .ok (.d (.str (joinL [46] (List.replicate 4 w))), st) := fun k st =>
    evE_m1_ok (evE_str _) (evE_bin_ok (lstS (ts := [w]) (oneS (V k st) nilS) (by simp)) (evE_int _) (mul4 _)) (join_strs (by simp only [List.length_replicate, List.length_cons, List.length_nil]; omega))
  obtain ⟨k8, st8, e8, g8⟩ := growS (n := 18) g7 (oneS (catS (catS (evE_str [91]) (V _ _) (by simp; omega)) (evE_str [32, 93]) (by simp; omega)) (oneS (catS (catS (evE_str [91]) (J4 _ _) (by simp only [List.length_cons, List.length_nil]; omega)) (evE_str [93]) (by simp only [List.length_append, List.length_cons, List.length_nil]; omega)) nilS)) (by simp; omega)
  rw [exSs_nx e8]
  have b8 := b7.app (badI hw)
  have l8 : (W7 ++ [[91] ++ w ++ [32, 93], [91] ++ joinL [46] (List.replicate 4 w) ++ [93]]).length = 24 := by rw [List.length_append, l7]; rfl
  generalize W7 ++ [[91] ++ w ++ [32, 93], [91] ++ joinL [46] (List.replicate 4 w) ++ [93]] = W8 at g8 b8 l8
  have he := addS (n := 18) g8 (oneS (catS (catS (evE_str [91]) (V k8 st8) (by simp; omega)) (evE_str s_a_1b54) (by simp [s_a_1b54]; omega)) (oneS (catS (catS (evE_str [91]) (V _ _) (by simp; omega)) (evE_str s_a_365e) (by simp [s_a_365e]; omega)) (oneS (evE_str [91, 65, 93]) (oneS (evE_str [91, 93]) (oneS (catS (catS (evE_str [91]) (V _ _) (by simp; omega)) (evE_str s_1_0102) (by simp [s_1_0102]; omega)) (oneS (catS (catS (evE_str [91]) (V _ _) (by simp; omega)) (evE_str [44, 97, 93]) (by simp; omega)) nilS)))))) (by simp; omega)
  rw [exSs_rt (exS_ret_ok he)]
  exact ⟨_, rfl, b8.app (badJ hw), by rw [List.length_append, l8]; simp⟩
/-! ### the law -/
theorem exS_if_else {Γ : Gam} {ρ : Ev} {st st1 : Sr} {c : Ex} {a b : Sms} {x : Dt} (h : evE Γ c ρ st = .ok (.d x, st1)) (hx : truthD x = false) : exS Γ (.ife c a b) ρ st = exSs Γ b ρ st1 := by
  rw [exS_ife, evT_eq, h, Rs.bind_ok]
  show ((Rs.ok (truthD x)).bind _).bind _ = _
  rw [hx, Rs.bind_ok, Rs.bind_ok]; rfl
abbrev ttf : Dt := .tup [.bl true, .bl true, .bl false]
def isTtf : Rs Dt → Bool
  | .ok (.tup [.bl true, .bl true, .bl false]) => true
  | _ => false
theorem isTtf_eq {r : Rs Dt} (h : isTtf r = true) : r = .ok ttf := by
  unfold isTtf at h
  split at h
  · rfl
  · cases h
theorem run_told' (n : Nat) (a b : Dt) : runP tab gls (n + 1) c__law_told [a, b] = (exSs (Gm n) b__law_told [some (.d a), some (.d b), none, none] []).bind endD := rfl
theorem told_bad {t : List Nat} (ht : t.length ≤ 400000) (h : PoBad t) (k : Nat) (hk : k < 3) : runP tab gls 19 c__law_told [.int k, .str t] = .ok ttf := by
  have hp : runP tab gls 16 c_parts_of [.str t] = .exc x_NoRow [] [] := run_po_bad 4 ht h
  have hr : runP tab gls 17 c_read_row [.str t] = .exc x_NoRow [] [] := by
    show (exSs (Gm 16) b_read_row [some (.d (.str t))] []).bind endD = _
    unfold b_read_row
    rw [exSs_exc (c := x_NoRow) (fs := []) (st1 := []) (by rw [exS_ret, evE_ix, call1_v (x := .str t) (st1 := []) (by simp), hp]; rfl)]
    rfl
  have hp2 : runP tab gls 17 c_parts_of [.str t] = .exc x_NoRow [] [] := run_po_bad 5 ht h
  have hr1 : runP tab gls 18 c_read_row [.str t] = .exc x_NoRow [] [] := by
    show (exSs (Gm 17) b_read_row [some (.d (.str t))] []).bind endD = _
    unfold b_read_row
    rw [exSs_exc (c := x_NoRow) (fs := []) (st1 := []) (by rw [exS_ret, evE_ix, call1_v (x := .str t) (st1 := []) (by simp), hp2]; rfl)]
    rfl
  have hr2 : runP tab gls 18 c_remark_in [.str t] = .exc x_NoRow [] [] := by
    show (exSs (Gm 17) b_remark_in [some (.d (.str t))] []).bind endD = _
    unfold b_remark_in
    rw [exSs_exc (c := x_NoRow) (fs := []) (st1 := []) (by rw [exS_ret, evE_ix, call1_v (x := .str t) (st1 := []) (by simp), hp2]; rfl)]
    rfl
  have hr3 : ∀ v, runP tab gls 18 c_row_with [.str t, v] = .exc x_NoRow [] [] := fun v => by
    show (exSs (Gm 17) b_row_with [some (.d (.str t)), some (.d v), none, none, none, none] []).bind endD = _
    unfold b_row_with
    rw [exSs_exc (c := x_NoRow) (fs := []) (st1 := []) (by rw [exS_ife, evT_eq, evE_cmp, evE_ix, call1_v (x := .str t) (st1 := []) (by simp), hr]; rfl)]
    rfl
  rw [run_told']
  unfold b__law_told
  rw [exSs_nx (ρ1 := [some (.d (.int k)), some (.d (.str t)), some (.d (.str s_none_00cf)), none]) (st1 := []) (by simp)]
  have hb : exS (Gm 18) (.tryX x_SettingsError (.cons (.ife (.cmp .eq (.v 0) (.int 0)) (.cons (.expr (.call 20 (.cons (.v 1) .nil))) .nil) (.cons (.ife (.cmp .eq (.v 0) (.int 1)) (.cons (.expr (.call 21 (.cons (.v 1) .nil))) .nil) (.cons (.expr (.call 22 (.cons (.v 1) (.cons (.tup (.cons (.str s_truth_2626) (.cons (.bl true) .nil))) .nil)))) .nil)) .nil)) .nil) 3 2 [(.isi none), (.isi (some x_NoRow)), (.isi (some x_NoValue))]) [some (.d (.int k)), some (.d (.str t)), some (.d (.str s_none_00cf)), none] [] = .ok ((.nx, [some (.d (.int k)), some (.d (.str t)), some (.d ttf), none]), []) := by
    rw [exS_tryX]
    rcases (by omega : k = 0 ∨ k = 1 ∨ k = 2) with rfl | rfl | rfl
    · rw [exSs_exc (c := x_NoRow) (fs := []) (st1 := []) ((exS_if_yes (x := .bl true) (st1 := []) (by simp) rfl).trans (exSs_exc (by rw [exS_expr, call1_v (x := .str t) (st1 := []) (by simp), hr1]; rfl)))]
      rfl
    · rw [exSs_exc (c := x_NoRow) (fs := []) (st1 := []) ((exS_if_else (x := .bl false) (st1 := []) (by simp) rfl).trans (exSs_exc ((exS_if_yes (x := .bl true) (st1 := []) (by simp) rfl).trans (exSs_exc (by rw [exS_expr, call1_v (x := .str t) (st1 := []) (by simp), hr2]; rfl)))))]
      rfl
    · rw [exSs_exc (c := x_NoRow) (fs := []) (st1 := []) ((exS_if_else (x := .bl false) (st1 := []) (by simp) rfl).trans (exSs_exc ((exS_if_else (x := .bl false) (st1 := []) (by simp) rfl).trans (exSs_exc (by rw [exS_expr, call2_v (x := .str t) (y := .tup [.str s_truth_2626, .bl true]) (st1 := []) (st2 := []) (by simp) (by simp), hr3]; rfl)))))]
      rfl
  rw [exSs_nx hb, exSs_rt (exS_ret_ok (w := .d ttf) (st1 := []) (by simp))]
  rfl
theorem bad_blanks {t : List Nat} (h : PoBad t) : PoBad ([32, 32] ++ t) := by
  obtain ⟨c, r, h1, h2⟩ := h
  refine ⟨c, r, ?_, h2⟩
  show (32 :: 32 :: t).drop (nbl (32 :: 32 :: t)) = _
  simp only [nbl, if_true]
  exact h1
/-- a row that is told to be none -/
def Told (t : List Nat) : Prop := (∀ k : Nat, k < 3 → runP tab gls 19 c__law_told [.int k, .str t] = .ok ttf) ∧ runP tab gls 19 c__law_told [.int 0, .str ([32, 32] ++ t)] = .ok ttf ∧ t.length ≤ 399000
theorem told_of {t : List Nat} (h : PoBad t ∧ t.length ≤ 390000) : Told t := ⟨fun k hk => told_bad (by omega) h.1 k hk, told_bad (by simp; omega) (bad_blanks h.1) 0 (by decide), by omega⟩
def chk7 (t : List Nat) : Bool := isTtf (runP tab gls 19 c__law_told [.int 0, .str t]) && isTtf (runP tab gls 19 c__law_told [.int 1, .str t]) && isTtf (runP tab gls 19 c__law_told [.int 2, .str t]) && isTtf (runP tab gls 19 c__law_told [.int 0, .str ([32, 32] ++ t)]) && decide (t.length ≤ 399000)
theorem told_chk {t : List Nat} (h : chk7 t = true) : Told t := by
  unfold chk7 at h
  simp only [Bool.and_eq_true, decide_eq_true_eq] at h
  obtain ⟨⟨⟨⟨h0, h1⟩, h2⟩, h3⟩, h4⟩ := h
  refine ⟨fun k hk => ?_, isTtf_eq h3, h4⟩
  rcases (by omega : k = 0 ∨ k = 1 ∨ k = 2) with rfl | rfl | rfl
  · exact isTtf_eq h0
  · exact isTtf_eq h1
  · exact isTtf_eq h2
def rows0 : List (List Nat) := [[61], [97], [97, 32, 61], [91], [93], s_a12_b495, s_a1_0ba4] ++ [s_a01_020d, s_a1_3c44, s_a1b_3214, s_a_dcc3, s_a1_ffd2, s_a1_aa35]
theorem rows0_ok : rows0.all chk7 = true := by decide +kernel
def isNone7 : Rs Dt → Bool
  | .ok (.str s) => s == s_none_00cf
  | _ => false
theorem isNone_eq {r : Rs Dt} (h : isNone7 r = true) : r = .ok (.str s_none_00cf) := by
  unfold isNone7 at h
  split at h
  · rw [beq_iff_eq] at h; rw [h]
  · cases h
def chk8 (t : List Nat) : Bool := isNone7 (runP tab gls 19 c__law_told [.int 0, .str t]) && isNone7 (runP tab gls 19 c__law_told [.int 1, .str t]) && isTtf (runP tab gls 19 c__law_told [.int 2, .str t])
def rows8 : List (List Nat) := [[], [32, 32], [35], s_a1_5ad1, [91, 97, 93], s_abc_cf0d, s_a1_50a3]
theorem rows8_ok : rows8.all chk8 = true := by decide +kernel
theorem run_law' (n : Nat) (a : Dt) : runP tab gls (n + 1) c_law [a] = (exSs (Gm n) b_law [some (.d a), none, none, none, none] []).bind endD := rfl
abbrev l7E (ns : List Int) (W : List (List Nat)) (x2 x3 x4 : Option Wv) : Ev := [some (.d (.scr ns)), some (.d (.lst (W.map Dt.str))), x2, x3, x4]
theorem call_told {ρ : Ev} {a b : Ex} {k : Int} {t : List Nat} {d : Dt} (h1 : evE (Gm 19) a ρ [] = .ok (.d (.int k), [])) (h2 : evE (Gm 19) b ρ [] = .ok (.d (.str t), [])) (h : runP tab gls 19 c__law_told [.int k, .str t] = .ok d) :
    evE (Gm 19) (.call c__law_told (.cons a (.cons b .nil))) ρ [] = .ok (.d d, []) := by
  rw [call2_v (x := .int k) (y := .str t) (st1 := []) (st2 := []) h1 h2, h]; rfl
theorem ne_ttf : copD .ne ttf ttf = some false := by simp [ne_dd, depD, depDs, eqD, eqDs]
theorem ev_ttf {ρ : Ev} : evE (Gm 19) (.tup (.cons (.bl true) (.cons (.bl true) (.cons (.bl false) .nil)))) ρ [] = .ok (.d ttf, []) := by simp
theorem lcL_skip {f : Dt → Sr → Rs (Option Dt × Sr)} {x : Dt} {xs : List Dt} {st : Sr} (h : f x st = .ok (none, st)) : lcL [] f (x :: xs) st = lcL [] f xs st := by
  rw [lcL, h, Rs.bind_ok]
  show (if true = true then (lcL [] f xs st).bind _ else _) = _
  rw [if_pos rfl]
  cases lcL [] f xs st <;> rfl
theorem turn1 {ns : List Int} {W : List (List Nat)} {t : List Nat} (h : Told t) (x2 x4 : Option Wv) : exSs (Gm 19) fb1_law (l7E ns W x2 (some (.d (.str t))) x4) [] = .ok ((.nx, l7E ns W x2 (some (.d (.str t))) x4), []) := by
  obtain ⟨h1, h2, h3⟩ := h
  unfold fb1_law
  have hlc : evE (Gm 19) (.lc (.v 4) (.one 4) (.rng1 (.int 3)) (.cons (.cmp .ne (.call c__law_told (.cons (.v 4) (.cons (.v 3) .nil))) (.tup (.cons (.bl true) (.cons (.bl true) (.cons (.bl false) .nil))))) .nil)) (l7E ns W x2 (some (.d (.str t))) x4) [] = .ok (.d (.lst []), []) := by
    refine evE_lc_ok (xs := rangeL 0 3) (st1 := []) (evI_rng_ok (m := 3) (by simp) (by omega)) ?_ (by simp)
    have step : ∀ k : Nat, k < 3 → lcTurn (evIfs (Gm 19) (.cons (.cmp .ne (.call c__law_told (.cons (.v 4) (.cons (.v 3) .nil))) (.tup (.cons (.bl true) (.cons (.bl true) (.cons (.bl false) .nil))))) .nil)) (evE (Gm 19) (.v 4)) (.one 4) (l7E ns W x2 (some (.d (.str t))) x4) (.int k) [] = .ok (none, []) := fun k hk => by
      unfold lcTurn
      show (noExc ((evIfs (Gm 19) _ (l7E ns W x2 (some (.d (.str t))) (some (.d (.int k)))) []).bind _)) = _
      have hc := evE_cmp_ok (o := .ne) (call_told (ρ := l7E ns W x2 (some (.d (.str t))) (some (.d (.int k)))) (a := .v 4) (b := .v 3) (by simp) (by simp) (h1 k hk)) ev_ttf ne_ttf
      rw [evIfs_one, hc]
      rfl
    have e : rangeL 0 3 = [.int (0 : Nat), .int (1 : Nat), .int (2 : Nat)] := rfl
    rw [e, lcL_skip (step 0 (by decide)), lcL_skip (step 1 (by decide)), lcL_skip (step 2 (by decide))]
    rfl
  rw [exSs_nx (exS_if_no hlc rfl)]
  have hc2 := evE_cmp_ok (o := .ne) (call_told (ρ := l7E ns W x2 (some (.d (.str t))) x4) (a := .int 0) (b := .bin .add (.str [32, 32]) (.v 3)) (by rw [evE_int]) (catS (evE_str _) (by simp) (by simp; omega)) h2) ev_ttf ne_ttf
  rw [exSs_nx (exS_if_no hc2 rfl)]
  exact exSs_nil (Γ := Gm 19)
theorem turn2 {ns : List Int} {W : List (List Nat)} {t : List Nat} (h : chk8 t = true) (x2 x4 : Option Wv) : exSs (Gm 19) fb2_law (l7E ns W x2 (some (.d (.str t))) x4) [] = .ok ((.nx, l7E ns W x2 (some (.d (.str t))) x4), []) := by
  unfold chk8 at h
  simp only [Bool.and_eq_true] at h
  obtain ⟨⟨h0, h1⟩, h2⟩ := h
  unfold fb2_law
  have ne_n : copD .ne (.str s_none_00cf) (.str s_none_00cf) = some false := by rw [ne_ss2]; simp
  have c2 := evE_cmp_ok (o := .ne) (call_told (ρ := l7E ns W x2 (some (.d (.str t))) x4) (a := .int 2) (b := .v 3) (by rw [evE_int]) (by simp) (isTtf_eq h2)) ev_ttf ne_ttf
  have c0 := evE_cmp_ok (o := .ne) (call_told (ρ := l7E ns W x2 (some (.d (.str t))) x4) (a := .int 0) (b := .v 3) (by rw [evE_int]) (by simp) (isNone_eq h0)) (evE_str s_none_00cf) ne_n
  have c1 := evE_cmp_ok (o := .ne) (call_told (ρ := l7E ns W x2 (some (.d (.str t))) x4) (a := .int 1) (b := .v 3) (by rw [evE_int]) (by simp) (isNone_eq h1)) (evE_str s_none_00cf) ne_n
  rw [exSs_nx (exS_if_no (x := .bl false) (st1 := []) (by
    rw [evE_or, evOr2, c2]
    show evOr _ _ _ _ = _
    rw [evOr2, c0]
    show evOr _ _ _ _ = _
    rw [evOr1, c1]) rfl)]
  exact exSs_nil (Γ := Gm 19)
theorem turn0 {ns : List Int} {W : List (List Nat)} (hW : ∀ t ∈ W, Told t) (hl : W.length ≤ 500) (k : Nat) (x3 x4 : Option Wv) : ∃ W2, exSs (Gm 19) fb0_law (l7E ns W (some (.d (.int k))) x3 x4) [] = .ok ((.nx, l7E ns (W ++ W2) (some (.d (.int k))) x3 x4), []) ∧ (∀ t ∈ W2, Told t) ∧ W2.length ≤ 40 := by
  have s13 : smallI 13 := by decide
  have hcell := run_cell 18 ns k
  obtain ⟨W2, h1, h2, h3⟩ := run_spoilt (cellAt ns k + 13 * (k : Int))
  refine ⟨W2, ?_, fun t ht => told_of (h2 t ht), h3⟩
  unfold fb0_law
  have hc : evE (Gm 19) (.call c__law_spoilt (.cons (.bin .add (.call c__law_cell (.cons (.v 0) (.cons (.v 2) .nil))) (.bin .mul (.int 13) (.v 2))) .nil)) (l7E ns W (some (.d (.int k))) x3 x4) [] = .ok (.d (.lst (W2.map Dt.str)), []) := by
    rw [call1_v (x := .int (cellAt ns k + 13 * (k : Int))) (st1 := []) (by simp [hcell, mul_ii, s13]), h1]; rfl
  have ha : bopD .add (.lst (W.map Dt.str)) (.lst (W2.map Dt.str)) = some (.lst ((W ++ W2).map Dt.str)) := by
    have : bopD .add (.lst (W.map Dt.str)) (.lst (W2.map Dt.str)) = some (.lst (W.map Dt.str ++ W2.map Dt.str)) := if_pos (by rw [lim16]; simp; omega)
    rw [this, ← List.map_append]
  rw [exSs_nx (exS_set_ok (evE_bin_ok (by rw [evE_v]; rfl) hc ha))]
  exact exSs_nil (Γ := Gm 19)
theorem addLL (as bs : List (List Nat)) (h : as.length + bs.length ≤ 1000) : bopD .add (.lst (as.map Dt.str)) (.lst (bs.map Dt.str)) = some (.lst ((as ++ bs).map Dt.str)) := by
  have : bopD .add (.lst (as.map Dt.str)) (.lst (bs.map Dt.str)) = some (.lst (as.map Dt.str ++ bs.map Dt.str)) := if_pos (by rw [lim16]; simp; omega)
  rw [this, ← List.map_append]
theorem law_ok (ns : List Int) (_ : ns.length ≤ 63) : runP tab gls 20 c_law [.scr ns] = .ok (.bl true) := by
  rw [run_law']
  unfold b_law
  rw [exSs_nx (ρ1 := l7E ns [[61], [97], [97, 32, 61], [91], [93], s_a12_b495, s_a1_0ba4] none none none) (st1 := []) (exS_set_ok (lstS (ts := [[61], [97], [97, 32, 61], [91], [93], s_a12_b495, s_a1_0ba4]) (oneS (evE_str _) (oneS (evE_str _) (oneS (evE_str _) (oneS (evE_str _) (oneS (evE_str _) (oneS (evE_str _) (oneS (evE_str _) nilS))))))) (by simp)))]
  rw [exSs_nx (ρ1 := l7E ns rows0 none none none) (st1 := []) (exS_set_ok (evE_bin_ok (by rw [evE_v]; rfl) (lstS (ts := [s_a01_020d, s_a1_3c44, s_a1b_3214, s_a_dcc3, s_a1_ffd2, s_a1_aa35]) (oneS (evE_str _) (oneS (evE_str _) (oneS (evE_str _) (oneS (evE_str _) (oneS (evE_str _) (oneS (evE_str _) nilS)))))) (by simp)) (addLL [[61], [97], [97, 32, 61], [91], [93], s_a12_b495, s_a1_0ba4] [s_a01_020d, s_a1_3c44, s_a1b_3214, s_a_dcc3, s_a1_ffd2, s_a1_aa35] (by simp))))]
  have h0 : ∀ t ∈ rows0, Told t := fun t ht => told_chk (List.all_eq_true.mp rows0_ok t ht)
  obtain ⟨ρ1, st1, hf1, W, x2, rfl, rfl, hW, hWl⟩ := exFor_invS (body := exSs (Gm 19) fb0_law) (tg := .one 2) (fun k ρ st => ∃ W x2, ρ = l7E ns W x2 none none ∧ st = [] ∧ (∀ t ∈ W, Told t) ∧ W.length ≤ 13 + 40 * k) (rangeL 0 4) 0 (l7E ns rows0 none none none) [] ⟨rows0, none, rfl, rfl, h0, by simp [rows0]⟩ (by
    rintro j x ρ st hj ⟨W, x2, rfl, rfl, hW, hl⟩
    obtain ⟨rfl, hj4⟩ := range0_at hj
    obtain ⟨W2, e, h2, h3⟩ := turn0 (ns := ns) hW (by omega) j none none
    refine ⟨_, _, _, rfl, e, W ++ W2, _, rfl, rfl, ?_, by rw [List.length_append]; omega⟩
    intro t ht
    rcases List.mem_append.mp ht with h | h
    · exact hW t h
    · exact h2 t h)
  rw [exSs_nx (exS_for_ok (evI_rng_ok (m := 4) (by simp) (by omega)) hf1)]
  obtain ⟨ρ2, hf2, x3, rfl⟩ := @exFor_mem (exSs (Gm 19) fb1_law) (.one 3) [] (fun ρ => ∃ x3, ρ = l7E ns W x2 x3 none) (W.map Dt.str) (l7E ns W x2 none none) ⟨none, rfl⟩ (by
    rintro x hx ρ ⟨x3, rfl⟩
    obtain ⟨t, ht, rfl⟩ := List.mem_map.mp hx
    exact ⟨_, _, rfl, turn1 (hW t ht) x2 none, _, rfl⟩)
  rw [exSs_nx (exS_for_ok (xs := W.map Dt.str) (st1 := []) (by rw [evI_seq, evE_v]; rfl) hf2)]
  obtain ⟨ρ3, hf3, x3', rfl⟩ := @exFor_mem (exSs (Gm 19) fb2_law) (.one 3) [] (fun ρ => ∃ x3, ρ = l7E ns W x2 x3 none) (rows8.map Dt.str) (l7E ns W x2 x3 none) ⟨x3, rfl⟩ (by
    rintro x hx ρ ⟨x3, rfl⟩
    obtain ⟨t, ht, rfl⟩ := List.mem_map.mp hx
    exact ⟨_, _, rfl, turn2 (List.all_eq_true.mp rows8_ok t ht) x2 none, _, rfl⟩)
  have h8 : evI (Gm 19) (.seq (.tup (.cons (.str []) (.cons (.str [32, 32]) (.cons (.str [35]) (.cons (.str s_a1_5ad1) (.cons (.str [91, 97, 93]) (.cons (.str s_abc_cf0d) (.cons (.str s_a1_50a3) .nil))))))))) (l7E ns W x2 x3 none) [] = .ok ((rows8.map Dt.str, []), []) := by
    rw [evI_seq, evE_tup, oneS (evE_str _) (oneS (evE_str _) (oneS (evE_str _) (oneS (evE_str _) (oneS (evE_str _) (oneS (evE_str _) (oneS (evE_str _) nilS)))))), Rs.bind_ok, mkTup_ok (mapD_strs _) (by rw [lim16]; simp)]
    rfl
  rw [exSs_nx (exS_for_ok h8 hf3), exSs_rt (exS_ret_ok (by rw [evE_bl]))]
  rfl

open PySem.Spec PyProof.Rows L2
abbrev fuel : Nat := 20
def topS (i : Nat) : Stmt := PySem.Challenge.pw_laysheets_k07_what_is_no_row.main.body.getD i (.Pass ⟨0, 0, 0, 0⟩)
def T : Tb := ⟨("is_number", 3) :: ("is_name", 1) :: ("days_in", 2) :: ("is_day", 1) :: ("is_value_so_deep", 2) :: ("is_value", 1) :: ("quoted", 1) :: ("written_value", 1) :: ("behind_blanks", 2) :: ("text_from", 2) :: ("list_from", 3) :: ("are_figures", 1) :: ("plain_value", 1) :: ("value_from", 3) :: ("whole_value_from", 2) :: ("name_from", 2) :: ("section_from", 2) :: ("setting_from", 2) :: ("remark_behind", 2) :: ("parts_of", 1) :: ("read_row", 1) :: ("remark_in", 1) :: ("row_with", 2) :: ("_law_cell", 2) :: ("_law_mix", 3) :: ("_law_name", 1) :: ("_law_text", 1) :: ("_law_days", 2) :: ("_law_day", 1) :: ("_law_value", 2) :: ("_law_quoted", 1) :: ("_law_written", 1) :: ("_law_told", 2) :: ("_law_spoilt", 1) :: ("law", 1) :: [], ["LETTERS", "MOST", "MONTHS", "SIGNS"], [("SettingsError", []), ("NoValue", []), ("NoRow", [])], false, [14, 13, 5, 12, 9, 10, 7, 4, 11, 8, 6, 0, 3, 2]⟩
theorem sc_is_number : FnScope ["thing", "low", "high"] ["thing", "low", "high"] (defScope (topS 8)) := ⟨rfl, rfl, rfl, by decide +kernel, rfl, by decide +kernel, by decide +kernel⟩
theorem ck_is_number : chkSs T ["thing", "low", "high"] (defScope (topS 8)) b_is_number (defBody (topS 8)) = true := by decide +kernel
theorem ckn_is_number : chkSs { T with nn := true } ["thing", "low", "high"] (defScope (topS 8)) b_is_number (defBody (topS 8)) = true := by decide +kernel
theorem sc_is_name : FnScope ["thing", "sign"] ["thing"] (defScope (topS 9)) := ⟨rfl, rfl, rfl, by decide +kernel, rfl, by decide +kernel, by decide +kernel⟩
theorem ck_is_name : chkSs T ["thing", "sign"] (defScope (topS 9)) b_is_name (defBody (topS 9)) = true := by decide +kernel
theorem sc_days_in : FnScope ["year", "month"] ["year", "month"] (defScope (topS 10)) := ⟨rfl, rfl, rfl, by decide +kernel, rfl, by decide +kernel, by decide +kernel⟩
theorem ck_days_in : chkSs T ["year", "month"] (defScope (topS 10)) b_days_in (defBody (topS 10)) = true := by decide +kernel
theorem ckn_days_in : chkSs { T with nn := true } ["year", "month"] (defScope (topS 10)) b_days_in (defBody (topS 10)) = true := by decide +kernel
theorem sc_is_day : FnScope ["thing", "year", "month", "day"] ["thing"] (defScope (topS 11)) := ⟨rfl, rfl, rfl, by decide +kernel, rfl, by decide +kernel, by decide +kernel⟩
theorem ck_is_day : chkSs T ["thing", "year", "month", "day"] (defScope (topS 11)) b_is_day (defBody (topS 11)) = true := by decide +kernel
theorem ckn_is_day : chkSs { T with nn := true } ["thing", "year", "month", "day"] (defScope (topS 11)) b_is_day (defBody (topS 11)) = true := by decide +kernel
theorem sc_is_value_so_deep : FnScope ["thing", "deep", "kind", "content", "one"] ["thing", "deep"] (defScope (topS 12)) := ⟨rfl, rfl, rfl, by decide +kernel, rfl, by decide +kernel, by decide +kernel⟩
theorem ck_is_value_so_deep : chkSs T ["thing", "deep", "kind", "content", "one"] (defScope (topS 12)) b_is_value_so_deep (defBody (topS 12)) = true := by decide +kernel
theorem ckn_is_value_so_deep : chkSs { T with nn := true } ["thing", "deep", "kind", "content", "one"] (defScope (topS 12)) b_is_value_so_deep (defBody (topS 12)) = true := by decide +kernel
theorem sc_is_value : FnScope ["thing"] ["thing"] (defScope (topS 13)) := ⟨rfl, rfl, rfl, by decide +kernel, rfl, by decide +kernel, by decide +kernel⟩
theorem ck_is_value : chkSs T ["thing"] (defScope (topS 13)) b_is_value (defBody (topS 13)) = true := by decide +kernel
theorem ckn_is_value : chkSs { T with nn := true } ["thing"] (defScope (topS 13)) b_is_value (defBody (topS 13)) = true := by decide +kernel
theorem sc_quoted : FnScope ["text", "inner"] ["text"] (defScope (topS 15)) := ⟨rfl, rfl, rfl, by decide +kernel, rfl, by decide +kernel, by decide +kernel⟩
theorem ck_quoted : quoSt (defScope (topS 15)) (defBody (topS 15)) = true := by decide +kernel
theorem sc_written_value : FnScope ["value", "kind", "content", "one"] ["value"] (defScope (topS 16)) := ⟨rfl, rfl, rfl, by decide +kernel, rfl, by decide +kernel, by decide +kernel⟩
theorem ck_written_value : chkSs T ["value", "kind", "content", "one"] (defScope (topS 16)) b_written_value (defBody (topS 16)) = true := by decide +kernel
theorem ckn_written_value : chkSs { T with nn := true } ["value", "kind", "content", "one"] (defScope (topS 16)) b_written_value (defBody (topS 16)) = true := by decide +kernel
theorem sc_behind_blanks : FnScope ["text", "place"] ["text", "place"] (defScope (topS 19)) := ⟨rfl, rfl, rfl, by decide +kernel, rfl, by decide +kernel, by decide +kernel⟩
theorem ck_behind_blanks : chkSs T ["text", "place"] (defScope (topS 19)) b_behind_blanks (defBody (topS 19)) = true := by decide +kernel
theorem ckn_behind_blanks : chkSs { T with nn := true } ["text", "place"] (defScope (topS 19)) b_behind_blanks (defBody (topS 19)) = true := by decide +kernel
theorem sc_text_from : FnScope ["text", "place", "found", "sign"] ["text", "place"] (defScope (topS 20)) := ⟨rfl, rfl, rfl, by decide +kernel, rfl, by decide +kernel, by decide +kernel⟩
theorem ck_text_from : chkSs T ["text", "place", "found", "sign"] (defScope (topS 20)) b_text_from (defBody (topS 20)) = true := by decide +kernel
theorem ckn_text_from : chkSs { T with nn := true } ["text", "place", "found", "sign"] (defScope (topS 20)) b_text_from (defBody (topS 20)) = true := by decide +kernel
theorem sc_list_from : FnScope ["text", "place", "deep", "found", "value"] ["text", "place", "deep"] (defScope (topS 21)) := ⟨rfl, rfl, rfl, by decide +kernel, rfl, by decide +kernel, by decide +kernel⟩
theorem ck_list_from : chkSs T ["text", "place", "deep", "found", "value"] (defScope (topS 21)) b_list_from (defBody (topS 21)) = true := by decide +kernel
theorem ckn_list_from : chkSs { T with nn := true } ["text", "place", "deep", "found", "value"] (defScope (topS 21)) b_list_from (defBody (topS 21)) = true := by decide +kernel
theorem sc_are_figures : FnScope ["word", "sign"] ["word"] (defScope (topS 22)) := ⟨rfl, rfl, rfl, by decide +kernel, rfl, by decide +kernel, by decide +kernel⟩
theorem ck_are_figures : chkSs T ["word", "sign"] (defScope (topS 22)) b_are_figures (defBody (topS 22)) = true := by decide +kernel
theorem ckn_are_figures : chkSs { T with nn := true } ["word", "sign"] (defScope (topS 22)) b_are_figures (defBody (topS 22)) = true := by decide +kernel
theorem sc_plain_value : FnScope ["word", "parts", "part"] ["word"] (defScope (topS 23)) := ⟨rfl, rfl, rfl, by decide +kernel, rfl, by decide +kernel, by decide +kernel⟩
theorem ck_plain_value : chkSs T ["word", "parts", "part"] (defScope (topS 23)) b_plain_value (defBody (topS 23)) = true := by decide +kernel
theorem ckn_plain_value : chkSs { T with nn := true } ["word", "parts", "part"] (defScope (topS 23)) b_plain_value (defBody (topS 23)) = true := by decide +kernel
theorem sc_value_from : FnScope ["text", "place", "deep", "end", "value"] ["text", "place", "deep"] (defScope (topS 24)) := ⟨rfl, rfl, rfl, by decide +kernel, rfl, by decide +kernel, by decide +kernel⟩
theorem ck_value_from : chkSs T ["text", "place", "deep", "end", "value"] (defScope (topS 24)) b_value_from (defBody (topS 24)) = true := by decide +kernel
theorem ckn_value_from : chkSs { T with nn := true } ["text", "place", "deep", "end", "value"] (defScope (topS 24)) b_value_from (defBody (topS 24)) = true := by decide +kernel
theorem sc_whole_value_from : FnScope ["text", "place", "value", "end"] ["text", "place"] (defScope (topS 25)) := ⟨rfl, rfl, rfl, by decide +kernel, rfl, by decide +kernel, by decide +kernel⟩
theorem ck_whole_value_from : chkSs T ["text", "place", "value", "end"] (defScope (topS 25)) b_whole_value_from (defBody (topS 25)) = true := by decide +kernel
theorem ckn_whole_value_from : chkSs { T with nn := true } ["text", "place", "value", "end"] (defScope (topS 25)) b_whole_value_from (defBody (topS 25)) = true := by decide +kernel
theorem sc_name_from : FnScope ["row", "place", "end"] ["row", "place"] (defScope (topS 27)) := ⟨rfl, rfl, rfl, by decide +kernel, rfl, by decide +kernel, by decide +kernel⟩
theorem ck_name_from : chkSs T ["row", "place", "end"] (defScope (topS 27)) b_name_from (defBody (topS 27)) = true := by decide +kernel
theorem sc_section_from : FnScope ["row", "place", "names", "name"] ["row", "place"] (defScope (topS 28)) := ⟨rfl, rfl, rfl, by decide +kernel, rfl, by decide +kernel, by decide +kernel⟩
theorem ck_section_from : chkSs T ["row", "place", "names", "name"] (defScope (topS 28)) b_section_from (defBody (topS 28)) = true := by decide +kernel
theorem sc_setting_from : FnScope ["row", "place", "begin", "name", "value", "end"] ["row", "place"] (defScope (topS 29)) := ⟨rfl, rfl, rfl, by decide +kernel, rfl, by decide +kernel, by decide +kernel⟩
theorem ck_setting_from : chkSs T ["row", "place", "begin", "name", "value", "end"] (defScope (topS 29)) b_setting_from (defBody (topS 29)) = true := by decide +kernel
theorem sc_remark_behind : FnScope ["row", "end", "place"] ["row", "end"] (defScope (topS 30)) := ⟨rfl, rfl, rfl, by decide +kernel, rfl, by decide +kernel, by decide +kernel⟩
theorem ck_remark_behind : chkSs T ["row", "end", "place"] (defScope (topS 30)) b_remark_behind (defBody (topS 30)) = true := by decide +kernel
theorem sc_parts_of : FnScope ["row", "place", "name", "value", "begin", "end", "names"] ["row"] (defScope (topS 31)) := ⟨rfl, rfl, rfl, by decide +kernel, rfl, by decide +kernel, by decide +kernel⟩
theorem ck_parts_of : chkSs T ["row", "place", "name", "value", "begin", "end", "names"] (defScope (topS 31)) b_parts_of (defBody (topS 31)) = true := by decide +kernel
theorem sc_read_row : FnScope ["row"] ["row"] (defScope (topS 32)) := ⟨rfl, rfl, rfl, by decide +kernel, rfl, by decide +kernel, by decide +kernel⟩
theorem ck_read_row : chkSs T ["row"] (defScope (topS 32)) b_read_row (defBody (topS 32)) = true := by decide +kernel
theorem sc_remark_in : FnScope ["row"] ["row"] (defScope (topS 33)) := ⟨rfl, rfl, rfl, by decide +kernel, rfl, by decide +kernel, by decide +kernel⟩
theorem ck_remark_in : chkSs T ["row"] (defScope (topS 33)) b_remark_in (defBody (topS 33)) = true := by decide +kernel
theorem sc_row_with : FnScope ["row", "value", "name", "old", "begin", "end"] ["row", "value"] (defScope (topS 34)) := ⟨rfl, rfl, rfl, by decide +kernel, rfl, by decide +kernel, by decide +kernel⟩
theorem ck_row_with : chkSs T ["row", "value", "name", "old", "begin", "end"] (defScope (topS 34)) b_row_with (defBody (topS 34)) = true := by decide +kernel
theorem sc__law_cell : FnScope ["script", "k"] ["script", "k"] (defScope (topS 36)) := ⟨rfl, rfl, rfl, by decide +kernel, rfl, by decide +kernel, by decide +kernel⟩
theorem ck__law_cell : chkSs T ["script", "k"] (defScope (topS 36)) b__law_cell (defBody (topS 36)) = true := by decide +kernel
theorem sc__law_mix : FnScope ["cell", "prime", "many", "blend"] ["cell", "prime", "many"] (defScope (topS 37)) := ⟨rfl, rfl, rfl, by decide +kernel, rfl, by decide +kernel, by decide +kernel⟩
theorem ck__law_mix : chkSs T ["cell", "prime", "many", "blend"] (defScope (topS 37)) b__law_mix (defBody (topS 37)) = true := by decide +kernel
theorem sc__law_name : FnScope ["cell", "signs", "found", "k"] ["cell"] (defScope (topS 39)) := ⟨rfl, rfl, rfl, by decide +kernel, rfl, by decide +kernel, by decide +kernel⟩
theorem ck__law_name : chkSs T ["cell", "signs", "found", "k"] (defScope (topS 39)) b__law_name (defBody (topS 39)) = true := by decide +kernel
theorem sc__law_text : FnScope ["cell", "signs", "many", "k"] ["cell"] (defScope (topS 40)) := ⟨rfl, rfl, rfl, by decide +kernel, rfl, by decide +kernel, by decide +kernel⟩
theorem ck__law_text : chkSs T ["cell", "signs", "many", "k"] (defScope (topS 40)) b__law_text (defBody (topS 40)) = true := by decide +kernel
theorem sc__law_days : FnScope ["year", "month"] ["year", "month"] (defScope (topS 41)) := ⟨rfl, rfl, rfl, by decide +kernel, rfl, by decide +kernel, by decide +kernel⟩
theorem ck__law_days : chkSs T ["year", "month"] (defScope (topS 41)) b__law_days (defBody (topS 41)) = true := by decide +kernel
theorem sc__law_day : FnScope ["cell", "year", "month"] ["cell"] (defScope (topS 42)) := ⟨rfl, rfl, rfl, by decide +kernel, rfl, by decide +kernel, by decide +kernel⟩
theorem ck__law_day : chkSs T ["cell", "year", "month"] (defScope (topS 42)) b__law_day (defBody (topS 42)) = true := by decide +kernel
theorem sc__law_value : FnScope ["cell", "deep", "kind", "many", "k"] ["cell", "deep"] (defScope (topS 43)) := ⟨rfl, rfl, rfl, by decide +kernel, rfl, by decide +kernel, by decide +kernel⟩
theorem ck__law_value : chkSs T ["cell", "deep", "kind", "many", "k"] (defScope (topS 43)) b__law_value (defBody (topS 43)) = true := by decide +kernel
theorem sc__law_quoted : FnScope ["text", "sign"] ["text"] (defScope (topS 44)) := ⟨rfl, rfl, rfl, by decide +kernel, rfl, by decide +kernel, by decide +kernel⟩
theorem ck__law_quoted : chkSs T ["text", "sign"] (defScope (topS 44)) b__law_quoted (defBody (topS 44)) = true := by decide +kernel
theorem sc__law_written : FnScope ["value", "kind", "what", "one"] ["value"] (defScope (topS 45)) := ⟨rfl, rfl, rfl, by decide +kernel, rfl, by decide +kernel, by decide +kernel⟩
theorem ck__law_written : chkSs T ["value", "kind", "what", "one"] (defScope (topS 45)) b__law_written (defBody (topS 45)) = true := by decide +kernel
theorem sc__law_told : FnScope ["way", "row", "told", "e"] ["way", "row"] (defScope (topS 47)) := ⟨rfl, rfl, rfl, by decide +kernel, rfl, by decide +kernel, by decide +kernel⟩
theorem ck__law_told : chkSs T ["way", "row", "told", "e"] (defScope (topS 47)) b__law_told (defBody (topS 47)) = true := by decide +kernel
theorem sc__law_spoilt : FnScope ["cell", "name", "text", "some"] ["cell"] (defScope (topS 48)) := ⟨rfl, rfl, rfl, by decide +kernel, rfl, by decide +kernel, by decide +kernel⟩
theorem ck__law_spoilt : chkSs T ["cell", "name", "text", "some"] (defScope (topS 48)) b__law_spoilt (defBody (topS 48)) = true := by decide +kernel
theorem sc_law : FnScope ["script", "rows", "k", "row", "way"] ["script"] (defScope (topS 49)) := ⟨rfl, rfl, rfl, by decide +kernel, rfl, by decide +kernel, by decide +kernel⟩
theorem ck_law : chkSs T ["script", "rows", "k", "row", "way"] (defScope (topS 49)) b_law (defBody (topS 49)) = true := by decide +kernel
theorem all_mk {K : PySem.W.Frag} {h : Heap} {mg : Str → Option Value} {fa : Addr} (X : K.In h) (G : h.Ns mainGlobals mg) (hfa : mg "law" = some (.ref fa))
    {a0 : Addr} {od0 an0 : Option Addr} {sl0 : Array (Option Value)} {oc0 kV0 dc0 pm0 cd0 ct0 : Value}
    {a1 : Addr} {od1 an1 : Option Addr} {sl1 : Array (Option Value)} {oc1 kV1 dc1 pm1 cd1 ct1 : Value}
    {a2 : Addr} {od2 an2 : Option Addr} {sl2 : Array (Option Value)} {oc2 kV2 dc2 pm2 cd2 ct2 : Value}
    {a3 : Addr} {od3 an3 : Option Addr} {sl3 : Array (Option Value)} {oc3 kV3 dc3 pm3 cd3 ct3 : Value}
    {a4 : Addr} {od4 an4 : Option Addr} {sl4 : Array (Option Value)} {oc4 kV4 dc4 pm4 cd4 ct4 : Value}
    {a5 : Addr} {od5 an5 : Option Addr} {sl5 : Array (Option Value)} {oc5 kV5 dc5 pm5 cd5 ct5 : Value}
    {a6 : Addr} {od6 an6 : Option Addr} {sl6 : Array (Option Value)} {oc6 kV6 dc6 pm6 cd6 ct6 : Value}
    {a7 : Addr} {od7 an7 : Option Addr} {sl7 : Array (Option Value)} {oc7 kV7 dc7 pm7 cd7 ct7 : Value}
    {a8 : Addr} {od8 an8 : Option Addr} {sl8 : Array (Option Value)} {oc8 kV8 dc8 pm8 cd8 ct8 : Value}
    {a9 : Addr} {od9 an9 : Option Addr} {sl9 : Array (Option Value)} {oc9 kV9 dc9 pm9 cd9 ct9 : Value}
    {a10 : Addr} {od10 an10 : Option Addr} {sl10 : Array (Option Value)} {oc10 kV10 dc10 pm10 cd10 ct10 : Value}
    {a11 : Addr} {od11 an11 : Option Addr} {sl11 : Array (Option Value)} {oc11 kV11 dc11 pm11 cd11 ct11 : Value}
    {a12 : Addr} {od12 an12 : Option Addr} {sl12 : Array (Option Value)} {oc12 kV12 dc12 pm12 cd12 ct12 : Value}
    {a13 : Addr} {od13 an13 : Option Addr} {sl13 : Array (Option Value)} {oc13 kV13 dc13 pm13 cd13 ct13 : Value}
    {a14 : Addr} {od14 an14 : Option Addr} {sl14 : Array (Option Value)} {oc14 kV14 dc14 pm14 cd14 ct14 : Value}
    {a15 : Addr} {od15 an15 : Option Addr} {sl15 : Array (Option Value)} {oc15 kV15 dc15 pm15 cd15 ct15 : Value}
    {a16 : Addr} {od16 an16 : Option Addr} {sl16 : Array (Option Value)} {oc16 kV16 dc16 pm16 cd16 ct16 : Value}
    {a17 : Addr} {od17 an17 : Option Addr} {sl17 : Array (Option Value)} {oc17 kV17 dc17 pm17 cd17 ct17 : Value}
    {a18 : Addr} {od18 an18 : Option Addr} {sl18 : Array (Option Value)} {oc18 kV18 dc18 pm18 cd18 ct18 : Value}
    {a19 : Addr} {od19 an19 : Option Addr} {sl19 : Array (Option Value)} {oc19 kV19 dc19 pm19 cd19 ct19 : Value}
    {a20 : Addr} {od20 an20 : Option Addr} {sl20 : Array (Option Value)} {oc20 kV20 dc20 pm20 cd20 ct20 : Value}
    {a21 : Addr} {od21 an21 : Option Addr} {sl21 : Array (Option Value)} {oc21 kV21 dc21 pm21 cd21 ct21 : Value}
    {a22 : Addr} {od22 an22 : Option Addr} {sl22 : Array (Option Value)} {oc22 kV22 dc22 pm22 cd22 ct22 : Value}
    {a23 : Addr} {od23 an23 : Option Addr} {sl23 : Array (Option Value)} {oc23 kV23 dc23 pm23 cd23 ct23 : Value}
    {a24 : Addr} {od24 an24 : Option Addr} {sl24 : Array (Option Value)} {oc24 kV24 dc24 pm24 cd24 ct24 : Value}
    {a25 : Addr} {od25 an25 : Option Addr} {sl25 : Array (Option Value)} {oc25 kV25 dc25 pm25 cd25 ct25 : Value}
    {a26 : Addr} {od26 an26 : Option Addr} {sl26 : Array (Option Value)} {oc26 kV26 dc26 pm26 cd26 ct26 : Value}
    {a27 : Addr} {od27 an27 : Option Addr} {sl27 : Array (Option Value)} {oc27 kV27 dc27 pm27 cd27 ct27 : Value}
    {a28 : Addr} {od28 an28 : Option Addr} {sl28 : Array (Option Value)} {oc28 kV28 dc28 pm28 cd28 ct28 : Value}
    {a29 : Addr} {od29 an29 : Option Addr} {sl29 : Array (Option Value)} {oc29 kV29 dc29 pm29 cd29 ct29 : Value}
    {a30 : Addr} {od30 an30 : Option Addr} {sl30 : Array (Option Value)} {oc30 kV30 dc30 pm30 cd30 ct30 : Value}
    {a31 : Addr} {od31 an31 : Option Addr} {sl31 : Array (Option Value)} {oc31 kV31 dc31 pm31 cd31 ct31 : Value}
    {a32 : Addr} {od32 an32 : Option Addr} {sl32 : Array (Option Value)} {oc32 kV32 dc32 pm32 cd32 ct32 : Value}
    {a33 : Addr} {od33 an33 : Option Addr} {sl33 : Array (Option Value)} {oc33 kV33 dc33 pm33 cd33 ct33 : Value}
    {a34 : Addr} {od34 an34 : Option Addr} {sl34 : Array (Option Value)} {oc34 kV34 dc34 pm34 cd34 ct34 : Value}
    {gt0 : Tok}
    {gt1 : Tok}
    {ga2 : Addr} {gd2 : Option Addr} {gn2 : Nat} {gs2 : Array (Option Value)} {gt2_0 gt2_1 gt2_2 gt2_3 gt2_4 gt2_5 gt2_6 gt2_7 gt2_8 gt2_9 gt2_10 gt2_11 : Tok}
    {gt3 : Tok}
    {xa0 : Addr}
    {xa1 : Addr}
    {xa2 : Addr}
    (xn0 : PySem.W.nsIn K mainGlobals "SettingsError" = some (some (.ref xa0))) (xe0 : PySem.W.excIn K xa0 bmVE "ValueError.__new__" = true) (xk0 : PySem.W.keepIn K (.ref xa0) = true) (xs0 : PySem.W.subIn K (.ref xa0) (.type "BaseException") = some true) (xt0 : PySem.W.typeIn K (.ref xa0) = some (.type "type"))
    (xn1 : PySem.W.nsIn K mainGlobals "NoValue" = some (some (.ref xa1))) (xe1 : PySem.W.excIn K xa1 bmVE "ValueError.__new__" = true) (xk1 : PySem.W.keepIn K (.ref xa1) = true) (xs1 : PySem.W.subIn K (.ref xa1) (.type "BaseException") = some true) (xt1 : PySem.W.typeIn K (.ref xa1) = some (.type "type"))
    (xn2 : PySem.W.nsIn K mainGlobals "NoRow" = some (some (.ref xa2))) (xe2 : PySem.W.excIn K xa2 bmVE "ValueError.__new__" = true) (xk2 : PySem.W.keepIn K (.ref xa2) = true) (xs2 : PySem.W.subIn K (.ref xa2) (.type "BaseException") = some true) (xt2 : PySem.W.typeIn K (.ref xa2) = some (.type "type"))
    (ehg0 : PySem.W.findIn K (.ref xa0) "__getattribute__" = some (some (.builtin "BaseException.__getattribute__")))
    (ehk0 : PySem.W.findIn K (.ref xa0) "__getattr__" = some none)
    (ehs0 : PySem.W.subIn K (.ref xa0) (.type "BaseException") = some true)
    (ehd0 : PySem.W.hasDictIn K xa0 = true)
    (eha0 : PySem.W.findIn K (.ref xa0) "__class__" = some (some (.builtin "object.__class__")))
    (ehm0 : PySem.W.mroIn K xa0 (.type "object") = some true)
    (ekv0 : PySem.W.subIn K (.ref xa0) (.type "ValueError") = some true)
    (ep0_0 : PySem.W.subIn K (.ref xa0) (.ref xa0) = some true)
    (ep0_1 : PySem.W.subIn K (.ref xa0) (.ref xa1) = some false)
    (ep0_2 : PySem.W.subIn K (.ref xa0) (.ref xa2) = some false)
    (ehg1 : PySem.W.findIn K (.ref xa1) "__getattribute__" = some (some (.builtin "BaseException.__getattribute__")))
    (ehk1 : PySem.W.findIn K (.ref xa1) "__getattr__" = some none)
    (ehs1 : PySem.W.subIn K (.ref xa1) (.type "BaseException") = some true)
    (ehd1 : PySem.W.hasDictIn K xa1 = true)
    (eha1 : PySem.W.findIn K (.ref xa1) "__class__" = some (some (.builtin "object.__class__")))
    (ehm1 : PySem.W.mroIn K xa1 (.type "object") = some true)
    (ekv1 : PySem.W.subIn K (.ref xa1) (.type "ValueError") = some true)
    (ep1_0 : PySem.W.subIn K (.ref xa1) (.ref xa0) = some true)
    (ep1_1 : PySem.W.subIn K (.ref xa1) (.ref xa1) = some true)
    (ep1_2 : PySem.W.subIn K (.ref xa1) (.ref xa2) = some false)
    (ehg2 : PySem.W.findIn K (.ref xa2) "__getattribute__" = some (some (.builtin "BaseException.__getattribute__")))
    (ehk2 : PySem.W.findIn K (.ref xa2) "__getattr__" = some none)
    (ehs2 : PySem.W.subIn K (.ref xa2) (.type "BaseException") = some true)
    (ehd2 : PySem.W.hasDictIn K xa2 = true)
    (eha2 : PySem.W.findIn K (.ref xa2) "__class__" = some (some (.builtin "object.__class__")))
    (ehm2 : PySem.W.mroIn K xa2 (.type "object") = some true)
    (ekv2 : PySem.W.subIn K (.ref xa2) (.type "ValueError") = some true)
    (ep2_0 : PySem.W.subIn K (.ref xa2) (.ref xa0) = some true)
    (ep2_1 : PySem.W.subIn K (.ref xa2) (.ref xa1) = some false)
    (ep2_2 : PySem.W.subIn K (.ref xa2) (.ref xa2) = some true)
    (ehn : PySem.W.specialIn K (.builtin "object.__class__") "__get__" = some (some (.builtin "getset_descriptor.__get__"))) (eht : PySem.W.takesIn K (.builtin "object.__class__") = some true)
    (n0 : PySem.W.nsIn K mainGlobals "is_number" = some (some (.ref a0))) (l0 : K.lookup a0 = some ⟨oc0, od0, .func (PySem.W.fnOf "is_number" "is_number" (defArgs (topS 8)) (defBody (topS 8)) (defScope (topS 8)) .none kV0 dc0 pm0 an0 cd0 ct0), sl0⟩) (c0 : PySem.W.codeIn K cd0 "is_number" = true) (k0 : PySem.W.keepIn K (.ref a0) = true)
    (n1 : PySem.W.nsIn K mainGlobals "is_name" = some (some (.ref a1))) (l1 : K.lookup a1 = some ⟨oc1, od1, .func (PySem.W.fnOf "is_name" "is_name" (defArgs (topS 9)) (defBody (topS 9)) (defScope (topS 9)) .none kV1 dc1 pm1 an1 cd1 ct1), sl1⟩) (c1 : PySem.W.codeIn K cd1 "is_name" = true) (k1 : PySem.W.keepIn K (.ref a1) = true)
    (n2 : PySem.W.nsIn K mainGlobals "days_in" = some (some (.ref a2))) (l2 : K.lookup a2 = some ⟨oc2, od2, .func (PySem.W.fnOf "days_in" "days_in" (defArgs (topS 10)) (defBody (topS 10)) (defScope (topS 10)) .none kV2 dc2 pm2 an2 cd2 ct2), sl2⟩) (c2 : PySem.W.codeIn K cd2 "days_in" = true) (k2 : PySem.W.keepIn K (.ref a2) = true)
    (n3 : PySem.W.nsIn K mainGlobals "is_day" = some (some (.ref a3))) (l3 : K.lookup a3 = some ⟨oc3, od3, .func (PySem.W.fnOf "is_day" "is_day" (defArgs (topS 11)) (defBody (topS 11)) (defScope (topS 11)) .none kV3 dc3 pm3 an3 cd3 ct3), sl3⟩) (c3 : PySem.W.codeIn K cd3 "is_day" = true) (k3 : PySem.W.keepIn K (.ref a3) = true)
    (n4 : PySem.W.nsIn K mainGlobals "is_value_so_deep" = some (some (.ref a4))) (l4 : K.lookup a4 = some ⟨oc4, od4, .func (PySem.W.fnOf "is_value_so_deep" "is_value_so_deep" (defArgs (topS 12)) (defBody (topS 12)) (defScope (topS 12)) .none kV4 dc4 pm4 an4 cd4 ct4), sl4⟩) (c4 : PySem.W.codeIn K cd4 "is_value_so_deep" = true) (k4 : PySem.W.keepIn K (.ref a4) = true)
    (n5 : PySem.W.nsIn K mainGlobals "is_value" = some (some (.ref a5))) (l5 : K.lookup a5 = some ⟨oc5, od5, .func (PySem.W.fnOf "is_value" "is_value" (defArgs (topS 13)) (defBody (topS 13)) (defScope (topS 13)) .none kV5 dc5 pm5 an5 cd5 ct5), sl5⟩) (c5 : PySem.W.codeIn K cd5 "is_value" = true) (k5 : PySem.W.keepIn K (.ref a5) = true)
    (n6 : PySem.W.nsIn K mainGlobals "quoted" = some (some (.ref a6))) (l6 : K.lookup a6 = some ⟨oc6, od6, .func (PySem.W.fnOf "quoted" "quoted" (defArgs (topS 15)) (defBody (topS 15)) (defScope (topS 15)) .none kV6 dc6 pm6 an6 cd6 ct6), sl6⟩) (c6 : PySem.W.codeIn K cd6 "quoted" = true) (k6 : PySem.W.keepIn K (.ref a6) = true)
    (n7 : PySem.W.nsIn K mainGlobals "written_value" = some (some (.ref a7))) (l7 : K.lookup a7 = some ⟨oc7, od7, .func (PySem.W.fnOf "written_value" "written_value" (defArgs (topS 16)) (defBody (topS 16)) (defScope (topS 16)) .none kV7 dc7 pm7 an7 cd7 ct7), sl7⟩) (c7 : PySem.W.codeIn K cd7 "written_value" = true) (k7 : PySem.W.keepIn K (.ref a7) = true)
    (n8 : PySem.W.nsIn K mainGlobals "behind_blanks" = some (some (.ref a8))) (l8 : K.lookup a8 = some ⟨oc8, od8, .func (PySem.W.fnOf "behind_blanks" "behind_blanks" (defArgs (topS 19)) (defBody (topS 19)) (defScope (topS 19)) .none kV8 dc8 pm8 an8 cd8 ct8), sl8⟩) (c8 : PySem.W.codeIn K cd8 "behind_blanks" = true) (k8 : PySem.W.keepIn K (.ref a8) = true)
    (n9 : PySem.W.nsIn K mainGlobals "text_from" = some (some (.ref a9))) (l9 : K.lookup a9 = some ⟨oc9, od9, .func (PySem.W.fnOf "text_from" "text_from" (defArgs (topS 20)) (defBody (topS 20)) (defScope (topS 20)) .none kV9 dc9 pm9 an9 cd9 ct9), sl9⟩) (c9 : PySem.W.codeIn K cd9 "text_from" = true) (k9 : PySem.W.keepIn K (.ref a9) = true)
    (n10 : PySem.W.nsIn K mainGlobals "list_from" = some (some (.ref a10))) (l10 : K.lookup a10 = some ⟨oc10, od10, .func (PySem.W.fnOf "list_from" "list_from" (defArgs (topS 21)) (defBody (topS 21)) (defScope (topS 21)) .none kV10 dc10 pm10 an10 cd10 ct10), sl10⟩) (c10 : PySem.W.codeIn K cd10 "list_from" = true) (k10 : PySem.W.keepIn K (.ref a10) = true)
    (n11 : PySem.W.nsIn K mainGlobals "are_figures" = some (some (.ref a11))) (l11 : K.lookup a11 = some ⟨oc11, od11, .func (PySem.W.fnOf "are_figures" "are_figures" (defArgs (topS 22)) (defBody (topS 22)) (defScope (topS 22)) .none kV11 dc11 pm11 an11 cd11 ct11), sl11⟩) (c11 : PySem.W.codeIn K cd11 "are_figures" = true) (k11 : PySem.W.keepIn K (.ref a11) = true)
    (n12 : PySem.W.nsIn K mainGlobals "plain_value" = some (some (.ref a12))) (l12 : K.lookup a12 = some ⟨oc12, od12, .func (PySem.W.fnOf "plain_value" "plain_value" (defArgs (topS 23)) (defBody (topS 23)) (defScope (topS 23)) .none kV12 dc12 pm12 an12 cd12 ct12), sl12⟩) (c12 : PySem.W.codeIn K cd12 "plain_value" = true) (k12 : PySem.W.keepIn K (.ref a12) = true)
    (n13 : PySem.W.nsIn K mainGlobals "value_from" = some (some (.ref a13))) (l13 : K.lookup a13 = some ⟨oc13, od13, .func (PySem.W.fnOf "value_from" "value_from" (defArgs (topS 24)) (defBody (topS 24)) (defScope (topS 24)) .none kV13 dc13 pm13 an13 cd13 ct13), sl13⟩) (c13 : PySem.W.codeIn K cd13 "value_from" = true) (k13 : PySem.W.keepIn K (.ref a13) = true)
    (n14 : PySem.W.nsIn K mainGlobals "whole_value_from" = some (some (.ref a14))) (l14 : K.lookup a14 = some ⟨oc14, od14, .func (PySem.W.fnOf "whole_value_from" "whole_value_from" (defArgs (topS 25)) (defBody (topS 25)) (defScope (topS 25)) .none kV14 dc14 pm14 an14 cd14 ct14), sl14⟩) (c14 : PySem.W.codeIn K cd14 "whole_value_from" = true) (k14 : PySem.W.keepIn K (.ref a14) = true)
    (n15 : PySem.W.nsIn K mainGlobals "name_from" = some (some (.ref a15))) (l15 : K.lookup a15 = some ⟨oc15, od15, .func (PySem.W.fnOf "name_from" "name_from" (defArgs (topS 27)) (defBody (topS 27)) (defScope (topS 27)) .none kV15 dc15 pm15 an15 cd15 ct15), sl15⟩) (c15 : PySem.W.codeIn K cd15 "name_from" = true) (k15 : PySem.W.keepIn K (.ref a15) = true)
    (n16 : PySem.W.nsIn K mainGlobals "section_from" = some (some (.ref a16))) (l16 : K.lookup a16 = some ⟨oc16, od16, .func (PySem.W.fnOf "section_from" "section_from" (defArgs (topS 28)) (defBody (topS 28)) (defScope (topS 28)) .none kV16 dc16 pm16 an16 cd16 ct16), sl16⟩) (c16 : PySem.W.codeIn K cd16 "section_from" = true) (k16 : PySem.W.keepIn K (.ref a16) = true)
    (n17 : PySem.W.nsIn K mainGlobals "setting_from" = some (some (.ref a17))) (l17 : K.lookup a17 = some ⟨oc17, od17, .func (PySem.W.fnOf "setting_from" "setting_from" (defArgs (topS 29)) (defBody (topS 29)) (defScope (topS 29)) .none kV17 dc17 pm17 an17 cd17 ct17), sl17⟩) (c17 : PySem.W.codeIn K cd17 "setting_from" = true) (k17 : PySem.W.keepIn K (.ref a17) = true)
    (n18 : PySem.W.nsIn K mainGlobals "remark_behind" = some (some (.ref a18))) (l18 : K.lookup a18 = some ⟨oc18, od18, .func (PySem.W.fnOf "remark_behind" "remark_behind" (defArgs (topS 30)) (defBody (topS 30)) (defScope (topS 30)) .none kV18 dc18 pm18 an18 cd18 ct18), sl18⟩) (c18 : PySem.W.codeIn K cd18 "remark_behind" = true) (k18 : PySem.W.keepIn K (.ref a18) = true)
    (n19 : PySem.W.nsIn K mainGlobals "parts_of" = some (some (.ref a19))) (l19 : K.lookup a19 = some ⟨oc19, od19, .func (PySem.W.fnOf "parts_of" "parts_of" (defArgs (topS 31)) (defBody (topS 31)) (defScope (topS 31)) .none kV19 dc19 pm19 an19 cd19 ct19), sl19⟩) (c19 : PySem.W.codeIn K cd19 "parts_of" = true) (k19 : PySem.W.keepIn K (.ref a19) = true)
    (n20 : PySem.W.nsIn K mainGlobals "read_row" = some (some (.ref a20))) (l20 : K.lookup a20 = some ⟨oc20, od20, .func (PySem.W.fnOf "read_row" "read_row" (defArgs (topS 32)) (defBody (topS 32)) (defScope (topS 32)) .none kV20 dc20 pm20 an20 cd20 ct20), sl20⟩) (c20 : PySem.W.codeIn K cd20 "read_row" = true) (k20 : PySem.W.keepIn K (.ref a20) = true)
    (n21 : PySem.W.nsIn K mainGlobals "remark_in" = some (some (.ref a21))) (l21 : K.lookup a21 = some ⟨oc21, od21, .func (PySem.W.fnOf "remark_in" "remark_in" (defArgs (topS 33)) (defBody (topS 33)) (defScope (topS 33)) .none kV21 dc21 pm21 an21 cd21 ct21), sl21⟩) (c21 : PySem.W.codeIn K cd21 "remark_in" = true) (k21 : PySem.W.keepIn K (.ref a21) = true)
    (n22 : PySem.W.nsIn K mainGlobals "row_with" = some (some (.ref a22))) (l22 : K.lookup a22 = some ⟨oc22, od22, .func (PySem.W.fnOf "row_with" "row_with" (defArgs (topS 34)) (defBody (topS 34)) (defScope (topS 34)) .none kV22 dc22 pm22 an22 cd22 ct22), sl22⟩) (c22 : PySem.W.codeIn K cd22 "row_with" = true) (k22 : PySem.W.keepIn K (.ref a22) = true)
    (n23 : PySem.W.nsIn K mainGlobals "_law_cell" = some (some (.ref a23))) (l23 : K.lookup a23 = some ⟨oc23, od23, .func (PySem.W.fnOf "_law_cell" "_law_cell" (defArgs (topS 36)) (defBody (topS 36)) (defScope (topS 36)) .none kV23 dc23 pm23 an23 cd23 ct23), sl23⟩) (c23 : PySem.W.codeIn K cd23 "_law_cell" = true) (k23 : PySem.W.keepIn K (.ref a23) = true)
    (n24 : PySem.W.nsIn K mainGlobals "_law_mix" = some (some (.ref a24))) (l24 : K.lookup a24 = some ⟨oc24, od24, .func (PySem.W.fnOf "_law_mix" "_law_mix" (defArgs (topS 37)) (defBody (topS 37)) (defScope (topS 37)) .none kV24 dc24 pm24 an24 cd24 ct24), sl24⟩) (c24 : PySem.W.codeIn K cd24 "_law_mix" = true) (k24 : PySem.W.keepIn K (.ref a24) = true)
    (n25 : PySem.W.nsIn K mainGlobals "_law_name" = some (some (.ref a25))) (l25 : K.lookup a25 = some ⟨oc25, od25, .func (PySem.W.fnOf "_law_name" "_law_name" (defArgs (topS 39)) (defBody (topS 39)) (defScope (topS 39)) .none kV25 dc25 pm25 an25 cd25 ct25), sl25⟩) (c25 : PySem.W.codeIn K cd25 "_law_name" = true) (k25 : PySem.W.keepIn K (.ref a25) = true)
    (n26 : PySem.W.nsIn K mainGlobals "_law_text" = some (some (.ref a26))) (l26 : K.lookup a26 = some ⟨oc26, od26, .func (PySem.W.fnOf "_law_text" "_law_text" (defArgs (topS 40)) (defBody (topS 40)) (defScope (topS 40)) .none kV26 dc26 pm26 an26 cd26 ct26), sl26⟩) (c26 : PySem.W.codeIn K cd26 "_law_text" = true) (k26 : PySem.W.keepIn K (.ref a26) = true)
    (n27 : PySem.W.nsIn K mainGlobals "_law_days" = some (some (.ref a27))) (l27 : K.lookup a27 = some ⟨oc27, od27, .func (PySem.W.fnOf "_law_days" "_law_days" (defArgs (topS 41)) (defBody (topS 41)) (defScope (topS 41)) .none kV27 dc27 pm27 an27 cd27 ct27), sl27⟩) (c27 : PySem.W.codeIn K cd27 "_law_days" = true) (k27 : PySem.W.keepIn K (.ref a27) = true)
    (n28 : PySem.W.nsIn K mainGlobals "_law_day" = some (some (.ref a28))) (l28 : K.lookup a28 = some ⟨oc28, od28, .func (PySem.W.fnOf "_law_day" "_law_day" (defArgs (topS 42)) (defBody (topS 42)) (defScope (topS 42)) .none kV28 dc28 pm28 an28 cd28 ct28), sl28⟩) (c28 : PySem.W.codeIn K cd28 "_law_day" = true) (k28 : PySem.W.keepIn K (.ref a28) = true)
    (n29 : PySem.W.nsIn K mainGlobals "_law_value" = some (some (.ref a29))) (l29 : K.lookup a29 = some ⟨oc29, od29, .func (PySem.W.fnOf "_law_value" "_law_value" (defArgs (topS 43)) (defBody (topS 43)) (defScope (topS 43)) .none kV29 dc29 pm29 an29 cd29 ct29), sl29⟩) (c29 : PySem.W.codeIn K cd29 "_law_value" = true) (k29 : PySem.W.keepIn K (.ref a29) = true)
    (n30 : PySem.W.nsIn K mainGlobals "_law_quoted" = some (some (.ref a30))) (l30 : K.lookup a30 = some ⟨oc30, od30, .func (PySem.W.fnOf "_law_quoted" "_law_quoted" (defArgs (topS 44)) (defBody (topS 44)) (defScope (topS 44)) .none kV30 dc30 pm30 an30 cd30 ct30), sl30⟩) (c30 : PySem.W.codeIn K cd30 "_law_quoted" = true) (k30 : PySem.W.keepIn K (.ref a30) = true)
    (n31 : PySem.W.nsIn K mainGlobals "_law_written" = some (some (.ref a31))) (l31 : K.lookup a31 = some ⟨oc31, od31, .func (PySem.W.fnOf "_law_written" "_law_written" (defArgs (topS 45)) (defBody (topS 45)) (defScope (topS 45)) .none kV31 dc31 pm31 an31 cd31 ct31), sl31⟩) (c31 : PySem.W.codeIn K cd31 "_law_written" = true) (k31 : PySem.W.keepIn K (.ref a31) = true)
    (n32 : PySem.W.nsIn K mainGlobals "_law_told" = some (some (.ref a32))) (l32 : K.lookup a32 = some ⟨oc32, od32, .func (PySem.W.fnOf "_law_told" "_law_told" (defArgs (topS 47)) (defBody (topS 47)) (defScope (topS 47)) .none kV32 dc32 pm32 an32 cd32 ct32), sl32⟩) (c32 : PySem.W.codeIn K cd32 "_law_told" = true) (k32 : PySem.W.keepIn K (.ref a32) = true)
    (n33 : PySem.W.nsIn K mainGlobals "_law_spoilt" = some (some (.ref a33))) (l33 : K.lookup a33 = some ⟨oc33, od33, .func (PySem.W.fnOf "_law_spoilt" "_law_spoilt" (defArgs (topS 48)) (defBody (topS 48)) (defScope (topS 48)) .none kV33 dc33 pm33 an33 cd33 ct33), sl33⟩) (c33 : PySem.W.codeIn K cd33 "_law_spoilt" = true) (k33 : PySem.W.keepIn K (.ref a33) = true)
    (n34 : PySem.W.nsIn K mainGlobals "law" = some (some (.ref a34))) (l34 : K.lookup a34 = some ⟨oc34, od34, .func (PySem.W.fnOf "law" "law" (defArgs (topS 49)) (defBody (topS 49)) (defScope (topS 49)) .none kV34 dc34 pm34 an34 cd34 ct34), sl34⟩) (c34 : PySem.W.codeIn K cd34 "law" = true) (k34 : PySem.W.keepIn K (.ref a34) = true)
    (qg0 : PySem.W.nsIn K mainGlobals "LETTERS" = some (some (.str "abcdefghijklmnopqrstuvwxyz" gt0)))
    (qg1 : PySem.W.nsIn K mainGlobals "MOST" = some (some (.int 999999999 gt1)))
    (qg2 : PySem.W.nsIn K mainGlobals "MONTHS" = some (some (.ref ga2))) (ql2 : K.lookup ga2 = some ⟨.type "tuple", gd2, .seq #[.int 31 gt2_0, .int 28 gt2_1, .int 31 gt2_2, .int 30 gt2_3, .int 31 gt2_4, .int 30 gt2_5, .int 31 gt2_6, .int 31 gt2_7, .int 30 gt2_8, .int 31 gt2_9, .int 30 gt2_10, .int 31 gt2_11] gn2, gs2⟩)
    (qg3 : PySem.W.nsIn K mainGlobals "SIGNS" = some (some (.str "abcdefghijklmnopqrstuvwxyz0123456789-" gt3)))
    (z0 : PySem.W.nsIn K mainGlobals "len" = some none)
    (z1 : PySem.W.nsIn K mainGlobals "all" = some none)
    (z2 : PySem.W.nsIn K mainGlobals "any" = some none)
    (z3 : PySem.W.nsIn K mainGlobals "tuple" = some none)
    (z4 : PySem.W.nsIn K mainGlobals "list" = some none)
    (z5 : PySem.W.nsIn K mainGlobals "str" = some none)
    (z6 : PySem.W.nsIn K mainGlobals "int" = some none)
    (z7 : PySem.W.nsIn K mainGlobals "isinstance" = some none)
    (z8 : PySem.W.nsIn K mainGlobals "bool" = some none)
    (z9 : PySem.W.nsIn K mainGlobals "range" = some none)
    (z10 : PySem.W.nsIn K mainGlobals "enumerate" = some none)
    (z11 : PySem.W.nsIn K mainGlobals "zip" = some none)
    (z12 : PySem.W.nsIn K mainGlobals "sorted" = some none)
    (z13 : PySem.W.nsIn K mainGlobals "dict" = some none)
    (z14 : PySem.W.nsIn K mainGlobals "set" = some none)
    (z15 : PySem.W.nsIn K mainGlobals "min" = some none)
    (z16 : PySem.W.nsIn K mainGlobals "max" = some none)
    (z17 : PySem.W.nsIn K mainGlobals "ValueError" = some none)
    : (∀ f x np, T.fns[f]? = some (x, np) → ∃ a fd ps, DefIs K mg T tab f x np a fd ps) ∧ (∃ fd, DefIs K mg T tab 34 "law" 1 fa fd ["script"]) ∧
      (∀ (k : Nat) (x : Str), T.gls[k]? = some x → ∃ (d : Dt) (v : V) (u : Value), gls[k]? = some d ∧ mg x = some u ∧ RelV v u ∧ ∀ av H, Rep K av H d v) ∧
      (∀ x ∈ bltNames, mg (Str.ofString x) = none) ∧ (∀ (c : Nat) (x : Str), T.xcs[c]? = some (x, []) → XcOk (xtK K T.xcs) K mg c x) ∧ AllCln K mg { T with nn := true } tab T.cln := by
  have D0 : DefIs K mg T tab 0 "is_number" 3 a0 _ ["thing", "low", "high"] := ⟨topS 8, "is_number", _, f_is_number, fun_mk (st := topS 8) l0 c0 k0, sc_is_number, PySem.W.mg_of X G n0, fun us hl => match us, hl with | [_, _, _], _ => rfl, rfl, rfl, rfl, rfl, .inl ck_is_number⟩
  have D1 : DefIs K mg T tab 1 "is_name" 1 a1 _ ["thing"] := ⟨topS 9, "is_name", _, f_is_name, fun_mk (st := topS 9) l1 c1 k1, sc_is_name, PySem.W.mg_of X G n1, fun us hl => match us, hl with | [_], _ => rfl, rfl, rfl, rfl, rfl, .inl ck_is_name⟩
  have D2 : DefIs K mg T tab 2 "days_in" 2 a2 _ ["year", "month"] := ⟨topS 10, "days_in", _, f_days_in, fun_mk (st := topS 10) l2 c2 k2, sc_days_in, PySem.W.mg_of X G n2, fun us hl => match us, hl with | [_, _], _ => rfl, rfl, rfl, rfl, rfl, .inl ck_days_in⟩
  have D3 : DefIs K mg T tab 3 "is_day" 1 a3 _ ["thing"] := ⟨topS 11, "is_day", _, f_is_day, fun_mk (st := topS 11) l3 c3 k3, sc_is_day, PySem.W.mg_of X G n3, fun us hl => match us, hl with | [_], _ => rfl, rfl, rfl, rfl, rfl, .inl ck_is_day⟩
  have D4 : DefIs K mg T tab 4 "is_value_so_deep" 2 a4 _ ["thing", "deep"] := ⟨topS 12, "is_value_so_deep", _, f_is_value_so_deep, fun_mk (st := topS 12) l4 c4 k4, sc_is_value_so_deep, PySem.W.mg_of X G n4, fun us hl => match us, hl with | [_, _], _ => rfl, rfl, rfl, rfl, rfl, .inl ck_is_value_so_deep⟩
  have D5 : DefIs K mg T tab 5 "is_value" 1 a5 _ ["thing"] := ⟨topS 13, "is_value", _, f_is_value, fun_mk (st := topS 13) l5 c5 k5, sc_is_value, PySem.W.mg_of X G n5, fun us hl => match us, hl with | [_], _ => rfl, rfl, rfl, rfl, rfl, .inl ck_is_value⟩
  have D6 : DefIs K mg T tab 6 "quoted" 1 a6 _ ["text"] := ⟨topS 15, "quoted", _, f_quoted, fun_mk (st := topS 15) l6 c6 k6, sc_quoted, PySem.W.mg_of X G n6, fun us hl => match us, hl with | [_], _ => rfl, rfl, rfl, rfl, rfl, .inr ⟨rfl, rfl, rfl, ck_quoted⟩⟩
  have D7 : DefIs K mg T tab 7 "written_value" 1 a7 _ ["value"] := ⟨topS 16, "written_value", _, f_written_value, fun_mk (st := topS 16) l7 c7 k7, sc_written_value, PySem.W.mg_of X G n7, fun us hl => match us, hl with | [_], _ => rfl, rfl, rfl, rfl, rfl, .inl ck_written_value⟩
  have D8 : DefIs K mg T tab 8 "behind_blanks" 2 a8 _ ["text", "place"] := ⟨topS 19, "behind_blanks", _, f_behind_blanks, fun_mk (st := topS 19) l8 c8 k8, sc_behind_blanks, PySem.W.mg_of X G n8, fun us hl => match us, hl with | [_, _], _ => rfl, rfl, rfl, rfl, rfl, .inl ck_behind_blanks⟩
  have D9 : DefIs K mg T tab 9 "text_from" 2 a9 _ ["text", "place"] := ⟨topS 20, "text_from", _, f_text_from, fun_mk (st := topS 20) l9 c9 k9, sc_text_from, PySem.W.mg_of X G n9, fun us hl => match us, hl with | [_, _], _ => rfl, rfl, rfl, rfl, rfl, .inl ck_text_from⟩
  have D10 : DefIs K mg T tab 10 "list_from" 3 a10 _ ["text", "place", "deep"] := ⟨topS 21, "list_from", _, f_list_from, fun_mk (st := topS 21) l10 c10 k10, sc_list_from, PySem.W.mg_of X G n10, fun us hl => match us, hl with | [_, _, _], _ => rfl, rfl, rfl, rfl, rfl, .inl ck_list_from⟩
  have D11 : DefIs K mg T tab 11 "are_figures" 1 a11 _ ["word"] := ⟨topS 22, "are_figures", _, f_are_figures, fun_mk (st := topS 22) l11 c11 k11, sc_are_figures, PySem.W.mg_of X G n11, fun us hl => match us, hl with | [_], _ => rfl, rfl, rfl, rfl, rfl, .inl ck_are_figures⟩
  have D12 : DefIs K mg T tab 12 "plain_value" 1 a12 _ ["word"] := ⟨topS 23, "plain_value", _, f_plain_value, fun_mk (st := topS 23) l12 c12 k12, sc_plain_value, PySem.W.mg_of X G n12, fun us hl => match us, hl with | [_], _ => rfl, rfl, rfl, rfl, rfl, .inl ck_plain_value⟩
  have D13 : DefIs K mg T tab 13 "value_from" 3 a13 _ ["text", "place", "deep"] := ⟨topS 24, "value_from", _, f_value_from, fun_mk (st := topS 24) l13 c13 k13, sc_value_from, PySem.W.mg_of X G n13, fun us hl => match us, hl with | [_, _, _], _ => rfl, rfl, rfl, rfl, rfl, .inl ck_value_from⟩
  have D14 : DefIs K mg T tab 14 "whole_value_from" 2 a14 _ ["text", "place"] := ⟨topS 25, "whole_value_from", _, f_whole_value_from, fun_mk (st := topS 25) l14 c14 k14, sc_whole_value_from, PySem.W.mg_of X G n14, fun us hl => match us, hl with | [_, _], _ => rfl, rfl, rfl, rfl, rfl, .inl ck_whole_value_from⟩
  have D15 : DefIs K mg T tab 15 "name_from" 2 a15 _ ["row", "place"] := ⟨topS 27, "name_from", _, f_name_from, fun_mk (st := topS 27) l15 c15 k15, sc_name_from, PySem.W.mg_of X G n15, fun us hl => match us, hl with | [_, _], _ => rfl, rfl, rfl, rfl, rfl, .inl ck_name_from⟩
  have D16 : DefIs K mg T tab 16 "section_from" 2 a16 _ ["row", "place"] := ⟨topS 28, "section_from", _, f_section_from, fun_mk (st := topS 28) l16 c16 k16, sc_section_from, PySem.W.mg_of X G n16, fun us hl => match us, hl with | [_, _], _ => rfl, rfl, rfl, rfl, rfl, .inl ck_section_from⟩
  have D17 : DefIs K mg T tab 17 "setting_from" 2 a17 _ ["row", "place"] := ⟨topS 29, "setting_from", _, f_setting_from, fun_mk (st := topS 29) l17 c17 k17, sc_setting_from, PySem.W.mg_of X G n17, fun us hl => match us, hl with | [_, _], _ => rfl, rfl, rfl, rfl, rfl, .inl ck_setting_from⟩
  have D18 : DefIs K mg T tab 18 "remark_behind" 2 a18 _ ["row", "end"] := ⟨topS 30, "remark_behind", _, f_remark_behind, fun_mk (st := topS 30) l18 c18 k18, sc_remark_behind, PySem.W.mg_of X G n18, fun us hl => match us, hl with | [_, _], _ => rfl, rfl, rfl, rfl, rfl, .inl ck_remark_behind⟩
  have D19 : DefIs K mg T tab 19 "parts_of" 1 a19 _ ["row"] := ⟨topS 31, "parts_of", _, f_parts_of, fun_mk (st := topS 31) l19 c19 k19, sc_parts_of, PySem.W.mg_of X G n19, fun us hl => match us, hl with | [_], _ => rfl, rfl, rfl, rfl, rfl, .inl ck_parts_of⟩
  have D20 : DefIs K mg T tab 20 "read_row" 1 a20 _ ["row"] := ⟨topS 32, "read_row", _, f_read_row, fun_mk (st := topS 32) l20 c20 k20, sc_read_row, PySem.W.mg_of X G n20, fun us hl => match us, hl with | [_], _ => rfl, rfl, rfl, rfl, rfl, .inl ck_read_row⟩
  have D21 : DefIs K mg T tab 21 "remark_in" 1 a21 _ ["row"] := ⟨topS 33, "remark_in", _, f_remark_in, fun_mk (st := topS 33) l21 c21 k21, sc_remark_in, PySem.W.mg_of X G n21, fun us hl => match us, hl with | [_], _ => rfl, rfl, rfl, rfl, rfl, .inl ck_remark_in⟩
  have D22 : DefIs K mg T tab 22 "row_with" 2 a22 _ ["row", "value"] := ⟨topS 34, "row_with", _, f_row_with, fun_mk (st := topS 34) l22 c22 k22, sc_row_with, PySem.W.mg_of X G n22, fun us hl => match us, hl with | [_, _], _ => rfl, rfl, rfl, rfl, rfl, .inl ck_row_with⟩
  have D23 : DefIs K mg T tab 23 "_law_cell" 2 a23 _ ["script", "k"] := ⟨topS 36, "_law_cell", _, f__law_cell, fun_mk (st := topS 36) l23 c23 k23, sc__law_cell, PySem.W.mg_of X G n23, fun us hl => match us, hl with | [_, _], _ => rfl, rfl, rfl, rfl, rfl, .inl ck__law_cell⟩
  have D24 : DefIs K mg T tab 24 "_law_mix" 3 a24 _ ["cell", "prime", "many"] := ⟨topS 37, "_law_mix", _, f__law_mix, fun_mk (st := topS 37) l24 c24 k24, sc__law_mix, PySem.W.mg_of X G n24, fun us hl => match us, hl with | [_, _, _], _ => rfl, rfl, rfl, rfl, rfl, .inl ck__law_mix⟩
  have D25 : DefIs K mg T tab 25 "_law_name" 1 a25 _ ["cell"] := ⟨topS 39, "_law_name", _, f__law_name, fun_mk (st := topS 39) l25 c25 k25, sc__law_name, PySem.W.mg_of X G n25, fun us hl => match us, hl with | [_], _ => rfl, rfl, rfl, rfl, rfl, .inl ck__law_name⟩
  have D26 : DefIs K mg T tab 26 "_law_text" 1 a26 _ ["cell"] := ⟨topS 40, "_law_text", _, f__law_text, fun_mk (st := topS 40) l26 c26 k26, sc__law_text, PySem.W.mg_of X G n26, fun us hl => match us, hl with | [_], _ => rfl, rfl, rfl, rfl, rfl, .inl ck__law_text⟩
  have D27 : DefIs K mg T tab 27 "_law_days" 2 a27 _ ["year", "month"] := ⟨topS 41, "_law_days", _, f__law_days, fun_mk (st := topS 41) l27 c27 k27, sc__law_days, PySem.W.mg_of X G n27, fun us hl => match us, hl with | [_, _], _ => rfl, rfl, rfl, rfl, rfl, .inl ck__law_days⟩
  have D28 : DefIs K mg T tab 28 "_law_day" 1 a28 _ ["cell"] := ⟨topS 42, "_law_day", _, f__law_day, fun_mk (st := topS 42) l28 c28 k28, sc__law_day, PySem.W.mg_of X G n28, fun us hl => match us, hl with | [_], _ => rfl, rfl, rfl, rfl, rfl, .inl ck__law_day⟩
  have D29 : DefIs K mg T tab 29 "_law_value" 2 a29 _ ["cell", "deep"] := ⟨topS 43, "_law_value", _, f__law_value, fun_mk (st := topS 43) l29 c29 k29, sc__law_value, PySem.W.mg_of X G n29, fun us hl => match us, hl with | [_, _], _ => rfl, rfl, rfl, rfl, rfl, .inl ck__law_value⟩
  have D30 : DefIs K mg T tab 30 "_law_quoted" 1 a30 _ ["text"] := ⟨topS 44, "_law_quoted", _, f__law_quoted, fun_mk (st := topS 44) l30 c30 k30, sc__law_quoted, PySem.W.mg_of X G n30, fun us hl => match us, hl with | [_], _ => rfl, rfl, rfl, rfl, rfl, .inl ck__law_quoted⟩
  have D31 : DefIs K mg T tab 31 "_law_written" 1 a31 _ ["value"] := ⟨topS 45, "_law_written", _, f__law_written, fun_mk (st := topS 45) l31 c31 k31, sc__law_written, PySem.W.mg_of X G n31, fun us hl => match us, hl with | [_], _ => rfl, rfl, rfl, rfl, rfl, .inl ck__law_written⟩
  have D32 : DefIs K mg T tab 32 "_law_told" 2 a32 _ ["way", "row"] := ⟨topS 47, "_law_told", _, f__law_told, fun_mk (st := topS 47) l32 c32 k32, sc__law_told, PySem.W.mg_of X G n32, fun us hl => match us, hl with | [_, _], _ => rfl, rfl, rfl, rfl, rfl, .inl ck__law_told⟩
  have D33 : DefIs K mg T tab 33 "_law_spoilt" 1 a33 _ ["cell"] := ⟨topS 48, "_law_spoilt", _, f__law_spoilt, fun_mk (st := topS 48) l33 c33 k33, sc__law_spoilt, PySem.W.mg_of X G n33, fun us hl => match us, hl with | [_], _ => rfl, rfl, rfl, rfl, rfl, .inl ck__law_spoilt⟩
  have D34 : DefIs K mg T tab 34 "law" 1 a34 _ ["script"] := ⟨topS 49, "law", _, f_law, fun_mk (st := topS 49) l34 c34 k34, sc_law, PySem.W.mg_of X G n34, fun us hl => match us, hl with | [_], _ => rfl, rfl, rfl, rfl, rfl, .inl ck_law⟩
  have DN14 : DefIs K mg { T with nn := true } tab 14 "whole_value_from" 2 a14 _ ["text", "place"] := ⟨topS 25, "whole_value_from", _, f_whole_value_from, fun_mk (st := topS 25) l14 c14 k14, sc_whole_value_from, PySem.W.mg_of X G n14, fun us hl => match us, hl with | [_, _], _ => rfl, rfl, rfl, rfl, rfl, .inl ckn_whole_value_from⟩
  have DN13 : DefIs K mg { T with nn := true } tab 13 "value_from" 3 a13 _ ["text", "place", "deep"] := ⟨topS 24, "value_from", _, f_value_from, fun_mk (st := topS 24) l13 c13 k13, sc_value_from, PySem.W.mg_of X G n13, fun us hl => match us, hl with | [_, _, _], _ => rfl, rfl, rfl, rfl, rfl, .inl ckn_value_from⟩
  have DN5 : DefIs K mg { T with nn := true } tab 5 "is_value" 1 a5 _ ["thing"] := ⟨topS 13, "is_value", _, f_is_value, fun_mk (st := topS 13) l5 c5 k5, sc_is_value, PySem.W.mg_of X G n5, fun us hl => match us, hl with | [_], _ => rfl, rfl, rfl, rfl, rfl, .inl ckn_is_value⟩
  have DN12 : DefIs K mg { T with nn := true } tab 12 "plain_value" 1 a12 _ ["word"] := ⟨topS 23, "plain_value", _, f_plain_value, fun_mk (st := topS 23) l12 c12 k12, sc_plain_value, PySem.W.mg_of X G n12, fun us hl => match us, hl with | [_], _ => rfl, rfl, rfl, rfl, rfl, .inl ckn_plain_value⟩
  have DN9 : DefIs K mg { T with nn := true } tab 9 "text_from" 2 a9 _ ["text", "place"] := ⟨topS 20, "text_from", _, f_text_from, fun_mk (st := topS 20) l9 c9 k9, sc_text_from, PySem.W.mg_of X G n9, fun us hl => match us, hl with | [_, _], _ => rfl, rfl, rfl, rfl, rfl, .inl ckn_text_from⟩
  have DN10 : DefIs K mg { T with nn := true } tab 10 "list_from" 3 a10 _ ["text", "place", "deep"] := ⟨topS 21, "list_from", _, f_list_from, fun_mk (st := topS 21) l10 c10 k10, sc_list_from, PySem.W.mg_of X G n10, fun us hl => match us, hl with | [_, _, _], _ => rfl, rfl, rfl, rfl, rfl, .inl ckn_list_from⟩
  have DN7 : DefIs K mg { T with nn := true } tab 7 "written_value" 1 a7 _ ["value"] := ⟨topS 16, "written_value", _, f_written_value, fun_mk (st := topS 16) l7 c7 k7, sc_written_value, PySem.W.mg_of X G n7, fun us hl => match us, hl with | [_], _ => rfl, rfl, rfl, rfl, rfl, .inl ckn_written_value⟩
  have DN4 : DefIs K mg { T with nn := true } tab 4 "is_value_so_deep" 2 a4 _ ["thing", "deep"] := ⟨topS 12, "is_value_so_deep", _, f_is_value_so_deep, fun_mk (st := topS 12) l4 c4 k4, sc_is_value_so_deep, PySem.W.mg_of X G n4, fun us hl => match us, hl with | [_, _], _ => rfl, rfl, rfl, rfl, rfl, .inl ckn_is_value_so_deep⟩
  have DN11 : DefIs K mg { T with nn := true } tab 11 "are_figures" 1 a11 _ ["word"] := ⟨topS 22, "are_figures", _, f_are_figures, fun_mk (st := topS 22) l11 c11 k11, sc_are_figures, PySem.W.mg_of X G n11, fun us hl => match us, hl with | [_], _ => rfl, rfl, rfl, rfl, rfl, .inl ckn_are_figures⟩
  have DN8 : DefIs K mg { T with nn := true } tab 8 "behind_blanks" 2 a8 _ ["text", "place"] := ⟨topS 19, "behind_blanks", _, f_behind_blanks, fun_mk (st := topS 19) l8 c8 k8, sc_behind_blanks, PySem.W.mg_of X G n8, fun us hl => match us, hl with | [_, _], _ => rfl, rfl, rfl, rfl, rfl, .inl ckn_behind_blanks⟩
  have DN6 : DefIs K mg { T with nn := true } tab 6 "quoted" 1 a6 _ ["text"] := ⟨topS 15, "quoted", _, f_quoted, fun_mk (st := topS 15) l6 c6 k6, sc_quoted, PySem.W.mg_of X G n6, fun us hl => match us, hl with | [_], _ => rfl, rfl, rfl, rfl, rfl, .inr ⟨rfl, rfl, rfl, ck_quoted⟩⟩
  have DN0 : DefIs K mg { T with nn := true } tab 0 "is_number" 3 a0 _ ["thing", "low", "high"] := ⟨topS 8, "is_number", _, f_is_number, fun_mk (st := topS 8) l0 c0 k0, sc_is_number, PySem.W.mg_of X G n0, fun us hl => match us, hl with | [_, _, _], _ => rfl, rfl, rfl, rfl, rfl, .inl ckn_is_number⟩
  have DN3 : DefIs K mg { T with nn := true } tab 3 "is_day" 1 a3 _ ["thing"] := ⟨topS 11, "is_day", _, f_is_day, fun_mk (st := topS 11) l3 c3 k3, sc_is_day, PySem.W.mg_of X G n3, fun us hl => match us, hl with | [_], _ => rfl, rfl, rfl, rfl, rfl, .inl ckn_is_day⟩
  have DN2 : DefIs K mg { T with nn := true } tab 2 "days_in" 2 a2 _ ["year", "month"] := ⟨topS 10, "days_in", _, f_days_in, fun_mk (st := topS 10) l2 c2 k2, sc_days_in, PySem.W.mg_of X G n2, fun us hl => match us, hl with | [_, _], _ => rfl, rfl, rfl, rfl, rfl, .inl ckn_days_in⟩
  have e := hfa.symm.trans (PySem.W.mg_of X G n34)
  cases e
  refine ⟨AllDefs.get (L := T.fns) ⟨⟨_, _, _, D0⟩, ⟨_, _, _, D1⟩, ⟨_, _, _, D2⟩, ⟨_, _, _, D3⟩, ⟨_, _, _, D4⟩, ⟨_, _, _, D5⟩, ⟨_, _, _, D6⟩, ⟨_, _, _, D7⟩, ⟨_, _, _, D8⟩, ⟨_, _, _, D9⟩, ⟨_, _, _, D10⟩, ⟨_, _, _, D11⟩, ⟨_, _, _, D12⟩, ⟨_, _, _, D13⟩, ⟨_, _, _, D14⟩, ⟨_, _, _, D15⟩, ⟨_, _, _, D16⟩, ⟨_, _, _, D17⟩, ⟨_, _, _, D18⟩, ⟨_, _, _, D19⟩, ⟨_, _, _, D20⟩, ⟨_, _, _, D21⟩, ⟨_, _, _, D22⟩, ⟨_, _, _, D23⟩, ⟨_, _, _, D24⟩, ⟨_, _, _, D25⟩, ⟨_, _, _, D26⟩, ⟨_, _, _, D27⟩, ⟨_, _, _, D28⟩, ⟨_, _, _, D29⟩, ⟨_, _, _, D30⟩, ⟨_, _, _, D31⟩, ⟨_, _, _, D32⟩, ⟨_, _, _, D33⟩, ⟨_, _, _, D34⟩, trivial⟩, ⟨_, D34⟩, AllGl.get (L := T.gls) ⟨?_, ?_, ?_, ?_, trivial⟩, AllBlt.get (L := bltNames) ⟨PySem.W.mg_none_of X G z0, PySem.W.mg_none_of X G z1, PySem.W.mg_none_of X G z2, PySem.W.mg_none_of X G z3, PySem.W.mg_none_of X G z4, PySem.W.mg_none_of X G z5, PySem.W.mg_none_of X G z6, PySem.W.mg_none_of X G z7, PySem.W.mg_none_of X G z8, PySem.W.mg_none_of X G z9, PySem.W.mg_none_of X G z10, PySem.W.mg_none_of X G z11, PySem.W.mg_none_of X G z12, PySem.W.mg_none_of X G z13, PySem.W.mg_none_of X G z14, PySem.W.mg_none_of X G z15, PySem.W.mg_none_of X G z16, PySem.W.mg_none_of X G z17, trivial⟩, AllXc.get (L := T.xcs) ⟨xcOk_mk X G rfl xn0 xe0 xk0 xs0 xt0 ⟨ehg0, ehk0, ehs0, ehd0, eha0, ehn, eht, ehm0⟩ (kit_ve ekv0) ⟨(fun D e => by cases (xn0.symm.trans e); exact kit_sub xs0 ehd0 xt0 ep0_0), (fun D e => by cases (xn1.symm.trans e); exact kit_sub xs1 ehd1 xt1 ep0_1), (fun D e => by cases (xn2.symm.trans e); exact kit_sub xs2 ehd2 xt2 ep0_2), trivial⟩, xcOk_mk X G rfl xn1 xe1 xk1 xs1 xt1 ⟨ehg1, ehk1, ehs1, ehd1, eha1, ehn, eht, ehm1⟩ (kit_ve ekv1) ⟨(fun D e => by cases (xn0.symm.trans e); exact kit_sub xs0 ehd0 xt0 ep1_0), (fun D e => by cases (xn1.symm.trans e); exact kit_sub xs1 ehd1 xt1 ep1_1), (fun D e => by cases (xn2.symm.trans e); exact kit_sub xs2 ehd2 xt2 ep1_2), trivial⟩, xcOk_mk X G rfl xn2 xe2 xk2 xs2 xt2 ⟨ehg2, ehk2, ehs2, ehd2, eha2, ehn, eht, ehm2⟩ (kit_ve ekv2) ⟨(fun D e => by cases (xn0.symm.trans e); exact kit_sub xs0 ehd0 xt0 ep2_0), (fun D e => by cases (xn1.symm.trans e); exact kit_sub xs1 ehd1 xt1 ep2_1), (fun D e => by cases (xn2.symm.trans e); exact kit_sub xs2 ehd2 xt2 ep2_2), trivial⟩, trivial⟩, ⟨(fun x np e => by cases e; exact ⟨_, _, _, DN14⟩), (fun x np e => by cases e; exact ⟨_, _, _, DN13⟩), (fun x np e => by cases e; exact ⟨_, _, _, DN5⟩), (fun x np e => by cases e; exact ⟨_, _, _, DN12⟩), (fun x np e => by cases e; exact ⟨_, _, _, DN9⟩), (fun x np e => by cases e; exact ⟨_, _, _, DN10⟩), (fun x np e => by cases e; exact ⟨_, _, _, DN7⟩), (fun x np e => by cases e; exact ⟨_, _, _, DN4⟩), (fun x np e => by cases e; exact ⟨_, _, _, DN11⟩), (fun x np e => by cases e; exact ⟨_, _, _, DN8⟩), (fun x np e => by cases e; exact ⟨_, _, _, DN6⟩), (fun x np e => by cases e; exact ⟨_, _, _, DN0⟩), (fun x np e => by cases e; exact ⟨_, _, _, DN3⟩), (fun x np e => by cases e; exact ⟨_, _, _, DN2⟩), trivial⟩⟩
  · exact ⟨_, .str "abcdefghijklmnopqrstuvwxyz", _, rfl, PySem.W.mg_of X G qg0, ⟨_, rfl⟩, fun av H => rep_lit (by decide +kernel) (by decide +kernel)⟩
  · exact ⟨_, .int 999999999, _, rfl, PySem.W.mg_of X G qg1, ⟨_, rfl⟩, fun av H => .int _⟩
  · exact ⟨_, .ref ga2, _, rfl, PySem.W.mg_of X G qg2, rfl, fun av H => .tupK ⟨_, _, _, ql2, rfl, rfl, Nat.le_of_ble_eq_true rfl, (show Vals [.int 31, .int 28, .int 31, .int 30, .int 31, .int 30, .int 31, .int 31, .int 30, .int 31, .int 30, .int 31] _ from .cons ⟨_, rfl⟩ (.cons ⟨_, rfl⟩ (.cons ⟨_, rfl⟩ (.cons ⟨_, rfl⟩ (.cons ⟨_, rfl⟩ (.cons ⟨_, rfl⟩ (.cons ⟨_, rfl⟩ (.cons ⟨_, rfl⟩ (.cons ⟨_, rfl⟩ (.cons ⟨_, rfl⟩ (.cons ⟨_, rfl⟩ (.cons ⟨_, rfl⟩ (.nil)))))))))))))⟩ (.cons (.int _) (.cons (.int _) (.cons (.int _) (.cons (.int _) (.cons (.int _) (.cons (.int _) (.cons (.int _) (.cons (.int _) (.cons (.int _) (.cons (.int _) (.cons (.int _) (.cons (.int _) (.nil)))))))))))))⟩
  · exact ⟨_, .str "abcdefghijklmnopqrstuvwxyz0123456789-", _, rfl, PySem.W.mg_of X G qg3, ⟨_, rfl⟩, fun av H => rep_lit (by decide +kernel) (by decide +kernel)⟩

end PBX

set_option maxRecDepth 100000 in
set_option maxHeartbeats 0 in
theorem PySem.Challenge.cw_laysheets_k07_what_is_no_row_holds : PySem.Challenge.rw_laysheets_k07_what_is_no_row.Holds := by
  w_on; o_law; k_head; (case hw => w_witness2)
  k_fill
  refine PB.walk_law (l := PySem.Challenge.rw_laysheets_k07_what_is_no_row) PBX.T PBX.tab PBX.gls PBX.fuel 34 rfl rfl rfl ⟨rfl, by decide, by decide⟩ (fun w h Y => PySem.W.kIn_of Y) ?F PBX.law_ok
  case F =>
    intro w mg fa h KX G hmg
    refine' PBX.all_mk KX G hmg ?xn0 ?xe0 ?xk0 ?xs0 ?xt0 ?xn1 ?xe1 ?xk1 ?xs1 ?xt1 ?xn2 ?xe2 ?xk2 ?xs2 ?xt2 ?ehg0 ?ehk0 ?ehs0 ?ehd0 ?eha0 ?ehm0 ?ekv0 ?ep0_0 ?ep0_1 ?ep0_2 ?ehg1 ?ehk1 ?ehs1 ?ehd1 ?eha1 ?ehm1 ?ekv1 ?ep1_0 ?ep1_1 ?ep1_2 ?ehg2 ?ehk2 ?ehs2 ?ehd2 ?eha2 ?ehm2 ?ekv2 ?ep2_0 ?ep2_1 ?ep2_2 ?ehn ?eht ?n0 ?l0 ?c0 ?k0 ?n1 ?l1 ?c1 ?k1 ?n2 ?l2 ?c2 ?k2 ?n3 ?l3 ?c3 ?k3 ?n4 ?l4 ?c4 ?k4 ?n5 ?l5 ?c5 ?k5 ?n6 ?l6 ?c6 ?k6 ?n7 ?l7 ?c7 ?k7 ?n8 ?l8 ?c8 ?k8 ?n9 ?l9 ?c9 ?k9 ?n10 ?l10 ?c10 ?k10 ?n11 ?l11 ?c11 ?k11 ?n12 ?l12 ?c12 ?k12 ?n13 ?l13 ?c13 ?k13 ?n14 ?l14 ?c14 ?k14 ?n15 ?l15 ?c15 ?k15 ?n16 ?l16 ?c16 ?k16 ?n17 ?l17 ?c17 ?k17 ?n18 ?l18 ?c18 ?k18 ?n19 ?l19 ?c19 ?k19 ?n20 ?l20 ?c20 ?k20 ?n21 ?l21 ?c21 ?k21 ?n22 ?l22 ?c22 ?k22 ?n23 ?l23 ?c23 ?k23 ?n24 ?l24 ?c24 ?k24 ?n25 ?l25 ?c25 ?k25 ?n26 ?l26 ?c26 ?k26 ?n27 ?l27 ?c27 ?k27 ?n28 ?l28 ?c28 ?k28 ?n29 ?l29 ?c29 ?k29 ?n30 ?l30 ?c30 ?k30 ?n31 ?l31 ?c31 ?k31 ?n32 ?l32 ?c32 ?k32 ?n33 ?l33 ?c33 ?k33 ?n34 ?l34 ?c34 ?k34 ?qg0 ?qg1 ?qg2 ?ql2 ?qg3 ?z0 ?z1 ?z2 ?z3 ?z4 ?z5 ?z6 ?z7 ?z8 ?z9 ?z10 ?z11 ?z12 ?z13 ?z14 ?z15 ?z16 ?z17
    (case xn0 => k_is); (case xe0 => k_exc)
    (case xn1 => k_is); (case xe1 => k_exc)
    (case xn2 => k_is); (case xe2 => k_exc)
    (case xk0 => k_is); (case xs0 => k_is); (case xt0 => k_is); (case xk1 => k_is); (case xs1 => k_is); (case xt1 => k_is); (case xk2 => k_is); (case xs2 => k_is)
    (case xt2 => k_is); (case ehg0 => k_is); (case ehk0 => k_is); (case ehs0 => k_is); (case ehd0 => k_is); (case eha0 => k_is); (case ehm0 => k_is); (case ekv0 => k_is)
    (case ep0_0 => k_is); (case ep0_1 => k_is); (case ep0_2 => k_is); (case ehg1 => k_is); (case ehk1 => k_is); (case ehs1 => k_is); (case ehd1 => k_is); (case eha1 => k_is)
    (case ehm1 => k_is); (case ekv1 => k_is); (case ep1_0 => k_is); (case ep1_1 => k_is); (case ep1_2 => k_is); (case ehg2 => k_is); (case ehk2 => k_is); (case ehs2 => k_is)
    (case ehd2 => k_is); (case eha2 => k_is); (case ehm2 => k_is); (case ekv2 => k_is); (case ep2_0 => k_is); (case ep2_1 => k_is); (case ep2_2 => k_is); (case ehn => k_is)
    (case eht => k_is); (case n0 => k_is); (case l0 => k_is); (case c0 => k_is); (case k0 => k_is); (case n1 => k_is); (case l1 => k_is); (case c1 => k_is)
    (case k1 => k_is); (case n2 => k_is); (case l2 => k_is); (case c2 => k_is); (case k2 => k_is); (case n3 => k_is); (case l3 => k_is); (case c3 => k_is)
    (case k3 => k_is); (case n4 => k_is); (case l4 => k_is); (case c4 => k_is); (case k4 => k_is); (case n5 => k_is); (case l5 => k_is); (case c5 => k_is)
    (case k5 => k_is); (case n6 => k_is); (case l6 => k_is); (case c6 => k_is); (case k6 => k_is); (case n7 => k_is); (case l7 => k_is); (case c7 => k_is)
    (case k7 => k_is); (case n8 => k_is); (case l8 => k_is); (case c8 => k_is); (case k8 => k_is); (case n9 => k_is); (case l9 => k_is); (case c9 => k_is)
    (case k9 => k_is); (case n10 => k_is); (case l10 => k_is); (case c10 => k_is); (case k10 => k_is); (case n11 => k_is); (case l11 => k_is); (case c11 => k_is)
    (case k11 => k_is); (case n12 => k_is); (case l12 => k_is); (case c12 => k_is); (case k12 => k_is); (case n13 => k_is); (case l13 => k_is); (case c13 => k_is)
    (case k13 => k_is); (case n14 => k_is); (case l14 => k_is); (case c14 => k_is); (case k14 => k_is); (case n15 => k_is); (case l15 => k_is); (case c15 => k_is)
    (case k15 => k_is); (case n16 => k_is); (case l16 => k_is); (case c16 => k_is); (case k16 => k_is); (case n17 => k_is); (case l17 => k_is); (case c17 => k_is)
    (case k17 => k_is); (case n18 => k_is); (case l18 => k_is); (case c18 => k_is); (case k18 => k_is); (case n19 => k_is); (case l19 => k_is); (case c19 => k_is)
    (case k19 => k_is); (case n20 => k_is); (case l20 => k_is); (case c20 => k_is); (case k20 => k_is); (case n21 => k_is); (case l21 => k_is); (case c21 => k_is)
    (case k21 => k_is); (case n22 => k_is); (case l22 => k_is); (case c22 => k_is); (case k22 => k_is); (case n23 => k_is); (case l23 => k_is); (case c23 => k_is)
    (case k23 => k_is); (case n24 => k_is); (case l24 => k_is); (case c24 => k_is); (case k24 => k_is); (case n25 => k_is); (case l25 => k_is); (case c25 => k_is)
    (case k25 => k_is); (case n26 => k_is); (case l26 => k_is); (case c26 => k_is); (case k26 => k_is); (case n27 => k_is); (case l27 => k_is); (case c27 => k_is)
    (case k27 => k_is); (case n28 => k_is); (case l28 => k_is); (case c28 => k_is); (case k28 => k_is); (case n29 => k_is); (case l29 => k_is); (case c29 => k_is)
    (case k29 => k_is); (case n30 => k_is); (case l30 => k_is); (case c30 => k_is); (case k30 => k_is); (case n31 => k_is); (case l31 => k_is); (case c31 => k_is)
    (case k31 => k_is); (case n32 => k_is); (case l32 => k_is); (case c32 => k_is); (case k32 => k_is); (case n33 => k_is); (case l33 => k_is); (case c33 => k_is)
    (case k33 => k_is); (case n34 => k_is); (case l34 => k_is); (case c34 => k_is); (case k34 => k_is); (case qg0 => k_is); (case qg1 => k_is); (case qg2 => k_is)
    (case ql2 => k_is); (case qg3 => k_is); (case z0 => k_is); (case z1 => k_is); (case z2 => k_is); (case z3 => k_is); (case z4 => k_is); (case z5 => k_is)
    (case z6 => k_is); (case z7 => k_is); (case z8 => k_is); (case z9 => k_is); (case z10 => k_is); (case z11 => k_is); (case z12 => k_is); (case z13 => k_is)
    (case z14 => k_is); (case z15 => k_is); (case z16 => k_is); (case z17 => k_is)
