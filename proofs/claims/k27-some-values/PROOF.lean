import PyProof.Rows.All
import Wide.All
import OpenK.AllK
import Wide.FinOn
import HandS.ForMost
import HandS.ForExc
import HandS.IsInst
import HandS.ExcIs
import HandS.Walk
import HandS.Flow
import HandS.Style
import HandS.Deep
import HandS.TupAny
import HandS.TupMul
import HandS.StrMore
import HandS.CallSlots
import HandS.Zip
import KE.GoesEnum
import KE.GoesMore
import PyProof.Draws
import HandS.ReplaceDef
import HandS.ReplaceLit
import PyProof.StrLawsReplace
import KE.IntTextLaws
import HandS.MapJoin
import PyProof.StrLawsTight
import PyProof.StrLawsChain
import PyProof.Rows.StrItems
import KE.DataCmp
import KE.SortCalls
import KE.SortKeyed
import KE.SortData
import HandS.TupSets
import KE.KeyNested
import KE.KDictKeyed
import HandS.Strs
import PySem.Challenge.RW_laysheets_k27_some_values
set_option Elab.async false
set_option linter.all false
set_option maxRecDepth 100000
set_option maxHeartbeats 4000000
set_option backward.match.sparseCases false
/-! The own language: data, syntax, meaning. -/
namespace PB
open PySem

/-- data without objects -/
inductive Dt where
  | non
  | bl (b : Bool)
  | int (i : Int)
  | str (s : List Nat)
  | tup (xs : List Dt)
  | lst (xs : List Dt)
  /-- the script: read by len and by place alone -/
  | scr (ns : List Int)
  deriving Inhabited

/-- what a name holds: data, or an object of the store -/
inductive Wv where
  | d (x : Dt)
  | ob (n : Nat)
  deriving Inhabited

/-- an object of the store: a list that may change -/
inductive Ob where
  | lst (xs : List Dt)
  deriving Inhabited

inductive Rs (α : Type) where
  | ok (a : α)
  | exc (c : Nat) (fs : List Dt) (st : List Ob)
  | bad
  deriving Inhabited

def Rs.bind {α β : Type} (x : Rs α) (f : α → Rs β) : Rs β :=
  match x with
  | .ok a => f a
  | .exc c fs st => .exc c fs st
  | .bad => .bad
def Rs.ofO {α : Type} : Option α → Rs α
  | some a => .ok a
  | none => .bad
@[simp] theorem Rs.bind_ok {α β : Type} (a : α) (f : α → Rs β) : Rs.bind (.ok a) f = f a := rfl
@[simp] theorem Rs.bind_exc {α β : Type} (c : Nat) (fs : List Dt) (st : List Ob) (f : α → Rs β) : Rs.bind (.exc c fs st) f = .exc c fs st := rfl
@[simp] theorem Rs.bind_bad {α β : Type} (f : α → Rs β) : Rs.bind .bad f = .bad := rfl
@[simp] theorem Rs.ofO_some {α : Type} (a : α) : Rs.ofO (some a) = .ok a := rfl
@[simp] theorem Rs.ofO_none {α : Type} : Rs.ofO (none : Option α) = .bad := rfl

abbrev Ev := List (Option Wv)
abbrev Sr := List Ob

inductive Bop where | add | sub | mul | fdiv | mod
  deriving DecidableEq
inductive Cop where | eq | ne | lt | le | gt | ge | is | isnot | inn | notin
  deriving DecidableEq
inductive Ty where | str | int | bool | tuple | list
  deriving DecidableEq
/-- builtins of one argument -/
inductive P1 where | len | all | any | tuple | list | str | int | sorted
  deriving DecidableEq
/-- methods of texts with one argument -/
inductive B2 where
  | min
  | max
  deriving DecidableEq
inductive M1 where | join | zfill | split
  deriving DecidableEq

inductive Tg where
  | one (i : Nat)
  | many (is : List Nat)

mutual
inductive Ex where
  | v (i : Nat)
  | non
  | bl (b : Bool)
  | int (i : Int)
  | str (s : List Nat)
  | g (k : Nat)
  | bin (o : Bop) (a b : Ex)
  | neg (a : Ex)
  | not (a : Ex)
  | and (es : Exs)
  | or (es : Exs)
  | cmp (o : Cop) (a b : Ex)
  | cmp2 (o o' : Cop) (a b c : Ex)
  | call (f : Nat) (es : Exs)
  /-- a call with no argument, which does not raise -/
  | call0 (f : Nat)
  | p1 (p : P1) (a : Ex)
  /-- len(set(a)) -/
  | lens (a : Ex)
  | isi (a : Ex) (t : Ty)
  | isi2 (a : Ex) (t u : Ty)
  | m1 (m : M1) (a b : Ex)
  | b2 (o : B2) (a b : Ex)
  | rev (a : Ex)
  | ix (a i : Ex)
  | sl (a : Ex) (lo hi : Exo)
  | tup (es : Exs)
  | lst (es : Exs)
  | lc (elt : Ex) (tg : Tg) (it : Itx) (ifs : Exs)
inductive Exs where
  | nil
  | cons (e : Ex) (es : Exs)
inductive Exo where
  | no
  | yes (e : Ex)
inductive Itx where
  | seq (e : Ex)
  | rng1 (e : Ex)
  | rng2 (a b : Ex)
  | enm (e : Ex)
  | zip (a b : Ex)
end

/-- what is asked of a caught exception: of which class it is (none: ValueError) -/
inductive Xe where
  | isi (c : Option Nat)
  | not (a : Xe)
  | and (a b : Xe)
/-- the first class stands above the others, and those beside one another -/
def subB (c k : Nat) : Bool := k == 0 || c == k
def xeB (c : Nat) : Xe → Bool
  | .isi none => true
  | .isi (some k) => subB c k
  | .not a => !xeB c a
  | .and a b => xeB c a && xeB c b
mutual
inductive Sm where
  | set (i : Nat) (e : Ex)
  | setL (i : Nat) (e : Ex)
  | unp (is : List Nat) (e : Ex)
  | ret (e : Ex)
  | ife (c : Ex) (a b : Sms)
  | forS (tg : Tg) (it : Itx) (b : Sms)
  | whl (c : Ex) (b : Sms)
  | app (i : Nat) (e : Ex)
  | expr (e : Ex)
  | brk
  | cnt
  | pass
  | never
  /-- an exception of the program's own, with no fields -/
  | rai (c : Nat)
  /-- a try whose body does not raise -/
  | tryN (c : Nat) (b : Sms)
  /-- a try whose suite tells of which classes the exception (at name i) is, at name j -/
  | tryX (c : Nat) (b : Sms) (i j : Nat) (xs : List Xe)
  /-- the whole body of the def that quotes a text -/
  | quo (i : Nat)
inductive Sms where
  | nil
  | cons (s : Sm) (r : Sms)
end

def Exs.isNil : Exs → Bool
  | .nil => true
  | .cons _ _ => false

/-! ### operations on data -/
def lim : Nat := 16777216

def eqIntD (i : Int) : Dt → Bool
  | .int j => i == j
  | .bl b => i == (if b then 1 else 0)
  | _ => false
def eqIL : List Int → List Dt → Bool
  | [], [] => true
  | i :: is, y :: ys => eqIntD i y && eqIL is ys
  | _, _ => false
def eqDInt : Dt → Int → Bool
  | .int j, i => j == i
  | .bl b, i => (if b then 1 else 0) == i
  | _, _ => false
def eqLI : List Dt → List Int → Bool
  | [], [] => true
  | y :: ys, i :: is => eqDInt y i && eqLI ys is
  | _, _ => false
mutual
def eqD : Dt → Dt → Bool
  | .non, .non => true
  | .bl a, .bl b => a == b
  | .bl a, .int j => (if a then 1 else 0) == j
  | .int i, .bl b => i == (if b then 1 else 0)
  | .int i, .int j => i == j
  | .str x, .str y => x == y
  | .lst xs, .lst ys => eqDs xs ys
  | .tup xs, .tup ys => eqDs xs ys
  | .scr a, .scr b => a == b
  | .scr a, .lst ys => eqIL a ys
  | .lst xs, .scr b => eqLI xs b
  | _, _ => false
def eqDs : List Dt → List Dt → Bool
  | [], [] => true
  | x :: xs, y :: ys => eqD x y && eqDs xs ys
  | _, _ => false
end
mutual
def depD : Dt → Nat
  | .lst xs => depDs xs + 1
  | .tup xs => depDs xs + 1
  | .scr _ => 1
  | _ => 0
def depDs : List Dt → Nat
  | [] => 0
  | x :: xs => max (depD x) (depDs xs)
end

def truthD : Dt → Bool
  | .non => false
  | .bl b => b
  | .int i => i != 0
  | .str s => !s.isEmpty
  | .tup xs => !xs.isEmpty
  | .lst xs => !xs.isEmpty
  | .scr ns => !ns.isEmpty

/-- within 64 bits -/
def smallI (i : Int) : Prop := -(2 ^ 64) < i ∧ i < 2 ^ 64
instance (i : Int) : Decidable (smallI i) := by unfold smallI; infer_instance
def bopD : Bop → Dt → Dt → Option Dt
  | .add, .int i, .int j => some (.int (i + j))
  | .add, .str a, .str b => if a.length + b.length ≤ lim then some (.str (a ++ b)) else none
  | .add, .tup a, .tup b => if a.length + b.length ≤ lim then some (.tup (a ++ b)) else none
  | .add, .lst a, .lst b => if a.length + b.length ≤ lim then some (.lst (a ++ b)) else none
  | .sub, .int i, .int j => some (.int (i - j))
  | .mul, .int i, .int j => if smallI i ∨ smallI j then some (.int (i * j)) else none
  | .mul, .str a, .int j => if a.length * j.toNat ≤ lim ∧ -(2 ^ 62) < j ∧ j < 2 ^ 62 then some (.str (List.replicate j.toNat a).flatten) else none
  | .mul, .tup a, .int j => if 0 < a.length ∧ 1 ≤ j ∧ j ≤ 1000 ∧ a.length ≤ 1000 then some (.tup (List.replicate j.toNat a).flatten) else none
  | .mul, .lst a, .int j => if 0 < a.length ∧ 1 ≤ j ∧ j ≤ 1000 ∧ a.length ≤ 1000 then some (.lst (List.replicate j.toNat a).flatten) else none
  | .fdiv, .int i, .int j => if 0 < j ∧ j < 1073741824 then some (.int (i / j)) else none
  | .mod, .int i, .int j => if 0 < j then some (.int (i % j)) else none
  | _, _, _ => none

/-- a datum as a row of signs, as its order wants it -/
def keyIs : List Int → List (Int ⊕ List Nat)
  | [] => [.inl 0]
  | i :: is => .inl 1 :: .inl i :: keyIs is
mutual
def keyD : Dt → List (Int ⊕ List Nat)
  | .non => []
  | .bl b => [.inl (if b = true then 1 else 0)]
  | .int n => [.inl n]
  | .str x => [.inr x]
  | .lst xs => keyDs xs
  | .tup xs => keyDs xs
  | .scr ns => keyIs ns
def keyDs : List Dt → List (Int ⊕ List Nat)
  | [] => [.inl 0]
  | x :: xs => .inl 1 :: (keyD x ++ keyDs xs)
end
mutual
/-- of one kind at each place -/
def alikeD : Dt → Dt → Bool
  | .non, .non => true
  | .bl _, .bl _ => true
  | .int _, .int _ => true
  | .str _, .str _ => true
  | .lst xs, .lst ys => alikeDs xs ys
  | .tup xs, .tup ys => alikeDs xs ys
  | _, _ => false
def alikeDs : List Dt → List Dt → Bool
  | x :: xs, y :: ys => alikeD x y && alikeDs xs ys
  | [], _ => true
  | _ :: _, [] => true
end
def signLt : Int ⊕ List Nat → Int ⊕ List Nat → Bool
  | .inl a, .inl b => decide (a < b)
  | .inl _, .inr _ => true
  | .inr _, .inl _ => false
  | .inr a, .inr b => decide (a < b)
def rowLt : List (Int ⊕ List Nat) → List (Int ⊕ List Nat) → Bool
  | [], [] => false
  | [], _ :: _ => true
  | _ :: _, [] => false
  | x :: r, y :: t => signLt x y || (!signLt y x && rowLt r t)
/-- less than, of data that are alike -/
def ltB (x y : Dt) : Bool := rowLt (keyD x) (keyD y)
def ordD (x y : Dt) (b : Bool) : Option Bool := if alikeD x y = true ∧ (depD x ≤ 60 ∨ depD y ≤ 60) then some b else none
/-- can be sorted: alike, and tuples with an item, or no tuples and not None -/
def sortableD (xs : List Dt) : Bool := xs.all (fun x => xs.all (alikeD x)) && (xs.all (fun x => match x with | .tup (_ :: _) => true | _ => false) || xs.all (fun x => match x with | .non => false | .tup _ => false | _ => true)) && decide (depDs xs ≤ 60)
def sortD (xs : List Dt) : List Dt := xs.mergeSort fun a b => !ltB b a

def isNonD : Dt → Bool
  | .non => true
  | _ => false
def copD : Cop → Dt → Dt → Option Bool
  | .eq, a, b => if depD a ≤ 64 ∨ depD b ≤ 64 then some (eqD a b) else none
  | .ne, a, b => if depD a ≤ 64 ∨ depD b ≤ 64 then some (!eqD a b) else none
  | .lt, .int i, .int j => some (decide (i < j))
  | .le, .int i, .int j => some (decide (i ≤ j))
  | .gt, .int i, .int j => some (decide (j < i))
  | .ge, .int i, .int j => some (decide (j ≤ i))
  | .lt, .str a, .str b => ordD (.str a) (.str b) (ltB (.str a) (.str b))
  | .lt, .tup a, .tup b => ordD (.tup a) (.tup b) (ltB (.tup a) (.tup b))
  | .le, .str a, .str b => ordD (.str a) (.str b) (!ltB (.str b) (.str a))
  | .le, .tup a, .tup b => ordD (.tup a) (.tup b) (!ltB (.tup b) (.tup a))
  | .is, a, .non => some (isNonD a)
  | .is, .bl a, .bl b => some (a == b)
  | .isnot, a, .non => some (!isNonD a)
  | .isnot, .bl a, .bl b => some (!(a == b))
  | .inn, .str [c], .str b => some (decide (c ∈ b))
  | .inn, a, .tup xs => if depD a ≤ 64 ∨ depDs xs ≤ 64 then some (xs.any fun z => eqD z a) else none
  | .inn, a, .lst xs => if depD a ≤ 64 ∨ depDs xs ≤ 64 then some (xs.any fun z => eqD z a) else none
  | .notin, .str [c], .str b => some (!decide (c ∈ b))
  | .notin, a, .tup xs => if depD a ≤ 64 ∨ depDs xs ≤ 64 then some (!xs.any fun z => eqD z a) else none
  | .notin, a, .lst xs => if depD a ≤ 64 ∨ depDs xs ≤ 64 then some (!xs.any fun z => eqD z a) else none
  | _, _, _ => none

def allBl : List Dt → Option (List Bool)
  | [] => some []
  | .bl b :: r => (allBl r).map (b :: ·)
  | _ :: _ => none
def allStr : List Dt → Option (List (List Nat))
  | [] => some []
  | .str b :: r => (allStr r).map (b :: ·)
  | _ :: _ => none

/-- a text of Lean as codes -/
def S2 (s : String) : List Nat := s.toList.map Char.toNat

/-- figures as a number -/
def digV (s : List Nat) : Nat := s.foldl (fun acc c => acc * 10 + (c - 48)) 0
def p1D : P1 → Dt → Option Dt
  | .len, .str s => some (.int s.length)
  | .len, .tup s => some (.int s.length)
  | .len, .lst s => some (.int s.length)
  | .len, .scr s => some (.int s.length)
  | .all, .lst s => (allBl s).map fun bs => .bl (bs.all id)
  | .any, .lst s => (allBl s).map fun bs => .bl (bs.any id)
  | .tuple, .lst s => some (.tup s)
  | .tuple, .tup s => some (.tup s)
  | .list, .lst s => some (.lst s)
  | .list, .tup s => some (.lst s)
  | .sorted, .lst s => if sortableD s = true then some (.lst (sortD s)) else none
  | .str, .int i => if i.natAbs < 2 ^ 64 then some (.str (S2 (toString i))) else none
  | .int, .bl b => some (.int (if b then 1 else 0))
  | .int, .int i => some (.int i)
  | .int, .str s => if s ≠ [] ∧ s.all (fun c => decide (48 ≤ c) && decide (c ≤ 57)) = true ∧ s.length ≤ 600 then some (.int (digV s)) else none
  | _, _ => none

mutual
/-- can be a key: no lists within -/
def keyOk : Dt → Bool
  | .lst _ => false
  | .scr _ => false
  | .tup xs => keyOks xs
  | _ => true
def keyOks : List Dt → Bool
  | [] => true
  | x :: xs => keyOk x && keyOks xs
end
def isTupD : Dt → Bool
  | .tup _ => true
  | _ => false
/-- unlike ones, each once -/
def nubD : List Dt → List Dt
  | [] => []
  | x :: xs => if xs.any (fun z => eqD x z) then nubD xs else x :: nubD xs
def lensD : Dt → Option Dt
  | .tup xs => if xs.all (fun x => isTupD x && keyOk x && decide (depD x ≤ 8)) = true ∧ xs.length < 64 then some (.int (nubD xs).length) else none
  | _ => none
def joinL (sep : List Nat) : List (List Nat) → List Nat
  | [] => []
  | [x] => x
  | x :: y :: r => x ++ sep ++ joinL sep (y :: r)
def sumLen : List (List Nat) → Nat
  | [] => 0
  | x :: r => x.length + sumLen r

/-- the parts between a sign -/
def splitC (c : Nat) : List Nat → List (List Nat)
  | [] => [[]]
  | x :: xs => if x = c then [] :: splitC c xs else match splitC c xs with
    | [] => [[x]]
    | p :: ps => (x :: p) :: ps
def m1S : M1 → List Nat → Dt → Option Dt
  | .join, s, .lst xs => (allStr xs).bind fun ys => if sumLen ys + ys.length * s.length ≤ lim then some (.str (joinL s ys)) else none
  | .join, s, .tup xs => (allStr xs).bind fun ys => if sumLen ys + ys.length * s.length ≤ lim then some (.str (joinL s ys)) else none
  | .join, _, _ => none
  | .zfill, s, .int i => if 0 ≤ i ∧ i ≤ 1000 ∧ s.length ≤ 1000 ∧ s.head? ≠ some 43 ∧ s.head? ≠ some 45 then some (.str (List.replicate (i.toNat - s.length) 48 ++ s)) else none
  | .zfill, _, _ => none
  | .split, s, .str [c] => if s.length ≤ 1000000 then some (.lst ((splitC c s).map Dt.str)) else none
  | .split, _, _ => none

def b2D : B2 → Dt → Dt → Option Dt
  | .min, .int i, .int j => some (.int (if j < i then j else i))
  | .max, .int i, .int j => some (.int (if j > i then j else i))
  | _, _, _ => none

def revD : Dt → Option Dt
  | .lst xs => some (.lst xs.reverse)
  | _ => none
def isiD (t : Ty) : Dt → Bool
  | .non => false
  | .bl _ => t == .bool || t == .int
  | .int _ => t == .int
  | .str _ => t == .str
  | .tup _ => t == .tuple
  | .lst _ => t == .list
  | .scr _ => t == .list

/-- the place of an index -/
def ixP (n : Nat) (i : Int) : Option Nat := if 0 ≤ i then (if i < n then some i.toNat else none) else if -(n : Int) ≤ i then some (i + n).toNat else none
def ixL {α : Type} (xs : List α) (i : Int) : Option α := (ixP xs.length i).bind fun j => xs[j]?
def ixD : Dt → Dt → Option Dt
  | .str s, .int i => (ixL s i).map fun c => .str [c]
  | .tup s, .int i => ixL s i
  | .lst s, .int i => ixL s i
  | .scr s, .int i => (ixL s i).map .int
  | _, _ => none

/-- a slice's bound -/
def slP (n d : Nat) : Option Int → Nat
  | none => d
  | some v => if v < 0 then (v + (n : Int)).toNat else min v.toNat n
def cutL {α : Type} (xs : List α) (lo hi : Option Int) : List α := (xs.drop (slP xs.length 0 lo)).take (slP xs.length xs.length hi - slP xs.length 0 lo)
def slD (a : Dt) (lo hi : Option Int) : Option Dt :=
  match a with
  | .str s => some (.str (cutL s lo hi))
  | .tup s => some (.tup (cutL s lo hi))
  | .lst s => some (.lst (cutL s lo hi))
  | _ => none

/-- what stands at a name, as data that is looked at -/
def viewW (st : Sr) : Wv → Option Dt
  | .d x => some x
  | .ob n => match st[n]? with
    | some (.lst xs) => some (.lst xs)
    | none => none
def dataW : Wv → Option Dt
  | .d x => some x
  | .ob _ => none

def mapD : List Wv → Option (List Dt)
  | [] => some []
  | .d x :: r => (mapD r).map (x :: ·)
  | .ob _ :: _ => none
def itemsD : Dt → Option (List Dt)
  | .tup xs => some xs
  | .lst xs => some xs
  | .str s => some (s.map fun c => .str [c])
  | _ => none
def rangeL (lo : Int) : Nat → List Dt
  | 0 => []
  | n + 1 => .int lo :: rangeL (lo + 1) n
def enumL (k : Int) : List Dt → List Dt
  | [] => []
  | x :: r => .tup [.int k, x] :: enumL (k + 1) r
def zipL : List Dt → List Dt → List Dt
  | x :: xs, y :: ys => .tup [x, y] :: zipL xs ys
  | _, _ => []

/-- a target takes an item -/
def setMany : List Nat → List Dt → Ev → Option Ev
  | [], [], ρ => some ρ
  | i :: is, x :: xs, ρ => setMany is xs (ρ.set i (some (.d x)))
  | _, _, _ => none
def setTg : Tg → Dt → Ev → Option Ev
  | .one i, x, ρ => some (ρ.set i (some (.d x)))
  | .many is, .tup xs, ρ => setMany is xs ρ
  | .many _, _, _ => none
def Tg.slots : Tg → List Nat
  | .one i => [i]
  | .many is => is
def wipeE (ρ : Ev) : List Nat → Ev
  | [] => ρ
  | v :: vs => (wipeE ρ vs).set v none

structure Gam where
  call : Nat → List Wv → Sr → Rs (Wv × Sr)
  glob : List Dt

mutual
def sameD : Dt → Dt → Bool
  | .non, .non => true
  | .bl a, .bl b => a == b
  | .int i, .int j => i == j
  | .str x, .str y => x == y
  | .lst xs, .lst ys => sameDs xs ys
  | .tup xs, .tup ys => sameDs xs ys
  | .scr a, .scr b => a == b
  | _, _ => false
def sameDs : List Dt → List Dt → Bool
  | [], [] => true
  | x :: xs, y :: ys => sameD x y && sameDs xs ys
  | _, _ => false
end
/-- the objects that are walked stay -/
def watchOk (ws : List (Nat × List Dt)) (st : Sr) : Bool := ws.all fun p => match st[p.1]? with
  | some (.lst ys) => sameDs ys p.2
  | none => false

def consO : Option Dt → List Dt → List Dt
  | some y, r => y :: r
  | none, r => r
/-- a list comprehension's turns -/
def lcL (ws : List (Nat × List Dt)) (f : Dt → Sr → Rs (Option Dt × Sr)) : List Dt → Sr → Rs (List Dt × Sr)
  | [], st => .ok ([], st)
  | x :: xs, st => (f x st).bind fun p => if watchOk ws p.2 = true then (lcL ws f xs p.2).bind fun q => .ok (consO p.1 q.1, q.2) else .bad

def noExc {α : Type} : Rs α → Rs α
  | .ok a => .ok a
  | _ => .bad

/-! ### expressions -/
def op1 (f : Dt → Option Dt) (p : Wv × Sr) : Rs (Wv × Sr) := Rs.ofO ((viewW p.2 p.1).bind fun x => (f x).map fun z => (.d z, p.2))
def op2 (f : Dt → Dt → Option Dt) (x : Wv) (p : Wv × Sr) : Rs (Wv × Sr) := Rs.ofO ((viewW p.2 x).bind fun x => (viewW p.2 p.1).bind fun y => (f x y).map fun z => (.d z, p.2))
def blO : Option Bool → Option Dt
  | some b => some (.bl b)
  | none => none
def negD : Dt → Option Dt
  | .int i => some (.int (-i))
  | _ => none
def notD (x : Dt) : Option Dt := some (.bl (!truthD x))
/-- a test of a value that was told -/
def truW (p : Wv × Sr) : Rs Bool := Rs.ofO ((viewW p.2 p.1).map truthD)
def strW : Wv → Option (List Nat)
  | .d (.str s) => some s
  | _ => none
def intW : Wv → Option Int
  | .d (.int i) => some i
  | _ => none
def mkTup (p : List Wv × Sr) : Rs (Wv × Sr) := if p.1.length ≤ lim then Rs.ofO ((mapD p.1).map fun xs => (.d (.tup xs), p.2)) else .bad
def mkLst (p : List Wv × Sr) : Rs (Wv × Sr) := if p.1.length ≤ lim then Rs.ofO ((mapD p.1).map fun xs => (.d (.lst xs), p.2)) else .bad
abbrev Wk := (List Dt × List (Nat × List Dt)) × Sr
def itSeq (p : Wv × Sr) : Option Wk := match p.1 with
  | .d x => (itemsD x).map fun xs => ((xs, []), p.2)
  | .ob n => match p.2[n]? with
    | some (.lst xs) => some ((xs, [(n, xs)]), p.2)
    | none => none
def itEnm (p : Wv × Sr) : Option Wk := match p.1 with
  | .d (.lst xs) => some ((enumL 0 xs, []), p.2)
  | .d (.tup xs) => some ((enumL 0 xs, []), p.2)
  | .d _ => none
  | .ob n => match p.2[n]? with
    | some (.lst xs) => some ((enumL 0 xs, [(n, xs)]), p.2)
    | none => none
def itZip (x : Wv) (p : Wv × Sr) : Option Wk := match x, p.1 with
  | .d (.tup xs), .d (.tup ys) => some ((zipL xs ys, []), p.2)
  | _, _ => none
def itRng (st : Sr) (i j : Int) : Option Wk := if i < 2 ^ 30 ∧ -(2 ^ 30) < i ∧ j < 2 ^ 30 ∧ -(2 ^ 30) < j then some ((rangeL i (j - i).toNat, []), st) else none
/-- one turn of a comprehension -/
def lcTurn (ifs : Ev → Sr → Rs (Bool × Sr)) (elt : Ev → Sr → Rs (Wv × Sr)) (tg : Tg) (ρ : Ev) (x : Dt) (st : Sr) : Rs (Option Dt × Sr) :=
  (Rs.ofO (setTg tg x (wipeE ρ tg.slots))).bind fun ρ' => noExc ((ifs ρ' st).bind fun q => if q.1 = true then (elt ρ' q.2).bind fun r => (Rs.ofO (dataW r.1)).bind fun y => .ok (some y, r.2) else .ok (none, q.2))
def lcEnd (r : List Dt × Sr) : Rs (Wv × Sr) := if r.1.length ≤ lim then .ok (.d (.lst r.1), r.2) else .bad

mutual
def evE (Γ : Gam) : Ex → Ev → Sr → Rs (Wv × Sr)
  | .v i, ρ, st => match ρ[i]? with
    | some (some w) => .ok (w, st)
    | _ => .bad
  | .non, _, st => .ok (.d .non, st)
  | .bl b, _, st => .ok (.d (.bl b), st)
  | .int i, _, st => .ok (.d (.int i), st)
  | .str s, _, st => .ok (.d (.str s), st)
  | .g k, _, st => match Γ.glob[k]? with
    | some x => .ok (.d x, st)
    | none => .bad
  | .bin o a b, ρ, st => (evE Γ a ρ st).bind fun p => (evE Γ b ρ p.2).bind fun q => op2 (bopD o) p.1 q
  | .neg a, ρ, st => (evE Γ a ρ st).bind fun p => op1 negD p
  | .not a, ρ, st => (evE Γ a ρ st).bind fun p => op1 notD p
  | .and es, ρ, st => evAnd Γ es ρ st
  | .or es, ρ, st => evOr Γ es ρ st
  | .cmp o a b, ρ, st => (evE Γ a ρ st).bind fun p => (evE Γ b ρ p.2).bind fun q => op2 (fun x y => blO (copD o x y)) p.1 q
  | .cmp2 o o' a b c, ρ, st => (evE Γ a ρ st).bind fun p => (evE Γ b ρ p.2).bind fun q => (op2 (fun x y => blO (copD o x y)) p.1 q).bind fun k =>
      (truW k).bind fun t => if t = true then (evE Γ c ρ k.2).bind fun r => op2 (fun x y => blO (copD o' x y)) q.1 r else .ok k
  | .call f es, ρ, st => (evEs Γ es ρ st).bind fun p => Γ.call f p.1 p.2
  | .call0 f, ρ, st => noExc (Γ.call f [] st)
  | .p1 p a, ρ, st => (evE Γ a ρ st).bind fun x => op1 (p1D p) x
  | .lens a, ρ, st => (evE Γ a ρ st).bind fun x => op1 lensD x
  | .isi a t, ρ, st => (evE Γ a ρ st).bind fun x => op1 (fun x => some (.bl (isiD t x))) x
  | .isi2 a t u, ρ, st => (evE Γ a ρ st).bind fun x => op1 (fun x => some (.bl (isiD t x || isiD u x))) x
  | .m1 m a b, ρ, st => (evE Γ a ρ st).bind fun p => (Rs.ofO ((strW p.1).map fun s => (s, p.2))).bind fun s => (evE Γ b ρ s.2).bind fun q => op1 (m1S m s.1) q
  | .b2 o a b, ρ, st => (evE Γ a ρ st).bind fun p => (evE Γ b ρ p.2).bind fun q => op2 (b2D o) p.1 q
  | .rev a, ρ, st => (evE Γ a ρ st).bind fun p => op1 revD p
  | .ix a i, ρ, st => (evE Γ a ρ st).bind fun p => (evE Γ i ρ p.2).bind fun q => op2 ixD p.1 q
  | .sl a lo hi, ρ, st => (evE Γ a ρ st).bind fun p => (evO Γ lo ρ p.2).bind fun l => (evO Γ hi ρ l.2).bind fun h => op1 (fun x => slD x l.1 h.1) (p.1, h.2)
  | .tup es, ρ, st => (evEs Γ es ρ st).bind mkTup
  | .lst es, ρ, st => (evEs Γ es ρ st).bind mkLst
  | .lc elt tg it ifs, ρ, st => (evI Γ it ρ st).bind fun p => (lcL p.1.2 (lcTurn (evIfs Γ ifs) (evE Γ elt) tg ρ) p.1.1 p.2).bind lcEnd
def evEs (Γ : Gam) : Exs → Ev → Sr → Rs (List Wv × Sr)
  | .nil, _, st => .ok ([], st)
  | .cons e es, ρ, st => (evE Γ e ρ st).bind fun p => (evEs Γ es ρ p.2).bind fun q => .ok (p.1 :: q.1, q.2)
def evAnd (Γ : Gam) : Exs → Ev → Sr → Rs (Wv × Sr)
  | .nil, _, _ => .bad
  | .cons e es, ρ, st => if es.isNil = true then evE Γ e ρ st
    else (evE Γ e ρ st).bind fun p => (truW p).bind fun t => if t = true then evAnd Γ es ρ p.2 else .ok p
def evOr (Γ : Gam) : Exs → Ev → Sr → Rs (Wv × Sr)
  | .nil, _, _ => .bad
  | .cons e es, ρ, st => if es.isNil = true then evE Γ e ρ st
    else (evE Γ e ρ st).bind fun p => (truW p).bind fun t => if t = true then .ok p else evOr Γ es ρ p.2
/-- a clause's tests -/
def evIfs (Γ : Gam) : Exs → Ev → Sr → Rs (Bool × Sr)
  | .nil, _, st => .ok (true, st)
  | .cons e es, ρ, st => if es.isNil = true then (evE Γ e ρ st).bind fun p => (truW p).bind fun t => .ok (t, p.2) else .bad
/-- a slice's bound -/
def evO (Γ : Gam) : Exo → Ev → Sr → Rs (Option Int × Sr)
  | .no, _, st => .ok (none, st)
  | .yes e, ρ, st => (evE Γ e ρ st).bind fun p => Rs.ofO ((intW p.1).map fun i => (some i, p.2))
/-- what is walked: the items, and the objects that must stay meanwhile -/
def evI (Γ : Gam) : Itx → Ev → Sr → Rs Wk
  | .seq e, ρ, st => (evE Γ e ρ st).bind fun p => Rs.ofO (itSeq p)
  | .rng1 e, ρ, st => (evE Γ e ρ st).bind fun p => Rs.ofO ((intW p.1).bind fun i => itRng p.2 0 i)
  | .rng2 a b, ρ, st => (evE Γ a ρ st).bind fun p => (evE Γ b ρ p.2).bind fun q => Rs.ofO ((intW p.1).bind fun i => (intW q.1).bind fun j => itRng q.2 i j)
  | .enm e, ρ, st => (evE Γ e ρ st).bind fun p => Rs.ofO (itEnm p)
  | .zip a b, ρ, st => (evE Γ a ρ st).bind fun p => (evE Γ b ρ p.2).bind fun q => Rs.ofO (itZip p.1 q)
end

/-! ### statements -/
inductive Fl where
  | nx
  | rt (w : Wv)
  | bk
  | ct

abbrev Sx := (Fl × Ev) × Sr
def exFor (body : Ev → Sr → Rs Sx) (tg : Tg) (ws : List (Nat × List Dt)) : List Dt → Ev → Sr → Rs Sx
  | [], ρ, st => .ok ((.nx, ρ), st)
  | x :: xs, ρ, st => match setTg tg x ρ with
    | none => .bad
    | some ρ' => (body ρ' st).bind fun p => match p.1.1 with
      | .nx => if watchOk ws p.2 = true then exFor body tg ws xs p.1.2 p.2 else .bad
      | .ct => if watchOk ws p.2 = true then exFor body tg ws xs p.1.2 p.2 else .bad
      | .bk => .ok ((.nx, p.1.2), p.2)
      | .rt w => .ok ((.rt w, p.1.2), p.2)
def exWhl (c : Ev → Sr → Rs (Bool × Sr)) (body : Ev → Sr → Rs Sx) : Nat → Ev → Sr → Rs Sx
  | 0, _, _ => .bad
  | n + 1, ρ, st => (c ρ st).bind fun b => if b.1 = true then (body ρ b.2).bind fun p => match p.1.1 with
      | .nx => exWhl c body n p.1.2 p.2
      | .ct => exWhl c body n p.1.2 p.2
      | .bk => .ok ((.nx, p.1.2), p.2)
      | .rt w => .ok ((.rt w, p.1.2), p.2)
    else .ok ((.nx, ρ), b.2)
/-- turns of a while at most -/
def turns : Nat := 1000000
/-- an expression's truth -/
def evT (Γ : Gam) (e : Ex) (ρ : Ev) (st : Sr) : Rs (Bool × Sr) := (evE Γ e ρ st).bind fun p => (truW p).bind fun t => .ok (t, p.2)
/-- a list's object laid -/
def layL (i : Nat) (ρ : Ev) (p : Wv × Sr) : Rs Sx := match p.1 with
  | .d (.lst xs) => .ok ((.nx, ρ.set i (some (.ob p.2.length))), p.2 ++ [.lst xs])
  | _ => .bad
def unpW (is : List Nat) (ρ : Ev) (p : Wv × Sr) : Rs Sx := match p.1 with
  | .d (.tup xs) => (Rs.ofO (setMany is xs ρ)).bind fun ρ' => .ok ((.nx, ρ'), p.2)
  | _ => .bad
def obW : Option (Option Wv) → Option Nat
  | some (some (.ob n)) => some n
  | _ => none
def appW (n : Nat) (ρ : Ev) (p : Wv × Sr) : Rs Sx := match p.1, p.2[n]? with
  | .d y, some (.lst xs) => if xs.length < lim then .ok ((.nx, ρ), p.2.set n (.lst (xs ++ [y]))) else .bad
  | _, _ => .bad
/-- a sign exchanged -/
def subC (c : Nat) (z : List Nat) : List Nat → List Nat
  | [] => []
  | x :: xs => (if x = c then z else [x]) ++ subC c z xs
def quoL (s : List Nat) : List Nat := 34 :: (subC 34 [92, 34] (subC 92 [92, 92] s) ++ [34])
def quoW (w : Option (Option Wv)) (ρ : Ev) (st : Sr) : Rs Sx := match w with
  | some (some (.d (.str s))) => if s.length ≤ 1000 then .ok ((.rt (.d (.str (quoL s))), ρ), st) else .bad
  | _ => .bad
/-- is an object there -/
def seenW (n : Nat) (st : Sr) : Rs (Unit × Sr) := match st[n]? with
  | some (.lst _) => .ok ((), st)
  | none => .bad
/-- what a try's end gives -/
def tryW (c i j : Nat) (xs : List Xe) (ρ : Ev) : Rs Sx → Rs Sx
  | .ok p => .ok p
  | .exc k fs st => if subB k c = true ∧ fs = [] ∧ i ≠ j ∧ i < ρ.length ∧ xs.length ≤ lim then .ok ((.nx, (ρ.set j (some (.d (.tup (xs.map fun x => .bl (xeB k x)))))).set i none), st) else .bad
  | .bad => .bad
mutual
def exS (Γ : Gam) : Sm → Ev → Sr → Rs Sx
  | .set i e, ρ, st => (evE Γ e ρ st).bind fun p => .ok ((.nx, ρ.set i (some p.1)), p.2)
  | .setL i e, ρ, st => (evE Γ e ρ st).bind fun p => layL i ρ p
  | .unp is e, ρ, st => (evE Γ e ρ st).bind fun p => unpW is ρ p
  | .ret e, ρ, st => (evE Γ e ρ st).bind fun p => .ok ((.rt p.1, ρ), p.2)
  | .ife c a b, ρ, st => (evT Γ c ρ st).bind fun p => if p.1 = true then exSs Γ a ρ p.2 else exSs Γ b ρ p.2
  | .forS tg it b, ρ, st => (evI Γ it ρ st).bind fun p => exFor (exSs Γ b) tg p.1.2 p.1.1 ρ p.2
  | .whl c b, ρ, st => exWhl (evT Γ c) (exSs Γ b) turns ρ st
  | .app i e, ρ, st => (Rs.ofO ((obW ρ[i]?).map fun n => (n, st))).bind fun n => (seenW n.1 n.2).bind fun u => (evE Γ e ρ u.2).bind fun p => appW n.1 ρ p
  | .expr e, ρ, st => (evE Γ e ρ st).bind fun p => .ok ((.nx, ρ), p.2)
  | .brk, ρ, st => .ok ((.bk, ρ), st)
  | .cnt, ρ, st => .ok ((.ct, ρ), st)
  | .pass, ρ, st => .ok ((.nx, ρ), st)
  | .never, _, _ => .bad
  | .rai c, _, st => .exc c [] st
  | .tryN _ b, ρ, st => noExc (exSs Γ b ρ st)
  | .tryX c b i j xs, ρ, st => tryW c i j xs ρ (exSs Γ b ρ st)
  | .quo i, ρ, st => quoW ρ[i]? ρ st
def exSs (Γ : Gam) : Sms → Ev → Sr → Rs Sx
  | .nil, ρ, st => .ok ((.nx, ρ), st)
  | .cons s r, ρ, st => (exS Γ s ρ st).bind fun p => match p.1.1 with
    | .nx => exSs Γ r p.1.2 p.2
    | .rt w => .ok ((.rt w, p.1.2), p.2)
    | .bk => .ok ((.bk, p.1.2), p.2)
    | .ct => .ok ((.ct, p.1.2), p.2)
end

/-! ### defs -/
structure Fn where
  np : Nat
  ns : Nat
  body : Sms
def callW (r : Nat → List Dt → Rs Dt) (f : Nat) (ws : List Wv) (st : Sr) : Rs (Wv × Sr) :=
  (Rs.ofO (mapD ws)).bind fun ds => match r f ds with
    | .ok d => .ok (.d d, st)
    | .exc c fs _ => .exc c fs st
    | .bad => .bad
/-- what a def's end gives -/
def endD (p : Sx) : Rs Dt := match p.1.1 with
  | .nx => .ok .non
  | .rt (.d x) => .ok x
  | .rt (.ob n) => match p.2[n]? with
    | some (.lst xs) => .ok (.lst xs)
    | none => .bad
  | _ => .bad
def startE (ns : Nat) (ds : List Dt) : Ev := ds.map (fun x => some (.d x)) ++ List.replicate (ns - ds.length) none
def runP (tab : List Fn) (gl : List Dt) : Nat → Nat → List Dt → Rs Dt
  | 0, _, _ => .bad
  | n + 1, f, ds => match tab[f]? with
    | none => .bad
    | some F => if ds.length = F.np then (exSs ⟨callW (runP tab gl n), gl⟩ F.body (startE F.ns ds) []).bind endD else .bad

end PB

set_option Elab.async false
set_option linter.all false
set_option maxRecDepth 100000
set_option maxHeartbeats 4000000
/-! Sets whose members are nested keys. -/
namespace PB
open PySem PySem.Spec PyProof.Rows L2
abbrev NK := NestedKey
/-- the key k stands at b -/
def isN (h : Heap) (k : NK) (b : Addr) : Prop := NestedIs h k (.ref b) ∧ k.depth ≤ 8
section
variable {P : Program} {w : World}
/-- asked of v, n deep: of a class of the program's own? no -/
def NoCls (P : Program) (w : World) (n : Nat) (s : Shared) (v : Value) : Prop := ∀ (A : Around) (E : Value → Shared → Prop) (Q : Bool → Shared → Prop), Q false s → wpAny (model P w) A (ofAClassStatement n v) Q E s
/-- asked of v: is its hash by value? one way or the other -/
def HashAny (P : Program) (w : World) (n : Nat) (s : Shared) (v : Value) : Prop := ∀ (A : Around) (E : Value → Shared → Prop) (Q : Bool → Shared → Prop), (∀ b, Q b s) → wpAny (model P w) A (hashByValue n v) Q E s
theorem noCls_tup {n : Nat} {s : Shared} {a : Addr} {o : Obj} {us : Array Value} {m : Nat} (g1 : s.heap.get? a = some o) (g2 : o.cls = .type "tuple") (g3 : o.data = .seq us m) (all : ∀ u ∈ us.toList, NoCls P w n s u) : NoCls P w (n + 1) s (.ref a) := fun A E Q fin => by
  have ty : s.TypeIs (.ref a) "tuple" := ⟨o, g1, g2⟩
  unfold ofAClassStatement
  refine wpAny_bind (wpAny_typeOf ty ?_)
  dsimp only
  have same : (("tuple" : String) == "tuple") = true := by decide
  simp only [same, if_true, Bool.not_true, Bool.false_eq_true, if_false]
  try refine wpAny_bind (wpAny_pure ?_)
  try simp only [Bool.not_true, Bool.false_eq_true, if_false]
  show wpAny _ _ (seqItems? (.ref a) >>= _) _ _ s
  refine wpAny_bind (wpAny_seqItems g1 g3 ?_)
  dsimp only
  refine wpAny_bind ?_
  show wpAny _ _ (forIn us _ _) _ _ s
  rw [← Array.forIn_toList]
  refine wpAny_forIn_list _ (fun left r z => r.1 = none ∧ z = s ∧ ∀ u ∈ left, NoCls P w n s u) _ ?_ ?_ _ _ ⟨rfl, rfl, all⟩
  · rintro u left r z ⟨e1, rfl, more⟩
    refine wpAny_bind (more u List.mem_cons_self _ _ _ ?_)
    simp only [Bool.false_eq_true, if_false]
    exact wpAny_pure ⟨rfl, rfl, fun q hq => more q (List.mem_cons_of_mem _ hq)⟩
  · rintro ⟨r1, r2⟩ z ⟨e1, rfl, _⟩
    simp only at e1
    subst e1
    exact wpAny_pure fin
mutual
theorem noCls_key : ∀ (k : NK) (v : Value) (n : Nat) (s : Shared), NestedIs s.heap k v → k.depth ≤ n → NoCls P w n s v
  | .none, _, n, s, x, _ => by cases x; intro A E Q q; cases n <;> exact wpAny_pure q
  | .num i, _, n, s, x, _ => by cases x <;> (intro A E Q q; cases n <;> exact wpAny_pure q)
  | .text y, _, n, s, x, _ => by cases x; intro A E Q q; cases n <;> exact wpAny_pure q
  | .tup ks, _, n, s, x, hn => by
    cases x with
    | tup g1 g2 g3 g4 =>
      simp only [NestedKey.depth] at hn
      cases n with
      | zero => omega
      | succ n => exact noCls_tup g1 g2 g3 (noCls_keys ks _ n s g4 (by omega))
theorem noCls_keys : ∀ (ks : List NK) (vs : List Value) (n : Nat) (s : Shared), NestedAll s.heap ks vs → NestedKey.depthAll ks ≤ n → ∀ v ∈ vs, NoCls P w n s v
  | [], _, n, s, x, _, v, hv => by cases x; cases hv
  | k :: ks, _, n, s, x, hn, v, hv => by
    cases x with
    | cons x1 x2 =>
      simp only [NestedKey.depthAll] at hn
      rcases List.mem_cons.mp hv with e | hv
      · subst e; exact noCls_key k _ n s x1 (by omega)
      · exact noCls_keys ks _ n s x2 (by omega) v hv
end
theorem hashAny_tup {n : Nat} {s : Shared} {a : Addr} {o : Obj} {us : Array Value} {m : Nat} (g1 : s.heap.get? a = some o) (g2 : o.cls = .type "tuple") (g3 : o.data = .seq us m) (all : ∀ u ∈ us.toList, HashAny P w n s u) : HashAny P w (n + 1) s (.ref a) := fun A E Q fin => by
  have ty : s.TypeIs (.ref a) "tuple" := ⟨o, g1, g2⟩
  unfold hashByValue
  refine wpAny_bind (wpAny_specialOf ty F.slot_tuple_hash.lookup ?_)
  show wpAny _ _ (seqItems? (.ref a) >>= _) _ _ s
  refine wpAny_bind (wpAny_seqItems g1 g3 ?_)
  refine wpAny_bind ?_
  show wpAny _ _ (forIn us _ _) _ _ s
  rw [← Array.forIn_toList]
  refine wpAny_forIn_list _ (fun left r z => r.1 = none ∧ z = s ∧ ∀ u ∈ left, HashAny P w n s u) _ ?_ ?_ _ _ ⟨rfl, rfl, all⟩
  · rintro u left r z ⟨e1, rfl, more⟩
    refine wpAny_bind (more u List.mem_cons_self _ _ _ fun b => ?_)
    cases b with
    | false =>
      simp only [Bool.not_false, if_true]
      refine wpAny_pure ?_
      first
        | exact fin false
        | exact wpAny_pure (fin false)
    | true =>
      simp only [Bool.not_true, Bool.false_eq_true, if_false]
      exact wpAny_pure ⟨rfl, rfl, fun q hq => more q (List.mem_cons_of_mem _ hq)⟩
  · rintro ⟨r1, r2⟩ z ⟨e1, rfl, _⟩
    simp only at e1
    subst e1
    exact wpAny_pure (fin _)
mutual
theorem hashAny_key : ∀ (k : NK) (v : Value) (n : Nat) (s : Shared), NestedIs s.heap k v → k.depth ≤ n → HashAny P w n s v
  | .none, _, n, s, x, _ => by cases x; intro A E Q q; cases n <;> exact wpAny_pure (q _)
  | .num i, _, n, s, x, _ => by cases x <;> (intro A E Q q; cases n <;> exact wpAny_pure (q _))
  | .text y, _, n, s, x, _ => by cases x; intro A E Q q; cases n <;> exact wpAny_pure (q _)
  | .tup ks, _, n, s, x, hn => by
    cases x with
    | tup g1 g2 g3 g4 =>
      simp only [NestedKey.depth] at hn
      cases n with
      | zero => omega
      | succ n => exact hashAny_tup g1 g2 g3 (hashAny_keys ks _ n s g4 (by omega))
theorem hashAny_keys : ∀ (ks : List NK) (vs : List Value) (n : Nat) (s : Shared), NestedAll s.heap ks vs → NestedKey.depthAll ks ≤ n → ∀ v ∈ vs, HashAny P w n s v
  | [], _, n, s, x, _, v, hv => by cases x; cases hv
  | k :: ks, _, n, s, x, hn, v, hv => by
    cases x with
    | cons x1 x2 =>
      simp only [NestedKey.depthAll] at hn
      rcases List.mem_cons.mp hv with e | hv
      · subst e; exact hashAny_key k _ n s x1 (by omega)
      · exact hashAny_keys ks _ n s x2 (by omega) v hv
end
variable {A : Around} {E : Value → Shared → Prop} {s : Shared}
/-- nobody sees a search among keys -/
theorem unseen_keys {k : NK} {b : Addr} {Q : Bool → Shared → Prop} (hk : isN s.heap k b) {ys : List Value} (all : ∀ y ∈ ys, ∃ k' c, y = Value.ref c ∧ isN s.heap k' c) (fin : Q false s) :
    wpAny (model P w) A (searchCouldBeSeen (.ref b) ys) Q E s := by
  unfold searchCouldBeSeen
  refine wpAny_bind ?_
  refine wpAny_forIn_list _ (fun left r z => r.1 = none ∧ z = s ∧ ∀ y ∈ left, ∃ k' c, y = Value.ref c ∧ isN s.heap k' c) _ ?_ ?_ _ _ ⟨rfl, rfl, all⟩
  · rintro u left r z ⟨e1, rfl, more⟩
    obtain ⟨k', c, rfl, hc⟩ := more u List.mem_cons_self
    have more' : ∀ y ∈ left, ∃ k' c, y = Value.ref c ∧ isN z.heap k' c := fun q hq => more q (List.mem_cons_of_mem _ hq)
    dsimp only
    by_cases same : (b == c || (carriedByValue (.ref b) && carriedByValue (.ref c))) = true
    · exact wp_if_pos same (wpAny_pure ⟨rfl, rfl, more'⟩)
    · refine wp_if_neg same ?_
      refine wpAny_bind ((nestedKind P w).quiet hk ?_)
      simp only [Bool.not_true, Bool.false_eq_true, if_false]
      refine wpAny_bind ((nestedKind P w).quiet hc ?_)
      simp only [Bool.not_true, Bool.false_eq_true, if_false]
      refine wpAny_bind (noCls_key k _ 8 z hk.1 hk.2 _ _ _ ?_)
      simp only [Bool.false_eq_true, if_false]
      refine wpAny_bind (noCls_key k' _ 8 z hc.1 hc.2 _ _ _ ?_)
      simp only [Bool.false_eq_true, if_false]
      exact wpAny_pure ⟨rfl, rfl, more'⟩
  · rintro ⟨r1, r2⟩ z ⟨e1, rfl, _⟩
    simp only at e1
    subst e1
    exact wpAny_pure fin

/-- the set at a holds the keys of L, in the table's order -/
structure SN (P : Program) (w : World) (h : Heap) (a : Addr) (L : List (Addr × NK)) (es : Array (Int × Value)) (ep : Nat) (t : SetTable) : Prop where
  obj : ∃ o, h.get? a = some o ∧ o.ExactSet ∧ o.data = .set es ep t
  ent : es.toList = L.map fun p => (p.2.hash w, Value.ref p.1)
  tab : TabOk t (L.map fun p => p.2.hash w)
  nod : (L.map (·.2)).Nodup
  key : ∀ p ∈ L, isN h p.2 p.1
  ord : w.params.followText "set-order" = true ∨ t.led = true
  gap : L.length * 5 < t.mask * 3
  few : L.length < 64
variable {a : Addr} {L : List (Addr × NK)} {es : Array (Int × Value)} {ep : Nat} {t : SetTable}
theorem ent_size {L : List (Addr × NK)} {es : Array (Int × Value)} (h : es.toList = L.map fun p => (p.2.hash w, Value.ref p.1)) : es.size = L.length := by
  rw [← Array.length_toList, h, List.length_map]
theorem SN.size (S : SN P w s.heap a L es ep t) : es.size = L.length := ent_size S.ent
theorem SN.fits (S : SN P w s.heap a L es ep t) : t.fits es.size = true := by
  have z1 := S.tab.sz
  have z2 := S.size
  have z3 := S.gap
  rw [List.length_map] at z1
  simp only [SetTable.fits, SetTable.fill, S.tab.dm, Bool.and_eq_true, beq_iff_eq, decide_eq_true_eq]
  refine ⟨by omega, ?_⟩
  show t.place.size + 0 ≤ t.mask
  omega
theorem SN.at_ (S : SN P w s.heap a L es ep t) {i : Nat} {p : Addr × NK} (h : L[i]? = some p) : es[i]? = some (p.2.hash w, Value.ref p.1) := by
  rw [← Array.getElem?_toList, S.ent, List.getElem?_map, h]
  rfl
theorem SN.stands (S : SN P w s.heap a L es ep t) : ¬ t.gaveWay = true := by
  unfold SetTable.gaveWay
  simp [mask_odd S.tab.mok]
/-- the c-th step of a hash's way through the table -/
def stepAt (t : SetTable) (x : Int) (c : Nat) : SetTable.Probe := nth t.mask (runAt t.mask (SetTable.bits x % (t.mask + 1)) (SetTable.bits x)) c
theorem stepAt_j (t : SetTable) (x : Int) (c : Nat) : (stepAt t x c).j = way t.mask x c := rfl
theorem stepAt_more (t : SetTable) (x : Int) (c q : Nat) : nth t.mask (stepAt t x c) q = stepAt t x (c + q) := (nth_add t.mask c _ q).symm
theorem nth_dummy (m : Nat) : ∀ (n : Nat) (p : SetTable.Probe), p.dummy = none → (nth m p n).dummy = none
  | 0, _, h => h
  | n + 1, p, h => nth_dummy m n (adv m p) (by unfold adv; split <;> exact h)
theorem same_mem (t : SetTable) : t.sameMemory t.moves t.mask = some true := if_pos (beq_self_eq_true _)
/-- the search from the c-th step on: f turns are enough -/
theorem SN.search (S : SN P w s.heap a L es ep t) {x : Addr} {k : NK} (hx : isN s.heap k x) (room : A.units + 8 < cLine) {n : Nat} (big : n < 10 * SetTable.turns t.mask)
    (free : way t.mask (k.hash w) n ∉ t.place.toList) (full : ∀ c, c < n → way t.mask (k.hash w) c ∈ t.place.toList) {Q : SetFound → Shared → Prop}
    (yes : k ∈ L.map (·.2) → Q (.there none) s) (no : k ∉ L.map (·.2) → Q (.free (way t.mask (k.hash w) n) false) s) :
    ∀ (f c : Nat) (from_ : Option SetTable.Probe), from_.getD (t.probeStart (k.hash w)) = stepAt t (k.hash w) c → c ≤ n → n - c < f →
      (∀ (i : Nat) p, L[i]? = some p → p.2 = k → ∃ c', c ≤ c' ∧ c' < n ∧ t.place.toList[i]? = some (way t.mask (k.hash w) c')) →
      wpAny (model P w) A (setSearchFrom a (.ref x) (k.hash w) true f from_) Q E s := by
  intro f
  induction f with
  | zero => intro c from_ _ _ z; omega
  | succ f ih =>
    intro c from_ hfrom hc hf there
    obtain ⟨o, g1, g2, g3⟩ := S.obj
    rw [setSearchFrom_succ]
    refine wpAny_bind (wpAny_setState_of g1 g3 S.fits ?_)
    dsimp only
    refine wp_if_neg S.stands ?_
    try refine wpAny_bind (wpAny_pure ?_)
    have d0 : (stepAt t (k.hash w) c).dummy = none := nth_dummy t.mask c _ rfl
    have jj : ∀ q, (nth t.mask (stepAt t (k.hash w) c) q).j = way t.mask (k.hash w) (c + q) := fun q => by rw [stepAt_more, stepAt_j]
    have spec := go_spec t S.tab.ris S.tab.dm (fun i => (es[i]?.map (·.1)).getD 0) (k.hash w) (10 * SetTable.turns t.mask) (n - c) _ d0 (by omega)
      (fun q hq => by rw [jj]; exact full (c + q) (by omega)) (by rw [jj, show c + (n - c) = n by omega]; exact free)
    have hashAt : ∀ (i : Nat) p, L[i]? = some p → (es[i]?.map (·.1)).getD 0 = p.2.hash w := fun i p hp => by rw [S.at_ hp]; rfl
    rcases spec with ⟨q, i, hq, hi, hh, miss, pr⟩ | ⟨miss, pr⟩
    · have pr' : t.probe (fun i => (es[i]?.map (·.1)).getD 0) (k.hash w) (from_.getD (t.probeStart (k.hash w))) = some (.candidate (way t.mask (k.hash w) (c + q)) i (stepAt t (k.hash w) (c + (q + 1)))) := by
        rw [hfrom, ← jj, ← stepAt_more]
        exact pr
      rw [pr']
      dsimp only
      rw [jj] at hi
      have hil : i < L.length := by
        have z1 := (List.getElem?_eq_some_iff.mp hi).1
        have z2 := S.tab.sz
        rw [List.length_map] at z2
        rw [Array.length_toList] at z1
        omega
      obtain ⟨p, hp⟩ : ∃ p, L[i]? = some p := ⟨_, List.getElem?_eq_getElem hil⟩
      have mem : p ∈ L := List.mem_of_getElem? hp
      have rest : wpAny (model P w) A (searchRest a (.ref x) (k.hash w) true f es t (way t.mask (k.hash w) (c + q)) i (stepAt t (k.hash w) (c + (q + 1)))) Q E s := by
        unfold searchRest
        rw [S.at_ hp]
        dsimp only
        refine wpAny_bind (wpAny_holding ((nestedKind P w).eqBool room (S.key p mem) hx ?_))
        refine wpAny_bind (wpAny_setState_of g1 g3 S.fits ?_)
        dsimp only
        by_cases same : p.2 = k
        · exact wp_if_pos (by simp [same]) (wpAny_pure (yes (List.mem_map.mpr ⟨p, mem, same⟩)))
        · refine wp_if_neg (by simp [same]) ?_
          try refine wpAny_bind (wpAny_pure ?_)
          rw [same_mem]
          dsimp only
          have live : t.slot (way t.mask (k.hash w) (c + q)) = .live i := slot_live S.tab.ris hi
          simp only [if_true, live, S.at_ hp]
          refine wpAny_bind (wpAny_isSame_ref_self (wpAny_bind (wpAny_pure ?_)))
          simp only [if_true]
          refine wp_if_neg (by simp [same]) ?_
          refine ih (c + (q + 1)) _ rfl (by omega) (by omega) fun i0 p0 h0 hk0 => ?_
          obtain ⟨c', b1, b2, b3⟩ := there i0 p0 h0 hk0
          refine ⟨c', ?_, b2, b3⟩
          rcases Nat.lt_trichotomy c' (c + q) with z | z | z
          · refine (miss (c' - c) i0 (by omega) (by rw [jj, show c + (c' - c) = c' by omega]; exact b3) ?_).elim
            exact (hashAt i0 p0 h0).trans (by rw [hk0])
          · subst z
            have l2 := slot_live S.tab.ris b3
            rw [live] at l2
            injection l2 with l2
            subst l2
            rw [hp] at h0
            cases h0
            exact absurd hk0 same
          · omega
      by_cases led : t.led = true
      · refine wp_if_neg (by simp [led]) ?_
        try refine wpAny_bind (wpAny_pure ?_)
        exact rest
      · refine wp_if_pos (by simp [led]) ?_
        refine wpAny_bind (unseen_keys hx (fun y hy => ?_) ?_)
        · obtain ⟨e, he, rfl⟩ := List.mem_map.mp hy
          have h1 : e ∈ es ∧ e.1 = k.hash w := by simpa using he
          have h2 : e ∈ es.toList := by simpa using h1.1
          rw [S.ent] at h2
          obtain ⟨p2, m2, rfl⟩ := List.mem_map.mp h2
          exact ⟨p2.2, p2.1, rfl, S.key p2 m2⟩
        · refine wp_if_neg (by decide) ?_
          try refine wpAny_bind (wpAny_pure ?_)
          exact rest
    · have pr' : t.probe (fun i => (es[i]?.map (·.1)).getD 0) (k.hash w) (from_.getD (t.probeStart (k.hash w))) = some (.empty (way t.mask (k.hash w) n) none) := by
        have e2 := jj (n - c)
        rw [show c + (n - c) = n by omega] at e2
        rw [hfrom, ← e2]
        exact pr
      rw [pr']
      dsimp only
      refine wpAny_pure (no fun hm => ?_)
      obtain ⟨p0, m0, hk0⟩ := List.mem_map.mp hm
      obtain ⟨i0, h0⟩ := List.getElem?_of_mem m0
      obtain ⟨c', b1, b2, b3⟩ := there i0 p0 h0 hk0
      exact miss (c' - c) i0 (by omega) (by rw [jj, show c + (c' - c) = c' by omega]; exact b3) ((hashAt i0 p0 h0).trans (by rw [hk0]))
/-- the search as adding wants it -/
theorem SN.search0 (S : SN P w s.heap a L es ep t) {x : Addr} {k : NK} (hx : isN s.heap k x) (room : A.units + 8 < cLine) {Q : SetFound → Shared → Prop}
    (yes : k ∈ L.map (·.2) → Q (.there none) s)
    (no : ∀ n, k ∉ L.map (·.2) → way t.mask (k.hash w) n ∉ t.place.toList → (∀ c, c < n → way t.mask (k.hash w) c ∈ t.place.toList) → Q (.free (way t.mask (k.hash w) n) false) s) :
    wpAny (model P w) A (setSearch a (.ref x) (k.hash w) true) Q E s := by
  have gp := S.gap
  obtain ⟨n, nb, nf, nw⟩ := S.tab.first (by rw [List.length_map]; omega) (k.hash w)
  have small : 10 * SetTable.turns t.mask ≤ 1420 := by
    unfold SetTable.turns
    rcases S.tab.mok with e | e | e <;> omega
  unfold setSearch
  refine S.search hx room nb nf nw yes (fun z => no n z nf nw) 100000 0 none rfl (Nat.zero_le _) (by omega) fun i p hp hk => ?_
  have e1 : (L.map fun p => p.2.hash w)[i]? = some (k.hash w) := by rw [List.getElem?_map, hp, ← hk]; rfl
  have il : i < t.place.toList.length := by
    have z1 := (List.getElem?_eq_some_iff.mp hp).1
    have z2 := S.tab.sz
    rw [List.length_map] at z2
    rw [Array.length_toList]
    omega
  obtain ⟨c, hc, e⟩ := S.tab.before nf e1 (List.getElem?_eq_getElem il)
  exact ⟨c, Nat.zero_le _, hc, by rw [List.getElem?_eq_getElem il, e]⟩
/-- a key stands, the set being another object -/
theorem isN_but {h h' : Heap} {k : NK} {a b : Addr} {o : Obj} {es : Array (Int × Value)} {ep : Nat} {t : SetTable} (hb : isN h k b) (g1 : h.get? a = some o) (g3 : o.data = .set es ep t) (hs : Heap.SameBut a h h') : isN h' k b :=
  ⟨NestedIs.at (fun c oc vs m e1 e2 => by
    refine (hs.2 c fun z => ?_).trans e1
    subst z
    rw [g1] at e1
    cases e1
    rw [g3] at e2
    cases e2) k _ hb.1, hb.2⟩
theorem isN_keep {h h' : Heap} {k : NK} {b : Addr} (x : isN h k b) (hk : ∀ c o, h.get? c = some o → h'.get? c = some o) : isN h' k b :=
  ⟨NestedIs.at (fun c oc vs m e1 e2 => hk c oc e1) k _ x.1, x.2⟩
theorem range_pick {α : Type} (L : List α) : (List.range L.length).filterMap (fun i => L[i]?) = L := by
  have key : ∀ n, n ≤ L.length → (List.range n).filterMap (fun i => L[i]?) = L.take n := by
    intro n
    induction n with
    | zero => intro _; rfl
    | succ n ih =>
      intro hn
      rw [List.range_succ, List.filterMap_append, ih (by omega), List.take_succ]
      simp [List.getElem?_eq_getElem (show n < L.length from hn)]
  rw [key _ (Nat.le_refl _), List.take_length]
/-- the entries in another order -/
theorem reorder (L : List (Addr × NK)) (es : Array (Int × Value)) (order : Array Nat) (hr : es.toList = L.map fun p => (p.2.hash w, Value.ref p.1)) (hp : order.toList.Perm (List.range L.length)) :
    ∃ L2 : List (Addr × NK), (order.filterMap (es[·]?)).toList = (L2.map fun p => (p.2.hash w, Value.ref p.1)) ∧ L2.Perm L ∧ (L2.map fun p => p.2.hash w) = order.toList.map fun i => (es.map (·.1)).getD i 0 := by
  have ent : ∀ i (h : i < L.length), es[i]? = some ((L[i]).2.hash w, Value.ref (L[i]).1) := fun i h => by
    rw [← Array.getElem?_toList, hr, List.getElem?_map, List.getElem?_eq_getElem h]
    rfl
  have key : ∀ l : List Nat, (∀ i ∈ l, i < L.length) → l.filterMap (fun i => es[i]?) = ((l.filterMap fun i => L[i]?).map fun p => (p.2.hash w, Value.ref p.1)) ∧ ((l.filterMap fun i => L[i]?).map fun p => p.2.hash w) = l.map fun i => (es.map (·.1)).getD i 0 := by
    intro l
    induction l with
    | nil => intro _; exact ⟨rfl, rfl⟩
    | cons i l ih =>
      intro hl
      have hi := hl i List.mem_cons_self
      obtain ⟨e1, e2⟩ := ih fun j hj => hl j (List.mem_cons_of_mem _ hj)
      rw [List.filterMap_cons_some (ent i hi), List.filterMap_cons_some (List.getElem?_eq_getElem hi), e1, List.map_cons, List.map_cons, e2]
      refine ⟨rfl, ?_⟩
      rw [List.map_cons]
      congr 1
      have e5 : (es.map (·.1))[i]? = some ((L[i]).2.hash w) := by rw [Array.getElem?_map, ent i hi]; rfl
      simp [Array.getD_eq_getD_getElem?, e5]
  obtain ⟨e1, e2⟩ := key order.toList fun i hi => List.mem_range.mp (hp.mem_iff.mp hi)
  refine ⟨order.toList.filterMap fun i => L[i]?, by simpa using e1, ?_, e2⟩
  have z := hp.filterMap fun i => L[i]?
  rw [range_pick] at z
  exact z
/-- the table is laid anew -/
theorem SN.relay {o : Obj} (g1 : s.heap.get? a = some o) (g2 : o.ExactSet) (g3 : o.data = .set es ep t) (ent : es.toList = L.map fun p => (p.2.hash w, Value.ref p.1)) (sz : t.place.size = es.size) (dm : t.dummies = #[]) (fl : es.size ≤ t.mask)
    (nod : (L.map (·.2)).Nodup) (key : ∀ p ∈ L, isN s.heap p.2 p.1) (ord : w.params.followText "set-order" = true ∨ t.led = true) (few : L.length < 64) {wanted M : Nat}
    (m1 : SetTable.sizeAbove wanted - 1 = M) (m2 : MaskOk M) (m3 : SetTable.sizeAbove wanted ≤ 128) (m4 : L.length * 5 < M * 3) {Q : Unit → Shared → Prop}
    (fin : ∀ h' L' es' ep' t', Heap.SameBut a s.heap h' → SN P w h' a L' es' ep' t' → L'.Perm L → Q () { s with heap := h' }) : wpAny (model P w) A (setRelay a wanted) Q E s := by
  have len := ent_size ent
  have fits : t.fits es.size = true := by
    simp only [SetTable.fits, SetTable.fill, dm, Bool.and_eq_true, beq_iff_eq, decide_eq_true_eq]
    refine ⟨by omega, ?_⟩
    show t.place.size + 0 ≤ t.mask
    omega
  obtain ⟨t', order, e, hp, T, em, el, ep', ed⟩ := relaid_ok t (hs := es.map (·.1)) (wanted := wanted) m1 m2 (by rw [Array.size_map, len]; omega)
  rw [Array.size_map, len] at hp
  obtain ⟨L2, r1, r2, r3⟩ := reorder L es order ent hp
  rw [← r3] at T
  have sz2 : (order.filterMap (es[·]?)).size = es.size := by rw [ent_size r1, r2.length_eq, len]
  rw [setRelay_eq]
  refine wpAny_bind (wpAny_setState_of g1 g3 fits ?_)
  dsimp only
  refine wp_if_neg (by rw [sizeLine_eq]; omega) ?_
  try refine wpAny_bind (wpAny_pure ?_)
  rw [e]
  dsimp only
  refine wpAny_bind (wp_if_neg (by rw [sz2]; simp) ?_)
  try refine wpAny_bind (wpAny_pure ?_)
  refine wpAny_pure ?_
  dsimp only
  refine wpAny_storeSet_of g1 g3 ?_ (by rw [sz2, len, sizeLine_eq]; omega)
  have sb : Heap.SameBut a s.heap (s.heap.update a (Obj.putSet (order.filterMap (es[·]?)) t')) := Heap.SameBut.update ..
  refine fin _ L2 (order.filterMap (es[·]?)) (ep + 1) t' sb ⟨⟨_, store_at g1 g3, ⟨g2.1, g2.2.1, g2.2.2⟩, rfl⟩, r1, T, (r2.map (·.2)).nodup_iff.mpr nod, fun p hpm => isN_but (key p (r2.mem_iff.mp hpm)) g1 g3 sb, by rw [el]; exact ord, ?_, by rw [r2.length_eq]; exact few⟩ r2
  rw [r2.length_eq, em]
  exact m4
/-- a key is added -/
theorem SN.add (S : SN P w s.heap a L es ep t) {x : Addr} {k : NK} (hx : isN s.heap k x) (room : A.units + 8 < cLine) (few : L.length + 1 < 64) {Q : Bool → Shared → Prop}
    (fin : ∀ b h' L' es' ep' t', Heap.SameBut a s.heap h' → SN P w h' a L' es' ep' t' → (k ∈ L.map (·.2) → L' = L) → (k ∉ L.map (·.2) → L'.Perm ((x, k) :: L)) → Q b { s with heap := h' }) :
    wpAny (model P w) A (setAddHashed a (.ref x) (k.hash w)) Q E s := by
  obtain ⟨o, g1, g2, g3⟩ := S.obj
  have len := S.size
  have gp := S.gap
  unfold setAddHashed
  refine wpAny_holding ?_
  rw [show (100000 : Nat) = 99999 + 1 from rfl, setAddHashedIn_succ]
  refine wpAny_bind (wpAny_setState_of g1 g3 S.fits ?_)
  dsimp only
  refine wp_if_neg (by simp [byScan, Value.scannable]) ?_
  try refine wpAny_bind (wpAny_pure ?_)
  refine wpAny_bind (S.search0 hx room (fun hm => ?_) fun n hm nf nw => ?_)
  · exact wpAny_pure (fin false s.heap L es ep t (Heap.SameBut.refl a s.heap) S (fun _ => rfl) fun z => absurd hm z)
  · dsimp only
    refine wpAny_bind (wpAny_setState_of g1 g3 S.fits ?_)
    dsimp only
    obtain ⟨q1, q2, q3, q4, q5, q6, q7, q8, q9⟩ := S.tab.put nf nw
    generalize hpt : t.put (way t.mask (k.hash w) n) = pt at q1 q3 q4 q5 q6 q7 q8 q9 ⊢
    obtain ⟨t1, p⟩ := pt
    dsimp only at q1 q3 q4 q5 q6 q7 q8 q9 ⊢
    subst q1
    generalize hpp : SetTable.below t.place (way t.mask (k.hash w) n) = p at q2 q3 ⊢
    have pm : (L.take p ++ (x, k) :: L.drop p).Perm ((x, k) :: L) := by
      have z : (L.take p ++ (x, k) :: L.drop p).Perm ((x, k) :: (L.take p ++ L.drop p)) := List.perm_middle
      rwa [List.take_append_drop] at z
    have hin : (SetTable.insertAt es p (k.hash w, Value.ref x)).toList = (L.take p ++ (x, k) :: L.drop p).map fun p => (p.2.hash w, Value.ref p.1) := by
      rw [SetTable.toList_insertAt, S.ent, List.map_append, List.map_cons, List.map_take, List.map_drop]
    have hh : ((L.take p ++ (x, k) :: L.drop p).map fun p => p.2.hash w) = (L.map fun p => p.2.hash w).take p ++ k.hash w :: (L.map fun p => p.2.hash w).drop p := by
      rw [List.map_append, List.map_cons, List.map_take, List.map_drop]
    rw [← hh] at q3
    have hlen : (L.take p ++ (x, k) :: L.drop p).length = L.length + 1 := pm.length_eq
    have nod1 : ((L.take p ++ (x, k) :: L.drop p).map (·.2)).Nodup := by
      refine (pm.map (·.2)).nodup_iff.mpr ?_
      rw [List.map_cons]
      exact List.nodup_cons.mpr ⟨hm, S.nod⟩
    have hes := ent_size hin
    rw [hlen] at hes
    generalize SetTable.insertAt es p (k.hash w, Value.ref x) = es1 at hin hes ⊢
    generalize L.take p ++ (x, k) :: L.drop p = L1 at pm hlen q3 nod1 hin
    -- whatever is told of the hash
    have go : ∀ t2 : SetTable, TabOk t2 (L1.map fun p => p.2.hash w) → t2.mask = t1.mask → t2.led = t1.led → t2.tooFull = t1.tooFull → t2.place = t1.place → t2.dummies = t1.dummies →
        wpAny (model P w) A (do
          storeSet a es1 t2
          if !false && t2.tooFull then setRelay a (SetTable.grown (es.size + 1))
          return true) Q E s := by
      intro t2 T2 em el ef epl ed
      refine wpAny_bind (wpAny_storeSet_of g1 g3 ?_ (by rw [hes, sizeLine_eq]; omega))
      have sb : Heap.SameBut a s.heap (s.heap.update a (Obj.putSet es1 t2)) := Heap.SameBut.update ..
      have ho1 := store_at (es' := es1) (t' := t2) g1 g3
      generalize s.heap.update a (Obj.putSet es1 t2) = h1 at sb ho1 ⊢
      have key1 : ∀ p ∈ L1, isN h1 p.2 p.1 := fun p hp => by
        rcases List.mem_cons.mp (pm.mem_iff.mp hp) with e | hp
        · rw [e]; exact isN_but hx g1 g3 sb
        · exact isN_but (S.key p hp) g1 g3 sb
      have ord1 : w.params.followText "set-order" = true ∨ t2.led = true := by rw [el, q5]; exact S.ord
      by_cases hf : t2.tooFull = true
      · first
          | (refine wpAny_bind ?_; refine wp_if_pos (by simp [hf]) ?_)
          | (refine wp_if_pos (by simp [hf]) ?_; refine wpAny_bind ?_)
        have full : (L.length + 1) * 5 ≥ t1.mask * 3 := by
          have z := hf
          rw [ef] at z
          unfold SetTable.tooFull at z
          rw [decide_eq_true_eq, q9, List.length_map] at z
          exact z
        rw [len]
        have sz1 : t2.place.size = es1.size := by
          have z := T2.sz
          rw [List.length_map, hlen] at z
          rw [z, hes]
        have two : (t.mask = 7 ∧ L.length = 4) ∨ (t.mask = 31 ∧ L.length = 18) := by
          rcases S.tab.mok with e | e | e
          · left; rw [q4, e] at full; rw [e] at gp; exact ⟨e, by omega⟩
          · right; rw [q4, e] at full; rw [e] at gp; exact ⟨e, by omega⟩
          · exfalso; rw [q4, e] at full; omega
        have lay : ∀ M, SetTable.sizeAbove (SetTable.grown (L.length + 1)) - 1 = M → MaskOk M → SetTable.sizeAbove (SetTable.grown (L.length + 1)) ≤ 128 → (L.length + 1) * 5 < M * 3 →
            wpAny (model P w) A (setRelay a (SetTable.grown (L.length + 1))) (fun _ s' => wpAny (model P w) A (pure true) Q E s') E { s with heap := h1 } := fun M l1 l2 l3 l4 => by
          refine SN.relay (s := { s with heap := h1 }) ho1 ⟨g2.1, g2.2.1, g2.2.2⟩ rfl hin sz1 T2.dm (by rw [hes, em, q4]; rcases two with ⟨e, e2⟩ | ⟨e, e2⟩ <;> omega) nod1 key1 ord1 (by rw [hlen]; exact few) l1 l2 l3 (by rw [hlen]; exact l4) ?_
          intro h2 L2 es2 ep2 t3 sb2 S2 pm2
          exact wpAny_pure (fin true h2 L2 es2 ep2 t3 (sb.trans sb2) S2 (fun z => absurd z hm) fun _ => pm2.trans pm)
        rcases two with ⟨_, e2⟩ | ⟨_, e2⟩
        · exact lay 31 (by rw [e2, size_20]) (.inr (.inl rfl)) (by rw [e2, size_20]; decide) (by omega)
        · exact lay 127 (by rw [e2, size_76]) (.inr (.inr rfl)) (by rw [e2, size_76]; decide) (by omega)
      · first
          | refine wp_if_neg (by simp [hf]) ?_
          | (refine wpAny_bind ?_; refine wp_if_neg (by simp [hf]) ?_; refine wpAny_pure ?_)
        refine wpAny_pure (fin true h1 L1 es1 (ep + 1) t2 sb ⟨⟨_, ho1, ⟨g2.1, g2.2.1, g2.2.2⟩, rfl⟩, hin, T2, nod1, key1, ord1, ?_, by rw [hlen]; exact few⟩ (fun z => absurd z hm) fun _ => pm)
        have z := hf
        rw [ef] at z
        unfold SetTable.tooFull at z
        rw [decide_eq_true_eq, q9, List.length_map] at z
        rw [hlen, em]
        omega
    by_cases pl : t1.plain = true
    · first
        | (refine wpAny_bind ?_; refine wp_if_pos pl ?_; refine hashAny_key k _ 8 s hx.1 hx.2 _ _ _ fun b => ?_)
        | refine wp_if_pos pl (wpAny_bind (hashAny_key k _ 8 s hx.1 hx.2 _ _ _ fun b => ?_))
      cases b with
      | true =>
        simp only [if_true]
        exact go t1 q3 rfl rfl rfl rfl rfl
      | false =>
        simp only [Bool.false_eq_true, if_false]
        exact go { t1 with plain := false } ⟨q3.ris, q3.dm, q3.sz, q3.mok, q3.bd, q3.reach⟩ rfl rfl rfl rfl rfl
    · first
        | (refine wpAny_bind ?_; refine wp_if_neg pl ?_; refine wpAny_pure ?_)
        | refine wp_if_neg pl (wpAny_bind (wpAny_pure ?_))
      simp only [if_true]
      exact go t1 q3 rfl rfl rfl rfl rfl
end
end PB

set_option Elab.async false
set_option linter.all false
set_option maxRecDepth 100000
set_option maxHeartbeats 4000000
/-! set(xs). -/
namespace PB
open PySem PySem.Spec PyProof.Rows L2
/-- what the set has of the first i keys -/
structure GotN (ks : List (Addr × NK)) (i : Nat) (L : List (Addr × NK)) : Prop where
  sub : ∀ p ∈ L, p ∈ ks.take i
  all : ∀ p ∈ ks.take i, p.2 ∈ L.map (·.2)
  len : L.length ≤ i
theorem GotN.zero (ks : List (Addr × NK)) : GotN ks 0 [] := ⟨fun p h => (by cases h), fun p h => (by simp at h), Nat.le_refl _⟩
theorem GotN.next {ks L L' : List (Addr × NK)} {i : Nat} {x : Addr × NK} (g : GotN ks i L) (h : ks[i]? = some x) (c1 : x.2 ∈ L.map (·.2) → L' = L) (c2 : x.2 ∉ L.map (·.2) → L'.Perm (x :: L)) : GotN ks (i + 1) L' := by
  have tk : ks.take (i + 1) = ks.take i ++ [x] := by rw [List.take_succ, h]; rfl
  by_cases c : x.2 ∈ L.map (·.2)
  · rw [c1 c]
    refine ⟨fun p hp => ?_, fun p hp => ?_, by have := g.len; omega⟩
    · rw [tk]
      exact List.mem_append_left _ (g.sub p hp)
    · rw [tk] at hp
      rcases List.mem_append.mp hp with z | z
      · exact g.all p z
      · rw [List.mem_singleton.mp z]
        exact c
  · have pm := c2 c
    refine ⟨fun p hp => ?_, fun p hp => ?_, by rw [pm.length_eq, List.length_cons]; have := g.len; omega⟩
    · rw [tk]
      rcases List.mem_cons.mp (pm.mem_iff.mp hp) with e | z
      · rw [e]
        exact List.mem_append_right _ (List.mem_singleton.mpr rfl)
      · exact List.mem_append_left _ (g.sub p z)
    · rw [(pm.map (·.2)).mem_iff, List.map_cons]
      rw [tk] at hp
      rcases List.mem_append.mp hp with z | z
      · exact List.mem_cons_of_mem _ (g.all p z)
      · rw [List.mem_singleton.mp z]
        exact List.mem_cons_self
section
variable {P : Program} {w : World} {A : Around} {E : Value → Shared → Prop} {s : Shared}
theorem SN.keep {h h' : Heap} {a : Addr} {L : List (Addr × NK)} {es : Array (Int × Value)} {ep : Nat} {t : SetTable} (S : SN P w h a L es ep t) (ha : ∀ o, h.get? a = some o → h'.get? a = some o) (ht : ∀ p ∈ L, isN h' p.2 p.1) : SN P w h' a L es ep t := by
  obtain ⟨o, g1, g2⟩ := S.obj
  exact ⟨⟨o, ha o g1, g2⟩, S.ent, S.tab, S.nod, ht, S.ord, S.gap, S.few⟩
def freshS (w : World) : Obj := { cls := .type "set", dict := none, data := .set #[] 0 (.fresh 0 0 (!w.params.followText "set-order")) }
theorem SN.fresh {h : Heap} {a : Addr} (g1 : h.get? a = some (freshS w)) : SN P w h a [] #[] 0 (.fresh 0 0 (!w.params.followText "set-order")) where
  obj := ⟨_, g1, ⟨rfl, rfl, rfl⟩, rfl⟩
  ent := rfl
  tab := ⟨List.Pairwise.nil, rfl, rfl, .inl rfl, fun x hx => (by cases hx), fun i h j hi => (by simp at hi)⟩
  nod := List.nodup_nil
  key := fun p hp => (by cases hp)
  ord := by
    show _ ∨ (!w.params.followText "set-order") = true
    cases w.params.followText "set-order"
    · exact .inr rfl
    · exact .inl rfl
  gap := (by decide : 0 * 5 < 7 * 3)
  few := (by decide : 0 < 64)
/-- the loop of set.update -/
theorem loop_setN {I : Addr} {fp wr : List Addr} {G : Array GenState → Array GenState → Prop} {n : Nat} {Pv : Nat → Value → Prop} {St : Nat → Shared → Prop} {R : Result → Shared → Prop}
    (W : WalksS P w A.in1 I fp wr G n Pv St) (S : Addr) (off : S ∉ fp) (ks : List (Addr × NK)) (hn : n = ks.length) (few : ks.length < 64) (val : ∀ i v, Pv i v → ∃ p, ks[i]? = some p ∧ v = .ref p.1)
    (h0 : Heap) (hk : ∀ p ∈ ks, isN h0 p.2 p.1) (z0 : h0.get? S = none) (zw : ∀ b ∈ wr, h0.get? b = none) (room : A.in1.units + 8 < cLine) :
    ∀ (k i : Nat) (s : Shared), n - i = k → i ≤ n → St i s → (∀ b o, h0.get? b = some o → s.heap.get? b = some o) → (∃ L es ep t, SN P w s.heap S L es ep t ∧ GotN ks i L) →
      (∀ s' L es ep t, Moved (S :: wr) G s s' → SN P w s'.heap S L es ep t → GotN ks n L → (∀ b o, h0.get? b = some o → s'.heap.get? b = some o) → R (.ok (.ret .none)) s') →
      codeAny (model P w) A (.builtin "set.update.loop" ⟨[.ref S, .ref I], []⟩) R s := by
  have offw : S ∉ wr := fun h => off (W.sub _ h)
  have more : ∀ b ∈ wr, b ∈ S :: wr := fun b hb => List.mem_cons_of_mem _ hb
  have keepM : ∀ {s s' : Shared}, Moved wr G s s' → (∀ b o, h0.get? b = some o → s.heap.get? b = some o) → ∀ b o, h0.get? b = some o → s'.heap.get? b = some o := fun hm hkp b o e =>
    hm.heap b o (fun hb => by rw [zw b hb] at e; cases e) (hkp b o e)
  intro k
  induction k with
  | zero =>
    intro i s hk' hi hst hkp ⟨L, es, ep, t, hS, g⟩ fin
    obtain rfl : i = n := by omega
    refine codeAny_builtin F.entry_set_update_loop ?_
    rw [Around.under_plainId F.plain_set_update_loop _]
    show wpAny _ A.in1 (pyNext (.ref I) >>= _) _ _ s
    refine wpAny_bind (W.done s _ _ hst fun s' hm => ?_)
    show wpAny _ A.in1 (ret Value.none) _ _ s'
    have hkp' := keepM hm hkp
    exact wpAny_pure (fin s' L es ep t (hm.mono more) (hS.keep (fun o e => hm.heap S o offw e) fun p hp => isN_keep (hk p (List.mem_of_mem_take (g.sub p hp))) hkp') g hkp')
  | succ k ih =>
    intro i s hk' hi hst hkp ⟨L, es, ep, t, hS, g⟩ fin
    have lt : i < n := by omega
    refine codeAny_builtin F.entry_set_update_loop ?_
    rw [Around.under_plainId F.plain_set_update_loop _]
    show wpAny _ A.in1 (pyNext (.ref I) >>= _) _ _ s
    refine wpAny_bind (W.item i s _ _ lt hst fun v s' hP hst' hm => ?_)
    obtain ⟨p, hp, rfl⟩ := val i v hP
    have hkp' := keepM hm hkp
    have hS' : SN P w s'.heap S L es ep t := hS.keep (fun o e => hm.heap S o offw e) fun q hq => isN_keep (hk q (List.mem_of_mem_take (g.sub q hq))) hkp'
    have hx : isN s'.heap p.2 p.1 := isN_keep (hk p (List.mem_of_getElem? hp)) hkp'
    show wpAny _ A.in1 (holding [Value.ref p.1] (setAdd S (.ref p.1)) >>= _) _ _ s'
    refine wpAny_bind (wpAny_holding ?_)
    unfold setAdd
    refine wpAny_holding (wpAny_bind ((nestedKind P w).pyHash room hx ?_))
    refine SN.add (s := { s' with toks := s'.toks + p.2.draws }) hS' hx room (by have := g.len; omega) fun b h' L' es' ep' t' hsb hS2 c1 c2 => ?_
    have hkp2 : ∀ b o, h0.get? b = some o → h'.get? b = some o := fun b o e => (hsb.2 b (fun z => by rw [z, z0] at e; cases e)).trans (hkp' b o e)
    refine wpAny_pure ⟨plainId_quiet F.plain_set_update_loop _, ih (i + 1) _ (by omega) lt (W.frame _ s' _ _ hst' (Nat.le_add_right _ _) fun b hb o e => ?_) hkp2 ⟨L', es', ep', t', hS2, g.next hp c1 c2⟩ fun s'' L2 es2 ep2 t2 hm'' hS'' g'' hkp'' => ?_⟩
    · rw [hsb.2 b (fun h : b = S => off (h ▸ hb))]
      exact e
    · refine fin s'' L2 es2 ep2 t2 (Moved.trans W.gtrans ((hm.mono more).then_heap (Nat.le_add_right _ _) fun b o hb e => ?_) hm'') hS'' g'' hkp''
      rw [hsb.2 b (fun h : b = S => hb (h ▸ List.mem_cons_self))]
      exact e
end
end PB

set_option Elab.async false
set_option linter.all false
set_option maxRecDepth 100000
set_option maxHeartbeats 4000000
/-! set(xs). -/
namespace PB
open PySem PySem.Spec PyProof.Rows L2
section
variable {P : Program} {w : World} {A : Around} {E : Value → Shared → Prop} {s : Shared}

set_option maxHeartbeats 6000000 in
/-- set(xs) of a tuple -/
theorem call_setN_tuple {l : Addr} {us : Array Value} (ks : List (Addr × NK)) {Q : Value → Shared → Prop} (calm : A.handled = none) (hl : s.heap.IsTuple l us) (hus : us.toList = ks.map fun p => Value.ref p.1)
    (hk : ∀ p ∈ ks, isN s.heap p.2 p.1) (few : ks.length < 64) (room : A.units + 20 < cLine)
    (fin : ∀ (h' : Heap) (tk : Nat) L es ep t, SN P w h' s.heap.objs.size L es ep t → GotN ks ks.length L → (∀ b o, s.heap.get? b = some o → h'.get? b = some o) → Q (.ref s.heap.objs.size) { s with heap := h', toks := tk }) :
    wpAny (model P w) A (call (.type "set") [.ref l]) Q E s := by
  have size : us.size = ks.length := by rw [← Array.length_toList, hus, List.length_map]
  obtain ⟨c, tl, hmro⟩ := F.called_set.mro
  have hmade := F.called_set.made
  have hsub := F.called_set.sub
  refine wpAny_call (codeAny_of_tree ?_)
  show wpAny _ _ (callAny (.type "set") _) _ _ _
  refine wpAny_pure ⟨Code.quiet_builtin _ (by decide +kernel), codeAny_builtin F.entry_type_call ?_⟩
  rw [Around.under_plain (weight_type_call_type "set" [.ref l] []) rfl]
  have f1 := F.called_set.notType
  have f2 := F.called_set.canCreate
  have f3 := F.typeCall_set_1 (.ref l)
  repeat (any_goals (first | assumption | wp_step))
  refine codeAny_mono (code_set_led1 (.ref l) (E := E) (Q₁ := fun obj z => obj = .ref s.heap.objs.size ∧ z = { s with heap := s.heap.push (freshS w) }) ⟨rfl, rfl⟩) fun r z hr => ?_
  cases r with
  | error e => exact hr
  | ok fl =>
    cases fl with
    | ret obj =>
      obtain ⟨rfl, rfl⟩ := hr
      have gS : (s.heap.push (freshS w)).get? s.heap.objs.size = some (freshS w) := Heap.get?_push_size _ rfl
      have tS : Shared.TypeIs { s with heap := s.heap.push (freshS w) } (.ref s.heap.objs.size) "set" := ⟨_, gS, rfl⟩
      have f4 := F.called_set.init.lookup
      have f5 := F.called_set.init.bind (.ref s.heap.objs.size)
      repeat (any_goals (first | assumption | wp_step))
      refine codeAny_mono (codeAny_call_builtin (R := wants (fun r z => r = .none ∧ ∃ h' tk L es ep t, z = { s with heap := h', toks := tk } ∧ SN P w h' s.heap.objs.size L es ep t ∧ GotN ks ks.length L ∧
          (∀ b o, s.heap.get? b = some o → h'.get? b = some o)) E) F.called_set.init.plain F.entry_set_init (check_set_init_1 tS ?_)) fun r z hr => ?_
      · obtain ⟨ol, e1, e2, nl, e3⟩ := hl
        obtain ⟨ocls, odict, odata, oslots⟩ := ol
        simp only at e2 e3
        subst e2; subst e3
        have e1' : (s.heap.push (freshS w)).get? l = some { cls := .type "tuple", dict := odict, data := .seq us nl, slots := oslots } := Heap.get?_push_of_some _ e1
        have f6 := F.sub_tuple_set
        have f7 := F.sub_tuple_frozenset
        have f8 : (Value.type "tuple" == Value.type "dict") = false := by decide
        have hl1 : (s.heap.push (freshS w)).IsTuple l us := ⟨_, e1', rfl, nl, rfl⟩
        unfold Builtin.«set.__init__» noKeywords Builtin.Frozenset.updateFrom
        generalize hPI : pyIter = PI
        wp_walk
        subst hPI
        refine wpAny_pyIter_tuple hl1 (wpAny_bind (wpAny_runValue ?_))
        have lS : l < s.heap.objs.size := Heap.lt_size e1
        have calm3 : A.in1.in1.in1.handled = none := by simp [calm]
        have neI : l ≠ (s.heap.push (freshS w)).objs.size := by
          rw [Heap.size_push]
          exact Nat.ne_of_lt (Nat.lt_succ_of_lt lS)
        have off : s.heap.objs.size ∉ [(s.heap.push (freshS w)).objs.size, l] := by
          rw [Heap.size_push]
          intro hm
          rcases List.mem_cons.mp hm with e | hm
          · exact absurd e (Nat.ne_of_lt (Nat.lt_succ_self _))
          · exact absurd (List.mem_singleton.mp hm).symm (Nat.ne_of_lt lS)
        have val : ∀ (i : Nat) (v : Value), us[i]? = some v → ∃ p, ks[i]? = some p ∧ v = .ref p.1 := fun i v hv => by
          have q : us.toList[i]? = some v := by rw [Array.getElem?_toList]; exact hv
          rw [hus, List.getElem?_map] at q
          cases hq : ks[i]? with
          | none => rw [hq] at q; cases q
          | some p =>
            rw [hq] at q
            exact ⟨p, rfl, (Option.some.inj q).symm⟩
        have none_of : ∀ b, s.heap.objs.size ≤ b → s.heap.get? b = none := fun b hb => by
          cases q : s.heap.get? b with
          | none => rfl
          | some o => exact absurd (Heap.lt_size q) (Nat.not_lt.mpr hb)
        refine loop_setN ((Walks.tuple calm3 _ l neI us).toS) s.heap.objs.size
          off ks size few val s.heap hk (none_of _ (Nat.le_refl _)) (fun b hb => none_of b (by
            rw [List.mem_singleton.mp hb, Heap.size_push]
            exact Nat.le_succ _)) (by show A.units + 3 + 8 < cLine; omega) (us.size - 0) 0 _ (by omega) (Nat.zero_le _)
          ⟨⟨_, Heap.get?_push_size _ rfl, rfl, rfl⟩, (hl1.push _)⟩ (fun b o e => Heap.get?_push_of_some _ (Heap.get?_push_of_some _ e)) ?start ?done
        case start => exact ⟨[], #[], 0, _, SN.fresh (Heap.get?_push_of_some _ gS), GotN.zero ks⟩
        case done =>
          intro z L es ep t hm hS g hkp
          obtain ⟨h', g2, d', tk', os'⟩ := z
          obtain rfl : g2 = s.gens := hm.gens
          obtain rfl : d' = s.drawn := hm.drawn
          obtain rfl : os' = s.os := hm.os
          show wpAny _ _ _ _ _ _
          refine wpAny_pure ?_
          show wpAny _ _ (ret Value.none) _ _ _
          rw [size] at g
          exact wpAny_pure ⟨rfl, h', tk', L, es, ep, t, rfl, hS, g, hkp⟩
      · cases r with
        | error e => exact hr
        | ok fl =>
          cases fl with
          | ret r =>
            obtain ⟨rfl, h', tk, L, es, ep, t, rfl, hS, g, hk'⟩ := hr
            repeat (any_goals (first | assumption | wp_step))
            exact fin _ _ _ _ _ _ hS g hk'
          | _ => exact hr.elim
    | _ => exact hr.elim
end
end PB

set_option Elab.async false
set_option linter.all false
set_option maxRecDepth 100000
set_option maxHeartbeats 4000000
set_option backward.match.sparseCases false
/-! What data is in the heap. -/
namespace PB
open PySem PySem.Spec PyProof.Rows L2

def toS (s : List Nat) : Str := ⟨s.toArray⟩
theorem toS_len (s : List Nat) : (toS s).length = s.length := by simp [toS, Str.length]
theorem toS_cps (s : List Nat) : (toS s).cps.toList = s := by simp [toS]
theorem toS_inj {a b : List Nat} (h : toS a = toS b) : a = b := by
  have := congrArg (fun z : Str => z.cps.toList) h
  simpa [toS] using this

/-- the written part holds a tuple at a -/
def KTup (K : PySem.W.Frag) (a : Addr) (vs : List V) : Prop :=
  ∃ (o : Obj) (its : Array Value) (n : Nat), K.lookup a = some o ∧ o.cls = .type "tuple" ∧ o.data = .seq its n ∧ its.size ≤ sizeLine ∧ Vals vs its.toList

/-- a text within bounds -/
def okS (s : List Nat) : Prop := s.length ≤ lim ∧ ∀ c ∈ s, c < 1114112

/-- .. a list -/
def KLst (K : PySem.W.Frag) (a : Addr) (vs : List V) : Prop :=
  ∃ (o : Obj) (its : Array Value) (n : Nat), K.lookup a = some o ∧ o.cls = .type "list" ∧ o.dict = none ∧ o.data = .seq its n ∧ its.size ≤ sizeLine ∧ Vals vs its.toList

mutual
/-- v shows the data x; it stands at none of the addresses av -/
inductive Rep (K : PySem.W.Frag) (av : List Addr) (H : Hp) : Dt → V → Prop
  | non : Rep K av H .non .non
  | bl (b : Bool) : Rep K av H (.bl b) (.bl b)
  | int (i : Int) : Rep K av H (.int i) (.int i)
  | str (s : List Nat) (h : okS s) : Rep K av H (.str s) (.str (toS s))
  | tup {a : Addr} {vs : List V} {xs : List Dt} (h : a ∉ av) (r : Rd H a (.tup vs)) (e : RepL K av H xs vs) : Rep K av H (.tup xs) (.ref a)
  | tupK {a : Addr} {vs : List V} {xs : List Dt} (r : KTup K a vs) (e : RepL K av H xs vs) : Rep K av H (.tup xs) (.ref a)
  | lst {a : Addr} {vs : List V} {xs : List Dt} (h : a ∉ av) (r : Rd H a (.lst vs)) (e : RepL K av H xs vs) : Rep K av H (.lst xs) (.ref a)
  | scr {a : Addr} {ns : List Int} (r : (a ∉ av ∧ Rd H a (.lst (ns.map V.int))) ∨ KLst K a (ns.map V.int)) : Rep K av H (.scr ns) (.ref a)
inductive RepL (K : PySem.W.Frag) (av : List Addr) (H : Hp) : List Dt → List V → Prop
  | nil : RepL K av H [] []
  | cons {x : Dt} {v : V} {xs : List Dt} {vs : List V} (h : Rep K av H x v) (r : RepL K av H xs vs) : RepL K av H (x :: xs) (v :: vs)
end

section
variable {K : PySem.W.Frag} {av av' : List Addr} {H H' : Hp}
/-- all objects off av stand, and off av' -/
def Keeps (av : List Addr) (H : Hp) (av' : List Addr) (H' : Hp) : Prop := ∀ a o, a ∉ av → H a = some o → H' a = some o ∧ a ∉ av'
theorem Keeps.refl : Keeps av H av H := fun _ _ h e => ⟨e, h⟩
theorem Keeps.trans {av2 : List Addr} {H2 : Hp} (p : Keeps av H av' H') (q : Keeps av' H' av2 H2) : Keeps av H av2 H2 := fun a o h e => by
  obtain ⟨e1, h1⟩ := p a o h e
  exact q a o h1 e1
theorem Keeps.rd {a : Addr} {u : HO} (k : Keeps av H av' H') (h : a ∉ av) (r : Rd H a u) : Rd H' a u ∧ a ∉ av' := by
  rcases r with r | ⟨o, r⟩
  · exact ⟨.inl (k _ _ h r).1, (k _ _ h r).2⟩
  · exact ⟨.inr ⟨o, (k _ _ h r).1⟩, (k _ _ h r).2⟩

mutual
theorem Rep.keep (k : Keeps av H av' H') : ∀ {x : Dt} {v : V}, Rep K av H x v → Rep K av' H' x v
  | _, _, .non => .non
  | _, _, .bl b => .bl b
  | _, _, .int i => .int i
  | _, _, .str s h => .str s h
  | _, _, .tup h r e => .tup (k.rd h r).2 (k.rd h r).1 (RepL.keep k e)
  | _, _, .tupK r e => .tupK r (RepL.keep k e)
  | _, _, .lst h r e => .lst (k.rd h r).2 (k.rd h r).1 (RepL.keep k e)
  | _, _, .scr r => .scr (r.imp (fun z => ⟨(k.rd z.1 z.2).2, (k.rd z.1 z.2).1⟩) id)
theorem RepL.keep (k : Keeps av H av' H') : ∀ {xs : List Dt} {vs : List V}, RepL K av H xs vs → RepL K av' H' xs vs
  | _, _, .nil => .nil
  | _, _, .cons h r => .cons (Rep.keep k h) (RepL.keep k r)
end
/-- fewer addresses to stay off -/
theorem Keeps.fewer (h : ∀ a ∈ av', a ∈ av) : Keeps av H av' H := fun a o n e => ⟨e, fun z => n (h a z)⟩

theorem RepL.length : ∀ {xs : List Dt} {vs : List V}, RepL K av H xs vs → xs.length = vs.length
  | _, _, .nil => rfl
  | _, _, .cons _ r => by rw [List.length_cons, List.length_cons, RepL.length r]
theorem RepL.get : ∀ {xs : List Dt} {vs : List V} {i : Nat} {x : Dt}, RepL K av H xs vs → xs[i]? = some x → ∃ v, vs[i]? = some v ∧ Rep K av H x v
  | _, _, i, x, .nil, e => by simp at e
  | _, _, 0, x, .cons h r, e => by
    simp at e; subst e
    exact ⟨_, rfl, h⟩
  | _, _, i + 1, x, .cons h r, e => by
    obtain ⟨v, e1, q⟩ := RepL.get (i := i) r (by simpa using e)
    exact ⟨v, by simpa using e1, q⟩
theorem RepL.get' : ∀ {xs : List Dt} {vs : List V} {i : Nat} {v : V}, RepL K av H xs vs → vs[i]? = some v → ∃ x, xs[i]? = some x ∧ Rep K av H x v
  | _, _, i, x, .nil, e => by simp at e
  | _, _, 0, x, .cons h r, e => by
    simp at e; subst e
    exact ⟨_, rfl, h⟩
  | _, _, i + 1, x, .cons h r, e => by
    obtain ⟨v, e1, q⟩ := RepL.get' (i := i) r (by simpa using e)
    exact ⟨v, by simpa using e1, q⟩
theorem RepL.append : ∀ {xs ys : List Dt} {vs us : List V}, RepL K av H xs vs → RepL K av H ys us → RepL K av H (xs ++ ys) (vs ++ us)
  | _, _, _, _, .nil, q => q
  | _, _, _, _, .cons h r, q => .cons h (RepL.append r q)
theorem RepL.take : ∀ {xs : List Dt} {vs : List V} (n : Nat), RepL K av H xs vs → RepL K av H (xs.take n) (vs.take n)
  | _, _, 0, _ => .nil
  | _, _, n + 1, .nil => .nil
  | _, _, n + 1, .cons h r => .cons h (RepL.take n r)
theorem RepL.drop : ∀ {xs : List Dt} {vs : List V} (n : Nat), RepL K av H xs vs → RepL K av H (xs.drop n) (vs.drop n)
  | _, _, 0, r => r
  | _, _, n + 1, .nil => .nil
  | _, _, n + 1, .cons h r => RepL.drop n r
theorem RepL.rep {xs : List Dt} {vs : List V} (r : RepL K av H xs vs) : ∀ n : Nat, RepL K av H (List.replicate n xs).flatten (List.replicate n vs).flatten
  | 0 => .nil
  | n + 1 => by
    rw [List.replicate_succ, List.replicate_succ, List.flatten_cons, List.flatten_cons]
    exact r.append (r.rep n)
theorem RepL.strs : ∀ {xs : List Dt} {vs : List V} {ys : List (List Nat)}, RepL K av H xs vs → allStr xs = some ys → vs = ys.map fun y => V.str (toS y)
  | _, _, ys, .nil, e => by
    simp [allStr] at e; subst e; rfl
  | _, _, ys, .cons (x := x) h r, e => by
    cases h with
    | str s hs =>
      simp only [allStr, Option.map_eq_some_iff] at e
      obtain ⟨zs, e1, rfl⟩ := e
      rw [RepL.strs r e1]; rfl
    | _ => simp [allStr] at e
theorem RepL.bls : ∀ {xs : List Dt} {vs : List V} {ys : List Bool}, RepL K av H xs vs → allBl xs = some ys → vs = ys.map V.bl
  | _, _, ys, .nil, e => by
    simp [allBl] at e; subst e; rfl
  | _, _, ys, .cons (x := x) h r, e => by
    cases h with
    | bl b =>
      simp only [allBl, Option.map_eq_some_iff] at e
      obtain ⟨zs, e1, rfl⟩ := e
      rw [RepL.bls r e1]; rfl
    | _ => simp [allBl] at e
end

/-- the tuple at a, read -/
theorem Rep.sqT {K : PySem.W.Frag} {av : List Addr} {H : Hp} {xs : List Dt} {v : V} (h : Rep K av H (.tup xs) v) : ∃ a vs, v = .ref a ∧ SqT K H a vs ∧ RepL K av H xs vs := by
  cases h with
  | tup h r e => exact ⟨_, _, rfl, .inl r, e⟩
  | tupK r e => exact ⟨_, _, rfl, .inr r, e⟩

/-- as data of the library -/
def toPy : Dt → PyData
  | .non => .none
  | .bl b => .bool b
  | .int i => .int i
  | .str s => .str (toS s)
  | .tup xs => .tuple (toPys xs)
  | .lst xs => .list (toPys xs)
  | .scr ns => .list (ns.map PyData.int)
where toPys : List Dt → List PyData
  | [] => []
  | x :: xs => toPy x :: toPys xs

theorem lim_eq : lim = sizeLine := by rw [sizeLine_eq]; rfl
theorem okS.ok {s : List Nat} (h : okS s) : PyData.strOk (toS s) = true := by
  unfold PyData.strOk toS
  simp only [List.all_toArray, List.all_eq_true, decide_eq_true_eq]
  exact h.2
section
variable {K : PySem.W.Frag} {av : List Addr} {H : Hp}
theorem dp_ints : ∀ ns : List Int, DpAll K H (ns.map V.int) (ns.map PyData.int)
  | [] => .nil
  | n :: ns => .cons (.int n) (dp_ints ns)
theorem can_ints : ∀ ns : List Int, PyData.canLayAll0 (ns.map PyData.int) = true
  | [] => rfl
  | n :: ns => by
    show (PyData.canLay0 (.int n) && PyData.canLayAll0 (ns.map PyData.int)) = true
    rw [can_ints ns]; rfl
theorem scr_sq {a : Addr} {vs : List V} (r : (a ∉ av ∧ Rd H a (.lst vs)) ∨ KLst K a vs) : SqL K H a vs := r.elim (fun z => .inl z.2) .inr
mutual
theorem Rep.dp : ∀ {x : Dt} {v : V}, Rep K av H x v → Dp K H v (toPy x) ∧ (toPy x).canLay0 = true
  | _, _, .non => ⟨.non, rfl⟩
  | _, _, .bl b => ⟨.bl b, rfl⟩
  | _, _, .int i => ⟨.int i, rfl⟩
  | _, _, .str s h => ⟨.str _, by simp only [toPy, PyData.canLay0]; exact h.ok⟩
  | _, _, .tup h r e => ⟨by rw [toPy]; exact .tup (.inl r) (RepL.dp e).1, by simp only [toPy, PyData.canLay0]; exact (RepL.dp e).2⟩
  | _, _, .tupK r e => ⟨by rw [toPy]; exact .tup (.inr r) (RepL.dp e).1, by simp only [toPy, PyData.canLay0]; exact (RepL.dp e).2⟩
  | _, _, .lst h r e => ⟨by rw [toPy]; exact .lst (.inl r) (RepL.dp e).1, by simp only [toPy, PyData.canLay0]; exact (RepL.dp e).2⟩
  | _, _, .scr (ns := ns) r => ⟨by rw [toPy]; exact .lst (scr_sq r) (dp_ints ns), by simp only [toPy, PyData.canLay0]; exact can_ints ns⟩
theorem RepL.dp : ∀ {xs : List Dt} {vs : List V}, RepL K av H xs vs → DpAll K H vs (toPy.toPys xs) ∧ PyData.canLayAll0 (toPy.toPys xs) = true
  | _, _, .nil => ⟨.nil, rfl⟩
  | _, _, .cons h r => ⟨by rw [toPy.toPys]; exact .cons (Rep.dp h).1 (RepL.dp r).1, by simp only [toPy.toPys, PyData.canLayAll0, (Rep.dp h).2, (RepL.dp r).2, Bool.and_self]⟩
end
end
theorem dep_ints : ∀ ns : List Int, PyData.depthAll (ns.map PyData.int) = 0
  | [] => rfl
  | n :: ns => by
    show max (PyData.depth (.int n)) (PyData.depthAll (ns.map PyData.int)) = 0
    rw [dep_ints ns]; rfl
mutual
theorem dep_toPy : ∀ x : Dt, (toPy x).depth = depD x
  | .non => rfl
  | .bl _ => rfl
  | .int _ => rfl
  | .str _ => rfl
  | .tup xs => by simp only [toPy, PyData.depth, depD, deps_toPy xs]
  | .lst xs => by simp only [toPy, PyData.depth, depD, deps_toPy xs]
  | .scr ns => by simp only [toPy, PyData.depth, depD, dep_ints ns]
theorem deps_toPy : ∀ xs : List Dt, PyData.depthAll (toPy.toPys xs) = depDs xs
  | [] => rfl
  | x :: xs => by simp only [toPy.toPys, PyData.depthAll, depDs, dep_toPy x, deps_toPy xs]
end
theorem toS_beq (a b : List Nat) : (toS a == toS b) = (a == b) := by
  by_cases h : a = b
  · subst h; simp
  · have h2 : toS a ≠ toS b := fun e => h (toS_inj e)
    rw [beq_eq_false_iff_ne.mpr h, beq_eq_false_iff_ne.mpr h2]
theorem eqv_ints : ∀ a b : List Int, PyData.eqvAll (a.map PyData.int) (b.map PyData.int) = (a == b)
  | [], [] => rfl
  | [], _ :: _ => rfl
  | _ :: _, [] => rfl
  | x :: a, y :: b => by
    show (PyData.eqv (.int x) (.int y) && PyData.eqvAll (a.map PyData.int) (b.map PyData.int)) = _
    rw [eqv_ints a b]
    rfl
theorem eqv_il : ∀ (a : List Int) (ys : List Dt), PyData.eqvAll (a.map PyData.int) (toPy.toPys ys) = eqIL a ys
  | [], [] => rfl
  | [], _ :: _ => rfl
  | _ :: _, [] => rfl
  | x :: a, y :: ys => by
    show (PyData.eqv (.int x) (toPy y) && PyData.eqvAll (a.map PyData.int) (toPy.toPys ys)) = _
    rw [eqv_il a ys]
    cases y <;> rfl
theorem eqv_li : ∀ (xs : List Dt) (b : List Int), PyData.eqvAll (toPy.toPys xs) (b.map PyData.int) = eqLI xs b
  | [], [] => rfl
  | [], _ :: _ => rfl
  | _ :: _, [] => rfl
  | x :: xs, y :: b => by
    show (PyData.eqv (toPy x) (.int y) && PyData.eqvAll (toPy.toPys xs) (b.map PyData.int)) = _
    rw [eqv_li xs b]
    cases x <;> rfl
mutual
theorem eqv_toPy : ∀ x y : Dt, PyData.eqv (toPy x) (toPy y) = eqD x y
  | .tup xs, .tup ys => by simp only [toPy, PyData.eqv, eqD, eqvs_toPy xs ys]
  | .lst xs, .lst ys => by simp only [toPy, PyData.eqv, eqD, eqvs_toPy xs ys]
  | .str a, .str b => by simp only [toPy, PyData.eqv, eqD, toS_beq]
  | .scr a, .scr b => by simp only [toPy, PyData.eqv, eqD, eqv_ints]
  | .scr a, .lst ys => by simp only [toPy, PyData.eqv, eqD, eqv_il]
  | .lst xs, .scr b => by simp only [toPy, PyData.eqv, eqD, eqv_li]
  | .non, y => by cases y <;> rfl
  | .bl _, y => by cases y <;> rfl
  | .int _, y => by cases y <;> rfl
  | .str _, .non => rfl
  | .str _, .bl _ => rfl
  | .str _, .int _ => rfl
  | .str _, .tup _ => rfl
  | .str _, .lst _ => rfl
  | .str _, .scr _ => rfl
  | .tup _, .non => rfl
  | .tup _, .bl _ => rfl
  | .tup _, .int _ => rfl
  | .tup _, .str _ => rfl
  | .tup _, .lst _ => rfl
  | .tup _, .scr _ => rfl
  | .lst _, .non => rfl
  | .lst _, .bl _ => rfl
  | .lst _, .int _ => rfl
  | .lst _, .str _ => rfl
  | .lst _, .tup _ => rfl
  | .scr _, .non => rfl
  | .scr _, .bl _ => rfl
  | .scr _, .int _ => rfl
  | .scr _, .str _ => rfl
  | .scr _, .tup _ => rfl
theorem eqvs_toPy : ∀ xs ys : List Dt, PyData.eqvAll (toPy.toPys xs) (toPy.toPys ys) = eqDs xs ys
  | [], [] => rfl
  | [], _ :: _ => rfl
  | _ :: _, [] => rfl
  | x :: xs, y :: ys => by simp only [toPy.toPys, PyData.eqvAll, eqDs, eqv_toPy x y, eqvs_toPy xs ys]
end
theorem any_toPy (a : Dt) : ∀ xs : List Dt, ((toPy.toPys xs).any fun z => PyData.eqv z (toPy a)) = xs.any fun z => eqD z a
  | [] => rfl
  | x :: xs => by simp only [toPy.toPys, List.any_cons, eqv_toPy x a, any_toPy a xs]

end PB

set_option Elab.async false
set_option linter.all false
set_option maxRecDepth 100000
set_option maxHeartbeats 4000000
set_option backward.match.sparseCases false
/-! The store and the names in the heap; readings by the own meaning. -/
namespace PB
open PySem PySem.Spec PyProof.Rows L2

/-- the store's objects stand at φ; the foreign addresses fo are others, and stand -/
structure Sok (K : PySem.W.Frag) (fo φ : List Addr) (H : Hp) (st : Sr) : Prop where
  len : φ.length = st.length
  nd : φ.Nodup
  ft : ∀ a ∈ fo, ∃ o, H a = some o
  dj : ∀ a ∈ φ, a ∉ fo
  ob : ∀ (n : Nat) (a : Addr) (xs : List Dt), φ[n]? = some a → st[n]? = some (.lst xs) → ∃ vs, H a = some (.lst vs) ∧ RepL K (fo ++ φ) H xs vs
def RepW (K : PySem.W.Frag) (fo φ : List Addr) (H : Hp) : Wv → V → Prop
  | .d x, v => Rep K (fo ++ φ) H x v
  | .ob n, v => ∃ a, φ[n]? = some a ∧ v = .ref a
structure EnvOk (K : PySem.W.Frag) (fo φ : List Addr) (H : Hp) (ρ : Ev) (σ : L2.St) : Prop where
  len : ρ.length = σ.length
  at_ : ∀ (i : Nat) (w : Wv), ρ[i]? = some (some w) → ∃ v, σ[i]? = some (some v) ∧ RepW K fo φ H w v
/-- the store may have grown, its objects may have changed, all else stands -/
structure Step (φ : List Addr) (H : Hp) (φ' : List Addr) (H' : Hp) : Prop where
  ext : ∃ t, φ' = φ ++ t
  keep : Keeps φ H φ' H'

section
variable {K : PySem.W.Frag} {fo φ φ1 φ2 : List Addr} {H H1 H2 : Hp} {st st1 : Sr} {ρ : Ev} {σ : L2.St}
theorem Step.refl : Step φ H φ H := ⟨⟨[], by simp⟩, .refl⟩
theorem Step.trans (a : Step φ H φ1 H1) (b : Step φ1 H1 φ2 H2) : Step φ H φ2 H2 := by
  obtain ⟨t, rfl⟩ := a.ext
  obtain ⟨u, rfl⟩ := b.ext
  exact ⟨⟨t ++ u, by rw [List.append_assoc]⟩, a.keep.trans b.keep⟩
theorem Step.same (h : Same H H1) : Step φ H φ H1 := ⟨⟨[], by simp⟩, fun a o n e => ⟨h a o e, n⟩⟩
theorem Step.keeps (a : Step φ H φ1 H1) : Keeps (fo ++ φ) H (fo ++ φ1) H1 := fun b o n e => by
  rw [List.mem_append, not_or] at n
  obtain ⟨e1, n1⟩ := a.keep b o n.2 e
  exact ⟨e1, by rw [List.mem_append, not_or]; exact ⟨n.1, n1⟩⟩
theorem Step.get (a : Step φ H φ1 H1) {n : Nat} {x : Addr} (h : φ[n]? = some x) : φ1[n]? = some x := by
  obtain ⟨t, rfl⟩ := a.ext
  rw [List.getElem?_append_left (List.getElem?_eq_some_iff.mp h).1]
  exact h
theorem RepW.step (a : Step φ H φ1 H1) {w : Wv} {v : V} (h : RepW K fo φ H w v) : RepW K fo φ1 H1 w v := by
  cases w with
  | d x => exact Rep.keep a.keeps h
  | ob n =>
    obtain ⟨x, e, r⟩ := h
    exact ⟨x, a.get e, r⟩
theorem EnvOk.step (a : Step φ H φ1 H1) (h : EnvOk K fo φ H ρ σ) : EnvOk K fo φ1 H1 ρ σ :=
  ⟨h.len, fun i w e => let ⟨v, e1, r⟩ := h.at_ i w e; ⟨v, e1, r.step a⟩⟩
theorem EnvOk.set {i : Nat} {w : Wv} {v : V} (h : EnvOk K fo φ H ρ σ) (r : RepW K fo φ H w v) : EnvOk K fo φ H (ρ.set i (some w)) (σ.set i (some v)) := by
  refine ⟨by rw [List.length_set, List.length_set]; exact h.len, fun j w' e => ?_⟩
  by_cases hj : i = j
  · subst hj
    by_cases hi : i < ρ.length
    · rw [List.getElem?_set_self hi] at e
      cases e
      exact ⟨v, by rw [List.getElem?_set_self (by rw [← h.len]; exact hi)], r⟩
    · rw [List.getElem?_eq_none (by simpa using hi)] at e
      cases e
  · rw [List.getElem?_set_ne hj] at e
    obtain ⟨u, e1, q⟩ := h.at_ j w' e
    exact ⟨u, by rw [List.getElem?_set_ne hj]; exact e1, q⟩
theorem EnvOk.wiped (h : EnvOk K fo φ H ρ σ) : ∀ vs : List Nat, EnvOk K fo φ H (wipeE ρ vs) (wipe σ vs)
  | [] => h
  | v :: vs => by
    have q := EnvOk.wiped h vs
    refine ⟨by show ((wipeE ρ vs).set v none).length = ((wipe σ vs).set v none).length; rw [List.length_set, List.length_set]; exact q.len, fun j w' e => ?_⟩
    have e : ((wipeE ρ vs).set v none)[j]? = some (some w') := e
    show ∃ u, ((wipe σ vs).set v none)[j]? = some (some u) ∧ _
    by_cases hj : v = j
    · subst hj
      by_cases hi : v < (wipeE ρ vs).length
      · rw [List.getElem?_set_self hi] at e; cases e
      · rw [List.getElem?_eq_none (by simpa using hi)] at e; cases e
    · rw [List.getElem?_set_ne hj] at e
      obtain ⟨u, e1, r⟩ := q.at_ j w' e
      exact ⟨u, by rw [List.getElem?_set_ne hj]; exact e1, r⟩
theorem Sok.trk (s : Sok K fo φ H st) : ∀ a ∈ fo ++ φ, ∃ o, H a = some o := fun a h => by
  rcases List.mem_append.mp h with h | h
  · exact s.ft a h
  · obtain ⟨n, e⟩ := List.getElem?_of_mem h
    have hn : n < st.length := by
      rw [← s.len]; exact (List.getElem?_eq_some_iff.mp e).1
    have e2 : st[n]? = some st[n] := List.getElem?_eq_getElem hn
    cases q : st[n] with
    | lst xs =>
      rw [q] at e2
      obtain ⟨vs, e3, _⟩ := s.ob n a xs e e2
      exact ⟨_, e3⟩
theorem Sok.fresh (s : Sok K fo φ H st) {p : Addr} (h : H p = none) : p ∉ fo ++ φ := fun z => by
  obtain ⟨o, e⟩ := s.trk p z
  rw [h] at e; cases e
/-- more stands -/
theorem Sok.same (s : Sok K fo φ H st) (h : Same H H1) : Sok K fo φ H1 st :=
  ⟨s.len, s.nd, fun a z => let ⟨o, e⟩ := s.ft a z; ⟨o, h a o e⟩, s.dj, fun n a xs e1 e2 => let ⟨vs, e3, r⟩ := s.ob n a xs e1 e2; ⟨vs, h a _ e3, RepL.keep (Step.keeps (Step.same h)) r⟩⟩
theorem Sok.push (s : Sok K fo φ H st) : True := trivial
/-- data that is looked at: a list may be one of the store's -/
def VRep (K : PySem.W.Frag) (av : List Addr) (H : Hp) : Dt → V → Prop
  | .lst xs, v => ∃ a vs, v = .ref a ∧ Rd H a (.lst vs) ∧ RepL K av H xs vs
  | x, v => Rep K av H x v
theorem Rep.view {av : List Addr} {x : Dt} {v : V} (h : Rep K av H x v) : VRep K av H x v := by
  cases h with
  | lst h r e => exact ⟨_, _, rfl, r, e⟩
  | tup h r e => exact Rep.tup h r e
  | tupK r e => exact Rep.tupK r e
  | non => exact Rep.non
  | bl b => exact Rep.bl b
  | int i => exact Rep.int i
  | str s h => exact Rep.str s h
  | scr r => exact Rep.scr r
theorem view_of {w : Wv} {v : V} {x : Dt} (s : Sok K fo φ H st) (r : RepW K fo φ H w v) (e : viewW st w = some x) : VRep K (fo ++ φ) H x v := by
  cases w with
  | d y =>
    have : y = x := Option.some.inj e
    subst this
    exact Rep.view r
  | ob n =>
    obtain ⟨a, e1, rfl⟩ := r
    unfold viewW at e
    simp only at e
    split at e
    · rename_i xs q
      cases e
      obtain ⟨vs, e3, r⟩ := s.ob n a xs e1 q
      exact ⟨a, vs, rfl, .inl e3, r⟩
    · cases e
end

/-! ### what is wanted of an exception -/
abbrev Xw := Nat → List Dt → Sr → List Addr → Hp → Prop

section
variable {K : PySem.W.Frag} {xw : Xw} {fo φ φ1 φ2 : List Addr} {H H1 H2 : Hp} {α β : Type}
/-- behind a step of the own meaning -/
def Go (K : PySem.W.Frag) (xw : Xw) (fo φ : List Addr) (H : Hp) (r : Rs (α × Sr)) (R : α → Sr → List Addr → Hp → Prop) : Prop :=
  match r with
  | .ok p => ∀ φ' H', Step φ H φ' H' → Sok K fo φ' H' p.2 → R p.1 p.2 φ' H'
  | .exc c fs st => ∀ φ' H', Step φ H φ' H' → Sok K fo φ' H' st → xw c fs st φ' H'
  | .bad => False
theorem Go.ok {a : α} {st : Sr} {R : α → Sr → List Addr → Hp → Prop} : Go K xw fo φ H (.ok (a, st)) R = ∀ φ' H', Step φ H φ' H' → Sok K fo φ' H' st → R a st φ' H' := rfl
theorem Go.at_ {r : Rs (α × Sr)} {R : α → Sr → List Addr → Hp → Prop} (h : Go K xw fo φ H r R) (a : Step φ H φ1 H1) : Go K xw fo φ1 H1 r R := by
  cases r with
  | ok p => exact fun φ' H' s q => h φ' H' (a.trans s) q
  | exc c fs sx => exact fun φ' H' s q => h φ' H' (a.trans s) q
  | bad => exact h
theorem Go.imp {r : Rs (α × Sr)} {R R' : α → Sr → List Addr → Hp → Prop} (h : Go K xw fo φ H r R) (f : ∀ a st φ' H', Step φ H φ' H' → Sok K fo φ' H' st → R a st φ' H' → R' a st φ' H') : Go K xw fo φ H r R' := by
  cases r with
  | ok p => exact fun φ' H' s q => f _ _ _ _ s q (h φ' H' s q)
  | exc c fs sx => exact h
  | bad => exact h
theorem Go.of_bind {r : Rs (α × Sr)} {f : α × Sr → Rs (β × Sr)} {R : β → Sr → List Addr → Hp → Prop} (h : Go K xw fo φ H (r.bind f) R) : Go K xw fo φ H r (fun a st φ1 H1 => Go K xw fo φ1 H1 (f (a, st)) R) := by
  cases r with
  | ok p => exact fun φ' H' s q => Go.at_ (r := f p) h s
  | exc c fs sx => exact h
  | bad => exact h
/-- the step that was gone -/
theorem Go.run {a : α} {st : Sr} {R : α → Sr → List Addr → Hp → Prop} (h : Go K xw fo φ H (.ok (a, st)) R) (q : Sok K fo φ H st) : R a st φ H := h φ H .refl q

end

/-- the program's own exceptions: a class's value, its fields -/
structure Xt where
  cls : Nat → Option Value
  flds : Nat → List Str
/-- the exception (cls, d) shows the number c and the fields fs -/
def XRep (XT : Xt) (K : PySem.W.Frag) (av : List Addr) (H : Hp) (c : Nat) (fs : List Dt) (cls : Value) (d : Option Addr) : Prop :=
  XT.cls c = some cls ∧ fs.length = (XT.flds c).length ∧ ((fs = [] ∧ d = none) ∨ fs ≠ [] ∧ ∃ a vs, d = some a ∧ a ∉ av ∧ H a = some (.xd ((XT.flds c).zip vs)) ∧ RepL K av H fs vs)
def xwOf (XT : Xt) (K : PySem.W.Frag) (W : WX) (σ : L2.St) (fo : List Addr) : Xw := fun c fs _ φ H => ∀ cls d, XRep XT K (fo ++ φ) H c fs cls d → W cls d σ H

section
variable (XT : Xt) (K : PySem.W.Frag) (W : WX)
/-- an expression's reading by its meaning -/
def tW (m : Ev → Sr → Rs (Wv × Sr)) : TE := fun σ H Q => ∃ fo φ ρ st, Sok K fo φ H st ∧ EnvOk K fo φ H ρ σ ∧
  Go K (xwOf XT K W σ fo) fo φ H (m ρ st) (fun w _ φ' H' => ∀ v, RepW K fo φ' H' w v → Q v H')
def tT (m : Ev → Sr → Rs (Bool × Sr)) : TT := fun σ H Q => ∃ fo φ ρ st, Sok K fo φ H st ∧ EnvOk K fo φ H ρ σ ∧
  Go K (xwOf XT K W σ fo) fo φ H (m ρ st) (fun b _ _ H' => Q b H')
def tL (m : Ev → Sr → Rs (List Wv × Sr)) : TA := fun σ H Q => ∃ fo φ ρ st, Sok K fo φ H st ∧ EnvOk K fo φ H ρ σ ∧
  Go K (xwOf XT K W σ fo) fo φ H (m ρ st) (fun ws _ φ' H' => ∀ vs, Paired (RepW K fo φ' H') ws vs → Q vs H')
def tO (m : Ev → Sr → Rs (Option Int × Sr)) : TO := fun σ H Q => ∃ fo φ ρ st, Sok K fo φ H st ∧ EnvOk K fo φ H ρ σ ∧
  Go K (xwOf XT K W σ fo) fo φ H (m ρ st) (fun o _ _ H' => Q o H')
/-- J walks the items while the watched objects stay -/
def WkOk (fo φ₀ : List Addr) (H₀ : Hp) (J : It) (p : List Dt × List (Nat × List Dt)) : Prop :=
  ∀ fo' φ H st, (∃ t, φ = φ₀ ++ t) → Keeps (fo ++ φ₀) H₀ (fo' ++ φ) H → Sok K fo' φ H st → watchOk p.2 st = true →
    (∀ i, i < p.1.length → J.go i H) ∧ J.stop p.1.length H ∧ ∀ i d x H', p.1[i]? = some d → J.yld i H x H' → Same H H' ∧ Rep K (fo' ++ φ) H' d x
def tI (m : Ev → Sr → Rs Wk) : TI := fun σ H R => ∃ fo φ ρ st, Sok K fo φ H st ∧ EnvOk K fo φ H ρ σ ∧
  Go K (xwOf XT K W σ fo) fo φ H (m ρ st) (fun p st' φ' H' => ∀ J, WkOk K fo φ' H' J p → watchOk p.2 st' = true → R J H')
end
theorem PE.weak {X : Cx} {e : Expr} {t t' : TE} (h : PE X e t) (f : ∀ σ H Q, t' σ H Q → t σ H Q) : PE X e t' := ⟨fun pins s σ H Q I q => h.run pins s σ H Q I (f σ H Q q)⟩
theorem PT.weak {X : Cx} {e : Expr} {t t' : TT} (h : PT X e t) (f : ∀ σ H Q, t' σ H Q → t σ H Q) : PT X e t' := ⟨fun pins s σ H Q I q => h.run pins s σ H Q I (f σ H Q q)⟩
theorem PA.weak {X : Cx} {e : List Expr} {t t' : TA} (h : PA X e t) (f : ∀ σ H Q, t' σ H Q → t σ H Q) : PA X e t' := ⟨fun pos pins s σ H Q I q => h.run pos pins s σ H Q I (f σ H Q q)⟩

/-! ### operators by values -/
/-- the rule r serves f: from what shows x and y to what shows f x y, all that stood stands -/
def OpS (K : PySem.W.Frag) (f : Dt → Dt → Option Dt) (r : R2) : Prop := ∀ (av : List Addr) (H : Hp) (x y z : Dt) (v u : V) (Q : VK), (∀ a ∈ av, ∃ o, H a = some o) → VRep K av H x v → VRep K av H y u → f x y = some z →
  (∀ w H', Same H H' → Rep K av H' z w → Q w H') → r v u H Q
def UnS (K : PySem.W.Frag) (f : Dt → Option Dt) (r : V → Hp → VK → Prop) : Prop := ∀ (av : List Addr) (H : Hp) (x z : Dt) (v : V) (Q : VK), (∀ a ∈ av, ∃ o, H a = some o) → VRep K av H x v → f x = some z →
  (∀ w H', Same H H' → Rep K av H' z w → Q w H') → r v H Q
theorem same_new {H : Hp} {p : Addr} {o : HO} (h : H p = none) : Same H (upd H p o) := fun b x e => by
  rw [upd_ne (ne_of_none e h)]
  exact e
section
variable {XT : Xt} {K : PySem.W.Frag} {W : WX} {σ : L2.St} {H : Hp} {Q : VK} {m : Ev → Sr → Rs (Wv × Sr)} {m' : Ev → Sr → Rs (Wv × Sr)}
theorem tW_op1 {f : Dt → Option Dt} {r : V → Hp → VK → Prop} (hr : UnS K f r) (h : tW XT K W (fun ρ st => (m ρ st).bind (op1 f)) σ H Q) : tW XT K W m σ H (fun x H1 => r x H1 Q) := by
  obtain ⟨fo, φ, ρ, st, hs, he, h⟩ := h
  refine ⟨fo, φ, ρ, st, hs, he, (Go.of_bind h).imp fun w st1 φ1 H1 s1 q1 h1 v rv => ?_⟩
  unfold op1 at h1
  simp only at h1
  cases e1 : viewW st1 w with
  | none => rw [e1] at h1; exact h1.elim
  | some x =>
    rw [e1] at h1
    cases e2 : f x with
    | none => simp only [Option.bind_some, e2] at h1; exact h1.elim
    | some z =>
      simp only [Option.bind_some, e2] at h1
      exact hr (fo ++ φ1) H1 x z v Q q1.trk (view_of q1 rv e1) e2 fun u H' sm rz => h1 φ1 H' (Step.same sm) (q1.same sm) u rz
theorem tW_op2 {f : Dt → Dt → Option Dt} {r : R2} (hr : OpS K f r) (h : tW XT K W (fun ρ st => (m ρ st).bind fun p => (m' ρ p.2).bind fun q => op2 f p.1 q) σ H Q) : tOp r (tW XT K W m) (tW XT K W m') σ H Q := by
  obtain ⟨fo, φ, ρ, st, hs, he, h⟩ := h
  refine ⟨fo, φ, ρ, st, hs, he, (Go.of_bind h).imp fun w st1 φ1 H1 s1 q1 h1 v rv => ?_⟩
  refine ⟨fo, φ1, ρ, st1, q1, he.step s1, (Go.of_bind h1).imp fun w2 st2 φ2 H2 s2 q2 h2 v2 rv2 => ?_⟩
  unfold op2 at h2
  simp only at h2
  cases e1 : viewW st2 w with
  | none => rw [e1] at h2; exact h2.elim
  | some x =>
    cases e2 : viewW st2 w2 with
    | none => simp only [e1, e2, Option.bind_some] at h2; exact h2.elim
    | some y =>
      cases e3 : f x y with
      | none => simp only [e1, e2, e3, Option.bind_some] at h2; exact h2.elim
      | some z =>
        simp only [e1, e2, e3, Option.bind_some] at h2
        exact hr (fo ++ φ2) H2 x y z v v2 Q q2.trk (view_of q2 (rv.step s2) e1) (view_of q2 rv2 e2) e3 fun u H' sm rz => h2 φ2 H' (Step.same sm) (q2.same sm) u rz
end
end PB

set_option Elab.async false
set_option linter.all false
set_option maxRecDepth 100000
set_option maxHeartbeats 4000000
set_option backward.match.sparseCases false
/-! Operators. -/
namespace PB
open PySem PySem.Spec PyProof.Rows L2
section
variable {X : Cx} {K : PySem.W.Frag} {av : List Addr} {H : Hp}

theorem vint {i : Int} {v : V} (h : VRep K av H (.int i) v) : v = .int i := by cases (show Rep K av H (.int i) v from h); rfl
theorem vbl {i : Bool} {v : V} (h : VRep K av H (.bl i) v) : v = .bl i := by cases (show Rep K av H (.bl i) v from h); rfl
theorem vnon {v : V} (h : VRep K av H .non v) : v = .non := by cases (show Rep K av H .non v from h); rfl
theorem vstr {s : List Nat} {v : V} (h : VRep K av H (.str s) v) : v = .str (toS s) ∧ okS s := by cases (show Rep K av H (.str s) v from h) with | str s hs => exact ⟨rfl, hs⟩
theorem vtup {xs : List Dt} {v : V} (h : VRep K av H (.tup xs) v) : ∃ a vs, v = .ref a ∧ SqT K H a vs ∧ RepL K av H xs vs := Rep.sqT h
theorem vscr {ns : List Int} {v : V} (h : VRep K av H (.scr ns) v) : ∃ a, v = .ref a ∧ SqL K H a (ns.map V.int) := by
  cases (show Rep K av H (.scr ns) v from h) with | scr r => exact ⟨_, rfl, scr_sq r⟩
theorem vlst {xs : List Dt} {v : V} (h : VRep K av H (.lst xs) v) : ∃ a vs, v = .ref a ∧ Rd H a (.lst vs) ∧ RepL K av H xs vs := h

theorem okS.append {a b : List Nat} (ha : okS a) (hb : okS b) (h : a.length + b.length ≤ lim) : okS (a ++ b) :=
  ⟨by rw [List.length_append]; exact h, fun c hc => (List.mem_append.mp hc).elim (ha.2 c) (hb.2 c)⟩
theorem toS_append (a b : List Nat) : toS a ++ toS b = toS (a ++ b) := by
  show Str.mk _ = Str.mk _
  simp [toS]
/-- fresh places -/
theorem fresh_of (ht : ∀ a ∈ av, ∃ o, H a = some o) {p : Addr} (h : H p = none) : p ∉ av := fun z => by
  obtain ⟨o, e⟩ := ht p z
  rw [h] at e; cases e
theorem RepL.same {xs : List Dt} {vs : List V} {H' : Hp} (r : RepL K av H xs vs) (s : Same H H') : RepL K av H' xs vs := RepL.keep (fun a o n e => ⟨s a o e, n⟩) r
theorem Rep.same {x : Dt} {v : V} {H' : Hp} (r : Rep K av H x v) (s : Same H H') : Rep K av H' x v := Rep.keep (fun a o n e => ⟨s a o e, n⟩) r
theorem rep_newT {xs : List Dt} {vs : List V} {p : Addr} (ht : ∀ a ∈ av, ∃ o, H a = some o) (h : H p = none) (r : RepL K av H xs vs) : Rep K av (upd H p (.tup vs)) (.tup xs) (.ref p) :=
  .tup (fresh_of ht h) (.inl upd_same) (r.same (same_new h))
theorem rep_newL {xs : List Dt} {vs : List V} {p : Addr} (ht : ∀ a ∈ av, ∃ o, H a = some o) (h : H p = none) (r : RepL K av H xs vs) : Rep K av (upd H p (.lst vs)) (.lst xs) (.ref p) :=
  .lst (fresh_of ht h) (.inl upd_same) (r.same (same_new h))
theorem rep_tup {a : Addr} {xs : List Dt} {vs : List V} (h : Rep K av H (.tup xs) (.ref a)) (q : SqT K H a vs) : True := trivial

/-! #### list + list, read -/
def rCatR : R2 := fun x y H Q => ∃ l b xs zs, x = .ref l ∧ y = .ref b ∧ Rd H l (.lst xs) ∧ Rd H b (.lst zs) ∧ xs.length + zs.length ≤ sizeLine ∧ ∀ p, H p = none → Q (.ref p) (upd H p (.lst (xs ++ zs)))
theorem op_catR : OpR X (binaryOp .Add) rCatR := by
  intro pins s σ H x y v u Q I rx ry h
  obtain ⟨l, b, xs, zs, rfl, rfl, hH, hB, hz, q⟩ := h
  cases rx
  cases ry
  obtain ⟨z, its, n, r, e⟩ := hH.ok I.hok
  obtain ⟨z2, its2, n2, r2, e2⟩ := hB.ok I.hok
  have hl := r.length
  have hl2 := r2.length
  refine PySem.P.add_list e e2 ?_ (by rw [List.size_toArray, List.size_toArray]; omega)
  have ea : its.toArray ++ its2.toArray = (its ++ its2).toArray := by simp
  rw [ea]
  exact ⟨.ref _, _, I.lnew (t' := s.toks) (r.append r2) (by rw [List.length_append]; omega), rfl, q _ I.fresh⟩
/-! #### text * int -/
def rMulS : R2 := fun x y H Q => ∃ (a : List Nat) (k : Int), x = .str (toS a) ∧ y = .int k ∧ a.length * k.toNat ≤ lim ∧ -(2 ^ 62) < k ∧ k < 2 ^ 62 ∧ Q (.str (toS (List.replicate k.toNat a).flatten)) H
theorem foldl_repA (a : List Nat) : ∀ (k : Nat) (acc : List Nat), (List.replicate k a.toArray).foldl (· ++ ·) acc.toArray = (acc ++ (List.replicate k a).flatten).toArray
  | 0, acc => by simp
  | k + 1, acc => by
    rw [List.replicate_succ, List.foldl_cons, List.replicate_succ, List.flatten_cons, ← List.append_assoc]
    have : acc.toArray ++ a.toArray = (acc ++ a).toArray := by simp
    rw [this]
    exact foldl_repA a k (acc ++ a)
theorem tooLong_of {n : Nat} (h : n ≤ lim) : Builtin.Str.tooLong n = false := by
  unfold Builtin.Str.tooLong
  exact decide_eq_false (by rw [← lim_eq]; omega)
theorem op_mulS : OpR X (binaryOp .Mult) rMulS := by
  intro pins s σ H x y v u Q I rx ry h
  obtain ⟨a, k, rfl, rfl, hz, hlo, hhi, q⟩ := h
  obtain ⟨t, rfl⟩ := rx
  obtain ⟨t', rfl⟩ := ry
  have hlen : (toS a).length = a.length := toS_len a
  have h2 : lim = 16777216 := rfl
  refine PySem.P.mul_str ?_ ?_ ?_ ?_
  · have h1 : ¬ k < -(2 ^ 63 : Int) := by omega
    have h3 : ¬ k ≥ (2 ^ 63 : Int) := by omega
    rw [decide_eq_false h1, decide_eq_false h3]; rfl
  · intro h1 h3
    rw [hlen]
    have hk : (k.toNat : Int) = k := Int.toNat_of_nonneg (by omega)
    have h4 : ((a.length : Int)) * k ≤ (lim : Int) := by
      have h7 : ((a.length * k.toNat : Nat) : Int) ≤ (lim : Int) := Int.ofNat_le.mpr hz
      rw [Int.natCast_mul, hk] at h7
      exact h7
    have h8 : (lim : Int) = 16777216 := rfl
    rw [h8] at h4
    intro h5
    have h6 : (2 ^ 63 - 1 : Int) < (a.length : Int) * k := by
      have := Int.lt_mul_of_ediv_lt (by omega : 0 < k) h5
      rw [Int.mul_comm] at this
      first | exact this | (rw [Int.mul_comm] at this; exact this)
    omega
  · intro h1 h3
    rw [hlen]
    exact tooLong_of hz
  · by_cases h1 : k < 1
    · rw [if_pos h1]
      have e : k.toNat = 0 := by omega
      refine ⟨by decide, ⟨.str (toS (List.replicate k.toNat a).flatten), H, I.tok _, ?_, q⟩⟩
      rw [e]
      exact ⟨_, rfl⟩
    · rw [if_neg h1]
      by_cases h3 : (k == 1 || (toS a).length == 0) = true
      · rw [if_pos h3]
        have e : (List.replicate k.toNat a).flatten = a := by
          simp only [Bool.or_eq_true, beq_iff_eq, hlen] at h3
          rcases h3 with h3 | h3
          · subst h3
            show (List.replicate 1 a).flatten = a
            simp
          · have : a = [] := List.length_eq_zero_iff.mp h3
            subst this
            simp
        rw [e] at q
        exact ⟨.str (toS a), H, I, ⟨_, rfl⟩, q⟩
      · rw [if_neg h3]
        have e : (List.replicate k.toNat (toS a).cps).foldl (· ++ ·) #[] = ((List.replicate k.toNat a).flatten).toArray := by
          have := foldl_repA a k.toNat []
          simpa [toS] using this
        rw [e]
        refine ⟨?_, ⟨.str (toS (List.replicate k.toNat a).flatten), H, I.tok _, ⟨_, rfl⟩, q⟩⟩
        show (List.replicate k.toNat a).flatten.toArray.size ≤ _
        rw [List.size_toArray]
        have e2 : (List.replicate k.toNat a).flatten.length = k.toNat * a.length := by simp [List.length_flatten]
        rw [e2, Nat.mul_comm]
        first | exact Nat.le_trans hz (by rw [h2, sizeLine_eq]; exact Nat.le_refl _) | (rw [sizeLine_eq]; omega)

/-! #### tuple * 1 -/
theorem mulT_one (l : Addr) (items : Array Value) (n : Nat) (dd : Option Addr) (sl : Array (Option Value)) (u : Tok) :
    Meets (Builtin.«tuple.__mul__» ⟨[.ref l, .int 1 u], []⟩) (fun _ R s => s.heap.get? l = some { cls := .type "tuple", dict := dd, data := .seq items n, slots := sl } ∧ R (.ok (.ret (Value.ref l))) s) :=
  .of_wp fun prog w A R s h => by
    obtain ⟨hp, g, d, tk, os⟩ := s
    obtain ⟨hl, h⟩ := h
    have f1 := AutoSeq1.idx_int
    have c1 : (items.isEmpty || (1 : Int) == 1) = true := by simp
    wp_walk using wpAny_loadPart' hl
    repeat (first
      | (refine wpAny_ite_true (decide_eq_true c1) ?_; wp_walk using wpAny_loadPart' hl)
      | (refine wpAny_ite_false (decide_eq_false (by decide)) ?_; wp_walk using wpAny_loadPart' hl))
    exact ⟨_, rfl, h⟩
def rRepT1 (K : PySem.W.Frag) : R2 := fun x y H Q => ∃ l xs, x = .ref l ∧ y = .int 1 ∧ SqT K H l xs ∧ Q (.ref l) H
theorem op_repT1 : OpR X (binaryOp .Mult) (rRepT1 X.K) := by
  intro pins s σ H x y v u Q I rx ry h
  obtain ⟨l, xs, rfl, rfl, hT, q⟩ := h
  cases rx
  obtain ⟨t, rfl⟩ := ry
  obtain ⟨its, r, ⟨⟨cls, dd, data, sl⟩, ho, hc, n, hd⟩, hs⟩ := I.tuple hT
  simp only at hc hd
  subst hc hd
  exact wpAny_binaryOp_repeat_ref (T := "tuple") (U := "int") (by decide) ⟨_, ho, rfl⟩ (fun s' => typeIs_int s' 1 t) noFill_tuple_mul F.fills_int_mul F.slot_int_rmul repeat_tuple F.slot_int_index.lookup
    (call_meets F.slot_int_rmul (typeIs_int s 1 t) F.entry_int_rmul (F.args_int_rmul_2 _ _) (int_rmul_tuple 1 t l its.toArray n dd sl)
      ⟨ho, rfl, ⟨_, ho, rfl⟩, call_meets F.slot_tuple_mul ⟨_, ho, rfl⟩ F.entry_tuple_mul (F.args_tuple_mul_2 _ _) (mulT_one l its.toArray n dd sl t) ⟨ho, .ref l, H, I, rfl, q⟩⟩)
/-! #### list * int -/
def rRepR : R2 := fun x y H Q => ∃ l k xs, x = .ref l ∧ y = .int k ∧ Rd H l (.lst xs) ∧ xs ≠ [] ∧ 1 ≤ k ∧ k ≤ 1000 ∧ xs.length ≤ 1000 ∧ ∀ p, H p = none → Q (.ref p) (upd H p (.lst (List.replicate k.toNat xs).flatten))
theorem rep_arr (its : List Value) : ∀ (m : Nat) (acc : List Value), (List.replicate m its.toArray).foldl (fun a b => a ++ b) acc.toArray = (acc ++ (List.replicate m its).flatten).toArray
  | 0, acc => by simp
  | m + 1, acc => by
    have ea : acc.toArray ++ its.toArray = (acc ++ its).toArray := by simp
    rw [List.replicate_succ, List.foldl_cons, ea, rep_arr its m (acc ++ its), List.replicate_succ, List.flatten_cons, List.append_assoc]
theorem op_repR : OpR X (binaryOp .Mult) rRepR := by
  intro pins s σ H x y v u Q I rx ry h
  obtain ⟨l, k, xs, rfl, rfl, hH, hne, k1, k2, k3, q⟩ := h
  cases rx
  obtain ⟨t, rfl⟩ := ry
  obtain ⟨z, its, n, r, e⟩ := hH.ok I.hok
  have hlx : xs.length = its.length := r.length
  have hk : k.toNat ≤ 1000 := by omega
  have hm : its.length * k.toNat ≤ 1000 * 1000 := Nat.mul_le_mul (by omega) hk
  have hz : its.length * k.toNat ≤ sizeLine := by rw [sizeLine_eq]; omega
  have b1 : ¬ its.toArray.size * k.toNat > (2 ^ 63 - 1) / 8 := by rw [List.size_toArray]; omega
  have b2 : ¬ (!Builtin.List.listFitsIndex k) = true := by rw [fitsIndex_both (by omega) (by omega)]; exact Bool.false_ne_true
  have b3 : ¬ Builtin.List.listTooLong (its.toArray.size * k.toNat) = true := by rw [notLongL (by rw [List.size_toArray]; exact hz)]; exact Bool.false_ne_true
  have en : List.foldl (fun x1 x2 => x1 ++ x2) #[] (List.replicate (if its.toArray.isEmpty = true then 0 else k.toNat) its.toArray) = (List.replicate k.toNat its).flatten.toArray := by
    have hi : ¬ its.toArray.isEmpty = true := fun e0 => by
      have e1 : its = [] := by simpa using e0
      rw [e1] at hlx
      exact hne (List.length_eq_zero_iff.mp hlx)
    rw [if_neg hi]
    exact rep_arr its k.toNat []
  have rr : Vals (List.replicate k.toNat xs).flatten (List.replicate k.toNat its).flatten := r.rep k.toNat
  exact wpAny_binaryOp_repeat_ref (T := "list") (U := "int") (by decide) ⟨_, e, rfl⟩ (fun s' => typeIs_int s' k t) noFill_list_mul F.fills_int_mul F.slot_int_rmul repeat_list F.slot_int_index.lookup (call_meets F.slot_int_rmul (typeIs_int s k t) F.entry_int_rmul (F.args_int_rmul_2 _ _) (int___rmul___int_list k t l its.toArray n) ⟨e, rfl, ⟨_, e, rfl⟩, call_meets F.slot_list_mul ⟨_, e, rfl⟩ F.entry_list_mul (F.args_list_mul_2 _ _) (AutoListH.list___mul___list_int_3 l its.toArray n k t b2 b1 b3) ⟨e, by
    rw [en]
    exact ⟨.ref _, _, I.lnew (t' := s.toks) rr (by rw [PyProof.Rows.lm_len_rep_flat, Nat.mul_comm, hlx]; exact hz), rfl, q _ I.fresh⟩⟩⟩)
/-! #### + - * // % -/
def pyBop : Bop → Operator
  | .add => .Add | .sub => .Sub | .mul => .Mult | .fdiv => .FloorDiv | .mod => .Mod
def rBop (K : PySem.W.Frag) : Bop → R2
  | .add => fun x y H Q => rI0 (fun i j => .int (i + j)) x y H Q ∨ ((∃ i j, x = .str i ∧ y = .str j ∧ i.length + j.length ≤ sizeLine ∧ Q (.str (i ++ j)) H) ∨ (rCatA K x y H Q ∨ rCatR x y H Q))
  | .sub => rI0 fun i j => .int (i - j)
  | .mul => fun x y H Q => rI CMul (fun i j => .int (i * j)) x y H Q ∨ (rMulS x y H Q ∨ (rRepT K x y H Q ∨ (rRepT1 K x y H Q ∨ rRepR x y H Q)))
  | .fdiv => rI CDiv fun i j => .int (i / j)
  | .mod => rI (fun _ j => 0 < j) fun i j => .int (i % j)
theorem op_bop : ∀ o : Bop, OpR X (binaryOp (pyBop o)) (rBop X.K o)
  | .add => op_add.or (op_add_str.or (op_catA.or op_catR))
  | .sub => op_sub
  | .mul => op_mul.or (op_mulS.or (op_repT.or (op_repT1.or op_repR)))
  | .fdiv => op_fdiv
  | .mod => op_mod
theorem okS.rep {a : List Nat} (h : okS a) {k : Nat} (hz : a.length * k ≤ lim) : okS (List.replicate k a).flatten := by
  refine ⟨by simp [List.length_flatten]; rw [Nat.mul_comm]; exact hz, fun c hc => ?_⟩
  obtain ⟨l, hl, hc⟩ := List.mem_flatten.mp hc
  rw [(List.mem_replicate.mp hl).2] at hc
  exact h.2 c hc
theorem ops_add : OpS K (bopD .add) (rBop K .add) := by
  intro av H x y z v u Q ht hx hy e q
  unfold bopD at e
  split at e <;> try (cases e; done)
  · cases vint hx; cases vint hy; cases e
    exact .inl ⟨_, _, rfl, rfl, q _ H (.refl H) (.int _)⟩
  · obtain ⟨rfl, ha⟩ := vstr hx
    obtain ⟨rfl, hb⟩ := vstr hy
    split at e
    · rename_i hl
      cases e
      refine .inr (.inl ⟨_, _, rfl, rfl, by rw [toS_len, toS_len, ← lim_eq]; exact hl, ?_⟩)
      rw [toS_append]
      exact q _ H (.refl H) (.str _ (ha.append hb hl))
    · cases e
  · split at e
    · rename_i hl
      cases e
      obtain ⟨a, vs, rfl, ha, ra⟩ := vtup hx
      obtain ⟨b, us, rfl, hb, rb⟩ := vtup hy
      refine .inr (.inr (.inl ⟨a, b, vs, us, rfl, rfl, ha, hb, by rw [← ra.length, ← rb.length, ← lim_eq]; exact hl, fun e0 => ?_, fun _ e0 => ?_, fun _ _ p hp => q _ _ (same_new hp) (rep_newT ht hp (ra.append rb))⟩))
      · subst e0
        cases ra
        exact q _ H (.refl H) hy
      · subst e0
        cases rb
        rw [List.append_nil] at q
        exact q _ H (.refl H) hx
    · cases e
  · split at e
    · rename_i hl
      cases e
      obtain ⟨a, vs, rfl, ha, ra⟩ := vlst hx
      obtain ⟨b, us, rfl, hb, rb⟩ := vlst hy
      exact .inr (.inr (.inr ⟨a, b, vs, us, rfl, rfl, ha, hb, by rw [← ra.length, ← rb.length, ← lim_eq]; exact hl, fun p hp => q _ _ (same_new hp) (rep_newL ht hp (ra.append rb))⟩))
    · cases e
  all_goals (rename_i h1; cases h1)
theorem ops_bop (o : Bop) : OpS K (bopD o) (rBop K o) := by
  cases o with
  | add => exact ops_add
  | sub =>
    intro av H x y z v u Q ht hx hy e q
    unfold bopD at e
    split at e <;> first | (rename_i h1; cases h1; done) | skip
    · cases vint hx; cases vint hy; cases e
      exact ⟨_, _, rfl, rfl, q _ H (.refl H) (.int _)⟩
    · cases e
  | mul =>
    intro av H x y z v u Q ht hx hy e q
    unfold bopD at e
    split at e <;> first | (rename_i h1; cases h1; done) | skip
    · cases vint hx; cases vint hy
      split at e
      · rename_i hc
        cases e
        exact .inl ⟨_, _, rfl, rfl, hc, q _ H (.refl H) (.int _)⟩
      · cases e
    · obtain ⟨rfl, ha⟩ := vstr hx
      cases vint hy
      split at e
      · rename_i hc
        cases e
        exact .inr (.inl ⟨_, _, rfl, rfl, hc.1, hc.2.1, hc.2.2, q _ H (.refl H) (.str _ (ha.rep hc.1))⟩)
      · cases e
    · rename_i i_ _
      obtain ⟨a, vs, rfl, ha, ra⟩ := vtup hx
      cases vint hy
      split at e
      · rename_i hc
        cases e
        have hl := ra.length
        by_cases h1 : i_ = 1
        · subst h1
          refine .inr (.inr (.inr (.inl ⟨a, vs, rfl, rfl, ha, q _ H (.refl H) ?_⟩)))
          simp only [Int.toNat_one, List.replicate_one, List.flatten_singleton]
          exact hx
        · refine .inr (.inr (.inl ⟨a, _, vs, rfl, rfl, ha, fun e0 => ?_, by omega, hc.2.2.1, by omega, fun p hp => q _ _ (same_new hp) (rep_newT ht hp (ra.rep _))⟩))
          subst e0
          have := hc.1
          rw [hl] at this
          exact absurd this (by simp)
      · cases e
    · obtain ⟨a, vs, rfl, ha, ra⟩ := vlst hx
      cases vint hy
      split at e
      · rename_i hc
        cases e
        have hl := ra.length
        refine .inr (.inr (.inr (.inr ⟨a, _, vs, rfl, rfl, ha, fun e0 => ?_, hc.2.1, hc.2.2.1, by omega, fun p hp => q _ _ (same_new hp) (rep_newL ht hp (ra.rep _))⟩)))
        subst e0
        have := hc.1
        rw [hl] at this
        exact absurd this (by simp)
      · cases e
    · cases e
  | fdiv =>
    intro av H x y z v u Q ht hx hy e q
    unfold bopD at e
    split at e <;> first | (rename_i h1; cases h1; done) | skip
    · cases vint hx; cases vint hy
      split at e
      · rename_i hc
        cases e
        exact ⟨_, _, rfl, rfl, hc, q _ H (.refl H) (.int _)⟩
      · cases e
    · cases e
  | mod =>
    intro av H x y z v u Q ht hx hy e q
    unfold bopD at e
    split at e <;> first | (rename_i h1; cases h1; done) | skip
    · cases vint hx; cases vint hy
      split at e
      · rename_i hc
        cases e
        exact ⟨_, _, rfl, rfl, hc, q _ H (.refl H) (.int _)⟩
      · cases e
    · cases e
end
end PB

set_option Elab.async false
set_option linter.all false
set_option maxRecDepth 100000
set_option maxHeartbeats 4000000
set_option backward.match.sparseCases false
/-! Comparisons. -/
namespace PB
open PySem PySem.Spec PyProof.Rows L2
section
variable {X : Cx} {K : PySem.W.Frag} {av : List Addr} {H : Hp}
theorem VRep.dp {x : Dt} {v : V} (h : VRep K av H x v) : Dp K H v (toPy x) ∧ (toPy x).canLay0 = true := by
  cases x with
  | lst xs =>
    obtain ⟨a, vs, rfl, r, e⟩ := vlst h
    exact ⟨by rw [toPy]; exact .lst (.inl r) (RepL.dp e).1, by simp only [toPy, PyData.canLay0]; exact (RepL.dp e).2⟩
  | non => exact Rep.dp h
  | bl b => exact Rep.dp h
  | int i => exact Rep.dp h
  | str s => exact Rep.dp h
  | tup xs => exact Rep.dp h
  | scr ns => exact Rep.dp h
def rEqA (K : PySem.W.Frag) (neg : Bool) : R2 := fun x y H Q => ∃ d e, Dp K H x d ∧ Dp K H y e ∧ d.canLay0 = true ∧ e.canLay0 = true ∧ min d.depth e.depth ≤ 64 ∧ Q (.bl (if neg then !PyData.eqv d e else PyData.eqv d e)) H
theorem op_eqA (hu : X.A.units + 65 < cLine) : OpR X (compareOp .Eq) (rEqA X.K false) := by
  intro pins s σ H x y v u Q I rx ry h
  obtain ⟨d, e, hd, he, sd, se, hm, q⟩ := h
  obtain ⟨as, r1⟩ := Dp.reads I d x v hd rx
  obtain ⟨bs, r2⟩ := Dp.reads I e y u he ry
  exact SeqAt.compareEq_reads r1 r2 sd se (by omega) ⟨.bl _, H, I, rfl, q⟩
theorem op_neA (hu : X.A.units + 65 < cLine) : OpR X (compareOp .NotEq) (rEqA X.K true) := by
  intro pins s σ H x y v u Q I rx ry h
  obtain ⟨d, e, hd, he, sd, se, hm, q⟩ := h
  obtain ⟨as, r1⟩ := Dp.reads I d x v hd rx
  obtain ⟨bs, r2⟩ := Dp.reads I e y u he ry
  exact SeqAt.compareNe_reads r1 r2 sd se (by omega) ⟨.bl _, H, I, rfl, q⟩
def rInA (K : PySem.W.Frag) (neg : Bool) : R2 := fun x y H Q => ∃ d ds, Dp K H x d ∧ (Dp K H y (.list ds) ∨ Dp K H y (.tuple ds)) ∧ d.canLay0 = true ∧ PyData.canLayAll0 ds = true ∧ min (PyData.depthAll ds) d.depth ≤ 64 ∧
  Q (.bl (if neg then !ds.any fun z => PyData.eqv z d else ds.any fun z => PyData.eqv z d)) H
theorem op_inA (hu : X.A.units + 65 < cLine) : OpR X (compareOp .In) (rInA X.K false) := by
  intro pins s σ H x y v u Q I rx ry h
  obtain ⟨d, ds, hd, he, sd, se, hm, q⟩ := h
  obtain ⟨as, r1⟩ := Dp.reads I d x v hd rx
  rcases he with he | he
  · obtain ⟨bs, r2⟩ := Dp.reads I _ y u he ry
    exact SeqAt.in_list_reads r2 r1 se sd (by omega) ⟨.bl _, H, I, rfl, q⟩
  · obtain ⟨bs, r2⟩ := Dp.reads I _ y u he ry
    exact SeqAt.in_tuple_reads r2 r1 se sd (by omega) ⟨.bl _, H, I, rfl, q⟩
theorem op_notInA (hu : X.A.units + 65 < cLine) : OpR X (compareOp .NotIn) (rInA X.K true) := by
  intro pins s σ H x y v u Q I rx ry h
  obtain ⟨d, ds, hd, he, sd, se, hm, q⟩ := h
  obtain ⟨as, r1⟩ := Dp.reads I d x v hd rx
  rcases he with he | he
  · obtain ⟨bs, r2⟩ := Dp.reads I _ y u he ry
    exact SeqAt.notIn_list_reads r2 r1 se sd (by omega) ⟨.bl _, H, I, rfl, q⟩
  · obtain ⟨bs, r2⟩ := Dp.reads I _ y u he ry
    exact SeqAt.notIn_tuple_reads r2 r1 se sd (by omega) ⟨.bl _, H, I, rfl, q⟩

/-! #### order -/
theorem key_ints : ∀ ns : List Int, PySem.W.keyToksAll (ns.map PyData.int) = keyIs ns
  | [] => rfl
  | n :: ns => by
    rw [List.map_cons, PySem.W.keyToksAll, key_ints ns, keyIs]
    rfl
mutual
theorem key_toPy : ∀ x : Dt, PySem.W.keyToks (toPy x) = keyD x
  | .non => rfl
  | .bl b => rfl
  | .int i => rfl
  | .str s => by rw [toPy, PySem.W.keyToks, keyD, toS_cps]
  | .tup xs => by rw [toPy, PySem.W.keyToks, keyD, keys_toPy xs]
  | .lst xs => by rw [toPy, PySem.W.keyToks, keyD, keys_toPy xs]
  | .scr ns => by rw [toPy, PySem.W.keyToks, keyD, key_ints ns]
theorem keys_toPy : ∀ xs : List Dt, PySem.W.keyToksAll (toPy.toPys xs) = keyDs xs
  | [] => rfl
  | x :: xs => by rw [toPy.toPys, PySem.W.keyToksAll, keyDs, key_toPy x, keys_toPy xs]
end
theorem sign_eq (a b : Int ⊕ List Nat) : itemLt a b = signLt a b := by
  cases a with
  | inl a => cases b <;> rfl
  | inr a =>
    cases b with
    | inl b => rfl
    | inr b => rfl
theorem row_eq : ∀ a b : List (Int ⊕ List Nat), PyProof.Rows.lexLt itemOrd a b = rowLt a b
  | [], [] => rfl
  | [], _ :: _ => rfl
  | _ :: _, [] => rfl
  | x :: r, y :: t => by
    show (itemLt x y || (!itemLt y x && PyProof.Rows.lexLt itemOrd r t)) = _
    rw [sign_eq, sign_eq, row_eq r t]
    rfl
theorem lt_toPy (x y : Dt) : PySem.W.dataLt (toPy x) (toPy y) = ltB x y := by
  unfold PySem.W.dataLt ltB
  rw [key_toPy, key_toPy, row_eq]
mutual
theorem alike_toPy : ∀ x y : Dt, alikeD x y = true → PySem.W.alike (toPy x) (toPy y) = true
  | .tup xs, .tup ys, h => by
    rw [alikeD] at h
    rw [toPy, toPy, PySem.W.alike]
    exact alikes_toPy xs ys h
  | .lst xs, .lst ys, h => by
    rw [alikeD] at h
    rw [toPy, toPy, PySem.W.alike]
    exact alikes_toPy xs ys h
  | .non, .non, _ => rfl
  | .bl _, .bl _, _ => rfl
  | .int _, .int _, _ => rfl
  | .str _, .str _, _ => rfl
  | .scr _, y, h => by cases y <;> simp [alikeD] at h
  | .non, .bl _, h | .non, .int _, h | .non, .str _, h | .non, .tup _, h | .non, .lst _, h | .non, .scr _, h => by simp [alikeD] at h
  | .bl _, .non, h | .bl _, .int _, h | .bl _, .str _, h | .bl _, .tup _, h | .bl _, .lst _, h | .bl _, .scr _, h => by simp [alikeD] at h
  | .int _, .non, h | .int _, .bl _, h | .int _, .str _, h | .int _, .tup _, h | .int _, .lst _, h | .int _, .scr _, h => by simp [alikeD] at h
  | .str _, .non, h | .str _, .bl _, h | .str _, .int _, h | .str _, .tup _, h | .str _, .lst _, h | .str _, .scr _, h => by simp [alikeD] at h
  | .tup _, .non, h | .tup _, .bl _, h | .tup _, .int _, h | .tup _, .str _, h | .tup _, .lst _, h | .tup _, .scr _, h => by simp [alikeD] at h
  | .lst _, .non, h | .lst _, .bl _, h | .lst _, .int _, h | .lst _, .str _, h | .lst _, .tup _, h | .lst _, .scr _, h => by simp [alikeD] at h
theorem alikes_toPy : ∀ xs ys : List Dt, alikeDs xs ys = true → PySem.W.alikeAll (toPy.toPys xs) (toPy.toPys ys) = true
  | [], _, _ => by rw [toPy.toPys, PySem.W.alikeAll]
  | x :: xs, [], _ => by rw [toPy.toPys, toPy.toPys, PySem.W.alikeAll]
  | x :: xs, y :: ys, h => by
    rw [alikeDs, Bool.and_eq_true] at h
    rw [toPy.toPys, toPy.toPys, PySem.W.alikeAll, alike_toPy x y h.1, alikes_toPy xs ys h.2]
    rfl
end
/-- an order's answer, of alike data -/
def rOrd (K : PySem.W.Frag) (f : PyData → PyData → Bool) : R2 := fun x y H Q => ∃ d e, Dp K H x d ∧ Dp K H y e ∧ PySem.W.alike d e = true ∧ d ≠ .none ∧ min d.depth e.depth ≤ 60 ∧ Q (.bl (f d e)) H
theorem op_ltA (hu : X.A.units + 65 < cLine) : OpR X (compareOp .Lt) (rOrd X.K PySem.W.dataLt) := by
  intro pins s σ H x y v u Q I rx ry h
  obtain ⟨d, e, hd, he, ha, hn, hm, q⟩ := h
  obtain ⟨as, r1⟩ := Dp.reads I d x v hd rx
  obtain ⟨bs, r2⟩ := Dp.reads I e y u he ry
  exact PySem.W.lt_data r1 r2 ha hn (by omega) ⟨.bl _, H, I, rfl, q⟩
theorem op_leA (hu : X.A.units + 65 < cLine) : OpR X (compareOp .LtE) (rOrd X.K fun d e => !PySem.W.dataLt e d) := by
  intro pins s σ H x y v u Q I rx ry h
  obtain ⟨d, e, hd, he, ha, hn, hm, q⟩ := h
  obtain ⟨as, r1⟩ := Dp.reads I d x v hd rx
  obtain ⟨bs, r2⟩ := Dp.reads I e y u he ry
  exact PySem.W.le_data r1 r2 ha hn (by omega) ⟨.bl _, H, I, rfl, q⟩

def pyCop : Cop → CmpOp
  | .eq => .Eq | .ne => .NotEq | .lt => .Lt | .le => .LtE | .gt => .Gt | .ge => .GtE | .is => .Is | .isnot => .IsNot | .inn => .In | .notin => .NotIn
def rCop (K : PySem.W.Frag) : Cop → R2
  | .eq => rEqA K false
  | .ne => rEqA K true
  | .lt => fun x y H Q => rI0 (fun i j => .bl (decide (i < j))) x y H Q ∨ rOrd K PySem.W.dataLt x y H Q
  | .le => fun x y H Q => rI0 (fun i j => .bl (decide (i ≤ j))) x y H Q ∨ rOrd K (fun d e => !PySem.W.dataLt e d) x y H Q
  | .gt => rI0 fun i j => .bl (decide (j < i))
  | .ge => rI0 fun i j => .bl (decide (j ≤ i))
  | .is => fun x y H Q => (y = .non ∧ Q (.bl (decide (x = .non))) H) ∨ rIsB x y H Q
  | .isnot => fun x y H Q => (y = .non ∧ Q (.bl (!decide (x = .non))) H) ∨ rNotB x y H Q
  | .inn => fun x y H Q => (∃ (c : Nat) (z : Str), x = .str ⟨#[c]⟩ ∧ y = .str z ∧ Q (.bl (decide (c ∈ z.cps.toList))) H) ∨ rInA K false x y H Q
  | .notin => fun x y H Q => (∃ (c : Nat) (z : Str), x = .str ⟨#[c]⟩ ∧ y = .str z ∧ Q (.bl (!decide (c ∈ z.cps.toList))) H) ∨ rInA K true x y H Q
theorem op_cop (hu : X.A.units + 65 < cLine) : ∀ o : Cop, OpR X (compareOp (pyCop o)) (rCop X.K o)
  | .eq => op_eqA hu
  | .ne => op_neA hu
  | .lt => op_lt.or (op_ltA hu)
  | .le => op_le.or (op_leA hu)
  | .gt => op_gt
  | .ge => op_ge
  | .is => op_isN.or op_isBl
  | .isnot => op_notN.or op_notBl
  | .inn => op_in_sign.or (op_inA hu)
  | .notin => op_notIn_sign.or (op_notInA hu)
theorem vrep_non {x : Dt} {v : V} (h : VRep K av H x v) : decide (v = V.non) = isNonD x := by
  cases x with
  | lst xs => obtain ⟨a, vs, rfl, r, e⟩ := vlst h; rfl
  | tup xs => obtain ⟨a, vs, rfl, r, e⟩ := vtup h; rfl
  | non => cases vnon h; rfl
  | bl b => cases vbl h; rfl
  | int i => cases vint h; rfl
  | str s => obtain ⟨rfl, _⟩ := vstr h; rfl
  | scr ns => obtain ⟨a, rfl, _⟩ := vscr h; rfl
theorem ops_cop (o : Cop) : OpS K (fun x y => blO (copD o x y)) (rCop K o) := by
  intro av H x y z v u Q ht hx hy e q
  dsimp only at e
  have hq : ∀ b, copD o x y = some b → Q (.bl b) H := fun b hb => by
    rw [hb] at e
    cases e
    exact q _ H (.refl H) (.bl _)
  have hn : ∃ b, copD o x y = some b := by
    cases h : copD o x y with
    | none => rw [h] at e; cases e
    | some b => exact ⟨b, rfl⟩
  clear q e
  obtain ⟨b, hb⟩ := hn
  have hq := hq b hb
  have hI : ∀ (g : Int → Int → Bool) (i j : Int), x = .int i → y = .int j → b = g i j → rI0 (fun i j => .bl (g i j)) v u H Q := fun g i j h1 h2 h3 => by
    subst h1 h2 h3
    cases vint hx; cases vint hy
    exact ⟨_, _, rfl, rfl, hq⟩
  have hO : ∀ (f : PyData → PyData → Bool) (c : Bool), f (toPy x) (toPy y) = c → toPy x ≠ .none → ordD x y c = some b → rOrd K f v u H Q := fun f c h1 h2 h3 => by
    unfold ordD at h3
    split at h3
    · rename_i hc
      cases h3
      refine ⟨toPy x, toPy y, hx.dp.1, hy.dp.1, alike_toPy _ _ hc.1, h2, by rw [dep_toPy, dep_toPy]; omega, ?_⟩
      rw [h1]
      exact hq
    · cases h3
  have hIn : ∀ (neg : Bool) (xs : List Dt), (y = .tup xs ∨ y = .lst xs) → (if depD x ≤ 64 ∨ depDs xs ≤ 64 then some (if neg then !xs.any fun z => eqD z x else xs.any fun z => eqD z x) else none) = some b → rInA K neg v u H Q := fun neg xs h1 h2 => by
    split at h2
    · rename_i hc
      cases h2
      obtain ⟨h3, h4⟩ := hx.dp
      obtain ⟨h5, h6⟩ := hy.dp
      refine ⟨toPy x, toPy.toPys xs, h3, ?_, h4, ?_, ?_, ?_⟩
      · rcases h1 with rfl | rfl
        · rw [toPy] at h5; exact .inr h5
        · rw [toPy] at h5; exact .inl h5
      · rcases h1 with rfl | rfl
        · simpa only [toPy, PyData.canLay0] using h6
        · simpa only [toPy, PyData.canLay0] using h6
      · rw [dep_toPy, deps_toPy]
        omega
      · rw [any_toPy]
        exact hq
    · cases h2
  unfold copD at hb
  split at hb
  -- eq, ne
  · split at hb
    · rename_i hc
      cases hb
      refine ⟨_, _, hx.dp.1, hy.dp.1, hx.dp.2, hy.dp.2, by rw [dep_toPy, dep_toPy]; omega, ?_⟩
      rw [eqv_toPy]
      exact hq
    · cases hb
  · split at hb
    · rename_i hc
      cases hb
      refine ⟨_, _, hx.dp.1, hy.dp.1, hx.dp.2, hy.dp.2, by rw [dep_toPy, dep_toPy]; omega, ?_⟩
      rw [eqv_toPy]
      exact hq
    · cases hb
  · cases hb; exact .inl (hI (fun i j => decide (i < j)) _ _ rfl rfl rfl)
  · cases hb; exact .inl (hI (fun i j => decide (i ≤ j)) _ _ rfl rfl rfl)
  · cases hb; exact hI (fun i j => decide (j < i)) _ _ rfl rfl rfl
  · cases hb; exact hI (fun i j => decide (j ≤ i)) _ _ rfl rfl rfl
  · exact .inr (hO PySem.W.dataLt _ (lt_toPy _ _) (by simp [toPy]) hb)
  · exact .inr (hO PySem.W.dataLt _ (lt_toPy _ _) (by simp [toPy]) hb)
  · exact .inr (hO (fun d e => !PySem.W.dataLt e d) _ (congrArg Bool.not (lt_toPy _ _)) (by simp [toPy]) hb)
  · exact .inr (hO (fun d e => !PySem.W.dataLt e d) _ (congrArg Bool.not (lt_toPy _ _)) (by simp [toPy]) hb)
  · cases hb
    refine .inl ⟨vnon hy, ?_⟩
    rw [vrep_non hx]
    exact hq
  · cases hb
    cases vbl hx; cases vbl hy
    refine .inr ⟨_, _, rfl, rfl, ?_⟩
    rw [← Bool.beq_eq_decide_eq]
    exact hq
  · cases hb
    refine .inl ⟨vnon hy, ?_⟩
    rw [vrep_non hx]
    exact hq
  · cases hb
    cases vbl hx; cases vbl hy
    refine .inr ⟨_, _, rfl, rfl, ?_⟩
    rw [← Bool.beq_eq_decide_eq]
    exact hq
  · cases hb
    obtain ⟨rfl, _⟩ := vstr hx
    obtain ⟨rfl, _⟩ := vstr hy
    refine .inl ⟨_, _, rfl, rfl, ?_⟩
    rw [toS_cps]
    exact hq
  · exact .inr (hIn false _ (.inl rfl) hb)
  · exact .inr (hIn false _ (.inr rfl) hb)
  · cases hb
    obtain ⟨rfl, _⟩ := vstr hx
    obtain ⟨rfl, _⟩ := vstr hy
    refine .inl ⟨_, _, rfl, rfl, ?_⟩
    rw [toS_cps]
    exact hq
  · exact .inr (hIn true _ (.inl rfl) hb)
  · exact .inr (hIn true _ (.inr rfl) hb)
  · cases hb
end
end PB

set_option Elab.async false
set_option linter.all false
set_option maxRecDepth 100000
set_option maxHeartbeats 4000000
set_option backward.match.sparseCases false
/-! Builtins, places, slices, methods. -/
namespace PB
open PySem PySem.Spec PyProof.Rows L2
section
variable {X : Cx} {K : PySem.W.Frag} {av : List Addr} {H : Hp}

theorem S2_ofString (s : String) : (Str.ofString s) = toS (S2 s) := by
  unfold Str.ofString toS S2
  rw [cpsOfBytes_string]
theorem okS_S2 {s : String} (h : (S2 s).length ≤ lim) : okS (S2 s) := by
  refine ⟨h, fun c hc => ?_⟩
  unfold S2 at hc
  obtain ⟨ch, _, rfl⟩ := List.mem_map.mp hc
  have := ch.valid
  show ch.val.toNat < 1114112
  rcases this with h1 | ⟨_, h1⟩ <;> omega

/-! #### builtins of one argument -/
inductive Bi where
  | fn (id : String)
  | ty (id : String)
def pyP1 : P1 → String
  | .len => "len" | .all => "all" | .any => "any" | .tuple => "tuple" | .list => "list" | .str => "str" | .int => "int" | .sorted => "sorted"
def p1Ty : P1 → Bool
  | .len => false | .all => false | .any => false | .tuple => true | .list => true | .str => true | .int => true | .sorted => false
def valP1 (p : P1) : Value := if p1Ty p then .type (pyP1 p) else .builtin (pyP1 p)
/-! #### sorted -/
theorem vals_each : ∀ {out : List Value} {zs : List (Dt × V)}, PySem.W.EachIs (fun v z => RelV z.2 v) out zs → Vals (zs.map Prod.snd) out
  | _, _, .nil => .nil
  | _, _, .cons h t => .cons h (vals_each t)
theorem each_vals : ∀ {zs : List (Dt × V)} {out : List Value}, Vals (zs.map Prod.snd) out → PySem.W.EachIs (fun v z => RelV z.2 v) out zs
  | [], _, h => by cases h; exact .nil
  | z :: zs, _, h => by
    cases h with
    | cons a b => exact .cons a (each_vals b)
theorem each_and {α β : Type} {R S : α → β → Prop} : ∀ {as : List α} {bs : List β}, PySem.W.EachIs R as bs → (∀ a, ∀ b ∈ bs, R a b → S a b) → PySem.W.EachIs S as bs
  | _, _, .nil, _ => .nil
  | _, _, .cons h t, f => .cons (f _ _ List.mem_cons_self h) (each_and t fun a b hb => f a b (List.mem_cons_of_mem _ hb))
theorem le_toPy : (PySem.W.dataLe false fun z : Dt × V => toPy z.1) = fun a b => !ltB b.1 a.1 := by
  funext a b
  show (!PyProof.Rows.lexLt itemOrd (PySem.W.keyToks (toPy b.1)) (PySem.W.keyToks (toPy a.1))) = _
  rw [key_toPy, key_toPy, row_eq]
  rfl
def rSorted (K : PySem.W.Frag) : List V → Hp → VK → Prop := fun vs H Q => ∃ (a : Addr) (zs : List (Dt × V)), vs = [V.ref a] ∧ SqL K H a (zs.map Prod.snd) ∧ (∀ z ∈ zs, Dp K H z.2 (toPy z.1)) ∧ sortableD (zs.map Prod.fst) = true ∧
  ∀ p, H p = none → Q (.ref p) (upd H p (.lst ((zs.mergeSort fun a b => !ltB b.1 a.1).map Prod.snd)))
theorem dep_mem : ∀ {xs : List Dt} {x : Dt}, x ∈ xs → depD x ≤ depDs xs
  | y :: xs, x, h => by
    simp only [depDs]
    rcases List.mem_cons.mp h with rfl | h
    · omega
    · have := dep_mem h; omega
theorem call_sorted (hu : X.A.units + 65 < cLine) : CallR X (.builtin "sorted") (rSorted X.K) := by
  intro pins s σ H vs us Q I r h
  obtain ⟨a, zs, rfl, hs, hd, ok, q⟩ := h
  obtain ⟨its, rv, hl, hz⟩ := I.list hs
  obtain ⟨u, rfl, ru⟩ := vals1 r
  obtain rfl : u = Value.ref a := ru
  have e1 := each_vals rv
  unfold sortableD at ok
  simp only [Bool.and_eq_true, List.all_eq_true, decide_eq_true_eq, Bool.or_eq_true] at ok
  obtain ⟨⟨o1, o2⟩, o3⟩ := ok
  have er : PySem.W.EachIs (fun v z => ∃ as, Reads s.heap v (toPy z.1) as) its zs := each_and e1 fun v z hz hr => Dp.reads I _ _ _ (hd z hz) hr
  refine PySem.W.sorted_data (R := fun v z => RelV z.2 v) (enc := fun z : Dt × V => toPy z.1) hl.isList e1 er ?_ ?_ (by rw [List.length_map] at hz; exact hz) ?_ fun out hlen ho => ?_
  · intro d hd d' hd'
    obtain ⟨z, hz, rfl⟩ := List.mem_map.mp hd
    obtain ⟨z', hz', rfl⟩ := List.mem_map.mp hd'
    exact alike_toPy _ _ (o1 _ (List.mem_map_of_mem hz) _ (List.mem_map_of_mem hz'))
  · rcases o2 with o2 | o2
    · left
      intro d hd
      obtain ⟨z, hz, rfl⟩ := List.mem_map.mp hd
      have := o2 _ (List.mem_map_of_mem hz)
      split at this
      · rename_i x r e
        exact ⟨toPy x, toPy.toPys r, by rw [e, toPy, toPy.toPys]⟩
      · cases this
    · right
      intro d hd
      obtain ⟨z, hz, rfl⟩ := List.mem_map.mp hd
      have := o2 _ (List.mem_map_of_mem hz)
      cases e : z.1 <;> rw [e] at this <;> first | (cases this; done) | (refine ⟨?_, ?_⟩ <;> simp [toPy])
  · intro z hz
    have := dep_mem (List.mem_map_of_mem (f := Prod.fst) hz)
    rw [dep_toPy]
    omega
  · rw [le_toPy] at ho
    obtain ⟨n, hn⟩ := sortedAll_at s.heap its out.toArray
    refine ⟨.ref (s.heap.objs.size + 1), upd H (s.heap.objs.size + 1) (.lst ((zs.mergeSort fun a b => !ltB b.1 a.1).map Prod.snd)), I.laid (t' := s.toks) (fun b o e => sortedAll_old e) (Nat.le_succ _) ⟨?_, out, n, vals_each ho, hn⟩, rfl, q _ (I.hok.fresh (Nat.le_succ _))⟩
    rw [List.length_map, List.length_mergeSort]
    rw [List.length_map] at hz
    exact hz
theorem callR_or {f : Value} {r r' : List V → Hp → VK → Prop} (h : CallR X f r) (h' : CallR X f r') : CallR X f (fun xs H Q => r xs H Q ∨ r' xs H Q) := by
  intro pins s σ H xs us Q I rv q
  rcases q with q | q
  · exact h pins s σ H xs us Q I rv q
  · exact h' pins s σ H xs us Q I rv q
def rP1 (K : PySem.W.Frag) : P1 → List V → Hp → VK → Prop
  | .len => fun xs H Q => ∃ x n, xs = [x] ∧ LenV K x H n ∧ Q (.int n) H
  | .all => rAll K
  | .any => rAny K
  | .tuple => fun xs H Q => ∃ p ys, xs = [.ref p] ∧ ((SqL K H p ys ∧ ∀ l, H l = none → Q (.ref l) (upd H l (.tup ys))) ∨ (SqT K H p ys ∧ Q (.ref p) H))
  | .list => fun xs H Q => ∃ p ys, xs = [.ref p] ∧ (SqL K H p ys ∨ SqT K H p ys) ∧ ∀ l, H l = none → Q (.ref l) (upd H l (.lst ys))
  | .str => fun xs H Q => ∃ i, xs = [.int i] ∧ i.natAbs.log2 < 1920 ∧ Q (.str (toString i)) H
  | .int => fun xs H Q => ((∃ i, xs = [.int i] ∧ Q (.int i) H) ∨ ∃ k, xs = [.bl k] ∧ Q (.int (if k then 1 else 0)) H) ∨ (∃ a n, xs = [.str a] ∧ PySem.intText? a = some n ∧ a.length ≤ 640 ∧ Q (.int n) H)
  | .sorted => rSorted K
theorem call_p1 (hc : X.calm = true) (hu : X.A.units + 65 < cLine) : ∀ p : P1, CallR X (valP1 p) (rP1 X.K p)
  | .len => call_len
  | .all => cr_all hc
  | .any => cr_any hc
  | .tuple => call_tuple_of
  | .list => call_list_of
  | .str => call_str_int
  | .int => callR_or call_int1 call_int_str
  | .sorted => call_sorted hu
def pyB2 : B2 → String
  | .min => "min" | .max => "max"
def rB2 : B2 → List V → Hp → VK → Prop
  | .min => fun xs H Q => ∃ i j, xs = [.int i, .int j] ∧ Q (.int (if j < i then j else i)) H
  | .max => fun xs H Q => ∃ i j, xs = [.int i, .int j] ∧ Q (.int (if j > i then j else i)) H
theorem call_b2 (hc : X.calm = true) : ∀ o : B2, CallR X (.builtin (pyB2 o)) (rB2 o)
  | .min => call_min2 hc
  | .max => call_max2 hc
theorem ops_b2 (o : B2) : OpS K (b2D o) (fun v u H Q => rB2 o [v, u] H Q) := by
  intro av H x y z v u Q ht hx hy e q
  unfold b2D at e
  split at e
  · cases e
    cases vint hx
    cases vint hy
    exact ⟨_, _, rfl, q _ H (.refl H) (.int _)⟩
  · cases e
    cases vint hx
    cases vint hy
    exact ⟨_, _, rfl, q _ H (.refl H) (.int _)⟩
  · cases e
theorem RepL.zip : ∀ {xs : List Dt} {vs : List V}, RepL K av H xs vs → ∀ z ∈ xs.zip vs, Rep K av H z.1 z.2
  | _, _, .nil, z, h => by cases h
  | _, _, .cons a r, z, h => by
    rw [List.zip_cons_cons] at h
    rcases List.mem_cons.mp h with rfl | h
    · exact a
    · exact RepL.zip r z h
theorem RepL.of_pairs : ∀ (zs : List (Dt × V)), (∀ z ∈ zs, Rep K av H z.1 z.2) → RepL K av H (zs.map Prod.fst) (zs.map Prod.snd)
  | [], _ => .nil
  | z :: zs, h => .cons (h z List.mem_cons_self) (RepL.of_pairs zs fun y hy => h y (List.mem_cons_of_mem _ hy))
theorem str_len {i : Int} (h : i.natAbs.log2 < 1920) : (S2 (toString i)).length ≤ lim := by
  have := int_text_fits h
  rw [S2_ofString, toS_len] at this
  rw [lim_eq]
  exact this
theorem uns_p1 (p : P1) : UnS K (p1D p) (fun v H Q => rP1 K p [v] H Q) := by
  intro av H x z v Q ht hx e q
  unfold p1D at e
  split at e
  · cases e
    obtain ⟨rfl, hs⟩ := vstr hx
    refine ⟨_, _, rfl, ⟨by rw [toS_len, ← lim_eq]; exact hs.1, rfl⟩, ?_⟩
    rw [toS_len]
    exact q _ H (.refl H) (.int _)
  · cases e
    obtain ⟨a, vs, rfl, ha, ra⟩ := vtup hx
    refine ⟨_, vs.length, rfl, .inr ⟨vs, ha, rfl⟩, ?_⟩
    rw [← ra.length]
    exact q _ H (.refl H) (.int _)
  · cases e
    obtain ⟨a, vs, rfl, ha, ra⟩ := vlst hx
    refine ⟨_, vs.length, rfl, .inl ⟨vs, .inl ha, rfl⟩, ?_⟩
    rw [← ra.length]
    exact q _ H (.refl H) (.int _)
  · cases e
    obtain ⟨a, rfl, ha⟩ := vscr hx
    refine ⟨_, _, rfl, .inl ⟨_, ha, rfl⟩, ?_⟩
    rw [List.length_map]
    exact q _ H (.refl H) (.int _)
  · obtain ⟨a, vs, rfl, ha, ra⟩ := vlst hx
    obtain ⟨bs, e1, rfl⟩ := Option.map_eq_some_iff.mp e
    have := ra.bls e1
    subst this
    exact ⟨a, bs, rfl, .inl ha, q _ H (.refl H) (.bl _)⟩
  · obtain ⟨a, vs, rfl, ha, ra⟩ := vlst hx
    obtain ⟨bs, e1, rfl⟩ := Option.map_eq_some_iff.mp e
    have := ra.bls e1
    subst this
    exact ⟨a, bs, rfl, .inl ha, q _ H (.refl H) (.bl _)⟩
  · cases e
    obtain ⟨a, vs, rfl, ha, ra⟩ := vlst hx
    exact ⟨a, vs, rfl, .inl ⟨.inl ha, fun l hl => q _ _ (same_new hl) (rep_newT ht hl ra)⟩⟩
  · cases e
    obtain ⟨a, vs, rfl, ha, ra⟩ := vtup hx
    exact ⟨a, vs, rfl, .inr ⟨ha, q _ H (.refl H) hx⟩⟩
  · cases e
    obtain ⟨a, vs, rfl, ha, ra⟩ := vlst hx
    exact ⟨a, vs, rfl, .inl (.inl ha), fun l hl => q _ _ (same_new hl) (rep_newL ht hl ra)⟩
  · cases e
    obtain ⟨a, vs, rfl, ha, ra⟩ := vtup hx
    exact ⟨a, vs, rfl, .inr ha, fun l hl => q _ _ (same_new hl) (rep_newL ht hl ra)⟩
  · split at e
    · rename_i xs hok
      cases e
      obtain ⟨a, vs, rfl, ha, ra⟩ := vlst hx
      have hl := ra.length
      have z1 : (xs.zip vs).map Prod.fst = xs := List.map_fst_zip (by omega)
      have z2 : (xs.zip vs).map Prod.snd = vs := List.map_snd_zip (by omega)
      have hz : ∀ z ∈ xs.zip vs, Rep K av H z.1 z.2 := fun z hz => RepL.zip ra z hz
      refine ⟨a, xs.zip vs, rfl, by rw [z2]; exact .inl ha, fun z h => (hz z h).dp.1, by rw [z1]; exact hok, fun p hp => ?_⟩
      have e1 : sortD xs = ((xs.zip vs).mergeSort fun a b => !ltB b.1 a.1).map Prod.fst := by
        rw [List.map_mergeSort (s := fun a b => !ltB b a) (fun a _ b _ => rfl), z1]
        rfl
      refine q _ _ (same_new hp) ?_
      rw [e1]
      exact rep_newL ht hp (RepL.of_pairs _ fun z h => hz z (List.mem_mergeSort.mp h))
    · cases e
  · cases vint hx
    split at e
    · rename_i i hi
      cases e
      have hlg : i.natAbs.log2 < 1920 := by
        by_cases h0 : i.natAbs = 0
        · rw [h0]; decide
        · have := (Nat.log2_lt h0 (k := 64)).mpr hi
          omega
      refine ⟨i, rfl, hlg, ?_⟩
      · have := q (.str (toS (S2 (toString i)))) H (.refl H) (.str _ (okS_S2 (str_len hlg)))
        rw [← S2_ofString] at this
        exact this
    · cases e
  · cases e
    cases vbl hx
    exact .inl (.inr ⟨_, rfl, q _ H (.refl H) (.int _)⟩)
  · cases e
    cases vint hx
    exact .inl (.inl ⟨_, rfl, q _ H (.refl H) (.int _)⟩)
  · split at e
    · rename_i s hc
      cases e
      obtain ⟨rfl, _⟩ := vstr hx
      refine .inr ⟨toS s, _, rfl, PySem.intText_digits (x := toS s) (fun c h => ?_) (by rw [toS_cps]; exact hc.1) (by rw [toS_len]; omega), by rw [toS_len]; omega, ?_⟩
      · rw [toS_cps] at h
        have := List.all_eq_true.mp hc.2.1 c h
        simpa using this
      · rw [toS_cps]
        exact q _ H (.refl H) (.int _)
    · cases e
  · cases e

/-! #### places -/
theorem ixP_eq (n : Nat) (i : Int) : ixP n i = ixN n i := rfl
theorem ops_ix : OpS K ixD (rIx K) := by
  intro av H x y z v u Q ht hx hy e q
  unfold ixD at e
  split at e
  · obtain ⟨rfl, hs⟩ := vstr hx
    cases vint hy
    obtain ⟨c, e1, rfl⟩ := Option.map_eq_some_iff.mp e
    refine .inr (.inr ⟨_, _, c, rfl, rfl, by rw [toS_len, ← lim_eq]; exact hs.1, by rw [toS_cps]; exact e1, ?_⟩)
    refine q (.str (toS [c])) H (.refl H) (.str _ ⟨by show 1 ≤ 16777216; decide, fun c' hc' => ?_⟩)
    have e2 : c' = c := by simpa using hc'
    subst e2
    unfold ixL at e1
    obtain ⟨j, _, e3⟩ := Option.bind_eq_some_iff.mp e1
    exact hs.2 _ (List.mem_of_getElem? e3)
  · obtain ⟨a, vs, rfl, ha, ra⟩ := vtup hx
    cases vint hy
    unfold ixL at e
    obtain ⟨j, e2, e3⟩ := Option.bind_eq_some_iff.mp e
    obtain ⟨w, e4, rw'⟩ := ra.get e3
    refine .inr (.inl ⟨a, vs, _, w, rfl, rfl, ha, ?_, q _ H (.refl H) rw'⟩)
    unfold atI
    rw [← ra.length, ← ixP_eq, e2]
    exact e4
  · obtain ⟨a, vs, rfl, ha, ra⟩ := vlst hx
    cases vint hy
    unfold ixL at e
    obtain ⟨j, e2, e3⟩ := Option.bind_eq_some_iff.mp e
    obtain ⟨w, e4, rw'⟩ := ra.get e3
    refine .inl ⟨a, vs, _, w, rfl, rfl, .inl ha, ?_, q _ H (.refl H) rw'⟩
    unfold atI
    rw [← ra.length, ← ixP_eq, e2]
    exact e4
  · obtain ⟨a, rfl, ha⟩ := vscr hx
    cases vint hy
    obtain ⟨k, e1, rfl⟩ := Option.map_eq_some_iff.mp e
    unfold ixL at e1
    obtain ⟨j, e2, e3⟩ := Option.bind_eq_some_iff.mp e1
    refine .inl ⟨a, _, _, .int k, rfl, rfl, ha, ?_, q _ H (.refl H) (.int _)⟩
    unfold atI
    rw [List.length_map, ← ixP_eq, e2]
    show (_ : List V)[j]? = _
    rw [List.getElem?_map, e3]
    rfl
  · cases e

/-! #### slices -/
theorem slP_eq (n d : Nat) : ∀ o : Option Int, slP n d o = HT.sIx n d o
  | none => rfl
  | some _ => rfl
theorem RepL.cut {xs : List Dt} {vs : List V} (r : RepL K av H xs vs) (lo hi : Option Int) : RepL K av H (cutL xs lo hi) (cutV vs lo hi) := by
  unfold cutL cutV
  rw [slP_eq, slP_eq, r.length]
  exact (r.drop _).take _
def rSl (K : PySem.W.Frag) : V → Option Int → Option Int → Hp → VK → Prop := fun x lo hi H Q => rSlS x lo hi H Q ∨ (rSlA K x lo hi H Q ∨ rSlL K x lo hi H Q)
theorem sl_any : SlR X (rSl X.K) := sl_str.or (sl_tupA.or sl_list)
theorem uns_sl (lo hi : Option Int) : UnS K (fun x => slD x lo hi) (fun v H Q => rSl K v lo hi H Q) := by
  intro av H x z v Q ht hx e q
  dsimp only at e
  unfold slD at e
  split at e
  · cases e
    rename_i s
    obtain ⟨rfl, hs⟩ := vstr hx
    refine .inl ⟨_, rfl, by rw [toS_len, ← lim_eq]; exact hs.1, ?_⟩
    have e2 : cutS (toS s) lo hi = toS (cutL s lo hi) := by
      unfold cutS cutL
      rw [toS_cps, toS_len, slP_eq, slP_eq]
      rfl
    rw [e2]
    refine q _ H (.refl H) (.str _ ⟨?_, fun c hc => hs.2 c (List.mem_of_mem_drop (List.mem_of_mem_take hc))⟩)
    refine Nat.le_trans ?_ hs.1
    unfold cutL
    rw [List.length_take, List.length_drop]
    omega
  · cases e
    rename_i xs
    obtain ⟨a, vs, rfl, ha, ra⟩ := vtup hx
    refine .inr (.inl ⟨a, vs, rfl, ha, fun hw => ?_, fun _ p hp => q _ _ (same_new hp) (rep_newT ht hp (ra.cut lo hi))⟩)
    have e2 : cutL xs lo hi = xs := by
      unfold cutL
      rw [slP_eq, slP_eq, ra.length, hw.1, hw.2, ← ra.length]
      simp
    rw [e2] at q
    exact q _ H (.refl H) hx
  · cases e
    obtain ⟨a, vs, rfl, ha, ra⟩ := vlst hx
    exact .inr (.inr ⟨a, vs, rfl, .inl ha, fun p hp => q _ _ (same_new hp) (rep_newL ht hp (ra.cut lo hi))⟩)
  · cases e

/-! #### isinstance -/
def pyTy : Ty → String
  | .str => "str" | .int => "int" | .bool => "bool" | .tuple => "tuple" | .list => "list"
def tyName : Dt → String
  | .non => "NoneType" | .bl _ => "bool" | .int _ => "int" | .str _ => "str" | .tup _ => "tuple" | .lst _ => "list" | .scr _ => "list"
theorem kit_isi (x : Dt) (t : Ty) : kitB (tyName x) (pyTy t) = some (isiD t x) := by
  cases x <;> cases t <;> simp only [tyName, pyTy, isiD] <;> decide +kernel
theorem vrep_ty {x : Dt} {v : V} (h : VRep K av H x v) : TyX K H v (.type (tyName x)) := by
  cases x with
  | lst xs =>
    obtain ⟨a, vs, rfl, r, e⟩ := vlst h
    rcases r with r | ⟨o, r⟩
    · exact .base (.lst r)
    · exact .base (.frz r)
  | tup xs =>
    cases (show Rep K av H (.tup xs) v from h) with
    | tup _ r _ =>
      rcases r with r | ⟨o, r⟩
      · exact .base (.tup r)
      · exact .fTuple r
    | tupK r _ =>
      obtain ⟨o, _, _, h1, h2, _⟩ := r
      exact .kTuple h1 h2
  | non => cases vnon h; exact .base .non
  | bl b => cases vbl h; exact .base (.bl _)
  | int i => cases vint h; exact .base (.int _)
  | str s => obtain ⟨rfl, _⟩ := vstr h; exact .base (.str _)
  | scr ns =>
    obtain ⟨a, rfl, r⟩ := vscr h
    rcases r with (r | ⟨o, r⟩) | ⟨o, its, n, h1, h2, _⟩
    · exact .base (.lst r)
    · exact .base (.frz r)
    · exact .kList h1 h2
theorem uns_isi (t : Ty) : UnS K (fun x => some (.bl (isiD t x))) (fun v H Q => rIsi K [v, .ty (pyTy t)] H Q) := by
  intro av H x z v Q ht hx e q
  cases e
  exact ⟨v, .ty (pyTy t), _, _, _, rfl, .ty _, vrep_ty hx, kit_ty (kit_isi x t), q _ H (.refl H) (.bl _)⟩

theorem vrep_same {H1 : Hp} {x : Dt} {v : V} (h : VRep K av H x v) (sm : Same H H1) : VRep K av H1 x v := by
  have kp : Keeps av H av H1 := fun a o n e => ⟨sm a o e, n⟩
  cases x with
  | lst xs =>
    obtain ⟨a, vs, rfl, r, e⟩ := vlst h
    refine ⟨a, vs, rfl, ?_, RepL.keep kp e⟩
    rcases r with r | ⟨o, r⟩
    · exact .inl (sm _ _ r)
    · exact .inr ⟨o, sm _ _ r⟩
  | non => exact Rep.keep kp (show Rep K av H .non v from h)
  | bl b => exact Rep.keep kp (show Rep K av H (.bl b) v from h)
  | int i => exact Rep.keep kp (show Rep K av H (.int i) v from h)
  | str s => exact Rep.keep kp (show Rep K av H (.str s) v from h)
  | tup xs => exact Rep.keep kp (show Rep K av H (.tup xs) v from h)
  | scr ns => exact Rep.keep kp (show Rep K av H (.scr ns) v from h)
theorem uns_isi2 (t u : Ty) : UnS K (fun x => some (.bl (isiD t x || isiD u x))) (fun v H Q => [V.ty (pyTy t), V.ty (pyTy u)].length ≤ sizeLine ∧ ∀ tp, H tp = none → rIsiT K [v, .ref tp] (upd H tp (.tup [.ty (pyTy t), .ty (pyTy u)])) Q) := by
  intro av H x z v Q ht hx e q
  refine ⟨by rw [sizeLine_eq]; show 2 ≤ 16777216; decide, fun tp hp => ?_⟩
  cases e
  have sm : Same H (upd H tp (.tup [.ty (pyTy t), .ty (pyTy u)])) := same_new hp
  have hx' : VRep K av (upd H tp (.tup [.ty (pyTy t), .ty (pyTy u)])) x v := vrep_same hx sm
  refine ⟨v, tp, [.ty (pyTy t), .ty (pyTy u)], _, _, _, rfl, upd_same, .cons (.ty _) (.cons (.ty _) .nil), vrep_ty hx', ?_, q _ _ sm (.bl _)⟩
  refine kitAny_cons (kit_ty (kit_isi x t)) (fun h1 => ?_) (fun h1 => by rw [h1]; rfl)
  refine kitAny_cons (kit_ty (kit_isi x u)) (fun h2 => ?_) (fun h2 => by rw [h2, Bool.or_true])
  rw [h1, h2]
  rfl

/-! #### join -/
theorem glued_fold (sep : List Nat) : ∀ (ys : List (List Nat)) (acc : List Nat), (ys.map toS).foldl (fun acc p => acc ++ (toS sep).cps ++ p.cps) acc.toArray = (ys.foldl (fun acc p => acc ++ sep ++ p) acc).toArray
  | [], acc => by simp
  | y :: ys, acc => by
    rw [List.map_cons, List.foldl_cons, List.foldl_cons, ← glued_fold sep ys]
    simp [toS]
theorem fold_join (sep : List Nat) : ∀ (ys : List (List Nat)) (acc : List Nat), ys.foldl (fun acc p => acc ++ sep ++ p) acc = joinL sep (acc :: ys)
  | [], acc => rfl
  | y :: ys, acc => by
    rw [List.foldl_cons, fold_join sep ys]
    cases ys with
    | nil => simp [joinL]
    | cons z r => simp [joinL]
theorem glued_join (sep : List Nat) (ys : List (List Nat)) : Txt.join (toS sep) (ys.map toS) = toS (joinL sep ys) := by
  show Builtin.Str.glued (toS sep) (ys.map toS) = _
  unfold Builtin.Str.glued
  cases ys with
  | nil => rfl
  | cons y r =>
    show Str.mk (List.foldl _ (toS y).cps (r.map toS)) = _
    have := glued_fold sep r y
    rw [fold_join] at this
    show Str.mk _ = Str.mk _
    rw [← this]
    rfl
theorem sum_len (ys : List (List Nat)) : ((ys.map toS).map (·.length)).sum = sumLen ys := by
  induction ys with
  | nil => rfl
  | cons y r ih => simp only [List.map_cons, List.sum_cons, sumLen, toS_len, ih]
theorem mem_join {sep : List Nat} {c : Nat} : ∀ {ys : List (List Nat)}, c ∈ joinL sep ys → c ∈ sep ∨ ∃ y ∈ ys, c ∈ y
  | [], h => by simp [joinL] at h
  | [y], h => .inr ⟨y, by simp, h⟩
  | y :: z :: r, h => by
    rw [joinL, List.mem_append, List.mem_append] at h
    rcases h with (h | h) | h
    · exact .inr ⟨y, by simp, h⟩
    · exact .inl h
    · rcases mem_join h with h | ⟨w, hw, h⟩
      · exact .inl h
      · exact .inr ⟨w, List.mem_cons_of_mem _ hw, h⟩
theorem len_join (sep : List Nat) : ∀ ys : List (List Nat), (joinL sep ys).length ≤ sumLen ys + ys.length * sep.length
  | [] => by simp [joinL]
  | [y] => by simp [joinL, sumLen]
  | y :: z :: r => by
    have := len_join sep (z :: r)
    simp only [joinL, sumLen, List.length_append, List.length_cons, Nat.add_mul] at this ⊢
    omega
theorem RepL.oks : ∀ {xs : List Dt} {vs : List V} {ys : List (List Nat)}, RepL K av H xs vs → allStr xs = some ys → ∀ y ∈ ys, okS y
  | _, _, ys, .nil, e => by
    simp [allStr] at e; subst e; simp
  | _, _, ys, .cons (x := x) h r, e => by
    cases h with
    | str s hs =>
      simp only [allStr, Option.map_eq_some_iff] at e
      obtain ⟨zs, e1, rfl⟩ := e
      intro y hy
      rcases List.mem_cons.mp hy with rfl | hy
      · exact hs
      · exact RepL.oks r e1 y hy
    | _ => simp [allStr] at e
def rJoin (K : PySem.W.Frag) : V → List V → Hp → VK → Prop := fun x xs H Q => ∃ a p, ∃ ys : List Str, x = .str a ∧ xs = [.ref p] ∧ (SqL K H p (ys.map V.str) ∨ SqT K H p (ys.map V.str)) ∧
    (ys.map (·.length)).sum + ys.length * a.length ≤ 16777216 ∧ Q (.str (Txt.join a ys)) H
def pyM1 : M1 → String
  | .join => "join" | .zfill => "zfill" | .split => "split"
/-! #### zfill, split -/
theorem zfill_toS {s : List Nat} {i : Int} (h0 : 0 ≤ i) (h1 : s.head? ≠ some 43) (h2 : s.head? ≠ some 45) : Txt.zfill (toS s) i = toS (List.replicate (i.toNat - s.length) 48 ++ s) := by
  unfold Txt.zfill
  rw [toS_len]
  by_cases h : i ≤ s.length
  · rw [if_pos h, show i.toNat - s.length = 0 by omega]
    rfl
  · rw [if_neg h]
    unfold PySem.zfilled
    have e : (toS s).cps[0]? = s.head? := by cases s <;> rfl
    rw [e]
    have key : Builtin.Str.padded (toS s) (i.toNat - s.length) 0 48 = toS (List.replicate (i.toNat - s.length) 48 ++ s) := by
      unfold Builtin.Str.padded toS
      simp
    cases hs : s.head? with
    | none => exact key
    | some c =>
      rw [hs] at h1 h2
      have n1 : c ≠ 43 := fun e => h1 (by rw [e])
      have n2 : c ≠ 45 := fun e => h2 (by rw [e])
      split
      · rename_i e; cases e; exact absurd rfl n1
      · rename_i e; cases e; exact absurd rfl n2
      · exact key
theorem uns_zfill {s : List Nat} (ho : okS s) : UnS K (m1S .zfill s) (fun u H Q => ∃ (a : Str) (i : Int), V.str (toS s) = .str a ∧ [u] = [.int i] ∧ PadOk i = true ∧ Q (.str (Txt.zfill a i)) H) := by
  intro av H y z u Q ht hy e q
  cases y with
  | int i =>
    cases vint hy
    simp only [m1S] at e
    split at e
    · rename_i hc
      cases e
      refine ⟨toS s, i, rfl, rfl, ?_, ?_⟩
      · unfold PadOk fitsSsize Builtin.Str.tooLong
        simp only [Bool.and_eq_true, Bool.not_eq_true', Bool.or_eq_false_iff, decide_eq_false_iff_not]
        rw [sizeLine_eq]
        omega
      · rw [zfill_toS hc.1 hc.2.2.2.1 hc.2.2.2.2]
        refine q _ H (.refl H) (.str _ ⟨?_, fun c h => ?_⟩)
        · rw [List.length_append, List.length_replicate]
          have := hc.2.1
          have := hc.2.2.1
          show _ ≤ 16777216
          omega
        · rcases List.mem_append.mp h with h | h
          · rw [List.eq_of_mem_replicate h]; decide
          · exact ho.2 c h
    · cases e
  | _ => cases e
theorem split_uniq (c : Nat) : ∀ (ps : List (List Nat)), ps ≠ [] → (∀ p ∈ ps, c ∉ p) → splitC c (joinL [c] ps) = ps
  | [], h, _ => absurd rfl h
  | [p], _, hf => by
    have : ∀ p : List Nat, c ∉ p → splitC c p = [p] := by
      intro p
      induction p with
      | nil => intro _; rfl
      | cons x p ih =>
        intro h
        have hx : ¬ x = c := fun e => h (by rw [e]; exact List.mem_cons_self)
        rw [splitC, if_neg hx, ih fun e => h (List.mem_cons_of_mem _ e)]
    exact this p (hf p List.mem_cons_self)
  | p :: q :: r, _, hf => by
    have ih := split_uniq c (q :: r) (by simp) fun p hp => hf p (List.mem_cons_of_mem _ hp)
    have : ∀ p : List Nat, c ∉ p → splitC c (p ++ [c] ++ joinL [c] (q :: r)) = p :: (q :: r) := by
      intro p
      induction p with
      | nil =>
        intro _
        show splitC c (c :: joinL [c] (q :: r)) = _
        rw [splitC, if_pos rfl, ih]
      | cons x p ih2 =>
        intro h
        have hx : ¬ x = c := fun e => h (by rw [e]; exact List.mem_cons_self)
        show splitC c (x :: (p ++ [c] ++ joinL [c] (q :: r))) = _
        rw [splitC, if_neg hx, ih2 fun e => h (List.mem_cons_of_mem _ e)]
    rw [joinL]
    exact this p (hf p List.mem_cons_self)
theorem join_codes (y : Str) : ∀ qs : List Str, (Str.join y qs).cps.toList = joinL y.cps.toList (qs.map fun q => q.cps.toList)
  | [] => rfl
  | [q] => rfl
  | q :: p :: r => by
    have ih := join_codes y (p :: r)
    rw [List.map_cons] at ih
    rw [List.map_cons, List.map_cons, joinL, ← ih]
    show ((q ++ y) ++ Str.join y (p :: r)).cps.toList = _
    show (q.cps ++ y.cps ++ (Str.join y (p :: r)).cps).toList = _
    simp
theorem split_toS (s : List Nat) (c : Nat) : Txt.split (toS s) (toS [c]) = (splitC c s).map toS := by
  have h1 := StrLaws.join_split (toS s) (toS [c])
  have h2 := StrLaws.split_free (toS s) c
  have h3 := PyProof.Rows.split_pos (toS s) (toS [c])
  have e0 : (⟨#[c]⟩ : Str) = toS [c] := rfl
  rw [e0] at h2
  generalize Txt.split (toS s) (toS [c]) = qs at h1 h2 h3
  have h4 := congrArg (fun q : Str => q.cps.toList) h1
  simp only [join_codes, toS_cps] at h4
  have h5 := split_uniq c (qs.map fun q => q.cps.toList) (by
    intro e
    have := congrArg List.length e
    rw [List.length_map] at this
    simp at this
    rw [this] at h3
    simp at h3) (fun p hp => by
    obtain ⟨q, hq, rfl⟩ := List.mem_map.mp hp
    exact h2 q hq)
  rw [h4] at h5
  rw [h5, List.map_map]
  have : (toS ∘ fun q : Str => q.cps.toList) = id := by
    funext q
    cases q
    simp [toS]
  rw [this, List.map_id]
theorem split_mem (c : Nat) : ∀ (s : List Nat), (∀ p ∈ splitC c s, ∀ x ∈ p, x ∈ s) ∧ (∀ p ∈ splitC c s, p.length ≤ s.length)
  | [] => by simp [splitC]
  | x :: xs => by
    have ih := split_mem c xs
    rw [splitC]
    split
    · refine ⟨fun p hp y hy => ?_, fun p hp => ?_⟩
      · rcases List.mem_cons.mp hp with rfl | hp
        · cases hy
        · exact List.mem_cons_of_mem _ (ih.1 p hp y hy)
      · rcases List.mem_cons.mp hp with rfl | hp
        · simp
        · have := ih.2 p hp; simp; omega
    · split
      · refine ⟨fun p hp y hy => ?_, fun p hp => ?_⟩
        · rw [List.mem_singleton.mp hp] at hy
          rw [List.mem_singleton.mp hy]; exact List.mem_cons_self
        · rw [List.mem_singleton.mp hp]; simp
      · rename_i p ps e
        rw [e] at ih
        refine ⟨fun q hq y hy => ?_, fun q hq => ?_⟩
        · rcases List.mem_cons.mp hq with rfl | hq
          · rcases List.mem_cons.mp hy with rfl | hy
            · exact List.mem_cons_self
            · exact List.mem_cons_of_mem _ (ih.1 p List.mem_cons_self y hy)
          · exact List.mem_cons_of_mem _ (ih.1 q (List.mem_cons_of_mem _ hq) y hy)
        · rcases List.mem_cons.mp hq with rfl | hq
          · have := ih.2 p List.mem_cons_self; simp; omega
          · have := ih.2 q (List.mem_cons_of_mem _ hq); simp; omega
theorem RepL.strsOf : ∀ {ys : List (List Nat)}, (∀ y ∈ ys, okS y) → RepL K av H (ys.map Dt.str) ((ys.map toS).map V.str)
  | [], _ => .nil
  | y :: ys, h => .cons (.str y (h y List.mem_cons_self)) (RepL.strsOf fun z hz => h z (List.mem_cons_of_mem _ hz))
theorem uns_split {s : List Nat} (ho : okS s) : UnS K (m1S .split s) (fun u H Q => ∃ a b, V.str (toS s) = .str a ∧ [u] = [.str b] ∧ (b.length == 0) = false ∧ a.length + 2 ≤ sizeLine ∧ rNewStrs (Txt.split a b) H Q) := by
  intro av H y z u Q ht hy e q
  cases y with
  | str t =>
    match t, hy, e with
    | [c], hy, e =>
      obtain ⟨rfl, _⟩ := vstr hy
      simp only [m1S] at e
      split at e
      · rename_i hc
        cases e
        refine ⟨toS s, toS [c], rfl, rfl, rfl, by rw [toS_len, sizeLine_eq]; omega, fun p hp => ?_⟩
        rw [split_toS]
        refine q _ _ (same_new hp) (rep_newL ht hp (RepL.strsOf fun y hy => ⟨?_, fun x hx => ho.2 x ((split_mem c s).1 y hy x hx)⟩))
        have := (split_mem c s).2 y hy
        show _ ≤ 16777216
        omega
      · cases e
    | [], hy, e => cases e
    | _ :: _ :: _, hy, e => cases e
  | _ => cases e
theorem uns_join {s : List Nat} (ho : okS s) : UnS K (m1S .join s) (fun u H Q => rJoin K (.str (toS s)) [u] H Q) := by
  intro av H y z u Q ht hy e q
  have key : ∀ (xs : List Dt) (p : Addr) (vs : List V), u = .ref p → (SqL K H p vs ∨ SqT K H p vs) → RepL K av H xs vs → ((allStr xs).bind fun ys => if sumLen ys + ys.length * s.length ≤ lim then some (Dt.str (joinL s ys)) else none) = some z → rJoin K (.str (toS s)) [u] H Q := by
    intro xs p vs e2 hs r e3
    subst e2
    obtain ⟨ys, e4, e5⟩ := Option.bind_eq_some_iff.mp e3
    split at e5
    · rename_i hc
      cases e5
      have hv := r.strs e4
      have hv2 : vs = (ys.map toS).map V.str := by rw [hv, List.map_map]; rfl
      subst hv2
      refine ⟨toS s, p, ys.map toS, rfl, rfl, hs, ?_, ?_⟩
      · rw [sum_len, List.length_map, toS_len]
        exact hc
      · rw [glued_join]
        refine q _ H (.refl H) (.str _ ⟨Nat.le_trans (len_join s ys) hc, fun c h => ?_⟩)
        rcases mem_join h with h | ⟨y, hy, h⟩
        · exact ho.2 c h
        · exact (r.oks e4 y hy).2 c h
    · cases e5
  unfold m1S at e
  split at e
  · obtain ⟨p, vs, rfl, r, rr⟩ := vlst hy
    exact key _ p vs rfl (.inl (.inl r)) rr e
  · obtain ⟨p, vs, rfl, r, rr⟩ := vtup hy
    exact key _ p vs rfl (.inr r) rr e
  · cases e
  all_goals contradiction
end
end PB

set_option Elab.async false
set_option linter.all false
set_option maxRecDepth 100000
set_option maxHeartbeats 4000000
set_option backward.match.sparseCases false
/-! The checker for expressions. -/
namespace PB
open PySem PySem.Spec PyProof.Rows L2

structure Tb where
  fns : List (Str × Nat)
  gls : List Str
  /-- the program's own exceptions, with their fields -/
  xcs : List (Str × List Str) := []
/-- ... their classes, as the written part has them -/
def xtK (K : PySem.W.Frag) (L : List (Str × List Str)) : Xt := ⟨fun c => match L[c]? with | some p => (PySem.W.nsIn K mainGlobals p.1).join | none => none, fun c => match L[c]? with | some p => p.2 | none => []⟩
abbrev bmVE : List Value := [.type "ValueError", .type "Exception", .type "BaseException", .type "object"]
/-- what the class at C says of itself and of the others -/
def XsOk (XT : Xt) (K : PySem.W.Frag) (c : Nat) (C : Addr) : Prop := L2.ExcC K C ∧ PySem.W.kitOne K (.ref C) (.type "ValueError") = some true ∧ ∀ k D, XT.cls k = some (.ref D) → XT.flds k = [] → PySem.W.kitCls K (.ref C) (.ref D) = some (subB c k)
/-- a class of exceptions without fields -/
def XcOk (XT : Xt) (K : PySem.W.Frag) (mg : Str → Option Value) (c : Nat) (x : Str) : Prop := ∃ C : Addr, XT.cls c = some (.ref C) ∧ XT.flds c = [] ∧ mg x = some (.ref C) ∧ PySem.W.excIn K C bmVE "ValueError.__new__" = true ∧
  PySem.W.keepIn K (.ref C) = true ∧ PySem.W.subIn K (.ref C) (.type "BaseException") = some true ∧ PySem.W.typeIn K (.ref C) = some (.type "type") ∧ XsOk XT K c C
def isGl (sc : Scope) (x : Str) : Bool := match sc.names.lookup x with
  | some .globalImplicit => !(x == ("__debug__" : Str))
  | _ => false
def isVis (sc : Scope) (x : Str) : Bool := (match sc.names.lookup x with
  | some .local => true
  | some .cell => true
  | some .free => true
  | _ => false) && !(x == ("__debug__" : Str)) && !(x == ("__classdict__" : Str))
/-- a target's name: of a def's own, or of a comprehension's own -/
def isTg (sc : Scope) (cell : Str → Bool) (x : Str) : Bool := match sc.names.lookup x with
  | some .local => true
  | some .cell => cell x
  | _ => false
def plainE : Expr → Bool
  | .Starred _ _ => false
  | .Slice _ _ _ _ => false
  | .Set _ _ _ => false
  | .Call _ [] _ _ => false
  | _ => true
def bopB : Bop → Operator → Bool
  | .add, .Add => true
  | .sub, .Sub => true
  | .mul, .Mult => true
  | .fdiv, .FloorDiv => true
  | .mod, .Mod => true
  | _, _ => false
def copB : Cop → CmpOp → Bool
  | .eq, .Eq => true
  | .ne, .NotEq => true
  | .lt, .Lt => true
  | .le, .LtE => true
  | .gt, .Gt => true
  | .ge, .GtE => true
  | .is, .Is => true
  | .isnot, .IsNot => true
  | .inn, .In => true
  | .notin, .NotIn => true
  | _, _ => false
theorem bopB_eq {o : Bop} {p : Operator} (h : bopB o p = true) : p = pyBop o := by cases o <;> cases p <;> first | rfl | cases h
theorem copB_eq {o : Cop} {p : CmpOp} (h : copB o p = true) : p = pyCop o := by cases o <;> cases p <;> first | rfl | cases h
def Exs.len : Exs → Nat
  | .nil => 0
  | .cons _ r => r.len + 1
/-- a target's names with their places -/
def ownOf : Tg → Expr → List (Str × Nat)
  | .one i, .Name x _ => [(x, i)]
  | .many is, .Tuple es _ _ => (es.zip is).map fun p => (match p.1 with | .Name x _ => x | _ => "", p.2)
  | _, _ => []
def chkTgs (N : List Str) (ok : Str → Bool) : List Nat → List Expr → Bool
  | [], [] => true
  | i :: is, .Name x _ :: es => decide (N[i]? = some x) && ok x && chkTgs N ok is es
  | _, _ => false
def chkTg (N : List Str) (ok : Str → Bool) : Tg → Expr → Bool
  | .one i, .Name x _ => decide (N[i]? = some x) && ok x
  | .many is, .Tuple es _ _ => chkTgs N ok is es
  | _, _ => false
def isTuple : Expr → Bool
  | .Tuple _ _ _ => true
  | _ => false

mutual
def chkE (T : Tb) (N : List Str) (sc : Scope) : Ex → Expr → Bool
  | .v i, .Name x _ => decide (N[i]? = some x) && isVis sc x
  | .non, .Constant .none _ _ => true
  | .bl b, .Constant (.bool c) _ _ => b == c
  | .int i, .Constant (.int j) _ _ => i == j
  | .str s, .Constant (.str x) _ _ => decide (x = toS s) && decide (s.length ≤ lim) && s.all (fun c => decide (c < 1114112))
  | .g k, .Name x _ => decide (T.gls[k]? = some x) && isGl sc x
  | .bin o a b, .BinOp x op y _ => bopB o op && chkE T N sc a x && chkE T N sc b y
  | .neg a, .UnaryOp .USub x _ => chkE T N sc a x
  | .not a, .UnaryOp .Not x _ => chkE T N sc a x
  | .and es, .BoolOp .And xs _ => chkEs T N sc es xs && !es.isNil
  | .or es, .BoolOp .Or xs _ => chkEs T N sc es xs && !es.isNil
  | .cmp o a b, .Compare x [op] [y] _ => copB o op && chkE T N sc a x && chkE T N sc b y && plainE y
  | .cmp2 o o' a b c, .Compare x [op, op'] [y, z] _ => copB o op && copB o' op' && chkE T N sc a x && chkE T N sc b y && chkE T N sc c z && plainE z
  | .call f es, .Call (.Name x _) xs [] _ => decide (T.fns[f]? = some (x, es.len)) && isGl sc x && chkEs T N sc es xs && !es.isNil
  | .call0 f, .Call (.Name x _) [] [] _ => decide (T.fns[f]? = some (x, 0)) && isGl sc x
  | .p1 p a, .Call (.Name x _) [y] [] _ => decide (x = Str.ofString (pyP1 p)) && isGl sc x && chkE T N sc a y && plainE y
  | .lens a, .Call (.Name x _) [.Call (.Name x2 _) [y] [] _] [] _ => decide (x = "len") && isGl sc x && decide (x2 = "set") && isGl sc x2 && chkE T N sc a y && plainE y
  | .isi a t, .Call (.Name x _) [y, .Name z _] [] _ => decide (x = "isinstance") && isGl sc x && decide (z = Str.ofString (pyTy t)) && isGl sc z && chkE T N sc a y && plainE y
  | .isi2 a t u, .Call (.Name x _) [y, .Tuple [.Name z _, .Name z2 _] _ _] [] _ => decide (x = "isinstance") && isGl sc x && decide (z = Str.ofString (pyTy t)) && isGl sc z && decide (z2 = Str.ofString (pyTy u)) && isGl sc z2 && chkE T N sc a y && plainE y
  | .m1 m a b, .Call (.Attribute x n ap) [y] [] cp => decide (n = Str.ofString (pyM1 m)) && (ap.endLine == cp.line) && chkE T N sc a x && chkE T N sc b y && plainE x && plainE y
  | .b2 o a b, .Call (.Name x _) [y, z] [] _ => decide (x = Str.ofString (pyB2 o)) && isGl sc x && chkE T N sc a y && plainE y && chkE T N sc b z && plainE z
  | .rev a, .Subscript x (.Slice none none (some (.UnaryOp .USub (.Constant (.int 1) _ _) _)) _) _ => chkE T N sc a x
  | .ix a i, .Subscript x y _ => chkE T N sc a x && chkE T N sc i y && plainE y
  | .sl a lo hi, .Subscript x (.Slice l h none _) _ => chkE T N sc a x && chkO T N sc lo l && chkO T N sc hi h
  | .tup es, .Tuple xs _ _ => chkEs T N sc es xs
  | .lst es, .List xs _ => chkEs T N sc es xs
  | .lc elt tg it ifs, .ListComp x [⟨t, i, cs, 0⟩] scope _ => chkI T N sc it i && (match it with | .enm _ => isTuple t | .zip _ _ => isTuple t | _ => true) && blkC N sc scope (ownOf tg t) && plainE i &&
      chkTg N (isTg (relS scope sc) fun x => scope.names.lookup x == some .cell) tg t && chkEs T N (relS scope sc) ifs cs && chkE T N (relS scope sc) elt x
  | _, _ => false
def chkEs (T : Tb) (N : List Str) (sc : Scope) : Exs → List Expr → Bool
  | .nil, [] => true
  | .cons e es, x :: xs => chkE T N sc e x && plainE x && chkEs T N sc es xs
  | _, _ => false
def chkO (T : Tb) (N : List Str) (sc : Scope) : Exo → Option Expr → Bool
  | .no, none => true
  | .yes e, some x => chkE T N sc e x
  | _, _ => false
def chkI (T : Tb) (N : List Str) (sc : Scope) : Itx → Expr → Bool
  | .seq e, x => chkE T N sc e x
  | .rng1 e, .Call (.Name x _) [y] [] _ => decide (x = "range") && isGl sc x && chkE T N sc e y && plainE y
  | .rng2 a b, .Call (.Name x _) [y, z] [] _ => decide (x = "range") && isGl sc x && chkE T N sc a y && plainE y && chkE T N sc b z && plainE z
  | .zip a b, .Call (.Name x _) [y, z] [] _ => decide (x = "zip") && isGl sc x && chkE T N sc a y && plainE y && chkE T N sc b z && plainE z
  | .enm e, .Call (.Name x _) [y] [] _ => decide (x = "enumerate") && isGl sc x && chkE T N sc e y && plainE y
  | _, _ => false
end

/-- names of builtins that must be the builtins' own -/
def bltNames : List String := ["len", "all", "any", "tuple", "list", "str", "int", "isinstance", "bool", "range", "enumerate", "zip", "sorted", "dict", "set", "min", "max", "ValueError"]

/-- the promise of a def by its meaning -/
def spF (XT : Xt) (K : PySem.W.Frag) (n : Nat) (call : List Wv → Sr → Rs (Wv × Sr)) : Sp := fun vs H Q E => ∃ fo φ st ws, Sok K fo φ H st ∧ Paired (RepW K fo φ H) ws vs ∧ ws.length = n ∧
  Go K (fun c fs _ φ' H' => ∀ cls d, XRep XT K (fo ++ φ') H' c fs cls d → E cls d H') fo φ H (call ws st) (fun w _ φ' H' => ∀ v, RepW K fo φ' H' w v → Q v H')

structure CxOk (XT : Xt) (T : Tb) (Γ : Gam) (N : List Str) (X : Cx) (W : WX) (sc : Scope) : Prop where
  n : X.N = N
  nd : X.N.Nodup
  scope : X.env.scope = sc
  calm : X.calm = true
  units : X.A.units + 65 < cLine
  takes : Takes X W
  glob : ∀ (k : Nat) (x : Str), T.gls[k]? = some x → ∃ (d : Dt) (v : V) (u : Value), Γ.glob[k]? = some d ∧ X.mg x = some u ∧ RelV v u ∧ ∀ av H, Rep X.K av H d v
  blt : ∀ x ∈ bltNames, X.mg (Str.ofString x) = none
  xc : (∀ (c : Nat) (x : Str), T.xcs[c]? = some (x, []) → XcOk XT X.K X.mg c x) ∧ ∀ (k : Nat) (C : Value), XT.cls k = some C → XT.flds k = [] → ∃ A, C = .ref A ∧ XsOk XT X.K k A
  fn : ∀ (f : Nat) (x : Str) (n : Nat), T.fns[f]? = some (x, n) → ∃ (k : Nat) (a : Addr) (fd : FuncData) (ps : List Str),
    FnOk X.prog X.w X.K X.mg X.base (L2.CX X.prog X.w) k a fd ps (spF XT X.K n (Γ.call f)) ∧ Room k X.A ∧ X.mg x = some (.ref a) ∧ PySem.W.keepIn X.K (.ref a) = true ∧ Binds X.K fd ps [] ∧ ps.length = n

theorem plainE_star {e : Expr} (h : plainE e = true) (es : List Expr) (env : PySem.Env) : starEach (e :: es) env = (false, eval e env) :: starEach es env := by
  cases e <;> first | rfl | cases h
theorem isGl_gl {sc : Scope} {x : Str} (h : isGl sc x = true) : sc.names.lookup x = some .globalImplicit ∧ (x == ("__debug__" : Str)) = false := by
  unfold isGl at h
  split at h
  · rename_i e
    exact ⟨e, by simpa using h⟩
  · cases h
theorem isVis_vis {sc : Scope} {x : Str} (h : isVis sc x = true) : Vis sc x ∧ (x == ("__debug__" : Str)) = false ∧ (x == ("__classdict__" : Str)) = false := by
  unfold isVis at h
  simp only [Bool.and_eq_true, Bool.not_eq_true'] at h
  refine ⟨?_, h.1.2, h.2⟩
  have h1 := h.1.1
  split at h1
  · rename_i e; exact .inl e
  · rename_i e; exact .inr (.inl e)
  · rename_i e; exact .inr (.inr e)
  · cases h1
theorem plainE_base {e : Expr} (h : plainE e = true) (n : Str) (env : PySem.Env) : attributeBase e n env (eval e env) = eval e env := by
  cases e with
  | Call f as ks p =>
    cases as with
    | nil => cases h
    | cons _ _ => cases f <;> cases ks <;> rfl
  | _ => rfl
theorem plainE_ix {e : Expr} (h : plainE e = true) : PlainIx e := by
  intro o i
  cases e <;> first | rfl | cases h
theorem plainE_mark {e : Expr} (h : plainE e = true) (op : CmpOp) : behindInMarks op e = false := by
  cases e <;> first | rfl | cases h
theorem plainE_set {e : Expr} (h : plainE e = true) (env : PySem.Env) (x : Value) : foldedSetIterable e env x = pure x := by
  cases e <;> first | rfl | cases h
end PB

set_option Elab.async false
set_option linter.all false
set_option maxRecDepth 100000
set_option maxHeartbeats 4000000
set_option backward.match.sparseCases false
/-! Expressions keep their meaning: the pieces. -/
namespace PB
open PySem PySem.Spec PyProof.Rows L2
section
variable {XT : Xt} {T : Tb} {Γ : Gam} {N : List Str} {X : Cx} {W : WX} {sc : Scope} {K : PySem.W.Frag} {σ : L2.St} {H : Hp} {Q : VK}

theorem Go.bad {α : Type} {xw : Xw} {fo φ : List Addr} {R : α → Sr → List Addr → Hp → Prop} (h : Go K xw fo φ H (.bad : Rs (α × Sr)) R) : False := h

theorem pe_v {i : Nat} {x : Str} {pos : Pos} (c : CxOk XT T Γ N X W sc) (h1 : N[i]? = some x) (h2 : isVis sc x = true) : PE X (.Name x pos) (tW XT X.K W (evE Γ (.v i))) := by
  obtain ⟨hv, h3, h4⟩ := isVis_vis h2
  refine PE.weak (pe_var (i := i) (by rw [c.n]; exact h1) (by rw [c.scope]; exact hv) h3 h4) fun σ H Q h => ?_
  obtain ⟨fo, φ, ρ, st, hs, he, h⟩ := h
  unfold evE at h
  split at h
  · rename_i w e
    obtain ⟨v, e1, r⟩ := he.at_ i w e
    exact ⟨v, e1, (Go.run h hs) v r⟩
  · exact h.elim
theorem pe_cst {e : Ex} {d : Dt} {v : V} {pe : Expr} (h : PE X pe (tC v)) (he : ∀ ρ st, evE Γ e ρ st = .ok (.d d, st)) (r : ∀ av H, Rep X.K av H d v) : PE X pe (tW XT X.K W (evE Γ e)) := by
  refine PE.weak h fun σ H Q h => ?_
  obtain ⟨fo, φ, ρ, st, hs, _, h⟩ := h
  rw [he] at h
  exact (Go.run h hs) v (r _ _)
theorem pe_gl {k : Nat} {x : Str} {pos : Pos} (c : CxOk XT T Γ N X W sc) (h1 : T.gls[k]? = some x) (h2 : isGl sc x = true) : PE X (.Name x pos) (tW XT X.K W (evE Γ (.g k))) := by
  obtain ⟨d, v, u, e1, e2, r1, r2⟩ := c.glob k x h1
  obtain ⟨g1, g2⟩ := isGl_gl h2
  refine pe_cst (d := d) (v := v) (pe_glob (show X.env.scope.names.lookup x = _ by rw [c.scope]; exact g1) e2 r1 g2) (fun ρ st => ?_) r2
  unfold evE
  rw [e1]
theorem pe_bin {o : Bop} {a b : Ex} {x y : Expr} {pos : Pos} (ha : PE X x (tW XT X.K W (evE Γ a))) (hb : PE X y (tW XT X.K W (evE Γ b))) : PE X (.BinOp x (pyBop o) y pos) (tW XT X.K W (evE Γ (.bin o a b))) := by
  refine PE.weak (pe_op (op_bop o) ha hb) fun σ H Q h => tW_op2 (ops_bop o) ?_
  exact h
theorem uns_neg : UnS K negD (rU fun i => .int (-i)) := by
  intro av H x z v Q ht hx e q
  unfold negD at e
  split at e
  · cases e
    cases vint hx
    exact ⟨_, rfl, q _ H (.refl H) (.int _)⟩
  · cases e
theorem pe_neg {a : Ex} {x : Expr} {pos : Pos} (ha : PE X x (tW XT X.K W (evE Γ a))) : PE X (.UnaryOp .USub x pos) (tW XT X.K W (evE Γ (.neg a))) :=
  PE.weak (L2.pe_un un_neg ha) fun σ H Q h => tW_op1 uns_neg h
theorem tru_view {av : List Addr} {x : Dt} {v : V} (h : VRep K av H x v) : TruV K v H (truthD x) := by
  cases x with
  | non => cases vnon h; rfl
  | bl b => cases vbl h; rfl
  | int i => cases vint h; rfl
  | str s =>
    obtain ⟨rfl, hs⟩ := vstr h
    refine ⟨by rw [toS_len, ← lim_eq]; exact hs.1, ?_⟩
    rw [toS_len]
    cases s <;> simp [truthD]
    omega
  | tup xs =>
    obtain ⟨a, vs, rfl, ha, ra⟩ := vtup h
    refine .inr (.inl ⟨vs, ha, ?_⟩)
    have := ra.length
    cases xs <;> cases vs <;> first | rfl | (simp at this)
  | lst xs =>
    obtain ⟨a, vs, rfl, ha, ra⟩ := vlst h
    refine .inl ⟨vs, .inl ha, ?_⟩
    have := ra.length
    cases xs <;> cases vs <;> first | rfl | (simp at this)
  | scr ns =>
    obtain ⟨a, rfl, r⟩ := vscr h
    refine .inl ⟨_, r, ?_⟩
    cases ns <;> rfl
theorem uns_not : UnS K notD (fun v H Q => ∃ k, TruV K v H k ∧ Q (.bl (!k)) H) := by
  intro av H x z v Q ht hx e q
  cases e
  exact ⟨_, tru_view hx, q _ H (.refl H) (.bl _)⟩
theorem pe_nott {a : Ex} {x : Expr} {pos : Pos} (ha : PE X x (tW XT X.K W (evE Γ a))) : PE X (.UnaryOp .Not x pos) (tW XT X.K W (evE Γ (.not a))) :=
  PE.weak (pe_notT ha) fun σ H Q h => tW_op1 uns_not h
theorem pe_cmpE {o : Cop} {a b : Ex} {x y : Expr} {pos : Pos} (hu : X.A.units + 65 < cLine) (ha : PE X x (tW XT X.K W (evE Γ a))) (hb : PE X y (tW XT X.K W (evE Γ b))) (hy : plainE y = true) :
    PE X (.Compare x [pyCop o] [y] pos) (tW XT X.K W (evE Γ (.cmp o a b))) :=
  PE.weak (pe_cmpR (op_cop hu o) ha hb (plainE_mark hy _)) fun σ H Q h => tW_op2 (ops_cop o) h
/-- a value's truth in the store -/
theorem truW_ok {fo φ : List Addr} {st : Sr} {w : Wv} {v : V} {k : Bool} (hs : Sok K fo φ H st) (r : RepW K fo φ H w v) (e : truW (w, st) = .ok k) : TruV K v H k := by
  unfold truW at e
  dsimp only at e
  cases e1 : viewW st w with
  | none => rw [e1] at e; cases e
  | some x =>
    rw [e1] at e
    cases e
    exact tru_view (view_of hs r e1)
theorem truW_exc {p : Wv × Sr} {c : Nat} {fs : List Dt} {sx : Sr} (e : truW p = .exc c fs sx) : False := by
  unfold truW at e
  cases e1 : (viewW p.2 p.1) with
  | none => rw [e1] at e; cases e
  | some x => rw [e1] at e; cases e
/-- the truth of an expression whose test is its value's truth -/
theorem pt_of {a : Ex} {x : Expr} (ha : PE X x (tW XT X.K W (evE Γ a))) (he : ∀ whole, isTrue x X.env whole = (do let v ← whole; standAt x.pos; holding [v] (truthy v))) : PT X x (tT XT X.K W (evT Γ a)) := by
  refine PT.weak (pt_truth ha he) fun σ H Q h => ?_
  obtain ⟨fo, φ, ρ, st, hs, he, h⟩ := h
  refine ⟨fo, φ, ρ, st, hs, he, (Go.of_bind h).imp fun w st1 φ1 H1 s1 q1 h1 v rv => ?_⟩
  cases e : truW (w, st1) with
  | ok k =>
    rw [e] at h1
    exact ⟨k, truW_ok q1 rv e, Go.run h1 q1⟩
  | exc c fs sx => exact (truW_exc e).elim
  | bad => rw [e] at h1; exact h1.elim
theorem pt_nott {a : Ex} {x : Expr} {pos : Pos} (ha : PT X x (tT XT X.K W (evT Γ a))) : PT X (.UnaryOp .Not x pos) (tT XT X.K W (evT Γ (.not a))) := by
  refine PT.weak (pt_not ha) fun σ H Q h => ?_
  obtain ⟨fo, φ, ρ, st, hs, he, h⟩ := h
  refine ⟨fo, φ, ρ, st, hs, he, ?_⟩
  unfold evT at h ⊢
  unfold evE at h
  cases e : evE Γ a ρ st with
  | bad => rw [e] at h; exact h
  | exc c fs sx => rw [e] at h; exact h
  | ok p =>
    rw [e] at h
    simp only [Rs.bind_ok] at h ⊢
    unfold op1 truW at h
    unfold truW
    cases e2 : viewW p.2 p.1 with
    | none => rw [e2] at h; exact h.elim
    | some z =>
      rw [e2] at h
      exact h
/-- a comparison's value is a truth -/
theorem op2_bl {f : Dt → Dt → Option Bool} {x : Wv} {p q : Wv × Sr} (h : op2 (fun x y => blO (f x y)) x p = .ok q) : ∃ b, q.1 = .d (.bl b) ∧ q.2 = p.2 := by
  unfold op2 at h
  cases e1 : viewW p.2 x with
  | none => rw [e1] at h; cases h
  | some a =>
    cases e2 : viewW p.2 p.1 with
    | none => rw [e1, e2] at h; cases h
    | some b =>
      cases e3 : f a b with
      | none => simp only [e1, e2, e3, Option.bind_some, blO] at h; cases h
      | some k =>
        simp only [e1, e2, e3, Option.bind_some, blO] at h
        cases h
        exact ⟨k, rfl, rfl⟩
/-- every value of it is a truth -/
def BlM (m : Ev → Sr → Rs (Wv × Sr)) : Prop := ∀ ρ st q, m ρ st = .ok q → ∃ b, q.1 = .d (.bl b)
theorem bind_ok_inv {α β : Type} {r : Rs α} {f : α → Rs β} {b : β} (h : r.bind f = .ok b) : ∃ a, r = .ok a ∧ f a = .ok b := by
  cases r with
  | ok a => exact ⟨a, rfl, h⟩
  | exc _ _ => cases h
  | bad => cases h
theorem blM_cmp {o : Cop} {a b : Ex} : BlM (evE Γ (.cmp o a b)) := fun ρ st q h => by
  unfold evE at h
  obtain ⟨p, _, h⟩ := bind_ok_inv h
  obtain ⟨r, _, h⟩ := bind_ok_inv h
  obtain ⟨k, e, _⟩ := op2_bl h
  exact ⟨k, e⟩
theorem blM_cmp2 {o o' : Cop} {a b c : Ex} : BlM (evE Γ (.cmp2 o o' a b c)) := fun ρ st q h => by
  unfold evE at h
  obtain ⟨p, _, h⟩ := bind_ok_inv h
  obtain ⟨r, _, h⟩ := bind_ok_inv h
  obtain ⟨k, e, h⟩ := bind_ok_inv h
  obtain ⟨t, e2, h⟩ := bind_ok_inv h
  split at h
  · obtain ⟨z, _, h⟩ := bind_ok_inv h
    obtain ⟨k, e, _⟩ := op2_bl h
    exact ⟨k, e⟩
  · cases h
    obtain ⟨k, e, _⟩ := op2_bl e
    exact ⟨k, e⟩
/-- as a test: the value's reading, a truth -/
theorem tW_of_tT {e : Ex} {Qb : Bool → Hp → Prop} (hb : BlM (evE Γ e)) (h : tT XT K W (evT Γ e) σ H Qb) : tW XT K W (evE Γ e) σ H (fun x H' => ∃ k, x = .bl k ∧ Qb k H') := by
  obtain ⟨fo, φ, ρ, st, hs, he, h⟩ := h
  refine ⟨fo, φ, ρ, st, hs, he, ?_⟩
  unfold evT at h
  cases e1 : evE Γ e ρ st with
  | bad => rw [e1] at h; exact h
  | exc c fs sx => rw [e1] at h; exact h
  | ok p =>
    rw [e1] at h
    obtain ⟨b, e2⟩ := hb ρ st p e1
    obtain ⟨w, st1⟩ := p
    cases (show w = .d (.bl b) from e2)
    intro φ' H' s' q' v rv
    cases (show Rep K (fo ++ φ') H' (.bl b) v from rv)
    exact ⟨b, rfl, (Go.at_ (r := .ok (b, st1)) h s').run q'⟩
theorem pt_cmpE {o : Cop} {a b : Ex} {x y : Expr} {pos : Pos} (hu : X.A.units + 65 < cLine) (ha : PE X x (tW XT X.K W (evE Γ a))) (hb : PE X y (tW XT X.K W (evE Γ b))) (hy : plainE y = true) :
    PT X (.Compare x [pyCop o] [y] pos) (tT XT X.K W (evT Γ (.cmp o a b))) :=
  PT.weak (pt_cmpR (op_cop hu o) ha hb (plainE_mark hy _)) fun σ H Q h => tW_op2 (ops_cop o) (tW_of_tT blM_cmp h)
theorem op2_cases (f : Dt → Dt → Option Dt) (w : Wv) (p : Wv × Sr) : op2 f w p = .bad ∨ ∃ x y z, viewW p.2 w = some x ∧ viewW p.2 p.1 = some y ∧ f x y = some z ∧ op2 f w p = .ok (.d z, p.2) := by
  unfold op2
  cases e1 : viewW p.2 w with
  | none => exact .inl rfl
  | some x =>
    cases e2 : viewW p.2 p.1 with
    | none => exact .inl rfl
    | some y =>
      cases e3 : f x y with
      | none => exact .inl (by simp only [Option.bind_some, e3]; rfl)
      | some z => exact .inr ⟨x, y, z, rfl, rfl, e3, by simp only [Option.bind_some, e3]; rfl⟩
theorem tW_chain {o o' : Cop} {a b c : Ex} (h : tW XT K W (evE Γ (.cmp2 o o' a b c)) σ H Q) : tChain (rCop K o) (rCop K o') (tW XT K W (evE Γ a)) (tW XT K W (evE Γ b)) (tW XT K W (evE Γ c)) σ H Q := by
  obtain ⟨fo, φ, ρ, st, hs, he, h⟩ := h
  unfold evE at h
  refine ⟨fo, φ, ρ, st, hs, he, (Go.of_bind h).imp fun w st1 φ1 H1 s1 q1 h1 v rv => ?_⟩
  refine ⟨fo, φ1, ρ, st1, q1, he.step s1, (Go.of_bind h1).imp fun w2 st2 φ2 H2 s2 q2 h2 v2 rv2 => ?_⟩
  dsimp only at h2
  rcases op2_cases (fun x y => blO (copD o x y)) w (w2, st2) with e | ⟨x, y, z, e1, e2, e3, e⟩
  · rw [e] at h2; exact h2.elim
  · rw [e] at h2
    obtain ⟨b, rfl⟩ : ∃ b, z = .bl b := by
      cases hc : copD o x y with
      | none => rw [hc] at e3; cases e3
      | some b => rw [hc] at e3; cases e3; exact ⟨b, rfl⟩
    refine ops_cop o (fo ++ φ2) H2 x y (.bl b) v v2 _ q2.trk (view_of q2 (rv.step s2) e1) (view_of q2 rv2 e2) e3 fun u H' sm rz => ?_
    cases rz
    refine ⟨b, rfl, ?_⟩
    have s3 : Step φ2 H2 φ2 H' := Step.same sm
    have q3 := q2.same sm
    have h3 : Go K (xwOf XT K W σ fo) fo φ2 H2 (if b = true then (evE Γ c ρ st2).bind fun r => op2 (fun x y => blO (copD o' x y)) w2 r else .ok (.d (.bl b), st2)) (fun w x φ' H' => ∀ v, RepW K fo φ' H' w v → Q v H') := h2
    cases b with
    | false =>
      rw [if_neg Bool.false_ne_true] at h3 ⊢
      exact (Go.run (Go.at_ h3 s3) q3) _ (Rep.bl _)
    | true =>
      rw [if_pos rfl] at h3 ⊢
      refine ⟨fo, φ2, ρ, st2, q3, (he.step s1).step (s2.trans s3), (Go.of_bind (Go.at_ h3 s3)).imp fun w4 st4 φ4 H4 s4 q4 h4 v4 rv4 => ?_⟩
      rcases op2_cases (fun x y => blO (copD o' x y)) w2 (w4, st4) with e | ⟨x5, y6, z7, e5, e6, e7, e⟩
      · rw [e] at h4; exact h4.elim
      · rw [e] at h4
        exact ops_cop o' (fo ++ φ4) H4 x5 y6 z7 v2 v4 Q q4.trk (view_of q4 (rv2.step (s3.trans s4)) e5) (view_of q4 rv4 e6) e7 fun u H' sm rz => h4 φ4 H' (Step.same sm) (q4.same sm) u rz
theorem marks2 {op op' : CmpOp} {b c : Expr} (h : plainE c = true) : lastMarks [op, op'] [b, c] = false := by
  show behindInMarks op' c = false
  exact plainE_mark h _
theorem pe_cmp2E {o o' : Cop} {a b c : Ex} {x y z : Expr} {pos : Pos} (hu : X.A.units + 65 < cLine) (ha : PE X x (tW XT X.K W (evE Γ a))) (hb : PE X y (tW XT X.K W (evE Γ b))) (hc : PE X z (tW XT X.K W (evE Γ c))) (hz : plainE z = true) :
    PE X (.Compare x [pyCop o, pyCop o'] [y, z] pos) (tW XT X.K W (evE Γ (.cmp2 o o' a b c))) :=
  PE.weak (pe_chain (op_cop hu o) (op_cop hu o') ha hb hc (marks2 hz)) fun σ H Q h => tW_chain h
theorem pt_cmp2E {o o' : Cop} {a b c : Ex} {x y z : Expr} {pos : Pos} (hu : X.A.units + 65 < cLine) (ha : PE X x (tW XT X.K W (evE Γ a))) (hb : PE X y (tW XT X.K W (evE Γ b))) (hc : PE X z (tW XT X.K W (evE Γ c))) (hz : plainE z = true) :
    PT X (.Compare x [pyCop o, pyCop o'] [y, z] pos) (tT XT X.K W (evT Γ (.cmp2 o o' a b c))) :=
  PT.weak (pt_chain (op_cop hu o) (op_cop hu o') ha hb hc (marks2 hz)) fun σ H Q h => tW_chain (tW_of_tT blM_cmp2 h)
/-! #### argument lists -/
theorem pa_consE {e : Ex} {es : Exs} {x : Expr} {xs : List Expr} (ha : PE X x (tW XT X.K W (evE Γ e))) (hr : PA X xs (tL XT X.K W (evEs Γ es))) (hx : plainE x = true) : PA X (x :: xs) (tL XT X.K W (evEs Γ (.cons e es))) := by
  refine PA.weak (pa_cons ha hr (plainE_star hx _ _)) fun σ H Q h => ?_
  obtain ⟨fo, φ, ρ, st, hs, he, h⟩ := h
  unfold evEs at h
  refine ⟨fo, φ, ρ, st, hs, he, (Go.of_bind h).imp fun w st1 φ1 H1 s1 q1 h1 v rv => ?_⟩
  refine ⟨fo, φ1, ρ, st1, q1, he.step s1, (Go.of_bind h1).imp fun ws st2 φ2 H2 s2 q2 h2 vs rvs => ?_⟩
  exact (Go.run h2 q2) (v :: vs) (.cons (rv.step s2) rvs)
theorem pa_nilE : PA X [] (tL XT X.K W (evEs Γ .nil)) := by
  refine PA.weak pa_nil fun σ H Q h => ?_
  obtain ⟨fo, φ, ρ, st, hs, he, h⟩ := h
  unfold evEs at h
  exact (Go.run h hs) [] .nil
theorem mapD_rep {fo φ : List Addr} : ∀ {ws : List Wv} {vs : List V} {xs : List Dt}, Paired (RepW K fo φ H) ws vs → mapD ws = some xs → RepL K (fo ++ φ) H xs vs
  | _, _, xs, .nil, e => by simp [mapD] at e; subst e; exact .nil
  | w :: ws, _, xs, .cons h r, e => by
    cases w with
    | d x =>
      simp only [mapD, Option.map_eq_some_iff] at e
      obtain ⟨ys, e1, rfl⟩ := e
      exact .cons h (mapD_rep r e1)
    | ob n => simp [mapD] at e
theorem paired_len {α β : Type} {R : α → β → Prop} : ∀ {xs : List α} {ys : List β}, Paired R xs ys → xs.length = ys.length := fun h => Paired.length h
theorem pe_tupE {es : Exs} {xs : List Expr} {k : Nat} {pos : Pos} (h : PA X xs (tL XT X.K W (evEs Γ es))) : PE X (.Tuple xs k pos) (tW XT X.K W (evE Γ (.tup es))) := by
  refine PE.weak (pe_tup h) fun σ H Q h => ?_
  obtain ⟨fo, φ, ρ, st, hs, he, h⟩ := h
  unfold evE at h
  refine ⟨fo, φ, ρ, st, hs, he, (Go.of_bind h).imp fun ws st1 φ1 H1 s1 q1 h1 vs rv => ?_⟩
  unfold mkTup at h1
  dsimp only at h1
  split at h1
  · rename_i hl
    refine ⟨by rw [← Paired.length rv, ← lim_eq]; exact hl, fun p hp => ?_⟩
    cases e : mapD ws with
    | none => rw [e] at h1; exact h1.elim
    | some ds =>
      rw [e] at h1
      have sm : Same H1 (upd H1 p (.tup vs)) := same_new hp
      exact h1 φ1 _ (Step.same sm) (q1.same sm) _ (rep_newT q1.trk hp (mapD_rep rv e))
  · exact h1.elim
/-- a fresh list's reading: the list stands alone at a new place -/
def tF (XT : Xt) (K : PySem.W.Frag) (W : WX) (m : Ev → Sr → Rs (Wv × Sr)) : TE := fun σ H Q => ∃ fo φ ρ st, Sok K fo φ H st ∧ EnvOk K fo φ H ρ σ ∧
  Go K (xwOf XT K W σ fo) fo φ H (m ρ st) (fun w st' φ' H' => ∀ xs vs p, w = .d (.lst xs) → H' p = none → RepL K (fo ++ φ') H' xs vs → Q (.ref p) (upd H' p (.lst vs)))
theorem tW_tF {m : Ev → Sr → Rs (Wv × Sr)} (h : tW XT K W m σ H Q) : tF XT K W m σ H Q := by
  obtain ⟨fo, φ, ρ, st, hs, he, h⟩ := h
  refine ⟨fo, φ, ρ, st, hs, he, ?_⟩
  cases e : m ρ st with
  | bad => rw [e] at h; exact h
  | exc c fs sx => rw [e] at h; exact h
  | ok p =>
    rw [e] at h
    intro φ' H' s' q' xs vs a ew ha r
    have sm : Same H' (upd H' a (.lst vs)) := same_new ha
    refine h φ' _ (s'.trans (Step.same sm)) (q'.same sm) _ ?_
    rw [ew]
    exact rep_newL q'.trk ha r
theorem pe_lstF {es : Exs} {xs : List Expr} {pos : Pos} (h : PA X xs (tL XT X.K W (evEs Γ es))) : PE X (.List xs pos) (tF XT X.K W (evE Γ (.lst es))) := by
  refine PE.weak (pe_lst h) fun σ H Q h => ?_
  obtain ⟨fo, φ, ρ, st, hs, he, h⟩ := h
  unfold evE at h
  refine ⟨fo, φ, ρ, st, hs, he, (Go.of_bind h).imp fun ws st1 φ1 H1 s1 q1 h1 vs rv => ?_⟩
  unfold mkLst at h1
  dsimp only at h1
  split at h1
  · rename_i hl
    refine ⟨by rw [← Paired.length rv, ← lim_eq]; exact hl, fun p hp => ?_⟩
    cases e : mapD ws with
    | none => rw [e] at h1; exact h1.elim
    | some ds =>
      rw [e] at h1
      exact (Go.run h1 q1) ds vs p rfl hp (mapD_rep rv e)
  · exact h1.elim
end
end PB

set_option Elab.async false
set_option linter.all false
set_option maxRecDepth 100000
set_option maxHeartbeats 4000000
set_option backward.match.sparseCases false
/-! Expressions keep their meaning: calls, builtins, walks, comprehensions. -/
namespace PB
open PySem PySem.Spec PyProof.Rows L2
section
variable {XT : Xt} {T : Tb} {Γ : Gam} {N : List Str} {X : Cx} {W : WX} {sc : Scope} {K : PySem.W.Frag} {σ : L2.St} {H : Hp} {Q : VK}

theorem CxOk.gl (c : CxOk XT T Γ N X W sc) {x : Str} (h : isGl sc x = true) : Gl X x := by
  show X.env.scope.names.lookup x = _
  rw [c.scope]
  exact (isGl_gl h).1
theorem boot_p1 (p : P1) : bootBuiltins (Str.ofString (pyP1 p)) = some (valP1 p) := by cases p <;> decide +kernel
theorem ne_p1 (p : P1) : Str.ofString (pyP1 p) ≠ ("__name__" : Str) := by cases p <;> decide +kernel
theorem mem_p1 (p : P1) : pyP1 p ∈ bltNames := by cases p <;> decide
theorem one_arg {es : List Expr} {pos : Pos} {env : PySem.Env} : (backTo pos (starEach [] env)).any (·.1) = false := rfl
theorem pa_one {a : Ex} {y : Expr} (ha : PE X y (tW XT X.K W (evE Γ a))) (hy : plainE y = true) : PA X [y] (tCons (tW XT X.K W (evE Γ a)) tNil) := pa_cons ha pa_nil (plainE_star hy _ _)
theorem pe_p1E {p : P1} {a : Ex} {y : Expr} {pn pos : Pos} (c : CxOk XT T Γ N X W sc) (hg : isGl sc (Str.ofString (pyP1 p)) = true) (ha : PE X y (tW XT X.K W (evE Γ a))) (hy : plainE y = true) :
    PE X (.Call (.Name (Str.ofString (pyP1 p)) pn) [y] [] pos) (tW XT X.K W (evE Γ (.p1 p a))) := by
  have hb := boot_p1 p
  have hc := call_p1 (X := X) c.calm c.units p
  have hm := c.blt _ (mem_p1 p)
  have key : PE X (.Call (.Name (Str.ofString (pyP1 p)) pn) [y] [] pos) (tCB (rP1 X.K p) (tCons (tW XT X.K W (evE Γ a)) tNil)) := by
    unfold valP1 at hb hc
    cases ht : p1Ty p with
    | true =>
      rw [ht] at hb hc
      exact pe_callTy hc (c.gl hg) hm hb (pa_one ha hy) (ne_p1 p) (isGl_gl hg).2 (plainE_star hy _ _) rfl
    | false =>
      rw [ht] at hb hc
      exact pe_callB hc (c.gl hg) hm hb (pa_one ha hy) (ne_p1 p) (isGl_gl hg).2 (plainE_star hy _ _) rfl
  refine PE.weak key fun σ H Q h => ?_
  exact tW_op1 (uns_p1 p) h
theorem boot_b2 (p : B2) : bootBuiltins (Str.ofString (pyB2 p)) = some (.builtin (pyB2 p)) := by cases p <;> decide +kernel
theorem ne_b2 (p : B2) : Str.ofString (pyB2 p) ≠ ("__name__" : Str) := by cases p <;> decide +kernel
theorem mem_b2 (p : B2) : pyB2 p ∈ bltNames := by cases p <;> decide
theorem pe_b2E {o : B2} {a b : Ex} {y z : Expr} {pn pos : Pos} (c : CxOk XT T Γ N X W sc) (hg : isGl sc (Str.ofString (pyB2 o)) = true) (ha : PE X y (tW XT X.K W (evE Γ a))) (hy : plainE y = true) (hb : PE X z (tW XT X.K W (evE Γ b))) (hz : plainE z = true) :
    PE X (.Call (.Name (Str.ofString (pyB2 o)) pn) [y, z] [] pos) (tW XT X.K W (evE Γ (.b2 o a b))) := by
  have hA : PA X [y, z] (tCons (tW XT X.K W (evE Γ a)) (tCons (tW XT X.K W (evE Γ b)) tNil)) := pa_cons ha (pa_cons hb pa_nil (plainE_star hz _ _)) (plainE_star hy _ _)
  refine PE.weak (pe_callB (call_b2 c.calm o) (c.gl hg) (c.blt _ (mem_b2 o)) (boot_b2 o) hA (ne_b2 o) (isGl_gl hg).2 (plainE_star hy _ _) (by rw [plainE_star hz]; rfl)) fun σ H Q h => ?_
  exact tW_op2 (ops_b2 o) h
def tyP : Ty → Value := fun t => .type (pyTy t)
theorem boot_ty (t : Ty) : bootBuiltins (Str.ofString (pyTy t)) = some (.type (pyTy t)) := by cases t <;> decide +kernel
theorem ne_ty (t : Ty) : Str.ofString (pyTy t) ≠ ("__name__" : Str) := by cases t <;> decide +kernel
theorem mem_ty (t : Ty) : pyTy t ∈ bltNames := by cases t <;> decide
theorem boot_isi : bootBuiltins ("isinstance" : Str) = some (.builtin "isinstance") := by decide +kernel
theorem pe_isiE {t : Ty} {a : Ex} {y : Expr} {pn pz pos : Pos} (c : CxOk XT T Γ N X W sc) (hg : isGl sc "isinstance" = true) (hz : isGl sc (Str.ofString (pyTy t)) = true) (ha : PE X y (tW XT X.K W (evE Γ a))) (hy : plainE y = true) :
    PE X (.Call (.Name "isinstance" pn) [y, .Name (Str.ofString (pyTy t)) pz] [] pos) (tW XT X.K W (evE Γ (.isi a t))) := by
  have hT : PE X (.Name (Str.ofString (pyTy t)) pz) (tC (.ty (pyTy t))) := pe_bltn (v := .ty (pyTy t)) (c.gl hz) (c.blt _ (mem_ty t)) (boot_ty t) rfl (ne_ty t) (isGl_gl hz).2
  have hA : PA X [y, .Name (Str.ofString (pyTy t)) pz] (tCons (tW XT X.K W (evE Γ a)) (tCons (tC (.ty (pyTy t))) tNil)) := pa_cons ha (pa_cons hT pa_nil rfl) (plainE_star hy _ _)
  refine PE.weak (pe_callB call_isi (c.gl hg) (c.blt "isinstance" (by decide)) boot_isi hA (by decide +kernel) (isGl_gl hg).2 (plainE_star hy _ _) rfl) fun σ H Q h => ?_
  exact tW_op1 (uns_isi t) h
theorem pe_isi2E {t u : Ty} {a : Ex} {y : Expr} {pn pz pz2 pos pt : Pos} {k : Nat} (c : CxOk XT T Γ N X W sc) (hg : isGl sc "isinstance" = true) (hz : isGl sc (Str.ofString (pyTy t)) = true) (hz2 : isGl sc (Str.ofString (pyTy u)) = true) (ha : PE X y (tW XT X.K W (evE Γ a))) (hy : plainE y = true) :
    PE X (.Call (.Name "isinstance" pn) [y, .Tuple [.Name (Str.ofString (pyTy t)) pz, .Name (Str.ofString (pyTy u)) pz2] k pt] [] pos) (tW XT X.K W (evE Γ (.isi2 a t u))) := by
  have hT : PE X (.Name (Str.ofString (pyTy t)) pz) (tC (.ty (pyTy t))) := pe_bltn (v := .ty (pyTy t)) (c.gl hz) (c.blt _ (mem_ty t)) (boot_ty t) rfl (ne_ty t) (isGl_gl hz).2
  have hU : PE X (.Name (Str.ofString (pyTy u)) pz2) (tC (.ty (pyTy u))) := pe_bltn (v := .ty (pyTy u)) (c.gl hz2) (c.blt _ (mem_ty u)) (boot_ty u) rfl (ne_ty u) (isGl_gl hz2).2
  have hP : PA X [.Name (Str.ofString (pyTy t)) pz, .Name (Str.ofString (pyTy u)) pz2] (tCons (tC (.ty (pyTy t))) (tCons (tC (.ty (pyTy u))) tNil)) := pa_cons hT (pa_cons hU pa_nil rfl) rfl
  have hA := pa_cons ha (pa_cons (pe_tup (x1 := k) (pos := pt) hP) pa_nil rfl) (plainE_star hy _ _)
  refine PE.weak (pe_callB call_isiT (c.gl hg) (c.blt "isinstance" (by decide)) boot_isi hA (by decide +kernel) (isGl_gl hg).2 (plainE_star hy _ _) rfl) fun σ H Q h => ?_
  have h' := tW_op1 (uns_isi2 t u) (show tW XT X.K W (fun ρ st => (evE Γ a ρ st).bind (op1 fun x => some (.bl (isiD t x || isiD u x)))) σ H Q from by
    obtain ⟨fo, φ, ρ, st, hs, he, h⟩ := h
    unfold evE at h
    exact ⟨fo, φ, ρ, st, hs, he, h⟩)
  exact h'
theorem RepL.snoc : ∀ {av : List Addr} {xs : List Dt} {vs : List V} {x : Dt} {v : V}, RepL K av H xs vs → Rep K av H x v → RepL K av H (xs ++ [x]) (vs ++ [v])
  | _, _, _, _, _, .nil, h => .cons h .nil
  | _, _, _, _, _, .cons a r, h => .cons a (RepL.snoc r h)
theorem RepL.reverse : ∀ {av : List Addr} {xs : List Dt} {vs : List V}, RepL K av H xs vs → RepL K av H xs.reverse vs.reverse
  | _, _, _, .nil => .nil
  | _, _, _, .cons a r => by
    rw [List.reverse_cons, List.reverse_cons]
    exact RepL.snoc (RepL.reverse r) a
theorem pe_ixE {a i : Ex} {x y : Expr} {pos : Pos} (ha : PE X x (tW XT X.K W (evE Γ a))) (hb : PE X y (tW XT X.K W (evE Γ i))) (hy : plainE y = true) : PE X (.Subscript x y pos) (tW XT X.K W (evE Γ (.ix a i))) :=
  PE.weak (pe_ix ix_seq ha hb (plainE_ix hy)) fun σ H Q h => tW_op2 ops_ix h
theorem po_no : PO X none (tO XT X.K W (evO Γ .no)) := by
  refine ⟨fun pins s σ H Q I h => po_none.run pins s σ H Q I ?_⟩
  obtain ⟨fo, φ, ρ, st, hs, he, h⟩ := h
  unfold evO at h
  exact Go.run h hs
theorem intW_inv {w : Wv} {i : Int} (h : intW w = some i) : w = .d (.int i) := by
  unfold intW at h
  split at h
  · cases h; rfl
  · cases h
theorem po_yes {e : Ex} {x : Expr} (ha : PE X x (tW XT X.K W (evE Γ e))) : PO X (some x) (tO XT X.K W (evO Γ (.yes e))) := by
  refine ⟨fun pins s σ H Q I h => (po_some ha).run pins s σ H Q I ?_⟩
  obtain ⟨fo, φ, ρ, st, hs, he, h⟩ := h
  unfold evO at h
  refine ⟨fo, φ, ρ, st, hs, he, (Go.of_bind h).imp fun w st1 φ1 H1 s1 q1 h1 v rv => ?_⟩
  dsimp only at h1
  cases e1 : intW w with
  | none => rw [e1] at h1; exact h1.elim
  | some i =>
    rw [e1] at h1
    cases intW_inv e1
    cases (show Rep X.K (fo ++ φ1) H1 (.int i) v from rv)
    exact ⟨i, rfl, Go.run h1 q1⟩
theorem pe_slE {a : Ex} {lo hi : Exo} {x : Expr} {l h : Option Expr} {p2 pos : Pos} (ha : PE X x (tW XT X.K W (evE Γ a))) (hl : PO X l (tO XT X.K W (evO Γ lo))) (hh : PO X h (tO XT X.K W (evO Γ hi))) :
    PE X (.Subscript x (.Slice l h none p2) pos) (tW XT X.K W (evE Γ (.sl a lo hi))) := by
  refine PE.weak (pe_slice sl_any ha hl hh) fun σ H Q h => ?_
  obtain ⟨fo, φ, ρ, st, hs, he, h⟩ := h
  unfold evE at h
  refine ⟨fo, φ, ρ, st, hs, he, (Go.of_bind h).imp fun w st1 φ1 H1 s1 q1 h1 v rv => ?_⟩
  refine ⟨fo, φ1, ρ, st1, q1, he.step s1, (Go.of_bind h1).imp fun o1 st2 φ2 H2 s2 q2 h2 => ?_⟩
  refine ⟨fo, φ2, ρ, st2, q2, he.step (s1.trans s2), (Go.of_bind h2).imp fun o2 st3 φ3 H3 s3 q3 h3 => ?_⟩
  dsimp only at h3
  unfold op1 at h3
  dsimp only at h3
  cases e1 : viewW st3 w with
  | none => rw [e1] at h3; exact h3.elim
  | some x =>
    cases e2 : slD x o1 o2 with
    | none => rw [e1] at h3; simp only [Option.bind_some, e2] at h3; exact h3.elim
    | some z =>
      rw [e1] at h3; simp only [Option.bind_some, e2] at h3
      exact uns_sl o1 o2 (fo ++ φ3) H3 x z v Q q3.trk (view_of q3 (rv.step (s2.trans s3)) e1) e2 fun u H' sm rz => h3 φ3 H' (Step.same sm) (q3.same sm) u rz
theorem pe_revE {a : Ex} {x : Expr} {k : Nat} {p1 p2 p3 pos : Pos} (ha : PE X x (tW XT X.K W (evE Γ a))) : PE X (.Subscript x (.Slice none none (some (.UnaryOp .USub (.Constant (.int 1) k p1) p2)) p3) pos) (tW XT X.K W (evE Γ (.rev a))) := by
  refine PE.weak (pe_revL ha) fun σ H Q h => ?_
  refine tW_op1 (f := revD) (r := fun x H1 Q => ∃ a xs, x = .ref a ∧ SqL X.K H1 a xs ∧ ∀ p, H1 p = none → Q (.ref p) (upd H1 p (.lst xs.reverse))) ?_ h
  intro av H x z v Q ht hx e q
  cases x with
  | lst xs =>
    cases e
    obtain ⟨a, vs, rfl, ha, ra⟩ := vlst hx
    exact ⟨a, vs, rfl, .inl ha, fun p hp => q _ _ (same_new hp) (rep_newL ht hp (RepL.reverse ra))⟩
  | _ => cases e
/-! #### methods of texts -/
theorem m1_join {a b : Ex} {x y : Expr} {ap cp : Pos} (ha : PE X x (tW XT X.K W (evE Γ a))) (hb : PE X y (tW XT X.K W (evE Γ b))) (hx : plainE x = true) (hy : plainE y = true) (hl : (ap.endLine == cp.line) = true) :
    PE X (.Call (.Attribute x "join" ap) [y] [] cp) (tW XT X.K W (evE Γ (.m1 .join a b))) := by
  have hfew : ((backTo cp (starEach [y] X.env)).all (fun x => !x.1) && (backToKw cp (keywordEach [] X.env)).all (fun x => x.1.isSome)
      && decide ([y].length + ([] : List Keyword).length + (if ([] : List Keyword).isEmpty then 0 else 1) < 30)) = true := by
    rw [plainE_star hy]
    rfl
  refine PE.weak (pe_bm PySem.F.plainAttrs_str PySem.F.slot_str_join PySem.F.type_str_join mt_join ha (pa_one hb hy) (plainE_base hx _ _) hfew hl (plainE_star hy _ _) rfl) fun σ H Q h => ?_
  obtain ⟨fo, φ, ρ, st, hs, he, h⟩ := h
  unfold evE at h
  refine ⟨fo, φ, ρ, st, hs, he, (Go.of_bind h).imp fun w st1 φ1 H1 s1 q1 h1 v rv => ?_⟩
  dsimp only at h1
  cases e1 : strW w with
  | none => rw [e1] at h1; exact h1.elim
  | some s =>
    rw [e1] at h1
    have ew : w = .d (.str s) := by
      unfold strW at e1
      split at e1
      · cases e1; rfl
      · cases e1
    subst ew
    obtain ⟨rfl, ho⟩ := vstr (Rep.view rv)
    refine ⟨rfl, ?_⟩
    exact tW_op1 (uns_join ho) ⟨fo, φ1, ρ, st1, q1, he.step s1, h1⟩
theorem m1_zfill {a b : Ex} {x y : Expr} {ap cp : Pos} (ha : PE X x (tW XT X.K W (evE Γ a))) (hb : PE X y (tW XT X.K W (evE Γ b))) (hx : plainE x = true) (hy : plainE y = true) (hl : (ap.endLine == cp.line) = true) :
    PE X (.Call (.Attribute x "zfill" ap) [y] [] cp) (tW XT X.K W (evE Γ (.m1 .zfill a b))) := by
  have hfew : ((backTo cp (starEach [y] X.env)).all (fun x => !x.1) && (backToKw cp (keywordEach [] X.env)).all (fun x => x.1.isSome)
      && decide ([y].length + ([] : List Keyword).length + (if ([] : List Keyword).isEmpty then 0 else 1) < 30)) = true := by
    rw [plainE_star hy]
    rfl
  refine PE.weak (pe_bm PySem.F.plainAttrs_str PySem.F.slot_str_zfill PySem.F.type_str_zfill mt_zfill ha (pa_one hb hy) (plainE_base hx _ _) hfew hl (plainE_star hy _ _) rfl) fun σ H Q h => ?_
  obtain ⟨fo, φ, ρ, st, hs, he, h⟩ := h
  unfold evE at h
  refine ⟨fo, φ, ρ, st, hs, he, (Go.of_bind h).imp fun w st1 φ1 H1 s1 q1 h1 v rv => ?_⟩
  dsimp only at h1
  cases e1 : strW w with
  | none => rw [e1] at h1; exact h1.elim
  | some s =>
    rw [e1] at h1
    have ew : w = .d (.str s) := by
      unfold strW at e1
      split at e1
      · cases e1; rfl
      · cases e1
    subst ew
    obtain ⟨rfl, ho⟩ := vstr (Rep.view rv)
    refine ⟨rfl, ?_⟩
    exact tW_op1 (uns_zfill ho) ⟨fo, φ1, ρ, st1, q1, he.step s1, h1⟩
theorem m1_split {a b : Ex} {x y : Expr} {ap cp : Pos} (ha : PE X x (tW XT X.K W (evE Γ a))) (hb : PE X y (tW XT X.K W (evE Γ b))) (hx : plainE x = true) (hy : plainE y = true) (hl : (ap.endLine == cp.line) = true) :
    PE X (.Call (.Attribute x "split" ap) [y] [] cp) (tW XT X.K W (evE Γ (.m1 .split a b))) := by
  have hfew : ((backTo cp (starEach [y] X.env)).all (fun x => !x.1) && (backToKw cp (keywordEach [] X.env)).all (fun x => x.1.isSome)
      && decide ([y].length + ([] : List Keyword).length + (if ([] : List Keyword).isEmpty then 0 else 1) < 30)) = true := by
    rw [plainE_star hy]
    rfl
  refine PE.weak (pe_bm PySem.F.plainAttrs_str PySem.F.slot_str_split PySem.F.type_str_split mt_split ha (pa_one hb hy) (plainE_base hx _ _) hfew hl (plainE_star hy _ _) rfl) fun σ H Q h => ?_
  obtain ⟨fo, φ, ρ, st, hs, he, h⟩ := h
  unfold evE at h
  refine ⟨fo, φ, ρ, st, hs, he, (Go.of_bind h).imp fun w st1 φ1 H1 s1 q1 h1 v rv => ?_⟩
  dsimp only at h1
  cases e1 : strW w with
  | none => rw [e1] at h1; exact h1.elim
  | some s =>
    rw [e1] at h1
    have ew : w = .d (.str s) := by
      unfold strW at e1
      split at e1
      · cases e1; rfl
      · cases e1
    subst ew
    obtain ⟨rfl, ho⟩ := vstr (Rep.view rv)
    refine ⟨rfl, ?_⟩
    exact tW_op1 (uns_split ho) ⟨fo, φ1, ρ, st1, q1, he.step s1, h1⟩
end
end PB

set_option Elab.async false
set_option linter.all false
set_option maxRecDepth 100000
set_option maxHeartbeats 4000000
set_option backward.match.sparseCases false
/-! len(set(xs)) of data. -/
namespace PB
open PySem PySem.Spec PyProof.Rows L2
mutual
/-- a datum as a key -/
def nkD : Dt → NK
  | .non => .none
  | .bl b => .num (if b = true then 1 else 0)
  | .int i => .num i
  | .str s => .text (toS s)
  | .tup xs => .tup (nkDs xs)
  | .lst _ => .none
  | .scr _ => .none
def nkDs : List Dt → List NK
  | [] => []
  | x :: xs => nkD x :: nkDs xs
end
mutual
theorem nk_dep : ∀ x : Dt, keyOk x = true → (nkD x).depth = depD x
  | .non, _ => rfl
  | .bl _, _ => rfl
  | .int _, _ => rfl
  | .str _, _ => rfl
  | .tup xs, h => by simp only [nkD, NestedKey.depth, depD, nk_deps xs (by simpa [keyOk] using h)]
  | .lst _, h => by simp [keyOk] at h
  | .scr _, h => by simp [keyOk] at h
theorem nk_deps : ∀ xs : List Dt, keyOks xs = true → NestedKey.depthAll (nkDs xs) = depDs xs
  | [], _ => rfl
  | x :: xs, h => by
    simp only [keyOks, Bool.and_eq_true] at h
    simp only [nkDs, NestedKey.depthAll, depDs, nk_dep x h.1, nk_deps xs h.2]
end
mutual
theorem nk_eq : ∀ x y : Dt, keyOk x = true → keyOk y = true → NestedKey.beq (nkD x) (nkD y) = eqD x y
  | .tup xs, .tup ys, h, h' => by
    simp only [nkD, NestedKey.beq, eqD]
    exact nk_eqs xs ys (by simpa [keyOk] using h) (by simpa [keyOk] using h')
  | .str a, .str b, _, _ => by
    simp only [nkD, NestedKey.beq, eqD]
    rw [← toS_beq]
    rfl
  | .lst _, _, h, _ => by simp [keyOk] at h
  | .scr _, _, h, _ => by simp [keyOk] at h
  | .non, y, _, h' => by cases y <;> first | rfl | (simp [keyOk] at h')
  | .bl a, y, _, h' => by cases y <;> first | rfl | (simp [keyOk] at h'; done) | (rename_i b; cases a <;> cases b <;> rfl)
  | .int i, y, _, h' => by cases y <;> first | rfl | (simp [keyOk] at h'; done)
  | .str _, .non, _, _ => rfl
  | .str _, .bl _, _, _ => rfl
  | .str _, .int _, _, _ => rfl
  | .str _, .tup _, _, _ => rfl
  | .str _, .lst _, _, h' => by simp [keyOk] at h'
  | .str _, .scr _, _, h' => by simp [keyOk] at h'
  | .tup _, .non, _, _ => rfl
  | .tup _, .bl _, _, _ => rfl
  | .tup _, .int _, _, _ => rfl
  | .tup _, .str _, _, _ => rfl
  | .tup _, .lst _, _, h' => by simp [keyOk] at h'
  | .tup _, .scr _, _, h' => by simp [keyOk] at h'
theorem nk_eqs : ∀ xs ys : List Dt, keyOks xs = true → keyOks ys = true → NestedKey.beqAll (nkDs xs) (nkDs ys) = eqDs xs ys
  | [], [], _, _ => rfl
  | [], _ :: _, _, _ => rfl
  | _ :: _, [], _, _ => rfl
  | x :: xs, y :: ys, h, h' => by
    simp only [keyOks, Bool.and_eq_true] at h h'
    simp only [nkDs, NestedKey.beqAll, eqDs, nk_eq x y h.1 h'.1, nk_eqs xs ys h.2 h'.2]
end
theorem nk_iff {x y : Dt} (h : keyOk x = true) (h' : keyOk y = true) : nkD x = nkD y ↔ eqD x y = true := by
  rw [← nk_eq x y h h']
  constructor
  · intro e
    rw [e]
    exact NestedKey.beq_self _
  · exact NestedKey.eq_of_beq _ _
/-- the keys of unlike ones -/
theorem nub_keys : ∀ xs : List Dt, (∀ x ∈ xs, keyOk x = true) → ((nubD xs).map nkD).Nodup ∧ (∀ k, k ∈ (nubD xs).map nkD ↔ k ∈ xs.map nkD)
  | [], _ => ⟨List.nodup_nil, fun k => Iff.rfl⟩
  | x :: xs, h => by
    have hx := h x List.mem_cons_self
    have hr := fun y hy => h y (List.mem_cons_of_mem x hy)
    obtain ⟨i1, i2⟩ := nub_keys xs hr
    by_cases c : xs.any (fun z => eqD x z) = true
    · rw [nubD, if_pos c]
      refine ⟨i1, fun k => ?_⟩
      rw [i2, List.map_cons, List.mem_cons]
      constructor
      · exact .inr
      · rintro (e | e)
        · obtain ⟨z, hz, ez⟩ := List.any_eq_true.mp c
          rw [e, (nk_iff hx (hr z hz)).mpr ez]
          exact List.mem_map_of_mem hz
        · exact e
    · rw [nubD, if_neg c, List.map_cons]
      refine ⟨List.nodup_cons.mpr ⟨fun m => ?_, i1⟩, fun k => ?_⟩
      · rw [i2] at m
        obtain ⟨z, hz, ez⟩ := List.mem_map.mp m
        exact c (List.any_eq_true.mpr ⟨z, hz, (nk_iff hx (hr z hz)).mp ez.symm⟩)
      · rw [List.mem_cons, i2, List.map_cons, List.mem_cons]
section
variable {X : Cx} {pins : List (Addr × Obj)} {σ : L2.St} {H : Hp} {s : Shared} {av : List Addr}
mutual
theorem rep_nk (I : Inv X pins σ H s) : ∀ {x : Dt} {v : V} {u : Value}, Rep X.K av H x v → RelV v u → keyOk x = true → NestedIs s.heap (nkD x) u
  | _, _, _, .non, r, _ => by cases r; exact .none
  | _, _, _, .bl b, r, _ => by cases r; exact .bool rfl
  | _, _, _, .int i, r, _ => by obtain ⟨t, rfl⟩ := r; exact .int _ _
  | _, _, _, .str z h, r, _ => by obtain ⟨t, rfl⟩ := r; exact .text _ _
  | _, _, _, .tup h q e, r, k => by
    cases r
    obtain ⟨its, rv, ⟨o, g1, g2, m, g3⟩, _⟩ := I.tuple (.inl q)
    exact .tup g1 g2 g3 (by simpa using rep_nks I e rv (by simpa [keyOk] using k))
  | _, _, _, .tupK q e, r, k => by
    cases r
    obtain ⟨its, rv, ⟨o, g1, g2, m, g3⟩, _⟩ := I.tuple (.inr q)
    exact .tup g1 g2 g3 (by simpa using rep_nks I e rv (by simpa [keyOk] using k))
  | _, _, _, .lst _ _ _, _, k => by simp [keyOk] at k
  | _, _, _, .scr _, _, k => by simp [keyOk] at k
theorem rep_nks (I : Inv X pins σ H s) : ∀ {xs : List Dt} {vs : List V} {us : List Value}, RepL X.K av H xs vs → Vals vs us → keyOks xs = true → NestedAll s.heap (nkDs xs) us
  | _, _, _, .nil, r, _ => by cases r; exact .nil
  | _, _, _, .cons h q, r, k => by
    cases r with
    | cons r1 r2 =>
      simp only [keyOks, Bool.and_eq_true] at k
      exact .cons (rep_nk I h r1 k.1) (rep_nks I q r2 k.2)
end
/-- tuples that are keys, with their places -/
theorem reps_ks (I : Inv X pins σ H s) : ∀ {xs : List Dt} {vs : List V} {us : List Value}, RepL X.K av H xs vs → Vals vs us → xs.all (fun x => isTupD x && keyOk x && decide (depD x ≤ 8)) = true →
    ∃ ks : List (Addr × NK), us = (ks.map fun p => Value.ref p.1) ∧ ks.map (·.2) = xs.map nkD ∧ ∀ p ∈ ks, isN s.heap p.2 p.1
  | _, _, _, .nil, r, _ => by cases r; exact ⟨[], rfl, rfl, fun p h => by cases h⟩
  | x :: xs, _, _, .cons h q, r, k => by
    cases r with
    | cons r1 r2 =>
      simp only [List.all_cons, Bool.and_eq_true, decide_eq_true_eq] at k
      obtain ⟨⟨⟨k1, k2⟩, k3⟩, k4⟩ := k
      obtain ⟨ks, e1, e2, e3⟩ := reps_ks I q r2 (by simpa only [List.all_eq_true, Bool.and_eq_true, decide_eq_true_eq] using k4)
      have n1 := rep_nk I h r1 k2
      obtain ⟨a, ha⟩ : ∃ a, _ = V.ref a := by
        cases x with
        | tup ys => obtain ⟨a, vs, e, _⟩ := Rep.sqT h; exact ⟨a, e⟩
        | _ => simp [isTupD] at k1
      subst ha
      cases r1
      refine ⟨(a, nkD x) :: ks, by rw [e1]; rfl, by rw [List.map_cons, List.map_cons, e2], fun p hp => ?_⟩
      rcases List.mem_cons.mp hp with e | hp
      · rw [e]
        exact ⟨n1, by rw [nk_dep x k2]; exact k3⟩
      · exact e3 p hp
end
section
variable {XT : Xt} {T : Tb} {Γ : Gam} {N : List Str} {X : Cx} {W : WX} {sc : Scope}
/-- the reading of len(set(..)) -/
def rLens (K : PySem.W.Frag) : V → Hp → VK → Prop := fun v H Q => ∃ (av : List Addr) (xs : List Dt) (a : Addr) (vs : List V), v = .ref a ∧ SqT K H a vs ∧ RepL K av H xs vs ∧
  xs.all (fun x => isTupD x && keyOk x && decide (depD x ≤ 8)) = true ∧ xs.length < 64 ∧ Q (.int (nubD xs).length) H
theorem uns_lens {K : PySem.W.Frag} : UnS K lensD (rLens K) := by
  intro av H x z v Q ht hx e q
  cases x with
  | tup xs =>
    unfold lensD at e
    dsimp only at e
    split at e
    · rename_i c
      cases e
      obtain ⟨a, vs, rfl, ha, ra⟩ := vtup hx
      exact ⟨av, xs, a, vs, rfl, ha, ra, c.1, c.2, q _ H (.refl H) (.int _)⟩
    · cases e
  | _ => cases e
theorem pe_lensV {a : Expr} {ta : TE} {p p2 q pos : Pos} (hc : X.calm = true) (room : X.A.units + 65 < cLine) (hg : Gl X "len") (hm : X.mg "len" = none) (hg2 : Gl X "set") (hm2 : X.mg "set" = none) (ha : PE X a ta)
    (na : starEach [a] X.env = (false, eval a X.env) :: starEach [] X.env) : PE X (.Call (.Name "len" p) [.Call (.Name "set" p2) [a] [] q] [] pos) (fun σ H Q => ta σ H fun x H1 => rLens X.K x H1 Q) := by
  refine ⟨fun pins s σ H Q I h => ?_⟩
  refine Call_ (ld_blt I hg hm PySem.boot_len ?_)
  refine PyProof.Rows.callWith_builtin1 (PyProof.Rows.args_cons ?_ rfl) rfl rfl
  refine Call_ (ld_blt I hg2 hm2 PyProof.Rows.boot_set ?_)
  refine PyProof.Rows.callWith_type1 (PyProof.Rows.args_cons (thn (ha.run pins s σ H _ I h) fun v s1 ⟨x, H1, I1, r1, q1⟩ => PyProof.Rows.args_nil ?_) na) na rfl
  obtain ⟨av, xs, t, vs, rfl, sq, rl, ok, few, q1⟩ := q1
  cases r1
  obtain ⟨its, rv, tu, _⟩ := I1.tuple sq
  obtain ⟨ks, e1, e2, e3⟩ := reps_ks I1 rl rv ok
  have kl : ks.length = xs.length := by
    have := congrArg List.length e2
    simpa using this
  refine call_setN_tuple (P := X.prog) (w := X.w) ks (I1.ok.hd hc) (show s1.heap.IsTuple t its.toArray from tu) (by simpa using e1) e3 (by omega) (by omega) fun h' tk L es ep tb S g kp => ?_
  refine PyProof.Rows.args_nil ?_
  obtain ⟨o, g1, g2, g3⟩ := S.obj
  have I2 : Inv X pins σ H1 { s1 with heap := h', toks := tk } := I1.kept kp
  have key : ∀ x ∈ xs, keyOk x = true := fun x hx => by
    have := List.all_eq_true.mp ok x hx
    simp only [Bool.and_eq_true] at this
    exact this.1.2
  obtain ⟨u1, u2⟩ := nub_keys xs key
  have cnt : es.size = (nubD xs).length := by
    have pm : (L.map (·.2)).Perm ((nubD xs).map nkD) := by
      refine (List.perm_ext_iff_of_nodup S.nod u1).mpr fun k => ?_
      rw [u2, ← e2]
      constructor
      · intro m
        obtain ⟨p, hp, rfl⟩ := List.mem_map.mp m
        exact List.mem_map_of_mem (List.mem_of_mem_take (g.sub p hp))
      · intro m
        obtain ⟨p, hp, rfl⟩ := List.mem_map.mp m
        exact g.all p (by rw [List.take_length]; exact hp)
    have := pm.length_eq
    rw [List.length_map, List.length_map] at this
    rw [S.size (s := { s1 with heap := h', toks := tk }), this]
  have few2 := S.few
  have sz2 := S.size (s := { s1 with heap := h', toks := tk })
  refine call_len_set g1 g2 g3 (S.fits (s := { s1 with heap := h', toks := tk })) (by omega) ⟨.int (nubD xs).length, H1, I2.tok _, ⟨_, by rw [cnt]⟩, q1⟩
theorem pe_lensE {a : Ex} {y : Expr} {p1 p2 q1 q : Pos} (c : CxOk XT T Γ N X W sc) (g1 : isGl sc "len" = true) (g2 : isGl sc "set" = true) (ha : PE X y (tW XT X.K W (evE Γ a))) (hy : plainE y = true) :
    PE X (.Call (.Name "len" p1) [.Call (.Name "set" p2) [y] [] q1] [] q) (tW XT X.K W (evE Γ (.lens a))) := by
  refine PE.weak (pe_lensV c.calm c.units (c.gl g1) (c.blt "len" (by decide)) (c.gl g2) (c.blt "set" (by decide)) ha (plainE_star hy _ _)) fun σ H Q h => tW_op1 uns_lens ?_
  exact h
end
end PB

set_option Elab.async false
set_option linter.all false
set_option maxRecDepth 100000
set_option maxHeartbeats 4000000
set_option backward.match.sparseCases false
/-! Expressions keep their meaning: calls of defs, and, or, walks, comprehensions. -/
namespace PB
open PySem PySem.Spec PyProof.Rows L2
/-- enumerate(v) by what begins v's walk -/
theorem enum_newB {v : Value} {o : Obj} {H : Heap → Prop} (B : PySem.Begins v o H) :
    Meets (Builtin.«enumerate.__new__» ⟨[.type "enumerate", v], []⟩) (fun _ R s => H s.heap ∧
      R (.ok (.ret (.ref (s.heap.push o).objs.size))) { s with heap := (s.heap.push o).push { cls := .type "enumerate", data := .fields #[.none, .bool false, .ref s.heap.objs.size, rawInt 0, .none, .none] } }) :=
  .of_wp fun prog w A R s h => by
    obtain ⟨hp, g, d, tk, os⟩ := s
    obtain ⟨h1, h⟩ := h
    have hsub := sub_enumerate
    have q1 : ∀ {A' : Around} {E : Value → Shared → Prop} {Q : Value → Shared → Prop}, Q (.ref hp.objs.size) ⟨hp.push o, g, d, tk, os⟩ → wpAny (model prog w) A' (pyIter v) Q E ⟨hp, g, d, tk, os⟩ :=
      fun q => B.iter prog w _ _ ⟨hp, g, d, tk, os⟩ _ h1 q
    wp_walk using q1
    refine wpAny_stack_any fun st => wpAny_pure ?_
    split
    · rename_i c _ _ _ _ _
      cases (c == Value.type "enumerate") <;> (wp_walk using q1; exact ⟨_, rfl, h⟩)
    · wp_walk using q1
      exact ⟨_, rfl, h⟩

theorem call_enumT {prog : Program} {w : World} {A : Around} {E : Value → Shared → Prop} {s : Shared} {t : Addr} {items : Array Value} {Q : Value → Shared → Prop} (hT : s.heap.IsTuple t items)
    (h : ∀ h', IsEnum h' (s.heap.objs.size + 1) s.heap.objs.size 0 .none → h'.IsTupleIter s.heap.objs.size t 0 → h'.objs.size = s.heap.objs.size + 2 →
      (∀ b o, s.heap.get? b = some o → h'.get? b = some o) → Q (.ref (s.heap.objs.size + 1)) { s with heap := h' }) :
    wpAny (model prog w) A (call (.type "enumerate") [.ref t]) Q E s := by
  refine callType_new F.called_enumerate (by decide) (F.typeCall_enumerate_1 _) (F.newCall_enumerate_1 _) (fun obj => F.args_object_init_2 obj _) F.entry_enumerate_new (enum_newB (begins_tuple t items)) ⟨hT, ?_⟩
  generalize hO : ({ cls := .type "tuple_iterator", data := .fields #[.ref t, .int 0 0] } : Obj) = O
  generalize hU : ({ cls := .type "enumerate", data := .fields #[.none, .bool false, .ref s.heap.objs.size, rawInt 0, .none, .none] } : Obj) = U
  have hz : (s.heap.push O).objs.size = s.heap.objs.size + 1 := Heap.size_push ..
  have fO : O.isFreed = false := by rw [← hO]; rfl
  have fU : U.isFreed = false := by rw [← hU]; rfl
  have g1 : ((s.heap.push O).push U).get? (s.heap.objs.size + 1) = some U := by
    have q := Heap.get?_push_size (s.heap.push O) fU
    rwa [hz] at q
  have g0 : ((s.heap.push O).push U).get? s.heap.objs.size = some O := Heap.get?_push_of_some _ (Heap.get?_push_size _ fO)
  show _ ∧ _
  rw [hz]
  refine ⟨⟨_, g1, by rw [← hU]⟩, h _ (by rw [← hU] at g1 ⊢; exact g1) ⟨O, g0, by rw [← hO], by rw [← hO]; rfl⟩ (by rw [Heap.size_push, hz]) fun b o x => Heap.get?_push_of_some _ (Heap.get?_push_of_some _ x)⟩
/-- the tuple at a, each item in a new pair -/
def IteT (K : PySem.W.Frag) (a : Addr) : It :=
  ⟨fun i H => ∃ (xs : List V) (x : V), SqT K H a xs ∧ xs[i]? = some x, fun i H v H' => ∃ T x, v = .ref T ∧ H T = none ∧ H' = upd H T (.tup [.int (i : Nat), x]) ∧ ∀ xs, SqT K H a xs → xs[i]? = some x, fun i H => ∃ xs : List V, SqT K H a xs ∧ xs.length = i⟩
theorem turn_enumT {P : Program} {w : World} {K : PySem.W.Frag} {elts : List Expr} {kk : Nat} {tpos : Pos} (a e it : Addr) (hat : a ≠ it) (hea : e ≠ a) :
    Turn P w K (.Tuple elts kk tpos) (IteT K a) [e, it] e (fun i h => (∃ old, IsEnum h e it ((i : Nat) : Int) old) ∧ h.IsTupleIter it a i ∧ e ≠ it) where
  mem := by simp
  obj := fun i h st b hb => by
    obtain ⟨⟨old, he⟩, ⟨o, ho, hc, hd⟩, _⟩ := st
    rcases (by simpa using hb : b = e ∨ b = it) with rfl | rfl
    · exact ⟨_, he, fun v q => nomatch q⟩
    · exact ⟨o, ho, fun v q => by rw [hd] at q; cases q⟩
  keep := fun i h h' st k => let ⟨⟨old, he⟩, hi, hne⟩ := st; ⟨⟨old, k e (by simp) _ he⟩, hi.at fun o q => k it (by simp) o q, hne⟩
  item := by
    intro X hP hw hK hc i pins s σ H E I hf st hg
    subst hP hw hK
    obtain ⟨⟨old, he⟩, hit, hne⟩ := st
    obtain ⟨xs, x, hq, hx⟩ := hg
    obtain ⟨its, rv, p, hz⟩ := I.tuple hq
    obtain ⟨u, hu, ru⟩ := rv.get hx
    have hel : e < s.heap.objs.size := Heap.lt_size he
    have hil : it < s.heap.objs.size := by obtain ⟨_, q, _⟩ := hit; exact Heap.lt_size q
    have pT : s.heap.IsTuple a its.toArray := p
    have hlt : i < its.toArray.size := by
      have := (List.getElem?_eq_some_iff.mp hu).1
      simpa using this
    refine wpAny_pyNext_enum_itemD (Draws.tuple (A := X.A.in1) (I.ok.hd hc) it a hat its.toArray) he ⟨hit, pT⟩ hlt hne (by simp [hne, hea]) fun y h' tk hy ho hst hT hsz hk => ?_
    have ey : y = u := by
      have hy : its.toArray[i]? = some y := hy
      have : its[i]? = some y := by simpa using hy
      rw [hu] at this
      exact (Option.some.inj this).symm
    subst ey
    refine ⟨_, rfl, wpAny_letOwnedTupleGo_enum (s := { s with heap := h', toks := tk + 1 }) ho fun h'' he' sb => ?_⟩
    have hT2 : h''.get? s.heap.objs.size = some { cls := .type "tuple", data := .seq #[.int i tk, y] } := (sb.2 _ (Nat.ne_of_gt hel)).trans hT
    have new : ObjOk X.prog X.w (upd H s.heap.objs.size (.tup [.int (i : Nat), x])) h'' s.heap.objs.size (.tup [.int (i : Nat), x]) :=
      ⟨by show 2 ≤ sizeLine; decide, [.int i tk, y], .cons ⟨_, rfl⟩ (.cons ru .nil), ⟨_, hT2, rfl, _, rfl⟩⟩
    have I1 : Inv X pins σ (upd H s.heap.objs.size (.tup [.int (i : Nat), x])) { s with heap := h'', toks := tk + 1 } :=
      I.turnedNew (ch := [e, it]) (fun b ob hb q => (sb.2 b (fun z => hb (by simp [z]))).trans (hk b ob (fun z => hb (by simp [z])) (fun z => hb (by simp [z])) q)) hf (Nat.le_refl _) new
    refine ⟨.ref s.heap.objs.size, _, I1, rfl, ⟨_, x, rfl, I.hok.fresh (Nat.le_refl _), rfl, fun ys hy => ?_⟩, ⟨⟨y, ?_⟩, hst.1.at fun o q => (sb.2 it (Ne.symm hne)).trans q, hne⟩, fun b hb => ?_⟩
    · rw [I.tuple_inj hy hq]; exact hx
    · have e1 : ((i + 1 : Nat) : Int) = (i : Int) + 1 := by omega
      rw [e1]; exact he'
    · have hb' : b < s.heap.objs.size := by
        rcases (by simpa using hb : b = e ∨ b = it) with rfl | rfl
        · exact hel
        · exact hil
      rw [upd_ne (Nat.ne_of_lt hb')]
      exact (hf b hb).1
  done := by
    intro X hP hw hK hc i pins s σ H E I hf st hg
    subst hP hw hK
    obtain ⟨⟨old, he⟩, hit, hne⟩ := st
    obtain ⟨xs, hq, hx⟩ := hg
    obtain ⟨its, rv, p, hz⟩ := I.tuple hq
    obtain ⟨f0, f1, f2, f3, f4, f5⟩ := hf it (by simp)
    have hl := rv.length
    have hn : i = its.toArray.size := by simp; omega
    exact wpAny_pyNext_enum_endD (Draws.tuple (A := X.A.in1) (I.ok.hd hc) it a hat its.toArray) he ⟨by rw [← hn]; exact hit, p⟩ fun h' eb => ⟨rfl, I.turned (t' := s.toks) (fun b o hb q => eb b o hb q) f0 f1 f3 f4 f5⟩
  self := fun A i s Q E st h => let ⟨⟨_, he⟩, _⟩ := st; wpAny_pyIter_enum he h
def iEnumT (K : PySem.W.Frag) (ta : TA) : TI := fun σ H R => ta σ H fun vs H1 => ∃ a xs, vs = [.ref a] ∧ SqT K H1 a xs ∧ R (IteT K a) H1
theorem pi_enumT {X : Cx} {e : Expr} {ta : TA} {p pos tpos : Pos} {elts : List Expr} {kk : Nat} (hg : Gl X "enumerate") (hm : X.mg "enumerate" = none) (ha : PA X [e] ta) (hs : starEach [e] X.env = [(false, eval e X.env)]) :
    PI X (.Tuple elts kk tpos) (.Call (.Name "enumerate" p) [e] [] pos) (iEnumT X.K ta) := by
  refine ⟨fun pins s σ H R I h => ?_⟩
  refine Call_ (ld_blt I hg hm boot_enumerate (PyProof.Rows.callWith_type1 (thn (ha.run pos pins s σ H _ I h) fun us s1 ⟨vs, H1, I1, r1, q1⟩ => ?_) hs rfl))
  obtain ⟨a, xs, rfl, hq, q⟩ := q1
  obtain ⟨u, rfl, ru⟩ := vals1 r1
  obtain rfl : u = Value.ref a := ru
  obtain ⟨its, rv, p', hz⟩ := I1.tuple hq
  have pT : s1.heap.IsTuple a its.toArray := p'
  have hal : a < s1.heap.objs.size := by obtain ⟨_, g, _⟩ := pT; exact Heap.lt_size g
  refine call_enumT pT fun h' he hit hsz hk => wpAny_pyIter_enum he ?_
  have I2 : Inv X pins σ H1 { s1 with heap := h' } := I1.kept (t' := s1.toks) hk
  refine ⟨s1.heap.objs.size + 1, [s1.heap.objs.size + 1, s1.heap.objs.size], _, _, H1, rfl, I2, turn_enumT a (s1.heap.objs.size + 1) s1.heap.objs.size (Nat.ne_of_lt hal) (Ne.symm (Nat.ne_of_lt (Nat.lt_succ_of_lt hal))), ⟨⟨.none, he⟩, hit, Nat.succ_ne_self _⟩, fun b hb => ?_, q⟩
  have hle : s1.heap.objs.size ≤ b := by
    rcases (by simpa using hb : b = s1.heap.objs.size + 1 ∨ b = s1.heap.objs.size) with rfl | rfl
    · exact Nat.le_add_right _ _
    · exact Nat.le_refl _
  exact I1.fpOk hle (I1.hok.fresh hle)
section
variable {XT : Xt} {T : Tb} {Γ : Gam} {N : List Str} {X : Cx} {W : WX} {sc : Scope} {K : PySem.W.Frag} {σ : L2.St} {H : Hp} {Q : VK}

theorem evEs_len : ∀ (es : Exs) {ρ : Ev} {st : Sr} {p : List Wv × Sr}, evEs Γ es ρ st = .ok p → p.1.length = es.len
  | .nil, ρ, st, p, h => by
    unfold evEs at h
    cases h; rfl
  | .cons e es, ρ, st, p, h => by
    unfold evEs at h
    obtain ⟨a, _, h⟩ := bind_ok_inv h
    obtain ⟨b, h2, h⟩ := bind_ok_inv h
    cases h
    show b.1.length + 1 = es.len + 1
    rw [evEs_len es h2]
theorem pe_callE {f : Nat} {es : Exs} {x : Str} {y : Expr} {ys : List Expr} {pn pos : Pos} (c : CxOk XT T Γ N X W sc) (hf : T.fns[f]? = some (x, es.len)) (hg : isGl sc x = true) (ha : PA X (y :: ys) (tL XT X.K W (evEs Γ es)))
    (hs : starEach (y :: ys) X.env = (false, eval y X.env) :: starEach ys X.env) (hpl : (backTo pos (starEach ys X.env)).any (·.1) = false) :
    PE X (.Call (.Name x pn) (y :: ys) [] pos) (tW XT X.K W (evE Γ (.call f es))) := by
  obtain ⟨k, a, fd, ps, F, hr, hm, hk, hb, hn⟩ := c.fn f x es.len hf
  refine PE.weak (pe_callSD F hr (c.gl hg) hm hk hb .nil (fun σ => passAt c.takes σ) ha (isGl_gl hg).2 hs hpl) fun σ H Q h => ?_
  obtain ⟨fo, φ, ρ, st, hs, he, h⟩ := h
  unfold evE at h
  refine ⟨fo, φ, ρ, st, hs, he, ?_⟩
  have h2 := Go.of_bind h
  cases e : evEs Γ es ρ st with
  | bad => rw [e] at h2; exact h2
  | exc c fs sx => rw [e] at h2; exact h2
  | ok p =>
    rw [e] at h2
    intro φ' H' s' q' vs rv
    refine ⟨fo, φ', p.2, p.1, q', ?_, evEs_len es e, h2 φ' H' s' q'⟩
    rw [List.append_nil]
    exact rv
theorem pe_call0E {f : Nat} {x : Str} {pn pos : Pos} (c : CxOk XT T Γ N X W sc) (hf : T.fns[f]? = some (x, 0)) (hg : isGl sc x = true) : PE X (.Call (.Name x pn) [] [] pos) (tW XT X.K W (evE Γ (.call0 f))) := by
  obtain ⟨k, a, fd, ps, F, hr, hm, hk, hb, hn⟩ := c.fn f x 0 hf
  refine PE.weak (pe_call0 (E := fun _ _ _ => False) (dvs := []) F hr (c.gl hg) hm hk hb .nil (fun pins σ H s e s' I z => by
    obtain ⟨_, _, _, _, _, _, _, _, _, _, _, _, z⟩ := z
    exact z.elim) (isGl_gl hg).2) fun σ H Q h => ?_
  obtain ⟨fo, φ, ρ, st, hs, he, h⟩ := h
  unfold evE at h
  refine ⟨fo, φ, st, [], hs, .nil, rfl, ?_⟩
  cases e : Γ.call f [] st with
  | ok p => rw [e] at h; exact h
  | exc c fs sx => rw [e] at h; exact h.elim
  | bad => rw [e] at h; exact h
theorem no_star : ∀ {T : Tb} {N : List Str} {sc : Scope} {es : Exs} {ys : List Expr} {pos : Pos} {env : PySem.Env}, chkEs T N sc es ys = true → (backTo pos (starEach ys env)).any (·.1) = false
  | T, N, sc, .nil, [], pos, env, h => rfl
  | T, N, sc, .cons e es, y :: ys, pos, env, h => by
    unfold chkEs at h
    simp only [Bool.and_eq_true] at h
    rw [plainE_star h.1.2]
    have := no_star (T := T) (N := N) (sc := sc) (es := es) (ys := ys) (pos := pos) (env := env) h.2
    show (false || (backTo pos (starEach ys env)).any (·.1)) = false
    rw [this]
    rfl
  | T, N, sc, .nil, _ :: _, pos, env, h => by unfold chkEs at h; cases h
  | T, N, sc, .cons _ _, [], pos, env, h => by unfold chkEs at h; cases h
/-! #### and, or -/
theorem evAnd_one (e : Ex) : evAnd Γ (.cons e .nil) = evE Γ e := by
  funext ρ st
  unfold evAnd
  rfl
theorem evOr_one (e : Ex) : evOr Γ (.cons e .nil) = evE Γ e := by
  funext ρ st
  unfold evOr
  rfl
theorem evAnd_more (e e2 : Ex) (r : Exs) (ρ : Ev) (st : Sr) : evAnd Γ (.cons e (.cons e2 r)) ρ st = (evE Γ e ρ st).bind fun p => (truW p).bind fun t => if t = true then evAnd Γ (.cons e2 r) ρ p.2 else .ok p := by
  rw [evAnd]
  rfl
theorem evOr_more (e e2 : Ex) (r : Exs) (ρ : Ev) (st : Sr) : evOr Γ (.cons e (.cons e2 r)) ρ st = (evE Γ e ρ st).bind fun p => (truW p).bind fun t => if t = true then .ok p else evOr Γ (.cons e2 r) ρ p.2 := by
  rw [evOr]
  rfl
theorem truW_cases (p : Wv × Sr) : truW p = .bad ∨ ∃ k, truW p = .ok k := by
  cases e : truW p with
  | bad => exact .inl rfl
  | ok k => exact .inr ⟨k, rfl⟩
  | exc c fs sx => exact (truW_exc e).elim
theorem pe_andE {e e2 : Ex} {r : Exs} {x y : Expr} {ys : List Expr} {pos : Pos} (ha : PE X x (tW XT X.K W (evE Γ e))) (hb : PE X (.BoolOp .And (y :: ys) pos) (tW XT X.K W (evAnd Γ (.cons e2 r)))) :
    PE X (.BoolOp .And (x :: y :: ys) pos) (tW XT X.K W (evAnd Γ (.cons e (.cons e2 r)))) := by
  refine PE.weak (pe_andT ha hb) fun σ H Q h => ?_
  obtain ⟨fo, φ, ρ, st, hs, he, h⟩ := h
  rw [evAnd_more] at h
  refine ⟨fo, φ, ρ, st, hs, he, (Go.of_bind h).imp fun w st1 φ1 H1 s1 q1 h1 v rv => ?_⟩
  rcases truW_cases (w, st1) with e1 | ⟨k, e1⟩
  · rw [e1] at h1; exact h1.elim
  · rw [e1] at h1
    refine ⟨k, truW_ok q1 rv e1, ?_⟩
    cases k with
    | true => exact ⟨fo, φ1, ρ, st1, q1, he.step s1, h1⟩
    | false => exact (Go.run (a := w) (st := st1) h1 q1) v rv
theorem pe_orE {e e2 : Ex} {r : Exs} {x y : Expr} {ys : List Expr} {pos : Pos} (ha : PE X x (tW XT X.K W (evE Γ e))) (hb : PE X (.BoolOp .Or (y :: ys) pos) (tW XT X.K W (evOr Γ (.cons e2 r)))) :
    PE X (.BoolOp .Or (x :: y :: ys) pos) (tW XT X.K W (evOr Γ (.cons e (.cons e2 r)))) := by
  refine PE.weak (pe_orT ha hb) fun σ H Q h => ?_
  obtain ⟨fo, φ, ρ, st, hs, he, h⟩ := h
  rw [evOr_more] at h
  refine ⟨fo, φ, ρ, st, hs, he, (Go.of_bind h).imp fun w st1 φ1 H1 s1 q1 h1 v rv => ?_⟩
  rcases truW_cases (w, st1) with e1 | ⟨k, e1⟩
  · rw [e1] at h1; exact h1.elim
  · rw [e1] at h1
    refine ⟨k, truW_ok q1 rv e1, ?_⟩
    cases k with
    | false => exact ⟨fo, φ1, ρ, st1, q1, he.step s1, h1⟩
    | true => exact (Go.run (a := w) (st := st1) h1 q1) v rv
/-- a test of and, or: as the truth of the value -/
def evTAnd (Γ : Gam) (es : Exs) (ρ : Ev) (st : Sr) : Rs (Bool × Sr) := (evAnd Γ es ρ st).bind fun p => (truW p).bind fun t => .ok (t, p.2)
def evTOr (Γ : Gam) (es : Exs) (ρ : Ev) (st : Sr) : Rs (Bool × Sr) := (evOr Γ es ρ st).bind fun p => (truW p).bind fun t => .ok (t, p.2)
theorem pw_one {e : Ex} {x : Expr} {op : BoolOp} {pos : Pos} (ha : PT X x (tT XT X.K W (evT Γ e))) : PW X (.BoolOp op [x] pos) (tT XT X.K W (evT Γ e)) := by
  cases op with
  | And => exact pw_and1 ha
  | Or => exact pw_or1 ha
theorem PW.weak {e : Expr} {t t' : TT} (h : PW X e t) (f : ∀ σ H Q, t' σ H Q → t σ H Q) : PW X e t' := ⟨fun wh pins s σ H Q I q => h.run wh pins s σ H Q I (f σ H Q q)⟩
theorem pw_andE {e e2 : Ex} {r : Exs} {x y : Expr} {ys : List Expr} {pos : Pos} (ha : PT X x (tT XT X.K W (evT Γ e))) (hb : PW X (.BoolOp .And (y :: ys) pos) (tT XT X.K W (evTAnd Γ (.cons e2 r)))) :
    PW X (.BoolOp .And (x :: y :: ys) pos) (tT XT X.K W (evTAnd Γ (.cons e (.cons e2 r)))) := by
  refine PW.weak (pw_and ha hb) fun σ H Q h => ?_
  obtain ⟨fo, φ, ρ, st, hs, he, h⟩ := h
  refine ⟨fo, φ, ρ, st, hs, he, ?_⟩
  unfold evTAnd at h
  rw [evAnd_more] at h
  unfold evT
  cases e1 : evE Γ e ρ st with
  | bad => rw [e1] at h; exact h
  | exc c fs sx => rw [e1] at h; exact h
  | ok p =>
    rw [e1] at h
    simp only [Rs.bind_ok] at h ⊢
    rcases truW_cases p with e2 | ⟨k, e2⟩
    · rw [e2] at h; exact False.elim h
    · rw [e2] at h ⊢
      simp only [Rs.bind_ok] at h ⊢
      intro φ' H' s' q'
      cases k with
      | true => exact ⟨fo, φ', ρ, p.2, q', he.step s', Go.at_ h s'⟩
      | false =>
        rw [if_neg Bool.false_ne_true] at h ⊢
        simp only [Rs.bind_ok, e2] at h
        exact Go.run (Go.at_ h s') q'
theorem pw_orE {e e2 : Ex} {r : Exs} {x y : Expr} {ys : List Expr} {pos : Pos} (ha : PT X x (tT XT X.K W (evT Γ e))) (hb : PW X (.BoolOp .Or (y :: ys) pos) (tT XT X.K W (evTOr Γ (.cons e2 r)))) :
    PW X (.BoolOp .Or (x :: y :: ys) pos) (tT XT X.K W (evTOr Γ (.cons e (.cons e2 r)))) := by
  refine PW.weak (pw_or ha hb) fun σ H Q h => ?_
  obtain ⟨fo, φ, ρ, st, hs, he, h⟩ := h
  refine ⟨fo, φ, ρ, st, hs, he, ?_⟩
  unfold evTOr at h
  rw [evOr_more] at h
  unfold evT
  cases e1 : evE Γ e ρ st with
  | bad => rw [e1] at h; exact h
  | exc c fs sx => rw [e1] at h; exact h
  | ok p =>
    rw [e1] at h
    simp only [Rs.bind_ok] at h ⊢
    rcases truW_cases p with e2 | ⟨k, e2⟩
    · rw [e2] at h; exact False.elim h
    · rw [e2] at h ⊢
      simp only [Rs.bind_ok] at h ⊢
      intro φ' H' s' q'
      cases k with
      | false =>
        rw [if_neg Bool.false_ne_true] at h ⊢
        exact ⟨fo, φ', ρ, p.2, q', he.step s', Go.at_ h s'⟩
      | true =>
        rw [if_pos rfl] at h ⊢
        simp only [Rs.bind_ok, e2] at h
        exact Go.run (Go.at_ h s') q'
/-! #### targets -/
def gMany : List Nat → TGs
  | [] => gNil
  | i :: is => gCons (gName i) (gMany is)
def gTg (K : PySem.W.Frag) : Tg → TG
  | .one i => gName i
  | .many is => gTup K is.length (gMany is)
theorem isTg_loc {sc : Scope} {cell : Str → Bool} {x : Str} (h : isTg sc cell x = true) : Loc sc x ∧ (cell x = true ∨ sc.names.lookup x = some .local) := by
  unfold isTg at h
  split at h
  · rename_i e; exact ⟨.inl e, .inr e⟩
  · rename_i e; exact ⟨.inr e, .inl h⟩
  · cases h
theorem pgs_many {cell : Str → Bool} (hn : X.N = N) (nd : X.N.Nodup) (hsc : X.env.scope = sc) (hcell : ∀ x, cell x = true → X.fn x = true) : ∀ {is : List Nat} {es : List Expr}, chkTgs N (isTg sc cell) is es = true →
    PGs X es (gMany is) ∧ (assignEach es X.env).length = is.length ∧ (assignEach es X.env).findIdx? (·.1) = none
  | [], [], _ => ⟨pgs_nil, rfl, rfl⟩
  | i :: is, e :: es, h => by
    cases e with
    | Name x p =>
      unfold chkTgs at h
      simp only [Bool.and_eq_true, decide_eq_true_eq] at h
      obtain ⟨h1, h2, h3⟩ := pgs_many (cell := cell) hn nd hsc hcell h.2
      obtain ⟨l1, l2⟩ := isTg_loc h.1.2
      refine ⟨pgs_cons (pg_name nd (by rw [hn]; exact h.1.1) (by rw [hsc]; exact l1) (by rw [hsc]; exact l2.imp (hcell x) id)) h1 rfl, ?_, ?_⟩
      · show (assignEach es X.env).length + 1 = is.length + 1
        rw [h2]
      · show ((false, assign (.Name x p) X.env) :: assignEach es X.env).findIdx? (·.1) = none
        rw [List.findIdx?_cons]
        simp [h3]
    | _ => unfold chkTgs at h; cases h
  | [], _ :: _, h => by unfold chkTgs at h; cases h
  | _ :: _, [], h => by unfold chkTgs at h; cases h
theorem pg_tg {cell : Str → Bool} (hn : X.N = N) (nd : X.N.Nodup) (hsc : X.env.scope = sc) (hcell : ∀ x, cell x = true → X.fn x = true) (hc : X.calm = true) {tg : Tg} {t : Expr} (h : chkTg N (isTg sc cell) tg t = true) : PG X t (gTg X.K tg) := by
  cases tg with
  | one i =>
    cases t with
    | Name x p =>
      unfold chkTg at h
      simp only [Bool.and_eq_true, decide_eq_true_eq] at h
      obtain ⟨l1, l2⟩ := isTg_loc h.2
      exact pg_name nd (by rw [hn]; exact h.1) (by rw [hsc]; exact l1) (by rw [hsc]; exact l2.imp (hcell x) id)
    | _ => unfold chkTg at h; cases h
  | many is =>
    cases t with
    | Tuple es k p =>
      unfold chkTg at h
      obtain ⟨h1, h2, h3⟩ := pgs_many (cell := cell) hn nd hsc hcell h
      exact pg_tup hc h1 h2 h3
    | _ => unfold chkTg at h; cases h
theorem wipe_set {σ : L2.St} {i : Nat} {v : Option V} : ∀ {vs : List Nat}, i ∈ vs → wipe (σ.set i v) vs = wipe σ vs
  | u :: vs, h => by
    show (wipe (σ.set i v) vs).set u none = (wipe σ vs).set u none
    by_cases hu : i ∈ vs
    · rw [wipe_set hu]
    · rcases List.mem_cons.mp h with rfl | h
      · have : ∀ (ws : List Nat), wipe (σ.set i v) ws = (wipe σ ws).set i v ∨ wipe (σ.set i v) ws = wipe σ ws := by
          intro ws
          induction ws with
          | nil => exact .inl rfl
          | cons w ws ih =>
            show ((wipe (σ.set i v) ws).set w none = ((wipe σ ws).set w none).set i v) ∨ ((wipe (σ.set i v) ws).set w none = (wipe σ ws).set w none)
            by_cases hw : w = i
            · subst hw
              rcases ih with ih | ih
              · right; rw [ih, List.set_set]
              · right; rw [ih]
            · rcases ih with ih | ih
              · left; rw [ih, List.set_comm _ _ (Ne.symm hw)]
              · right; rw [ih]
        rcases this vs with e | e
        · rw [e, List.set_set]
        · rw [e]
      · exact absurd h hu
theorem gMany_ok {fo φ : List Addr} {all : List Nat} {Qs : L2.St → Hp → Prop} : ∀ {is : List Nat} {xs : List Dt} {vs : List V} {ρ ρ' : Ev} {σ : L2.St}, setMany is xs ρ = some ρ' → (∀ i ∈ is, i ∈ all) → EnvOk K fo φ H ρ σ → RepL K (fo ++ φ) H xs vs →
    (∀ σ', EnvOk K fo φ H ρ' σ' → wipe σ' all = wipe σ all → Qs σ' H) → gMany is vs σ H Qs
  | [], [], _, ρ, ρ', σ, e, _, he, .nil, q => by
    cases e
    exact ⟨rfl, q σ he rfl⟩
  | i :: is, x :: xs, _, ρ, ρ', σ, e, ha, he, .cons h r, q => by
    refine ⟨_, _, rfl, ?_⟩
    show gMany is _ (σ.set i (some _)) H Qs
    refine gMany_ok e (fun j hj => ha j (List.mem_cons_of_mem _ hj)) (he.set (w := .d x) h) r fun σ' he' hw => q σ' he' ?_
    rw [hw]
    exact wipe_set (ha i List.mem_cons_self)
  | [], _ :: _, _, _, _, _, e, _, _, _, _ => by cases e
  | _ :: _, [], _, _, _, _, e, _, _, _, _ => by cases e
theorem gMany_len : ∀ {is : List Nat} {xs : List Dt} {ρ ρ' : Ev}, setMany is xs ρ = some ρ' → xs.length = is.length
  | [], [], _, _, _ => rfl
  | i :: is, x :: xs, ρ, ρ', e => by
    show xs.length + 1 = is.length + 1
    rw [gMany_len (ρ := ρ.set i (some (.d x))) e]
  | [], _ :: _, _, _, e => by cases e
  | _ :: _, [], _, _, e => by cases e
theorem gTg_ok {fo φ : List Addr} {tg : Tg} {d : Dt} {v : V} {ρ ρ' : Ev} {Qs : L2.St → Hp → Prop} (e : setTg tg d ρ = some ρ') (he : EnvOk K fo φ H ρ σ) (r : Rep K (fo ++ φ) H d v)
    (q : ∀ σ', EnvOk K fo φ H ρ' σ' → wipe σ' tg.slots = wipe σ tg.slots → Qs σ' H) : gTg K tg v σ H Qs := by
  cases tg with
  | one i =>
    cases e
    exact q _ (he.set (w := .d d) r) (wipe_set (by simp [Tg.slots]))
  | many is =>
    cases d with
    | tup xs =>
      obtain ⟨a, vs, rfl, hs, hr⟩ := r.sqT
      refine ⟨a, vs, rfl, hs, by rw [← hr.length]; exact gMany_len e, gMany_ok e (fun i hi => hi) he hr q⟩
    | _ => cases e
/-! #### walks -/
mutual
theorem sameD_eq : ∀ {x y : Dt}, sameD x y = true → x = y
  | .non, .non, _ => rfl
  | .bl a, .bl b, h => by
    simp only [sameD, beq_iff_eq] at h
    rw [h]
  | .int a, .int b, h => by
    simp only [sameD, beq_iff_eq] at h
    rw [h]
  | .str a, .str b, h => by
    simp only [sameD, beq_iff_eq] at h
    rw [h]
  | .tup a, .tup b, h => by
    simp only [sameD] at h
    rw [sameDs_eq h]
  | .lst a, .lst b, h => by
    simp only [sameD] at h
    rw [sameDs_eq h]
  | .scr a, .scr b, h => by
    simp only [sameD, beq_iff_eq] at h
    rw [h]
  | .non, .bl _, h => by cases h
  | .non, .int _, h => by cases h
  | .non, .str _, h => by cases h
  | .non, .tup _, h => by cases h
  | .non, .lst _, h => by cases h
  | .non, .scr _, h => by cases h
  | .bl _, .non, h => by cases h
  | .bl _, .int _, h => by cases h
  | .bl _, .str _, h => by cases h
  | .bl _, .tup _, h => by cases h
  | .bl _, .lst _, h => by cases h
  | .bl _, .scr _, h => by cases h
  | .int _, .non, h => by cases h
  | .int _, .bl _, h => by cases h
  | .int _, .str _, h => by cases h
  | .int _, .tup _, h => by cases h
  | .int _, .lst _, h => by cases h
  | .int _, .scr _, h => by cases h
  | .str _, .non, h => by cases h
  | .str _, .bl _, h => by cases h
  | .str _, .int _, h => by cases h
  | .str _, .tup _, h => by cases h
  | .str _, .lst _, h => by cases h
  | .str _, .scr _, h => by cases h
  | .tup _, .non, h => by cases h
  | .tup _, .bl _, h => by cases h
  | .tup _, .int _, h => by cases h
  | .tup _, .str _, h => by cases h
  | .tup _, .lst _, h => by cases h
  | .tup _, .scr _, h => by cases h
  | .lst _, .non, h => by cases h
  | .lst _, .bl _, h => by cases h
  | .lst _, .int _, h => by cases h
  | .lst _, .str _, h => by cases h
  | .lst _, .tup _, h => by cases h
  | .lst _, .scr _, h => by cases h
  | .scr _, .non, h => by cases h
  | .scr _, .bl _, h => by cases h
  | .scr _, .int _, h => by cases h
  | .scr _, .str _, h => by cases h
  | .scr _, .tup _, h => by cases h
  | .scr _, .lst _, h => by cases h
theorem sameDs_eq : ∀ {xs ys : List Dt}, sameDs xs ys = true → xs = ys
  | [], [], _ => rfl
  | x :: xs, y :: ys, h => by
    simp only [sameDs, Bool.and_eq_true] at h
    rw [sameD_eq h.1, sameDs_eq h.2]
  | [], _ :: _, h => by cases h
  | _ :: _, [], h => by cases h
end
mutual
theorem sameD_refl : ∀ x : Dt, sameD x x = true
  | .non => rfl
  | .bl _ => by simp [sameD]
  | .int _ => by simp [sameD]
  | .str _ => by simp [sameD]
  | .tup xs => by simp only [sameD]; exact sameDs_refl xs
  | .lst xs => by simp only [sameD]; exact sameDs_refl xs
  | .scr _ => by simp [sameD]
theorem sameDs_refl : ∀ xs : List Dt, sameDs xs xs = true
  | [] => rfl
  | x :: xs => by simp only [sameDs, sameD_refl x, sameDs_refl xs, Bool.and_self]
end
theorem watch_one {n : Nat} {xs : List Dt} {st : Sr} (h : watchOk [(n, xs)] st = true) : st[n]? = some (.lst xs) := by
  unfold watchOk at h
  simp only [List.all_cons, List.all_nil, Bool.and_true] at h
  split at h
  · rename_i ys e
    rw [e, sameDs_eq h]
  · cases h
theorem watch_self {n : Nat} {xs : List Dt} {st : Sr} (h : st[n]? = some (.lst xs)) : watchOk [(n, xs)] st = true := by
  unfold watchOk
  simp only [List.all_cons, List.all_nil, Bool.and_true, h]
  exact sameDs_refl xs
/-- the list that is walked, as it stands at each turn -/
def LivesL (K : PySem.W.Frag) (fo φ₀ : List Addr) (H₀ : Hp) (ws : List (Nat × List Dt)) (xs : List Dt) (a : Addr) : Prop :=
  ∀ fo' φ H st, (∃ t, φ = φ₀ ++ t) → Keeps (fo ++ φ₀) H₀ (fo' ++ φ) H → Sok K fo' φ H st → watchOk ws st = true → ∃ vs, Rd H a (.lst vs) ∧ RepL K (fo' ++ φ) H xs vs
theorem lives_d {fo φ₀ : List Addr} {H₀ : Hp} {xs : List Dt} {vs : List V} {a : Addr} (h : a ∉ fo ++ φ₀) (r : Rd H₀ a (.lst vs)) (e : RepL K (fo ++ φ₀) H₀ xs vs) : LivesL K fo φ₀ H₀ [] xs a := fun fo' φ H st _ s q _ =>
  ⟨vs, (s.rd h r).1, RepL.keep s e⟩
theorem lives_ob {fo φ₀ : List Addr} {H₀ : Hp} {xs : List Dt} {n : Nat} {a : Addr} (h : φ₀[n]? = some a) : LivesL K fo φ₀ H₀ [(n, xs)] xs a := fun fo' φ H st x s q w => by
  obtain ⟨t, rfl⟩ := x
  obtain ⟨vs, e, r⟩ := q.ob n a xs (by rw [List.getElem?_append_left (List.getElem?_eq_some_iff.mp h).1]; exact h) (watch_one w)
  exact ⟨vs, .inl e, r⟩
theorem get_lt {α : Type} {xs : List α} {i : Nat} (h : i < xs.length) : ∃ x, xs[i]? = some x := ⟨xs[i], List.getElem?_eq_getElem h⟩
theorem wk_list {fo φ₀ : List Addr} {H₀ : Hp} {ws : List (Nat × List Dt)} {xs : List Dt} {a : Addr} (h : LivesL K fo φ₀ H₀ ws xs a) : WkOk K fo φ₀ H₀ (Itl K a) (xs, ws) := fun fo' φ H st x s q w => by
  obtain ⟨vs, r, e⟩ := h fo' φ H st x s q w
  have hl := e.length
  refine ⟨fun i hi => ?_, ⟨vs, .inl r, by show vs.length ≤ xs.length; omega⟩, fun i d x H' hd hy => ?_⟩
  · obtain ⟨v, hv⟩ := get_lt (xs := vs) (i := i) (by rw [← hl]; exact hi)
    exact ⟨vs, v, .inl r, hv⟩
  · obtain ⟨rfl, hy⟩ := hy
    obtain ⟨v, e1, r1⟩ := e.get hd
    have := hy vs (.inl r)
    rw [e1] at this
    cases this
    exact ⟨.refl _, r1⟩
theorem wk_tup {fo φ₀ : List Addr} {H₀ : Hp} {xs : List Dt} {a : Addr} (h : Rep K (fo ++ φ₀) H₀ (.tup xs) (.ref a)) : WkOk K fo φ₀ H₀ (Itt K a) (xs, []) := fun fo' φ H st x s q w => by
  obtain ⟨a', vs, e0, r, e⟩ := (Rep.keep s h).sqT
  cases e0
  have hl := e.length
  refine ⟨fun i hi => ?_, ⟨vs, r, by show vs.length ≤ xs.length; omega⟩, fun i d x H' hd hy => ?_⟩
  · obtain ⟨v, hv⟩ := get_lt (xs := vs) (i := i) (by rw [← hl]; exact hi)
    exact ⟨vs, v, r, hv⟩
  · obtain ⟨rfl, hy⟩ := hy
    obtain ⟨v, e1, r1⟩ := e.get hd
    have := hy vs r
    rw [e1] at this
    cases this
    exact ⟨.refl _, r1⟩
theorem wk_str {fo φ₀ : List Addr} {H₀ : Hp} {s : List Nat} (ho : okS s) : WkOk K fo φ₀ H₀ (Its (toS s)) (s.map (fun c => .str [c]), []) := fun fo' φ H st x s' q w => by
  have hl : (toS s).cps.size = s.length := by simp [toS]
  refine ⟨fun i hi => ?_, ?_, fun i d x H' hd hy => ?_⟩
  · show i < (toS s).cps.size
    rw [hl]
    simpa using hi
  · show (toS s).cps.size ≤ (s.map _).length
    rw [hl, List.length_map]
    exact Nat.le_refl _
  · obtain ⟨rfl, c, hc, rfl⟩ := hy
    refine ⟨.refl _, ?_⟩
    rw [List.getElem?_map] at hd
    have e : (toS s).cps[i]? = s[i]? := by simp [toS]
    rw [e] at hc
    rw [hc] at hd
    cases hd
    exact .str [c] ⟨by show 1 ≤ 16777216; decide, fun c' hc' => by
      have : c' = c := by simpa using hc'
      rw [this]; exact ho.2 c (List.mem_of_getElem? hc)⟩
theorem rangeL_len : ∀ (n : Nat) (lo : Int), (rangeL lo n).length = n
  | 0, _ => rfl
  | n + 1, lo => by show (rangeL (lo + 1) n).length + 1 = n + 1; rw [rangeL_len n]
theorem rangeL_get : ∀ (n : Nat) (lo : Int) (i : Nat), i < n → (rangeL lo n)[i]? = some (.int (lo + i))
  | n + 1, lo, 0, _ => by simp [rangeL]
  | n + 1, lo, i + 1, h => by
    show (rangeL (lo + 1) n)[i]? = _
    rw [rangeL_get n (lo + 1) i (by omega)]
    congr 2
    omega
theorem wk_range {fo φ₀ : List Addr} {H₀ : Hp} {lo : Int} {n : Nat} : WkOk K fo φ₀ H₀ (Itr lo n) (rangeL lo n, []) := fun fo' φ H st x s q w => by
  refine ⟨fun i hi => ?_, ?_, fun i d x H' hd hy => ?_⟩
  · show i < n
    rw [rangeL_len] at hi
    exact hi
  · show n ≤ (rangeL lo n).length
    rw [rangeL_len]
    exact Nat.le_refl _
  · obtain ⟨rfl, rfl⟩ := hy
    have hi : i < n := by
      have := (List.getElem?_eq_some_iff.mp hd).1
      rw [rangeL_len] at this
      exact this
    have hd : (rangeL lo n)[i]? = some d := hd
    rw [rangeL_get n lo i hi] at hd
    cases hd
    exact ⟨.refl _, .int _⟩
theorem enumL_len : ∀ (xs : List Dt) (k : Int), (enumL k xs).length = xs.length
  | [], _ => rfl
  | x :: xs, k => by show (enumL (k + 1) xs).length + 1 = xs.length + 1; rw [enumL_len xs]
theorem enumL_get : ∀ (xs : List Dt) (k : Int) (i : Nat) (d : Dt), (enumL k xs)[i]? = some d → ∃ x, xs[i]? = some x ∧ d = .tup [.int (k + i), x]
  | [], k, i, d, h => by simp [enumL] at h
  | x :: xs, k, 0, d, h => by
    simp [enumL] at h
    exact ⟨x, rfl, by rw [← h]; simp⟩
  | x :: xs, k, i + 1, d, h => by
    have h : (enumL (k + 1) xs)[i]? = some d := h
    obtain ⟨y, e, rfl⟩ := enumL_get xs (k + 1) i d h
    refine ⟨y, e, ?_⟩
    congr 3
    omega
theorem wk_enum {fo φ₀ : List Addr} {H₀ : Hp} {ws : List (Nat × List Dt)} {xs : List Dt} {a : Addr} (h : LivesL K fo φ₀ H₀ ws xs a) : WkOk K fo φ₀ H₀ (Ite K a) (enumL 0 xs, ws) := fun fo' φ H st x s q w => by
  obtain ⟨vs, r, e⟩ := h fo' φ H st x s q w
  have hl := e.length
  refine ⟨fun i hi => ?_, ⟨vs, .inl r, by show vs.length ≤ (enumL 0 xs).length; rw [enumL_len]; omega⟩, fun i d x H' hd hy => ?_⟩
  · have hi : i < (enumL 0 xs).length := hi
    rw [enumL_len] at hi
    obtain ⟨v, hv⟩ := get_lt (xs := vs) (i := i) (by rw [← hl]; exact hi)
    exact ⟨vs, v, .inl r, hv⟩
  · obtain ⟨Tn, y, rfl, hT, rfl, hy⟩ := hy
    obtain ⟨dx, e1, rfl⟩ := enumL_get xs 0 i d hd
    obtain ⟨v, e2, r1⟩ := e.get e1
    have := hy vs (.inl r)
    rw [e2] at this
    cases this
    refine ⟨same_new hT, ?_⟩
    have e3 : (0 : Int) + (i : Int) = ((i : Nat) : Int) := by omega
    rw [e3]
    exact rep_newT q.trk hT (.cons (.int _) (.cons r1 .nil))
theorem PI.weak {tg it : Expr} {t t' : TI} (h : PI X tg it t) (f : ∀ σ H R, t' σ H R → t σ H R) : PI X tg it t' := ⟨fun pins s σ H R I q => h.run pins s σ H R I (f σ H R q)⟩
theorem PI.or {tg it : Expr} {t t' : TI} (h : PI X tg it t) (h' : PI X tg it t') : PI X tg it (fun σ H R => t σ H R ∨ t' σ H R) := ⟨fun pins s σ H R I q => q.elim (h.run pins s σ H R I) (h'.run pins s σ H R I)⟩
theorem pi_seq {tg : Expr} {e : Ex} {x : Expr} (ha : PE X x (tW XT X.K W (evE Γ e))) : PI X tg x (tI XT X.K W (evI Γ (.seq e))) := by
  refine PI.weak (PI.or (pi_list ha) (PI.or (pi_tup ha) (pi_str ha))) fun σ H R h => ?_
  obtain ⟨fo, φ, ρ, st, hs, he, h⟩ := h
  unfold evI at h
  cases ev : evE Γ e ρ st with
  | bad => rw [ev] at h; exact False.elim h
  | exc c fs sx => exact .inl ⟨fo, φ, ρ, st, hs, he, by rw [ev] at h ⊢; exact h⟩
  | ok p =>
    rw [ev] at h
    obtain ⟨w, st1⟩ := p
    have h : Go X.K (xwOf XT X.K W σ fo) fo φ H (Rs.ofO (itSeq (w, st1))) (fun p st' φ' H' => ∀ J, WkOk X.K fo φ' H' J p → watchOk p.2 st' = true → R J H') := h
    unfold itSeq at h
    cases w with
    | ob n =>
      dsimp only at h
      split at h
      · rename_i xs e1
        refine .inl ⟨fo, φ, ρ, st, hs, he, ?_⟩
        rw [ev]
        intro φ' H' s' q' v rv
        obtain ⟨a, e2, rfl⟩ := rv
        obtain ⟨vs, e3, r3⟩ := q'.ob n a xs e2 e1
        exact ⟨a, rfl, ⟨vs, .inl (.inl e3)⟩, h φ' H' s' q' _ (wk_list (lives_ob e2)) (watch_self e1)⟩
      · exact False.elim h
    | d x' =>
      dsimp only at h
      cases x' with
      | tup xs =>
        refine .inr (.inl ⟨fo, φ, ρ, st, hs, he, ?_⟩)
        rw [ev]
        intro φ' H' s' q' v rv
        obtain ⟨a, vs, rfl, r, e⟩ := Rep.sqT rv
        exact ⟨a, rfl, ⟨vs, r⟩, h φ' H' s' q' _ (wk_tup rv) rfl⟩
      | lst xs =>
        refine .inl ⟨fo, φ, ρ, st, hs, he, ?_⟩
        rw [ev]
        intro φ' H' s' q' v rv
        cases (show Rep X.K (fo ++ φ') H' (.lst xs) v from rv) with
        | lst hn r e => exact ⟨_, rfl, ⟨_, .inl r⟩, h φ' H' s' q' _ (wk_list (lives_d hn r e)) rfl⟩
      | str s =>
        refine .inr (.inr ⟨fo, φ, ρ, st, hs, he, ?_⟩)
        rw [ev]
        intro φ' H' s' q' v rv
        obtain ⟨rfl, ho⟩ := vstr (Rep.view rv)
        exact ⟨_, rfl, h φ' H' s' q' _ (wk_str ho) rfl⟩
      | non => exact False.elim h
      | scr ns => exact False.elim h
      | bl b => exact False.elim h
      | int i => exact False.elim h
theorem itRng_inv {st : Sr} {i j : Int} {p : Wk} (h : itRng st i j = some p) : (i < 2 ^ 30 ∧ -(2 ^ 30) < i ∧ j < 2 ^ 30 ∧ -(2 ^ 30) < j) ∧ p = ((rangeL i (j - i).toNat, []), st) := by
  unfold itRng at h
  split at h
  · rename_i hc
    cases h
    exact ⟨hc, rfl⟩
  · cases h
theorem pi_rng1 {tg : Expr} {e : Ex} {y : Expr} {pn pos : Pos} (c : CxOk XT T Γ N X W sc) (hg : isGl sc "range" = true) (ha : PE X y (tW XT X.K W (evE Γ e))) (hy : plainE y = true) : PI X tg (.Call (.Name "range" pn) [y] [] pos) (tI XT X.K W (evI Γ (.rng1 e))) := by
  refine PI.weak (pi_range1 (c.gl hg) (c.blt "range" (by decide)) (pa_one ha hy) (plainE_star hy _ _)) fun σ H R h => ?_
  obtain ⟨fo, φ, ρ, st, hs, he, h⟩ := h
  unfold evI at h
  refine ⟨fo, φ, ρ, st, hs, he, (Go.of_bind h).imp fun w st1 φ1 H1 s1 q1 h1 v rv => ?_⟩
  dsimp only at h1
  cases e1 : intW w with
  | none => rw [e1] at h1; exact False.elim h1
  | some j =>
    rw [e1] at h1
    simp only [Option.bind_some] at h1
    cases e2 : itRng st1 0 j with
    | none => rw [e2] at h1; exact False.elim h1
    | some p =>
      rw [e2] at h1
      obtain ⟨hc, rfl⟩ := itRng_inv e2
      cases intW_inv e1
      cases (show Rep X.K (fo ++ φ1) H1 (.int j) v from rv)
      refine ⟨j, rfl, by omega, by omega, ?_⟩
      have e3 : (j - 0).toNat = j.toNat := by omega
      rw [← e3]
      exact (Go.run h1 q1) _ wk_range rfl
theorem pi_rng2 {tg : Expr} {a b : Ex} {y z : Expr} {pn pos : Pos} (c : CxOk XT T Γ N X W sc) (hg : isGl sc "range" = true) (ha : PE X y (tW XT X.K W (evE Γ a))) (hy : plainE y = true) (hb : PE X z (tW XT X.K W (evE Γ b))) (hz : plainE z = true) :
    PI X tg (.Call (.Name "range" pn) [y, z] [] pos) (tI XT X.K W (evI Γ (.rng2 a b))) := by
  refine PI.weak (pi_range2 (c.gl hg) (c.blt "range" (by decide)) (pa_cons ha (pa_one hb hz) (plainE_star hy _ _)) (by rw [plainE_star hy, plainE_star hz]; rfl) (plainE_star hz _ _)) fun σ H R h => ?_
  obtain ⟨fo, φ, ρ, st, hs, he, h⟩ := h
  unfold evI at h
  refine ⟨fo, φ, ρ, st, hs, he, (Go.of_bind h).imp fun w st1 φ1 H1 s1 q1 h1 v rv => ?_⟩
  refine ⟨fo, φ1, ρ, st1, q1, he.step s1, (Go.of_bind h1).imp fun w2 st2 φ2 H2 s2 q2 h2 v2 rv2 => ?_⟩
  dsimp only at h2
  cases e1 : intW w with
  | none => rw [e1] at h2; exact False.elim h2
  | some i =>
    cases e2 : intW w2 with
    | none => rw [e1, e2] at h2; exact False.elim h2
    | some j =>
      rw [e1, e2] at h2
      simp only [Option.bind_some] at h2
      cases e3 : itRng st2 i j with
      | none => rw [e3] at h2; exact False.elim h2
      | some p =>
        rw [e3] at h2
        obtain ⟨hc, rfl⟩ := itRng_inv e3
        cases intW_inv e1
        cases intW_inv e2
        cases (show Rep X.K (fo ++ φ1) H1 (.int i) v from rv)
        cases (show Rep X.K (fo ++ φ2) H2 (.int j) v2 from rv2)
        exact ⟨i, j, rfl, by omega, (Go.run h2 q2) _ wk_range rfl⟩
theorem wk_enumT {fo φ₀ : List Addr} {H₀ : Hp} {xs : List Dt} {a : Addr} (h : Rep K (fo ++ φ₀) H₀ (.tup xs) (.ref a)) : WkOk K fo φ₀ H₀ (IteT K a) (enumL 0 xs, []) := fun fo' φ H st x s q w => by
  obtain ⟨a', vs, e0, r, e⟩ := (Rep.keep s h).sqT
  cases e0
  have hl := e.length
  refine ⟨fun i hi => ?_, ⟨vs, r, by show vs.length = (enumL 0 xs).length; rw [enumL_len]; omega⟩, fun i d x H' hd hy => ?_⟩
  · have hi : i < (enumL 0 xs).length := hi
    rw [enumL_len] at hi
    obtain ⟨v, hv⟩ := get_lt (xs := vs) (i := i) (by rw [← hl]; exact hi)
    exact ⟨vs, v, r, hv⟩
  · obtain ⟨Tn, y, rfl, hT, rfl, hy⟩ := hy
    obtain ⟨dx, e1, rfl⟩ := enumL_get xs 0 i d hd
    obtain ⟨v, e2, r1⟩ := e.get e1
    have := hy vs r
    rw [e2] at this
    cases this
    refine ⟨same_new hT, ?_⟩
    rw [show (0 : Int) + (i : Int) = ((i : Nat) : Int) by omega]
    exact rep_newT q.trk hT (.cons (.int _) (.cons r1 .nil))
theorem pi_enm {e : Ex} {y : Expr} {pn pos tpos : Pos} {elts : List Expr} {kk : Nat} (c : CxOk XT T Γ N X W sc) (hg : isGl sc "enumerate" = true) (ha : PE X y (tW XT X.K W (evE Γ e))) (hy : plainE y = true) :
    PI X (.Tuple elts kk tpos) (.Call (.Name "enumerate" pn) [y] [] pos) (tI XT X.K W (evI Γ (.enm e))) := by
  refine PI.weak (PI.or (pi_enum (c.gl hg) (c.blt "enumerate" (by decide)) (pa_one ha hy) (plainE_star hy _ _)) (pi_enumT (c.gl hg) (c.blt "enumerate" (by decide)) (pa_one ha hy) (plainE_star hy _ _))) fun σ H R h => ?_
  obtain ⟨fo, φ, ρ, st, hs, he, h⟩ := h
  unfold evI at h
  cases ev : evE Γ e ρ st with
  | bad => rw [ev] at h; exact False.elim h
  | exc c' fs sx => exact .inl ⟨fo, φ, ρ, st, hs, he, by rw [ev] at h ⊢; exact h⟩
  | ok p =>
    rw [ev] at h
    obtain ⟨w, st1⟩ := p
    have h : Go X.K (xwOf XT X.K W σ fo) fo φ H (Rs.ofO (itEnm (w, st1))) (fun p st' φ' H' => ∀ J, WkOk X.K fo φ' H' J p → watchOk p.2 st' = true → R J H') := h
    unfold itEnm at h
    cases w with
    | ob n =>
      dsimp only at h
      split at h
      · rename_i xs e1
        refine .inl ⟨fo, φ, ρ, st, hs, he, ?_⟩
        rw [ev]
        intro φ' H' s' q' v rv
        obtain ⟨a, e2, rfl⟩ := rv
        obtain ⟨vs, e3, r3⟩ := q'.ob n a xs e2 e1
        exact ⟨a, vs, rfl, .inl (.inl e3), h φ' H' s' q' _ (wk_enum (lives_ob e2)) (watch_self e1)⟩
      · exact False.elim h
    | d x' =>
      dsimp only at h
      cases x' with
      | tup xs =>
        refine .inr ⟨fo, φ, ρ, st, hs, he, ?_⟩
        rw [ev]
        intro φ' H' s' q' v rv
        obtain ⟨a, vs, rfl, r, e⟩ := Rep.sqT rv
        exact ⟨a, vs, rfl, r, h φ' H' s' q' _ (wk_enumT rv) rfl⟩
      | lst xs =>
        refine .inl ⟨fo, φ, ρ, st, hs, he, ?_⟩
        rw [ev]
        intro φ' H' s' q' v rv
        cases (show Rep X.K (fo ++ φ') H' (.lst xs) v from rv) with
        | lst hn r e => exact ⟨_, _, rfl, .inl r, h φ' H' s' q' _ (wk_enum (lives_d hn r e)) rfl⟩
      | non => exact False.elim h
      | scr ns => exact False.elim h
      | bl b => exact False.elim h
      | int i => exact False.elim h
      | str s => exact False.elim h
theorem zipL_len : ∀ xs ys : List Dt, (zipL xs ys).length = min xs.length ys.length
  | [], _ => by simp [zipL]
  | _ :: _, [] => by simp [zipL]
  | x :: xs, y :: ys => by
    show (zipL xs ys).length + 1 = min (xs.length + 1) (ys.length + 1)
    rw [zipL_len xs ys]
    omega
theorem zipL_get : ∀ (xs ys : List Dt) (i : Nat) (d : Dt), (zipL xs ys)[i]? = some d → ∃ x y, xs[i]? = some x ∧ ys[i]? = some y ∧ d = .tup [x, y]
  | [], _, i, d, h => by simp [zipL] at h
  | _ :: _, [], i, d, h => by simp [zipL] at h
  | x :: xs, y :: ys, 0, d, h => by
    simp [zipL] at h
    exact ⟨x, y, rfl, rfl, h.symm⟩
  | x :: xs, y :: ys, i + 1, d, h => by
    have h : (zipL xs ys)[i]? = some d := h
    obtain ⟨u, v, e1, e2, e3⟩ := zipL_get xs ys i d h
    exact ⟨u, v, e1, e2, e3⟩
theorem wk_zip {fo φ₀ : List Addr} {H₀ : Hp} {xs ys : List Dt} {a b : Addr} (h : Rep K (fo ++ φ₀) H₀ (.tup xs) (.ref a)) (h2 : Rep K (fo ++ φ₀) H₀ (.tup ys) (.ref b)) : WkOk K fo φ₀ H₀ (RZ.ItzT K a b) (zipL xs ys, []) := fun fo' φ H st x s q w => by
  obtain ⟨a', vs, e0, r, e⟩ := (Rep.keep s h).sqT
  cases e0
  obtain ⟨b', us, e0, r2, e2⟩ := (Rep.keep s h2).sqT
  cases e0
  have hl := e.length
  have hl2 := e2.length
  refine ⟨fun i hi => ?_, ⟨vs, us, r, r2, ?_⟩, fun i d x H' hd hy => ?_⟩
  · have hi : i < (zipL xs ys).length := hi
    rw [zipL_len] at hi
    obtain ⟨v, hv⟩ := get_lt (xs := vs) (i := i) (by omega)
    obtain ⟨u, hu⟩ := get_lt (xs := us) (i := i) (by omega)
    exact ⟨vs, us, v, u, r, r2, hv, hu⟩
  · show vs.length ≤ (zipL xs ys).length ∨ us.length ≤ (zipL xs ys).length
    rw [zipL_len]
    omega
  · obtain ⟨T, x1, y1, rfl, hT, rfl, g1, g2⟩ := hy
    obtain ⟨dx, dy, d1, d2, rfl⟩ := zipL_get xs ys i d hd
    obtain ⟨v, f1, r1⟩ := e.get d1
    obtain ⟨u, f2, r3⟩ := e2.get d2
    have a1 := g1 vs r
    have a2 := g2 us r2
    rw [f1] at a1
    rw [f2] at a2
    cases a1
    cases a2
    exact ⟨same_new hT, rep_newT q.trk hT (.cons r1 (.cons r3 .nil))⟩
theorem pi_zipE {a b : Ex} {y z : Expr} {pn pos tpos : Pos} {elts : List Expr} {kk : Nat} (c : CxOk XT T Γ N X W sc) (hg : isGl sc "zip" = true) (ha : PE X y (tW XT X.K W (evE Γ a))) (hy : plainE y = true) (hb : PE X z (tW XT X.K W (evE Γ b))) (hz : plainE z = true) :
    PI X (.Tuple elts kk tpos) (.Call (.Name "zip" pn) [y, z] [] pos) (tI XT X.K W (evI Γ (.zip a b))) := by
  refine PI.weak (RZ.pi_zipA (c.gl hg) (c.blt "zip" (by decide)) (pa_cons ha (pa_one hb hz) (plainE_star hy _ _)) (by rw [plainE_star hy]) (by rw [plainE_star hz]; rfl)) fun σ H R h => ?_
  obtain ⟨fo, φ, ρ, st, hs, he, h⟩ := h
  unfold evI at h
  refine ⟨fo, φ, ρ, st, hs, he, (Go.of_bind h).imp fun w st1 φ1 H1 s1 q1 h1 v rv => ?_⟩
  refine ⟨fo, φ1, ρ, st1, q1, he.step s1, (Go.of_bind h1).imp fun w2 st2 φ2 H2 s2 q2 h2 v2 rv2 => ?_⟩
  dsimp only at h2
  unfold itZip at h2
  split at h2
  · rename_i xs ys e1
    have rv' := rv.step s2
    obtain ⟨p, vs, rfl, r, e⟩ := Rep.sqT rv'
    have e1' : w2 = .d (.tup ys) := e1
    subst e1'
    obtain ⟨p2, us, rfl, r2, e2⟩ := Rep.sqT rv2
    exact ⟨p, p2, vs, us, rfl, .inr ⟨r, r2, (Go.run h2 q2) _ (wk_zip rv' rv2) rfl⟩⟩
  · exact False.elim h2
end
end PB

set_option Elab.async false
set_option linter.all false
set_option maxRecDepth 100000
set_option maxHeartbeats 4000000
set_option backward.match.sparseCases false
/-! A list comprehension keeps its meaning. -/
namespace PB
open PySem PySem.Spec PyProof.Rows L2
/-- the heap without one place -/
def er (D : Addr) (H : Hp) : Hp := fun b => if b = D then none else H b
theorem er_ne {D b : Addr} {H : Hp} (h : b ≠ D) : er D H b = H b := if_neg h
theorem er_at {D : Addr} {H : Hp} : er D H D = none := if_pos rfl
theorem er_some {D b : Addr} {H : Hp} {o : HO} (h : er D H b = some o) : b ≠ D ∧ H b = some o := by
  by_cases e : b = D
  · subst e; rw [er_at] at h; cases h
  · rw [er_ne e] at h; exact ⟨e, h⟩
theorem upd_er {D : Addr} {H : Hp} {o : HO} (h : H D = some o) : upd (er D H) D o = H := by
  funext b
  by_cases e : b = D
  · subst e; rw [upd_same]; exact h.symm
  · rw [upd_ne e, er_ne e]
theorem er_upd {D : Addr} {H : Hp} {o : HO} : er D (upd H D o) = er D H := by
  funext b
  by_cases e : b = D
  · subst e; rw [er_at, er_at]
  · rw [er_ne e, er_ne e, upd_ne e]
theorem er_none {D : Addr} {H : Hp} (h : H D = none) : er D H = H := by
  funext b
  by_cases e : b = D
  · subst e; rw [er_at]; exact h.symm
  · rw [er_ne e]
section
variable {XT : Xt} {T : Tb} {Γ : Gam} {N : List Str} {X : Cx} {W : WX} {sc : Scope} {K : PySem.W.Frag} {σ : L2.St} {H H1 H2 : Hp} {Q : VK} {fo φ φ1 : List Addr} {D : Addr} {st : Sr}
theorem Step.er (a : Step φ H φ1 H1) : Step φ (er D H) φ1 (PB.er D H1) := ⟨a.ext, fun b o n e => by
  obtain ⟨h1, h2⟩ := er_some e
  obtain ⟨h3, h4⟩ := a.keep b o n h2
  exact ⟨by rw [er_ne h1]; exact h3, h4⟩⟩
/-- a new place is put aside -/
theorem Sok.aside {o : HO} (s : Sok K fo φ H st) (h : H D = none) : Sok K (D :: fo) φ (upd H D o) st := by
  have kp : Keeps (fo ++ φ) H (D :: fo ++ φ) (upd H D o) := fun b u n e => by
    have hb : b ≠ D := ne_of_none e h
    refine ⟨by rw [upd_ne hb]; exact e, ?_⟩
    rw [List.cons_append, List.mem_cons, not_or]
    exact ⟨hb, n⟩
  refine ⟨s.len, s.nd, fun a ha => ?_, fun a ha => ?_, fun n a xs e1 e2 => ?_⟩
  · rcases List.mem_cons.mp ha with rfl | ha
    · exact ⟨o, upd_same⟩
    · obtain ⟨u, e⟩ := s.ft a ha
      exact ⟨u, by rw [upd_ne (ne_of_none e h)]; exact e⟩
  · rw [List.mem_cons, not_or]
    refine ⟨fun e => ?_, s.dj a ha⟩
    obtain ⟨u, e2⟩ := s.trk a (List.mem_append_right _ ha)
    rw [e, h] at e2; cases e2
  · obtain ⟨vs, e3, r⟩ := s.ob n a xs e1 e2
    exact ⟨vs, by rw [upd_ne (ne_of_none e3 h)]; exact e3, RepL.keep kp r⟩
theorem aside_keeps {o : HO} (h : H D = none) : Keeps (fo ++ φ) H (D :: fo ++ φ) (upd H D o) := fun b u n e => by
  have hb : b ≠ D := ne_of_none e h
  refine ⟨by rw [upd_ne hb]; exact e, ?_⟩
  rw [List.cons_append, List.mem_cons, not_or]
  exact ⟨hb, n⟩
theorem EnvOk.keeps {fo' : List Addr} {ρ : Ev} (k : Keeps (fo ++ φ) H (fo' ++ φ) H1) (h : EnvOk K fo φ H ρ σ) : EnvOk K fo' φ H1 ρ σ := ⟨h.len, fun i w e => by
  obtain ⟨v, e1, r⟩ := h.at_ i w e
  refine ⟨v, e1, ?_⟩
  cases w with
  | d x => exact Rep.keep k r
  | ob n => exact r⟩
/-- the place that was put aside changes -/
theorem Sok.change {o : HO} (s : Sok K (D :: fo) φ H st) : Sok K (D :: fo) φ (upd H D o) st := by
  have kp : Keeps (D :: fo ++ φ) H (D :: fo ++ φ) (upd H D o) := fun b u n e => by
    have hb : b ≠ D := fun z => n (by rw [z]; exact List.mem_cons_self)
    exact ⟨by rw [upd_ne hb]; exact e, n⟩
  refine ⟨s.len, s.nd, fun a ha => ?_, s.dj, fun n a xs e1 e2 => ?_⟩
  · by_cases hb : a = D
    · subst hb; exact ⟨o, upd_same⟩
    · obtain ⟨u, e⟩ := s.ft a ha
      exact ⟨u, by rw [upd_ne hb]; exact e⟩
  · obtain ⟨vs, e3, r⟩ := s.ob n a xs e1 e2
    have hb : a ≠ D := fun z => s.dj a (List.mem_of_getElem? e1) (by rw [z]; exact List.mem_cons_self)
    exact ⟨vs, by rw [upd_ne hb]; exact e3, RepL.keep kp r⟩
theorem change_keeps {o : HO} : Keeps (D :: fo ++ φ) H (D :: fo ++ φ) (upd H D o) := fun b u n e => by
  have hb : b ≠ D := fun z => n (by rw [z]; exact List.mem_cons_self)
  exact ⟨by rw [upd_ne hb]; exact e, n⟩
/-- .. and comes back -/
theorem back_keeps : Keeps (D :: fo ++ φ) H (fo ++ φ) (er D H) := fun b u n e => by
  rw [List.cons_append, List.mem_cons, not_or] at n
  exact ⟨by rw [er_ne n.1]; exact e, n.2⟩
theorem Sok.back (s : Sok K (D :: fo) φ H st) (hD : D ∉ fo) : Sok K fo φ (er D H) st := by
  refine ⟨s.len, s.nd, fun a ha => ?_, fun a ha z => s.dj a ha (List.mem_cons_of_mem _ z), fun n a xs e1 e2 => ?_⟩
  · obtain ⟨u, e⟩ := s.ft a (List.mem_cons_of_mem _ ha)
    exact ⟨u, by rw [er_ne (fun z => hD (by rw [← z]; exact ha))]; exact e⟩
  · obtain ⟨vs, e3, r⟩ := s.ob n a xs e1 e2
    have hb : a ≠ D := fun z => s.dj a (List.mem_of_getElem? e1) (by rw [z]; exact List.mem_cons_self)
    exact ⟨vs, by rw [er_ne hb]; exact e3, RepL.keep back_keeps r⟩
theorem wipe_wipe : ∀ (vs us : List Nat), wipe (wipe σ us) vs = wipe (wipe σ vs) us
  | [], us => rfl
  | v :: vs, us => by
    show (wipe (wipe σ us) vs).set v none = wipe ((wipe σ vs).set v none) us
    rw [wipe_wipe vs us]
    have : ∀ (τ : L2.St) (ws : List Nat), (wipe τ ws).set v none = wipe (τ.set v none) ws := by
      intro τ ws
      induction ws with
      | nil => rfl
      | cons w ws ih =>
        show ((wipe τ ws).set w none).set v none = (wipe (τ.set v none) ws).set w none
        rw [← ih]
        by_cases e : w = v
        · subst e; rfl
        · exact List.set_comm _ _ e
    exact this _ _
theorem set_wipe {v : Nat} : ∀ {vs : List Nat}, v ∈ vs → (wipe σ vs).set v none = wipe σ vs
  | w :: vs, h => by
    show ((wipe σ vs).set w none).set v none = (wipe σ vs).set w none
    by_cases e : w = v
    · subst e; rw [List.set_set]
    · rcases List.mem_cons.mp h with z | h
      · exact absurd z.symm e
      · rw [List.set_comm _ _ e, set_wipe h]
theorem wipe_idem (vs : List Nat) : wipe (wipe σ vs) vs = wipe σ vs := by
  have : ∀ (us : List Nat), (∀ u ∈ us, u ∈ vs) → wipe (wipe σ vs) us = wipe σ vs := by
    intro us
    induction us with
    | nil => intro _; rfl
    | cons u us ih =>
      intro h
      show (wipe (wipe σ vs) us).set u none = wipe σ vs
      rw [ih fun w hw => h w (List.mem_cons_of_mem _ hw)]
      exact set_wipe (h u List.mem_cons_self)
  exact this vs fun _ h => h
theorem lcTurn_exc {ifs : Ev → Sr → Rs (Bool × Sr)} {elt : Ev → Sr → Rs (Wv × Sr)} {tg : Tg} {ρ : Ev} {d : Dt} {c : Nat} {fs : List Dt} {sx : Sr} (h : lcTurn ifs elt tg ρ d st = .exc c fs sx) : False := by
  unfold lcTurn at h
  cases e : setTg tg d (wipeE ρ tg.slots) with
  | none => rw [e] at h; cases h
  | some ρ' =>
    rw [e] at h
    simp only [Rs.ofO_some, Rs.bind_ok] at h
    unfold noExc at h
    split at h <;> cases h
theorem lcL_exc {ws : List (Nat × List Dt)} {f : Dt → Sr → Rs (Option Dt × Sr)} (hf : ∀ d st c fs sx, f d st ≠ .exc c fs sx) : ∀ (xs : List Dt) (st : Sr) (c : Nat) (fs : List Dt) (sx : Sr), lcL ws f xs st ≠ .exc c fs sx
  | [], st, c, fs, sx, h => by cases h
  | x :: xs, st, c, fs, sx, h => by
    unfold lcL at h
    cases e : f x st with
    | bad => rw [e] at h; cases h
    | exc c' fs' sx' => exact hf _ _ _ _ _ e
    | ok p =>
      rw [e] at h
      simp only [Rs.bind_ok] at h
      split at h
      · cases e2 : lcL ws f xs p.2 with
        | bad => rw [e2] at h; cases h
        | exc c' fs' sx' => exact lcL_exc hf _ _ _ _ _ e2
        | ok q => rw [e2] at h; cases h
      · cases h
/-- what a turn gives: the tests' answer, the item -/
theorem lcTurn_inv {ifs : Ev → Sr → Rs (Bool × Sr)} {elt : Ev → Sr → Rs (Wv × Sr)} {tg : Tg} {ρ : Ev} {d : Dt} {p : Option Dt × Sr} (h : lcTurn ifs elt tg ρ d st = .ok p) :
    ∃ ρ', setTg tg d (wipeE ρ tg.slots) = some ρ' ∧ ∃ b st3, ifs ρ' st = .ok (b, st3) ∧ ((b = false ∧ p = (none, st3)) ∨ (b = true ∧ ∃ y st4, elt ρ' st3 = .ok (.d y, st4) ∧ p = (some y, st4))) := by
  unfold lcTurn at h
  cases e : setTg tg d (wipeE ρ tg.slots) with
  | none => rw [e] at h; cases h
  | some ρ' =>
    rw [e] at h
    simp only [Rs.ofO_some, Rs.bind_ok] at h
    refine ⟨ρ', rfl, ?_⟩
    cases e2 : ifs ρ' st with
    | bad => rw [e2] at h; cases h
    | exc c fs sx => rw [e2] at h; cases h
    | ok q =>
      rw [e2] at h
      obtain ⟨b, st3⟩ := q
      refine ⟨b, st3, rfl, ?_⟩
      simp only [Rs.bind_ok] at h
      cases b with
      | false =>
        rw [if_neg Bool.false_ne_true] at h
        cases h
        exact .inl ⟨rfl, rfl⟩
      | true =>
        rw [if_pos rfl] at h
        refine .inr ⟨rfl, ?_⟩
        cases e3 : elt ρ' st3 with
        | bad => rw [e3] at h; cases h
        | exc c fs sx => rw [e3] at h; cases h
        | ok r =>
          rw [e3] at h
          obtain ⟨w, st4⟩ := r
          cases w with
          | d y =>
            cases h
            exact ⟨y, st4, rfl, rfl⟩
          | ob n => cases h
/-- no exception leaves a block -/
abbrev W0 : WX := fun _ _ _ _ => False
theorem lc_read {it : Ev → Sr → Rs Wk} {ifs : Ev → Sr → Rs (Bool × Sr)} {elt : Ev → Sr → Rs (Wv × Sr)} {tg : Tg}
    (h : tF XT K W (fun ρ st => (it ρ st).bind fun p => (lcL p.1.2 (lcTurn ifs elt tg ρ) p.1.1 p.2).bind lcEnd) σ H Q) : tLc (tI XT K W it) (gTg K tg) (tT XT K W0 ifs) (tW XT K W0 elt) tg.slots σ H Q := by
  obtain ⟨fo, φ, ρ, st, hs, he, h⟩ := h
  refine ⟨fo, φ, ρ, st, hs, he, (Go.of_bind h).imp fun p st1 φ1 H1 s1 q1 h1 J wk wo => ?_⟩
  obtain ⟨items, ws⟩ := p
  dsimp only at h1 wo
  intro D hD
  have hDf : D ∉ fo := fun z => by
    obtain ⟨o, e⟩ := q1.ft D z
    rw [hD] at e; cases e
  have nex : ∀ d st c fs sx, lcTurn ifs elt tg ρ d st ≠ .exc c fs sx := fun d st c fs sx e => lcTurn_exc e
  refine ⟨fun i m H => m = items.length - i ∧ i ≤ items.length ∧ ∃ φ st acc vs, Sok K (D :: fo) φ H st ∧ EnvOk K (D :: fo) φ H ρ σ ∧ (∃ t, φ = φ1 ++ t) ∧ Keeps (fo ++ φ1) H1 (D :: fo ++ φ) H ∧ watchOk ws st = true ∧ H D = some (.lst vs) ∧
      RepL K (D :: fo ++ φ) H acc vs ∧ Go K (xwOf XT K W σ fo) fo φ (er D H) ((lcL ws (lcTurn ifs elt tg ρ) (items.drop i) st).bind fun q => lcEnd (acc ++ q.1, q.2))
        (fun w st' φ' H' => ∀ xs vs p, w = .d (.lst xs) → H' p = none → RepL K (fo ++ φ') H' xs vs → Q (.ref p) (upd H' p (.lst vs))),
    ⟨items.length, by simp, Nat.zero_le _, φ1, st1, [], [], q1.aside hD, (he.step s1).keeps (aside_keeps hD), ⟨[], by simp⟩, aside_keeps hD, wo, upd_same, .nil, ?_⟩, ?_⟩
  · rw [er_upd, er_none hD, List.drop_zero]
    simp only [List.nil_append]
    exact h1
  · rintro i m H ⟨rfl, hi, φ, st, acc, vs, q, en, ex, kp, wo, hDv, racc, hg⟩
    obtain ⟨w1, w2, w3⟩ := wk (D :: fo) φ H st ex kp q wo
    by_cases hlt : i < items.length
    · obtain ⟨d, hd⟩ := get_lt hlt
      have hdrop : items.drop i = d :: items.drop (i + 1) := by
        rw [List.drop_eq_getElem_cons hlt]
        congr 1
        exact Option.some.inj ((List.getElem?_eq_getElem hlt).symm.trans hd)
      rw [hdrop] at hg
      have hne : lcL ws (lcTurn ifs elt tg ρ) (d :: items.drop (i + 1)) st = (lcTurn ifs elt tg ρ d st).bind fun p => if watchOk ws p.2 = true then (lcL ws (lcTurn ifs elt tg ρ) (items.drop (i + 1)) p.2).bind fun q => .ok (consO p.1 q.1, q.2) else .bad := by
        rw [lcL]
      rw [hne] at hg
      cases et : lcTurn ifs elt tg ρ d st with
      | bad => rw [et] at hg; exact False.elim hg
      | exc c fs sx => exact (nex _ _ _ _ _ et).elim
      | ok p =>
        rw [et] at hg
        simp only [Rs.bind_ok] at hg
        by_cases hw : watchOk ws p.2 = true
        · rw [if_pos hw] at hg
          obtain ⟨ρ', es, b, st3, ei, hb⟩ := lcTurn_inv et
          refine .inr ⟨w1 i hlt, fun H' => items.length - (i + 1) = items.length - (i + 1) ∧ i + 1 ≤ items.length ∧ ∃ φ st acc vs, Sok K (D :: fo) φ H' st ∧ EnvOk K (D :: fo) φ H' ρ σ ∧ (∃ t, φ = φ1 ++ t) ∧ Keeps (fo ++ φ1) H1 (D :: fo ++ φ) H' ∧ watchOk ws st = true ∧ H' D = some (.lst vs) ∧
      RepL K (D :: fo ++ φ) H' acc vs ∧ Go K (xwOf XT K W σ fo) fo φ (er D H') ((lcL ws (lcTurn ifs elt tg ρ) (items.drop (i + 1)) st).bind fun q => lcEnd (acc ++ q.1, q.2))
        (fun w st' φ' H' => ∀ xs vs p, w = .d (.lst xs) → H' p = none → RepL K (fo ++ φ') H' xs vs → Q (.ref p) (upd H' p (.lst vs))), fun H' hN => ⟨_, by omega, hN⟩, fun x H' hy => ?_⟩
          obtain ⟨sm, rx⟩ := w3 i d x H' hd hy
          have sm' : Step φ H φ H' := Step.same sm
          have qn := q.same sm
          have en2 : EnvOk K (D :: fo) φ H' (wipeE ρ tg.slots) (wipe σ tg.slots) := (en.step sm').wiped _
          refine gTg_ok es en2 rx fun σ2 en3 hwp => ⟨by rw [hwp, wipe_idem], ?_⟩
          refine ⟨D :: fo, φ, ρ', st, qn, en3, ?_⟩
          rw [ei]
          intro φ3 H3 s3 q3
          have s03 : Step φ H φ3 H3 := sm'.trans s3
          have hDφ : D ∉ φ := fun z => q.dj D z List.mem_cons_self
          have hD3 : H3 D = some (.lst vs) := (s03.keep D _ hDφ hDv).1
          have ex3 : ∃ t, φ3 = φ1 ++ t := by
            obtain ⟨t, e1⟩ := ex
            obtain ⟨u, e2⟩ := s03.ext
            exact ⟨t ++ u, by rw [e2, e1, List.append_assoc]⟩
          have kp3 : Keeps (fo ++ φ1) H1 (D :: fo ++ φ3) H3 := kp.trans (s03.keeps (fo := D :: fo))
          rcases hb with ⟨rfl, rfl⟩ | ⟨rfl, y, st4, ee, rfl⟩
          · refine iteF ⟨rfl, hlt, φ3, st3, acc, vs, q3, en.step s03, ex3, kp3, hw, hD3, RepL.keep (s03.keeps (fo := D :: fo)) racc, ?_⟩
            refine Go.at_ (φ := φ) (H := er D H) ?_ s03.er
            have : ((lcL ws (lcTurn ifs elt tg ρ) (items.drop (i + 1)) st3).bind fun q => Rs.ok (consO none q.1, q.2)) = lcL ws (lcTurn ifs elt tg ρ) (items.drop (i + 1)) st3 := by
              cases lcL ws (lcTurn ifs elt tg ρ) (items.drop (i + 1)) st3 <;> rfl
            dsimp only at hg
            rw [this] at hg
            exact hg
          · refine iteT ⟨D :: fo, φ3, ρ', st3, q3, en3.step s3, ?_⟩
            rw [ee]
            intro φ4 H4 s4 q4 v rv
            have s04 : Step φ H φ4 H4 := s03.trans s4
            have hD4 : H4 D = some (.lst vs) := (s04.keep D _ hDφ hDv).1
            have ex4 : ∃ t, φ4 = φ1 ++ t := by
              obtain ⟨t, e1⟩ := ex
              obtain ⟨u, e2⟩ := s04.ext
              exact ⟨t ++ u, by rw [e2, e1, List.append_assoc]⟩
            have kp4 : Keeps (fo ++ φ1) H1 (D :: fo ++ φ4) (upd H4 D (.lst (vs ++ [v]))) := (kp.trans (s04.keeps (fo := D :: fo))).trans change_keeps
            dsimp only at hg hw
            have hg2 : Go K (xwOf XT K W σ fo) fo φ (er D H) ((lcL ws (lcTurn ifs elt tg ρ) (items.drop (i + 1)) st4).bind fun q => lcEnd ((acc ++ [y]) ++ q.1, q.2)) (fun w st' φ' H' => ∀ xs vs p, w = .d (.lst xs) → H' p = none → RepL K (fo ++ φ') H' xs vs → Q (.ref p) (upd H' p (.lst vs))) := by
              cases el : lcL ws (lcTurn ifs elt tg ρ) (items.drop (i + 1)) st4 with
              | bad => rw [el] at hg; exact hg
              | exc c fs sx => exact (lcL_exc nex _ _ _ _ _ el).elim
              | ok r =>
                rw [el] at hg
                simp only [Rs.bind_ok, consO, List.append_assoc, List.singleton_append] at hg ⊢
                exact hg
            refine ⟨vs, hD4, ?_, rfl, hlt, φ4, st4, acc ++ [y], vs ++ [v], q4.change, (en.step s04).keeps change_keeps, ex4, kp4, hw, upd_same, ?_, ?_⟩
            · rw [← racc.length, ← lim_eq]
              cases el : lcL ws (lcTurn ifs elt tg ρ) (items.drop (i + 1)) st4 with
              | bad => rw [el] at hg2; exact False.elim hg2
              | exc c fs sx => exact (lcL_exc nex _ _ _ _ _ el).elim
              | ok r =>
                rw [el] at hg2
                simp only [Rs.bind_ok] at hg2
                unfold lcEnd at hg2
                split at hg2
                · rename_i hl
                  simp only [List.length_append, List.length_singleton] at hl
                  omega
                · exact False.elim hg2
            · exact RepL.keep change_keeps ((RepL.keep (s04.keeps (fo := D :: fo)) racc).append (.cons rv .nil))
            · rw [er_upd]
              exact Go.at_ hg2 s04.er
        · rw [if_neg hw] at hg
          exact False.elim hg
    · have ei : i = items.length := by omega
      subst ei
      refine .inl ⟨w2, ?_⟩
      rw [List.drop_length] at hg
      have e0 : lcL ws (lcTurn ifs elt tg ρ) [] st = .ok ([], st) := by rw [lcL]
      rw [e0] at hg
      simp only [Rs.bind_ok, List.append_nil] at hg
      unfold lcEnd at hg
      split at hg
      · have := (Go.run hg (q.back hDf)) acc vs D rfl er_at (RepL.keep back_keeps racc)
        rw [upd_er hDv] at this
        exact this
      · exact False.elim hg
/-! #### the block's context -/
theorem CxOk.blk (c : CxOk XT T Γ N X W sc) (s : Shared) (H : Hp) (C : Addr) (cl : List (Str × Addr)) (fp : List Addr) (scope : Scope) : CxOk XT T Γ N (X.blk s H scope (compEnvC scope cl C X.env) fp) W0 (relS scope sc) := by
  refine ⟨c.n, c.nd, ?_, c.calm, c.units, takes0, c.glob, c.blt, c.xc, c.fn⟩
  show relS scope X.env.scope = _
  rw [c.scope]
theorem own_slots {cell : Str → Bool} : ∀ {is : List Nat} {es : List Expr}, chkTgs N (isTg sc cell) is es = true → ((es.zip is).map fun p => ((match p.1 with | .Name x _ => x | _ => ("" : Str)), p.2)).map (·.2) = is
  | [], [], _ => rfl
  | i :: is, e :: es, h => by
    cases e with
    | Name x p =>
      unfold chkTgs at h
      simp only [Bool.and_eq_true] at h
      show i :: _ = i :: is
      congr 1
      exact own_slots h.2
    | _ => unfold chkTgs at h; cases h
  | [], _ :: _, h => by unfold chkTgs at h; cases h
  | _ :: _, [], h => by unfold chkTgs at h; cases h
theorem ownOf_slots {cell : Str → Bool} {tg : Tg} {t : Expr} (h : chkTg N (isTg sc cell) tg t = true) : (ownOf tg t).map (·.2) = tg.slots := by
  cases tg with
  | one i =>
    cases t with
    | Name x p => rfl
    | _ => unfold chkTg at h; cases h
  | many is =>
    cases t with
    | Tuple es k p =>
      unfold chkTg at h
      exact own_slots h
    | _ => unfold chkTg at h; cases h
theorem pts_E {ifs : Exs} {cs : List Expr} (h : ∀ e x, ifs = .cons e .nil → cs = [x] → PT X x (tT XT X.K W (evT Γ e))) (hn : (ifs = .nil ∧ cs = []) ∨ (∃ e x, ifs = .cons e .nil ∧ cs = [x]) ∨ ∃ e e2 r, ifs = .cons e (.cons e2 r)) : ∃ tt, PTs X cs tt ∧ ∀ σ H Q, tT XT X.K W (evIfs Γ ifs) σ H Q → tt σ H Q := by
  rcases hn with ⟨rfl, rfl⟩ | ⟨e, x, rfl, rfl⟩ | ⟨e, e2, r, rfl⟩
  · refine ⟨_, pts_nil, fun σ H Q h => ?_⟩
    obtain ⟨fo, φ, ρ, st, hs, he, h⟩ := h
    unfold evIfs at h
    exact Go.run h hs
  · refine ⟨_, pts_one (h e x rfl rfl), fun σ H Q h => ?_⟩
    obtain ⟨fo, φ, ρ, st, hs, he, h⟩ := h
    refine ⟨fo, φ, ρ, st, hs, he, ?_⟩
    unfold evIfs at h
    exact h
  · refine ⟨fun _ _ _ => False, ⟨fun _ _ _ _ _ _ q => q.elim⟩, fun σ H Q h => ?_⟩
    obtain ⟨fo, φ, ρ, st, hs, he, h⟩ := h
    unfold evIfs at h
    exact False.elim h
end
end PB

set_option Elab.async false
set_option linter.all false
set_option maxRecDepth 100000
set_option maxHeartbeats 4000000
set_option backward.match.sparseCases false
/-! Expressions keep their meaning. -/
namespace PB
open PySem PySem.Spec PyProof.Rows L2
section
variable {XT : Xt} {T : Tb} {Γ : Gam} {N : List Str}
theorem pe_lcF {X : Cx} {W : WX} {sc : Scope} {elt : Ex} {tg : Tg} {it : Itx} {ifs : Exs} {x t i : Expr} {cs : List Expr} {scope : Scope} {pos : Pos} (c : CxOk XT T Γ N X W sc) (hi : PI X t i (tI XT X.K W (evI Γ it))) (hb : blkC N sc scope (ownOf tg t) = true) (hp : plainE i = true)
    (ht : chkTg N (isTg (relS scope sc) fun x => scope.names.lookup x == some .cell) tg t = true)
    (hif : ∀ (X' : Cx), CxOk XT T Γ N X' W0 (relS scope sc) → ∃ tt, PTs X' cs tt ∧ ∀ σ H Q, tT XT X'.K W0 (evIfs Γ ifs) σ H Q → tt σ H Q)
    (he : ∀ (X' : Cx), CxOk XT T Γ N X' W0 (relS scope sc) → PE X' x (tW XT X'.K W0 (evE Γ elt))) :
    PE X (.ListComp x [⟨t, i, cs, 0⟩] scope pos) (tF XT X.K W (evE Γ (.lc elt tg it ifs))) := by
  have hg : ∀ (s : Shared) (H : Hp) (C : Addr) (cl : List (Str × Addr)) (fp : List Addr), PG (X.blk s H scope (compEnvC scope cl C X.env) fp) t (gTg X.K tg) := fun s H C cl fp =>
    pg_tg (X := X.blk s H scope (compEnvC scope cl C X.env) fp) (N := N) (sc := relS scope sc) (cell := fun x => scope.names.lookup x == some .cell) c.n c.nd (c.blk s H C cl fp scope).scope (fun x h => h) c.calm ht
  have hif' : ∀ (s : Shared) (H : Hp) (C : Addr) (cl : List (Str × Addr)) (fp : List Addr), PTs (X.blk s H scope (compEnvC scope cl C X.env) fp) cs (tT XT X.K W0 (evIfs Γ ifs)) := fun s H C cl fp => by
    obtain ⟨tt, h1, h2⟩ := hif (X.blk s H scope (compEnvC scope cl C X.env) fp) (c.blk s H C cl fp scope)
    exact ⟨fun pins s σ H Q I q => h1.run pins s σ H Q I (h2 σ H Q q)⟩
  have he' : ∀ (s : Shared) (H : Hp) (C : Addr) (cl : List (Str × Addr)) (fp : List Addr), PE (X.blk s H scope (compEnvC scope cl C X.env) fp) x (tW XT X.K W0 (evE Γ elt)) := fun s H C cl fp => he _ (c.blk s H C cl fp scope)
  have ok : BlkOk X.N X.env.scope scope (ownOf tg t) := by
    rw [c.n, c.scope]
    exact blkOk_by hb
  refine PE.weak (pe_lc c.calm c.nd hi ok hg hif' he' (plainE_set hp _)) fun σ H Q h => ?_
  rw [ownOf_slots ht]
  refine lc_read (it := evI Γ it) (ifs := evIfs Γ ifs) (elt := evE Γ elt) ?_
  obtain ⟨fo, φ, ρ, st, hs, he, h⟩ := h
  refine ⟨fo, φ, ρ, st, hs, he, ?_⟩
  unfold evE at h
  exact h

/-! #### what the checker has seen -/
section
variable {sc : Scope} {pe : Expr}
theorem chk_v {i : Nat} (h : chkE T N sc (.v i) pe = true) : ∃ x p, pe = .Name x p ∧ N[i]? = some x ∧ isVis sc x = true := by
  unfold chkE at h
  split at h <;> try (rename_i z; cases z)
  · simp only [Bool.and_eq_true, decide_eq_true_eq] at h
    exact ⟨_, _, rfl, h.1, h.2⟩
  · cases h
theorem chk_non (h : chkE T N sc .non pe = true) : ∃ k p, pe = .Constant .none k p := by
  unfold chkE at h
  split at h <;> try (rename_i z; cases z)
  · exact ⟨_, _, rfl⟩
  · cases h
theorem chk_bl {b : Bool} (h : chkE T N sc (.bl b) pe = true) : ∃ k p, pe = .Constant (.bool b) k p := by
  unfold chkE at h
  split at h <;> try (rename_i z; cases z)
  · simp only [beq_iff_eq] at h
    subst h
    exact ⟨_, _, rfl⟩
  · cases h
theorem chk_int {b : Int} (h : chkE T N sc (.int b) pe = true) : ∃ k p, pe = .Constant (.int b) k p := by
  unfold chkE at h
  split at h <;> try (rename_i z; cases z)
  · simp only [beq_iff_eq] at h
    subst h
    exact ⟨_, _, rfl⟩
  · cases h
theorem chk_str {s : List Nat} (h : chkE T N sc (.str s) pe = true) : ∃ k p, pe = .Constant (.str (toS s)) k p ∧ okS s := by
  unfold chkE at h
  split at h <;> try (rename_i z; cases z)
  · simp only [Bool.and_eq_true, decide_eq_true_eq, List.all_eq_true] at h
    obtain ⟨⟨h1, h2⟩, h3⟩ := h
    subst h1
    exact ⟨_, _, rfl, h2, h3⟩
  · cases h
theorem chk_g {k : Nat} (h : chkE T N sc (.g k) pe = true) : ∃ x p, pe = .Name x p ∧ T.gls[k]? = some x ∧ isGl sc x = true := by
  unfold chkE at h
  split at h <;> try (rename_i z; cases z)
  · simp only [Bool.and_eq_true, decide_eq_true_eq] at h
    exact ⟨_, _, rfl, h.1, h.2⟩
  · cases h
theorem chk_bin {o : Bop} {a b : Ex} (h : chkE T N sc (.bin o a b) pe = true) : ∃ x y p, pe = .BinOp x (pyBop o) y p ∧ chkE T N sc a x = true ∧ chkE T N sc b y = true := by
  unfold chkE at h
  split at h <;> try (rename_i z; cases z)
  · simp only [Bool.and_eq_true] at h
    obtain ⟨⟨h1, h2⟩, h3⟩ := h
    cases bopB_eq h1
    exact ⟨_, _, _, rfl, h2, h3⟩
  · cases h
theorem chk_neg {a : Ex} (h : chkE T N sc (.neg a) pe = true) : ∃ x p, pe = .UnaryOp .USub x p ∧ chkE T N sc a x = true := by
  unfold chkE at h
  split at h <;> try (rename_i z; cases z)
  · exact ⟨_, _, rfl, h⟩
  · cases h
theorem chk_not {a : Ex} (h : chkE T N sc (.not a) pe = true) : ∃ x p, pe = .UnaryOp .Not x p ∧ chkE T N sc a x = true := by
  unfold chkE at h
  split at h <;> try (rename_i z; cases z)
  · exact ⟨_, _, rfl, h⟩
  · cases h
theorem chk_and {es : Exs} (h : chkE T N sc (.and es) pe = true) : ∃ xs p, pe = .BoolOp .And xs p ∧ chkEs T N sc es xs = true ∧ es.isNil = false := by
  unfold chkE at h
  split at h <;> try (rename_i z; cases z)
  · simp only [Bool.and_eq_true, Bool.not_eq_true'] at h
    exact ⟨_, _, rfl, h.1, h.2⟩
  · cases h
theorem chk_or {es : Exs} (h : chkE T N sc (.or es) pe = true) : ∃ xs p, pe = .BoolOp .Or xs p ∧ chkEs T N sc es xs = true ∧ es.isNil = false := by
  unfold chkE at h
  split at h <;> try (rename_i z; cases z)
  · simp only [Bool.and_eq_true, Bool.not_eq_true'] at h
    exact ⟨_, _, rfl, h.1, h.2⟩
  · cases h
theorem chk_cmp {o : Cop} {a b : Ex} (h : chkE T N sc (.cmp o a b) pe = true) : ∃ x y p, pe = .Compare x [pyCop o] [y] p ∧ chkE T N sc a x = true ∧ chkE T N sc b y = true ∧ plainE y = true := by
  unfold chkE at h
  split at h <;> try (rename_i z; cases z)
  · simp only [Bool.and_eq_true] at h
    obtain ⟨⟨⟨h1, h2⟩, h3⟩, h4⟩ := h
    cases copB_eq h1
    exact ⟨_, _, _, rfl, h2, h3, h4⟩
  · cases h
theorem chk_cmp2 {o o' : Cop} {a b c : Ex} (h : chkE T N sc (.cmp2 o o' a b c) pe = true) : ∃ x y z p, pe = .Compare x [pyCop o, pyCop o'] [y, z] p ∧ chkE T N sc a x = true ∧ chkE T N sc b y = true ∧ chkE T N sc c z = true ∧ plainE z = true := by
  unfold chkE at h
  split at h <;> try (rename_i z; cases z)
  · simp only [Bool.and_eq_true] at h
    obtain ⟨⟨⟨⟨⟨h1, h2⟩, h3⟩, h4⟩, h5⟩, h6⟩ := h
    cases copB_eq h1
    cases copB_eq h2
    exact ⟨_, _, _, _, rfl, h3, h4, h5, h6⟩
  · cases h
theorem chk_call0 {f : Nat} (h : chkE T N sc (.call0 f) pe = true) : ∃ x p q, pe = .Call (.Name x p) [] [] q ∧ T.fns[f]? = some (x, 0) ∧ isGl sc x = true := by
  unfold chkE at h
  split at h <;> try (rename_i z; cases z)
  · simp only [Bool.and_eq_true, decide_eq_true_eq] at h
    exact ⟨_, _, _, rfl, h.1, h.2⟩
  · cases h
theorem chk_call {f : Nat} {es : Exs} (h : chkE T N sc (.call f es) pe = true) : ∃ x p xs q, pe = .Call (.Name x p) xs [] q ∧ T.fns[f]? = some (x, es.len) ∧ isGl sc x = true ∧ chkEs T N sc es xs = true ∧ es.isNil = false := by
  unfold chkE at h
  split at h <;> try (rename_i z; cases z)
  · simp only [Bool.and_eq_true, Bool.not_eq_true', decide_eq_true_eq] at h
    obtain ⟨⟨⟨h1, h2⟩, h3⟩, h4⟩ := h
    exact ⟨_, _, _, _, rfl, h1, h2, h3, h4⟩
  · cases h
theorem chk_p1 {p : P1} {a : Ex} (h : chkE T N sc (.p1 p a) pe = true) : ∃ p1 y q, pe = .Call (.Name (Str.ofString (pyP1 p)) p1) [y] [] q ∧ isGl sc (Str.ofString (pyP1 p)) = true ∧ chkE T N sc a y = true ∧ plainE y = true := by
  unfold chkE at h
  split at h <;> try (rename_i z; cases z)
  · simp only [Bool.and_eq_true, decide_eq_true_eq] at h
    obtain ⟨⟨⟨h1, h2⟩, h3⟩, h4⟩ := h
    subst h1
    exact ⟨_, _, _, rfl, h2, h3, h4⟩
  · cases h
theorem chk_lens {a : Ex} (h : chkE T N sc (.lens a) pe = true) : ∃ p1 p2 y q1 q, pe = .Call (.Name "len" p1) [.Call (.Name "set" p2) [y] [] q1] [] q ∧ isGl sc "len" = true ∧ isGl sc "set" = true ∧ chkE T N sc a y = true ∧ plainE y = true := by
  unfold chkE at h
  split at h <;> try (rename_i z; cases z)
  · simp only [Bool.and_eq_true, decide_eq_true_eq] at h
    obtain ⟨⟨⟨⟨⟨h1, h2⟩, h3⟩, h4⟩, h5⟩, h6⟩ := h
    subst h1; subst h3
    exact ⟨_, _, _, _, _, rfl, h2, h4, h5, h6⟩
  · cases h
theorem chk_isi {t : Ty} {a : Ex} (h : chkE T N sc (.isi a t) pe = true) : ∃ p1 y p2 q, pe = .Call (.Name "isinstance" p1) [y, .Name (Str.ofString (pyTy t)) p2] [] q ∧ isGl sc "isinstance" = true ∧ isGl sc (Str.ofString (pyTy t)) = true ∧ chkE T N sc a y = true ∧ plainE y = true := by
  unfold chkE at h
  split at h <;> try (rename_i z; cases z)
  · simp only [Bool.and_eq_true, decide_eq_true_eq] at h
    obtain ⟨⟨⟨⟨⟨h1, h2⟩, h3⟩, h4⟩, h5⟩, h6⟩ := h
    subst h1 h3
    exact ⟨_, _, _, _, rfl, h2, h4, h5, h6⟩
  · cases h
theorem chk_m1 {m : M1} {a b : Ex} (h : chkE T N sc (.m1 m a b) pe = true) : ∃ x ap y cp, pe = .Call (.Attribute x (Str.ofString (pyM1 m)) ap) [y] [] cp ∧ (ap.endLine == cp.line) = true ∧ chkE T N sc a x = true ∧ chkE T N sc b y = true ∧ plainE x = true ∧ plainE y = true := by
  unfold chkE at h
  split at h <;> try (rename_i z; cases z)
  · simp only [Bool.and_eq_true, decide_eq_true_eq] at h
    obtain ⟨⟨⟨⟨⟨h1, h2⟩, h3⟩, h4⟩, h5⟩, h6⟩ := h
    subst h1
    exact ⟨_, _, _, _, rfl, h2, h3, h4, h5, h6⟩
  · cases h
theorem chk_isi2 {t u : Ty} {a : Ex} (h : chkE T N sc (.isi2 a t u) pe = true) : ∃ p1 y p2 p3 k p4 q, pe = .Call (.Name "isinstance" p1) [y, .Tuple [.Name (Str.ofString (pyTy t)) p2, .Name (Str.ofString (pyTy u)) p3] k p4] [] q ∧ isGl sc "isinstance" = true ∧ isGl sc (Str.ofString (pyTy t)) = true ∧ isGl sc (Str.ofString (pyTy u)) = true ∧ chkE T N sc a y = true ∧ plainE y = true := by
  unfold chkE at h
  split at h <;> try (rename_i z; cases z)
  · simp only [Bool.and_eq_true, decide_eq_true_eq] at h
    obtain ⟨⟨⟨⟨⟨⟨⟨h1, h2⟩, h3⟩, h4⟩, h5⟩, h6⟩, h7⟩, h8⟩ := h
    subst h1 h3 h5
    exact ⟨_, _, _, _, _, _, _, rfl, h2, h4, h6, h7, h8⟩
  · cases h
theorem chk_b2 {o : B2} {a b : Ex} (h : chkE T N sc (.b2 o a b) pe = true) : ∃ p1 y z q, pe = .Call (.Name (Str.ofString (pyB2 o)) p1) [y, z] [] q ∧ isGl sc (Str.ofString (pyB2 o)) = true ∧ chkE T N sc a y = true ∧ plainE y = true ∧ chkE T N sc b z = true ∧ plainE z = true := by
  unfold chkE at h
  split at h <;> try (rename_i z; cases z)
  · simp only [Bool.and_eq_true, decide_eq_true_eq] at h
    obtain ⟨⟨⟨⟨⟨h1, h2⟩, h3⟩, h4⟩, h5⟩, h6⟩ := h
    subst h1
    exact ⟨_, _, _, _, rfl, h2, h3, h4, h5, h6⟩
  · cases h
theorem chk_rev {a : Ex} (h : chkE T N sc (.rev a) pe = true) : ∃ x k p1 p2 p3 p, pe = .Subscript x (.Slice none none (some (.UnaryOp .USub (.Constant (.int 1) k p1) p2)) p3) p ∧ chkE T N sc a x = true := by
  unfold chkE at h
  split at h <;> try (rename_i z; cases z)
  · exact ⟨_, _, _, _, _, _, rfl, h⟩
  · cases h
theorem chk_ix {a i : Ex} (h : chkE T N sc (.ix a i) pe = true) : ∃ x y p, pe = .Subscript x y p ∧ chkE T N sc a x = true ∧ chkE T N sc i y = true ∧ plainE y = true := by
  unfold chkE at h
  split at h <;> try (rename_i z; cases z)
  · simp only [Bool.and_eq_true] at h
    exact ⟨_, _, _, rfl, h.1.1, h.1.2, h.2⟩
  · cases h
theorem chk_sl {a : Ex} {lo hi : Exo} (h : chkE T N sc (.sl a lo hi) pe = true) : ∃ x l u p2 p, pe = .Subscript x (.Slice l u none p2) p ∧ chkE T N sc a x = true ∧ chkO T N sc lo l = true ∧ chkO T N sc hi u = true := by
  unfold chkE at h
  split at h <;> try (rename_i z; cases z)
  · simp only [Bool.and_eq_true] at h
    exact ⟨_, _, _, _, _, rfl, h.1.1, h.1.2, h.2⟩
  · cases h
theorem chk_tup {es : Exs} (h : chkE T N sc (.tup es) pe = true) : ∃ xs k p, pe = .Tuple xs k p ∧ chkEs T N sc es xs = true := by
  unfold chkE at h
  split at h <;> try (rename_i z; cases z)
  · exact ⟨_, _, _, rfl, h⟩
  · cases h
theorem chk_lst {es : Exs} (h : chkE T N sc (.lst es) pe = true) : ∃ xs p, pe = .List xs p ∧ chkEs T N sc es xs = true := by
  unfold chkE at h
  split at h <;> try (rename_i z; cases z)
  · exact ⟨_, _, rfl, h⟩
  · cases h
def tupIt (it : Itx) (t : Expr) : Bool := match it with | .enm _ => isTuple t | .zip _ _ => isTuple t | _ => true
theorem chk_lc {elt : Ex} {tg : Tg} {it : Itx} {ifs : Exs} (h : chkE T N sc (.lc elt tg it ifs) pe = true) : ∃ x t i cs scope p, pe = .ListComp x [⟨t, i, cs, 0⟩] scope p ∧ chkI T N sc it i = true ∧ tupIt it t = true ∧ blkC N sc scope (ownOf tg t) = true ∧ plainE i = true ∧
    chkTg N (isTg (relS scope sc) fun x => scope.names.lookup x == some .cell) tg t = true ∧ chkEs T N (relS scope sc) ifs cs = true ∧ chkE T N (relS scope sc) elt x = true := by
  unfold chkE at h
  split at h <;> try (rename_i z; cases z)
  · simp only [Bool.and_eq_true] at h
    obtain ⟨⟨⟨⟨⟨⟨h1, h2⟩, h3⟩, h4⟩, h5⟩, h6⟩, h7⟩ := h
    exact ⟨_, _, _, _, _, _, rfl, h1, h2, h3, h4, h5, h6, h7⟩
  · cases h
theorem chk_cons {e : Ex} {es : Exs} {xs : List Expr} (h : chkEs T N sc (.cons e es) xs = true) : ∃ y ys, xs = y :: ys ∧ chkE T N sc e y = true ∧ plainE y = true ∧ chkEs T N sc es ys = true := by
  cases xs with
  | nil => unfold chkEs at h; cases h
  | cons y ys =>
    unfold chkEs at h
    simp only [Bool.and_eq_true] at h
    exact ⟨y, ys, rfl, h.1.1, h.1.2, h.2⟩
theorem chk_nil {xs : List Expr} (h : chkEs T N sc .nil xs = true) : xs = [] := by
  cases xs with
  | nil => rfl
  | cons y ys => unfold chkEs at h; cases h
end

mutual
theorem peS : ∀ (e : Ex) {X : Cx} {W : WX} {sc : Scope} (c : CxOk XT T Γ N X W sc) (pe : Expr), chkE T N sc e pe = true → PE X pe (tW XT X.K W (evE Γ e))
  | .v i, X, W, sc, c, pe, h => by
    obtain ⟨x, p, rfl, h1, h2⟩ := chk_v h
    exact pe_v c h1 h2
  | .non, X, W, sc, c, pe, h => by
    obtain ⟨k, p, rfl⟩ := chk_non h
    exact pe_cst (d := .non) pe_non (fun _ _ => by unfold evE; rfl) fun _ _ => .non
  | .bl b, X, W, sc, c, pe, h => by
    obtain ⟨k, p, rfl⟩ := chk_bl h
    exact pe_cst (d := .bl b) pe_bl (fun _ _ => by unfold evE; rfl) fun _ _ => .bl b
  | .int b, X, W, sc, c, pe, h => by
    obtain ⟨k, p, rfl⟩ := chk_int h
    exact pe_cst (d := .int b) pe_int (fun _ _ => by unfold evE; rfl) fun _ _ => .int b
  | .str s, X, W, sc, c, pe, h => by
    obtain ⟨k, p, rfl, ho⟩ := chk_str h
    exact pe_cst (d := .str s) pe_str (fun _ _ => by unfold evE; rfl) fun _ _ => .str s ho
  | .g k, X, W, sc, c, pe, h => by
    obtain ⟨x, p, rfl, h1, h2⟩ := chk_g h
    exact pe_gl c h1 h2
  | .bin o a b, X, W, sc, c, pe, h => by
    obtain ⟨x, y, p, rfl, h1, h2⟩ := chk_bin h
    exact pe_bin (peS a c x h1) (peS b c y h2)
  | .neg a, X, W, sc, c, pe, h => by
    obtain ⟨x, p, rfl, h1⟩ := chk_neg h
    exact pe_neg (peS a c x h1)
  | .not a, X, W, sc, c, pe, h => by
    obtain ⟨x, p, rfl, h1⟩ := chk_not h
    exact pe_nott (peS a c x h1)
  | .and es, X, W, sc, c, pe, h => by
    obtain ⟨xs, p, rfl, h1, h2⟩ := chk_and h
    have := andS es c xs p h1 h2
    exact PE.weak this fun σ H Q h => by
      obtain ⟨fo, φ, ρ, st, hs, he, h⟩ := h
      exact ⟨fo, φ, ρ, st, hs, he, by unfold evE at h; exact h⟩
  | .or es, X, W, sc, c, pe, h => by
    obtain ⟨xs, p, rfl, h1, h2⟩ := chk_or h
    have := orS es c xs p h1 h2
    exact PE.weak this fun σ H Q h => by
      obtain ⟨fo, φ, ρ, st, hs, he, h⟩ := h
      exact ⟨fo, φ, ρ, st, hs, he, by unfold evE at h; exact h⟩
  | .cmp o a b, X, W, sc, c, pe, h => by
    obtain ⟨x, y, p, rfl, h1, h2, h3⟩ := chk_cmp h
    exact pe_cmpE c.units (peS a c x h1) (peS b c y h2) h3
  | .cmp2 o o' a b d, X, W, sc, c, pe, h => by
    obtain ⟨x, y, z, p, rfl, h1, h2, h3, h4⟩ := chk_cmp2 h
    exact pe_cmp2E c.units (peS a c x h1) (peS b c y h2) (peS d c z h3) h4
  | .call f es, X, W, sc, c, pe, h => by
    obtain ⟨x, p, xs, q, rfl, h1, h2, h3, h4⟩ := chk_call h
    have ha := paS es c xs h3
    cases es with
    | nil => cases h4
    | cons e es =>
      obtain ⟨y, ys, rfl, k1, k2, k3⟩ := chk_cons h3
      exact pe_callE c h1 h2 ha (plainE_star k2 _ _) (no_star k3)
  | .call0 f, X, W, sc, c, pe, h => by
    obtain ⟨x, p, q, rfl, h1, h2⟩ := chk_call0 h
    exact pe_call0E c h1 h2
  | .p1 p a, X, W, sc, c, pe, h => by
    obtain ⟨p1, y, q, rfl, h1, h2, h3⟩ := chk_p1 h
    exact pe_p1E c h1 (peS a c y h2) h3
  | .lens a, X, W, sc, c, pe, h => by
    obtain ⟨p1, p2, y, q1, q, rfl, h1, h2, h3, h4⟩ := chk_lens h
    exact pe_lensE c h1 h2 (peS a c y h3) h4
  | .isi a t, X, W, sc, c, pe, h => by
    obtain ⟨p1, y, p2, q, rfl, h1, h2, h3, h4⟩ := chk_isi h
    exact pe_isiE c h1 h2 (peS a c y h3) h4
  | .isi2 a t u, X, W, sc, c, pe, h => by
    obtain ⟨p1, y, p2, p3, k, p4, q, rfl, h1, h2, h3, h4, h5⟩ := chk_isi2 h
    exact pe_isi2E c h1 h2 h3 (peS a c y h4) h5
  | .m1 m a b, X, W, sc, c, pe, h => by
    obtain ⟨x, ap, y, cp, rfl, h1, h2, h3, h4, h5⟩ := chk_m1 h
    cases m with
    | join => exact m1_join (peS a c x h2) (peS b c y h3) h4 h5 h1
    | zfill => exact m1_zfill (peS a c x h2) (peS b c y h3) h4 h5 h1
    | split => exact m1_split (peS a c x h2) (peS b c y h3) h4 h5 h1
  | .b2 o a b, X, W, sc, c, pe, h => by
    obtain ⟨p1, y, z, q, rfl, h1, h2, h3, h4, h5⟩ := chk_b2 h
    exact pe_b2E c h1 (peS a c y h2) h3 (peS b c z h4) h5
  | .rev a, X, W, sc, c, pe, h => by
    obtain ⟨x, k, p1, p2, p3, p, rfl, h1⟩ := chk_rev h
    exact pe_revE (peS a c x h1)
  | .ix a i, X, W, sc, c, pe, h => by
    obtain ⟨x, y, p, rfl, h1, h2, h3⟩ := chk_ix h
    exact pe_ixE (peS a c x h1) (peS i c y h2) h3
  | .sl a lo hi, X, W, sc, c, pe, h => by
    obtain ⟨x, l, u, p2, p, rfl, h1, h2, h3⟩ := chk_sl h
    exact pe_slE (peS a c x h1) (poS lo c l h2) (poS hi c u h3)
  | .tup es, X, W, sc, c, pe, h => by
    obtain ⟨xs, k, p, rfl, h1⟩ := chk_tup h
    exact pe_tupE (paS es c xs h1)
  | .lst es, X, W, sc, c, pe, h => by
    obtain ⟨xs, p, rfl, h1⟩ := chk_lst h
    exact PE.weak (pe_lstF (paS es c xs h1)) fun σ H Q h => tW_tF h
  | .lc elt tg it ifs, X, W, sc, c, pe, h => by
    obtain ⟨x, t, i, cs, scope, p, rfl, h1, h2, h3, h4, h5, h6, h7⟩ := chk_lc h
    exact PE.weak (pe_lcF c (piS it c i t h2 h1) h3 h4 h5 (fun X' c' => ifS ifs c' cs h6) fun X' c' => peS elt c' x h7) fun σ H Q h => tW_tF h
theorem ptS : ∀ (e : Ex) {X : Cx} {W : WX} {sc : Scope} (c : CxOk XT T Γ N X W sc) (pe : Expr), chkE T N sc e pe = true → PT X pe (tT XT X.K W (evT Γ e))
  | .not a, X, W, sc, c, pe, h => by
    obtain ⟨x, p, rfl, h1⟩ := chk_not h
    exact pt_nott (ptS a c x h1)
  | .and es, X, W, sc, c, pe, h => by
    obtain ⟨xs, p, rfl, h1, h2⟩ := chk_and h
    exact PT.weak (PW.pt (andT es c xs p h1 h2)) fun σ H Q h => by
      obtain ⟨fo, φ, ρ, st, hs, he, h⟩ := h
      exact ⟨fo, φ, ρ, st, hs, he, by unfold evT evE at h; exact h⟩
  | .or es, X, W, sc, c, pe, h => by
    obtain ⟨xs, p, rfl, h1, h2⟩ := chk_or h
    exact PT.weak (PW.pt (orT es c xs p h1 h2)) fun σ H Q h => by
      obtain ⟨fo, φ, ρ, st, hs, he, h⟩ := h
      exact ⟨fo, φ, ρ, st, hs, he, by unfold evT evE at h; exact h⟩
  | .cmp o a b, X, W, sc, c, pe, h => by
    obtain ⟨x, y, p, rfl, h1, h2, h3⟩ := chk_cmp h
    exact pt_cmpE c.units (peS a c x h1) (peS b c y h2) h3
  | .cmp2 o o' a b d, X, W, sc, c, pe, h => by
    obtain ⟨x, y, z, p, rfl, h1, h2, h3, h4⟩ := chk_cmp2 h
    exact pt_cmp2E c.units (peS a c x h1) (peS b c y h2) (peS d c z h3) h4
  | .v i, X, W, sc, c, pe, h => by
    obtain ⟨x, p, rfl, h1, h2⟩ := chk_v h
    exact pt_of (pe_v c h1 h2) fun _ => rfl
  | .non, X, W, sc, c, pe, h => by
    obtain ⟨k, p, rfl⟩ := chk_non h
    exact pt_of (pe_cst (d := .non) pe_non (fun _ _ => by unfold evE; rfl) fun _ _ => .non) fun _ => rfl
  | .bl b, X, W, sc, c, pe, h => by
    obtain ⟨k, p, rfl⟩ := chk_bl h
    exact pt_of (pe_cst (d := .bl b) pe_bl (fun _ _ => by unfold evE; rfl) fun _ _ => .bl b) fun _ => rfl
  | .int b, X, W, sc, c, pe, h => by
    obtain ⟨k, p, rfl⟩ := chk_int h
    exact pt_of (pe_cst (d := .int b) pe_int (fun _ _ => by unfold evE; rfl) fun _ _ => .int b) fun _ => rfl
  | .str s, X, W, sc, c, pe, h => by
    obtain ⟨k, p, rfl, ho⟩ := chk_str h
    exact pt_of (pe_cst (d := .str s) pe_str (fun _ _ => by unfold evE; rfl) fun _ _ => .str s ho) fun _ => rfl
  | .g k, X, W, sc, c, pe, h => by
    obtain ⟨x, p, rfl, h1, h2⟩ := chk_g h
    exact pt_of (pe_gl c h1 h2) fun _ => rfl
  | .bin o a b, X, W, sc, c, pe, h => by
    obtain ⟨x, y, p, rfl, h1, h2⟩ := chk_bin h
    exact pt_of (pe_bin (peS a c x h1) (peS b c y h2)) fun _ => rfl
  | .neg a, X, W, sc, c, pe, h => by
    obtain ⟨x, p, rfl, h1⟩ := chk_neg h
    exact pt_of (pe_neg (peS a c x h1)) fun _ => rfl
  | .call f es, X, W, sc, c, pe, h => by
    obtain ⟨x, p, xs, q, rfl, h1, h2, h3, h4⟩ := chk_call h
    have ha := paS es c xs h3
    cases es with
    | nil => cases h4
    | cons e es =>
      obtain ⟨y, ys, rfl, k1, k2, k3⟩ := chk_cons h3
      exact pt_of (pe_callE c h1 h2 ha (plainE_star k2 _ _) (no_star k3)) fun _ => rfl
  | .call0 f, X, W, sc, c, pe, h => by
    obtain ⟨x, p, q, rfl, h1, h2⟩ := chk_call0 h
    exact pt_of (pe_call0E c h1 h2) fun _ => rfl
  | .p1 p a, X, W, sc, c, pe, h => by
    obtain ⟨p1, y, q, rfl, h1, h2, h3⟩ := chk_p1 h
    exact pt_of (pe_p1E c h1 (peS a c y h2) h3) fun _ => rfl
  | .lens a, X, W, sc, c, pe, h => by
    obtain ⟨p1, p2, y, q1, q, rfl, h1, h2, h3, h4⟩ := chk_lens h
    exact pt_of (pe_lensE c h1 h2 (peS a c y h3) h4) fun _ => rfl
  | .isi a t, X, W, sc, c, pe, h => by
    obtain ⟨p1, y, p2, q, rfl, h1, h2, h3, h4⟩ := chk_isi h
    exact pt_of (pe_isiE c h1 h2 (peS a c y h3) h4) fun _ => rfl
  | .isi2 a t u, X, W, sc, c, pe, h => by
    obtain ⟨p1, y, p2, p3, k, p4, q, rfl, h1, h2, h3, h4, h5⟩ := chk_isi2 h
    exact pt_of (pe_isi2E c h1 h2 h3 (peS a c y h4) h5) fun _ => rfl
  | .m1 m a b, X, W, sc, c, pe, h => by
    obtain ⟨x, ap, y, cp, rfl, h1, h2, h3, h4, h5⟩ := chk_m1 h
    cases m with
    | join => exact pt_of (m1_join (peS a c x h2) (peS b c y h3) h4 h5 h1) fun _ => rfl
    | zfill => exact pt_of (m1_zfill (peS a c x h2) (peS b c y h3) h4 h5 h1) fun _ => rfl
    | split => exact pt_of (m1_split (peS a c x h2) (peS b c y h3) h4 h5 h1) fun _ => rfl
  | .b2 o a b, X, W, sc, c, pe, h => by
    obtain ⟨p1, y, z, q, rfl, h1, h2, h3, h4, h5⟩ := chk_b2 h
    exact pt_of (pe_b2E c h1 (peS a c y h2) h3 (peS b c z h4) h5) fun _ => rfl
  | .rev a, X, W, sc, c, pe, h => by
    obtain ⟨x, k, p1, p2, p3, p, rfl, h1⟩ := chk_rev h
    exact pt_of (pe_revE (peS a c x h1)) fun _ => rfl
  | .ix a i, X, W, sc, c, pe, h => by
    obtain ⟨x, y, p, rfl, h1, h2, h3⟩ := chk_ix h
    exact pt_of (pe_ixE (peS a c x h1) (peS i c y h2) h3) fun _ => rfl
  | .sl a lo hi, X, W, sc, c, pe, h => by
    obtain ⟨x, l, u, p2, p, rfl, h1, h2, h3⟩ := chk_sl h
    exact pt_of (pe_slE (peS a c x h1) (poS lo c l h2) (poS hi c u h3)) fun _ => rfl
  | .tup es, X, W, sc, c, pe, h => by
    obtain ⟨xs, k, p, rfl, h1⟩ := chk_tup h
    exact pt_of (pe_tupE (paS es c xs h1)) fun _ => rfl
  | .lst es, X, W, sc, c, pe, h => by
    obtain ⟨xs, p, rfl, h1⟩ := chk_lst h
    exact pt_of (PE.weak (pe_lstF (paS es c xs h1)) fun σ H Q h => tW_tF h) fun _ => rfl
  | .lc elt tg it ifs, X, W, sc, c, pe, h => by
    obtain ⟨x, t, i, cs, scope, p, rfl, h1, h2, h3, h4, h5, h6, h7⟩ := chk_lc h
    exact pt_of (PE.weak (pe_lcF c (piS it c i t h2 h1) h3 h4 h5 (fun X' c' => ifS ifs c' cs h6) fun X' c' => peS elt c' x h7) fun σ H Q h => tW_tF h) fun _ => rfl
theorem andS : ∀ (es : Exs) {X : Cx} {W : WX} {sc : Scope} (c : CxOk XT T Γ N X W sc) (xs : List Expr) (p : Pos), chkEs T N sc es xs = true → es.isNil = false → PE X (.BoolOp .And xs p) (tW XT X.K W (evAnd Γ es))
  | .nil, X, W, sc, c, xs, p, h, hn => by cases hn
  | .cons e .nil, X, W, sc, c, xs, p, h, hn => by
    obtain ⟨y, ys, rfl, k1, k2, k3⟩ := chk_cons h
    cases chk_nil k3
    rw [evAnd_one]
    exact pe_one (peS e c y k1)
  | .cons e (.cons e2 r), X, W, sc, c, xs, p, h, hn => by
    obtain ⟨y, ys, rfl, k1, k2, k3⟩ := chk_cons h
    have := andS (.cons e2 r) c ys p k3 rfl
    obtain ⟨y2, ys, rfl, _⟩ := chk_cons k3
    exact pe_andE (peS e c y k1) this
theorem orS : ∀ (es : Exs) {X : Cx} {W : WX} {sc : Scope} (c : CxOk XT T Γ N X W sc) (xs : List Expr) (p : Pos), chkEs T N sc es xs = true → es.isNil = false → PE X (.BoolOp .Or xs p) (tW XT X.K W (evOr Γ es))
  | .nil, X, W, sc, c, xs, p, h, hn => by cases hn
  | .cons e .nil, X, W, sc, c, xs, p, h, hn => by
    obtain ⟨y, ys, rfl, k1, k2, k3⟩ := chk_cons h
    cases chk_nil k3
    rw [evOr_one]
    exact pe_one (peS e c y k1)
  | .cons e (.cons e2 r), X, W, sc, c, xs, p, h, hn => by
    obtain ⟨y, ys, rfl, k1, k2, k3⟩ := chk_cons h
    have := orS (.cons e2 r) c ys p k3 rfl
    obtain ⟨y2, ys, rfl, _⟩ := chk_cons k3
    exact pe_orE (peS e c y k1) this
theorem andT : ∀ (es : Exs) {X : Cx} {W : WX} {sc : Scope} (c : CxOk XT T Γ N X W sc) (xs : List Expr) (p : Pos), chkEs T N sc es xs = true → es.isNil = false → PW X (.BoolOp .And xs p) (tT XT X.K W (evTAnd Γ es))
  | .nil, X, W, sc, c, xs, p, h, hn => by cases hn
  | .cons e .nil, X, W, sc, c, xs, p, h, hn => by
    obtain ⟨y, ys, rfl, k1, k2, k3⟩ := chk_cons h
    cases chk_nil k3
    have e1 : evTAnd Γ (.cons e .nil) = evT Γ e := by funext ρ st; unfold evTAnd evT; rw [evAnd_one]
    rw [e1]
    exact pw_one (ptS e c y k1)
  | .cons e (.cons e2 r), X, W, sc, c, xs, p, h, hn => by
    obtain ⟨y, ys, rfl, k1, k2, k3⟩ := chk_cons h
    have := andT (.cons e2 r) c ys p k3 rfl
    obtain ⟨y2, ys, rfl, _⟩ := chk_cons k3
    exact pw_andE (ptS e c y k1) this
theorem orT : ∀ (es : Exs) {X : Cx} {W : WX} {sc : Scope} (c : CxOk XT T Γ N X W sc) (xs : List Expr) (p : Pos), chkEs T N sc es xs = true → es.isNil = false → PW X (.BoolOp .Or xs p) (tT XT X.K W (evTOr Γ es))
  | .nil, X, W, sc, c, xs, p, h, hn => by cases hn
  | .cons e .nil, X, W, sc, c, xs, p, h, hn => by
    obtain ⟨y, ys, rfl, k1, k2, k3⟩ := chk_cons h
    cases chk_nil k3
    have e1 : evTOr Γ (.cons e .nil) = evT Γ e := by funext ρ st; unfold evTOr evT; rw [evOr_one]
    rw [e1]
    exact pw_one (ptS e c y k1)
  | .cons e (.cons e2 r), X, W, sc, c, xs, p, h, hn => by
    obtain ⟨y, ys, rfl, k1, k2, k3⟩ := chk_cons h
    have := orT (.cons e2 r) c ys p k3 rfl
    obtain ⟨y2, ys, rfl, _⟩ := chk_cons k3
    exact pw_orE (ptS e c y k1) this
theorem ifS : ∀ (es : Exs) {X : Cx} {W : WX} {sc : Scope} (c : CxOk XT T Γ N X W sc) (cs : List Expr), chkEs T N sc es cs = true → ∃ tt, PTs X cs tt ∧ ∀ σ H Q, tT XT X.K W (evIfs Γ es) σ H Q → tt σ H Q
  | .nil, X, W, sc, c, cs, h => by
    cases chk_nil h
    exact pts_E (fun e x e1 => by cases e1) (.inl ⟨rfl, rfl⟩)
  | .cons e .nil, X, W, sc, c, cs, h => by
    obtain ⟨y, ys, rfl, k1, k2, k3⟩ := chk_cons h
    cases chk_nil k3
    have := ptS e c y k1
    exact pts_E (fun e' x e1 e2 => by cases e1; cases e2; exact this) (.inr (.inl ⟨e, y, rfl, rfl⟩))
  | .cons e (.cons e2 r), X, W, sc, c, cs, h => pts_E (fun e' x e1 => by cases e1) (.inr (.inr ⟨e, e2, r, rfl⟩))
theorem paS : ∀ (es : Exs) {X : Cx} {W : WX} {sc : Scope} (c : CxOk XT T Γ N X W sc) (xs : List Expr), chkEs T N sc es xs = true → PA X xs (tL XT X.K W (evEs Γ es))
  | .nil, X, W, sc, c, xs, h => by
    cases chk_nil h
    exact pa_nilE
  | .cons e es, X, W, sc, c, xs, h => by
    obtain ⟨y, ys, rfl, k1, k2, k3⟩ := chk_cons h
    exact pa_consE (peS e c y k1) (paS es c ys k3) k2
theorem poS : ∀ (o : Exo) {X : Cx} {W : WX} {sc : Scope} (c : CxOk XT T Γ N X W sc) (x : Option Expr), chkO T N sc o x = true → PO X x (tO XT X.K W (evO Γ o))
  | .no, X, W, sc, c, x, h => by
    cases x with
    | none => exact po_no
    | some y => unfold chkO at h; cases h
  | .yes e, X, W, sc, c, x, h => by
    cases x with
    | none => unfold chkO at h; cases h
    | some y =>
      unfold chkO at h
      exact po_yes (peS e c y h)
theorem piS : ∀ (it : Itx) {X : Cx} {W : WX} {sc : Scope} (c : CxOk XT T Γ N X W sc) (x t : Expr), tupIt it t = true → chkI T N sc it x = true → PI X t x (tI XT X.K W (evI Γ it))
  | .seq e, X, W, sc, c, x, t, ht, h => by
    unfold chkI at h
    exact pi_seq (peS e c x h)
  | .rng1 e, X, W, sc, c, x, t, ht, h => by
    unfold chkI at h
    split at h <;> try (rename_i z; cases z)
    · simp only [Bool.and_eq_true, decide_eq_true_eq] at h
      obtain ⟨⟨⟨h1, h2⟩, h3⟩, h4⟩ := h
      subst h1
      exact pi_rng1 c h2 (peS e c _ h3) h4
    · cases h
  | .rng2 a b, X, W, sc, c, x, t, ht, h => by
    unfold chkI at h
    split at h <;> try (rename_i z; cases z)
    · simp only [Bool.and_eq_true, decide_eq_true_eq] at h
      obtain ⟨⟨⟨⟨⟨h1, h2⟩, h3⟩, h4⟩, h5⟩, h6⟩ := h
      subst h1
      exact pi_rng2 c h2 (peS a c _ h3) h4 (peS b c _ h5) h6
    · cases h
  | .enm e, X, W, sc, c, x, t, ht, h => by
    unfold chkI at h
    split at h <;> try (rename_i z; cases z)
    · simp only [Bool.and_eq_true, decide_eq_true_eq] at h
      obtain ⟨⟨⟨h1, h2⟩, h3⟩, h4⟩ := h
      subst h1
      cases t with
      | Tuple es k p => exact pi_enm c h2 (peS e c _ h3) h4
      | _ => cases ht
    · cases h
  | .zip a b, X, W, sc, c, x, t, ht, h => by
    unfold chkI at h
    split at h <;> try (rename_i z; cases z)
    · simp only [Bool.and_eq_true, decide_eq_true_eq] at h
      obtain ⟨⟨⟨⟨⟨h1, h2⟩, h3⟩, h4⟩, h5⟩, h6⟩ := h
      subst h1
      cases t with
      | Tuple es k p => exact pi_zipE c h2 (peS a c _ h3) h4 (peS b c _ h5) h6
      | _ => cases ht
    · cases h
end
theorem lcS (elt : Ex) (tg : Tg) (it : Itx) (ifs : Exs) {X : Cx} {W : WX} {sc : Scope} (c : CxOk XT T Γ N X W sc) (pe : Expr) (h : chkE T N sc (.lc elt tg it ifs) pe = true) : PE X pe (tF XT X.K W (evE Γ (.lc elt tg it ifs))) := by
  obtain ⟨x, t, i, cs, scope, p, rfl, h1, h2, h3, h4, h5, h6, h7⟩ := chk_lc h
  exact pe_lcF c (piS it c i t h2 h1) h3 h4 h5 (fun X' c' => ifS ifs c' cs h6) fun X' c' => peS elt c' x h7
end
end PB

set_option Elab.async false
set_option linter.all false
set_option maxRecDepth 100000
set_option maxHeartbeats 4000000
set_option backward.match.sparseCases false
/-! Statements keep their meaning. -/
namespace PB
open PySem PySem.Spec PyProof.Rows L2

def isLC : Expr → Bool
  | .ListComp _ _ _ _ => true
  | .SetComp _ _ _ _ => true
  | .DictComp _ _ _ _ _ => true
  | _ => false
/-- a comprehension's list goes straight to the name -/
def swB (sc : Scope) (x : Str) (px : Pos) : Expr → Bool
  | .ListComp _ _ scope pos => (match sc.names.lookup x with | some .local => true | _ => false) && (px.line == pos.line) && !(scope.names.any fun (n, k) => n == x && (k == .local || k == .cell))
  | _ => false
def freshE : Ex → Bool
  | .lst _ => true
  | .lc _ _ _ _ => true
  | _ => false
/-- what makes a new list -/
def freshX : Ex → Bool
  | .p1 .list _ => true
  | .bin .add _ _ => true
  | e => freshE e
/-- what is asked of the exception at the name n -/
def chkX (T : Tb) (sc : Scope) (n : Str) : Xe → Expr → Bool
  | .isi none, .Call (.Name x _) [.Name y _, .Name z _] [] _ => decide (x = "isinstance") && isGl sc x && decide (y = n) && decide (z = "ValueError") && isGl sc z
  | .isi (some k), .Call (.Name x _) [.Name y _, .Name z _] [] _ => decide (x = "isinstance") && isGl sc x && decide (y = n) && decide (T.xcs[k]? = some (z, [])) && isGl sc z
  | .not a, .UnaryOp .Not e _ => chkX T sc n a e
  | .and a b, .BoolOp .And [e, f] _ => chkX T sc n a e && chkX T sc n b f
  | _, _ => false
def chkXs (T : Tb) (sc : Scope) (n : Str) : List Xe → List Expr → Bool
  | [], [] => true
  | x :: xs, e :: es => chkX T sc n x e && plainE e && chkXs T sc n xs es
  | _, _ => false
/-- a call without arguments may be walked, too -/
def walkE : Expr → Bool
  | .Call _ [] _ _ => true
  | e => plainE e
theorem walkE_set {e : Expr} (h : walkE e = true) (env : PySem.Env) (x : Value) : foldedSetIterable e env x = pure x := by
  cases e <;> first | rfl | (unfold walkE at h; exact plainE_set h env x)
mutual
/-- bodies of a try: no name is set ahead of what may raise -/
def simS : Sm → Bool
  | .expr _ => true
  | .set _ (.call _ _) => true
  | .ife _ a b => simSs a && simSs b
  | _ => false
def simSs : Sms → Bool
  | .nil => true
  | .cons s r => simS s && (match r with | .nil => true | _ => false)
end
mutual
def chkS (T : Tb) (N : List Str) (sc : Scope) : Sm → Stmt → Bool
  | .set i e, .Assign [.Name x px] y _ => decide (N[i]? = some x) && isTg sc (fun _ => true) x && chkE T N sc e y
  | .setL i e, .Assign [.Name x px] y _ => decide (N[i]? = some x) && isTg sc (fun _ => true) x && chkE T N sc e y && freshX e
  | .unp is e, .Assign [.Tuple ts k p] y _ => chkTgs N (isTg sc fun _ => true) is ts && chkE T N sc e y && !isTuple y && !isLC y
  | .ret e, .Return (some y) _ => chkE T N sc e y
  | .ife c a b, .If y u v _ => chkE T N sc c y && chkSs T N sc a u && chkSs T N sc b v
  | .forS tg it b, .For t y u [] _ => chkI T N sc it y && tupIt it t && walkE y && chkTg N (isTg sc fun _ => true) tg t && chkSs T N sc b u
  | .whl c b, .While y u [] _ => chkE T N sc c y && chkSs T N sc b u
  | .app i e, .Expr (.Call (.Attribute (.Name x px) n ap) [y] [] cp) _ => decide (n = "append") && (ap.endLine == cp.line) && decide (N[i]? = some x) && isVis sc x && chkE T N sc e y && plainE y
  | .expr e, .Expr y _ => chkE T N sc e y && !isLC y
  | .brk, .Break _ => true
  | .cnt, .Continue _ => true
  | .pass, .Pass _ => true
  | .never, _ => true
  | .tryN c b, .Try u [.ExceptHandler (some (.Name x _)) none (_ :: _) _] [] [] _ => decide (T.xcs[c]? = some (x, [])) && isGl sc x && chkSs T N sc b u
  | .tryX c b i j xs, .Try u [.ExceptHandler (some (.Name x _)) (some n) [.Assign [.Name y _] (.Tuple es _ _) _] _] [] [] _ => decide (T.xcs[c]? = some (x, [])) && isGl sc x && decide (N[i]? = some n) && (match sc.names.lookup n with | some .local => true | _ => false) && isVis sc n &&
      decide (N[j]? = some y) && isTg sc (fun _ => true) y && simSs b && chkSs T N sc b u && chkXs T sc n xs es
  | .rai c, .Raise (some (.Call (.Name x _) [.Constant (.str m) _ _] [] _)) none _ => decide (T.xcs[c]? = some (x, [])) && isGl sc x
  | _, _ => false
def chkSs (T : Tb) (N : List Str) (sc : Scope) : Sms → List Stmt → Bool
  | .nil, [] => true
  | .cons s r, x :: xs => chkS T N sc s x && chkSs T N sc r xs
  | _, _ => false
end

/-- what is wanted behind a statement -/
def FlP (K : PySem.W.Frag) (fo : List Addr) (D : Ends) (p : Fl × Ev) (φ : List Addr) (H : Hp) : Prop := ∀ σ, EnvOk K fo φ H p.2 σ → match p.1 with
  | .nx => D.nx σ H
  | .bk => D.bk σ H
  | .ct => D.ct σ H
  | .rt w => ∀ v, RepW K fo φ H w v → D.rt v H
/-- the wish about exceptions, whatever the slots -/
abbrev WEE (E : XK) : WX := fun cls d _ H => E cls d H
def tS (XT : Xt) (K : PySem.W.Frag) (E : XK) (m : Ev → Sr → Rs Sx) : TS := fun D σ H => ∃ fo φ ρ st, Sok K fo φ H st ∧ EnvOk K fo φ H ρ σ ∧
  Go K (xwOf XT K (WEE E) σ fo) fo φ H (m ρ st) (fun p _ φ' H' => FlP K fo D p φ' H')

/-- a fresh list's reading, that it is a list is known -/
def tG (XT : Xt) (K : PySem.W.Frag) (W : WX) (m : Ev → Sr → Rs (Wv × Sr)) : TE := fun σ H Q => ∃ fo φ ρ st, Sok K fo φ H st ∧ EnvOk K fo φ H ρ σ ∧
  Go K (xwOf XT K W σ fo) fo φ H (m ρ st) (fun w st' φ' H' => ∃ xs, w = .d (.lst xs) ∧ ∀ vs p, H' p = none → RepL K (fo ++ φ') H' xs vs → Q (.ref p) (upd H' p (.lst vs)))
def OpSG (K : PySem.W.Frag) (f : Dt → Dt → Option Dt) (r : R2) : Prop := ∀ (av : List Addr) (H : Hp) (x y : Dt) (zs : List Dt) (v u : V) (Q : VK), (∀ a ∈ av, ∃ o, H a = some o) → VRep K av H x v → VRep K av H y u → f x y = some (.lst zs) →
  (∀ vs p, H p = none → RepL K av H zs vs → Q (.ref p) (upd H p (.lst vs))) → r v u H Q
def UnSG (K : PySem.W.Frag) (f : Dt → Option Dt) (r : V → Hp → VK → Prop) : Prop := ∀ (av : List Addr) (H : Hp) (x : Dt) (zs : List Dt) (v : V) (Q : VK), (∀ a ∈ av, ∃ o, H a = some o) → VRep K av H x v → f x = some (.lst zs) →
  (∀ vs p, H p = none → RepL K av H zs vs → Q (.ref p) (upd H p (.lst vs))) → r v H Q
section
variable {XT : Xt} {K : PySem.W.Frag} {W : WX} {σ : L2.St} {H : Hp} {Q : VK} {m : Ev → Sr → Rs (Wv × Sr)} {m' : Ev → Sr → Rs (Wv × Sr)}
theorem tG_tF (h : tG XT K W m σ H Q) : tF XT K W m σ H Q := by
  obtain ⟨fo, φ, ρ, st, hs, he, h⟩ := h
  refine ⟨fo, φ, ρ, st, hs, he, h.imp fun w st1 φ1 H1 s1 q1 h1 xs' vs p e' hp r => ?_⟩
  obtain ⟨xs, e, h1⟩ := h1
  subst e
  cases e'
  exact h1 vs p hp r
theorem tG_op1 {f : Dt → Option Dt} {r : V → Hp → VK → Prop} (hr : UnSG K f r) (h : tG XT K W (fun ρ st => (m ρ st).bind (op1 f)) σ H Q) : tW XT K W m σ H (fun x H1 => r x H1 Q) := by
  obtain ⟨fo, φ, ρ, st, hs, he, h⟩ := h
  refine ⟨fo, φ, ρ, st, hs, he, (Go.of_bind h).imp fun w st1 φ1 H1 s1 q1 h1 v rv => ?_⟩
  unfold op1 at h1
  simp only at h1
  cases e1 : viewW st1 w with
  | none => rw [e1] at h1; exact h1.elim
  | some x =>
    rw [e1] at h1
    cases e2 : f x with
    | none => simp only [Option.bind_some, e2] at h1; exact h1.elim
    | some z =>
      simp only [Option.bind_some, e2] at h1
      obtain ⟨zs, ez, h3⟩ := Go.run h1 q1
      cases ez
      exact hr (fo ++ φ1) H1 x zs v Q q1.trk (view_of q1 rv e1) e2 fun vs p hp r => h3 vs p hp r
theorem tG_op2 {f : Dt → Dt → Option Dt} {r : R2} (hr : OpSG K f r) (h : tG XT K W (fun ρ st => (m ρ st).bind fun p => (m' ρ p.2).bind fun q => op2 f p.1 q) σ H Q) : tOp r (tW XT K W m) (tW XT K W m') σ H Q := by
  obtain ⟨fo, φ, ρ, st, hs, he, h⟩ := h
  refine ⟨fo, φ, ρ, st, hs, he, (Go.of_bind h).imp fun w st1 φ1 H1 s1 q1 h1 v rv => ?_⟩
  refine ⟨fo, φ1, ρ, st1, q1, he.step s1, (Go.of_bind h1).imp fun w2 st2 φ2 H2 s2 q2 h2 v2 rv2 => ?_⟩
  unfold op2 at h2
  simp only at h2
  cases e1 : viewW st2 w with
  | none => rw [e1] at h2; exact h2.elim
  | some x =>
    cases e2 : viewW st2 w2 with
    | none => simp only [e1, e2, Option.bind_some] at h2; exact h2.elim
    | some y =>
      cases e3 : f x y with
      | none => simp only [e1, e2, e3, Option.bind_some] at h2; exact h2.elim
      | some z =>
        simp only [e1, e2, e3, Option.bind_some] at h2
        obtain ⟨zs, ez, h3⟩ := Go.run h2 q2
        cases ez
        exact hr (fo ++ φ2) H2 x y zs v v2 Q q2.trk (view_of q2 (rv.step s2) e1) (view_of q2 rv2 e2) e3 fun vs p hp r => h3 vs p hp r
theorem opsG_add : OpSG K (bopD .add) (rBop K .add) := by
  intro av H x y zs v u Q ht hx hy e q
  unfold bopD at e
  split at e <;> try (cases e; done)
  · split at e <;> cases e
  · split at e <;> cases e
  · split at e
    · rename_i hl
      cases e
      obtain ⟨a, vs, rfl, ha, ra⟩ := vlst hx
      obtain ⟨b, us, rfl, hb, rb⟩ := vlst hy
      exact .inr (.inr (.inr ⟨a, b, vs, us, rfl, rfl, ha, hb, by rw [← ra.length, ← rb.length, ← lim_eq]; exact hl, fun p hp => q _ p hp (ra.append rb)⟩))
    · cases e
  all_goals (rename_i h1; cases h1)
theorem unsG_list : UnSG K (p1D .list) (fun v H Q => rP1 K .list [v] H Q) := by
  intro av H x zs v Q ht hx e q
  cases x with
  | lst xs =>
    cases e
    obtain ⟨a, vs, rfl, ha, ra⟩ := vlst hx
    exact ⟨a, vs, rfl, .inl (.inl ha), fun l hl => q _ l hl ra⟩
  | tup xs =>
    cases e
    obtain ⟨a, vs, rfl, ha, ra⟩ := vtup hx
    exact ⟨a, vs, rfl, .inr ha, fun l hl => q _ l hl ra⟩
  | _ => cases e
end
section
variable {XT : Xt} {T : Tb} {Γ : Gam} {N : List Str} {X : Cx} {E : XK} {sc : Scope} {K : PySem.W.Frag} {σ : L2.St} {H : Hp}
theorem PS.weak {s : Stmt} {t t' : TS} (h : PS X s t) (f : ∀ D σ H, t' D σ H → t D σ H) : PS X s t' := ⟨fun pins s σ H D I q => h.run pins s σ H D I (f D σ H q)⟩
theorem PSs.weak {s : List Stmt} {t t' : TS} (h : PSs X s t) (f : ∀ D σ H, t' D σ H → t D σ H) : PSs X s t' := ⟨fun pins s σ H D I q => h.run pins s σ H D I (f D σ H q)⟩
structure SxOk (XT : Xt) (T : Tb) (Γ : Gam) (N : List Str) (X : Cx) (E : XK) (sc : Scope) : Prop where
  cx : CxOk XT T Γ N X (WEE E) sc
  kind : sc.kind = .function
  fn : ∀ x, X.fn x = true
  own : PassesOwn (model X.prog X.w) X.A X.env X.xe
  stk : X.stack = X.env :: X.outer
  frm : X.env.frame = some X.env.locals
theorem swaps_no {e : Expr} (h : isLC e = false) (t : Option Expr) (l : Nat) (env : PySem.Env) : swapsWith e t l env = pure false := by
  cases e <;> first | rfl | cases h
theorem swaps_lc {sc : Scope} {x : Str} {px : Pos} {e : Expr} {l : Nat} {env : PySem.Env} (hs : env.scope = sc) (h : swB sc x px e = false) (h0 : (∃ a b c d, e = .ListComp a b c d) ∨ isLC e = false) : swapsWith e (some (.Name x px)) l env = pure false := by
  cases e with
  | ListComp elt gs scope pos =>
    unfold swB at h
    unfold swapsWith
    subst hs
    show pure (_ && _ && _ && _) = pure false
    congr 1
    have hk : env.kindOf x = env.scope.names.lookup x := rfl
    rw [hk]
    cases hl : env.scope.names.lookup x with
    | none => simp
    | some k =>
      rw [hl] at h
      cases k with
      | «local» =>
        simp only [Bool.true_and] at h
        simp only [beq_self_eq_true, Bool.and_true, Expr.pos]
        rw [Bool.and_assoc, h, Bool.and_false]
      | _ => simp
  | SetComp a b c d => rcases h0 with ⟨_, _, _, _, z⟩ | z <;> cases z
  | DictComp a b c d f => rcases h0 with ⟨_, _, _, _, z⟩ | z <;> cases z
  | _ => rfl
/-! #### names stored -/
theorem chk_isLC {e : Ex} {y : Expr} (h : chkE T N sc e y = true) : (∃ a b c d, y = .ListComp a b c d) ∨ isLC y = false := by
  cases y with
  | ListComp a b c d => exact .inl ⟨a, b, c, d, rfl⟩
  | SetComp a b c d =>
    exfalso
    unfold chkE at h
    split at h <;> rename_i z <;> first | (cases z; done) | skip
    all_goals (first | cases h | (rename_i z2; cases z2))
  | DictComp a b c d f =>
    exfalso
    unfold chkE at h
    split at h <;> rename_i z <;> first | (cases z; done) | skip
    all_goals (first | cases h | (rename_i z2; cases z2))
  | _ => exact .inr rfl
theorem swB_inv {x : Str} {px pos : Pos} {elt : Expr} {gs : List Comprehension} {scope : Scope} {l : Nat} {env : PySem.Env} (hs : env.scope = sc) (hk : sc.kind = .function) (h : swB sc x px (.ListComp elt gs scope pos) = true) :
    env.scope.names.lookup x = some .local ∧ swapsWith (.ListComp elt gs scope pos) (some (.Name x px)) l env = pure true := by
  unfold swB at h
  simp only [Bool.and_eq_true] at h
  obtain ⟨⟨h1, h2⟩, h3⟩ := h
  subst hs
  have h1' : env.scope.names.lookup x = some .local := by
    split at h1
    · assumption
    · cases h1
  exact ⟨h1', sw_true hk h1' h2 (by simpa using h3)⟩
/-- name = [..] straight to the name -/
theorem ps_setLcF {W : WX} {i0 : Nat} {y : Str} {py spos : Pos} {elt : Ex} {tg : Tg} {it : Itx} {ifs : Exs} {x t i : Expr} {cs : List Expr} {scope : Scope} {pos : Pos} (c : CxOk XT T Γ N X W sc) (hN : N[i0]? = some y) (hyl : X.env.scope.names.lookup y = some .local)
    (hsw : swapsWith (.ListComp x [⟨t, i, cs, 0⟩] scope pos) (some (.Name y py)) spos.line X.env = pure true) (hi : PI X t i (tI XT X.K W (evI Γ it))) (hb : blkC N sc scope (ownOf tg t) = true) (hp : plainE i = true)
    (ht : chkTg N (isTg (relS scope sc) fun x => scope.names.lookup x == some .cell) tg t = true)
    (hif : ∀ (X' : Cx), CxOk XT T Γ N X' W0 (relS scope sc) → ∃ tt, PTs X' cs tt ∧ ∀ σ H Q, tT XT X'.K W0 (evIfs Γ ifs) σ H Q → tt σ H Q)
    (he : ∀ (X' : Cx), CxOk XT T Γ N X' W0 (relS scope sc) → PE X' x (tW XT X'.K W0 (evE Γ elt))) :
    PS X (.Assign [.Name y py] (.ListComp x [⟨t, i, cs, 0⟩] scope pos) spos) (tAsg (tF XT X.K W (evE Γ (.lc elt tg it ifs))) (gName i0)) := by
  have hg : ∀ (s : Shared) (H : Hp) (C : Addr) (cl : List (Str × Addr)) (fp : List Addr), PG (X.blk s H scope (compEnvC scope cl C X.env) fp) t (gTg X.K tg) := fun s H C cl fp =>
    pg_tg (X := X.blk s H scope (compEnvC scope cl C X.env) fp) (N := N) (sc := relS scope sc) (cell := fun x => scope.names.lookup x == some .cell) c.n c.nd (c.blk s H C cl fp scope).scope (fun x h => h) c.calm ht
  have hif' : ∀ (s : Shared) (H : Hp) (C : Addr) (cl : List (Str × Addr)) (fp : List Addr), PTs (X.blk s H scope (compEnvC scope cl C X.env) fp) cs (tT XT X.K W0 (evIfs Γ ifs)) := fun s H C cl fp => by
    obtain ⟨tt, h1, h2⟩ := hif (X.blk s H scope (compEnvC scope cl C X.env) fp) (c.blk s H C cl fp scope)
    exact ⟨fun pins s σ H Q I q => h1.run pins s σ H Q I (h2 σ H Q q)⟩
  have he' : ∀ (s : Shared) (H : Hp) (C : Addr) (cl : List (Str × Addr)) (fp : List Addr), PE (X.blk s H scope (compEnvC scope cl C X.env) fp) x (tW XT X.K W0 (evE Γ elt)) := fun s H C cl fp => he _ (c.blk s H C cl fp scope)
  have ok : BlkOk X.N X.env.scope scope (ownOf tg t) := by
    rw [c.n, c.scope]
    exact blkOk_by hb
  refine PS.weak (ps_setLc (i := i0) c.calm c.nd (by rw [c.n]; exact hN) hyl hsw hi ok hg hif' he' (plainE_set hp _)) fun D σ H h => ?_
  show tLc _ _ _ _ _ σ H _
  rw [ownOf_slots ht]
  refine lc_read (it := evI Γ it) (ifs := evIfs Γ ifs) (elt := evE Γ elt) ?_
  obtain ⟨fo, φ, ρ, st, hs, he, h⟩ := h
  refine ⟨fo, φ, ρ, st, hs, he, ?_⟩
  unfold evE at h
  exact h
theorem ps_fresh {i : Nat} {e : Ex} {x : Str} {px pos : Pos} {y : Expr} (c : SxOk XT T Γ N X E sc) (hN : N[i]? = some x) (hx : isTg sc (fun _ => true) x = true) (hy : chkE T N sc e y = true) (hf : freshE e = true) :
    PS X (.Assign [.Name x px] y pos) (tAsg (tF XT X.K (WEE E) (evE Γ e)) (gName i)) := by
  obtain ⟨l1, l2⟩ := isTg_loc hx
  have hN' : X.N[i]? = some x := by rw [c.cx.n]; exact hN
  have hl : Loc X.env.scope x := by rw [c.cx.scope]; exact l1
  cases e with
  | lst es =>
    obtain ⟨xs, p, rfl, h1⟩ := chk_lst hy
    exact ps_set (i := i) c.cx.nd hN' hl (pe_lstF (paS es c.cx xs h1)) rfl (.inl (c.fn x))
  | lc elt tg it ifs =>
    have hPE := lcS elt tg it ifs c.cx y hy
    obtain ⟨x', t, i', cs, scope, p, rfl, h1, h2, h3, h4, h5, h6, h7⟩ := chk_lc hy
    cases hsw : swB sc x px (.ListComp x' [⟨t, i', cs, 0⟩] scope p) with
    | false => exact ps_set (i := i) c.cx.nd hN' hl hPE (swaps_lc c.cx.scope hsw (.inl ⟨_, _, _, _, rfl⟩)) (.inl (c.fn x))
    | true =>
      obtain ⟨k1, k2⟩ := swB_inv (l := pos.line) (env := X.env) c.cx.scope c.kind hsw
      exact ps_setLcF c.cx hN k1 k2 (piS it c.cx i' t h2 h1) h3 h4 h5 (fun X' c' => ifS ifs c' cs h6) fun X' c' => peS elt c' x' h7
  | _ => cases hf
theorem ps_any {i : Nat} {e : Ex} {x : Str} {px pos : Pos} {y : Expr} (c : SxOk XT T Γ N X E sc) (hN : N[i]? = some x) (hx : isTg sc (fun _ => true) x = true) (hy : chkE T N sc e y = true) :
    PS X (.Assign [.Name x px] y pos) (tAsg (tW XT X.K (WEE E) (evE Γ e)) (gName i)) := by
  cases hf : freshE e with
  | true => exact PS.weak (ps_fresh c hN hx hy hf) fun D σ H h => tW_tF h
  | false =>
    obtain ⟨l1, l2⟩ := isTg_loc hx
    have hN' : X.N[i]? = some x := by rw [c.cx.n]; exact hN
    have hl : Loc X.env.scope x := by rw [c.cx.scope]; exact l1
    have hLC : isLC y = false := by
      rcases chk_isLC hy with ⟨a, b, d, f, rfl⟩ | h
      · exfalso
        unfold chkE at hy
        split at hy <;> rename_i z <;> first | (cases z; done) | skip
        all_goals (first | (cases hy; done) | (rename_i z2; cases z2; done) | (cases hf; done) | skip)
      · exact h
    exact ps_set (i := i) c.cx.nd hN' hl (peS e c.cx y hy) (swaps_no hLC _ _ _) (.inl (c.fn x))
theorem pe_listG {W : WX} {a : Ex} {y : Expr} {pn pos : Pos} (c : CxOk XT T Γ N X W sc) (hg : isGl sc (Str.ofString (pyP1 .list)) = true) (ha : PE X y (tW XT X.K W (evE Γ a))) (hy : plainE y = true) :
    PE X (.Call (.Name (Str.ofString (pyP1 .list)) pn) [y] [] pos) (tG XT X.K W (evE Γ (.p1 .list a))) := by
  have hb := boot_p1 .list
  have hc := call_p1 (X := X) c.calm c.units .list
  have hm := c.blt _ (mem_p1 .list)
  refine PE.weak (pe_callTy hc (c.gl hg) hm hb (pa_one ha hy) (ne_p1 .list) (isGl_gl hg).2 (plainE_star hy _ _) rfl) fun σ H Q h => ?_
  refine tG_op1 unsG_list ?_
  obtain ⟨fo, φ, ρ, st, hs, he, h⟩ := h
  unfold evE at h
  exact ⟨fo, φ, ρ, st, hs, he, h⟩
theorem pe_addG {W : WX} {a b : Ex} {x y : Expr} {pos : Pos} (ha : PE X x (tW XT X.K W (evE Γ a))) (hb : PE X y (tW XT X.K W (evE Γ b))) : PE X (.BinOp x (pyBop .add) y pos) (tG XT X.K W (evE Γ (.bin .add a b))) := by
  refine PE.weak (pe_op (op_bop .add) ha hb) fun σ H Q h => ?_
  refine tG_op2 opsG_add ?_
  obtain ⟨fo, φ, ρ, st, hs, he, h⟩ := h
  unfold evE at h
  exact ⟨fo, φ, ρ, st, hs, he, h⟩
theorem ps_freshX {i : Nat} {e : Ex} {x : Str} {px pos : Pos} {y : Expr} (c : SxOk XT T Γ N X E sc) (hN : N[i]? = some x) (hx : isTg sc (fun _ => true) x = true) (hy : chkE T N sc e y = true) (hf : freshX e = true) :
    PS X (.Assign [.Name x px] y pos) (tAsg (tG XT X.K (WEE E) (evE Γ e)) (gName i)) := by
  cases hf0 : freshE e with
  | true => exact PS.weak (ps_fresh c hN hx hy hf0) fun D σ H h => tG_tF h
  | false =>
    obtain ⟨l1, l2⟩ := isTg_loc hx
    have hN' : X.N[i]? = some x := by rw [c.cx.n]; exact hN
    have hl : Loc X.env.scope x := by rw [c.cx.scope]; exact l1
    unfold freshX at hf
    split at hf
    · obtain ⟨p1, z, q, rfl, h1, h2, h3⟩ := chk_p1 hy
      exact ps_set (i := i) c.cx.nd hN' hl (pe_listG c.cx h1 (peS _ c.cx z h2) h3) rfl (.inl (c.fn x))
    · obtain ⟨u, v, p, rfl, h1, h2⟩ := chk_bin hy
      exact ps_set (i := i) c.cx.nd hN' hl (pe_addG (peS _ c.cx u h1) (peS _ c.cx v h2)) rfl (.inl (c.fn x))
    · rw [hf0] at hf; cases hf
end
end PB

set_option Elab.async false
set_option linter.all false
set_option maxRecDepth 100000
set_option maxHeartbeats 4000000
set_option backward.match.sparseCases false
/-! Statements keep their meaning: the theorem. -/
namespace PB
open PySem PySem.Spec PyProof.Rows L2
section
variable {XT : Xt} {T : Tb} {Γ : Gam} {N : List Str} {X : Cx} {E : XK} {sc : Scope} {K : PySem.W.Frag} {σ : L2.St} {H H1 : Hp} {fo φ : List Addr} {st : Sr}
theorem get_push {α : Type} (xs : List α) (x : α) {n : Nat} {y : α} (h : (xs ++ [x])[n]? = some y) : xs[n]? = some y ∨ (n = xs.length ∧ y = x) := by
  rw [List.getElem?_append] at h
  split at h
  · exact .inl h
  · rename_i hn
    right
    have : n - xs.length = 0 := by
      have := (List.getElem?_eq_some_iff.mp h).1
      simp at this
      omega
    rw [this] at h
    simp at h
    exact ⟨by omega, h.symm⟩
/-- a new list is laid into the store -/
theorem Sok.pushL {p : Addr} {xs : List Dt} {vs : List V} (s : Sok K fo φ H st) (hp : H p = none) (r : RepL K (fo ++ φ) H xs vs) :
    Step φ H (φ ++ [p]) (upd H p (.lst vs)) ∧ Sok K fo (φ ++ [p]) (upd H p (.lst vs)) (st ++ [.lst xs]) ∧ (φ ++ [p])[st.length]? = some p := by
  have hpn := s.fresh hp
  rw [List.mem_append, not_or] at hpn
  have stp : Step φ H (φ ++ [p]) (upd H p (.lst vs)) := ⟨⟨[p], rfl⟩, fun a o n e => by
    have ha : a ≠ p := ne_of_none e hp
    exact ⟨by rw [upd_ne ha]; exact e, by simp [n, ha]⟩⟩
  refine ⟨stp, ⟨by simp [s.len], ?_, fun a ha => ?_, fun a ha => ?_, fun n a ys e1 e2 => ?_⟩, ?_⟩
  · rw [List.nodup_append]
    refine ⟨s.nd, by simp, fun a ha b hb => ?_⟩
    have : b = p := by simpa using hb
    rw [this]
    exact fun e => hpn.2 (by rw [← e]; exact ha)
  · obtain ⟨o, e⟩ := s.ft a ha
    exact ⟨o, by rw [upd_ne (ne_of_none e hp)]; exact e⟩
  · rcases List.mem_append.mp ha with ha | ha
    · exact s.dj a ha
    · have : a = p := by simpa using ha
      rw [this]; exact hpn.1
  · rcases get_push _ _ e2 with e2 | ⟨rfl, e5⟩
    · have hn : n < φ.length := by rw [s.len]; exact (List.getElem?_eq_some_iff.mp e2).1
      rw [List.getElem?_append_left hn] at e1
      obtain ⟨us, e3, q⟩ := s.ob n a ys e1 e2
      exact ⟨us, by rw [upd_ne (ne_of_none e3 hp)]; exact e3, RepL.keep stp.keeps q⟩
    · cases e5
      rw [← s.len] at e1
      simp at e1
      subst e1
      exact ⟨vs, upd_same, RepL.keep stp.keeps r⟩
  · rw [← s.len]; simp
/-- an object of the store changes -/
theorem Sok.setL {n : Nat} {a : Addr} {xs : List Dt} {vs : List V} (s : Sok K fo φ H st) (ha : φ[n]? = some a) (r : RepL K (fo ++ φ) H xs vs) :
    Step φ H φ (upd H a (.lst vs)) ∧ Sok K fo φ (upd H a (.lst vs)) (st.set n (.lst xs)) := by
  have hm : a ∈ φ := List.mem_of_getElem? ha
  have stp : Step φ H φ (upd H a (.lst vs)) := ⟨⟨[], by simp⟩, fun b o hn e => by
    have hb : b ≠ a := fun z => hn (by rw [z]; exact hm)
    exact ⟨by rw [upd_ne hb]; exact e, hn⟩⟩
  refine ⟨stp, ⟨by simp [s.len], s.nd, fun b hb => ?_, s.dj, fun m b ys e1 e2 => ?_⟩⟩
  · obtain ⟨o, e⟩ := s.ft b hb
    have hne : b ≠ a := fun z => s.dj a hm (by rw [← z]; exact hb)
    exact ⟨o, by rw [upd_ne hne]; exact e⟩
  · by_cases hmn : n = m
    · subst hmn
      rw [ha] at e1
      cases e1
      have hl : n < st.length := by rw [← s.len]; exact (List.getElem?_eq_some_iff.mp ha).1
      rw [List.getElem?_set_self hl] at e2
      cases e2
      exact ⟨vs, upd_same, RepL.keep stp.keeps r⟩
    · rw [List.getElem?_set_ne hmn] at e2
      obtain ⟨us, e3, q⟩ := s.ob m b ys e1 e2
      have hne : b ≠ a := fun z => by
        rw [z] at e1
        obtain ⟨h1, h2⟩ := List.getElem?_eq_some_iff.mp ha
        obtain ⟨h3, h4⟩ := List.getElem?_eq_some_iff.mp e1
        exact hmn ((List.getElem_inj s.nd).mp (h2.trans h4.symm))
      exact ⟨us, by rw [upd_ne hne]; exact e3, RepL.keep stp.keeps q⟩
theorem s_set {i : Nat} {e : Ex} {D : Ends} (h : tS XT K E (exS Γ (.set i e)) D σ H) : tAsg (tW XT K (WEE E) (evE Γ e)) (gName i) D σ H := by
  obtain ⟨fo, φ, ρ, st, hs, he, h⟩ := h
  unfold exS at h
  refine ⟨fo, φ, ρ, st, hs, he, (Go.of_bind h).imp fun w st1 φ1 H1 s1 q1 h1 v rv => ?_⟩
  exact (Go.run h1 q1) _ ((he.step s1).set rv)
theorem s_setL {i : Nat} {e : Ex} {D : Ends} (h : tS XT K E (exS Γ (.setL i e)) D σ H) : tAsg (tG XT K (WEE E) (evE Γ e)) (gName i) D σ H := by
  obtain ⟨fo, φ, ρ, st, hs, he, h⟩ := h
  unfold exS at h
  refine ⟨fo, φ, ρ, st, hs, he, (Go.of_bind h).imp fun w st1 φ1 H1 s1 q1 h1 => ?_⟩
  unfold layL at h1
  dsimp only at h1
  split at h1
  · rename_i xs
    refine ⟨xs, rfl, fun vs p hp r => ?_⟩
    obtain ⟨a1, a2, a3⟩ := q1.pushL hp r
    have h2 : Go K (xwOf XT K (WEE E) σ fo) fo φ1 H1 (.ok ((Fl.nx, ρ.set i (some (.ob st1.length))), st1 ++ [.lst xs])) (fun p _ φ' H' => FlP K fo D p φ' H') := h1
    exact h2 _ _ a1 a2 _ (((he.step s1).step a1).set ⟨p, a3, rfl⟩)
  · exact False.elim h1
theorem s_unp {is : List Nat} {e : Ex} {D : Ends} (h : tS XT K E (exS Γ (.unp is e)) D σ H) : tAsg (tW XT K (WEE E) (evE Γ e)) (gTup K is.length (gMany is)) D σ H := by
  obtain ⟨fo, φ, ρ, st, hs, he, h⟩ := h
  unfold exS at h
  refine ⟨fo, φ, ρ, st, hs, he, (Go.of_bind h).imp fun w st1 φ1 H1 s1 q1 h1 v rv => ?_⟩
  unfold unpW at h1
  dsimp only at h1
  split at h1
  · rename_i xs
    cases e1 : setMany is xs ρ with
    | none => rw [e1] at h1; exact False.elim h1
    | some ρ' =>
      rw [e1] at h1
      obtain ⟨a, vs, rfl, r, rr⟩ := Rep.sqT rv
      refine ⟨a, vs, rfl, r, by rw [← rr.length]; exact gMany_len e1, ?_⟩
      exact gMany_ok (all := is) e1 (fun i hi => hi) (he.step s1) rr fun σ' he' _ => (Go.run h1 q1) σ' he'
  · exact False.elim h1
theorem s_ret {e : Ex} {D : Ends} (h : tS XT K E (exS Γ (.ret e)) D σ H) : tRet (tW XT K (WEE E) (evE Γ e)) D σ H := by
  obtain ⟨fo, φ, ρ, st, hs, he, h⟩ := h
  unfold exS at h
  refine ⟨fo, φ, ρ, st, hs, he, (Go.of_bind h).imp fun w st1 φ1 H1 s1 q1 h1 v rv => ?_⟩
  exact (Go.run h1 q1) σ (he.step s1) v rv
theorem s_expr {e : Ex} {D : Ends} (h : tS XT K E (exS Γ (.expr e)) D σ H) : tDrop (tW XT K (WEE E) (evE Γ e)) D σ H := by
  obtain ⟨fo, φ, ρ, st, hs, he, h⟩ := h
  unfold exS at h
  refine ⟨fo, φ, ρ, st, hs, he, (Go.of_bind h).imp fun w st1 φ1 H1 s1 q1 h1 v rv => ?_⟩
  exact (Go.run h1 q1) σ (he.step s1)
theorem s_ife {c : Ex} {a b : Sms} {D : Ends} (h : tS XT K E (exS Γ (.ife c a b)) D σ H) : tIfS (tT XT K (WEE E) (evT Γ c)) (tS XT K E (exSs Γ a)) (tS XT K E (exSs Γ b)) D σ H := by
  obtain ⟨fo, φ, ρ, st, hs, he, h⟩ := h
  unfold exS at h
  refine ⟨fo, φ, ρ, st, hs, he, (Go.of_bind h).imp fun k st1 φ1 H1 s1 q1 h1 => ?_⟩
  cases k with
  | true => exact ⟨fo, φ1, ρ, st1, q1, he.step s1, h1⟩
  | false => exact ⟨fo, φ1, ρ, st1, q1, he.step s1, h1⟩
theorem obW_inv {o : Option (Option Wv)} {n : Nat} (h : obW o = some n) : o = some (some (.ob n)) := by
  unfold obW at h
  split at h
  · cases h; rfl
  · cases h
theorem s_app {i : Nat} {e : Ex} {D : Ends} (h : tS XT K E (exS Γ (.app i e)) D σ H) : tDrop (tBM K "list" rAppend (tVar i) (tCons (tW XT K (WEE E) (evE Γ e)) tNil)) D σ H := by
  obtain ⟨fo, φ, ρ, st, hs, he, h⟩ := h
  unfold exS at h
  cases e1 : obW ρ[i]? with
  | none => rw [e1] at h; exact False.elim h
  | some n =>
    rw [e1] at h
    simp only [Option.map_some, Rs.ofO_some, Rs.bind_ok] at h
    obtain ⟨v, e2, a, ea, rfl⟩ := he.at_ i _ (obW_inv e1)
    refine ⟨.ref a, e2, ?_⟩
    unfold seenW at h
    cases e3 : st[n]? with
    | none => rw [e3] at h; exact False.elim h
    | some o =>
      cases o with
      | lst xs0 =>
        rw [e3] at h
        simp only [Rs.bind_ok] at h
        obtain ⟨vs0, h0, r0⟩ := hs.ob n a xs0 ea e3
        refine ⟨.inl ⟨rfl, vs0, .inl (.inl h0)⟩, ?_⟩
        refine ⟨fo, φ, ρ, st, hs, he, (Go.of_bind h).imp fun w st1 φ1 H1 s1 q1 h1 v rv => ?_⟩
        unfold appW at h1
        dsimp only at h1
        split at h1
        · rename_i y xs e4
          split at h1
          · rename_i hl
            obtain ⟨vs, h5, r5⟩ := q1.ob n a xs (s1.get ea) e4
            refine ⟨a, vs, v, rfl, rfl, h5, by rw [← r5.length, ← lim_eq]; exact hl, ?_⟩
            obtain ⟨b1, b2⟩ := q1.setL (s1.get ea) (r5.append (.cons rv .nil))
            exact h1 _ _ b1 b2 σ ((he.step s1).step b1)
          · exact False.elim h1
        · exact False.elim h1
theorem s_seq {s : Sm} {r : Sms} {D : Ends} (h : tS XT K E (exSs Γ (.cons s r)) D σ H) : tSeq (tS XT K E (exS Γ s)) (tS XT K E (exSs Γ r)) D σ H := by
  obtain ⟨fo, φ, ρ, st, hs, he, h⟩ := h
  unfold exSs at h
  refine ⟨fo, φ, ρ, st, hs, he, (Go.of_bind h).imp fun p st1 φ1 H1 s1 q1 h1 => ?_⟩
  obtain ⟨fl, ρ'⟩ := p
  intro σ' he'
  cases fl with
  | nx => exact ⟨fo, φ1, ρ', st1, q1, he', h1⟩
  | rt w => exact (Go.run (a := (Fl.rt w, ρ')) (st := st1) h1 q1) σ' he'
  | bk => exact (Go.run (a := (Fl.bk, ρ')) (st := st1) h1 q1) σ' he'
  | ct => exact (Go.run (a := (Fl.ct, ρ')) (st := st1) h1 q1) σ' he'
theorem s_nil {D : Ends} (h : tS XT K E (exSs Γ .nil) D σ H) : tNext D σ H := by
  obtain ⟨fo, φ, ρ, st, hs, he, h⟩ := h
  unfold exSs at h
  exact (Go.run h hs) σ he
theorem s_for {tg : Tg} {it : Itx} {b : Sms} {D : Ends} (h : tS XT K E (exS Γ (.forS tg it b)) D σ H) : tFor (tI XT K (WEE E) (evI Γ it)) (gTg K tg) (tS XT K E (exSs Γ b)) D σ H := by
  obtain ⟨fo, φ, ρ, st, hs, he, h⟩ := h
  unfold exS at h
  refine ⟨fo, φ, ρ, st, hs, he, (Go.of_bind h).imp fun p st1 φ1 H1 s1 q1 h1 J wk wo => ?_⟩
  obtain ⟨items, ws⟩ := p
  dsimp only at h1 wo
  refine ⟨fun i m σ H => m = items.length - i ∧ i ≤ items.length ∧ ∃ φ ρ st, Sok K fo φ H st ∧ EnvOk K fo φ H ρ σ ∧ (∃ t, φ = φ1 ++ t) ∧ Keeps (fo ++ φ1) H1 (fo ++ φ) H ∧ watchOk ws st = true ∧
      Go K (xwOf XT K (WEE E) σ fo) fo φ H (exFor (exSs Γ b) tg ws (items.drop i) ρ st) (fun p _ φ' H' => FlP K fo D p φ' H'),
    ⟨items.length, by simp, Nat.zero_le _, φ1, ρ, st1, q1, he.step s1, ⟨[], by simp⟩, .refl, wo, by rw [List.drop_zero]; exact h1⟩, ?_⟩
  rintro i m σ H ⟨rfl, hi, φ, ρ, st, q, en, ex, kp, wo, hg⟩
  obtain ⟨w1, w2, w3⟩ := wk fo φ H st ex kp q wo
  by_cases hlt : i < items.length
  · obtain ⟨d, hd⟩ := get_lt hlt
    have hdrop : items.drop i = d :: items.drop (i + 1) := by
      rw [List.drop_eq_getElem_cons hlt]
      congr 1
      exact Option.some.inj ((List.getElem?_eq_getElem hlt).symm.trans hd)
    rw [hdrop] at hg
    unfold exFor at hg
    cases es : setTg tg d ρ with
    | none => rw [es] at hg; exact False.elim hg
    | some ρ' =>
      rw [es] at hg
      dsimp only at hg
      refine .inr ⟨w1 i hlt, fun σ' H' => items.length - (i + 1) = items.length - (i + 1) ∧ i + 1 ≤ items.length ∧ ∃ φ ρ st, Sok K fo φ H' st ∧ EnvOk K fo φ H' ρ σ' ∧ (∃ t, φ = φ1 ++ t) ∧ Keeps (fo ++ φ1) H1 (fo ++ φ) H' ∧ watchOk ws st = true ∧
        Go K (xwOf XT K (WEE E) σ' fo) fo φ H' (exFor (exSs Γ b) tg ws (items.drop (i + 1)) ρ st) (fun p _ φ' H' => FlP K fo D p φ' H'), fun σ' H' hN => ⟨_, by omega, hN⟩, fun x H' hy => ?_⟩
      obtain ⟨sm, rx⟩ := w3 i d x H' hd hy
      have sm' : Step φ H φ H' := Step.same sm
      refine gTg_ok es (en.step sm') rx fun σ2 en3 _ => ?_
      refine ⟨fo, φ, ρ', st, q.same sm, en3, (Go.of_bind (Go.at_ hg sm')).imp fun p st3 φ3 H3 s3 q3 h3 => ?_⟩
      obtain ⟨fl, ρ3⟩ := p
      have s03 : Step φ H φ3 H3 := sm'.trans s3
      have ex3 : ∃ t, φ3 = φ1 ++ t := by
        obtain ⟨t, e1⟩ := ex
        obtain ⟨u, e2⟩ := s03.ext
        exact ⟨t ++ u, by rw [e2, e1, List.append_assoc]⟩
      have kp3 : Keeps (fo ++ φ1) H1 (fo ++ φ3) H3 := kp.trans (s03.keeps (fo := fo))
      intro σ3 he3
      dsimp only at h3
      cases fl with
      | nx =>
        dsimp only at h3
        split at h3
        · rename_i hw
          exact ⟨rfl, hlt, φ3, ρ3, st3, q3, he3, ex3, kp3, hw, h3⟩
        · exact False.elim h3
      | ct =>
        dsimp only at h3
        split at h3
        · rename_i hw
          exact ⟨rfl, hlt, φ3, ρ3, st3, q3, he3, ex3, kp3, hw, h3⟩
        · exact False.elim h3
      | bk => exact (Go.run (a := (Fl.nx, ρ3)) (st := st3) h3 q3) σ3 he3
      | rt w => exact (Go.run (a := (Fl.rt w, ρ3)) (st := st3) h3 q3) σ3 he3
  · have ei : i = items.length := by omega
    subst ei
    rw [List.drop_length] at hg
    unfold exFor at hg
    exact .inl ⟨w2, (Go.run hg q) σ en⟩
theorem s_whl {c : Ex} {b : Sms} {D : Ends} (h : tS XT K E (exS Γ (.whl c b)) D σ H) : tWhile (tT XT K (WEE E) (evT Γ c)) (tS XT K E (exSs Γ b)) D σ H := by
  obtain ⟨fo, φ, ρ, st, hs, he, h⟩ := h
  unfold exS at h
  refine ⟨fun m σ H => ∃ φ ρ st, Sok K fo φ H st ∧ EnvOk K fo φ H ρ σ ∧ Go K (xwOf XT K (WEE E) σ fo) fo φ H (exWhl (evT Γ c) (exSs Γ b) m ρ st) (fun p _ φ' H' => FlP K fo D p φ' H'), ⟨turns, φ, ρ, st, hs, he, h⟩, ?_⟩
  rintro m σ H ⟨φ, ρ, st, q, en, hg⟩
  cases m with
  | zero => exact False.elim hg
  | succ m =>
    unfold exWhl at hg
    refine ⟨fo, φ, ρ, st, q, en, (Go.of_bind hg).imp fun k st1 φ1 H1 s1 q1 h1 => ?_⟩
    cases k with
    | false => exact (Go.run (a := (Fl.nx, ρ)) (st := st1) h1 q1) σ (en.step s1)
    | true =>
      refine ⟨fun σ H => ∃ φ ρ st, Sok K fo φ H st ∧ EnvOk K fo φ H ρ σ ∧ Go K (xwOf XT K (WEE E) σ fo) fo φ H (exWhl (evT Γ c) (exSs Γ b) m ρ st) (fun p _ φ' H' => FlP K fo D p φ' H'), fun σ' H' hN => ⟨m, Nat.lt_succ_self m, hN⟩, ?_⟩
      have h1 : Go K (xwOf XT K (WEE E) σ fo) fo φ1 H1 ((exSs Γ b ρ st1).bind fun p => match p.1.1 with
        | .nx => exWhl (evT Γ c) (exSs Γ b) m p.1.2 p.2
        | .ct => exWhl (evT Γ c) (exSs Γ b) m p.1.2 p.2
        | .bk => .ok ((.nx, p.1.2), p.2)
        | .rt w => .ok ((.rt w, p.1.2), p.2)) (fun p _ φ' H' => FlP K fo D p φ' H') := h1
      refine ⟨fo, φ1, ρ, st1, q1, en.step s1, (Go.of_bind h1).imp fun p st3 φ3 H3 s3 q3 h3 => ?_⟩
      obtain ⟨fl, ρ3⟩ := p
      intro σ3 he3
      dsimp only at h3
      cases fl with
      | nx => exact ⟨φ3, ρ3, st3, q3, he3, h3⟩
      | ct => exact ⟨φ3, ρ3, st3, q3, he3, h3⟩
      | bk => exact (Go.run (a := (Fl.nx, ρ3)) (st := st3) h3 q3) σ3 he3
      | rt w => exact (Go.run (a := (Fl.rt w, ρ3)) (st := st3) h3 q3) σ3 he3

/-! #### a try whose suite tells of the exception's classes -/
def tSW (XT : Xt) (K : PySem.W.Frag) (W : WX) (m : Ev → Sr → Rs Sx) : TS := fun D σ H => ∃ fo φ ρ st, Sok K fo φ H st ∧ EnvOk K fo φ H ρ σ ∧
  Go K (xwOf XT K W σ fo) fo φ H (m ρ st) (fun p _ φ' H' => FlP K fo D p φ' H')
section
variable {W : WX}
theorem w_expr {e : Ex} {D : Ends} (h : tSW XT K W (exS Γ (.expr e)) D σ H) : tDrop (tW XT K W (evE Γ e)) D σ H := by
  obtain ⟨fo, φ, ρ, st, hs, he, h⟩ := h
  unfold exS at h
  refine ⟨fo, φ, ρ, st, hs, he, (Go.of_bind h).imp fun w st1 φ1 H1 s1 q1 h1 v rv => ?_⟩
  exact (Go.run h1 q1) σ (he.step s1)
theorem w_set {i : Nat} {e : Ex} {D : Ends} (h : tSW XT K W (exS Γ (.set i e)) D σ H) : tAsg (tW XT K W (evE Γ e)) (gName i) D σ H := by
  obtain ⟨fo, φ, ρ, st, hs, he, h⟩ := h
  unfold exS at h
  refine ⟨fo, φ, ρ, st, hs, he, (Go.of_bind h).imp fun w st1 φ1 H1 s1 q1 h1 v rv => ?_⟩
  exact (Go.run h1 q1) _ ((he.step s1).set rv)
theorem w_ife {c : Ex} {a b : Sms} {D : Ends} (h : tSW XT K W (exS Γ (.ife c a b)) D σ H) : tIfS (tT XT K W (evT Γ c)) (tSW XT K W (exSs Γ a)) (tSW XT K W (exSs Γ b)) D σ H := by
  obtain ⟨fo, φ, ρ, st, hs, he, h⟩ := h
  unfold exS at h
  refine ⟨fo, φ, ρ, st, hs, he, (Go.of_bind h).imp fun k st1 φ1 H1 s1 q1 h1 => ?_⟩
  cases k with
  | true => exact ⟨fo, φ1, ρ, st1, q1, he.step s1, h1⟩
  | false => exact ⟨fo, φ1, ρ, st1, q1, he.step s1, h1⟩
theorem w_one {s : Sm} {D : Ends} (h : tSW XT K W (exSs Γ (.cons s .nil)) D σ H) : tSW XT K W (exS Γ s) D σ H := by
  obtain ⟨fo, φ, ρ, st, hs, he, h⟩ := h
  refine ⟨fo, φ, ρ, st, hs, he, ?_⟩
  unfold exSs at h
  refine (Go.of_bind h).imp fun p st1 φ1 H1 s1 q1 h1 => ?_
  obtain ⟨fl, ρ'⟩ := p
  cases fl with
  | nx =>
    unfold exSs at h1
    exact Go.run (a := (Fl.nx, ρ')) (st := st1) h1 q1
  | rt w => exact Go.run (a := (Fl.rt w, ρ')) (st := st1) h1 q1
  | bk => exact Go.run (a := (Fl.bk, ρ')) (st := st1) h1 q1
  | ct => exact Go.run (a := (Fl.ct, ρ')) (st := st1) h1 q1
theorem w_nil {D : Ends} (h : tSW XT K W (exSs Γ .nil) D σ H) : tNext D σ H := by
  obtain ⟨fo, φ, ρ, st, hs, he, h⟩ := h
  unfold exSs at h
  exact (Go.run h hs) σ he
end
mutual
theorem psW : ∀ (s : Sm) {X : Cx} {W : WX} {sc : Scope} (c : CxOk XT T Γ N X W sc) (fn : ∀ x, X.fn x = true) (ps : Stmt), simS s = true → chkS T N sc s ps = true → PS X ps (tSW XT X.K W (exS Γ s))
  | .expr e, X, W, sc, c, fn, ps, _, h => by
    unfold chkS at h
    split at h <;> try (rename_i z; cases z)
    · simp only [Bool.and_eq_true, Bool.not_eq_true'] at h
      exact PS.weak (ps_expr (peS e c _ h.1) (swaps_no h.2 _ _ _)) fun D σ H h => w_expr h
    · cases h
  | .set i e, X, W, sc, c, fn, ps, hs, h => by
    cases e with
    | call f es =>
      unfold chkS at h
      split at h <;> try (rename_i z; cases z)
      · simp only [Bool.and_eq_true, decide_eq_true_eq] at h
        obtain ⟨l1, l2⟩ := isTg_loc h.1.2
        obtain ⟨x', p, xs, q, e, _⟩ := chk_call h.2
        subst e
        have hLC : isLC (.Call (.Name x' p) xs [] q) = false := rfl
        exact PS.weak (ps_set (i := i) c.nd (by rw [c.n]; exact h.1.1) (by rw [c.scope]; exact l1) (peS _ c _ h.2) (swaps_no hLC _ _ _) (.inl (fn _))) fun D σ H h => w_set h
      · cases h
    | _ => simp [simS] at hs
  | .ife d a b, X, W, sc, c, fn, ps, hs, h => by
    unfold chkS at h
    unfold simS at hs
    split at h <;> try (rename_i z; cases z)
    · simp only [Bool.and_eq_true] at h hs
      exact PS.weak (ps_if (ptS d c _ h.1.1) (pssW a c fn _ hs.1 h.1.2) (pssW b c fn _ hs.2 h.2)) fun D σ H h => w_ife h
    · cases h
  | .setL _ _, X, W, sc, c, fn, ps, hs, h => by simp [simS] at hs
  | .unp _ _, X, W, sc, c, fn, ps, hs, h => by simp [simS] at hs
  | .ret _, X, W, sc, c, fn, ps, hs, h => by simp [simS] at hs
  | .forS _ _ _, X, W, sc, c, fn, ps, hs, h => by simp [simS] at hs
  | .whl _ _, X, W, sc, c, fn, ps, hs, h => by simp [simS] at hs
  | .app _ _, X, W, sc, c, fn, ps, hs, h => by simp [simS] at hs
  | .brk, X, W, sc, c, fn, ps, hs, h => by simp [simS] at hs
  | .cnt, X, W, sc, c, fn, ps, hs, h => by simp [simS] at hs
  | .pass, X, W, sc, c, fn, ps, hs, h => by simp [simS] at hs
  | .never, X, W, sc, c, fn, ps, hs, h => by simp [simS] at hs
  | .rai _, X, W, sc, c, fn, ps, hs, h => by simp [simS] at hs
  | .tryN _ _, X, W, sc, c, fn, ps, hs, h => by simp [simS] at hs
  | .tryX _ _ _ _ _, X, W, sc, c, fn, ps, hs, h => by simp [simS] at hs
  | .quo _, X, W, sc, c, fn, ps, hs, h => by simp [simS] at hs
theorem pssW : ∀ (s : Sms) {X : Cx} {W : WX} {sc : Scope} (c : CxOk XT T Γ N X W sc) (fn : ∀ x, X.fn x = true) (ps : List Stmt), simSs s = true → chkSs T N sc s ps = true → PSs X ps (tSW XT X.K W (exSs Γ s))
  | .nil, X, W, sc, c, fn, ps, _, h => by
    cases ps with
    | nil => exact PSs.weak pss_nil fun D σ H h => w_nil h
    | cons _ _ => unfold chkSs at h; cases h
  | .cons s .nil, X, W, sc, c, fn, ps, hs, h => by
    unfold simSs at hs
    simp only [Bool.and_eq_true] at hs
    cases ps with
    | nil => unfold chkSs at h; cases h
    | cons p ps =>
      unfold chkSs at h
      simp only [Bool.and_eq_true] at h
      cases ps with
      | nil => exact PSs.weak (pss_one (psW s c fn p hs.1 h.1)) fun D σ H h => w_one h
      | cons _ _ => have h2 := h.2; unfold chkSs at h2; cases h2
  | .cons s (.cons _ _), X, W, sc, c, fn, ps, hs, h => by simp [simSs] at hs
end
theorem kit_of {k c : Nat} {C D : Addr} (h : PySem.W.kitCls K (.ref C) (.ref D) = some (subB k c)) (h2 : C = D → subB k c = true) : PySem.W.kitOne K (.ref C) (.ref D) = some (subB k c) := by
  unfold PySem.W.kitOne
  split
  · rename_i e
    rw [h2 (Value.ref.inj (beq_iff_eq.mp e))]
  · exact h
theorem boot_ve : bootBuiltins ("ValueError" : Str) = some (.type "ValueError") := by decide +kernel
theorem ld_class {W : WX} {x : Str} {C : Addr} {pos : Pos} (c : CxOk XT T Γ N X W sc) (hg : isGl sc x = true) (hm : X.mg x = some (.ref C)) {a : Addr} {pn : List (Addr × Obj)} : PE (X.suite a pn) (.Name x pos) (tC (.ref C)) :=
  ⟨fun pins s σ H Q I h => ld_glob I (c.gl hg) hm ⟨.ref C, H, I, rfl, h⟩ (isGl_gl hg).2⟩
theorem pe_isX {W : WX} {i : Nat} {n z : Str} {C a : Addr} {oe : Obj} {pn : List (Addr × Obj)} {cv : V} {u : Value} {b : Bool} {p1 p2 p3 p4 : Pos} (c : CxOk XT T Γ N X W sc) (hi : N[i]? = some n) (hv : isVis sc n = true) (x8 : L2.ExcC X.K C) (hz : Zc (.ref C) none oe) (hf : ∃ vs, oe.data = .fields vs) (hg : isGl sc "isinstance" = true)
    (hT : PE (X.suite a ((a, oe) :: pn)) (.Name z p3) (tC cv)) (hcv : ∀ u', RelV cv u' → u' = u) (hk : PySem.W.kitOne X.K (.ref C) u = some b) :
    PE (X.suite a ((a, oe) :: pn)) (.Call (.Name "isinstance" p1) [.Name n p2, .Name z p3] [] p4) (fun σ H Q => σ[i]? = some (some (.ref a)) ∧ Q (.bl b) H) := by
  obtain ⟨v1, v2, v3⟩ := isVis_vis hv
  have hV : PE (X.suite a ((a, oe) :: pn)) (.Name n p2) (tVar i) := pe_var (i := i) (by show X.N[i]? = _; rw [c.n]; exact hi) (by show Vis X.env.scope n; rw [c.scope]; exact v1) v2 v3
  exact PE.weak (pe_callB (X := X.suite a ((a, oe) :: pn)) (call_isE x8 hz hf) (c.gl hg) (c.blt "isinstance" (by decide)) boot_isi (pa_cons hV (pa_cons hT pa_nil rfl) rfl) (by decide +kernel) (isGl_gl hg).2 rfl rfl) fun σ H Q h => ⟨.ref a, h.1, cv, u, b, rfl, hcv, hk, h.2⟩
theorem chkX_isi {n : Str} {o : Option Nat} {e : Expr} (h : chkX T sc n (.isi o) e = true) : ∃ p1 p2 z p3 p4, e = .Call (.Name "isinstance" p1) [.Name n p2, .Name z p3] [] p4 ∧ isGl sc "isinstance" = true ∧ isGl sc z = true ∧ ((o = none ∧ z = "ValueError") ∨ ∃ k, o = some k ∧ T.xcs[k]? = some (z, [])) := by
  unfold chkX at h
  split at h <;> rename_i z1 <;> first | (cases z1; done) | skip
  · cases z1
    simp only [Bool.and_eq_true, decide_eq_true_eq] at h
    obtain ⟨⟨⟨⟨rfl, h2⟩, rfl⟩, rfl⟩, h5⟩ := h
    exact ⟨_, _, _, _, _, rfl, h2, h5, .inl ⟨rfl, rfl⟩⟩
  · cases z1
    simp only [Bool.and_eq_true, decide_eq_true_eq] at h
    obtain ⟨⟨⟨⟨rfl, h2⟩, rfl⟩, h4⟩, h5⟩ := h
    exact ⟨_, _, _, _, _, rfl, h2, h5, .inr ⟨_, rfl, h4⟩⟩
  · cases h
theorem chkX_not {n : Str} {y : Xe} {e : Expr} (h : chkX T sc n (.not y) e = true) : ∃ f p, e = .UnaryOp .Not f p ∧ chkX T sc n y f = true := by
  unfold chkX at h
  split at h <;> rename_i z1 <;> first | (cases z1; done) | skip
  · cases z1
    exact ⟨_, _, rfl, h⟩
  · cases h
theorem chkX_and {n : Str} {y z : Xe} {e : Expr} (h : chkX T sc n (.and y z) e = true) : ∃ f g p, e = .BoolOp .And [f, g] p ∧ chkX T sc n y f = true ∧ chkX T sc n z g = true := by
  unfold chkX at h
  split at h <;> rename_i z1 <;> first | (cases z1; done) | skip
  · cases z1
    simp only [Bool.and_eq_true] at h
    exact ⟨_, _, _, rfl, h.1, h.2⟩
  · cases h
theorem pe_xe {W : WX} {k i : Nat} {n : Str} {C a : Addr} {oe : Obj} {pn : List (Addr × Obj)} (c : CxOk XT T Γ N X W sc) (hi : N[i]? = some n) (hv : isVis sc n = true) (x1 : XT.cls k = some (.ref C)) (x8 : XsOk XT X.K k C) (hz : Zc (.ref C) none oe) (hf : ∃ vs, oe.data = .fields vs) :
    ∀ (x : Xe) (e : Expr), chkX T sc n x e = true → PE (X.suite a ((a, oe) :: pn)) e (fun σ H Q => σ[i]? = some (some (.ref a)) ∧ Q (.bl (xeB k x)) H)
  | .isi o, e, h => by
    obtain ⟨p1, p2, z, p3, p4, rfl, g1, g2, hq⟩ := chkX_isi h
    rcases hq with ⟨rfl, rfl⟩ | ⟨k', rfl, hq⟩
    · exact pe_isX c hi hv x8.1 hz hf g1 (pe_bltn (X := X.suite a ((a, oe) :: pn)) (v := .ty "ValueError") (c.gl g2) (c.blt "ValueError" (by decide)) boot_ve rfl (by decide +kernel) (isGl_gl g2).2) (fun u' r => r) x8.2.1
    · obtain ⟨D, y1, y2, y3, y4, y5, y6, y7, y8⟩ := c.xc.1 _ _ hq
      refine pe_isX c hi hv x8.1 hz hf g1 (ld_class c g2 y3) (fun u' r => r) (kit_of (k := k) (c := k') (x8.2.2 k' D y1 y2) fun e => ?_)
      subst e
      have q1 := x8.2.2 k' C y1 y2
      have q2 := y8.2.2 k' C y1 y2
      rw [q1] at q2
      rw [Option.some.inj q2]
      unfold subB
      simp
  | .not y, e, h => by
    obtain ⟨f, p, rfl, h⟩ := chkX_not h
    exact PE.weak (pe_not (pe_xe c hi hv x1 x8 hz hf y f h)) fun σ H Q q => ⟨q.1, _, rfl, q.2⟩
  | .and y z, e, h => by
    obtain ⟨f, g, p, rfl, h1, h2⟩ := chkX_and h
    refine PE.weak (pe_and (pe_xe c hi hv x1 x8 hz hf y f h1) (pe_one (pe_xe c hi hv x1 x8 hz hf z g h2))) fun σ H Q q => ⟨q.1, _, rfl, ?_⟩
    have q2 := q.2
    unfold xeB at q2
    cases e : xeB k y with
    | true => rw [e, Bool.true_and] at q2; exact ⟨q.1, q2⟩
    | false => rw [e, Bool.false_and] at q2; exact q2
theorem pa_xs {W : WX} {k i : Nat} {n : Str} {C a : Addr} {oe : Obj} {pn : List (Addr × Obj)} (c : CxOk XT T Γ N X W sc) (hi : N[i]? = some n) (hv : isVis sc n = true) (x1 : XT.cls k = some (.ref C)) (x8 : XsOk XT X.K k C) (hz : Zc (.ref C) none oe) (hf : ∃ vs, oe.data = .fields vs) :
    ∀ (xs : List Xe) (es : List Expr), chkXs T sc n xs es = true → PA (X.suite a ((a, oe) :: pn)) es (fun σ H Q => σ[i]? = some (some (.ref a)) ∧ Q (xs.map fun x => V.bl (xeB k x)) H)
  | [], [], h => ⟨fun p pins s σ H Q I q => pa_nil.run p pins s σ H Q I q.2⟩
  | x :: xs, e :: es, h => by
    unfold chkXs at h
    simp only [Bool.and_eq_true] at h
    have h1 := pe_xe (a := a) (pn := pn) c hi hv x1 x8 hz hf x e h.1.1
    have h2 := pa_xs (a := a) (pn := pn) c hi hv x1 x8 hz hf xs es h.2
    exact ⟨fun p pins s σ H Q I q => (pa_cons h1 h2 (plainE_star h.1.2 _ _)).run p pins s σ H Q I ⟨q.1, q.1, q.2⟩⟩
  | [], _ :: _, h => by unfold chkXs at h; cases h
  | _ :: _, [], h => by unfold chkXs at h; cases h
/-- the suite's reading -/
def tsX (XT : Xt) (K : PySem.W.Frag) (i j : Nat) (xs : List Xe) (a : Addr) (cls : Value) (d : Option Addr) : TS := fun D σ H => ∃ k C, cls = .ref C ∧ d = none ∧ XT.cls k = some (.ref C) ∧ XsOk XT K k C ∧ σ[i]? = some (some (.ref a)) ∧ xs.length ≤ sizeLine ∧
  ∀ t, H t = none → D.nx (σ.set j (some (.ref t))) (upd H t (.tup (xs.map fun x => V.bl (xeB k x))))
theorem ps_suiteX {i j : Nat} {xs : List Xe} {n y : Str} {a : Addr} {oe : Obj} {cls : Value} {d : Option Addr} {pn : List (Addr × Obj)} {es : List Expr} {k : Nat} {p1 p2 p3 : Pos} (c : SxOk XT T Γ N X E sc) (hi : N[i]? = some n) (hv : isVis sc n = true) (hj : N[j]? = some y) (hy : isTg sc (fun _ => true) y = true)
    (hx : chkXs T sc n xs es = true) (hz : Zc cls d oe) (hf : ∃ vs, oe.data = .fields vs) : PSs (X.suite a ((a, oe) :: pn)) [.Assign [.Name y p1] (.Tuple es k p2) p3] (tsX XT X.K i j xs a cls d) := by
  refine ⟨fun pins s σ H D I q => ?_⟩
  obtain ⟨k', C, rfl, rfl, x1, x8, q1, q2, q3⟩ := q
  obtain ⟨l1, l2⟩ := isTg_loc hy
  have hE := pe_tup (x1 := k) (pos := p2) (pa_xs (a := a) (pn := pn) c.cx hi hv x1 x8 hz hf xs es hx)
  refine (pss_one (ps_set (X := X.suite a ((a, oe) :: pn)) (i := j) (pos' := p1) (pos := p3) c.cx.nd (by show X.N[j]? = _; rw [c.cx.n]; exact hj) (by show Loc X.env.scope y; rw [c.cx.scope]; exact l1) hE rfl (.inl (c.fn y)))).run pins s σ H D I ?_
  exact ⟨q1, by rw [List.length_map]; exact q2, q3⟩
theorem EnvOk.wipeAt {i : Nat} {ρ : Ev} {σ2 : L2.St} (h : EnvOk K fo φ H ρ σ) (hl : σ2.length = σ.length) (ha : ∀ m, m ≠ i → σ2[m]? = σ[m]?) : EnvOk K fo φ H (ρ.set i none) σ2 := by
  refine ⟨by rw [List.length_set, h.len, hl], fun m w e => ?_⟩
  by_cases hm : m = i
  · subst hm
    rw [List.getElem?_set] at e
    simp only [if_true] at e
    split at e <;> cases e
  · rw [List.getElem?_set_ne (Ne.symm hm)] at e
    obtain ⟨v, e1, r⟩ := h.at_ m w e
    exact ⟨v, by rw [ha m hm]; exact e1, r⟩
theorem repL_bls : ∀ (bs : List Bool) {av : List Addr}, RepL K av H (bs.map Dt.bl) (bs.map V.bl)
  | [], _ => .nil
  | b :: bs, _ => .cons (.bl b) (repL_bls bs)
theorem s_tryX {c k i j : Nat} {xs : List Xe} {b : Sms} {D : Ends} {C : Addr} (hxc : ∀ (k : Nat) (C : Value), XT.cls k = some C → XT.flds k = [] → ∃ A, C = .ref A ∧ XsOk XT K k A) (x1 : XT.cls c = some (.ref C)) (x2 : XT.flds c = []) (x6 : PySem.W.subIn K (.ref C) (.type "BaseException") = some true)
    (h : tS XT K E (exS Γ (.tryX c b i j xs)) D σ H) : tSW XT K (wAs K (.ref C) i (tsX XT K i j xs) (WEE E) D) (exSs Γ b) D σ H := by
  obtain ⟨fo, φ, ρ, st, hs, he, h⟩ := h
  refine ⟨fo, φ, ρ, st, hs, he, ?_⟩
  unfold exS at h
  cases e : exSs Γ b ρ st with
  | ok p => rw [e] at h; exact h
  | bad => rw [e] at h; exact h
  | exc k' fs sx =>
    rw [e] at h
    unfold tryW at h
    dsimp only at h
    split at h
    case isFalse => exact h.elim
    rename_i hh
    obtain ⟨g1, rfl, g3, g4, g5⟩ := hh
    intro φ' H' s' q' cls d xr
    obtain ⟨e1, e2, e3⟩ := xr
    have hfl : XT.flds k' = [] := List.length_eq_zero_iff.mp e2.symm
    obtain ⟨A, rfl, x8⟩ := hxc k' cls e1 hfl
    have hd : d = none := by
      rcases e3 with ⟨_, e⟩ | ⟨e, _⟩
      · exact e
      · exact absurd rfl e
    subst hd
    have hex : PySem.W.exmOne K (.ref A) (.ref C) = some true := by
      unfold PySem.W.exmOne
      rw [x6]
      have := x8.2.2 c C x1 x2
      rw [g1] at this
      simpa using this
    refine ⟨true, hex, fun _ a ha => ?_, fun z => by cases z⟩
    refine ⟨k', A, rfl, rfl, e1, x8, ?_, by rw [← lim_eq]; exact g5, fun t ht => ?_⟩
    · have : i < σ.length := by rw [← he.len]; exact g4
      simp [this]
    · have sm : Same H' (upd H' t (.tup (xs.map fun x => V.bl (xeB k' x)))) := same_new ht
      have rb : RepL K (fo ++ φ') H' (xs.map fun x => Dt.bl (xeB k' x)) (xs.map fun x => V.bl (xeB k' x)) := by
        have := repL_bls (K := K) (H := H') (xs.map (xeB k')) (av := fo ++ φ')
        rwa [List.map_map, List.map_map] at this
      have rt := rep_newT (K := K) q'.trk ht rb
      have en : EnvOk K fo φ' (upd H' t (.tup (xs.map fun x => V.bl (xeB k' x)))) (ρ.set j (some (.d (.tup (xs.map fun x => .bl (xeB k' x)))))) (σ.set j (some (.ref t))) := ((he.step s').step (Step.same sm)).set rt
      refine h φ' _ (s'.trans (Step.same sm)) (q'.same sm) _ (en.wipeAt (by simp) fun m hm => ?_)
      rw [List.getElem?_set_ne (Ne.symm hm)]
      by_cases hmj : m = j
      · subst hmj
        simp [List.getElem?_set]
      · rw [List.getElem?_set_ne (Ne.symm hmj), List.getElem?_set_ne (Ne.symm hm), List.getElem?_set_ne (Ne.symm hmj)]
theorem ps_unpE {is : List Nat} {e : Ex} {ts : List Expr} {k : Nat} {p pos : Pos} {y : Expr} (c : SxOk XT T Γ N X E sc) (ht : chkTgs N (isTg sc fun _ => true) is ts = true) (hy : chkE T N sc e y = true) (h1 : isTuple y = false) (h2 : isLC y = false) :
    PS X (.Assign [.Tuple ts k p] y pos) (tAsg (tW XT X.K (WEE E) (evE Γ e)) (gTup X.K is.length (gMany is))) := by
  obtain ⟨k1, k2, k3⟩ := pgs_many (cell := fun _ => true) c.cx.n c.cx.nd c.cx.scope (fun x _ => c.fn x) ht
  refine ps_asg (peS e c.cx y hy) (pg_tup c.cx.calm k1 k2 k3) (by show swapsWith y (some (.Tuple ts k p)) pos.line X.env = pure false; exact swaps_no h2 _ _ _) ?_ rfl
  cases y <;> first | rfl | cases h1
mutual
theorem psS : ∀ (s : Sm) {X : Cx} {E : XK} {sc : Scope} (c : SxOk XT T Γ N X E sc) (ps : Stmt), chkS T N sc s ps = true → PS X ps (tS XT X.K E (exS Γ s))
  | .set i e, X, E, sc, c, ps, h => by
    unfold chkS at h
    split at h <;> try (rename_i z; cases z)
    · simp only [Bool.and_eq_true, decide_eq_true_eq] at h
      exact PS.weak (ps_any c h.1.1 h.1.2 h.2) fun D σ H h => s_set h
    · cases h
  | .setL i e, X, E, sc, c, ps, h => by
    unfold chkS at h
    split at h <;> try (rename_i z; cases z)
    · simp only [Bool.and_eq_true, decide_eq_true_eq] at h
      exact PS.weak (ps_freshX c h.1.1.1 h.1.1.2 h.1.2 h.2) fun D σ H h => s_setL h
    · cases h
  | .unp is e, X, E, sc, c, ps, h => by
    unfold chkS at h
    split at h <;> try (rename_i z; cases z)
    · simp only [Bool.and_eq_true, Bool.not_eq_true'] at h
      exact PS.weak (ps_unpE c h.1.1.1 h.1.1.2 h.1.2 h.2) fun D σ H h => s_unp h
    · cases h
  | .ret e, X, E, sc, c, ps, h => by
    unfold chkS at h
    split at h <;> try (rename_i z; cases z)
    · exact PS.weak (ps_ret (peS e c.cx _ h)) fun D σ H h => s_ret h
    · cases h
  | .ife d a b, X, E, sc, c, ps, h => by
    unfold chkS at h
    split at h <;> try (rename_i z; cases z)
    · simp only [Bool.and_eq_true] at h
      exact PS.weak (ps_if (ptS d c.cx _ h.1.1) (pssS a c _ h.1.2) (pssS b c _ h.2)) fun D σ H h => s_ife h
    · cases h
  | .forS tg it b, X, E, sc, c, ps, h => by
    unfold chkS at h
    split at h <;> try (rename_i z; cases z)
    · simp only [Bool.and_eq_true] at h
      obtain ⟨⟨⟨⟨h1, h2⟩, h3⟩, h4⟩, h5⟩ := h
      exact PS.weak (ps_for c.own c.cx.calm (piS it c.cx _ _ h2 h1) (pg_tg (cell := fun _ => true) c.cx.n c.cx.nd c.cx.scope (fun x _ => c.fn x) c.cx.calm h4) (pssS b c _ h5) (walkE_set h3 _)) fun D σ H h => s_for h
    · cases h
  | .whl d b, X, E, sc, c, ps, h => by
    unfold chkS at h
    split at h <;> try (rename_i z; cases z)
    · simp only [Bool.and_eq_true] at h
      exact PS.weak (ps_while c.own (ptS d c.cx _ h.1) (pssS b c _ h.2)) fun D σ H h => s_whl h
    · cases h
  | .app i e, X, E, sc, c, ps, h => by
    unfold chkS at h
    split at h <;> try (rename_i z; cases z)
    · simp only [Bool.and_eq_true, decide_eq_true_eq] at h
      obtain ⟨⟨⟨⟨⟨h1, h2⟩, h3⟩, h4⟩, h5⟩, h6⟩ := h
      subst h1
      obtain ⟨v1, v2, v3⟩ := isVis_vis h4
      have hv := fun pp : Pos => pe_var (X := X) (pos := pp) (i := i) (by rw [c.cx.n]; exact h3) (by rw [c.cx.scope]; exact v1) v2 v3
      refine PS.weak (ps_expr (pe_bm PySem.F.plainAttrs_list PySem.F.slot_list_append PySem.F.type_list_append mt_append (hv _) (pa_one (peS e c.cx _ h5) h6) rfl ?_ h2 (plainE_star h6 _ _) rfl) rfl) fun D σ H h => s_app h
      rw [plainE_star h6]
      rfl
    · cases h
  | .expr e, X, E, sc, c, ps, h => by
    unfold chkS at h
    split at h <;> try (rename_i z; cases z)
    · simp only [Bool.and_eq_true, Bool.not_eq_true'] at h
      exact PS.weak (ps_expr (peS e c.cx _ h.1) (swaps_no h.2 _ _ _)) fun D σ H h => s_expr h
    · cases h
  | .brk, X, E, sc, c, ps, h => by
    unfold chkS at h
    split at h <;> try (rename_i z; cases z)
    · refine PS.weak ps_break fun D σ H h => ?_
      obtain ⟨fo, φ, ρ, st, hs, he, h⟩ := h
      unfold exS at h
      exact (Go.run h hs) σ he
    · cases h
  | .cnt, X, E, sc, c, ps, h => by
    unfold chkS at h
    split at h <;> try (rename_i z; cases z)
    · refine PS.weak ps_continue fun D σ H h => ?_
      obtain ⟨fo, φ, ρ, st, hs, he, h⟩ := h
      unfold exS at h
      exact (Go.run h hs) σ he
    · cases h
  | .pass, X, E, sc, c, ps, h => by
    unfold chkS at h
    split at h <;> try (rename_i z; cases z)
    · refine PS.weak ps_pass fun D σ H h => ?_
      obtain ⟨fo, φ, ρ, st, hs, he, h⟩ := h
      unfold exS at h
      exact (Go.run h hs) σ he
    · cases h
  | .tryN k b, X, E, sc, c, ps, h => by
    unfold chkS at h
    split at h <;> try (rename_i z; cases z)
    · simp only [Bool.and_eq_true, decide_eq_true_eq] at h
      obtain ⟨C, x1, x2, x3, x4, x5, x6, x7, x8⟩ := c.cx.xc.1 _ _ h.1.1
      obtain ⟨g1, g2⟩ := isGl_gl h.1.2
      have hch := h.2
      refine PS.weak (ps_try_only (c := .ref C) (Wout := WEE E) (tb := fun W => tS XT X.K (fun _ _ _ => False) (exSs Γ b)) (ts := fun _ _ _ _ _ _ => False) c.stk c.frm ⟨by show X.env.scope.names.lookup _ = _; rw [c.cx.scope]; exact g1, g2, .inl x3⟩ c.cx.takes (fun W pn xe tk po => ?_) (fun a oe cls d pn _ _ => ⟨fun pins s σ H D I q => q.elim⟩)) fun D σ H h => ?_
      · exact pssS b (X := X.tr pn xe) ⟨⟨c.cx.n, c.cx.nd, c.cx.scope, c.cx.calm, c.cx.units, tk.imp (fun _ _ _ _ z => z.elim), c.cx.glob, c.cx.blt, c.cx.xc, c.cx.fn⟩, c.kind, c.fn, po, c.stk, c.frm⟩ _ hch
      · obtain ⟨fo, φ, ρ, st, hs, he, h⟩ := h
        refine ⟨fo, φ, ρ, st, hs, he, ?_⟩
        unfold exS at h
        cases e : exSs Γ b ρ st with
        | ok p => rw [e] at h; exact h
        | exc c fs sx => rw [e] at h; exact False.elim h
        | bad => rw [e] at h; exact False.elim h
    · cases h
  | .tryX k b i j xs, X, E, sc, c, ps, h => by
    unfold chkS at h
    split at h <;> try (rename_i z; cases z)
    · rename_i x _ n y _ es _ _ _ _ _
      simp only [Bool.and_eq_true, decide_eq_true_eq] at h
      obtain ⟨⟨⟨⟨⟨⟨⟨⟨⟨h1, h2⟩, h3⟩, h4⟩, h5⟩, h6⟩, h7⟩, h8⟩, h9⟩, h10⟩ := h
      obtain ⟨C, x1, x2, x3, x4, x5, x6, x7, x8⟩ := c.cx.xc.1 _ _ h1
      obtain ⟨g1, g2⟩ := isGl_gl h2
      have hln : X.env.kindOf n = some .local := by
        show X.env.scope.names.lookup n = _
        rw [c.cx.scope]
        split at h4
        · assumption
        · cases h4
      refine PS.weak (ps_try_as (c := .ref C) (i := i) (Wout := WEE E) (tb := fun W => tSW XT X.K W (exSs Γ b)) (ts := tsX XT X.K i j xs) c.stk c.frm c.cx.nd (by rw [c.cx.n]; exact h3) hln ⟨by show X.env.scope.names.lookup _ = _; rw [c.cx.scope]; exact g1, g2, .inl x3⟩ c.cx.takes (fun W pn xe tk po => ?_) (fun a oe cls d pn hz hf => ps_suiteX c h3 h5 h6 h7 h10 hz hf)) fun D σ H h => s_tryX (k := k) c.cx.xc.2 x1 x2 x6 h
      exact pssW b (X := X.tr pn xe) ⟨c.cx.n, c.cx.nd, c.cx.scope, c.cx.calm, c.cx.units, tk, c.cx.glob, c.cx.blt, c.cx.xc, c.cx.fn⟩ c.fn _ h8 h9
    · cases h
  | .rai k, X, E, sc, c, ps, h => by
    unfold chkS at h
    split at h <;> try (rename_i z; cases z)
    · simp only [Bool.and_eq_true, decide_eq_true_eq] at h
      obtain ⟨C, x1, x2, x3, x4, x5, x6, x7, x8⟩ := c.cx.xc.1 _ _ h.1
      obtain ⟨g1, g2⟩ := isGl_gl h.2
      refine PS.weak (ps_raise c.cx.calm c.cx.takes (pmk_own PySem.F.excBase_ValueError x4 x3 x5 (raises_own x6 x7) (by show X.env.scope.names.lookup _ = _; rw [c.cx.scope]; exact g1) g2)) fun D σ H h => ?_
      obtain ⟨fo, φ, ρ, st, hs, he, h⟩ := h
      unfold exS at h
      exact h φ H .refl hs (.ref C) none ⟨x1, by rw [x2]; rfl, .inl ⟨rfl, rfl⟩⟩
    · cases h
  | .never, X, E, sc, c, ps, h => PS.weak ps_never fun D σ H h => by
      obtain ⟨fo, φ, ρ, st, hs, he, h⟩ := h
      unfold exS at h
      exact h
  | .quo i, X, E, sc, c, ps, h => by
    unfold chkS at h
    cases h
theorem pssS : ∀ (s : Sms) {X : Cx} {E : XK} {sc : Scope} (c : SxOk XT T Γ N X E sc) (ps : List Stmt), chkSs T N sc s ps = true → PSs X ps (tS XT X.K E (exSs Γ s))
  | .nil, X, E, sc, c, ps, h => by
    cases ps with
    | nil => exact PSs.weak pss_nil fun D σ H h => s_nil h
    | cons _ _ => unfold chkSs at h; cases h
  | .cons s r, X, E, sc, c, ps, h => by
    cases ps with
    | nil => unfold chkSs at h; cases h
    | cons p ps =>
      unfold chkSs at h
      simp only [Bool.and_eq_true] at h
      exact PSs.weak (pss_cons (psS s c p h.1) (pssS r c ps h.2)) fun D σ H h => s_seq h
end
end
end PB

set_option Elab.async false
set_option linter.all false
set_option maxRecDepth 100000
set_option maxHeartbeats 4000000
set_option backward.match.sparseCases false
/-! Defs keep their meaning; the law's end. -/
namespace PB
open PySem PySem.Spec PyProof.Rows L2
/-! #### the def that quotes -/
theorem sub_join (c : Nat) (z : List Nat) : ∀ s : List Nat, joinL z (splitC c s) = subC c z s
  | [] => rfl
  | x :: xs => by
    have ih := sub_join c z xs
    rw [splitC, subC]
    by_cases h : x = c
    · rw [if_pos h, if_pos h]
      cases e : splitC c xs with
      | nil =>
        exfalso
        cases xs with
        | nil => simp [splitC] at e
        | cons y ys =>
          rw [splitC] at e
          split at e
          · cases e
          · split at e <;> cases e
      | cons p ps =>
        rw [e] at ih
        rw [joinL, ih]
        rfl
    · rw [if_neg h, if_neg h]
      cases e : splitC c xs with
      | nil =>
        rw [e] at ih
        rw [← ih]
        rfl
      | cons p ps =>
        rw [e] at ih
        show joinL z ((x :: p) :: ps) = [x] ++ subC c z xs
        rw [← ih]
        cases ps with
        | nil => rfl
        | cons q r => rw [joinL, joinL]; simp
theorem repl_toS (s z : List Nat) (c : Nat) : Txt.replace (toS s) (toS [c]) (toS z) = toS (subC c z s) := by
  have h := StrLaws.replace_one (toS s) (toS z) c
  have e0 : (⟨#[c]⟩ : Str) = toS [c] := rfl
  rw [e0, split_toS] at h
  rw [h]
  have h2 := join_codes (toS z) ((splitC c s).map toS)
  rw [List.map_map] at h2
  have e2 : ((fun q : Str => q.cps.toList) ∘ toS) = id := by funext q; simp [toS]
  rw [e2, List.map_id, toS_cps, sub_join] at h2
  have : ∀ x : Str, x = toS x.cps.toList := fun x => by cases x; simp [toS]
  rw [this (Str.join (toS z) ((splitC c s).map toS)), h2]
theorem subC_len (c : Nat) (z : List Nat) (hz : z.length ≤ 2) : ∀ s : List Nat, (subC c z s).length ≤ 2 * s.length
  | [] => by simp [subC]
  | x :: xs => by
    have := subC_len c z hz xs
    rw [subC, List.length_append, List.length_cons]
    split
    · omega
    · simp; omega
theorem subC_mem (c : Nat) (z : List Nat) : ∀ (s : List Nat) (x : Nat), x ∈ subC c z s → x ∈ z ∨ x ∈ s
  | [], x, h => by simp [subC] at h
  | y :: ys, x, h => by
    rw [subC] at h
    rcases List.mem_append.mp h with h | h
    · split at h
      · exact .inl h
      · exact .inr (by rw [List.mem_singleton.mp h]; exact List.mem_cons_self)
    · rcases subC_mem c z ys x h with h | h
      · exact .inl h
      · exact .inr (List.mem_cons_of_mem _ h)
def quoSt (sc : Scope) : List Stmt → Bool
  | [.Assign [.Name x _] (.Call (.Attribute (.Call (.Attribute (.Name t _) r1 a1) [.Constant (.str y1) _ _, .Constant (.str z1) _ _] [] c1) r2 a2) [.Constant (.str y2) _ _, .Constant (.str z2) _ _] [] c2) _,
     .Return (some (.BinOp (.BinOp (.Constant (.str q1) _ _) .Add (.Name x2 _) _) .Add (.Constant (.str q2) _ _) _)) _] =>
    decide (x = "inner") && decide (t = "text") && decide (x2 = "inner") && decide (r1 = "replace") && decide (r2 = "replace") && decide (y1 = toS [92]) && decide (z1 = toS [92, 92]) && decide (y2 = toS [34]) && decide (z2 = toS [92, 34]) && decide (q1 = toS [34]) && decide (q2 = toS [34]) &&
      (a1.endLine == c1.line) && (a2.endLine == c2.line) && isVis sc "text" && isVis sc "inner" && isTg sc (fun _ => true) "inner" && sc.names.all (fun y => match y.2 with | .cell => false | _ => true)
  | _ => false
section
variable {X : Cx}
theorem pst_set {i : Nat} {x : Str} {e : Expr} {te : TE} {pos' pos : Pos} (hN : X.N.Nodup) (hi : X.N[i]? = some x) (hx : Loc X.env.scope x) (he : PET X e te) (hs : swapsWith e (some (.Name x pos')) pos.line X.env = pure false := by rfl) (hf : X.fn x = true) :
    PST X (.Assign [.Name x pos'] e pos) (tAsg te (gName i)) := fun pins s σ H D h0 I h =>
  wpAny_Assign_Name (thn (he pins s σ H _ h0 I h) fun v s1 ⟨y, H1, I1, r1, q1⟩ => store_ok I1 hN hi hx r1 (fun s2 I2 => ⟨_, H1, I2, q1⟩) (.inl hf)) hs
end
/-- a def of the text, as the top has left it, and its own form -/
def DefIs (K : PySem.W.Frag) (mg : Str → Option Value) (T : Tb) (tab : List Fn) (f : Nat) (x : Str) (np : Nat) (a : Addr) (fd : FuncData) (ps : List Str) : Prop :=
  ∃ (st : Stmt) (qual : Str) (N : List Str) (F : Fn), Fun K x qual st a fd ∧ FnScope N ps (defScope st) ∧ mg x = some (.ref a) ∧ (∀ us : List Value, us.length = ps.length → bindArgs fd ⟨us, []⟩ = pure (ps.zip us)) ∧ ps.length = np ∧ tab[f]? = some F ∧ F.np = np ∧ F.ns = N.length ∧
    (chkSs T N (defScope st) F.body (defBody st) = true ∨ (F.body = .cons (.quo 0) .nil ∧ N = ([("text" : Str), ("inner" : Str)]) ∧ np = 1 ∧ quoSt (defScope st) (defBody st) = true))
section
variable {XT : Xt} {T : Tb} {P : Program} {w : World} {K : PySem.W.Frag} {mg : Str → Option Value} {base : Heap} {tab : List Fn} {gl : List Dt}
theorem start_ok {fo φ : List Addr} {H : Hp} : ∀ {ds : List Dt} {vs : List V} (n : Nat), RepL K (fo ++ φ) H ds vs → EnvOk K (fo ++ φ) [] H (ds.map (fun x => some (Wv.d x)) ++ List.replicate n none) (vs.map some ++ List.replicate n none) := by
  intro ds vs n r
  refine ⟨by simp [r.length], fun i w e => ?_⟩
  rw [List.getElem?_append] at e
  split at e
  · rename_i hi
    rw [List.length_map] at hi
    rw [List.getElem?_map] at e
    obtain ⟨x, hx⟩ := get_lt hi
    rw [hx] at e
    cases e
    obtain ⟨v, hv, rv⟩ := r.get hx
    refine ⟨v, ?_, ?_⟩
    · rw [List.getElem?_append_left (by rw [List.length_map, ← r.length]; exact hi), List.getElem?_map, hv]
      rfl
    · show Rep K ((fo ++ φ) ++ []) H x v
      rw [List.append_nil]
      exact rv
  · have := List.mem_of_getElem? e
    rw [List.mem_replicate] at this
    cases this.2
theorem paired_len2 {α β : Type} {R : α → β → Prop} {xs : List α} {ys : List β} (h : Paired R xs ys) : xs.length = ys.length := Paired.length h
theorem sp_len {np : Nat} {ps : List Str} (hp : ps.length = np) {call : List Wv → Sr → Rs (Wv × Sr)} : ∀ vs H Q E, spF XT K np call vs H Q E → vs.length = ps.length := fun vs H Q E h => by
  obtain ⟨fo, φ, st, ws, _, r, hl, _⟩ := h
  rw [hp, ← hl]
  exact (Paired.length r).symm
theorem RepL.fewer {av av' : List Addr} {H : Hp} {xs : List Dt} {vs : List V} (h : ∀ a ∈ av', a ∈ av) (r : RepL K av H xs vs) : RepL K av' H xs vs := RepL.keep (Keeps.fewer h) r
theorem Rep.fewer {av av' : List Addr} {H : Hp} {x : Dt} {v : V} (h : ∀ a ∈ av', a ∈ av) (r : Rep K av H x v) : Rep K av' H x v := Rep.keep (Keeps.fewer h) r
/-- a def's body, read by the own meaning, keeps the def's promise -/
theorem body_read {n f np : Nat} {F : Fn} {N : List Str} {vs : List V} {H : Hp} {Q : VK} {E : XK} (hF : tab[f]? = some F) (hnp : F.np = np) (hns : F.ns = N.length)
    (h : spF XT K np (callW (runP tab gl (n + 1)) f) vs H Q E) : tS XT K E (exSs ⟨callW (runP tab gl n), gl⟩ F.body) { nx := fun _ H' => Q .non H', rt := Q } (L2.start N vs) H := by
  obtain ⟨fo, φ, st, ws, hs, r, hl, h⟩ := h
  unfold callW at h
  cases e : mapD ws with
  | none => rw [e] at h; exact False.elim h
  | some ds =>
    rw [e] at h
    simp only [Rs.ofO_some, Rs.bind_ok] at h
    have rd := mapD_rep r e
    have hlen : ds.length = np := by
      rw [rd.length, ← hl]
      exact (Paired.length r).symm
    have hrun : runP tab gl (n + 1) f ds = (exSs ⟨callW (runP tab gl n), gl⟩ F.body (startE F.ns ds) []).bind endD := by
      rw [runP, hF]
      simp only
      rw [if_pos (by rw [hlen, hnp])]
    rw [hrun] at h
    have hs0 : Sok K (fo ++ φ) [] H [] := ⟨rfl, List.nodup_nil, hs.trk, fun a ha => (List.not_mem_nil ha).elim, fun n a xs e => by simp at e⟩
    have he0 : EnvOk K (fo ++ φ) [] H (startE F.ns ds) (L2.start N vs) := by
      unfold startE L2.start
      rw [hns, show N.length - ds.length = N.length - vs.length by rw [rd.length]]
      exact start_ok _ rd
    -- the caller's store behind the callee
    have back : ∀ {φ2 : List Addr} {H2 : Hp}, Step [] H φ2 H2 → Same H H2 := fun s a o e => (s.keep a o (by simp) e).1
    have sub : ∀ {φ2 : List Addr}, ∀ a ∈ fo ++ φ, a ∈ (fo ++ φ) ++ φ2 := fun a ha => List.mem_append_left _ ha
    refine ⟨fo ++ φ, [], startE F.ns ds, [], hs0, he0, ?_⟩
    cases ex : exSs ⟨callW (runP tab gl n), gl⟩ F.body (startE F.ns ds) [] with
    | bad => rw [ex] at h; exact False.elim h
    | exc c fs sx =>
      rw [ex] at h
      intro φ2 H2 s2 q2 cls d hx
      have sm := back s2
      refine h φ H2 (Step.same sm) (hs.same sm) cls d ?_
      obtain ⟨x1, x2, x3⟩ := hx
      refine ⟨x1, x2, ?_⟩
      rcases x3 with x3 | ⟨y0, a, vs, y1, y2, y3, y4⟩
      · exact .inl x3
      · exact .inr ⟨y0, a, vs, y1, fun z => y2 (sub a z), y3, RepL.fewer sub y4⟩
    | ok p =>
      obtain ⟨⟨fl, ρ'⟩, st'⟩ := p
      rw [ex] at h
      simp only [Rs.bind_ok] at h
      intro φ2 H2 s2 q2 σ' he'
      have sm := back s2
      have fin : ∀ d v, endD ((fl, ρ'), st') = .ok d → Rep K (fo ++ φ) H2 d v → Q v H2 := fun d v e2 rv => by
        rw [e2] at h
        exact h φ H2 (Step.same sm) (hs.same sm) v rv
      cases fl with
      | nx => exact fin .non .non rfl .non
      | bk => exact False.elim h
      | ct => exact False.elim h
      | rt w =>
        intro v rv
        cases w with
        | d x => exact fin x v rfl (Rep.fewer sub rv)
        | ob m =>
          obtain ⟨a, ea, rfl⟩ := rv
          cases e3 : st'[m]? with
          | none =>
            have : endD ((Fl.rt (.ob m), ρ'), st') = .bad := by unfold endD; simp only [e3]
            rw [this] at h; exact False.elim h
          | some o =>
            cases o with
            | lst xs =>
              obtain ⟨us, h3, r3⟩ := q2.ob m a xs ea e3
              refine fin (.lst xs) (.ref a) (by unfold endD; simp only [e3]) (.lst (q2.dj a (List.mem_of_getElem? ea)) (.inl h3) (RepL.fewer sub r3))
theorem quo_ok {n f np : Nat} {x qual : Str} {st : Stmt} {a : Addr} {fd : FuncData} {N ps : List Str} {F : Fn} (hf : Fun K x qual st a fd) (S : FnScope N ps (defScope st)) (hp : ps.length = np) (ht : tab[f]? = some F) (hnp : F.np = np) (hns : F.ns = N.length)
    (hc : F.body = .cons (.quo 0) .nil ∧ N = ([("text" : Str), ("inner" : Str)]) ∧ np = 1 ∧ quoSt (defScope st) (defBody st) = true) : FnOk P w K mg base (L2.CX P w) (n + 1) a fd ps (spF XT K np (callW (runP tab gl (n + 1)) f)) := by
  obtain ⟨hb, hN, h1, hq⟩ := hc
  obtain ⟨⟨oc, od, kV, doc, pm, an, cdv, ct, osl, rfl, lk, hcd⟩, kp⟩ := hf
  have hps : 1 ≤ ps.length := by omega
  unfold quoSt at hq
  split at hq
  · rename_i x1 _ t1 _ r1 a1 y1 _ _ z1 _ _ c1 r2 a2 y2 _ _ z2 _ _ c2 _ q1 _ _ x2 _ _ q2 _ _ _ _ hbody
    simp only [Bool.and_eq_true, decide_eq_true_eq, List.all_eq_true] at hq
    obtain ⟨⟨⟨⟨⟨⟨⟨⟨⟨⟨⟨⟨⟨⟨⟨⟨rfl, rfl⟩, rfl⟩, rfl⟩, rfl⟩, rfl⟩, rfl⟩, rfl⟩, rfl⟩, rfl⟩, rfl⟩, l1⟩, l2⟩, v1⟩, v2⟩, g1⟩, nc⟩ := hq
    obtain ⟨w1, w2, w3⟩ := isVis_vis v1
    obtain ⟨u1, u2, u3⟩ := isVis_vis v2
    obtain ⟨k1, _⟩ := isTg_loc g1
    refine fn_ofT lk hcd S (fun y hy e => ?_) hps (sp_len hp) fun A outer s H vs Q E hr hsp => ?_
    · have := nc y hy
      rw [e] at this
      cases this
    · have hread := body_read ht hnp hns hsp
      rw [hb] at hread
      generalize hX : cxOf (L2.CX P w) P w K mg base N qual (defScope st) a cdv A outer s H E = X
      have XN : X.N = N := by rw [← hX]; rfl
      have Xsc : X.env.scope = defScope st := by rw [← hX]; rfl
      have Xfn : ∀ y, X.fn y = true := fun y => by rw [← hX]; rfl
      have hv0 : ∀ p : Pos, PE X (.Name "text" p) (tVar 0) := fun p => pe_var (i := 0) (x := "text") (by rw [XN, hN]; rfl) (by rw [Xsc]; exact w1) w2 w3
      have hv1 : ∀ p : Pos, PE X (.Name "inner" p) (tVar 1) := fun p => pe_var (i := 1) (x := "inner") (by rw [XN, hN]; rfl) (by rw [Xsc]; exact u1) u2 u3
      rw [hbody]
      refine ⟨_, psst_cons (pst_set (X := X) (i := 1) (x := "inner") (by rw [XN]; exact S.nd) (by rw [XN, hN]; rfl) (by rw [Xsc]; exact k1) (CwR.pet_replT (CwR.pet_replC (hv0 _) (by decide +kernel) rfl rfl l1) (by decide +kernel) rfl rfl l2) rfl (Xfn _)) (CwR.psst_one (CwR.pst_ret (X := X) (CwR.pet_op op_add_str (CwR.pet_op op_add_str (CwR.PET.of pe_str) (CwR.PET.of (hv1 _))) (CwR.PET.of pe_str)))), ?_⟩
      obtain ⟨fo, φ, ρ, st0, hs, he, h⟩ := hread
      have hx : exSs ⟨callW (runP tab gl n), gl⟩ (.cons (.quo 0) .nil) ρ st0 = quoW ρ[0]? ρ st0 := by
        unfold exSs exS quoW
        split
        · split <;> rfl
        · rfl
      rw [hx] at h
      unfold quoW at h
      split at h
      · rename_i s0 e0
        split at h
        · rename_i hl
          obtain ⟨v, ev, rv⟩ := he.at_ 0 _ e0
          obtain ⟨rfl, ho⟩ := vstr (Rep.view rv)
          have n1 := subC_len 92 [92, 92] (by decide) s0
          have n2 := subC_len 34 [92, 34] (by decide) (subC 92 [92, 92] s0)
          have hslen : 2 ≤ (L2.start N vs).length := by rw [← he.len]; have := (List.getElem?_eq_some_iff.mp e0).1; rw [he.len]; unfold L2.start; rw [hN]; simp; omega
          refine ⟨_, ev, toS s0, rfl, by rw [toS_len, toS_len]; show s0.length + (s0.length + 1) * 2 ≤ 16777216; omega, ?_⟩
          rw [repl_toS]
          refine ⟨_, rfl, by rw [toS_len, toS_len]; show (subC 92 [92, 92] s0).length + ((subC 92 [92, 92] s0).length + 1) * 2 ≤ 16777216; omega, ?_⟩
          rw [repl_toS]
          refine ⟨.str (toS (subC 34 [92, 34] (subC 92 [92, 92] s0))), by rw [List.getElem?_set_self (by omega)], _, _, rfl, rfl, ?_, _, _, rfl, rfl, ?_, ?_⟩
          · rw [toS_len, toS_len, sizeLine_eq]
            show 1 + _ ≤ _
            omega
          · rw [toS_append, toS_len, toS_len, sizeLine_eq, List.length_append]
            show 1 + _ + 1 ≤ _
            omega
          · rw [toS_append, toS_append]
            refine (Go.run h hs) _ he _ (show Rep K (fo ++ φ) H (.str (quoL s0)) _ from .str _ ⟨?_, fun c hc => ?_⟩)
            · unfold quoL
              rw [List.length_cons, List.length_append]
              show _ + 1 + 1 ≤ 16777216
              omega
            · unfold quoL at hc
              rcases List.mem_cons.mp hc with rfl | hc
              · decide
              · rcases List.mem_append.mp hc with hc | hc
                · rcases subC_mem _ _ _ _ hc with hc | hc
                  · simp only [List.mem_cons, List.not_mem_nil, or_false] at hc
                    rcases hc with rfl | rfl <;> decide
                  · rcases subC_mem _ _ _ _ hc with hc | hc
                    · simp only [List.mem_cons, List.not_mem_nil, or_false] at hc
                      rcases hc with rfl | rfl <;> decide
                    · exact ho.2 c hc
                · rw [List.mem_singleton.mp hc]; decide
        · exact False.elim h
      · exact False.elim h
  · cases hq
theorem fn_ok (D : ∀ f x np, T.fns[f]? = some (x, np) → ∃ a fd ps, DefIs K mg T tab f x np a fd ps) (G : ∀ (k : Nat) (x : Str), T.gls[k]? = some x → ∃ (d : Dt) (v : V) (u : Value), gl[k]? = some d ∧ mg x = some u ∧ RelV v u ∧ ∀ av H, Rep K av H d v)
    (B : ∀ x ∈ bltNames, mg (Str.ofString x) = none) (XX : (∀ (c : Nat) (x : Str), T.xcs[c]? = some (x, []) → XcOk XT K mg c x) ∧ ∀ (k : Nat) (C : Value), XT.cls k = some C → XT.flds k = [] → ∃ A, C = .ref A ∧ XsOk XT K k A) : ∀ (n f : Nat) (x : Str) (np : Nat) (a : Addr) (fd : FuncData) (ps : List Str), DefIs K mg T tab f x np a fd ps →
    FnOk P w K mg base (L2.CX P w) n a fd ps (spF XT K np (callW (runP tab gl n) f)) := by
  intro n
  induction n with
  | zero =>
    intro f x np a fd ps ⟨st, qual, N, F, hf, S, hm, hb, hp, _⟩
    refine ⟨sp_len hp, fun A outer s H args us vs Q E _ _ _ _ hsp => ?_⟩
    exfalso
    obtain ⟨fo, φ, st, ws, hs, r, hl, h⟩ := hsp
    unfold callW at h
    cases e : mapD ws with
    | none => rw [e] at h; exact h
    | some ds => rw [e] at h; exact h
  | succ n ih =>
    intro f x np a fd ps ⟨st, qual, N, F, hf, S, hm, hb, hp, ht, hnp, hns, hc⟩
    rcases hc with hc | hc
    case inr => exact quo_ok hf S hp ht hnp hns hc
    refine hf.okX S (sp_len hp) (fun cdv A outer s H vs Q E hr hsp => ?_)
    have cx : CxOk XT T ⟨callW (runP tab gl n), gl⟩ N (cxOf (L2.CX P w) P w K mg base N qual (defScope st) a cdv A outer s H E) (WEE E) (defScope st) := by
      refine ⟨rfl, S.nd, rfl, rfl, ?_, takes_of rfl rfl rfl rfl, G, B, XX, fun f' x' n' h' => ?_⟩
      · have := hr.un
        show (A.deeper _).units + 65 < cLine
        omega
      · obtain ⟨a', fd', ps', hd⟩ := D f' x' n' h'
        have h1 := ih f' x' n' a' fd' ps' hd
        obtain ⟨_, _, _, _, k1, _, k3, k4, k5, _⟩ := hd
        exact ⟨n, a', fd', ps', h1, hr, k3, k1.kp, .all k4, k5⟩
    have sx : SxOk XT T ⟨callW (runP tab gl n), gl⟩ N (cxOf (L2.CX P w) P w K mg base N qual (defScope st) a cdv A outer s H E) E (defScope st) := ⟨cx, S.kind, fun _ => rfl, passes_of rfl, rfl, rfl⟩
    exact ⟨_, pssS F.body sx (defBody st) hc, body_read ht hnp hns hsp⟩
end
section
variable {T : Tb} {K : PySem.W.Frag} {mg : Str → Option Value} {tab : List Fn} {gl : List Dt}
def AllDefs (K : PySem.W.Frag) (mg : Str → Option Value) (T : Tb) (tab : List Fn) : Nat → List (Str × Nat) → Prop
  | _, [] => True
  | i, (x, np) :: r => (∃ a fd ps, DefIs K mg T tab i x np a fd ps) ∧ AllDefs K mg T tab (i + 1) r
theorem AllDefs.get0 : ∀ {L : List (Str × Nat)} {i : Nat}, AllDefs K mg T tab i L → ∀ (f : Nat) (x : Str) (np : Nat), L[f]? = some (x, np) → ∃ a fd ps, DefIs K mg T tab (i + f) x np a fd ps
  | [], _, _, f, x, np, e => by simp at e
  | (y, m) :: r, i, h, 0, x, np, e => by
    simp at e
    obtain ⟨rfl, rfl⟩ := e
    exact h.1
  | (y, m) :: r, i, h, f + 1, x, np, e => by
    have := AllDefs.get0 h.2 f x np (by simpa using e)
    rw [show i + (f + 1) = i + 1 + f by omega]
    exact this
theorem AllDefs.get {L : List (Str × Nat)} (h : AllDefs K mg T tab 0 L) : ∀ (f : Nat) (x : Str) (np : Nat), L[f]? = some (x, np) → ∃ a fd ps, DefIs K mg T tab f x np a fd ps := fun f x np e => by
  have := AllDefs.get0 h f x np e
  rwa [Nat.zero_add] at this
def AllGl (K : PySem.W.Frag) (mg : Str → Option Value) (gl : List Dt) : Nat → List Str → Prop
  | _, [] => True
  | i, x :: r => (∃ (d : Dt) (v : V) (u : Value), gl[i]? = some d ∧ mg x = some u ∧ RelV v u ∧ ∀ av H, Rep K av H d v) ∧ AllGl K mg gl (i + 1) r
theorem AllGl.get0 : ∀ {L : List Str} {i : Nat}, AllGl K mg gl i L → ∀ (k : Nat) (x : Str), L[k]? = some x → ∃ (d : Dt) (v : V) (u : Value), gl[i + k]? = some d ∧ mg x = some u ∧ RelV v u ∧ ∀ av H, Rep K av H d v
  | [], _, _, f, x, e => by simp at e
  | y :: r, i, h, 0, x, e => by
    simp at e
    subst e
    exact h.1
  | y :: r, i, h, f + 1, x, e => by
    have := AllGl.get0 h.2 f x (by simpa using e)
    rw [show i + (f + 1) = i + 1 + f by omega]
    exact this
theorem AllGl.get {L : List Str} (h : AllGl K mg gl 0 L) : ∀ (k : Nat) (x : Str), L[k]? = some x → ∃ (d : Dt) (v : V) (u : Value), gl[k]? = some d ∧ mg x = some u ∧ RelV v u ∧ ∀ av H, Rep K av H d v := fun k x e => by
  have := AllGl.get0 h k x e
  rwa [Nat.zero_add] at this
def AllBlt (mg : Str → Option Value) : List String → Prop
  | [] => True
  | x :: r => mg (Str.ofString x) = none ∧ AllBlt mg r
theorem AllBlt.get : ∀ {L : List String}, AllBlt mg L → ∀ x ∈ L, mg (Str.ofString x) = none
  | y :: r, h, x, hx => by
    rcases List.mem_cons.mp hx with rfl | hx
    · exact h.1
    · exact AllBlt.get h.2 x hx
theorem rep_lit {s : List Nat} {x : Str} {av : List Addr} {H : Hp} (h : x = toS s) (ho : (decide (s.length ≤ lim) && s.all fun c => decide (c < 1114112)) = true) : Rep K av H (.str s) (.str x) := by
  subst h
  simp only [Bool.and_eq_true, decide_eq_true_eq, List.all_eq_true] at ho
  exact .str s ho
end
def AllXc (XT : Xt) (K : PySem.W.Frag) (mg : Str → Option Value) : Nat → List (Str × List Str) → Prop
  | _, [] => True
  | i, (x, []) :: r => XcOk XT K mg i x ∧ AllXc XT K mg (i + 1) r
  | i, _ :: r => AllXc XT K mg (i + 1) r
theorem AllXc.get0 {XT : Xt} {K : PySem.W.Frag} {mg : Str → Option Value} : ∀ {L : List (Str × List Str)} {i : Nat}, AllXc XT K mg i L → ∀ (c : Nat) (x : Str), L[c]? = some (x, []) → XcOk XT K mg (i + c) x
  | [], _, _, c, x, e => by simp at e
  | (y, []) :: r, i, h, 0, x, e => by
    simp at e
    subst e
    exact h.1
  | (y, _ :: _) :: r, i, h, 0, x, e => by simp at e
  | (y, []) :: r, i, h, c + 1, x, e => by
    have := AllXc.get0 (i := i + 1) h.2 c x (by simpa using e)
    rw [show i + (c + 1) = i + 1 + c by omega]
    exact this
  | (y, z :: q) :: r, i, h, c + 1, x, e => by
    have h' : AllXc XT K mg (i + 1) r := h
    have := AllXc.get0 h' c x (by simpa using e)
    rw [show i + (c + 1) = i + 1 + c by omega]
    exact this
theorem AllXc.get {XT : Xt} {K : PySem.W.Frag} {mg : Str → Option Value} {L : List (Str × List Str)} (h : AllXc XT K mg 0 L) : ∀ (c : Nat) (x : Str), L[c]? = some (x, []) → XcOk XT K mg c x := fun c x e => by
  have := AllXc.get0 h c x e
  rwa [Nat.zero_add] at this
theorem kit_sub {K : PySem.W.Frag} {C D : Addr} {b : Bool} (h1 : PySem.W.subIn K (.ref D) (.type "BaseException") = some true) (h2 : PySem.W.hasDictIn K D = true) (h3 : PySem.W.typeIn K (.ref D) = some (.type "type")) (h4 : PySem.W.subIn K (.ref C) (.ref D) = some b) : PySem.W.kitCls K (.ref C) (.ref D) = some b := by
  have h := PySem.W.exm_ref (cls := .ref C) h1 h2 h3 h4
  unfold PySem.W.exmOne at h
  rw [h1] at h
  simpa using h
theorem kit_ve {K : PySem.W.Frag} {C : Addr} (h : PySem.W.subIn K (.ref C) (.type "ValueError") = some true) : PySem.W.kitOne K (.ref C) (.type "ValueError") = some true := by
  have h0 : PySem.W.kitMeta "ValueError" = true := by decide +kernel
  unfold PySem.W.kitOne
  split
  · rfl
  · show (if PySem.W.kitMeta "ValueError" = true then PySem.W.subIn K (.ref C) (.type "ValueError") else none) = some true
    rw [if_pos h0]; exact h
/-- the class at C beside the others -/
def AllKit (K : PySem.W.Frag) (c : Nat) (C : Addr) : Nat → List (Str × List Str) → Prop
  | _, [] => True
  | i, (y, []) :: r => (∀ D, PySem.W.nsIn K mainGlobals y = some (some (.ref D)) → PySem.W.kitCls K (.ref C) (.ref D) = some (subB c i)) ∧ AllKit K c C (i + 1) r
  | i, _ :: r => AllKit K c C (i + 1) r
theorem AllKit.get0 {K : PySem.W.Frag} {c : Nat} {C D : Addr} : ∀ {L : List (Str × List Str)} {i : Nat}, AllKit K c C i L → ∀ (k : Nat) (x : Str), L[k]? = some (x, []) → PySem.W.nsIn K mainGlobals x = some (some (.ref D)) → PySem.W.kitCls K (.ref C) (.ref D) = some (subB c (i + k))
  | [], _, _, k, x, e, _ => by simp at e
  | (y, []) :: r, i, h, 0, x, e, hd => by
    simp at e
    subst e
    exact h.1 D hd
  | (y, _ :: _) :: r, i, h, 0, x, e, _ => by simp at e
  | (y, []) :: r, i, h, k + 1, x, e, hd => by
    have := AllKit.get0 (i := i + 1) h.2 k x (by simpa using e) hd
    rw [show i + (k + 1) = i + 1 + k by omega]
    exact this
  | (y, z :: q) :: r, i, h, k + 1, x, e, hd => by
    have h' : AllKit K c C (i + 1) r := h
    have := AllKit.get0 h' k x (by simpa using e) hd
    rw [show i + (k + 1) = i + 1 + k by omega]
    exact this
theorem xtK_inv {K : PySem.W.Frag} {L : List (Str × List Str)} {k : Nat} {C : Value} (e1 : (xtK K L).cls k = some C) (e2 : (xtK K L).flds k = []) : ∃ x, L[k]? = some (x, []) ∧ PySem.W.nsIn K mainGlobals x = some (some C) := by
  have e1' : (match L[k]? with | some p => (PySem.W.nsIn K mainGlobals p.1).join | none => none) = some C := e1
  have e2' : (match L[k]? with | some p => p.2 | none => []) = [] := e2
  cases h : L[k]? with
  | none => rw [h] at e1'; cases e1'
  | some p =>
    rw [h] at e1' e2'
    obtain ⟨x, q⟩ := p
    dsimp only at e1' e2'
    subst e2'
    refine ⟨x, rfl, ?_⟩
    cases hn : PySem.W.nsIn K mainGlobals x with
    | none => rw [hn] at e1'; cases e1'
    | some o =>
      rw [hn] at e1'
      cases o with
      | none => cases e1'
      | some v => cases e1'; rfl
theorem AllKit.get {K : PySem.W.Frag} {c : Nat} {C : Addr} {L : List (Str × List Str)} (h : AllKit K c C 0 L) (k : Nat) (D : Addr) (e1 : (xtK K L).cls k = some (.ref D)) (e2 : (xtK K L).flds k = []) : PySem.W.kitCls K (.ref C) (.ref D) = some (subB c k) := by
  obtain ⟨x, h1, h2⟩ := xtK_inv e1 e2
  have := AllKit.get0 h k x h1 h2
  rwa [Nat.zero_add] at this
theorem xcOk_mk {K : PySem.W.Frag} {mg : Str → Option Value} {h : Heap} {L : List (Str × List Str)} {c : Nat} {x : Str} {C : Addr} (X : K.In h) (G : h.Ns mainGlobals mg) (hc : L[c]? = some (x, [])) (n : PySem.W.nsIn K mainGlobals x = some (some (.ref C))) (h1 : PySem.W.excIn K C bmVE "ValueError.__new__" = true)
    (h2 : PySem.W.keepIn K (.ref C) = true) (h3 : PySem.W.subIn K (.ref C) (.type "BaseException") = some true) (h4 : PySem.W.typeIn K (.ref C) = some (.type "type")) (h5 : L2.ExcC K C) (h6 : PySem.W.kitOne K (.ref C) (.type "ValueError") = some true) (h7 : AllKit K c C 0 L) : XcOk (xtK K L) K mg c x := by
  refine ⟨C, ?_, ?_, PySem.W.mg_of X G n, h1, h2, h3, h4, h5, h6, fun k D e1 e2 => h7.get k D e1 e2⟩
  · show (match L[c]? with | some p => (PySem.W.nsIn K mainGlobals p.1).join | none => none) = _
    rw [hc]
    show (PySem.W.nsIn K mainGlobals x).join = _
    rw [n]; rfl
  · show (match L[c]? with | some p => p.2 | none => []) = _
    rw [hc]
/-- the walk: from the law's own meaning to the row -/
theorem walk_law {l : PySem.W.OpenLaw} {q : Program} {loose : List Str} {XP : (Str → Option Value) → Heap → Prop} {YP : World → Heap → Prop} {d : DefRec} {K : Params → PySem.W.Frag} (T : Tb) (tab : List Fn) (gl : List Dt) (n fL : Nat)
    (hn : l.most = some 63) (hdf : d.params.defaults = []) (hr : Room n callerA) (hY : ∀ (w : World) (h : Heap), YP w h → (K w.params).In h)
    (F : ∀ (w : World) (mg : Str → Option Value) (fa : Addr) (h : Heap), (K w.params).In h → h.Ns mainGlobals mg → mg d.name = some (.ref fa) →
      (∀ f x np, T.fns[f]? = some (x, np) → ∃ a fd ps, DefIs (K w.params) mg T tab f x np a fd ps) ∧ (∃ fd, DefIs (K w.params) mg T tab fL d.name 1 fa fd ["script"]) ∧
      (∀ (k : Nat) (x : Str), T.gls[k]? = some x → ∃ (d : Dt) (v : V) (u : Value), gl[k]? = some d ∧ mg x = some u ∧ RelV v u ∧ ∀ av H, Rep (K w.params) av H d v) ∧
      (∀ x ∈ bltNames, mg (Str.ofString x) = none) ∧ (∀ (c : Nat) (x : Str), T.xcs[c]? = some (x, []) → XcOk (xtK (K w.params) T.xcs) (K w.params) mg c x))
    (hlaw : ∀ ns : List Int, ns.length ≤ 63 → runP tab gl n fL [.scr ns] = .ok (.bl true)) :
    PySem.W.WalkO q loose XP YP l.row.toRowW d [] (fun f vs => PySem.call f vs) := by
  refine L2.walk_of (n := 63) (k := n) (x := "script") (CX := fun w => L2.CX l.prog w) (sp := fun w => spF (xtK (K w.params) T.xcs) (K w.params) 1 (callW (runP tab gl n) fL)) hn (by decide) hdf hr hY (fun w mg fa h KX Gm hm => ?_) (fun w H a ns hl hO hS => ?_) ?_
  · obtain ⟨D, ⟨fd, hd⟩, G, B, XX⟩ := F w mg fa h KX Gm hm
    refine ⟨fd, fun s u => ?_, fun base _ _ => fn_ok D G B ⟨XX, fun k C e1 e2 => by
      obtain ⟨x, h1, h2⟩ := xtK_inv e1 e2
      obtain ⟨A, y1, _, _, _, _, _, _, y8⟩ := XX k x h1
      rw [e1] at y1
      cases y1
      exact ⟨A, rfl, y8⟩⟩ n fL d.name 1 fa fd ["script"] hd⟩
    obtain ⟨_, _, _, _, _, _, _, k4, _⟩ := hd
    exact .of_eq (k4 [u] rfl)
  · have rs : Rep (K w.params) ([] ++ []) H (.scr ns) (.ref a) := .scr (by
      rcases hS with h | h
      · exact .inl ⟨by simp, h⟩
      · exact .inr h)
    refine ⟨[], [], [], [.d (.scr ns)], ⟨rfl, List.nodup_nil, fun a ha => (List.not_mem_nil ha).elim, fun a ha => (List.not_mem_nil ha).elim, fun n a xs e => by simp at e⟩, .cons rs .nil, rfl, ?_⟩
    have : callW (runP tab gl n) fL [.d (.scr ns)] [] = .ok (.d (.bl true), []) := by
      unfold callW
      simp only [mapD, Option.map_some, Rs.ofO_some, Rs.bind_ok, hlaw ns hl]
    rw [this]
    intro φ' H' _ _ v rv
    cases (show Rep (K w.params) ([] ++ φ') H' (.bl true) v from rv)
    rfl
  · intro w H s e s' z
    obtain ⟨_, _, _, _, _, _, _, _, _, _, _, _, z⟩ := z
    exact z
end PB

set_option Elab.async false
set_option linter.all false
set_option maxRecDepth 100000
set_option maxHeartbeats 4000000
set_option backward.match.sparseCases false
/-! Reckoning with the own meaning. -/
namespace PB
open PySem
section
variable {Γ : Gam} {ρ : Ev} {st : Sr}
def lookW : Option (Option Wv) → Sr → Rs (Wv × Sr)
  | some (some w), st => .ok (w, st)
  | _, _ => .bad
@[simp] theorem lookW_some (w : Wv) : lookW (some (some w)) st = .ok (w, st) := rfl
@[simp] theorem evE_v (i : Nat) : evE Γ (.v i) ρ st = lookW ρ[i]? st := by
  rw [evE]
  rcases ρ[i]? with _ | (_ | w) <;> rfl
@[simp] theorem evE_non : evE Γ .non ρ st = .ok (.d .non, st) := by rw [evE]
@[simp] theorem evE_bl (b : Bool) : evE Γ (.bl b) ρ st = .ok (.d (.bl b), st) := by rw [evE]
@[simp] theorem evE_int (i : Int) : evE Γ (.int i) ρ st = .ok (.d (.int i), st) := by rw [evE]
@[simp] theorem evE_str (s : List Nat) : evE Γ (.str s) ρ st = .ok (.d (.str s), st) := by rw [evE]
def globW : Option Dt → Sr → Rs (Wv × Sr)
  | some x, st => .ok (.d x, st)
  | none, _ => .bad
@[simp] theorem globW_some (x : Dt) : globW (some x) st = .ok (.d x, st) := rfl
@[simp] theorem evE_g (k : Nat) : evE Γ (.g k) ρ st = globW Γ.glob[k]? st := by
  rw [evE]
  rcases Γ.glob[k]? with _ | w <;> rfl
@[simp] theorem evE_bin (o : Bop) (a b : Ex) : evE Γ (.bin o a b) ρ st = (evE Γ a ρ st).bind fun p => (evE Γ b ρ p.2).bind fun q => op2 (bopD o) p.1 q := by rw [evE]
@[simp] theorem evE_neg (a : Ex) : evE Γ (.neg a) ρ st = (evE Γ a ρ st).bind (op1 negD) := by rw [evE]
@[simp] theorem evE_not (a : Ex) : evE Γ (.not a) ρ st = (evE Γ a ρ st).bind (op1 notD) := by rw [evE]
@[simp] theorem evE_and (es : Exs) : evE Γ (.and es) ρ st = evAnd Γ es ρ st := by rw [evE]
@[simp] theorem evE_or (es : Exs) : evE Γ (.or es) ρ st = evOr Γ es ρ st := by rw [evE]
@[simp] theorem evAnd1 (e : Ex) : evAnd Γ (.cons e .nil) ρ st = evE Γ e ρ st := by rw [evAnd_one]
@[simp] theorem evOr1 (e : Ex) : evOr Γ (.cons e .nil) ρ st = evE Γ e ρ st := by rw [evOr_one]
@[simp] theorem evAnd2 (e e2 : Ex) (r : Exs) : evAnd Γ (.cons e (.cons e2 r)) ρ st = (evE Γ e ρ st).bind fun p => (truW p).bind fun t => if t = true then evAnd Γ (.cons e2 r) ρ p.2 else .ok p := evAnd_more e e2 r ρ st
@[simp] theorem evOr2 (e e2 : Ex) (r : Exs) : evOr Γ (.cons e (.cons e2 r)) ρ st = (evE Γ e ρ st).bind fun p => (truW p).bind fun t => if t = true then .ok p else evOr Γ (.cons e2 r) ρ p.2 := evOr_more e e2 r ρ st
@[simp] theorem evE_cmp (o : Cop) (a b : Ex) : evE Γ (.cmp o a b) ρ st = (evE Γ a ρ st).bind fun p => (evE Γ b ρ p.2).bind fun q => op2 (fun x y => blO (copD o x y)) p.1 q := by rw [evE]
@[simp] theorem evE_cmp2 (o o' : Cop) (a b c : Ex) : evE Γ (.cmp2 o o' a b c) ρ st = (evE Γ a ρ st).bind fun p => (evE Γ b ρ p.2).bind fun q => (op2 (fun x y => blO (copD o x y)) p.1 q).bind fun k =>
      (truW k).bind fun t => if t = true then (evE Γ c ρ k.2).bind fun r => op2 (fun x y => blO (copD o' x y)) q.1 r else .ok k := by rw [evE]
@[simp] theorem evE_call0 (f : Nat) : evE Γ (.call0 f) ρ st = noExc (Γ.call f [] st) := by rw [evE]
@[simp] theorem evE_call (f : Nat) (es : Exs) : evE Γ (.call f es) ρ st = (evEs Γ es ρ st).bind fun p => Γ.call f p.1 p.2 := by rw [evE]
@[simp] theorem evE_p1 (p : P1) (a : Ex) : evE Γ (.p1 p a) ρ st = (evE Γ a ρ st).bind (op1 (p1D p)) := by rw [evE]
@[simp] theorem evE_lens (a : Ex) : evE Γ (.lens a) ρ st = (evE Γ a ρ st).bind (op1 lensD) := by rw [evE]
@[simp] theorem evE_isi (a : Ex) (t : Ty) : evE Γ (.isi a t) ρ st = (evE Γ a ρ st).bind (op1 (fun x => some (.bl (isiD t x)))) := by rw [evE]
@[simp] theorem evE_isi2 (a : Ex) (t u : Ty) : evE Γ (.isi2 a t u) ρ st = (evE Γ a ρ st).bind (op1 (fun x => some (.bl (isiD t x || isiD u x)))) := by rw [evE]
@[simp] theorem evE_m1 (m : M1) (a b : Ex) : evE Γ (.m1 m a b) ρ st = (evE Γ a ρ st).bind fun p => (Rs.ofO ((strW p.1).map fun s => (s, p.2))).bind fun s => (evE Γ b ρ s.2).bind (op1 (m1S m s.1)) := by rw [evE]
@[simp] theorem evE_b2 (o : B2) (a b : Ex) : evE Γ (.b2 o a b) ρ st = (evE Γ a ρ st).bind fun p => (evE Γ b ρ p.2).bind fun q => op2 (b2D o) p.1 q := by rw [evE]
@[simp] theorem evE_rev (a : Ex) : evE Γ (.rev a) ρ st = (evE Γ a ρ st).bind (op1 revD) := by rw [evE]
@[simp] theorem evE_ix (a i : Ex) : evE Γ (.ix a i) ρ st = (evE Γ a ρ st).bind fun p => (evE Γ i ρ p.2).bind fun q => op2 ixD p.1 q := by rw [evE]
@[simp] theorem evE_sl (a : Ex) (lo hi : Exo) : evE Γ (.sl a lo hi) ρ st = (evE Γ a ρ st).bind fun p => (evO Γ lo ρ p.2).bind fun l => (evO Γ hi ρ l.2).bind fun h => op1 (fun x => slD x l.1 h.1) (p.1, h.2) := by rw [evE]
@[simp] theorem evE_tup (es : Exs) : evE Γ (.tup es) ρ st = (evEs Γ es ρ st).bind mkTup := by rw [evE]
@[simp] theorem evE_lst (es : Exs) : evE Γ (.lst es) ρ st = (evEs Γ es ρ st).bind mkLst := by rw [evE]
@[simp] theorem evE_lc (elt : Ex) (tg : Tg) (it : Itx) (ifs : Exs) : evE Γ (.lc elt tg it ifs) ρ st = (evI Γ it ρ st).bind fun p => (lcL p.1.2 (lcTurn (evIfs Γ ifs) (evE Γ elt) tg ρ) p.1.1 p.2).bind lcEnd := by rw [evE]
@[simp] theorem evEs_nil : evEs Γ .nil ρ st = .ok ([], st) := by rw [evEs]
@[simp] theorem evEs_cons (e : Ex) (es : Exs) : evEs Γ (.cons e es) ρ st = (evE Γ e ρ st).bind fun p => (evEs Γ es ρ p.2).bind fun q => .ok (p.1 :: q.1, q.2) := by rw [evEs]
@[simp] theorem evIfs_nil : evIfs Γ .nil ρ st = .ok (true, st) := by rw [evIfs]
@[simp] theorem evIfs_one (e : Ex) : evIfs Γ (.cons e .nil) ρ st = (evE Γ e ρ st).bind fun p => (truW p).bind fun t => .ok (t, p.2) := by rw [evIfs]; rfl
@[simp] theorem evO_no : evO Γ .no ρ st = .ok (none, st) := by rw [evO]
@[simp] theorem evO_yes (e : Ex) : evO Γ (.yes e) ρ st = (evE Γ e ρ st).bind fun p => Rs.ofO ((intW p.1).map fun i => (some i, p.2)) := by rw [evO]
@[simp] theorem evI_seq (e : Ex) : evI Γ (.seq e) ρ st = (evE Γ e ρ st).bind fun p => Rs.ofO (itSeq p) := by rw [evI]
@[simp] theorem evI_rng1 (e : Ex) : evI Γ (.rng1 e) ρ st = (evE Γ e ρ st).bind fun p => Rs.ofO ((intW p.1).bind fun i => itRng p.2 0 i) := by rw [evI]
@[simp] theorem evI_rng2 (a b : Ex) : evI Γ (.rng2 a b) ρ st = (evE Γ a ρ st).bind fun p => (evE Γ b ρ p.2).bind fun q => Rs.ofO ((intW p.1).bind fun i => (intW q.1).bind fun j => itRng q.2 i j) := by rw [evI]
@[simp] theorem evI_enm (e : Ex) : evI Γ (.enm e) ρ st = (evE Γ e ρ st).bind fun p => Rs.ofO (itEnm p) := by rw [evI]
@[simp] theorem evI_zip (a b : Ex) : evI Γ (.zip a b) ρ st = (evE Γ a ρ st).bind fun p => (evE Γ b ρ p.2).bind fun q => Rs.ofO (itZip p.1 q) := by rw [evI]
@[simp] theorem evT_eq (e : Ex) : evT Γ e ρ st = (evE Γ e ρ st).bind fun p => (truW p).bind fun t => .ok (t, p.2) := rfl
@[simp] theorem exSs_nil : exSs Γ .nil ρ st = .ok ((.nx, ρ), st) := by rw [exSs]
/-- on behind a statement -/
def thenS (r : Ev → Sr → Rs Sx) (p : Sx) : Rs Sx := match p.1.1 with
    | .nx => r p.1.2 p.2
    | .rt w => .ok ((.rt w, p.1.2), p.2)
    | .bk => .ok ((.bk, p.1.2), p.2)
    | .ct => .ok ((.ct, p.1.2), p.2)
@[simp] theorem thenS_nx {r : Ev → Sr → Rs Sx} : thenS r ((.nx, ρ), st) = r ρ st := rfl
@[simp] theorem thenS_rt {r : Ev → Sr → Rs Sx} (w : Wv) : thenS r ((.rt w, ρ), st) = .ok ((.rt w, ρ), st) := rfl
@[simp] theorem thenS_bk {r : Ev → Sr → Rs Sx} : thenS r ((.bk, ρ), st) = .ok ((.bk, ρ), st) := rfl
@[simp] theorem thenS_ct {r : Ev → Sr → Rs Sx} : thenS r ((.ct, ρ), st) = .ok ((.ct, ρ), st) := rfl
@[simp] theorem exSs_cons (s : Sm) (r : Sms) : exSs Γ (.cons s r) ρ st = (exS Γ s ρ st).bind (thenS (exSs Γ r)) := by
  rw [exSs]; unfold thenS; rfl
@[simp] theorem exS_set (i : Nat) (e : Ex) : exS Γ (.set i e) ρ st = (evE Γ e ρ st).bind fun p => .ok ((.nx, ρ.set i (some p.1)), p.2) := by rw [exS]
@[simp] theorem exS_setL (i : Nat) (e : Ex) : exS Γ (.setL i e) ρ st = (evE Γ e ρ st).bind (layL i ρ) := by rw [exS]
@[simp] theorem exS_unp (is : List Nat) (e : Ex) : exS Γ (.unp is e) ρ st = (evE Γ e ρ st).bind (unpW is ρ) := by rw [exS]
@[simp] theorem exS_ret (e : Ex) : exS Γ (.ret e) ρ st = (evE Γ e ρ st).bind fun p => .ok ((.rt p.1, ρ), p.2) := by rw [exS]
@[simp] theorem exS_ife (c : Ex) (a b : Sms) : exS Γ (.ife c a b) ρ st = (evT Γ c ρ st).bind fun p => if p.1 = true then exSs Γ a ρ p.2 else exSs Γ b ρ p.2 := by rw [exS]
@[simp] theorem exS_for (tg : Tg) (it : Itx) (b : Sms) : exS Γ (.forS tg it b) ρ st = (evI Γ it ρ st).bind fun p => exFor (exSs Γ b) tg p.1.2 p.1.1 ρ p.2 := by rw [exS]
@[simp] theorem exS_whl (c : Ex) (b : Sms) : exS Γ (.whl c b) ρ st = exWhl (evT Γ c) (exSs Γ b) turns ρ st := by rw [exS]
@[simp] theorem exS_app (i : Nat) (e : Ex) : exS Γ (.app i e) ρ st = (Rs.ofO ((obW ρ[i]?).map fun n => (n, st))).bind fun n => (seenW n.1 n.2).bind fun u => (evE Γ e ρ u.2).bind (appW n.1 ρ) := by rw [exS]
@[simp] theorem exS_expr (e : Ex) : exS Γ (.expr e) ρ st = (evE Γ e ρ st).bind fun p => .ok ((.nx, ρ), p.2) := by rw [exS]
@[simp] theorem exS_quo (i : Nat) : exS Γ (.quo i) ρ st = quoW ρ[i]? ρ st := by rw [exS]
@[simp] theorem exS_rai (c : Nat) : exS Γ (.rai c) ρ st = .exc c [] st := by rw [exS]
@[simp] theorem exS_tryX (c : Nat) (b : Sms) (i j : Nat) (xs : List Xe) : exS Γ (.tryX c b i j xs) ρ st = tryW c i j xs ρ (exSs Γ b ρ st) := by rw [exS]
@[simp] theorem exS_tryN (c : Nat) (b : Sms) : exS Γ (.tryN c b) ρ st = noExc (exSs Γ b ρ st) := by rw [exS]
@[simp] theorem exS_brk : exS Γ .brk ρ st = .ok ((.bk, ρ), st) := by rw [exS]
@[simp] theorem exS_cnt : exS Γ .cnt ρ st = .ok ((.ct, ρ), st) := by rw [exS]
@[simp] theorem exS_pass : exS Γ .pass ρ st = .ok ((.nx, ρ), st) := by rw [exS]
/-! #### pieces -/
@[simp] theorem op1_d (f : Dt → Option Dt) (x : Dt) : op1 f (.d x, st) = Rs.ofO ((f x).map fun z => (.d z, st)) := rfl
@[simp] theorem op2_d (f : Dt → Dt → Option Dt) (x y : Dt) : op2 f (.d x) (.d y, st) = Rs.ofO ((f x y).map fun z => (.d z, st)) := rfl
@[simp] theorem truW_d (x : Dt) : truW (.d x, st) = .ok (truthD x) := rfl
@[simp] theorem intW_i (i : Int) : intW (.d (.int i)) = some i := rfl
@[simp] theorem strW_s (s : List Nat) : strW (.d (.str s)) = some s := rfl
@[simp] theorem dataW_d (x : Dt) : dataW (.d x) = some x := rfl
@[simp] theorem blO_some (b : Bool) : blO (some b) = some (.bl b) := rfl
@[simp] theorem negD_i (i : Int) : negD (.int i) = some (.int (-i)) := rfl
@[simp] theorem notD_x (x : Dt) : notD x = some (.bl (!truthD x)) := rfl
@[simp] theorem truthD_bl (b : Bool) : truthD (.bl b) = b := rfl
@[simp] theorem mapD_nil : mapD [] = some [] := rfl
@[simp] theorem mapD_cons (x : Dt) (r : List Wv) : mapD (.d x :: r) = (mapD r).map (x :: ·) := rfl
theorem mkTup_ok {ws : List Wv} {xs : List Dt} (h : mapD ws = some xs) (hl : ws.length ≤ lim) : mkTup (ws, st) = .ok (.d (.tup xs), st) := by
  unfold mkTup
  simp only [h]
  rw [if_pos hl]
  rfl
theorem mkLst_ok {ws : List Wv} {xs : List Dt} (h : mapD ws = some xs) (hl : ws.length ≤ lim) : mkLst (ws, st) = .ok (.d (.lst xs), st) := by
  unfold mkLst
  simp only [h]
  rw [if_pos hl]
  rfl
theorem lim16 : lim = 16777216 := by unfold lim; exact (Nat.add_zero _).symm.trans (Nat.add_zero _)
@[simp] theorem mkTup0 : mkTup ([], st) = .ok (.d (.tup []), st) := rfl
@[simp] theorem mkTup1 (a : Dt) : mkTup ([.d a], st) = .ok (.d (.tup [a]), st) := mkTup_ok rfl (by simp [lim16])
@[simp] theorem mkTup2 (a b : Dt) : mkTup ([.d a, .d b], st) = .ok (.d (.tup [a, b]), st) := mkTup_ok rfl (by simp [lim16])
@[simp] theorem mkTup3 (a b c : Dt) : mkTup ([.d a, .d b, .d c], st) = .ok (.d (.tup [a, b, c]), st) := mkTup_ok rfl (by simp [lim16])
@[simp] theorem mkTup4 (a b c d : Dt) : mkTup ([.d a, .d b, .d c, .d d], st) = .ok (.d (.tup [a, b, c, d]), st) := mkTup_ok rfl (by simp [lim16])
@[simp] theorem mkLst0 : mkLst ([], st) = .ok (.d (.lst []), st) := rfl
@[simp] theorem mkLst1 (a : Dt) : mkLst ([.d a], st) = .ok (.d (.lst [a]), st) := mkLst_ok rfl (by simp [lim16])
@[simp] theorem mkLst2 (a b : Dt) : mkLst ([.d a, .d b], st) = .ok (.d (.lst [a, b]), st) := mkLst_ok rfl (by simp [lim16])
@[simp] theorem mkLst3 (a b c : Dt) : mkLst ([.d a, .d b, .d c], st) = .ok (.d (.lst [a, b, c]), st) := mkLst_ok rfl (by simp [lim16])
@[simp] theorem callW_0 (r : Nat → List Dt → Rs Dt) (f : Nat) : callW r f [] st = (match r f [] with | .ok d => .ok (.d d, st) | .exc c fs _ => .exc c fs st | .bad => .bad) := rfl
/-- a call's value -/
def valD (st : Sr) : Rs Dt → Rs (Wv × Sr)
  | .ok d => .ok (.d d, st)
  | .exc c fs _ => .exc c fs st
  | .bad => .bad
@[simp] theorem valD_ok (d : Dt) : valD st (.ok d) = .ok (.d d, st) := rfl
@[simp] theorem valD_exc (c : Nat) (fs : List Dt) (s : Sr) : valD st (.exc c fs s) = .exc c fs st := rfl
theorem callW_eq (r : Nat → List Dt → Rs Dt) (f : Nat) {ws : List Wv} {ds : List Dt} (h : mapD ws = some ds) : callW r f ws st = valD st (r f ds) := by
  unfold callW valD
  rw [h]
  rfl
@[simp] theorem callW_1 (r : Nat → List Dt → Rs Dt) (f : Nat) (a : Dt) : callW r f [.d a] st = valD st (r f [a]) := callW_eq r f rfl
@[simp] theorem callW_2 (r : Nat → List Dt → Rs Dt) (f : Nat) (a b : Dt) : callW r f [.d a, .d b] st = valD st (r f [a, b]) := callW_eq r f rfl
@[simp] theorem callW_3 (r : Nat → List Dt → Rs Dt) (f : Nat) (a b c : Dt) : callW r f [.d a, .d b, .d c] st = valD st (r f [a, b, c]) := callW_eq r f rfl
@[simp] theorem callW_4 (r : Nat → List Dt → Rs Dt) (f : Nat) (a b c d : Dt) : callW r f [.d a, .d b, .d c, .d d] st = valD st (r f [a, b, c, d]) := callW_eq r f rfl
@[simp] theorem endD_nx : endD ((.nx, ρ), st) = .ok .non := rfl
@[simp] theorem endD_rt (x : Dt) : endD ((.rt (.d x), ρ), st) = .ok x := rfl
/-! #### operators -/
@[simp] theorem add_ii (i j : Int) : bopD .add (.int i) (.int j) = some (.int (i + j)) := rfl
@[simp] theorem sub_ii (i j : Int) : bopD .sub (.int i) (.int j) = some (.int (i - j)) := rfl
theorem mul_ii {i j : Int} (h : smallI i ∨ smallI j) : bopD .mul (.int i) (.int j) = some (.int (i * j)) := if_pos h
theorem mod_ii {i j : Int} (h : 0 < j) : bopD .mod (.int i) (.int j) = some (.int (i % j)) := if_pos h
theorem fdiv_ii {i j : Int} (h : 0 < j ∧ j < 1073741824) : bopD .fdiv (.int i) (.int j) = some (.int (i / j)) := if_pos h
theorem add_ss {a b : List Nat} (h : a.length + b.length ≤ lim) : bopD .add (.str a) (.str b) = some (.str (a ++ b)) := if_pos h
theorem add_tt {a b : List Dt} (h : a.length + b.length ≤ lim) : bopD .add (.tup a) (.tup b) = some (.tup (a ++ b)) := if_pos h
theorem add_ll {a b : List Dt} (h : a.length + b.length ≤ lim) : bopD .add (.lst a) (.lst b) = some (.lst (a ++ b)) := if_pos h
theorem mul_si {a : List Nat} {j : Int} (h : a.length * j.toNat ≤ lim ∧ -(2 ^ 62) < j ∧ j < 2 ^ 62) : bopD .mul (.str a) (.int j) = some (.str (List.replicate j.toNat a).flatten) := if_pos h
@[simp] theorem lt_ii (i j : Int) : copD .lt (.int i) (.int j) = some (decide (i < j)) := rfl
@[simp] theorem le_ii (i j : Int) : copD .le (.int i) (.int j) = some (decide (i ≤ j)) := rfl
@[simp] theorem gt_ii (i j : Int) : copD .gt (.int i) (.int j) = some (decide (j < i)) := rfl
@[simp] theorem ge_ii (i j : Int) : copD .ge (.int i) (.int j) = some (decide (j ≤ i)) := rfl
@[simp] theorem is_bb (a b : Bool) : copD .is (.bl a) (.bl b) = some (a == b) := rfl
@[simp] theorem isnot_bb (a b : Bool) : copD .isnot (.bl a) (.bl b) = some (!(a == b)) := rfl
@[simp] theorem min_ii (i j : Int) : b2D .min (.int i) (.int j) = some (.int (if j < i then j else i)) := rfl
@[simp] theorem max_ii (i j : Int) : b2D .max (.int i) (.int j) = some (.int (if j > i then j else i)) := rfl
theorem eq_dd {a b : Dt} (h : depD a ≤ 64 ∨ depD b ≤ 64) : copD .eq a b = some (eqD a b) := if_pos h
theorem ne_dd {a b : Dt} (h : depD a ≤ 64 ∨ depD b ≤ 64) : copD .ne a b = some (!eqD a b) := if_pos h
@[simp] theorem eq_ii (i j : Int) : copD .eq (.int i) (.int j) = some (decide (i = j)) := by
  rw [eq_dd (.inl (by simp [depD]))]; simp [eqD, Bool.beq_eq_decide_eq]
@[simp] theorem ne_ii (i j : Int) : copD .ne (.int i) (.int j) = some (!decide (i = j)) := by
  rw [ne_dd (.inl (by simp [depD]))]; simp [eqD, Bool.beq_eq_decide_eq]
@[simp] theorem eq_ss (i j : List Nat) : copD .eq (.str i) (.str j) = some (decide (i = j)) := by
  rw [eq_dd (.inl (by simp [depD]))]; simp [eqD, Bool.beq_eq_decide_eq]
@[simp] theorem ne_ss (i j : List Nat) : copD .ne (.str i) (.str j) = some (!decide (i = j)) := by
  rw [ne_dd (.inl (by simp [depD]))]; simp [eqD, Bool.beq_eq_decide_eq]
@[simp] theorem in_cs (c : Nat) (s : List Nat) : copD .inn (.str [c]) (.str s) = some (decide (c ∈ s)) := rfl
@[simp] theorem notin_cs (c : Nat) (s : List Nat) : copD .notin (.str [c]) (.str s) = some (!decide (c ∈ s)) := rfl
@[simp] theorem len_s (s : List Nat) : p1D .len (.str s) = some (.int s.length) := rfl
@[simp] theorem len_t (s : List Dt) : p1D .len (.tup s) = some (.int s.length) := rfl
@[simp] theorem len_l (s : List Dt) : p1D .len (.lst s) = some (.int s.length) := rfl
@[simp] theorem len_c (s : List Int) : p1D .len (.scr s) = some (.int s.length) := rfl
@[simp] theorem tuple_l (s : List Dt) : p1D .tuple (.lst s) = some (.tup s) := rfl
@[simp] theorem tuple_t (s : List Dt) : p1D .tuple (.tup s) = some (.tup s) := rfl
@[simp] theorem list_l (s : List Dt) : p1D .list (.lst s) = some (.lst s) := rfl
@[simp] theorem list_t (s : List Dt) : p1D .list (.tup s) = some (.lst s) := rfl
@[simp] theorem int_b (b : Bool) : p1D .int (.bl b) = some (.int (if b then 1 else 0)) := rfl
@[simp] theorem int_i (i : Int) : p1D .int (.int i) = some (.int i) := rfl
theorem allBl_map {α : Type} (f : α → Bool) : ∀ xs : List α, allBl (xs.map fun x => Dt.bl (f x)) = some (xs.map f)
  | [] => rfl
  | x :: xs => by
    show (allBl (xs.map fun x => Dt.bl (f x))).map (f x :: ·) = _
    rw [allBl_map f xs]; rfl
theorem all_map {α : Type} (f : α → Bool) (xs : List α) : p1D .all (.lst (xs.map fun x => Dt.bl (f x))) = some (.bl (xs.all f)) := by
  show (allBl _).map _ = _
  rw [allBl_map]
  simp [List.all_map]
theorem any_map {α : Type} (f : α → Bool) (xs : List α) : p1D .any (.lst (xs.map fun x => Dt.bl (f x))) = some (.bl (xs.any f)) := by
  show (allBl _).map _ = _
  rw [allBl_map]
  simp [List.any_map]
/-! #### walks -/
@[simp] theorem itSeq_t (xs : List Dt) : itSeq (.d (.tup xs), st) = some ((xs, []), st) := rfl
@[simp] theorem itSeq_l (xs : List Dt) : itSeq (.d (.lst xs), st) = some ((xs, []), st) := rfl
@[simp] theorem itSeq_s (s : List Nat) : itSeq (.d (.str s), st) = some ((s.map fun c => .str [c], []), st) := rfl
@[simp] theorem itEnm_l (xs : List Dt) : itEnm (.d (.lst xs), st) = some ((enumL 0 xs, []), st) := rfl
@[simp] theorem watch_nil : watchOk [] st = true := rfl
@[simp] theorem wipe_one (i : Nat) : wipeE ρ [i] = ρ.set i none := rfl
@[simp] theorem slots_one (i : Nat) : (Tg.one i).slots = [i] := rfl
@[simp] theorem slots_many (is : List Nat) : (Tg.many is).slots = is := rfl
@[simp] theorem setTg_one (i : Nat) (x : Dt) : setTg (.one i) x ρ = some (ρ.set i (some (.d x))) := rfl
/-- a comprehension whose turns give f, without tests -/
theorem lcL_map (f : Dt → Sr → Rs (Option Dt × Sr)) (g : Dt → Dt) (h : ∀ x, f x st = .ok (some (g x), st)) : ∀ xs : List Dt, lcL [] f xs st = .ok (xs.map g, st)
  | [] => rfl
  | x :: xs => by
    rw [lcL, h x]
    simp only [Rs.bind_ok, watch_nil, if_true, lcL_map f g h xs, consO, List.map_cons]
theorem lcL_map' {α : Type} (f : Dt → Sr → Rs (Option Dt × Sr)) (e : α → Dt) (g : α → Dt) : ∀ (xs : List α), (∀ x ∈ xs, f (e x) st = .ok (some (g x), st)) → lcL [] f (xs.map e) st = .ok (xs.map g, st)
  | [], _ => rfl
  | x :: xs, h => by
    rw [List.map_cons, lcL, h x List.mem_cons_self]
    simp only [Rs.bind_ok, watch_nil, if_true, lcL_map' f e g xs fun y hy => h y (List.mem_cons_of_mem _ hy), consO, List.map_cons]
/-- .. with a test -/
theorem lcL_filter' {α : Type} (f : Dt → Sr → Rs (Option Dt × Sr)) (e : α → Dt) (t : α → Bool) (g : α → Dt) : ∀ (xs : List α), (∀ x ∈ xs, f (e x) st = .ok (if t x then some (g x) else none, st)) → lcL [] f (xs.map e) st = .ok ((xs.filter t).map g, st)
  | [], _ => rfl
  | x :: xs, h => by
    rw [List.map_cons, lcL, h x List.mem_cons_self]
    simp only [Rs.bind_ok, watch_nil, if_true, lcL_filter' f e t g xs fun y hy => h y (List.mem_cons_of_mem _ hy), List.filter_cons]
    cases t x <;> rfl
@[simp] theorem lcEnd_ok {xs : List Dt} (h : xs.length ≤ lim) : lcEnd (xs, st) = .ok (.d (.lst xs), st) := if_pos h
theorem noExc_ok {α : Type} (a : α) : noExc (.ok a : Rs α) = .ok a := rfl
theorem lcTurn_one {ifs : Ev → Sr → Rs (Bool × Sr)} {elt : Ev → Sr → Rs (Wv × Sr)} {i : Nat} {x y : Dt} (h1 : ifs (ρ.set i (some (.d x))) st = .ok (true, st)) (h2 : elt (ρ.set i (some (.d x))) st = .ok (.d y, st)) :
    lcTurn ifs elt (.one i) ρ x st = .ok (some y, st) := by
  simp [lcTurn, h1, h2, noExc]
/-- with a test whose answer is t -/
theorem lcTurn_if {ifs : Ev → Sr → Rs (Bool × Sr)} {elt : Ev → Sr → Rs (Wv × Sr)} {i : Nat} {x y : Dt} {t : Bool} (h1 : ifs (ρ.set i (some (.d x))) st = .ok (t, st)) (h2 : t = true → elt (ρ.set i (some (.d x))) st = .ok (.d y, st)) :
    lcTurn ifs elt (.one i) ρ x st = .ok (if t then some y else none, st) := by
  cases t with
  | true => simp [lcTurn, h1, h2 rfl, noExc]
  | false => simp [lcTurn, h1, noExc]
/-- a for's turns keep what they have, and go on -/
theorem exFor_nil {body : Ev → Sr → Rs Sx} {tg : Tg} {ws : List (Nat × List Dt)} : exFor body tg ws [] ρ st = .ok ((.nx, ρ), st) := rfl
theorem exFor_cons {body : Ev → Sr → Rs Sx} {tg : Tg} {ws : List (Nat × List Dt)} {x : Dt} {xs : List Dt} {ρ1 ρ2 : Ev} {st2 : Sr} (h1 : setTg tg x ρ = some ρ1) (h2 : body ρ1 st = .ok ((.nx, ρ2), st2)) (h3 : watchOk ws st2 = true) :
    exFor body tg ws (x :: xs) ρ st = exFor body tg ws xs ρ2 st2 := by
  rw [exFor, h1]
  simp [h2, h3]
/-- an invariant of a for whose turns all go on -/
theorem exFor_inv {body : Ev → Sr → Rs Sx} {tg : Tg} (I : Nat → Ev → Prop) : ∀ (xs : List Dt) (k : Nat) (ρ : Ev), I k ρ → (∀ j x ρ, xs[j]? = some x → I (k + j) ρ → ∃ ρ1 ρ2, setTg tg x ρ = some ρ1 ∧ body ρ1 st = .ok ((.nx, ρ2), st) ∧ I (k + j + 1) ρ2) →
    ∃ ρ', exFor body tg [] xs ρ st = .ok ((.nx, ρ'), st) ∧ I (k + xs.length) ρ'
  | [], k, ρ, h, _ => ⟨ρ, rfl, h⟩
  | x :: xs, k, ρ, h, hs => by
    obtain ⟨ρ1, ρ2, h1, h2, h3⟩ := hs 0 x ρ rfl h
    obtain ⟨ρ', h4, h5⟩ := exFor_inv I xs (k + 1) ρ2 h3 fun j y ρ hj hI => by
      have := hs (j + 1) y ρ hj (by rwa [show k + (j + 1) = k + 1 + j by omega])
      rwa [show k + (j + 1) + 1 = k + 1 + j + 1 by omega] at this
    refine ⟨ρ', ?_, ?_⟩
    · rw [exFor_cons h1 h2 rfl]; exact h4
    · rw [List.length_cons, show k + (xs.length + 1) = k + 1 + xs.length by omega]; exact h5
end
theorem exFor_mem {body : Ev → Sr → Rs Sx} {tg : Tg} {st : Sr} (I : Ev → Prop) : ∀ (xs : List Dt) (ρ : Ev), I ρ → (∀ x ∈ xs, ∀ ρ, I ρ → ∃ ρ1 ρ2, setTg tg x ρ = some ρ1 ∧ body ρ1 st = .ok ((.nx, ρ2), st) ∧ I ρ2) →
    ∃ ρ', exFor body tg [] xs ρ st = .ok ((.nx, ρ'), st) ∧ I ρ'
  | [], ρ, h, _ => ⟨ρ, rfl, h⟩
  | x :: xs, ρ, h, hs => by
    obtain ⟨ρ1, ρ2, h1, h2, h3⟩ := hs x List.mem_cons_self ρ h
    obtain ⟨ρ', h4, h5⟩ := exFor_mem I xs ρ2 h3 fun y hy => hs y (List.mem_cons_of_mem _ hy)
    exact ⟨ρ', by rw [exFor_cons h1 h2 rfl]; exact h4, h5⟩
theorem ixP_in {n : Nat} {i : Int} (h0 : 0 ≤ i) (h1 : i < n) : ixP n i = some i.toNat := by simp [ixP, h0, h1]
theorem ixL_in {α : Type} {xs : List α} {i : Int} (h0 : 0 ≤ i) (h1 : i < xs.length) : ∃ x ∈ xs, ixL xs i = some x := by
  have h2 : i.toNat < xs.length := by omega
  refine ⟨xs[i.toNat], List.getElem_mem h2, ?_⟩
  simp [ixL, ixP_in h0 h1, h2]
theorem ix_s {s : List Nat} {i : Int} (h0 : 0 ≤ i) (h1 : i < s.length) : ∃ c ∈ s, ixD (.str s) (.int i) = some (.str [c]) := by
  obtain ⟨c, h, e⟩ := ixL_in h0 h1
  exact ⟨c, h, by simp [ixD, e]⟩
theorem ix_t {s : List Dt} {i : Int} (h0 : 0 ≤ i) (h1 : i < s.length) : ∃ c ∈ s, ixD (.tup s) (.int i) = some c := ixL_in h0 h1
theorem rangeL_at (lo : Int) : ∀ (n j : Nat) (x : Dt), (rangeL lo n)[j]? = some x → x = .int (lo + j) ∧ j < n
  | 0, j, x, h => by simp [rangeL] at h
  | n + 1, 0, x, h => by simp [rangeL] at h; simp [h]
  | n + 1, j + 1, x, h => by
    have := rangeL_at (lo + 1) n j x (by simpa [rangeL] using h)
    refine ⟨by rw [this.1]; congr 1; omega, by omega⟩
theorem itRng_ok {st : Sr} {i j : Int} (h : i < 1073741824 ∧ -1073741824 < i ∧ j < 1073741824 ∧ -1073741824 < j) : itRng st i j = some ((rangeL i (j - i).toNat, []), st) := if_pos h
theorem cutL_len {α : Type} (xs : List α) (lo hi : Option Int) : (cutL xs lo hi).length ≤ xs.length := by
  unfold cutL
  simp only [List.length_take, List.length_drop]
  omega
@[simp] theorem sl_s (s : List Nat) (lo hi : Option Int) : slD (.str s) lo hi = some (.str (cutL s lo hi)) := rfl
@[simp] theorem sl_t (s : List Dt) (lo hi : Option Int) : slD (.tup s) lo hi = some (.tup (cutL s lo hi)) := rfl
@[simp] theorem sl_l (s : List Dt) (lo hi : Option Int) : slD (.lst s) lo hi = some (.lst (cutL s lo hi)) := rfl
theorem cut_hi {α : Type} (xs : List α) (k : Nat) : cutL xs none (some (k : Int)) = xs.take k := by
  unfold cutL slP
  have h : ¬ (k : Int) < 0 := by omega
  simp [h]
theorem mkTup6 {st : Sr} (a b c d e f : Dt) : mkTup ([.d a, .d b, .d c, .d d, .d e, .d f], st) = .ok (.d (.tup [a, b, c, d, e, f]), st) := mkTup_ok rfl (by simp [lim16])
theorem mkLst5 {st : Sr} (a b c d e : Dt) : mkLst ([.d a, .d b, .d c, .d d, .d e], st) = .ok (.d (.lst [a, b, c, d, e]), st) := mkLst_ok rfl (by simp [lim16])
theorem lcL_cons {f : Dt → Sr → Rs (Option Dt × Sr)} {x y : Dt} {xs ys : List Dt} {st : Sr} (h : f x st = .ok (some y, st)) (h2 : lcL [] f xs st = .ok (ys, st)) : lcL [] f (x :: xs) st = .ok (y :: ys, st) := by
  rw [lcL, h]
  simp [h2, consO]
theorem beq_nil (xs : List Dt) : eqD (.lst xs) (.lst []) = xs.isEmpty := by cases xs <;> simp [eqD, eqDs]
end PB
namespace PB
open PySem
theorem in_it (i : Int) (xs : List Dt) : copD .inn (.int i) (.tup xs) = some (xs.any fun z => eqD z (.int i)) := by simp [copD, depD]
theorem in_st (a : List Nat) (xs : List Dt) : copD .inn (.str a) (.tup xs) = some (xs.any fun z => eqD z (.str a)) := by cases a <;> simp [copD, depD]
@[simp] theorem eqD_ii (i j : Int) : eqD (.int i) (.int j) = decide (i = j) := by simp [eqD, Bool.beq_eq_decide_eq]
@[simp] theorem eqD_ss (i j : List Nat) : eqD (.str i) (.str j) = decide (i = j) := by simp [eqD, Bool.beq_eq_decide_eq]
@[simp] theorem unp3 {ρ : Ev} {st : Sr} (i j k : Nat) (a b c : Dt) : unpW [i, j, k] ρ (.d (.tup [a, b, c]), st) = .ok ((.nx, ((ρ.set i (some (.d a))).set j (some (.d b))).set k (some (.d c))), st) := rfl
@[simp] theorem unp2 {ρ : Ev} {st : Sr} (i j : Nat) (a b : Dt) : unpW [i, j] ρ (.d (.tup [a, b]), st) = .ok ((.nx, ((ρ.set i (some (.d a))).set j (some (.d b)))), st) := rfl
theorem str_i {i : Int} (h : i.natAbs < 18446744073709551616) : ∃ s, p1D .str (.int i) = some (.str s) := ⟨_, if_pos h⟩
end PB
namespace PB
open PySem
theorem range0_at {n j : Nat} {x : Dt} (h : (rangeL 0 n)[j]? = some x) : x = .int j ∧ j < n := by
  have := rangeL_at 0 n j x h
  rwa [Int.zero_add] at this
end PB
namespace PB
open PySem
theorem lcL_ex {st : Sr} {f : Dt → Sr → Rs (Option Dt × Sr)} (P : Dt → Prop) : ∀ xs : List Dt, (∀ x ∈ xs, ∃ y, f x st = .ok (some y, st) ∧ P y) → ∃ ys, lcL [] f xs st = .ok (ys, st) ∧ ys.length = xs.length ∧ ∀ y ∈ ys, P y
  | [], _ => ⟨[], rfl, rfl, by simp⟩
  | x :: xs, h => by
    obtain ⟨y, h1, h2⟩ := h x List.mem_cons_self
    obtain ⟨ys, h3, h4, h5⟩ := lcL_ex P xs fun z hz => h z (List.mem_cons_of_mem _ hz)
    refine ⟨y :: ys, lcL_cons h1 h3, by simp [h4], ?_⟩
    intro z hz
    rcases List.mem_cons.mp hz with rfl | hz
    · exact h2
    · exact h5 z hz
theorem range0_mem {n : Nat} {x : Dt} (h : x ∈ rangeL 0 n) : ∃ j : Nat, x = .int j ∧ j < n := by
  obtain ⟨j, hj, e⟩ := List.getElem_of_mem h
  exact ⟨j, range0_at (by rw [List.getElem?_eq_getElem hj, e])⟩
theorem map_of_ex {α β : Type} {e : α → β} {P : α → Prop} : ∀ ys : List β, (∀ y ∈ ys, ∃ a, y = e a ∧ P a) → ∃ as : List α, ys = as.map e ∧ ∀ a ∈ as, P a
  | [], _ => ⟨[], rfl, by simp⟩
  | y :: ys, h => by
    obtain ⟨a, h1, h2⟩ := h y List.mem_cons_self
    obtain ⟨as, h3, h4⟩ := map_of_ex ys fun z hz => h z (List.mem_cons_of_mem _ hz)
    refine ⟨a :: as, by rw [h1, h3]; rfl, ?_⟩
    intro z hz
    rcases List.mem_cons.mp hz with rfl | hz
    · exact h2
    · exact h4 z hz
theorem allStr_map {α : Type} (f : α → List Nat) : ∀ xs : List α, allStr (xs.map fun x => .str (f x)) = some (xs.map f)
  | [] => rfl
  | x :: xs => by
    show (allStr (xs.map fun x => .str (f x))).map (f x :: ·) = _
    rw [allStr_map f xs]; rfl
theorem joinL_one : ∀ cs : List Nat, joinL [] (cs.map fun c => [c]) = cs
  | [] => rfl
  | [c] => rfl
  | c :: d :: r => by
    have := joinL_one (d :: r)
    simp only [List.map_cons] at this ⊢
    rw [joinL, this]
    rfl
theorem sumLen_one : ∀ cs : List Nat, sumLen (cs.map fun c => [c]) = cs.length
  | [] => rfl
  | c :: r => by
    simp only [List.map_cons, sumLen, List.length_cons, List.length_nil, sumLen_one r]
    omega
theorem join_one {cs : List Nat} (h : cs.length ≤ 16777216) : m1S .join [] (.lst (cs.map fun c => .str [c])) = some (.str cs) := by
  have e : allStr (cs.map fun c => .str [c]) = some (cs.map fun c => [c]) := allStr_map (fun c => [c]) cs
  simp only [m1S, e, Option.bind_some, sumLen_one, joinL_one, List.length_nil, Nat.mul_zero, Nat.add_zero]
  exact if_pos (by rw [lim16]; exact h)
end PB
namespace PB
open PySem
theorem bind_strW {β : Type} (s : List Nat) (st : Sr) (f : List Nat × Sr → Rs β) : (Rs.ofO ((strW (.d (.str s))).map fun s => (s, st))).bind f = f (s, st) := rfl
theorem op1_ok {f : Dt → Option Dt} {x z : Dt} {st : Sr} (h : f x = some z) : op1 f (.d x, st) = .ok (.d z, st) := by rw [op1_d, h]; rfl
theorem evE_m1_ok {Γ : Gam} {ρ : Ev} {st st1 st2 : Sr} {m : M1} {a b : Ex} {s : List Nat} {x z : Dt} (h1 : evE Γ a ρ st = .ok (.d (.str s), st1)) (h2 : evE Γ b ρ st1 = .ok (.d x, st2)) (h3 : m1S m s x = some z) : evE Γ (.m1 m a b) ρ st = .ok (.d z, st2) := by
  rw [evE_m1, h1, Rs.bind_ok]
  generalize m1S m = f at h3 ⊢
  rw [bind_strW]
  dsimp only
  rw [h2, Rs.bind_ok, op1_ok h3]
theorem evE_lc_ok {Γ : Gam} {ρ : Ev} {st st1 : Sr} {elt : Ex} {tg : Tg} {it : Itx} {ifs : Exs} {xs ys : List Dt} (h1 : evI Γ it ρ st = .ok ((xs, []), st1)) (h2 : lcL [] (lcTurn (evIfs Γ ifs) (evE Γ elt) tg ρ) xs st1 = .ok (ys, st1)) (h3 : ys.length ≤ 16777216) :
    evE Γ (.lc elt tg it ifs) ρ st = .ok (.d (.lst ys), st1) := by
  rw [evE_lc, h1, Rs.bind_ok]
  show (lcL [] (lcTurn (evIfs Γ ifs) (evE Γ elt) tg ρ) xs st1).bind lcEnd = _
  rw [h2, Rs.bind_ok, lcEnd_ok (by rw [lim16]; exact h3)]
theorem bind_intW {β : Type} (i : Int) (f : Int → Option β) : (intW (.d (.int i))).bind f = f i := rfl
theorem evI_rng_ok {Γ : Gam} {ρ : Ev} {st st1 : Sr} {e : Ex} {m : Nat} (h1 : evE Γ e ρ st = .ok (.d (.int m), st1)) (h2 : m < 1073741824) : evI Γ (.rng1 e) ρ st = .ok ((rangeL 0 m, []), st1) := by
  have hr : itRng st1 0 (m : Int) = some ((rangeL 0 m, []), st1) := by
    rw [itRng_ok ⟨by decide, by decide, by omega, by omega⟩, Int.sub_zero, Int.toNat_natCast]
  rw [evI_rng1, h1, Rs.bind_ok]
  revert hr
  generalize itRng = f
  intro hr
  dsimp only
  rw [bind_intW, hr, Rs.ofO_some]
end PB
namespace PB
open PySem
/-- an invariant of a for whose turns change objects too -/
theorem exFor_invS {body : Ev → Sr → Rs Sx} {tg : Tg} (I : Nat → Ev → Sr → Prop) : ∀ (xs : List Dt) (k : Nat) (ρ : Ev) (st : Sr), I k ρ st → (∀ j x ρ st, xs[j]? = some x → I (k + j) ρ st → ∃ ρ1 ρ2 st2, setTg tg x ρ = some ρ1 ∧ body ρ1 st = .ok ((.nx, ρ2), st2) ∧ I (k + j + 1) ρ2 st2) →
    ∃ ρ' st', exFor body tg [] xs ρ st = .ok ((.nx, ρ'), st') ∧ I (k + xs.length) ρ' st'
  | [], k, ρ, st, h, _ => ⟨ρ, st, rfl, h⟩
  | x :: xs, k, ρ, st, h, hs => by
    obtain ⟨ρ1, ρ2, st2, h1, h2, h3⟩ := hs 0 x ρ st rfl h
    obtain ⟨ρ', st', h4, h5⟩ := exFor_invS I xs (k + 1) ρ2 st2 h3 fun j y ρ st hj hI => by
      have := hs (j + 1) y ρ st hj (by rwa [show k + (j + 1) = k + 1 + j by omega])
      rwa [show k + (j + 1) + 1 = k + 1 + j + 1 by omega] at this
    refine ⟨ρ', st', ?_, ?_⟩
    · rw [exFor_cons h1 h2 rfl]; exact h4
    · rw [List.length_cons, show k + (xs.length + 1) = k + 1 + xs.length by omega]; exact h5
theorem exS_for_ok {Γ : Gam} {ρ ρ' : Ev} {st st1 st' : Sr} {tg : Tg} {it : Itx} {b : Sms} {xs : List Dt} (h1 : evI Γ it ρ st = .ok ((xs, []), st1)) (h2 : exFor (exSs Γ b) tg [] xs ρ st1 = .ok ((.nx, ρ'), st')) : exS Γ (.forS tg it b) ρ st = .ok ((.nx, ρ'), st') := by
  rw [exS_for, h1, Rs.bind_ok, h2]
@[simp] theorem view0 (vs : List Dt) : viewW [.lst vs] (.ob 0) = some (.lst vs) := rfl
theorem op1_v {f : Dt → Option Dt} {w : Wv} {st : Sr} {x : Dt} (h : viewW st w = some x) : op1 f (w, st) = Rs.ofO ((f x).map fun z => (.d z, st)) := by
  unfold op1; rw [h]; rfl
theorem op2_v {f : Dt → Dt → Option Dt} {w u : Wv} {st : Sr} {x y : Dt} (h : viewW st w = some x) (h2 : viewW st u = some y) : op2 f w (u, st) = Rs.ofO ((f x y).map fun z => (.d z, st)) := by
  unfold op2; rw [h, h2]; rfl
theorem notin_lst {a : Dt} {xs : List Dt} (h : depD a ≤ 64 ∨ depDs xs ≤ 64) : copD .notin a (.lst xs) = some (!xs.any fun z => eqD z a) := by
  cases a with
  | str s => cases s <;> simp [copD, h]
  | _ => simp [copD, h]
theorem app0 {Γ : Gam} {ρ : Ev} {vs : List Dt} {i : Nat} {e : Ex} {y : Dt} (h1 : ρ[i]? = some (some (.ob 0))) (h2 : evE Γ e ρ [.lst vs] = .ok (.d y, [.lst vs])) (h3 : vs.length < 16777216) : exS Γ (.app i e) ρ [.lst vs] = .ok ((.nx, ρ), [.lst (vs ++ [y])]) := by
  rw [exS_app, h1]
  show (evE Γ e ρ [.lst vs]).bind (appW 0 ρ) = _
  rw [h2, Rs.bind_ok]
  unfold appW
  exact if_pos (by rw [lim16]; exact h3)
end PB
namespace PB
open PySem
theorem exWhl_stop {c : Ev → Sr → Rs (Bool × Sr)} {body : Ev → Sr → Rs Sx} {N : Nat} {ρ : Ev} {st st' : Sr} (h : c ρ st = .ok (false, st')) : exWhl c body (N + 1) ρ st = .ok ((.nx, ρ), st') := by
  rw [exWhl, h]; rfl
theorem exWhl_go {c : Ev → Sr → Rs (Bool × Sr)} {body : Ev → Sr → Rs Sx} {N : Nat} {ρ ρ2 : Ev} {st st' st2 : Sr} (h : c ρ st = .ok (true, st')) (hb : body ρ st' = .ok ((.nx, ρ2), st2)) : exWhl c body (N + 1) ρ st = exWhl c body N ρ2 st2 := by
  rw [exWhl, h]
  show (body ρ st').bind _ = _
  rw [hb]; rfl
theorem turns_3 : turns = 999997 + 1 + 1 + 1 := by unfold turns; omega
/-- a for that may break: I ahead of each turn, J at the end -/
theorem exFor_invB {body : Ev → Sr → Rs Sx} {tg : Tg} {st : Sr} (I : Ev → Prop) (J : Ev → Prop) (hIJ : ∀ ρ, I ρ → J ρ) : ∀ (xs : List Dt) (ρ : Ev), I ρ → (∀ x ∈ xs, ∀ ρ, I ρ → ∃ ρ1 ρ2, setTg tg x ρ = some ρ1 ∧ ((body ρ1 st = .ok ((.nx, ρ2), st) ∧ I ρ2) ∨ (body ρ1 st = .ok ((.bk, ρ2), st) ∧ J ρ2))) →
    ∃ ρ', exFor body tg [] xs ρ st = .ok ((.nx, ρ'), st) ∧ J ρ'
  | [], ρ, h, _ => ⟨ρ, rfl, hIJ ρ h⟩
  | x :: xs, ρ, h, hs => by
    obtain ⟨ρ1, ρ2, h1, ⟨h2, h3⟩ | ⟨h2, h3⟩⟩ := hs x List.mem_cons_self ρ h
    · obtain ⟨ρ', h4, h5⟩ := exFor_invB I J hIJ xs ρ2 h3 fun y hy => hs y (List.mem_cons_of_mem _ hy)
      exact ⟨ρ', by rw [exFor_cons h1 h2 rfl]; exact h4, h5⟩
    · exact ⟨ρ2, by rw [exFor, h1]; simp [h2], h3⟩
/-- a for that tells the first item that a test finds, or goes through -/
theorem exFor_find {body : Ev → Sr → Rs Sx} {tg : Tg} {st : Sr} {ws : List (Nat × List Dt)} (hw : watchOk ws st = true) (I : Ev → Prop) (t : Dt → Bool) : ∀ (xs : List Dt) (ρ : Ev), I ρ → (∀ x ∈ xs, ∀ ρ, I ρ → ∃ ρ1 ρ2, setTg tg x ρ = some ρ1 ∧ body ρ1 st = .ok ((if t x then .rt (.d x) else .nx, ρ2), st) ∧ I ρ2) →
    ∃ ρ', I ρ' ∧ ((exFor body tg ws xs ρ st = .ok ((.nx, ρ'), st) ∧ ∀ x ∈ xs, t x = false) ∨ ∃ x ∈ xs, t x = true ∧ exFor body tg ws xs ρ st = .ok ((.rt (.d x), ρ'), st))
  | [], ρ, h, _ => ⟨ρ, h, .inl ⟨rfl, by simp⟩⟩
  | x :: xs, ρ, h, hs => by
    obtain ⟨ρ1, ρ2, h1, h2, h3⟩ := hs x List.mem_cons_self ρ h
    cases ht : t x with
    | true =>
      refine ⟨ρ2, h3, .inr ⟨x, List.mem_cons_self, ht, ?_⟩⟩
      rw [ht] at h2
      rw [exFor, h1]; simp [h2]
    | false =>
      rw [ht] at h2
      obtain ⟨ρ', h4, h5⟩ := exFor_find hw I t xs ρ2 h3 fun y hy => hs y (List.mem_cons_of_mem _ hy)
      refine ⟨ρ', h4, ?_⟩
      have e : exFor body tg ws (x :: xs) ρ st = exFor body tg ws xs ρ2 st := exFor_cons h1 h2 hw
      rcases h5 with ⟨h5, h6⟩ | ⟨y, hy, h6, h7⟩
      · refine .inl ⟨by rw [e]; exact h5, ?_⟩
        intro z hz
        rcases List.mem_cons.mp hz with rfl | hz
        · exact ht
        · exact h6 z hz
      · exact .inr ⟨y, List.mem_cons_of_mem _ hy, h6, by rw [e]; exact h7⟩
end PB
namespace PB
open PySem
theorem op2_ok {f : Dt → Dt → Option Dt} {x y z : Dt} {st : Sr} (h : f x y = some z) : op2 f (.d x) (.d y, st) = .ok (.d z, st) := by rw [op2_d, h]; rfl
theorem evE_b2_ok {Γ : Gam} {ρ : Ev} {st st1 st2 : Sr} {o : B2} {a b : Ex} {x y z : Dt} (h1 : evE Γ a ρ st = .ok (.d x, st1)) (h2 : evE Γ b ρ st1 = .ok (.d y, st2)) (h3 : b2D o x y = some z) : evE Γ (.b2 o a b) ρ st = .ok (.d z, st2) := by
  rw [evE_b2, h1, Rs.bind_ok]
  dsimp only
  rw [h2, Rs.bind_ok, op2_ok h3]
theorem evE_bin_ok {Γ : Gam} {ρ : Ev} {st st1 st2 : Sr} {o : Bop} {a b : Ex} {x y z : Dt} (h1 : evE Γ a ρ st = .ok (.d x, st1)) (h2 : evE Γ b ρ st1 = .ok (.d y, st2)) (h3 : bopD o x y = some z) : evE Γ (.bin o a b) ρ st = .ok (.d z, st2) := by
  rw [evE_bin, h1, Rs.bind_ok]
  dsimp only
  rw [h2, Rs.bind_ok, op2_ok h3]
theorem evE_cmp_ok {Γ : Gam} {ρ : Ev} {st st1 st2 : Sr} {o : Cop} {a b : Ex} {x y : Dt} {z : Bool} (h1 : evE Γ a ρ st = .ok (.d x, st1)) (h2 : evE Γ b ρ st1 = .ok (.d y, st2)) (h3 : copD o x y = some z) : evE Γ (.cmp o a b) ρ st = .ok (.d (.bl z), st2) := by
  rw [evE_cmp, h1, Rs.bind_ok]
  dsimp only
  rw [h2, Rs.bind_ok]
  exact op2_ok (by simp only [h3]; rfl)
theorem exS_ret_ok {Γ : Gam} {ρ : Ev} {st st1 : Sr} {e : Ex} {w : Wv} (h : evE Γ e ρ st = .ok (w, st1)) : exS Γ (.ret e) ρ st = .ok ((.rt w, ρ), st1) := by rw [exS_ret, h]; rfl
theorem exS_set_ok {Γ : Gam} {ρ : Ev} {st st1 : Sr} {e : Ex} {i : Nat} {w : Wv} (h : evE Γ e ρ st = .ok (w, st1)) : exS Γ (.set i e) ρ st = .ok ((.nx, ρ.set i (some w)), st1) := by rw [exS_set, h]; rfl
/-- a branch that is not taken, or is -/
theorem exS_if_no {Γ : Gam} {ρ : Ev} {st st1 : Sr} {c : Ex} {a : Sms} {x : Dt} (h : evE Γ c ρ st = .ok (.d x, st1)) (hx : truthD x = false) : exS Γ (.ife c a .nil) ρ st = .ok ((.nx, ρ), st1) := by
  rw [exS_ife, evT_eq, h, Rs.bind_ok]
  show ((Rs.ok (truthD x)).bind _).bind _ = _
  rw [hx, Rs.bind_ok, Rs.bind_ok]
  exact exSs_nil (Γ := Γ)
theorem exS_if_yes {Γ : Gam} {ρ : Ev} {st st1 : Sr} {c : Ex} {a b : Sms} {x : Dt} (h : evE Γ c ρ st = .ok (.d x, st1)) (hx : truthD x = true) : exS Γ (.ife c a b) ρ st = exSs Γ a ρ st1 := by
  rw [exS_ife, evT_eq, h, Rs.bind_ok]
  show ((Rs.ok (truthD x)).bind _).bind _ = _
  rw [hx, Rs.bind_ok, Rs.bind_ok]; rfl
theorem exSs_nx {Γ : Gam} {ρ ρ1 : Ev} {st st1 : Sr} {s : Sm} {r : Sms} (h : exS Γ s ρ st = .ok ((.nx, ρ1), st1)) : exSs Γ (.cons s r) ρ st = exSs Γ r ρ1 st1 := by rw [exSs_cons, h, Rs.bind_ok, thenS_nx]
theorem exSs_rt {Γ : Gam} {ρ ρ1 : Ev} {st st1 : Sr} {s : Sm} {r : Sms} {w : Wv} (h : exS Γ s ρ st = .ok ((.rt w, ρ1), st1)) : exSs Γ (.cons s r) ρ st = .ok ((.rt w, ρ1), st1) := by rw [exSs_cons, h, Rs.bind_ok, thenS_rt]
theorem evE_p1_ok {Γ : Gam} {ρ : Ev} {st st1 : Sr} {p : P1} {a : Ex} {x z : Dt} (h1 : evE Γ a ρ st = .ok (.d x, st1)) (h3 : p1D p x = some z) : evE Γ (.p1 p a) ρ st = .ok (.d z, st1) := by
  rw [evE_p1, h1, Rs.bind_ok, op1_ok h3]
end PB

set_option backward.match.sparseCases true
namespace PBX
open PySem PB
def s_list_f818 : List Nat := [108, 105, 115, 116]
def s_text_a7c7 : List Nat := [116, 101, 120, 116]
def s_truth_2626 : List Nat := [116, 114, 117, 116, 104]
def s_number_1f54 : List Nat := [110, 117, 109, 98, 101, 114]
def s_abcdefgh_703a : List Nat := [97, 98, 99, 100, 101, 102, 103, 104, 105, 106]
def s_range_5a49 : List Nat := [114, 97, 110, 103, 101]
def s_among_b8f1 : List Nat := [97, 109, 111, 110, 103]
abbrev c_is_number : Nat := 0
abbrev c_days_in : Nat := 1
abbrev c_is_day : Nat := 2
abbrev c_is_value_so_deep : Nat := 3
abbrev c_is_value : Nat := 4
abbrev c_text_number : Nat := 5
abbrev c_day_number : Nat := 6
abbrev c_some_lists : Nat := 7
abbrev c_some_values : Nat := 8
abbrev c__law_cell : Nat := 9
abbrev c__law_mix : Nat := 10
abbrev c__law_kind : Nat := 11
abbrev c__law_simple : Nat := 12
abbrev c__law_of : Nat := 13
abbrev c__law_count : Nat := 14
abbrev c_law : Nat := 15
abbrev g_MOST : Nat := 0
abbrev g_MONTHS : Nat := 1
/-- is_number -/
def b_is_number : Sms :=
    (.cons (.ret (.and (.cons (.isi (.v 0) .int) (.cons (.not (.isi (.v 0) .bool)) (.cons (.cmp2 .le .le (.v 1) (.v 0) (.v 2)) .nil)))))
    .nil)
abbrev f_is_number : Fn := ⟨3, 3, b_is_number⟩
/-- days_in -/
def b_days_in : Sms :=
    (.cons (.ife (.and (.cons (.cmp .eq (.v 1) (.int 2)) (.cons (.cmp .eq (.bin .mod (.v 0) (.int 4)) (.int 0)) (.cons (.or (.cons (.cmp .ne (.bin .mod (.v 0) (.int 100)) (.int 0)) (.cons (.cmp .eq (.bin .mod (.v 0) (.int 400)) (.int 0)) .nil))) .nil)))) (.cons (.ret (.int 29))
    .nil) .nil)
    (.cons (.ret (.ix (.g 1) (.bin .sub (.v 1) (.int 1))))
    .nil))
abbrev f_days_in : Fn := ⟨2, 2, b_days_in⟩
/-- is_day -/
def b_is_day : Sms :=
    (.cons (.ife (.or (.cons (.not (.isi (.v 0) .tuple)) (.cons (.cmp .ne (.p1 .len (.v 0)) (.int 3)) .nil))) (.cons (.ret (.bl false))
    .nil) .nil)
    (.cons (.unp [1, 2, 3] (.v 0))
    (.cons (.ret (.and (.cons (.call 0 (.cons (.v 1) (.cons (.int 1) (.cons (.int 9999) .nil)))) (.cons (.call 0 (.cons (.v 2) (.cons (.int 1) (.cons (.int 12) .nil)))) (.cons (.call 0 (.cons (.v 3) (.cons (.int 1) (.cons (.call 1 (.cons (.v 1) (.cons (.v 2) .nil))) .nil)))) .nil)))))
    .nil)))
abbrev f_is_day : Fn := ⟨1, 4, b_is_day⟩
abbrev le0_is_value_so_deep : Ex :=
    (.call 3 (.cons (.v 4) (.cons (.bin .sub (.v 1) (.int 1)) .nil)))
abbrev li0_is_value_so_deep : Exs :=
    .nil
/-- is_value_so_deep -/
def b_is_value_so_deep : Sms :=
    (.cons (.ife (.or (.cons (.not (.isi (.v 0) .tuple)) (.cons (.cmp .ne (.p1 .len (.v 0)) (.int 2)) (.cons (.not (.isi (.ix (.v 0) (.int 0)) .str)) .nil)))) (.cons (.ret (.bl false))
    .nil) .nil)
    (.cons (.unp [2, 3] (.v 0))
    (.cons (.ife (.cmp .eq (.v 2) (.str s_number_1f54)) (.cons (.ret (.call 0 (.cons (.v 3) (.cons (.neg (.g 0)) (.cons (.g 0) .nil)))))
    .nil) .nil)
    (.cons (.ife (.cmp .eq (.v 2) (.str s_truth_2626)) (.cons (.ret (.isi (.v 3) .bool))
    .nil) .nil)
    (.cons (.ife (.cmp .eq (.v 2) (.str s_text_a7c7)) (.cons (.ret (.and (.cons (.isi (.v 3) .str) (.cons (.cmp .le (.p1 .len (.v 3)) (.int 60)) .nil))))
    .nil) .nil)
    (.cons (.ife (.cmp .eq (.v 2) (.str [100, 97, 121])) (.cons (.ret (.call 2 (.cons (.v 3) .nil)))
    .nil) .nil)
    (.cons (.ife (.or (.cons (.cmp .ne (.v 2) (.str s_list_f818)) (.cons (.cmp .eq (.v 1) (.int 0)) (.cons (.not (.isi (.v 3) .tuple)) (.cons (.cmp .gt (.p1 .len (.v 3)) (.int 6)) .nil))))) (.cons (.ret (.bl false))
    .nil) .nil)
    (.cons (.ret (.p1 .all (.lc (.call 3 (.cons (.v 4) (.cons (.bin .sub (.v 1) (.int 1)) .nil))) (.one 4) (.seq (.v 3)) .nil)))
    .nil))))))))
abbrev f_is_value_so_deep : Fn := ⟨2, 5, b_is_value_so_deep⟩
/-- is_value -/
def b_is_value : Sms :=
    (.cons (.ret (.call 3 (.cons (.v 0) (.cons (.int 3) .nil))))
    .nil)
abbrev f_is_value : Fn := ⟨1, 1, b_is_value⟩
abbrev wc0_text_number : Ex :=
    (.cmp .gt (.v 0) (.int 0))
abbrev wb0_text_number : Sms :=
    (.cons (.set 1 (.bin .add (.v 1) (.ix (.str s_abcdefgh_703a) (.bin .mod (.v 0) (.int 10)))))
    (.cons (.set 0 (.bin .fdiv (.v 0) (.int 10)))
    .nil))
/-- text_number -/
def b_text_number : Sms :=
    (.cons (.set 1 (.str []))
    (.cons (.whl (.cmp .gt (.v 0) (.int 0)) (.cons (.set 1 (.bin .add (.v 1) (.ix (.str s_abcdefgh_703a) (.bin .mod (.v 0) (.int 10)))))
    (.cons (.set 0 (.bin .fdiv (.v 0) (.int 10)))
    .nil)))
    (.cons (.ret (.v 1))
    .nil)))
abbrev f_text_number : Fn := ⟨1, 2, b_text_number⟩
/-- day_number -/
def b_day_number : Sms :=
    (.cons (.ret (.tup (.cons (.bin .add (.int 1) (.bin .fdiv (.v 0) (.int 336))) (.cons (.bin .add (.int 1) (.bin .mod (.bin .fdiv (.v 0) (.int 28)) (.int 12))) (.cons (.bin .add (.int 1) (.bin .mod (.v 0) (.int 28))) .nil)))))
    .nil)
abbrev f_day_number : Fn := ⟨1, 1, b_day_number⟩
abbrev fb0_some_lists : Sms :=
    (.cons (.set 7 (.lst .nil))
    (.cons (.forS (.one 8) (.seq (.v 5)) (.cons (.set 7 (.bin .add (.v 7) (.lc (.bin .add (.v 8) (.tup (.cons (.v 9) .nil))) (.one 9) (.seq (.sl (.v 3) .no (.yes (.v 2)))) .nil)))
    (.cons (.ife (.cmp .ge (.bin .add (.p1 .len (.v 4)) (.p1 .len (.v 7))) (.v 2)) (.cons .brk
    .nil) .nil)
    .nil)))
    (.cons (.set 4 (.bin .add (.v 4) (.v 7)))
    (.cons (.set 5 (.v 7))
    .nil))))
abbrev fb1_some_lists : Sms :=
    (.cons (.set 7 (.bin .add (.v 7) (.lc (.bin .add (.v 8) (.tup (.cons (.v 9) .nil))) (.one 9) (.seq (.sl (.v 3) .no (.yes (.v 2)))) .nil)))
    (.cons (.ife (.cmp .ge (.bin .add (.p1 .len (.v 4)) (.p1 .len (.v 7))) (.v 2)) (.cons .brk
    .nil) .nil)
    .nil))
abbrev le0_some_lists : Ex :=
    (.bin .add (.v 8) (.tup (.cons (.v 9) .nil)))
abbrev li0_some_lists : Exs :=
    .nil
abbrev le1_some_lists : Ex :=
    (.tup (.cons (.str s_list_f818) (.cons (.v 8) .nil)))
abbrev li1_some_lists : Exs :=
    .nil
/-- some_lists -/
def b_some_lists : Sms :=
    (.cons (.set 3 (.call 8 (.cons (.v 0) (.cons (.v 2) .nil))))
    (.cons (.set 4 (.lst (.cons (.tup .nil) .nil)))
    (.cons (.set 5 (.lst (.cons (.tup .nil) .nil)))
    (.cons (.forS (.one 6) (.rng1 (.v 1)) (.cons (.set 7 (.lst .nil))
    (.cons (.forS (.one 8) (.seq (.v 5)) (.cons (.set 7 (.bin .add (.v 7) (.lc (.bin .add (.v 8) (.tup (.cons (.v 9) .nil))) (.one 9) (.seq (.sl (.v 3) .no (.yes (.v 2)))) .nil)))
    (.cons (.ife (.cmp .ge (.bin .add (.p1 .len (.v 4)) (.p1 .len (.v 7))) (.v 2)) (.cons .brk
    .nil) .nil)
    .nil)))
    (.cons (.set 4 (.bin .add (.v 4) (.v 7)))
    (.cons (.set 5 (.v 7))
    .nil)))))
    (.cons (.ret (.p1 .tuple (.lc (.tup (.cons (.str s_list_f818) (.cons (.v 8) .nil))) (.one 8) (.seq (.sl (.v 4) .no (.yes (.v 2)))) .nil)))
    .nil)))))
abbrev f_some_lists : Fn := ⟨3, 10, b_some_lists⟩
abbrev le0_some_values : Ex :=
    (.tup (.cons (.str s_number_1f54) (.cons (.v 2) .nil)))
abbrev li0_some_values : Exs :=
    .nil
abbrev le1_some_values : Ex :=
    (.tup (.cons (.str s_text_a7c7) (.cons (.call 5 (.cons (.v 2) .nil)) .nil)))
abbrev li1_some_values : Exs :=
    .nil
abbrev le2_some_values : Ex :=
    (.tup (.cons (.str [100, 97, 121]) (.cons (.call 6 (.cons (.v 2) .nil)) .nil)))
abbrev li2_some_values : Exs :=
    .nil
abbrev le3_some_values : Ex :=
    (.tup (.cons (.str s_number_1f54) (.cons (.v 2) .nil)))
abbrev li3_some_values : Exs :=
    .nil
/-- some_values -/
def b_some_values : Sms :=
    (.cons (.ife (.cmp .eq (.v 0) (.str s_number_1f54)) (.cons (.ret (.p1 .tuple (.lc (.tup (.cons (.str s_number_1f54) (.cons (.v 2) .nil))) (.one 2) (.rng1 (.b2 .min (.v 1) (.g 0))) .nil)))
    .nil) .nil)
    (.cons (.ife (.cmp .eq (.v 0) (.str s_truth_2626)) (.cons (.ret (.sl (.tup (.cons (.tup (.cons (.str s_truth_2626) (.cons (.bl false) .nil))) (.cons (.tup (.cons (.str s_truth_2626) (.cons (.bl true) .nil))) .nil))) .no (.yes (.v 1))))
    .nil) .nil)
    (.cons (.ife (.cmp .eq (.v 0) (.str s_text_a7c7)) (.cons (.ret (.p1 .tuple (.lc (.tup (.cons (.str s_text_a7c7) (.cons (.call 5 (.cons (.v 2) .nil)) .nil))) (.one 2) (.rng1 (.v 1)) .nil)))
    .nil) .nil)
    (.cons (.ife (.cmp .eq (.v 0) (.str [100, 97, 121])) (.cons (.ret (.p1 .tuple (.lc (.tup (.cons (.str [100, 97, 121]) (.cons (.call 6 (.cons (.v 2) .nil)) .nil))) (.one 2) (.rng1 (.b2 .min (.v 1) (.int 3359664))) .nil)))
    .nil) .nil)
    (.cons (.ife (.cmp .eq (.ix (.v 0) (.int 0)) (.str s_among_b8f1)) (.cons (.ret (.sl (.ix (.v 0) (.int 1)) .no (.yes (.v 1))))
    .nil) .nil)
    (.cons (.ife (.cmp .eq (.ix (.v 0) (.int 0)) (.str s_range_5a49)) (.cons (.ret (.p1 .tuple (.lc (.tup (.cons (.str s_number_1f54) (.cons (.v 2) .nil))) (.one 2) (.rng2 (.ix (.v 0) (.int 1)) (.bin .add (.b2 .min (.ix (.v 0) (.int 2)) (.bin .sub (.bin .add (.ix (.v 0) (.int 1)) (.v 1)) (.int 1))) (.int 1))) .nil)))
    .nil) .nil)
    (.cons (.ret (.call 7 (.cons (.ix (.v 0) (.int 1)) (.cons (.ix (.v 0) (.int 2)) (.cons (.v 1) .nil)))))
    .nil)))))))
abbrev f_some_values : Fn := ⟨2, 3, b_some_values⟩
/-- _law_cell -/
def b__law_cell : Sms :=
    (.cons (.ife (.cmp .lt (.v 1) (.p1 .len (.v 0))) (.cons (.ret (.ix (.v 0) (.v 1)))
    .nil) .nil)
    (.cons (.ret (.int 0))
    .nil))
abbrev f__law_cell : Fn := ⟨2, 2, b__law_cell⟩
/-- _law_mix -/
def b__law_mix : Sms :=
    (.cons (.set 3 (.bin .mod (.bin .mul (.v 0) (.int 48271)) (.v 1)))
    (.cons (.ret (.bin .mod (.bin .mod (.bin .mul (.v 3) (.bin .add (.v 3) (.int 7))) (.v 1)) (.v 2)))
    .nil))
abbrev f__law_mix : Fn := ⟨3, 4, b__law_mix⟩
abbrev fb0__law_kind : Sms :=
    (.cons (.set 6 (.call 12 (.cons (.bin .add (.v 0) (.bin .mul (.int 11) (.v 5))) .nil)))
    (.cons (.ife (.cmp .notin (.v 6) (.v 4)) (.cons (.app 4 (.v 6))
    .nil) .nil)
    .nil))
/-- _law_kind -/
def b__law_kind : Sms :=
    (.cons (.set 2 (.call 10 (.cons (.v 0) (.cons (.int 9767) (.cons (.bin .add (.int 6) (.bin .mul (.int 2) (.p1 .int (.cmp .gt (.v 1) (.int 0))))) .nil)))))
    (.cons (.ife (.cmp .lt (.v 2) (.int 3)) (.cons (.ret (.ix (.tup (.cons (.str s_number_1f54) (.cons (.str s_text_a7c7) (.cons (.str [100, 97, 121]) .nil)))) (.v 2)))
    .nil) .nil)
    (.cons (.ife (.cmp .eq (.v 2) (.int 3)) (.cons (.set 3 (.bin .sub (.call 10 (.cons (.v 0) (.cons (.int 9749) (.cons (.int 12) .nil)))) (.int 6)))
    (.cons (.ret (.tup (.cons (.str s_range_5a49) (.cons (.v 3) (.cons (.bin .add (.v 3) (.call 10 (.cons (.v 0) (.cons (.int 9743) (.cons (.int 9) .nil))))) .nil)))))
    .nil)) .nil)
    (.cons (.ife (.cmp .eq (.v 2) (.int 4)) (.cons (.ret (.ix (.tup (.cons (.str s_number_1f54) (.cons (.str s_truth_2626) (.cons (.tup (.cons (.str s_range_5a49) (.cons (.neg (.int 999999999)) (.cons (.int 999999999) .nil)))) .nil)))) (.call 10 (.cons (.v 0) (.cons (.int 9739) (.cons (.int 3) .nil))))))
    .nil) .nil)
    (.cons (.ife (.cmp .eq (.v 2) (.int 5)) (.cons (.setL 4 (.lst .nil))
    (.cons (.forS (.one 5) (.rng1 (.bin .add (.int 1) (.call 10 (.cons (.v 0) (.cons (.int 9733) (.cons (.int 6) .nil)))))) (.cons (.set 6 (.call 12 (.cons (.bin .add (.v 0) (.bin .mul (.int 11) (.v 5))) .nil)))
    (.cons (.ife (.cmp .notin (.v 6) (.v 4)) (.cons (.app 4 (.v 6))
    .nil) .nil)
    .nil)))
    (.cons (.ret (.tup (.cons (.str s_among_b8f1) (.cons (.p1 .tuple (.v 4)) .nil))))
    .nil))) .nil)
    (.cons (.ret (.tup (.cons (.str s_list_f818) (.cons (.call 11 (.cons (.bin .add (.v 0) (.int 2)) (.cons (.bin .sub (.v 1) (.int 1)) .nil))) (.cons (.call 10 (.cons (.v 0) (.cons (.int 9721) (.cons (.int 7) .nil)))) .nil)))))
    .nil))))))
abbrev f__law_kind : Fn := ⟨2, 7, b__law_kind⟩
/-- _law_simple -/
def b__law_simple : Sms :=
    (.cons (.set 1 (.call 10 (.cons (.v 0) (.cons (.int 9719) (.cons (.int 5) .nil)))))
    (.cons (.ife (.cmp .lt (.v 1) (.int 2)) (.cons (.ret (.tup (.cons (.str s_number_1f54) (.cons (.bin .sub (.call 10 (.cons (.v 0) (.cons (.int 9697) (.cons (.int 14) .nil)))) (.int 7)) .nil))))
    .nil) .nil)
    (.cons (.ife (.cmp .eq (.v 1) (.int 2)) (.cons (.ret (.tup (.cons (.str s_truth_2626) (.cons (.cmp .eq (.bin .mod (.v 0) (.int 2)) (.int 0)) .nil))))
    .nil) .nil)
    (.cons (.ife (.cmp .eq (.v 1) (.int 3)) (.cons (.ret (.tup (.cons (.str s_text_a7c7) (.cons (.ix (.tup (.cons (.str []) (.cons (.str [97]) (.cons (.str [98]) (.cons (.str [97, 98]) .nil))))) (.call 10 (.cons (.v 0) (.cons (.int 9689) (.cons (.int 4) .nil))))) .nil))))
    .nil) .nil)
    (.cons (.ret (.tup (.cons (.str [100, 97, 121]) (.cons (.tup (.cons (.bin .add (.int 1) (.call 10 (.cons (.v 0) (.cons (.int 9679) (.cons (.int 3) .nil))))) (.cons (.int 1) (.cons (.bin .add (.int 1) (.call 10 (.cons (.v 0) (.cons (.int 9677) (.cons (.int 2) .nil))))) .nil)))) .nil))))
    .nil)))))
abbrev f__law_simple : Fn := ⟨1, 2, b__law_simple⟩
abbrev le0__law_of : Ex :=
    (.call 13 (.cons (.v 2) (.cons (.ix (.v 1) (.int 1)) .nil)))
abbrev li0__law_of : Exs :=
    .nil
/-- _law_of -/
def b__law_of : Sms :=
    (.cons (.ife (.cmp .inn (.v 1) (.tup (.cons (.str s_number_1f54) (.cons (.str s_truth_2626) (.cons (.str s_text_a7c7) (.cons (.str [100, 97, 121]) .nil)))))) (.cons (.ret (.cmp .eq (.ix (.v 0) (.int 0)) (.v 1)))
    .nil) .nil)
    (.cons (.ife (.cmp .eq (.ix (.v 1) (.int 0)) (.str s_range_5a49)) (.cons (.ret (.and (.cons (.cmp .eq (.ix (.v 0) (.int 0)) (.str s_number_1f54)) (.cons (.cmp .ge (.ix (.v 0) (.int 1)) (.ix (.v 1) (.int 1))) (.cons (.cmp .le (.ix (.v 0) (.int 1)) (.ix (.v 1) (.int 2))) .nil)))))
    .nil) .nil)
    (.cons (.ife (.cmp .eq (.ix (.v 1) (.int 0)) (.str s_among_b8f1)) (.cons (.ret (.cmp .inn (.v 0) (.ix (.v 1) (.int 1))))
    .nil) .nil)
    (.cons (.ret (.and (.cons (.cmp .eq (.ix (.v 0) (.int 0)) (.str s_list_f818)) (.cons (.cmp .le (.p1 .len (.ix (.v 0) (.int 1))) (.ix (.v 1) (.int 2))) (.cons (.p1 .all (.lc (.call 13 (.cons (.v 2) (.cons (.ix (.v 1) (.int 1)) .nil))) (.one 2) (.seq (.ix (.v 0) (.int 1))) .nil)) .nil)))))
    .nil))))
abbrev f__law_of : Fn := ⟨2, 3, b__law_of⟩
abbrev fb0__law_count : Sms :=
    (.cons (.set 3 (.bin .add (.v 3) (.v 4)))
    (.cons (.set 4 (.b2 .min (.bin .mul (.v 4) (.v 2)) (.v 1)))
    .nil))
/-- _law_count -/
def b__law_count : Sms :=
    (.cons (.ife (.cmp .inn (.v 0) (.tup (.cons (.str s_number_1f54) (.cons (.str s_text_a7c7) (.cons (.str [100, 97, 121]) .nil))))) (.cons (.ret (.v 1))
    .nil) .nil)
    (.cons (.ife (.cmp .eq (.v 0) (.str s_truth_2626)) (.cons (.ret (.b2 .min (.int 2) (.v 1)))
    .nil) .nil)
    (.cons (.ife (.cmp .eq (.ix (.v 0) (.int 0)) (.str s_range_5a49)) (.cons (.ret (.b2 .min (.bin .add (.bin .sub (.ix (.v 0) (.int 2)) (.ix (.v 0) (.int 1))) (.int 1)) (.v 1)))
    .nil) .nil)
    (.cons (.ife (.cmp .eq (.ix (.v 0) (.int 0)) (.str s_among_b8f1)) (.cons (.ret (.b2 .min (.p1 .len (.ix (.v 0) (.int 1))) (.v 1)))
    .nil) .nil)
    (.cons (.set 2 (.call 14 (.cons (.ix (.v 0) (.int 1)) (.cons (.v 1) .nil))))
    (.cons (.set 3 (.int 0))
    (.cons (.set 4 (.int 1))
    (.cons (.forS (.one 5) (.rng1 (.bin .add (.ix (.v 0) (.int 2)) (.int 1))) (.cons (.set 3 (.bin .add (.v 3) (.v 4)))
    (.cons (.set 4 (.b2 .min (.bin .mul (.v 4) (.v 2)) (.v 1)))
    .nil)))
    (.cons (.ret (.b2 .min (.v 3) (.v 1)))
    .nil)))))))))
abbrev f__law_count : Fn := ⟨2, 6, b__law_count⟩
abbrev fb0_law : Sms :=
    (.cons (.forS (.one 4) (.seq (.tup (.cons (.int 1) (.cons (.int 7) (.cons (.bin .add (.int 1) (.call 10 (.cons (.bin .add (.call 9 (.cons (.v 0) (.cons (.int 4) .nil))) (.v 2)) (.cons (.int 9803) (.cons (.int 40) .nil))))) .nil))))) (.cons (.set 5 (.call 8 (.cons (.v 3) (.cons (.v 4) .nil))))
    (.cons (.ife (.or (.cons (.not (.isi (.v 5) .tuple)) (.cons (.cmp .ne (.p1 .len (.v 5)) (.call 14 (.cons (.v 3) (.cons (.v 4) .nil)))) .nil))) (.cons (.ret (.bl false))
    .nil) .nil)
    (.cons (.ife (.not (.p1 .all (.lc (.and (.cons (.cmp .is (.call 4 (.cons (.v 6) .nil)) (.bl true)) (.cons (.call 13 (.cons (.v 6) (.cons (.v 3) .nil))) .nil))) (.one 6) (.seq (.v 5)) .nil))) (.cons (.ret (.bl false))
    .nil) .nil)
    (.cons (.ife (.or (.cons (.cmp .ne (.lens (.v 5)) (.p1 .len (.v 5))) (.cons (.cmp .ne (.p1 .len (.call 8 (.cons (.v 3) (.cons (.v 4) .nil)))) (.p1 .len (.v 5))) .nil))) (.cons (.ret (.bl false))
    .nil) .nil)
    .nil)))))
    .nil)
abbrev fb1_law : Sms :=
    (.cons (.set 5 (.call 8 (.cons (.v 3) (.cons (.v 4) .nil))))
    (.cons (.ife (.or (.cons (.not (.isi (.v 5) .tuple)) (.cons (.cmp .ne (.p1 .len (.v 5)) (.call 14 (.cons (.v 3) (.cons (.v 4) .nil)))) .nil))) (.cons (.ret (.bl false))
    .nil) .nil)
    (.cons (.ife (.not (.p1 .all (.lc (.and (.cons (.cmp .is (.call 4 (.cons (.v 6) .nil)) (.bl true)) (.cons (.call 13 (.cons (.v 6) (.cons (.v 3) .nil))) .nil))) (.one 6) (.seq (.v 5)) .nil))) (.cons (.ret (.bl false))
    .nil) .nil)
    (.cons (.ife (.or (.cons (.cmp .ne (.lens (.v 5)) (.p1 .len (.v 5))) (.cons (.cmp .ne (.p1 .len (.call 8 (.cons (.v 3) (.cons (.v 4) .nil)))) (.p1 .len (.v 5))) .nil))) (.cons (.ret (.bl false))
    .nil) .nil)
    .nil))))
abbrev le0_law : Ex :=
    (.call 11 (.cons (.bin .add (.call 9 (.cons (.v 0) (.cons (.v 2) .nil))) (.bin .mul (.int 7) (.v 2))) (.cons (.call 10 (.cons (.call 9 (.cons (.v 0) (.cons (.int 3) .nil))) (.cons (.int 9811) (.cons (.int 4) .nil)))) .nil)))
abbrev li0_law : Exs :=
    .nil
abbrev le1_law : Ex :=
    (.and (.cons (.cmp .is (.call 4 (.cons (.v 6) .nil)) (.bl true)) (.cons (.call 13 (.cons (.v 6) (.cons (.v 3) .nil))) .nil)))
abbrev li1_law : Exs :=
    .nil
/-- law -/
def b_law : Sms :=
    (.cons (.set 1 (.lc (.call 11 (.cons (.bin .add (.call 9 (.cons (.v 0) (.cons (.v 2) .nil))) (.bin .mul (.int 7) (.v 2))) (.cons (.call 10 (.cons (.call 9 (.cons (.v 0) (.cons (.int 3) .nil))) (.cons (.int 9811) (.cons (.int 4) .nil)))) .nil))) (.one 2) (.rng1 (.int 3)) .nil))
    (.cons (.forS (.many [2, 3]) (.enm (.bin .add (.v 1) (.lst (.cons (.str s_number_1f54) (.cons (.str s_truth_2626) (.cons (.str s_text_a7c7) (.cons (.str [100, 97, 121]) .nil))))))) (.cons (.forS (.one 4) (.seq (.tup (.cons (.int 1) (.cons (.int 7) (.cons (.bin .add (.int 1) (.call 10 (.cons (.bin .add (.call 9 (.cons (.v 0) (.cons (.int 4) .nil))) (.v 2)) (.cons (.int 9803) (.cons (.int 40) .nil))))) .nil))))) (.cons (.set 5 (.call 8 (.cons (.v 3) (.cons (.v 4) .nil))))
    (.cons (.ife (.or (.cons (.not (.isi (.v 5) .tuple)) (.cons (.cmp .ne (.p1 .len (.v 5)) (.call 14 (.cons (.v 3) (.cons (.v 4) .nil)))) .nil))) (.cons (.ret (.bl false))
    .nil) .nil)
    (.cons (.ife (.not (.p1 .all (.lc (.and (.cons (.cmp .is (.call 4 (.cons (.v 6) .nil)) (.bl true)) (.cons (.call 13 (.cons (.v 6) (.cons (.v 3) .nil))) .nil))) (.one 6) (.seq (.v 5)) .nil))) (.cons (.ret (.bl false))
    .nil) .nil)
    (.cons (.ife (.or (.cons (.cmp .ne (.lens (.v 5)) (.p1 .len (.v 5))) (.cons (.cmp .ne (.p1 .len (.call 8 (.cons (.v 3) (.cons (.v 4) .nil)))) (.p1 .len (.v 5))) .nil))) (.cons (.ret (.bl false))
    .nil) .nil)
    .nil)))))
    .nil))
    (.cons (.ret (.bl true))
    .nil)))
abbrev f_law : Fn := ⟨1, 7, b_law⟩
def tab : List Fn := [f_is_number, f_days_in, f_is_day, f_is_value_so_deep, f_is_value, f_text_number, f_day_number, f_some_lists, f_some_values, f__law_cell, f__law_mix, f__law_kind, f__law_simple, f__law_of, f__law_count, f_law]
def gls : List Dt := [(.int 999999999), (.tup [(.int 31), (.int 28), (.int 31), (.int 30), (.int 31), (.int 30), (.int 31), (.int 31), (.int 30), (.int 31), (.int 30), (.int 31)])]

abbrev Gm (n : Nat) : Gam := ⟨callW (runP tab gls n), gls⟩
/-! ### calls -/
theorem call1_v {n f : Nat} {ρ : Ev} {st st1 : Sr} {a : Ex} {x : Dt} (h1 : evE (Gm n) a ρ st = .ok (.d x, st1)) : evE (Gm n) (.call f (.cons a .nil)) ρ st = valD st1 (runP tab gls n f [x]) := by
  simp only [evE_call, evEs_cons, evEs_nil, h1, Rs.bind_ok, callW_1]
theorem call2_v {n f : Nat} {ρ : Ev} {st st1 st2 : Sr} {a b : Ex} {x y : Dt} (h1 : evE (Gm n) a ρ st = .ok (.d x, st1)) (h2 : evE (Gm n) b ρ st1 = .ok (.d y, st2)) : evE (Gm n) (.call f (.cons a (.cons b .nil))) ρ st = valD st2 (runP tab gls n f [x, y]) := by
  simp only [evE_call, evEs_cons, evEs_nil, h1, h2, Rs.bind_ok, callW_2]
theorem call3_v {n f : Nat} {ρ : Ev} {st st1 st2 st3 : Sr} {a b c : Ex} {x y z : Dt} (h1 : evE (Gm n) a ρ st = .ok (.d x, st1)) (h2 : evE (Gm n) b ρ st1 = .ok (.d y, st2)) (h3 : evE (Gm n) c ρ st2 = .ok (.d z, st3)) : evE (Gm n) (.call f (.cons a (.cons b (.cons c .nil)))) ρ st = valD st3 (runP tab gls n f [x, y, z]) := by
  simp only [evE_call, evEs_cons, evEs_nil, h1, h2, h3, Rs.bind_ok, callW_3]
def mix (c p m : Int) : Int := (c * 48271 % p) * ((c * 48271 % p) + 7) % p % m
theorem mix_range {c p m : Int} (hm : 0 < m) : 0 ≤ mix c p m ∧ mix c p m < m := ⟨Int.emod_nonneg _ (by omega), Int.emod_lt_of_pos _ hm⟩
theorem run3 (n : Nat) (a b c : Dt) : runP tab gls (n + 1) c__law_mix [a, b, c] = (exSs (Gm n) b__law_mix [some (.d a), some (.d b), some (.d c), none] []).bind endD := rfl
theorem run_mix (n : Nat) (c p m : Int) (hp : 0 < p) (hp2 : p < 2 ^ 63) (hm : 0 < m) : runP tab gls (n + 1) c__law_mix [.int c, .int p, .int m] = .ok (.int (mix c p m)) := by
  have h1 : 0 ≤ c * 48271 % p := Int.emod_nonneg _ (by omega)
  have h2 : c * 48271 % p < p := Int.emod_lt_of_pos _ hp
  have h3 : smallI (c * 48271 % p) := by unfold smallI; omega
  have h4 : smallI 48271 := by decide
  rw [run3]
  simp [b__law_mix, mul_ii, mod_ii, hp, hm, h3, h4, mix]
def cellAt (ns : List Int) (k : Nat) : Int := ns.getD k 0
theorem run2 (n : Nat) (a b : Dt) : runP tab gls (n + 1) c__law_cell [a, b] = (exSs (Gm n) b__law_cell [some (.d a), some (.d b)] []).bind endD := rfl
theorem run_cell (n : Nat) (ns : List Int) (k : Nat) : runP tab gls (n + 1) c__law_cell [.scr ns, .int k] = .ok (.int (cellAt ns k)) := by
  rw [run2]
  by_cases h : k < ns.length
  · simp [b__law_cell, h, ixD, ixL, ixP, cellAt]
  · simp [b__law_cell, h, cellAt]
/-! ### numbers and days -/
def isNumD (d : Dt) (lo hi : Int) : Bool := match d with
  | .int i => decide (lo ≤ i) && decide (i ≤ hi)
  | _ => false
def daysL : List Int := [31, 28, 31, 30, 31, 30, 31, 31, 30, 31, 30, 31]
def leap (y : Int) : Bool := decide (y % 4 = 0) && (!decide (y % 100 = 0) || decide (y % 400 = 0))
def daysIn (y m : Int) : Int := if m = 2 ∧ leap y = true then 29 else daysL.getD (m - 1).toNat 0
def isDayD : Dt → Bool
  | .tup [.int y, .int m, d] => isNumD (.int y) 1 9999 && isNumD (.int m) 1 12 && isNumD d 1 (daysIn y m)
  | _ => false
theorem isDay_no {y m d : Dt} (h : isNumD y 1 9999 = false ∨ isNumD m 1 12 = false) : isDayD (.tup [y, m, d]) = false := by
  unfold isDayD
  split
  · rename_i e
    cases e
    rcases h with h | h <;> simp [h]
  · rfl
theorem run_is_number' (n : Nat) (a b c : Dt) : runP tab gls (n + 1) c_is_number [a, b, c] = (exSs (Gm n) b_is_number [some (.d a), some (.d b), some (.d c)] []).bind endD := rfl
theorem run_is_number (n : Nat) (d : Dt) (lo hi : Int) : runP tab gls (n + 1) c_is_number [d, .int lo, .int hi] = .ok (.bl (isNumD d lo hi)) := by
  rw [run_is_number']
  cases d with
  | int i =>
    by_cases h : lo ≤ i
    · simp [b_is_number, isiD, isNumD, h]
    · simp [b_is_number, isiD, isNumD, h]
  | _ => simp [b_is_number, isiD, isNumD]
theorem run_days_in' (n : Nat) (a b : Dt) : runP tab gls (n + 1) c_days_in [a, b] = (exSs (Gm n) b_days_in [some (.d a), some (.d b)] []).bind endD := rfl
theorem run_days_in (n : Nat) (y m : Int) (h1 : 1 ≤ m) (h2 : m ≤ 12) : runP tab gls (n + 1) c_days_in [.int y, .int m] = .ok (.int (daysIn y m)) := by
  rw [run_days_in']
  obtain ⟨k, rfl⟩ : ∃ k : Nat, m = (k : Int) + 1 := ⟨(m - 1).toNat, by omega⟩
  have hk : k < 12 := by omega
  have hix : ∀ k : Nat, k < 12 → ixD (.tup [(.int 31), (.int 28), (.int 31), (.int 30), (.int 31), (.int 30), (.int 31), (.int 31), (.int 30), (.int 31), (.int 30), (.int 31)]) (.int k) = some (.int (daysL.getD k 0)) := by
    intro k hk
    match k, hk with
    | 0, _ | 1, _ | 2, _ | 3, _ | 4, _ | 5, _ | 6, _ | 7, _ | 8, _ | 9, _ | 10, _ | 11, _ => rfl
  have hg : gls[g_MONTHS]? = some (.tup [(.int 31), (.int 28), (.int 31), (.int 30), (.int 31), (.int 30), (.int 31), (.int 31), (.int 30), (.int 31), (.int 30), (.int 31)]) := rfl
  have e : (k : Int) + 1 - 1 = k := by omega
  have hd : daysL.getD ((k : Int) + 1 - 1).toNat 0 = daysL.getD k 0 := by rw [e]; rfl
  have hx := hix k hk
  by_cases h0 : (k : Int) + 1 = 2
  · by_cases h4 : y % 4 = 0
    · by_cases h100 : y % 100 = 0
      · by_cases h400 : y % 400 = 0
        · simp [b_days_in, mod_ii, h0, h4, h100, h400, daysIn, leap]
        · simp [b_days_in, mod_ii, h0, h4, h100, h400, daysIn, leap, hg]; rfl
      · simp [b_days_in, mod_ii, h0, h4, h100, daysIn, leap]
    · simp [b_days_in, mod_ii, h0, h4, daysIn, leap, hg]; rfl
  · simp [b_days_in, mod_ii, h0, daysIn, hg, e, hx]
theorem run_is_day' (n : Nat) (a : Dt) : runP tab gls (n + 1) c_is_day [a] = (exSs (Gm n) b_is_day [some (.d a), none, none, none] []).bind endD := rfl
theorem run_is_day (n : Nat) (d : Dt) : runP tab gls (n + 2) c_is_day [d] = .ok (.bl (isDayD d)) := by
  rw [run_is_day']
  cases d with
  | tup xs =>
    match xs with
    | [] => simp [b_is_day, isiD, isDayD]
    | [_] => simp [b_is_day, isiD, isDayD]
    | [_, _] => simp [b_is_day, isiD, isDayD]
    | [y, m, d] =>
      by_cases h1 : isNumD y 1 9999 = true
      · by_cases h2 : isNumD m 1 12 = true
        · cases y <;> simp [isNumD] at h1
          cases m <;> simp [isNumD] at h2
          simp [b_is_day, isiD, run_is_number, run_days_in, h2, isNumD, h1, isDayD]
        · simp [b_is_day, isiD, run_is_number, h1, h2]
          rw [isDay_no (.inr (by simpa using h2))]
      · simp [b_is_day, isiD, run_is_number, h1]
        rw [isDay_no (.inl (by simpa using h1))]
    | _ :: _ :: _ :: _ :: r =>
      have : ¬ ((r.length : Int) + 1 + 1 + 1 + 1 = 3) := by omega
      simp [b_is_day, isiD, isDayD, this]
  | _ => simp [b_is_day, isiD, isDayD]

/-! ### values -/
def isBlD : Dt → Bool
  | .bl _ => true
  | _ => false
def isTextD : Dt → Bool
  | .str s => decide (s.length ≤ 60)
  | _ => false
/-- a plain value -/
def plainV (s : List Nat) (c : Dt) : Bool :=
  if s = s_number_1f54 then isNumD c (-999999999) 999999999
  else if s = s_truth_2626 then isBlD c
  else if s = s_text_a7c7 then isTextD c
  else if s = [100, 97, 121] then isDayD c else false
def isValD : Nat → Dt → Bool
  | 0, .tup [.str s, c] => plainV s c
  | k + 1, .tup [.str s, c] => if s = s_list_f818 then (match c with
      | .tup xs => decide (xs.length ≤ 6) && xs.all (isValD k)
      | _ => false) else plainV s c
  | _, _ => false
theorem vsd_no (k : Nat) (a c : Dt) (h : ∀ s, a ≠ .str s) : isValD k (.tup [a, c]) = false := by
  cases k <;> cases a <;> first | rfl | exact absurd rfl (h _)
theorem isVal_plain {k : Nat} {s : List Nat} {c : Dt} (h : s ≠ s_list_f818) : isValD k (.tup [.str s, c]) = plainV s c := by
  cases k with
  | zero => rfl
  | succ k => simp [isValD, h]
theorem isVal_long (k : Nat) (a b c : Dt) (r : List Dt) : isValD k (.tup (a :: b :: c :: r)) = false := by cases k <;> simp [isValD]
theorem isVal_nt (k : Nat) (a : Dt) (h : ∀ xs, a ≠ .tup xs) : isValD k a = false := by
  cases k <;> cases a <;> first | rfl | exact absurd rfl (h _)
theorem isVal_number (k : Nat) {i : Int} (h1 : -999999999 ≤ i) (h2 : i ≤ 999999999) : isValD k (.tup [.str s_number_1f54, .int i]) = true := by
  rw [isVal_plain (by decide)]
  simp [plainV, isNumD, h1, h2]
theorem isVal_truth (k : Nat) (b : Bool) : isValD k (.tup [.str s_truth_2626, .bl b]) = true := by
  rw [isVal_plain (by decide)]
  simp [plainV, isBlD, show ¬ s_truth_2626 = s_number_1f54 by decide]
theorem isVal_text (k : Nat) {s : List Nat} (h : s.length ≤ 60) : isValD k (.tup [.str s_text_a7c7, .str s]) = true := by
  rw [isVal_plain (by decide)]
  simp [plainV, isTextD, show ¬ s_text_a7c7 = s_number_1f54 by decide, show ¬ s_text_a7c7 = s_truth_2626 by decide, h]
theorem isVal_day (k : Nat) {c : Dt} (h : isDayD c = true) : isValD k (.tup [.str [100, 97, 121], c]) = true := by
  rw [isVal_plain (by decide)]
  simp [plainV, show ¬ [100, 97, 121] = s_number_1f54 by decide, show ¬ [100, 97, 121] = s_truth_2626 by decide, show ¬ [100, 97, 121] = s_text_a7c7 by decide, h]
theorem isVal_list {k : Nat} {vs : List Dt} (h1 : vs.length ≤ 6) (h2 : ∀ v ∈ vs, isValD k v = true) : isValD (k + 1) (.tup [.str s_list_f818, .tup vs]) = true := by
  simp [isValD, h1]
  exact h2
theorem run_vsd' (n : Nat) (a b : Dt) : runP tab gls (n + 1) c_is_value_so_deep [a, b] = (exSs (Gm n) b_is_value_so_deep [some (.d a), some (.d b), none, none, none] []).bind endD := rfl
theorem gMost : gls[g_MOST]? = some (.int 999999999) := rfl
theorem run_vsd : ∀ (k n : Nat) (d : Dt), runP tab gls (n + k + 3) c_is_value_so_deep [d, .int k] = .ok (.bl (isValD k d)) := by
  have n1 : ¬ s_truth_2626 = s_number_1f54 := by decide
  have n2 : ¬ s_text_a7c7 = s_number_1f54 := by decide
  have n3 : ¬ s_text_a7c7 = s_truth_2626 := by decide
  have n4 : ¬ [100, 97, 121] = s_number_1f54 := by decide
  have n5 : ¬ [100, 97, 121] = s_truth_2626 := by decide
  have n6 : ¬ [100, 97, 121] = s_text_a7c7 := by decide
  have n7 : ¬ s_list_f818 = s_number_1f54 := by decide
  have n8 : ¬ s_list_f818 = s_truth_2626 := by decide
  have n9 : ¬ s_list_f818 = s_text_a7c7 := by decide
  have n0 : ¬ s_list_f818 = [100, 97, 121] := by decide
  intro k
  induction k with
  | zero =>
    intro n d
    rw [run_vsd']
    cases d with
    | tup xs =>
      match xs with
      | [] => simp [b_is_value_so_deep, isiD, isValD]
      | [_] => simp [b_is_value_so_deep, isiD, isValD]
      | [a, c] =>
        cases a with
        | str s =>
          by_cases h1 : s = s_number_1f54
          · subst h1
            simp [b_is_value_so_deep, isiD, isValD, ixD, ixL, ixP, plainV, gMost, run_is_number]
          by_cases h2 : s = s_truth_2626
          · subst h2
            cases c <;> simp [b_is_value_so_deep, isiD, isValD, ixD, ixL, ixP, plainV, n1, isBlD]
          by_cases h3 : s = s_text_a7c7
          · subst h3
            cases c with
            | str t => 
              have : ((t.length : Int) ≤ 60) = (t.length ≤ 60) := by simp only [eq_iff_iff]; omega
              simp [b_is_value_so_deep, isiD, isValD, ixD, ixL, ixP, plainV, n2, n3, isTextD, this]
            | _ => simp [b_is_value_so_deep, isiD, isValD, ixD, ixL, ixP, plainV, n2, n3, isTextD]
          by_cases h4 : s = [100, 97, 121]
          · subst h4
            simp [b_is_value_so_deep, isiD, isValD, ixD, ixL, ixP, plainV, n4, n5, n6, run_is_day]
          · by_cases h5 : s = s_list_f818
            · subst h5
              simp [b_is_value_so_deep, isiD, isValD, ixD, ixL, ixP, plainV, n7, n8, n9, n0]
            · simp [b_is_value_so_deep, isiD, isValD, ixD, ixL, ixP, plainV, h1, h2, h3, h4, h5]
        | _ => simp [b_is_value_so_deep, isiD, isValD, ixD, ixL, ixP]
      | _ :: _ :: _ :: r =>
        have : ¬ ((r.length : Int) + 1 + 1 + 1 = 2) := by omega
        simp [b_is_value_so_deep, isiD, isValD, this]
    | _ => simp [b_is_value_so_deep, isiD, isValD]
  | succ k ih =>
    intro n d
    rw [run_vsd']
    have ek : ¬ ((k : Int) + 1 = 0) := by omega
    cases d with
    | tup xs =>
      match xs with
      | [] => simp [b_is_value_so_deep, isiD, isValD]
      | [_] => simp [b_is_value_so_deep, isiD, isValD]
      | [a, c] =>
        cases a with
        | str s =>
          by_cases h1 : s = s_number_1f54
          · subst h1
            simp [b_is_value_so_deep, isiD, isVal_plain, Ne.symm n7, ixD, ixL, ixP, plainV, gMost, run_is_number]
          by_cases h2 : s = s_truth_2626
          · subst h2
            cases c <;> simp [b_is_value_so_deep, isiD, isVal_plain, Ne.symm n8, ixD, ixL, ixP, plainV, n1, isBlD]
          by_cases h3 : s = s_text_a7c7
          · subst h3
            cases c with
            | str t => 
              have : ((t.length : Int) ≤ 60) = (t.length ≤ 60) := by simp only [eq_iff_iff]; omega
              simp [b_is_value_so_deep, isiD, isVal_plain, Ne.symm n9, ixD, ixL, ixP, plainV, n2, n3, isTextD, this]
            | _ => simp [b_is_value_so_deep, isiD, isVal_plain, Ne.symm n9, ixD, ixL, ixP, plainV, n2, n3, isTextD]
          by_cases h4 : s = [100, 97, 121]
          · subst h4
            have r := run_is_day (n + k + 1 ) c
            simp only [show n + k + 1 + 2 = n + (k + 1) + 2 by omega] at r
            simp [b_is_value_so_deep, isiD, isVal_plain, Ne.symm n0, ixD, ixL, ixP, plainV, n4, n5, n6, r]
          · by_cases h5 : s = s_list_f818
            · subst h5
              cases c with
              | tup ys =>
                by_cases hl : ys.length ≤ 6
                · have e2 : ¬ (6 : Int) < (ys.length : Int) := by omega
                  have hlc : ∀ ifs elt (x4 : Option Wv), ifs = Exs.nil → elt = (.call c_is_value_so_deep (.cons (.v 4) (.cons (.bin .sub (.v 1) (.int 1)) .nil))) → lcL [] (lcTurn (evIfs (Gm (n + (k + 1) + 2)) ifs) (evE (Gm (n + (k + 1) + 2)) elt) (.one 4) [some (.d (.tup [.str s_list_f818, .tup ys])), some (.d (.int ((k : Int) + 1))), some (.d (.str s_list_f818)), some (.d (.tup ys)), x4]) ys [] = .ok (ys.map (fun c => .bl (isValD k c)), []) := by
                    intro ifs elt x4 h1 h2
                    subst h1 h2
                    refine lcL_map _ _ (fun x => lcTurn_one (by simp) ?_) ys
                    have r := ih n x
                    simp only [show n + k + 3 = n + (k + 1) + 2 by omega] at r
                    have e : (k : Int) + 1 - 1 = k := by omega
                    simp [e, r]
                  have hm : (ys.map (fun c => Dt.bl (isValD k c))).length ≤ lim := by simp [lim16]; omega
                  simp [b_is_value_so_deep, isiD, ixD, ixL, ixP, n7, n8, n9, n0, ek, e2]
                  rw [hlc _ _ _ rfl rfl]
                  simp only [Rs.bind_ok]
                  rw [lcEnd_ok hm]
                  simp [all_map, isValD, hl]
                · have e2 : (6 : Int) < (ys.length : Int) := by omega
                  simp [b_is_value_so_deep, isiD, ixD, ixL, ixP, n7, n8, n9, n0, ek, e2, isValD, hl]
              | _ => simp [b_is_value_so_deep, isiD, isValD, ixD, ixL, ixP, plainV, n7, n8, n9, n0, ek]
            · simp [b_is_value_so_deep, isiD, isVal_plain, ixD, ixL, ixP, plainV, h1, h2, h3, h4, h5]
        | _ => simp [b_is_value_so_deep, isiD, isValD, ixD, ixL, ixP]
      | _ :: _ :: _ :: r =>
        have : ¬ ((r.length : Int) + 1 + 1 + 1 = 2) := by omega
        simp [b_is_value_so_deep, isiD, isValD, this]
    | _ => simp [b_is_value_so_deep, isiD, isValD]
theorem run_is_value' (n : Nat) (a : Dt) : runP tab gls (n + 1) c_is_value [a] = (exSs (Gm n) b_is_value [some (.d a)] []).bind endD := rfl
theorem run_is_value (n : Nat) (d : Dt) : runP tab gls (n + 7) c_is_value [d] = .ok (.bl (isValD 3 d)) := by
  rw [run_is_value']
  have r := run_vsd 3 n d
  simp only [Int.cast_ofNat_Int] at r
  simp [b_is_value, r]

/-! ### kinds -/
inductive Kd where
  | pl (s : List Nat)
  | rg (lo hi : Int)
  | am (vs : List Dt)
  | ls (k : Kd) (m : Nat)
def Kd.toD : Kd → Dt
  | .pl s => .str s
  | .rg lo hi => .tup [.str s_range_5a49, .int lo, .int hi]
  | .am vs => .tup [.str s_among_b8f1, .tup vs]
  | .ls k m => .tup [.str s_list_f818, k.toD, .int m]
def isPl (s : List Nat) : Bool := decide (s = s_number_1f54) || decide (s = s_truth_2626) || decide (s = s_text_a7c7) || decide (s = [100, 97, 121])
/-- well formed, lists at most n deep -/
def Kd.ok : Nat → Kd → Prop
  | _, .pl s => isPl s = true
  | _, .rg lo hi => lo ≤ hi ∧ -999999999 ≤ lo ∧ hi ≤ 999999999
  | _, .am vs => vs ≠ [] ∧ vs.length ≤ 6 ∧ (∀ v ∈ vs, isValD 0 v = true) ∧ depDs vs ≤ 64
  | n + 1, .ls k m => k.ok n ∧ m ≤ 6
  | 0, .ls _ _ => False
/-- is a value of a kind -/
def fstS : Dt → List Nat
  | .tup (.str s :: _) => s
  | _ => []
def ofK : Kd → Dt → Bool
  | .pl s, v => decide (fstS v = s)
  | .rg lo hi, v => (match v with
    | .tup [.str s, .int i] => decide (s = s_number_1f54) && decide (lo ≤ i) && decide (i ≤ hi)
    | _ => false)
  | .am vs, v => vs.any fun z => eqD z v
  | .ls k m, v => (match v with
    | .tup [.str s, .tup xs] => decide (s = s_list_f818) && decide (xs.length ≤ m) && xs.all (ofK k)
    | _ => false)
/-- what a value looks like -/
theorem isVal_inv {k : Nat} {v : Dt} (h : isValD k v = true) : ∃ s c, v = .tup [.str s, c] ∧ (s = s_number_1f54 → ∃ i, c = .int i) ∧ (s = s_list_f818 → ∃ xs j, k = j + 1 ∧ c = .tup xs ∧ xs.length ≤ 6 ∧ ∀ x ∈ xs, isValD j x = true) := by
  cases v with
  | tup xs =>
    match xs, h with
    | [a, c], h =>
      cases a with
      | str s =>
        refine ⟨s, c, rfl, ?_, ?_⟩
        · rintro rfl
          rw [isVal_plain (by decide)] at h
          cases c <;> simp [plainV, isNumD] at h
          exact ⟨_, rfl⟩
        · rintro rfl
          cases k with
          | zero =>
            simp [isValD, plainV, show ¬ s_list_f818 = s_number_1f54 by decide, show ¬ s_list_f818 = s_truth_2626 by decide, show ¬ s_list_f818 = s_text_a7c7 by decide, show ¬ s_list_f818 = [100, 97, 121] by decide] at h
          | succ j =>
            cases c with
            | tup ys =>
              simp [isValD] at h
              exact ⟨ys, j, rfl, rfl, h.1, h.2⟩
            | _ => simp [isValD] at h
      | _ => cases k <;> simp [isValD] at h
    | [], h => cases k <;> simp [isValD] at h
    | [a], h => cases k <;> simp [isValD] at h
    | a :: b :: c :: r, h => rw [isVal_long] at h; cases h
  | _ => cases k <;> simp [isValD] at h
theorem isVal_mono : ∀ {k : Nat} {v : Dt}, isValD k v = true → isValD (k + 1) v = true := by
  intro k
  induction k with
  | zero =>
    intro v h
    obtain ⟨s, c, rfl, h1, h2⟩ := isVal_inv h
    by_cases hs : s = s_list_f818
    · obtain ⟨xs, j, e, _⟩ := h2 hs
      cases e
    · rwa [isVal_plain hs, ← isVal_plain (k := 0) hs]
  | succ k ih =>
    intro v h
    obtain ⟨s, c, rfl, h1, h2⟩ := isVal_inv h
    by_cases hs : s = s_list_f818
    · obtain ⟨xs, j, e, rfl, h3, h4⟩ := h2 hs
      cases e
      subst hs
      exact isVal_list h3 fun x hx => ih (h4 x hx)
    · rwa [isVal_plain hs, ← isVal_plain (k := k + 1) hs]
theorem in_plS {s : List Nat} (h : isPl s = true) : copD .inn (.str s) (.tup [(.str s_number_1f54), (.str s_truth_2626), (.str s_text_a7c7), (.str [100, 97, 121])]) = some true := by
  rw [in_st]
  simp only [isPl, Bool.or_eq_true, decide_eq_true_eq] at h
  rcases h with ((h | h) | h) | h <;> simp [h]
theorem in_plT (xs : List Dt) : copD .inn (.tup xs) (.tup [(.str s_number_1f54), (.str s_truth_2626), (.str s_text_a7c7), (.str [100, 97, 121])]) = some false := by
  simp [copD, depD, depDs, eqD]
theorem in_am {v : Dt} {vs : List Dt} (h : depDs vs ≤ 64) : copD .inn v (.tup vs) = some (vs.any fun z => eqD z v) := by
  cases v with
  | str s => exact in_st s vs
  | _ => simp [copD, h]
theorem ix0 (x : Dt) (xs : List Dt) : ixD (.tup (x :: xs)) (.int 0) = some x := by simp [ixD, ixL, ixP]
theorem ix1 (x y : Dt) (xs : List Dt) : ixD (.tup (x :: y :: xs)) (.int 1) = some y := by
  have : ((1 : Int) < (xs.length : Int) + 1 + 1) := by omega
  simp [ixD, ixL, ixP, this]
theorem ix2 (x y z : Dt) (xs : List Dt) : ixD (.tup (x :: y :: z :: xs)) (.int 2) = some z := by
  have : ((2 : Int) < (xs.length : Int) + 1 + 1 + 1) := by omega
  simp [ixD, ixL, ixP, this]
theorem run_law_of' (n : Nat) (a b : Dt) : runP tab gls (n + 1) c__law_of [a, b] = (exSs (Gm n) b__law_of [some (.d a), some (.d b), none] []).bind endD := rfl
theorem run_law_of : ∀ (d n k : Nat) (K : Kd) (v : Dt), K.ok d → isValD k v = true → runP tab gls (n + d + 1) c__law_of [v, K.toD] = .ok (.bl (ofK K v)) := by
  have ra : ¬ s_range_5a49 = s_among_b8f1 := by decide
  have ar : ¬ s_among_b8f1 = s_range_5a49 := by decide
  have la : ¬ s_list_f818 = s_among_b8f1 := by decide
  have lr : ¬ s_list_f818 = s_range_5a49 := by decide
  intro d n k K
  induction K generalizing d n k with
  | pl s =>
    intro v h hv
    obtain ⟨t, c, rfl, _, _⟩ := isVal_inv hv
    have h : isPl s = true := by cases d <;> exact h
    rw [run_law_of']
    by_cases e : t = s <;> simp [b__law_of, Kd.toD, mkTup4, in_plS h, ix0, ofK, fstS, e]
  | rg lo hi =>
    intro v h hv
    obtain ⟨t, c, rfl, h1, _⟩ := isVal_inv hv
    rw [run_law_of']
    by_cases ht : t = s_number_1f54
    · obtain ⟨i, rfl⟩ := h1 ht
      subst ht
      by_cases hl : lo ≤ i
      · simp [b__law_of, Kd.toD, mkTup4, in_plT, ix0, ix1, ix2, ra, ofK, hl]
      · simp [b__law_of, Kd.toD, mkTup4, in_plT, ix0, ix1, ix2, ra, ofK, hl]
    · have : ofK (.rg lo hi) (.tup [.str t, c]) = false := by
        cases c <;> simp [ofK, ht]
      simp [b__law_of, Kd.toD, mkTup4, in_plT, ix0, ix1, ix2, ra, ht, this]
  | am vs =>
    intro v h hv
    have h : depDs vs ≤ 64 := by cases d <;> exact h.2.2.2
    rw [run_law_of']
    simp [b__law_of, Kd.toD, mkTup4, in_plT, ix0, ix1, in_am h, ofK, ar]
  | ls K m ih =>
    intro v h hv
    cases d with
    | zero => exact h.elim
    | succ d =>
    obtain ⟨t, c, rfl, _, h2⟩ := isVal_inv hv
    by_cases ht : t = s_list_f818
    · obtain ⟨xs, j, rfl, rfl, h3, h4⟩ := h2 ht
      subst ht
      rw [run_law_of']
      have hlc : xs.length ≤ m → evE (Gm (n + (d + 1))) (.lc (.call c__law_of (.cons (.v 2) (.cons (.ix (.v 1) (.int 1)) .nil))) (.one 2) (.seq (.ix (.v 0) (.int 1))) .nil) [some (.d (.tup [.str s_list_f818, .tup xs])), some (.d (Kd.toD (.ls K m))), none] [] = .ok (.d (.lst (xs.map fun x => .bl (ofK K x))), []) := by
        intro hm
        refine evE_lc_ok (xs := xs) (by simp [ix1]) ?_ (by simp; omega)
        have := @lcL_map' [] _ (lcTurn (evIfs (Gm (n + (d + 1))) .nil) (evE (Gm (n + (d + 1))) (.call c__law_of (.cons (.v 2) (.cons (.ix (.v 1) (.int 1)) .nil)))) (.one 2) [some (.d (.tup [.str s_list_f818, .tup xs])), some (.d (Kd.toD (.ls K m))), none]) id (fun x => .bl (ofK K x)) xs (fun x hx => by
          refine lcTurn_one (by simp) ?_
          have r := ih d n j x h.1 (h4 x hx)
          simp only [show n + d + 1 = n + (d + 1) from rfl] at r
          simp [Kd.toD, ix1, r])
        simpa using this
      by_cases hm : xs.length ≤ m
      · have e : (xs.length : Int) ≤ (m : Int) := by omega
        have hl := hlc hm
        simp only [Kd.toD] at hl
        simp only [Kd.toD]
        simp [b__law_of, mkTup4, in_plT, ix0, ix1, ix2, la, lr, hm, -evE_lc]
        rw [hl]
        simp [all_map, ofK, hm]
      · have e : ¬ (xs.length : Int) ≤ (m : Int) := by omega
        simp [b__law_of, Kd.toD, mkTup4, in_plT, ix0, ix1, ix2, la, lr, e, ofK, hm]
    · have : ofK (.ls K m) (.tup [.str t, c]) = false := by
        cases c <;> simp [ofK, ht]
      rw [run_law_of']
      simp [b__law_of, Kd.toD, mkTup4, in_plT, ix0, ix1, ix2, la, lr, ht, this]
/-! ### the law's simple values and kinds; unlike values -/
def uniqD : List Dt → Prop := List.Pairwise (fun x y => eqD x y = false)
theorem uniq_app {vs : List Dt} {v : Dt} (h : uniqD vs) (hb : vs.any (fun z => eqD z v) = false) : uniqD (vs ++ [v]) := by
  unfold uniqD
  rw [List.pairwise_append]
  refine ⟨h, List.pairwise_singleton _ _, fun x hx y hy => ?_⟩
  rw [List.mem_singleton.mp hy]
  simpa using List.any_eq_false.mp hb x hx
theorem nub_uniq : ∀ {vs : List Dt}, uniqD vs → nubD vs = vs
  | [], _ => rfl
  | v :: vs, h => by
    obtain ⟨h1, h2⟩ := List.pairwise_cons.mp h
    have : ¬ vs.any (fun z => eqD v z) = true := by
      intro c
      obtain ⟨z, hz, e⟩ := List.any_eq_true.mp c
      rw [h1 z hz] at e
      cases e
    rw [nubD, if_neg this, nub_uniq h2]
theorem nub_len : ∀ vs : List Dt, (nubD vs).length ≤ vs.length
  | [] => Nat.le_refl _
  | v :: vs => by
    have := nub_len vs
    rw [nubD]
    split <;> simp only [List.length_cons] <;> omega
def Kd.unl : Kd → Prop
  | .am vs => uniqD vs
  | .ls k _ => k.unl
  | _ => True
theorem run_law_simple' (n : Nat) (a : Dt) : runP tab gls (n + 1) c__law_simple [a] = (exSs (Gm n) b__law_simple [some (.d a), none] []).bind endD := rfl
theorem run_law_simple (n : Nat) (c : Int) : ∃ v, runP tab gls (n + 2) c__law_simple [.int c] = .ok v ∧ isValD 0 v = true ∧ depD v ≤ 3 := by
  have ⟨p1, p2⟩ := @mix_range c 9719 5 (by decide)
  by_cases h0 : mix c 9719 5 < 2
  · have ⟨q1, q2⟩ := @mix_range c 9697 14 (by decide)
    exact ⟨.tup [.str s_number_1f54, .int (mix c 9697 14 - 7)], by rw [run_law_simple']; simp [b__law_simple, run_mix, h0], isVal_number _ (by omega) (by omega), by simp [depD, depDs]⟩
  by_cases h2 : mix c 9719 5 = 2
  · exact ⟨.tup [.str s_truth_2626, .bl (decide (c % 2 = 0))], by rw [run_law_simple']; simp [b__law_simple, run_mix, h2, mod_ii], isVal_truth _ _, by simp [depD, depDs]⟩
  by_cases h3 : mix c 9719 5 = 3
  · have ⟨q1, q2⟩ := @mix_range c 9689 4 (by decide)
    obtain ⟨x, hx, ex⟩ := @ix_t [.str [], .str [97], .str [98], .str [97, 98]] (mix c 9689 4) q1 (by simpa using q2)
    have : ∃ s, x = .str s ∧ s.length ≤ 60 := by
      simp at hx
      rcases hx with h | h | h | h <;> exact ⟨_, h, by decide⟩
    obtain ⟨s, rfl, hs⟩ := this
    exact ⟨.tup [.str s_text_a7c7, .str s], by rw [run_law_simple']; simp [b__law_simple, run_mix, h3, ex], isVal_text _ hs, by simp [depD, depDs]⟩
  · have ⟨q1, q2⟩ := @mix_range c 9679 3 (by decide)
    have ⟨r1, r2⟩ := @mix_range c 9677 2 (by decide)
    refine ⟨.tup [.str [100, 97, 121], .tup [.int (1 + mix c 9679 3), .int 1, .int (1 + mix c 9677 2)]], by rw [run_law_simple']; simp [b__law_simple, run_mix, h0, h2, h3], isVal_day _ ?_, by simp [depD, depDs]⟩
    simp [isDayD, isNumD, daysIn, daysL]
    omega
theorem run_law_kind' (n : Nat) (a b : Dt) : runP tab gls (n + 1) c__law_kind [a, b] = (exSs (Gm n) b__law_kind [some (.d a), some (.d b), none, none, none, none, none] []).bind endD := rfl
theorem depDs_le : ∀ {vs : List Dt} {n : Nat}, (∀ v ∈ vs, depD v ≤ n) → depDs vs ≤ n + 1
  | [], n, _ => by simp [depDs]
  | v :: vs, n, h => by
    have h1 := h v List.mem_cons_self
    have h2 := depDs_le fun w hw => h w (List.mem_cons_of_mem _ hw)
    simp [depDs]
    omega
def amB : Sms := (.cons (.set 6 (.call c__law_simple (.cons (.bin .add (.v 0) (.bin .mul (.int 11) (.v 5))) .nil)))
    (.cons (.ife (.cmp .notin (.v 6) (.v 4)) (.cons (.app 4 (.v 6))
    .nil) .nil)
    .nil))
theorem am_loop (n : Nat) (c : Int) (x1 x2 x3 : Option Wv) (m : Nat) (hm : m ≤ 6) : ∃ vs x5 x6, exFor (exSs (Gm (n + 2)) amB) (.one 5) [] (rangeL 0 m) [some (.d (.int c)), x1, x2, x3, some (.ob 0), none, none] [.lst []] =
    .ok ((.nx, [some (.d (.int c)), x1, x2, x3, some (.ob 0), x5, x6]), [.lst vs]) ∧ vs.length ≤ m ∧ (1 ≤ m → vs ≠ []) ∧ (∀ v ∈ vs, isValD 0 v = true ∧ depD v ≤ 3) ∧ uniqD vs := by
  have s11 : smallI 11 := by decide
  obtain ⟨ρ', st', h1, vs, x5, x6, rfl, rfl, h2, h3, h4, h5⟩ := @exFor_invS (exSs (Gm (n + 2)) amB) (.one 5) (fun k ρ st => ∃ vs x5 x6, ρ = [some (.d (.int c)), x1, x2, x3, some (.ob 0), x5, x6] ∧ st = [.lst vs] ∧ vs.length ≤ k ∧ (1 ≤ k → vs ≠ []) ∧ (∀ v ∈ vs, isValD 0 v = true ∧ depD v ≤ 3) ∧ uniqD vs) (rangeL 0 m) 0
    [some (.d (.int c)), x1, x2, x3, some (.ob 0), none, none] [.lst []] ⟨[], none, none, rfl, rfl, by simp, by omega, by simp, List.Pairwise.nil⟩ (by
    rintro j x ρ st hj ⟨vs, x5, x6, rfl, rfl, a1, a2, a3, a4⟩
    obtain ⟨rfl, hj2⟩ := range0_at hj
    obtain ⟨v, hv, hv2, hv3⟩ := run_law_simple n (c + 11 * (j : Int))
    have hn := notin_lst (a := v) (xs := vs) (.inl (by omega))
    cases hb : vs.any (fun z => eqD z v) with
    | true =>
      rw [hb] at hn
      have h0 : vs ≠ [] := by rintro rfl; simp at hb
      refine ⟨_, _, _, rfl, ?_, vs, some (.d (.int j)), some (.d v), rfl, rfl, by omega, fun _ => h0, a3, a4⟩
      simp [amB, mul_ii, s11, hv, op2_v (f := fun x y => blO (copD .notin x y)) (w := .d v) (u := .ob 0) (st := [.lst vs]) rfl rfl, hn]
    | false =>
      rw [hb] at hn
      refine ⟨_, _, _, rfl, ?_, vs ++ [v], some (.d (.int j)), some (.d v), rfl, rfl, by simp; omega, fun _ => by simp, ?_, uniq_app a4 hb⟩
      · have ha := app0 (Γ := Gm (n + 2)) (ρ := [some (.d (.int c)), x1, x2, x3, some (.ob 0), some (.d (.int j)), some (.d v)]) (vs := vs) (i := 4) (e := .v 6) (y := v) rfl (by simp) (by omega)
        simp [amB, mul_ii, s11, hv, op2_v (f := fun x y => blO (copD .notin x y)) (w := .d v) (u := .ob 0) (st := [.lst vs]) rfl rfl, hn, -exS_app]
        rw [ha]
        simp
      · intro w hw
        rcases List.mem_append.mp hw with hw | hw
        · exact a3 w hw
        · rw [List.mem_singleton.mp hw]; exact ⟨hv2, hv3⟩)
  rw [rangeL_len, Nat.zero_add] at h2 h3
  exact ⟨vs, x5, x6, h1, h2, h3, h4, h5⟩
theorem isPl_is : isPl s_number_1f54 = true ∧ isPl s_truth_2626 = true ∧ isPl s_text_a7c7 = true ∧ isPl [100, 97, 121] = true := by decide
theorem Kd.ok_pl {s : List Nat} (n : Nat) (h : isPl s = true) : (Kd.pl s).ok n := by cases n <;> exact h
theorem Kd.ok_rg {lo hi : Int} (n : Nat) (h : lo ≤ hi ∧ -999999999 ≤ lo ∧ hi ≤ 999999999) : (Kd.rg lo hi).ok n := by cases n <;> exact h
theorem Kd.ok_am {vs : List Dt} (n : Nat) (h : vs ≠ [] ∧ vs.length ≤ 6 ∧ (∀ v ∈ vs, isValD 0 v = true) ∧ depDs vs ≤ 64) : (Kd.am vs).ok n := by cases n <;> exact h
def lkRest : Sms :=
    (.cons (.ife (.cmp .lt (.v 2) (.int 3)) (.cons (.ret (.ix (.tup (.cons (.str s_number_1f54) (.cons (.str s_text_a7c7) (.cons (.str [100, 97, 121]) .nil)))) (.v 2)))
    .nil) .nil)
    (.cons (.ife (.cmp .eq (.v 2) (.int 3)) (.cons (.set 3 (.bin .sub (.call c__law_mix (.cons (.v 0) (.cons (.int 9749) (.cons (.int 12) .nil)))) (.int 6)))
    (.cons (.ret (.tup (.cons (.str s_range_5a49) (.cons (.v 3) (.cons (.bin .add (.v 3) (.call c__law_mix (.cons (.v 0) (.cons (.int 9743) (.cons (.int 9) .nil))))) .nil)))))
    .nil)) .nil)
    (.cons (.ife (.cmp .eq (.v 2) (.int 4)) (.cons (.ret (.ix (.tup (.cons (.str s_number_1f54) (.cons (.str s_truth_2626) (.cons (.tup (.cons (.str s_range_5a49) (.cons (.neg (.int 999999999)) (.cons (.int 999999999) .nil)))) .nil)))) (.call c__law_mix (.cons (.v 0) (.cons (.int 9739) (.cons (.int 3) .nil))))))
    .nil) .nil)
    (.cons (.ife (.cmp .eq (.v 2) (.int 5)) (.cons (.setL 4 (.lst .nil))
    (.cons (.forS (.one 5) (.rng1 (.bin .add (.int 1) (.call c__law_mix (.cons (.v 0) (.cons (.int 9733) (.cons (.int 6) .nil)))))) (.cons (.set 6 (.call c__law_simple (.cons (.bin .add (.v 0) (.bin .mul (.int 11) (.v 5))) .nil)))
    (.cons (.ife (.cmp .notin (.v 6) (.v 4)) (.cons (.app 4 (.v 6))
    .nil) .nil)
    .nil)))
    (.cons (.ret (.tup (.cons (.str s_among_b8f1) (.cons (.p1 .tuple (.v 4)) .nil))))
    .nil))) .nil)
    (.cons (.ret (.tup (.cons (.str s_list_f818) (.cons (.call c__law_kind (.cons (.bin .add (.v 0) (.int 2)) (.cons (.bin .sub (.v 1) (.int 1)) .nil))) (.cons (.call c__law_mix (.cons (.v 0) (.cons (.int 9721) (.cons (.int 7) .nil)))) .nil)))))
    .nil)))))
theorem lk_pre (n : Nat) (c d : Int) : ∃ M : Int, ((M = 6 ∧ ¬ 0 < d) ∨ (M = 8 ∧ 0 < d)) ∧ exSs (Gm (n + 1)) b__law_kind [some (.d (.int c)), some (.d (.int d)), none, none, none, none, none] [] = exSs (Gm (n + 1)) lkRest [some (.d (.int c)), some (.d (.int d)), some (.d (.int (mix c 9767 M))), none, none, none, none] [] := by
  have s2 : smallI 2 := by decide
  have hb : b__law_kind = .cons (.set 2 (.call c__law_mix (.cons (.v 0) (.cons (.int 9767) (.cons (.bin .add (.int 6) (.bin .mul (.int 2) (.p1 .int (.cmp .gt (.v 1) (.int 0))))) .nil))))) lkRest := rfl
  rw [hb]
  generalize lkRest = r
  by_cases hd : 0 < d
  · exact ⟨8, .inr ⟨rfl, hd⟩, by simp [run_mix, mul_ii, s2, hd]⟩
  · exact ⟨6, .inl ⟨rfl, hd⟩, by simp [run_mix, mul_ii, s2, hd]⟩
theorem lk_rest (n k : Nat) (c d w : Int) (h0 : 0 ≤ w) (h8 : w < 6) : ∃ K : Kd, (exSs (Gm (n + 2)) lkRest [some (.d (.int c)), some (.d (.int d)), some (.d (.int w)), none, none, none, none] []).bind endD = .ok K.toD ∧ K.ok k ∧ K.unl := by
  have ⟨i1, i2, i3, i4⟩ := isPl_is
  by_cases h3 : w < 3
  · obtain ⟨x, hx, ex⟩ := @ix_t [.str s_number_1f54, .str s_text_a7c7, .str [100, 97, 121]] w h0 (by simpa using h3)
    have : ∃ s, x = .str s ∧ isPl s = true := by
      simp at hx
      rcases hx with h | h | h <;> exact ⟨_, h, by assumption⟩
    obtain ⟨s, rfl, hs⟩ := this
    exact ⟨.pl s, by simp [lkRest, h3, ex, Kd.toD], Kd.ok_pl _ hs, trivial⟩
  by_cases h4 : w = 3
  · subst h4
    have ⟨a1, a2⟩ := @mix_range c 9749 12 (by decide)
    have ⟨b1, b2⟩ := @mix_range c 9743 9 (by decide)
    exact ⟨.rg (mix c 9749 12 - 6) (mix c 9749 12 - 6 + mix c 9743 9), by simp [lkRest, run_mix, Kd.toD], Kd.ok_rg _ (by omega), trivial⟩
  by_cases h5 : w = 4
  · subst h5
    have ⟨q1, q2⟩ := @mix_range c 9739 3 (by decide)
    obtain ⟨x, hx, ex⟩ := @ix_t [.str s_number_1f54, .str s_truth_2626, .tup [.str s_range_5a49, .int (-999999999), .int 999999999]] (mix c 9739 3) q1 (by simpa using q2)
    have : ∃ K : Kd, x = K.toD ∧ K.ok k ∧ K.unl := by
      simp at hx
      rcases hx with h | h | h
      · exact ⟨.pl _, h, Kd.ok_pl _ i1, trivial⟩
      · exact ⟨.pl _, h, Kd.ok_pl _ i2, trivial⟩
      · exact ⟨.rg (-999999999) 999999999, h, Kd.ok_rg _ (by omega), trivial⟩
    obtain ⟨K, rfl, hK⟩ := this
    exact ⟨K, by simp [lkRest, run_mix, ex], hK⟩
  · have h6 : w = 5 := by omega
    subst h6
    have ⟨q1, q2⟩ := @mix_range c 9733 6 (by decide)
    obtain ⟨vs, x5, x6, hf, v1, v2, v3, v4⟩ := am_loop n c (some (.d (.int d))) (some (.d (.int 5))) none (1 + mix c 9733 6).toNat (by omega)
    refine ⟨.am vs, ?_, Kd.ok_am _ ⟨v2 (by omega), by omega, fun v hv => (v3 v hv).1, by have := depDs_le fun v hv => (v3 v hv).2; omega⟩, v4⟩
    have hI : evI (Gm (n + 2)) (.rng1 (.bin .add (.int 1) (.call c__law_mix (.cons (.v 0) (.cons (.int 9733) (.cons (.int 6) .nil)))))) [some (.d (.int c)), some (.d (.int d)), some (.d (.int 5)), none, some (.ob 0), none, none] [.lst []] = .ok ((rangeL 0 (1 + mix c 9733 6).toNat, []), [.lst []]) :=
      evI_rng_ok (m := (1 + mix c 9733 6).toNat) (by rw [show (((1 + mix c 9733 6).toNat : Nat) : Int) = 1 + mix c 9733 6 by omega]; simp [run_mix]) (by omega)
    have hF := exS_for_ok (tg := .one 5) hI hf
    unfold amB at hF
    simp [lkRest, layL, -exS_for]
    rw [hF]
    simp [Kd.toD, op1_v (f := p1D .tuple) (w := .ob 0) (st := [.lst vs]) rfl]
theorem run_law_kind : ∀ (k n : Nat) (c : Int), ∃ K : Kd, runP tab gls (n + k + 3) c__law_kind [.int c, .int k] = .ok K.toD ∧ K.ok k ∧ K.unl := by
  intro k
  induction k with
  | zero =>
    intro n c
    obtain ⟨M, hM, e⟩ := lk_pre (n + 1) c ((0 : Nat) : Int)
    have hM6 : M = 6 := by omega
    subst hM6
    have ⟨p1, p2⟩ := @mix_range c 9767 6 (by decide)
    rw [run_law_kind', e]
    exact lk_rest n 0 c _ _ p1 p2
  | succ k ih =>
    intro n c
    obtain ⟨M, hM, e⟩ := lk_pre (n + k + 2) c ((k + 1 : Nat) : Int)
    have hM6 : M = 8 := by omega
    subst hM6
    have ⟨p1, p2⟩ := @mix_range c 9767 8 (by decide)
    by_cases h6 : mix c 9767 8 < 6
    · rw [run_law_kind', show n + (k + 1) + 2 = n + k + 2 + 1 from rfl, e]
      exact lk_rest (n + k + 1) (k + 1) c _ _ p1 h6
    · obtain ⟨K, hK, ok, un⟩ := ih n (c + 2)
      have ⟨q1, q2⟩ := @mix_range c 9721 7 (by decide)
      refine ⟨.ls K (mix c 9721 7).toNat, ?_, ⟨ok, by omega⟩, un⟩
      rw [run_law_kind', show n + (k + 1) + 2 = n + k + 2 + 1 from rfl, e]
      generalize hw : mix c 9767 8 = w at *
      have a1 : ¬ w < 3 := by omega
      have a2 : ¬ w = 3 := by omega
      have a3 : ¬ w = 4 := by omega
      have a4 : ¬ w = 5 := by omega
      have ek : (k : Int) + 1 - 1 = k := by omega
      have em : (((mix c 9721 7).toNat : Nat) : Int) = mix c 9721 7 := by omega
      simp only [show n + k + 3 = n + k + 2 + 1 from rfl] at hK
      simp [lkRest, a1, a2, a3, a4, ek, hK, run_mix, Kd.toD, em]
/-- values that are no lists can be keys -/
theorem val_key0 {k : Nat} {v : Dt} (h : isValD k v = true) (hl : fstS v ≠ s_list_f818) : isTupD v = true ∧ keyOk v = true ∧ depD v ≤ 2 := by
  obtain ⟨s, c, rfl, _, _⟩ := isVal_inv h
  have hs : s ≠ s_list_f818 := hl
  rw [isVal_plain hs] at h
  unfold plainV at h
  cases c with
  | tup ys =>
    by_cases h1 : s = s_number_1f54
    · subst h1; simp [isNumD] at h
    by_cases h2 : s = s_truth_2626
    · subst h2; simp [isBlD, show ¬ s_truth_2626 = s_number_1f54 by decide] at h
    by_cases h3 : s = s_text_a7c7
    · subst h3; simp [isTextD, show ¬ s_text_a7c7 = s_number_1f54 by decide, show ¬ s_text_a7c7 = s_truth_2626 by decide] at h
    by_cases h4 : s = [100, 97, 121]
    · subst h4
      simp only [h1, h2, h3, if_false, if_true] at h
      match ys, h with
      | [.int y, .int m, .int d], h => exact ⟨rfl, by simp [keyOk, keyOks], by simp [depD, depDs]⟩
      | [.int y, .int m, .bl _], h => simp [isDayD, isNumD] at h
      | [.int y, .int m, .non], h => simp [isDayD, isNumD] at h
      | [.int y, .int m, .str _], h => simp [isDayD, isNumD] at h
      | [.int y, .int m, .tup _], h => simp [isDayD, isNumD] at h
      | [.int y, .int m, .lst _], h => simp [isDayD, isNumD] at h
      | [.int y, .int m, .scr _], h => simp [isDayD, isNumD] at h
    · simp [h1, h2, h3, h4] at h
  | lst ys =>
    by_cases h1 : s = s_number_1f54
    · subst h1; simp [isNumD] at h
    by_cases h2 : s = s_truth_2626
    · subst h2; simp [isBlD, show ¬ s_truth_2626 = s_number_1f54 by decide] at h
    by_cases h3 : s = s_text_a7c7
    · subst h3; simp [isTextD, show ¬ s_text_a7c7 = s_number_1f54 by decide, show ¬ s_text_a7c7 = s_truth_2626 by decide] at h
    by_cases h4 : s = [100, 97, 121]
    · subst h4; simp [h1, h2, h3, isDayD] at h
    · simp [h1, h2, h3, h4] at h
  | scr ys =>
    by_cases h1 : s = s_number_1f54
    · subst h1; simp [isNumD] at h
    by_cases h2 : s = s_truth_2626
    · subst h2; simp [isBlD, show ¬ s_truth_2626 = s_number_1f54 by decide] at h
    by_cases h3 : s = s_text_a7c7
    · subst h3; simp [isTextD, show ¬ s_text_a7c7 = s_number_1f54 by decide, show ¬ s_text_a7c7 = s_truth_2626 by decide] at h
    by_cases h4 : s = [100, 97, 121]
    · subst h4; simp [h1, h2, h3, isDayD] at h
    · simp [h1, h2, h3, h4] at h
  | _ => exact ⟨rfl, by simp [keyOk, keyOks], by simp [depD, depDs]⟩
/-! ### some values -/
def tnS (i : Nat) : List Nat := if i = 0 then [] else if i < 10 then [97 + i] else [97 + i % 10, 97 + i / 10]
theorem run_tn' (n : Nat) (a : Dt) : runP tab gls (n + 1) c_text_number [a] = (exSs (Gm n) b_text_number [some (.d a), none] []).bind endD := rfl
def tnB : Sms := (.cons (.set 1 (.bin .add (.v 1) (.ix (.str s_abcdefgh_703a) (.bin .mod (.v 0) (.int 10)))))
    (.cons (.set 0 (.bin .fdiv (.v 0) (.int 10)))
    .nil))
theorem tn_at (j : Nat) (h : j < 10) : ixD (.str s_abcdefgh_703a) (.int j) = some (.str [97 + j]) := by
  have : ∀ j : Nat, j < 10 → ixL s_abcdefgh_703a (j : Int) = some (97 + j) := by decide
  simp [ixD, this j h]
theorem tn_step (n j : Nat) (s : List Nat) (hs : s.length ≤ 5) : exSs (Gm n) tnB [some (.d (.int j)), some (.d (.str s))] [] = .ok ((.nx, [some (.d (.int (j / 10 : Nat))), some (.d (.str (s ++ [97 + j % 10])))]), []) := by
  have h1 := tn_at (j % 10) (by omega)
  have e1 : (((j % 10 : Nat)) : Int) = (j : Int) % 10 := by omega
  have e2 : (((j / 10 : Nat)) : Int) = (j : Int) / 10 := by omega
  rw [e1] at h1
  have h2 : bopD .add (.str s) (.str [97 + j % 10]) = some (.str (s ++ [97 + j % 10])) := add_ss (by rw [lim16]; simp; omega)
  simp [tnB, mod_ii, fdiv_ii, h1, h2, e2]
theorem run_tn (n i : Nat) (h : i < 41) : runP tab gls (n + 1) c_text_number [.int i] = .ok (.str (tnS i)) := by
  rw [run_tn']
  have hW : exWhl (evT (Gm n) (.cmp .gt (.v 0) (.int 0))) (exSs (Gm n) tnB) turns [some (.d (.int i)), some (.d (.str []))] [] = .ok ((.nx, [some (.d (.int 0)), some (.d (.str (tnS i)))]), []) := by
    rw [turns_3]
    by_cases h0 : i = 0
    · subst h0
      rw [exWhl_stop (st' := []) (by simp)]
      rfl
    · rw [exWhl_go (st' := []) (by simp; omega) (tn_step n i [] (by simp))]
      by_cases h1 : i < 10
      · have e : i / 10 = 0 := by omega
        have e2 : i % 10 = i := by omega
        rw [e, exWhl_stop (st' := []) (by simp)]
        simp [tnS, h0, h1, e2]
      · rw [exWhl_go (st' := []) (by simp; omega) (tn_step n (i / 10) _ (by simp))]
        have e : i / 10 / 10 = 0 := by omega
        have e2 : i / 10 % 10 = i / 10 := by omega
        rw [e, exWhl_stop (st' := []) (by simp)]
        simp [tnS, h0, h1, e2]
  unfold tnB at hW
  simp [b_text_number, hW]
def dnD (i : Nat) : Dt := .tup [.int (1 + i / 336 : Nat), .int (1 + i / 28 % 12 : Nat), .int (1 + i % 28 : Nat)]
theorem run_dn' (n : Nat) (a : Dt) : runP tab gls (n + 1) c_day_number [a] = (exSs (Gm n) b_day_number [some (.d a)] []).bind endD := rfl
theorem run_dn (n i : Nat) : runP tab gls (n + 1) c_day_number [.int i] = .ok (dnD i) := by
  rw [run_dn']
  simp [b_day_number, fdiv_ii, mod_ii, dnD]
def numV (i : Int) : Dt := .tup [.str s_number_1f54, .int i]
def rgL (lo : Int) (n : Nat) : List Dt := (List.range n).map fun k : Nat => numV (lo + (k : Int))
/-- some values of a kind that is no list -/
def someP : Kd → Nat → List Dt
  | .pl s, m => if s = s_number_1f54 then rgL 0 m
    else if s = s_truth_2626 then [.tup [.str s_truth_2626, .bl false], .tup [.str s_truth_2626, .bl true]].take m
    else if s = s_text_a7c7 then (List.range m).map fun i => .tup [.str s_text_a7c7, .str (tnS i)]
    else (List.range m).map fun i => .tup [.str [100, 97, 121], dnD i]
  | .am vs, m => vs.take m
  | .rg lo hi, m => rgL lo (min (hi - lo + 1).toNat m)
  | .ls _ _, _ => []
theorem rangeL_map (lo : Int) : ∀ n : Nat, rangeL lo n = (List.range n).map fun k => .int (lo + k) := by
  intro n
  refine List.ext_getElem? fun i => ?_
  by_cases h : i < n
  · rw [List.getElem?_map, List.getElem?_range h, List.getElem?_eq_getElem (by rw [rangeL_len]; exact h)]
    have := (rangeL_at lo n i _ (List.getElem?_eq_getElem (by rw [rangeL_len]; exact h))).1
    rw [this]; rfl
  · rw [List.getElem?_eq_none (by rw [rangeL_len]; omega), List.getElem?_eq_none (by simp; omega)]
theorem run_some' (n : Nat) (a b : Dt) : runP tab gls (n + 1) c_some_values [a, b] = (exSs (Gm n) b_some_values [some (.d a), some (.d b), none] []).bind endD := rfl
theorem evI_rng2_ok {Γ : Gam} {ρ : Ev} {st st1 st2 : Sr} {a b : Ex} {i j : Int} (h1 : evE Γ a ρ st = .ok (.d (.int i), st1)) (h2 : evE Γ b ρ st1 = .ok (.d (.int j), st2)) (h3 : i < 1073741824 ∧ -1073741824 < i ∧ j < 1073741824 ∧ -1073741824 < j) : evI Γ (.rng2 a b) ρ st = .ok ((rangeL i (j - i).toNat, []), st2) := by
  have hr : itRng st2 i j = some ((rangeL i (j - i).toNat, []), st2) := itRng_ok h3
  rw [evI_rng2, h1, Rs.bind_ok]
  dsimp only
  rw [h2, Rs.bind_ok]
  revert hr
  generalize itRng = f
  intro hr
  dsimp only
  rw [bind_intW, bind_intW, hr, Rs.ofO_some]
/-- a comprehension over a range -/
theorem lc_rng {Γ : Gam} {ρ : Ev} {st : Sr} {elt : Ex} {i : Nat} {it : Itx} {lo : Int} {n : Nat} (g : Nat → Dt) (h1 : evI Γ it ρ st = .ok ((rangeL lo n, []), st)) (h2 : n ≤ 16777216) (h : ∀ k, k < n → evE Γ elt (ρ.set i (some (.d (.int (lo + k))))) st = .ok (.d (g k), st)) (hi : i < ρ.length) :
    evE Γ (.lc elt (.one i) it .nil) ρ st = .ok (.d (.lst ((List.range n).map g)), st) := by
  refine evE_lc_ok h1 ?_ (by simpa using h2)
  rw [rangeL_map]
  refine lcL_map' _ _ _ _ fun k hk => lcTurn_one (by simp) ?_
  exact h k (List.mem_range.mp hk)
theorem min_le {i j : Int} (h : i ≤ j) : b2D .min (.int i) (.int j) = some (.int i) := by
  rw [min_ii, if_neg (by omega)]
theorem min_gt {i j : Int} (h : j < i) : b2D .min (.int i) (.int j) = some (.int j) := by
  rw [min_ii, if_pos h]
theorem max_le {i j : Int} (h : j ≤ i) : b2D .max (.int i) (.int j) = some (.int i) := by
  rw [max_ii, if_neg (by omega)]
theorem max_gt {i j : Int} (h : i < j) : b2D .max (.int i) (.int j) = some (.int j) := by
  rw [max_ii, if_pos h]
theorem cmpS {Γ : Gam} {ρ : Ev} {st : Sr} {i : Nat} {s t : List Nat} {b : Bool} (h : ρ[i]? = some (some (.d (.str s)))) (e : decide (s = t) = b) : evE Γ (.cmp .eq (.v i) (.str t)) ρ st = .ok (.d (.bl b), st) :=
  evE_cmp_ok (st1 := st) (x := .str s) (y := .str t) (by rw [evE_v, h]; rfl) (by rw [evE_str]) (by rw [eq_ss, e])
theorem cmpT {Γ : Gam} {ρ : Ev} {st : Sr} {i : Nat} {xs : List Dt} {t : List Nat} (h : ρ[i]? = some (some (.d (.tup xs)))) : evE Γ (.cmp .eq (.v i) (.str t)) ρ st = .ok (.d (.bl false), st) :=
  evE_cmp_ok (st1 := st) (x := .tup xs) (y := .str t) (by rw [evE_v, h]; rfl) (by rw [evE_str]) (by simp [copD, depD, eqD])
/-- what stands at 0 -/
theorem cmp0 {Γ : Gam} {ρ : Ev} {st : Sr} {i : Nat} {xs : List Dt} {s t : List Nat} {b : Bool} (h : ρ[i]? = some (some (.d (.tup (.str s :: xs))))) (e : decide (s = t) = b) : evE Γ (.cmp .eq (.ix (.v i) (.int 0)) (.str t)) ρ st = .ok (.d (.bl b), st) :=
  evE_cmp_ok (st1 := st) (x := .str s) (y := .str t) (by rw [evE_ix, evE_v, h]; simp [ix0]) (by rw [evE_str]) (by rw [eq_ss, e])
theorem cmp0s {Γ : Gam} {ρ : Ev} {st : Sr} {i : Nat} {c : Nat} {s t : List Nat} (h : ρ[i]? = some (some (.d (.str (c :: s))))) (e : t.length ≠ 1) : evE Γ (.cmp .eq (.ix (.v i) (.int 0)) (.str t)) ρ st = .ok (.d (.bl false), st) := by
  have e2 : ¬ [c] = t := by rintro rfl; exact e rfl
  exact evE_cmp_ok (st1 := st) (x := .str [c]) (y := .str t) (by rw [evE_ix, evE_v, h]; simp [ixD, ixL, ixP]) (by rw [evE_str]) (by rw [eq_ss]; simp [e2])
theorem run_some_num (n m : Nat) (hm : m ≤ 41) : runP tab gls (n + 1) c_some_values [.str s_number_1f54, .int m] = .ok (.tup (rgL 0 m)) := by
  have h := @lc_rng (Gm n) [some (.d (.str s_number_1f54)), some (.d (.int m)), none] [] (.tup (.cons (.str s_number_1f54) (.cons (.v 2) .nil))) 2 (.rng1 (.b2 .min (.v 1) (.g 0))) 0 m (fun k : Nat => numV (0 + (k : Int))) (evI_rng_ok (m := m) (evE_b2_ok (st1 := []) (x := .int m) (y := .int 999999999) (by simp) (by rw [evE_g, gMost]; rfl) (min_le (by omega))) (by omega)) (by omega) (fun k hk => by simp [numV]) (by simp)
  rw [run_some']
  unfold b_some_values
  rw [exSs_rt ((exS_if_yes (cmpS (s := s_number_1f54) rfl (decide_eq_true rfl)) rfl).trans (exSs_rt (exS_ret_ok (evE_p1_ok h rfl))))] <;> rfl
theorem run_some_text (n m : Nat) (hm : m ≤ 41) : runP tab gls (n + 2) c_some_values [.str s_text_a7c7, .int m] = .ok (.tup ((List.range m).map fun i => .tup [.str s_text_a7c7, .str (tnS i)])) := by
  have h := @lc_rng (Gm (n + 1)) [some (.d (.str s_text_a7c7)), some (.d (.int m)), none] [] (.tup (.cons (.str s_text_a7c7) (.cons (.call c_text_number (.cons (.v 2) .nil)) .nil))) 2 (.rng1 (.v 1)) 0 m (fun i => .tup [.str s_text_a7c7, .str (tnS i)]) (evI_rng_ok (m := m) (by simp) (by omega)) (by omega) (fun k hk => by simp [run_tn n k (by omega)]) (by simp)
  rw [run_some']
  unfold b_some_values
  rw [exSs_nx (exS_if_no (cmpS (s := s_text_a7c7) (b := false) rfl (by decide)) rfl), exSs_nx (exS_if_no (cmpS (s := s_text_a7c7) (b := false) rfl (by decide)) rfl), exSs_rt ((exS_if_yes (cmpS (s := s_text_a7c7) rfl (decide_eq_true rfl)) rfl).trans (exSs_rt (exS_ret_ok (evE_p1_ok h rfl))))] <;> rfl
theorem run_some_day (n m : Nat) (hm : m ≤ 41) : runP tab gls (n + 2) c_some_values [.str [100, 97, 121], .int m] = .ok (.tup ((List.range m).map fun i => .tup [.str [100, 97, 121], dnD i])) := by
  have h := @lc_rng (Gm (n + 1)) [some (.d (.str [100, 97, 121])), some (.d (.int m)), none] [] (.tup (.cons (.str [100, 97, 121]) (.cons (.call c_day_number (.cons (.v 2) .nil)) .nil))) 2 (.rng1 (.b2 .min (.v 1) (.int 3359664))) 0 m (fun i => .tup [.str [100, 97, 121], dnD i]) (evI_rng_ok (m := m) (evE_b2_ok (st1 := []) (x := .int m) (y := .int 3359664) (by simp) (by rw [evE_int]) (min_le (by omega))) (by omega)) (by omega) (fun k hk => by simp [run_dn n k]) (by simp)
  rw [run_some']
  unfold b_some_values
  rw [exSs_nx (exS_if_no (cmpS (s := [100, 97, 121]) (b := false) rfl (by decide)) rfl), exSs_nx (exS_if_no (cmpS (s := [100, 97, 121]) (b := false) rfl (by decide)) rfl), exSs_nx (exS_if_no (cmpS (s := [100, 97, 121]) (b := false) rfl (by decide)) rfl), exSs_rt ((exS_if_yes (cmpS (s := [100, 97, 121]) rfl (decide_eq_true rfl)) rfl).trans (exSs_rt (exS_ret_ok (evE_p1_ok h rfl))))] <;> rfl
theorem run_some_truth (n m : Nat) : runP tab gls (n + 1) c_some_values [.str s_truth_2626, .int m] = .ok (.tup ([.tup [.str s_truth_2626, .bl false], .tup [.str s_truth_2626, .bl true]].take m)) := by
  rw [run_some']
  unfold b_some_values
  rw [exSs_nx (exS_if_no (cmpS (s := s_truth_2626) (b := false) rfl (by decide)) rfl), exSs_rt ((exS_if_yes (cmpS (s := s_truth_2626) rfl (decide_eq_true rfl)) rfl).trans (exSs_rt (exS_ret_ok (w := .d (.tup ([.tup [.str s_truth_2626, .bl false], .tup [.str s_truth_2626, .bl true]].take m))) (st1 := []) (by simp [cut_hi]))))] <;> rfl
theorem run_some_am (n m : Nat) (vs : List Dt) : runP tab gls (n + 1) c_some_values [(Kd.am vs).toD, .int m] = .ok (.tup (vs.take m)) := by
  rw [run_some']
  unfold b_some_values Kd.toD
  rw [exSs_nx (exS_if_no (cmpT rfl) rfl), exSs_nx (exS_if_no (cmpT rfl) rfl), exSs_nx (exS_if_no (cmpT rfl) rfl), exSs_nx (exS_if_no (cmpT rfl) rfl), exSs_rt ((exS_if_yes (cmp0 (s := s_among_b8f1) rfl (decide_eq_true rfl)) rfl).trans (exSs_rt (exS_ret_ok (w := .d (.tup (vs.take m))) (st1 := []) (by simp [cut_hi, ix1]))))] <;> rfl
theorem run_some_rg (n m : Nat) (lo hi : Int) (hm : m ≤ 41) (hm1 : 1 ≤ m) (h : lo ≤ hi ∧ -999999999 ≤ lo ∧ hi ≤ 999999999) : runP tab gls (n + 1) c_some_values [(Kd.rg lo hi).toD, .int m] = .ok (.tup (rgL lo (min (hi - lo + 1).toNat m))) := by
  have hE : ∃ j : Int, b2D .min (.int hi) (.int (lo + (m : Int) - 1)) = some (.int (j - 1)) ∧ (j - lo).toNat = min (hi - lo + 1).toNat m ∧ lo ≤ j ∧ j ≤ 1000000000 := by
    by_cases c : lo + (m : Int) - 1 < hi
    · exact ⟨lo + m, min_gt c, by omega, by omega, by omega⟩
    · exact ⟨hi + 1, by rw [min_le (by omega)]; congr 2; omega, by omega, by omega, by omega⟩
  obtain ⟨j, e1, e2, e3, e4⟩ := hE
  have hI := @evI_rng2_ok (Gm n) [some (.d (Kd.rg lo hi).toD), some (.d (.int m)), none] [] [] [] (.ix (.v 0) (.int 1)) (.bin .add (.b2 .min (.ix (.v 0) (.int 2)) (.bin .sub (.bin .add (.ix (.v 0) (.int 1)) (.v 1)) (.int 1))) (.int 1)) lo j (by simp [Kd.toD, ix1]) (evE_bin_ok (st1 := []) (x := .int (j - 1)) (y := .int 1) (evE_b2_ok (st1 := []) (x := .int hi) (by simp [Kd.toD, ix2]) (y := .int (lo + (m : Int) - 1)) (by simp [Kd.toD, ix1]) e1) (by rw [evE_int]) (by rw [add_ii]; congr 2; omega)) ⟨by omega, by omega, by omega, by omega⟩
  rw [e2] at hI
  have h := @lc_rng (Gm n) [some (.d (Kd.rg lo hi).toD), some (.d (.int m)), none] [] (.tup (.cons (.str s_number_1f54) (.cons (.v 2) .nil))) 2 _ lo (min (hi - lo + 1).toNat m) (fun k : Nat => numV (lo + (k : Int))) hI (by omega) (fun k hk => by simp [numV]) (by simp)
  rw [run_some']
  unfold b_some_values
  unfold Kd.toD at h ⊢
  rw [exSs_nx (exS_if_no (cmpT rfl) rfl), exSs_nx (exS_if_no (cmpT rfl) rfl), exSs_nx (exS_if_no (cmpT rfl) rfl), exSs_nx (exS_if_no (cmpT rfl) rfl), exSs_nx (exS_if_no (cmp0 (s := s_range_5a49) (b := false) rfl (by decide)) rfl), exSs_rt ((exS_if_yes (cmp0 (s := s_range_5a49) rfl (decide_eq_true rfl)) rfl).trans (exSs_rt (exS_ret_ok (evE_p1_ok h rfl))))] <;> rfl
def Good (d : Nat) (K : Kd) (v : Dt) : Prop := isValD d v = true ∧ ofK K v = true
theorem Kd.ok_am' {d : Nat} {vs : List Dt} (h : (Kd.am vs).ok d) : vs ≠ [] ∧ vs.length ≤ 6 ∧ (∀ v ∈ vs, isValD 0 v = true) ∧ depDs vs ≤ 64 := by cases d <;> exact h
theorem Kd.ok_rg' {d : Nat} {lo hi : Int} (h : (Kd.rg lo hi).ok d) : lo ≤ hi ∧ -999999999 ≤ lo ∧ hi ≤ 999999999 := by cases d <;> exact h
theorem Kd.ok_pl' {d : Nat} {s : List Nat} (h : (Kd.pl s).ok d) : s = s_number_1f54 ∨ s = s_truth_2626 ∨ s = s_text_a7c7 ∨ s = [100, 97, 121] := by
  have h : isPl s = true := by cases d <;> exact h
  simp only [isPl, Bool.or_eq_true, decide_eq_true_eq] at h
  rcases h with ((h | h) | h) | h
  · exact .inl h
  · exact .inr (.inl h)
  · exact .inr (.inr (.inl h))
  · exact .inr (.inr (.inr h))
theorem isVal_up0 {v : Dt} (h : isValD 0 v = true) : ∀ d, isValD d v = true
  | 0 => h
  | d + 1 => isVal_mono (isVal_up0 h d)
theorem eqD_refl0 : (∀ d : Dt, eqD d d = true) ∧ ∀ ds : List Dt, eqDs ds ds = true := by
  have h : ∀ d : Dt, eqD d d = true := by
    intro d
    induction d using Dt.rec (motive_2 := fun ds => eqDs ds ds = true) with
    | non => rfl
    | bl b => simp [eqD]
    | int i => simp
    | str s => simp
    | tup xs ih => simpa [eqD] using ih
    | lst xs ih => simpa [eqD] using ih
    | scr ns => simp [eqD]
    | nil => rfl
    | cons x xs h1 h2 => simp [eqDs, h1, h2]
  refine ⟨h, ?_⟩
  intro ds
  induction ds with
  | nil => rfl
  | cons x xs ih => simp [eqDs, h x, ih]
theorem tnS_len (i : Nat) : (tnS i).length ≤ 60 := by
  unfold tnS
  split
  · simp
  split <;> simp
theorem dn_day {i : Nat} (h : i < 41) : isDayD (dnD i) = true := by
  have a1 : i / 336 = 0 := by omega
  have a2 : i / 28 % 12 = i / 28 := by omega
  have a3 : i / 28 < 2 := by omega
  simp only [dnD, isDayD, isNumD, a1, a2]
  have : daysIn ((1 + 0 : Nat) : Int) ((1 + i / 28 : Nat) : Int) ≥ 28 := by
    have : i / 28 = 0 ∨ i / 28 = 1 := by omega
    rcases this with e | e <;> rw [e] <;> decide
  simp only [Bool.and_eq_true, decide_eq_true_eq]
  omega
theorem someP_good {d : Nat} {K : Kd} (hK : K.ok d) {m : Nat} (hm : m ≤ 41) : ∀ v ∈ someP K m, Good d K v := by
  cases K with
  | pl s =>
    rcases Kd.ok_pl' hK with rfl | rfl | rfl | rfl
    · intro v hv
      simp only [someP, rgL, if_true, List.mem_map, List.mem_range] at hv
      obtain ⟨k, hk, rfl⟩ := hv
      exact ⟨isVal_number _ (by omega) (by omega), by simp [ofK, fstS, numV]⟩
    · intro v hv
      rw [someP, if_neg (by decide), if_pos rfl] at hv
      have := List.mem_of_mem_take hv
      simp only [List.mem_cons, List.not_mem_nil, or_false] at this
      rcases this with rfl | rfl <;> exact ⟨isVal_truth _ _, by simp [ofK, fstS]⟩
    · intro v hv
      rw [someP, if_neg (by decide), if_neg (by decide), if_pos rfl] at hv
      obtain ⟨k, hk, rfl⟩ := List.mem_map.mp hv
      exact ⟨isVal_text _ (tnS_len k), by simp [ofK, fstS]⟩
    · intro v hv
      rw [someP, if_neg (by decide), if_neg (by decide), if_neg (by decide)] at hv
      obtain ⟨k, hk, rfl⟩ := List.mem_map.mp hv
      have := List.mem_range.mp hk
      exact ⟨isVal_day _ (dn_day (by omega)), by simp [ofK, fstS]⟩
  | am vs =>
    intro v hv
    have hv := List.mem_of_mem_take hv
    refine ⟨isVal_up0 ((Kd.ok_am' hK).2.2.1 v hv) d, ?_⟩
    simp only [ofK, List.any_eq_true]
    exact ⟨v, hv, eqD_refl0.1 v⟩
  | rg lo hi =>
    intro v hv
    simp only [someP, rgL, List.mem_map, List.mem_range] at hv
    obtain ⟨k, hk, rfl⟩ := hv
    have := Kd.ok_rg' hK
    refine ⟨isVal_number _ (by omega) (by omega), ?_⟩
    simp only [ofK, numV, decide_true, Bool.true_and, Bool.and_eq_true, decide_eq_true_eq]
    omega
  | ls k m => intro v hv; simp [someP] at hv
theorem someP_ne {d : Nat} {K : Kd} (hK : K.ok d) (hl : ∀ k m, K ≠ .ls k m) {m : Nat} (hm : 1 ≤ m) : someP K m ≠ [] := by
  have hr : ∀ n, 1 ≤ n → List.range n ≠ [] := fun n h => by cases n with | zero => omega | succ n => simp [List.range_succ]
  cases K with
  | pl s =>
    rcases Kd.ok_pl' hK with rfl | rfl | rfl | rfl
    · simp [someP, rgL]; omega
    · rw [someP, if_neg (by decide), if_pos rfl]
      cases m with
      | zero => omega
      | succ m => simp
    · rw [someP, if_neg (by decide), if_neg (by decide), if_pos rfl]
      simp; omega
    · rw [someP, if_neg (by decide), if_neg (by decide), if_neg (by decide)]
      simp; omega
  | am vs =>
    have := (Kd.ok_am' hK).1
    cases vs with
    | nil => exact absurd rfl this
    | cons v vs => cases m with
      | zero => omega
      | succ m => simp [someP]
  | rg lo hi =>
    have := Kd.ok_rg' hK
    simp [someP, rgL]; omega
  | ls k m => exact absurd rfl (hl k m)
theorem someP_len (K : Kd) (m : Nat) : (someP K m).length ≤ m := by
  cases K with
  | pl s =>
    rw [someP]
    split
    · simp [rgL]
    split
    · rw [List.length_take]; omega
    split <;> simp
  | am vs => simp only [someP, List.length_take]; omega
  | rg lo hi => simp only [someP, rgL, List.length_map, List.length_range]; omega
  | ls k m => simp [someP]
theorem run_someP (n m d : Nat) (K : Kd) (hK : K.ok d) (hl : ∀ k m, K ≠ .ls k m) (hm : m ≤ 41) (hm1 : 1 ≤ m) : runP tab gls (n + 2) c_some_values [K.toD, .int m] = .ok (.tup (someP K m)) := by
  cases K with
  | pl s =>
    rcases Kd.ok_pl' hK with rfl | rfl | rfl | rfl
    · exact run_some_num (n + 1) m hm
    · exact run_some_truth (n + 1) m
    · exact run_some_text n m hm
    · exact run_some_day n m hm
  | am vs => exact run_some_am (n + 1) m vs
  | rg lo hi => exact run_some_rg (n + 1) m lo hi hm hm1 (Kd.ok_rg' hK)
  | ls k m => exact absurd rfl (hl k m)
/-! ### some lists -/
def GoodT (d : Nat) (K : Kd) (j : Nat) (x : Dt) : Prop := ∃ ys, x = .tup ys ∧ ys.length ≤ j ∧ ∀ y ∈ ys, Good d K y
theorem GoodT.up {d : Nat} {K : Kd} {j : Nat} {x : Dt} (h : GoodT d K j x) : GoodT d K (j + 1) x := by
  obtain ⟨ys, a, b, c⟩ := h
  exact ⟨ys, a, by omega, c⟩
theorem run_sl' (n : Nat) (a b c : Dt) : runP tab gls (n + 1) c_some_lists [a, b, c] = (exSs (Gm n) b_some_lists [some (.d a), some (.d b), some (.d c), none, none, none, none, none, none, none] []).bind endD := rfl
def slIn : Sms := (.cons (.set 7 (.bin .add (.v 7) (.lc (.bin .add (.v 8) (.tup (.cons (.v 9) .nil))) (.one 9) (.seq (.sl (.v 3) .no (.yes (.v 2)))) .nil)))
    (.cons (.ife (.cmp .ge (.bin .add (.p1 .len (.v 4)) (.p1 .len (.v 7))) (.v 2)) (.cons .brk
    .nil) .nil)
    .nil))
def slOut : Sms := (.cons (.set 7 (.lst .nil))
    (.cons (.forS (.one 8) (.seq (.v 5)) slIn)
    (.cons (.set 4 (.bin .add (.v 4) (.v 7)))
    (.cons (.set 5 (.v 7))
    .nil))))
theorem sl_in (n d : Nat) (K : Kd) (many j : Nat) (hm : many ≤ 41) (hj : j ≤ 6) (inner found last : List Dt) (hin : ∀ v ∈ inner, Good d K v) (hf : found.length ≤ 1000) (hl : ∀ x ∈ last, GoodT d K j x) (x0 x1 x5 x6 x8 x9 : Option Wv) :
    ∃ more y8 y9, exFor (exSs (Gm n) slIn) (.one 8) [] last [x0, x1, some (.d (.int many)), some (.d (.tup inner)), some (.d (.lst found)), x5, x6, some (.d (.lst [])), x8, x9] [] =
      .ok ((.nx, [x0, x1, some (.d (.int many)), some (.d (.tup inner)), some (.d (.lst found)), x5, x6, some (.d (.lst more)), y8, y9]), []) ∧ more.length ≤ 82 ∧ ∀ x ∈ more, GoodT d K (j + 1) x := by
  obtain ⟨ρ', h1, more, y8, y9, rfl, h2, h3⟩ := @exFor_invB (exSs (Gm n) slIn) (.one 8) []
    (fun ρ => ∃ more y8 y9, ρ = [x0, x1, some (.d (.int many)), some (.d (.tup inner)), some (.d (.lst found)), x5, x6, some (.d (.lst more)), y8, y9] ∧ more.length ≤ 41 ∧ ∀ x ∈ more, GoodT d K (j + 1) x)
    (fun ρ => ∃ more y8 y9, ρ = [x0, x1, some (.d (.int many)), some (.d (.tup inner)), some (.d (.lst found)), x5, x6, some (.d (.lst more)), y8, y9] ∧ more.length ≤ 82 ∧ ∀ x ∈ more, GoodT d K (j + 1) x)
    (fun ρ ⟨more, y8, y9, a, b, c⟩ => ⟨more, y8, y9, a, by omega, c⟩) last _ ⟨[], x8, x9, rfl, by simp, by simp⟩ (by
    rintro x hx ρ ⟨more, y8, y9, rfl, a2, a3⟩
    obtain ⟨ys, rfl, b2, b3⟩ := hl x hx
    generalize hρ : [x0, x1, some (.d (.int many)), some (.d (.tup inner)), some (.d (.lst found)), x5, x6, some (.d (.lst more)), some (.d (.tup ys)), y9] = ρ0
    have hlc : evE (Gm n) (.lc (.bin .add (.v 8) (.tup (.cons (.v 9) .nil))) (.one 9) (.seq (.sl (.v 3) .no (.yes (.v 2)))) .nil) ρ0 [] = .ok (.d (.lst ((inner.take many).map fun v => .tup (ys ++ [v]))), []) := by
      refine evE_lc_ok (xs := inner.take many) (by rw [← hρ]; simp [cut_hi]) ?_ (by simp; omega)
      have := @lcL_map' [] _ (lcTurn (evIfs (Gm n) .nil) (evE (Gm n) (.bin .add (.v 8) (.tup (.cons (.v 9) .nil)))) (.one 9) ρ0) id (fun v => .tup (ys ++ [v])) (inner.take many) (fun v hv => by
        refine lcTurn_one (by simp) ?_
        have hadd : bopD .add (.tup ys) (.tup [v]) = some (.tup (ys ++ [v])) := add_tt (by rw [lim16]; simp; omega)
        rw [← hρ]
        simp [hadd])
      simpa using this
    have hadd : bopD .add (.lst more) (.lst ((inner.take many).map fun v => .tup (ys ++ [v]))) = some (.lst (more ++ (inner.take many).map fun v => .tup (ys ++ [v]))) := add_ll (by rw [lim16]; simp; omega)
    have hM : ∀ x ∈ more ++ (inner.take many).map (fun v => Dt.tup (ys ++ [v])), GoodT d K (j + 1) x := by
      intro x hx
      rcases List.mem_append.mp hx with hx | hx
      · exact a3 x hx
      · obtain ⟨v, hv, rfl⟩ := List.mem_map.mp hx
        refine ⟨_, rfl, by simp; omega, ?_⟩
        intro y hy
        rcases List.mem_append.mp hy with hy | hy
        · exact b3 y hy
        · rw [List.mem_singleton.mp hy]; exact hin v (List.mem_of_mem_take hv)
    have hL : (more ++ (inner.take many).map (fun v => Dt.tup (ys ++ [v]))).length ≤ more.length + many := by simp; omega
    have hset : setTg (.one 8) (.tup ys) [x0, x1, some (.d (.int many)), some (.d (.tup inner)), some (.d (.lst found)), x5, x6, some (.d (.lst more)), y8, y9] = some ρ0 := by rw [← hρ]; rfl
    have E1 : exS (Gm n) (.set 7 (.bin .add (.v 7) (.lc (.bin .add (.v 8) (.tup (.cons (.v 9) .nil))) (.one 9) (.seq (.sl (.v 3) .no (.yes (.v 2)))) .nil))) ρ0 [] = .ok ((.nx, ρ0.set 7 (some (.d (.lst (more ++ (inner.take many).map fun v => .tup (ys ++ [v])))))), []) :=
      exS_set_ok (evE_bin_ok (st1 := []) (x := .lst more) (by rw [← hρ]; simp) hlc hadd)
    generalize more ++ (inner.take many).map (fun v => Dt.tup (ys ++ [v])) = M at *
    have hρ1 : ρ0.set 7 (some (.d (.lst M))) = [x0, x1, some (.d (.int many)), some (.d (.tup inner)), some (.d (.lst found)), x5, x6, some (.d (.lst M)), some (.d (.tup ys)), y9] := by rw [← hρ]; rfl
    rw [hρ1] at E1
    refine ⟨ρ0, [x0, x1, some (.d (.int many)), some (.d (.tup inner)), some (.d (.lst found)), x5, x6, some (.d (.lst M)), some (.d (.tup ys)), y9], hset, ?_⟩
    have hC : evE (Gm n) (.cmp .ge (.bin .add (.p1 .len (.v 4)) (.p1 .len (.v 7))) (.v 2)) [x0, x1, some (.d (.int many)), some (.d (.tup inner)), some (.d (.lst found)), x5, x6, some (.d (.lst M)), some (.d (.tup ys)), y9] [] = .ok (.d (.bl (decide ((many : Int) ≤ (found.length : Int) + M.length))), []) := by simp
    by_cases c : (many : Int) ≤ (found.length : Int) + M.length
    · right
      refine ⟨?_, M, _, _, rfl, by omega, hM⟩
      unfold slIn
      rw [exSs_nx E1, exSs_cons, exS_if_yes hC (by simp [c])]
      simp
    · left
      refine ⟨?_, M, _, _, rfl, by omega, hM⟩
      unfold slIn
      rw [exSs_nx E1, exSs_nx (exS_if_no hC (by simp [c]))]
      simp)
  exact ⟨more, y8, y9, h1, h2, h3⟩
theorem sl_out (n d : Nat) (K : Kd) (many most : Nat) (hm : many ≤ 41) (hmo : most ≤ 6) (inner : List Dt) (hin : ∀ v ∈ inner, Good d K v) (x0 x1 : Option Wv) :
    ∃ found last y6 y7 y8 y9, exFor (exSs (Gm n) slOut) (.one 6) [] (rangeL 0 most) [x0, x1, some (.d (.int many)), some (.d (.tup inner)), some (.d (.lst [.tup []])), some (.d (.lst [.tup []])), none, none, none, none] [] =
      .ok ((.nx, [x0, x1, some (.d (.int many)), some (.d (.tup inner)), some (.d (.lst (.tup [] :: found))), some (.d (.lst last)), y6, y7, y8, y9]), []) ∧ found.length ≤ 492 ∧ ∀ x ∈ found, GoodT d K most x := by
  obtain ⟨ρ', h1, found, last, y6, y7, y8, y9, rfl, h2, h3, h4⟩ := @exFor_inv [] (exSs (Gm n) slOut) (.one 6)
    (fun j ρ => ∃ found last y6 y7 y8 y9, ρ = [x0, x1, some (.d (.int many)), some (.d (.tup inner)), some (.d (.lst (.tup [] :: found))), some (.d (.lst last)), y6, y7, y8, y9] ∧ found.length ≤ 82 * j ∧ (∀ x ∈ found, GoodT d K j x) ∧ ∀ x ∈ last, GoodT d K j x)
    (rangeL 0 most) 0 _ ⟨[], [.tup []], none, none, none, none, rfl, by simp, by simp, fun x hx => ⟨[], List.mem_singleton.mp hx, by simp, by simp⟩⟩ (by
    rintro j x ρ hj ⟨found, last, y6, y7, y8, y9, rfl, a1, a2, a3⟩
    rw [Nat.zero_add] at a1 a2 a3
    obtain ⟨rfl, hj2⟩ := range0_at hj
    obtain ⟨more, z8, z9, b1, b2, b3⟩ := sl_in n d K many j hm (by omega) inner (.tup [] :: found) last hin (by simp; omega) a3 x0 x1 (some (.d (.lst last))) (some (.d (.int j))) y8 y9
    have hadd : bopD .add (.lst (.tup [] :: found)) (.lst more) = some (.lst (.tup [] :: (found ++ more))) := by rw [add_ll (by rw [lim16]; simp; omega)]; rfl
    refine ⟨_, [x0, x1, some (.d (.int many)), some (.d (.tup inner)), some (.d (.lst (.tup [] :: (found ++ more)))), some (.d (.lst more)), some (.d (.int j)), some (.d (.lst more)), z8, z9], rfl, ?_, found ++ more, more, _, _, _, _, rfl, by simp; omega, ?_, by rw [Nat.zero_add]; exact b3⟩
    · have F := exS_for_ok (Γ := Gm n) (tg := .one 8) (it := .seq (.v 5)) (b := slIn) (st := []) (xs := last) (by simp) b1
      unfold slOut
      rw [exSs_nx (ρ1 := [x0, x1, some (.d (.int many)), some (.d (.tup inner)), some (.d (.lst (.tup [] :: found))), some (.d (.lst last)), some (.d (.int j)), some (.d (.lst [])), y8, y9]) (st1 := []) (by simp), exSs_nx F]
      simp [hadd]
    · intro x hx
      rw [Nat.zero_add]
      rcases List.mem_append.mp hx with hx | hx
      · exact (a2 x hx).up
      · exact b3 x hx)
  rw [rangeL_len, Nat.zero_add] at h2 h3
  exact ⟨found, last, y6, y7, y8, y9, h1, by omega, h3⟩
theorem run_some_lists (n d : Nat) (K : Kd) (many most : Nat) (hm : many ≤ 41) (hm1 : 1 ≤ many) (hmo : most ≤ 6) (inner : List Dt) (hr : runP tab gls n c_some_values [K.toD, .int many] = .ok (.tup inner)) (hin : ∀ v ∈ inner, Good d K v) :
    ∃ vs, runP tab gls (n + 1) c_some_lists [K.toD, .int most, .int many] = .ok (.tup vs) ∧ vs.length ≤ many ∧ (∀ v ∈ vs, Good (d + 1) (.ls K most) v) ∧ .tup [.str s_list_f818, .tup []] ∈ vs := by
  obtain ⟨found, last, y6, y7, y8, y9, h1, h2, h3⟩ := sl_out n d K many most hm hmo inner hin (some (.d K.toD)) (some (.d (.int most)))
  have F := exS_for_ok (Γ := Gm n) (tg := .one 6) (it := .rng1 (.v 1)) (b := slOut) (st := []) (xs := rangeL 0 most) (evI_rng_ok (m := most) (by simp) (by omega)) h1
  have hlc : evE (Gm n) (.lc (.tup (.cons (.str s_list_f818) (.cons (.v 8) .nil))) (.one 8) (.seq (.sl (.v 4) .no (.yes (.v 2)))) .nil) [some (.d K.toD), some (.d (.int most)), some (.d (.int many)), some (.d (.tup inner)), some (.d (.lst (.tup [] :: found))), some (.d (.lst last)), y6, y7, y8, y9] [] = .ok (.d (.lst (((Dt.tup [] :: found).take many).map fun v => .tup [.str s_list_f818, v])), []) := by
    refine evE_lc_ok (xs := (Dt.tup [] :: found).take many) (by simp [cut_hi]) ?_ (by simp; omega)
    have := @lcL_map' [] _ (lcTurn (evIfs (Gm n) .nil) (evE (Gm n) (.tup (.cons (.str s_list_f818) (.cons (.v 8) .nil)))) (.one 8) [some (.d K.toD), some (.d (.int most)), some (.d (.int many)), some (.d (.tup inner)), some (.d (.lst (.tup [] :: found))), some (.d (.lst last)), y6, y7, y8, y9]) id (fun v => .tup [.str s_list_f818, v]) ((Dt.tup [] :: found).take many) (fun v hv => by
      refine lcTurn_one (by simp) ?_
      simp)
    simpa using this
  refine ⟨((Dt.tup [] :: found).take many).map fun v => .tup [.str s_list_f818, v], ?_, by simp; omega, ?_, ?_⟩
  · rw [run_sl']
    unfold b_some_lists
    unfold slOut slIn at F
    rw [exSs_nx (exS_set_ok (w := .d (.tup inner)) (st1 := []) (by simp [hr])), exSs_nx (exS_set_ok (w := .d (.lst [.tup []])) (st1 := []) (by simp)), exSs_nx (exS_set_ok (w := .d (.lst [.tup []])) (st1 := []) (by simp))]
    dsimp only [List.set]
    rw [exSs_nx F, exSs_rt (exS_ret_ok (evE_p1_ok hlc rfl))] <;> rfl
  · intro v hv
    obtain ⟨x, hx, rfl⟩ := List.mem_map.mp hv
    have hx := List.mem_of_mem_take hx
    have hg : GoodT d K most x := by
      rcases List.mem_cons.mp hx with rfl | hx
      · exact ⟨[], rfl, by simp, by simp⟩
      · exact h3 x hx
    obtain ⟨ys, rfl, a1, a2⟩ := hg
    refine ⟨isVal_list (by omega) fun y hy => (a2 y hy).1, ?_⟩
    simp only [ofK, decide_true, Bool.true_and, Bool.and_eq_true, decide_eq_true_eq, List.all_eq_true]
    exact ⟨a1, fun y hy => (a2 y hy).2⟩
  · cases many with
    | zero => omega
    | succ many => simp
theorem run_some : ∀ (d n m : Nat) (K : Kd), K.ok d → m ≤ 41 → 1 ≤ m → ∃ vs, runP tab gls (n + 2 * d + 2) c_some_values [K.toD, .int m] = .ok (.tup vs) ∧ vs.length ≤ m ∧ vs ≠ [] ∧ (∀ v ∈ vs, Good d K v) ∧ ((∃ k j, K = .ls k j) → .tup [.str s_list_f818, .tup []] ∈ vs) ∧ ((∀ k j, K ≠ .ls k j) → vs = someP K m) := by
  intro d n m K
  induction K generalizing d n with
  | ls K mo ih =>
    intro hK hm hm1
    cases d with
    | zero => exact hK.elim
    | succ d =>
    obtain ⟨inner, r1, _, _, r2, _⟩ := ih d n hK.1 hm hm1
    obtain ⟨vs, v1, v2, v3, v4⟩ := run_some_lists (n + 2 * d + 2) d K m mo hm hm1 hK.2 inner r1 r2
    refine ⟨vs, ?_, v2, by rintro rfl; simp at v4, v3, fun _ => v4, fun h => absurd rfl (h K mo)⟩
    rw [show n + 2 * (d + 1) + 2 = n + 2 * d + 2 + 1 + 1 by omega, run_some']
    unfold b_some_values Kd.toD
    rw [exSs_nx (exS_if_no (cmpT rfl) rfl), exSs_nx (exS_if_no (cmpT rfl) rfl), exSs_nx (exS_if_no (cmpT rfl) rfl), exSs_nx (exS_if_no (cmpT rfl) rfl), exSs_nx (exS_if_no (cmp0 (s := s_list_f818) (b := false) rfl (by decide)) rfl), exSs_nx (exS_if_no (cmp0 (s := s_list_f818) (b := false) rfl (by decide)) rfl), exSs_rt (exS_ret_ok (w := .d (.tup vs)) (st1 := []) (by simp [ix1, ix2, v1]))] <;> rfl
  | pl s =>
    intro hK hm hm1
    have hl : ∀ k j, Kd.pl s ≠ .ls k j := by intro k j h; cases h
    exact ⟨_, by rw [run_someP (n + 2 * d) m d _ hK hl hm hm1], someP_len _ _, someP_ne hK hl hm1, someP_good hK hm, fun ⟨k, j, e⟩ => absurd e (hl k j), fun _ => rfl⟩
  | rg lo hi =>
    intro hK hm hm1
    have hl : ∀ k j, Kd.rg lo hi ≠ .ls k j := by intro k j h; cases h
    exact ⟨_, by rw [run_someP (n + 2 * d) m d _ hK hl hm hm1], someP_len _ _, someP_ne hK hl hm1, someP_good hK hm, fun ⟨k, j, e⟩ => absurd e (hl k j), fun _ => rfl⟩
  | am vs =>
    intro hK hm hm1
    have hl : ∀ k j, Kd.am vs ≠ .ls k j := by intro k j h; cases h
    exact ⟨_, by rw [run_someP (n + 2 * d) m d _ hK hl hm hm1], someP_len _ _, someP_ne hK hl hm1, someP_good hK hm, fun ⟨k, j, e⟩ => absurd e (hl k j), fun _ => rfl⟩
/-! ### some lists, exactly -/
abbrev tps (L : List (List Dt)) : List Dt := L.map Dt.tup
def moreL (f many : Nat) (inner : List Dt) : List (List Dt) → List (List Dt) → List (List Dt)
  | [], m => m
  | ys :: r, m => if many ≤ f + (m ++ inner.map fun v => ys ++ [v]).length then m ++ inner.map fun v => ys ++ [v] else moreL f many inner r (m ++ inner.map fun v => ys ++ [v])
def slEnv (x0 x1 : Option Wv) (many : Nat) (inner : List Dt) (found : List (List Dt)) (x5 x6 x7 x8 x9 : Option Wv) : Ev := [x0, x1, some (.d (.int many)), some (.d (.tup inner)), some (.d (.lst (tps found))), x5, x6, x7, x8, x9]
theorem sl_step (n many : Nat) (inner : List Dt) (found m : List (List Dt)) (ys : List Dt) (x0 x1 x5 x6 x9 : Option Wv) (hi : inner.length ≤ many) (hs : ys.length ≤ 100) (hm : m.length ≤ 1000) (h41 : many ≤ 41) :
    exSs (Gm n) slIn (slEnv x0 x1 many inner found x5 x6 (some (.d (.lst (tps m)))) (some (.d (.tup ys))) x9) [] =
      .ok ((if many ≤ found.length + (m ++ inner.map fun v => ys ++ [v]).length then .bk else .nx, slEnv x0 x1 many inner found x5 x6 (some (.d (.lst (tps (m ++ inner.map fun v => ys ++ [v]))))) (some (.d (.tup ys))) x9), []) := by
  have hlc : evE (Gm n) (.lc (.bin .add (.v 8) (.tup (.cons (.v 9) .nil))) (.one 9) (.seq (.sl (.v 3) .no (.yes (.v 2)))) .nil) (slEnv x0 x1 many inner found x5 x6 (some (.d (.lst (tps m)))) (some (.d (.tup ys))) x9) [] = .ok (.d (.lst (inner.map fun v => .tup (ys ++ [v]))), []) := by
    refine evE_lc_ok (xs := inner) (by simp [slEnv, cut_hi, List.take_of_length_le hi]) ?_ (by simp; omega)
    have := @lcL_map' [] _ (lcTurn (evIfs (Gm n) .nil) (evE (Gm n) (.bin .add (.v 8) (.tup (.cons (.v 9) .nil)))) (.one 9) (slEnv x0 x1 many inner found x5 x6 (some (.d (.lst (tps m)))) (some (.d (.tup ys))) x9)) id (fun v => .tup (ys ++ [v])) inner (fun v hv => by
      refine lcTurn_one (by simp) ?_
      have hadd : bopD .add (.tup ys) (.tup [v]) = some (.tup (ys ++ [v])) := add_tt (by rw [lim16]; simp; omega)
      simp [slEnv, hadd])
    simpa using this
  have et : tps (m ++ inner.map fun v => ys ++ [v]) = tps m ++ inner.map fun v => Dt.tup (ys ++ [v]) := by simp [tps]
  have hadd : bopD .add (.lst (tps m)) (.lst (inner.map fun v => .tup (ys ++ [v]))) = some (.lst (tps (m ++ inner.map fun v => ys ++ [v]))) := by
    rw [et]
    exact add_ll (by rw [lim16]; simp; omega)
  generalize hM : (m ++ inner.map fun v => ys ++ [v]) = M at hadd ⊢
  unfold slIn
  rw [exSs_nx (ρ1 := slEnv x0 x1 many inner found x5 x6 (some (.d (.lst (tps M)))) (some (.d (.tup ys))) x9) (exS_set_ok (evE_bin_ok (st1 := []) (x := .lst (tps m)) (by simp [slEnv]) hlc hadd))]
  have hC : evE (Gm n) (.cmp .ge (.bin .add (.p1 .len (.v 4)) (.p1 .len (.v 7))) (.v 2)) (slEnv x0 x1 many inner found x5 x6 (some (.d (.lst (tps M)))) (some (.d (.tup ys))) x9) [] = .ok (.d (.bl (decide ((many : Int) ≤ (found.length : Int) + M.length))), []) := by simp [slEnv, tps]
  by_cases c : many ≤ found.length + M.length
  · have c' : (many : Int) ≤ (found.length : Int) + M.length := by omega
    rw [exSs_cons, exS_if_yes hC (by simp [c'])]
    simp [c]
  · have c' : ¬ (many : Int) ≤ (found.length : Int) + M.length := by omega
    rw [exSs_nx (exS_if_no hC (by simp [c']))]
    simp [c]
theorem sl_loop (n many : Nat) (inner : List Dt) (found : List (List Dt)) (x0 x1 x5 x6 : Option Wv) (hi : inner.length ≤ many) (h41 : many ≤ 41) : ∀ (last m : List (List Dt)) (x8 x9 : Option Wv), (∀ ys ∈ last, ys.length ≤ 100) → m.length ≤ 41 →
    ∃ y8, exFor (exSs (Gm n) slIn) (.one 8) [] (tps last) (slEnv x0 x1 many inner found x5 x6 (some (.d (.lst (tps m)))) x8 x9) [] = .ok ((.nx, slEnv x0 x1 many inner found x5 x6 (some (.d (.lst (tps (moreL found.length many inner last m))))) y8 x9), []) := by
  intro last
  induction last with
  | nil => intro m x8 x9 _ _; exact ⟨x8, rfl⟩
  | cons ys r ih =>
    intro m x8 x9 hl hm
    have st := sl_step n many inner found m ys x0 x1 x5 x6 x9 hi (hl ys List.mem_cons_self) (by omega) h41
    have hset : setTg (.one 8) (.tup ys) (slEnv x0 x1 many inner found x5 x6 (some (.d (.lst (tps m)))) x8 x9) = some (slEnv x0 x1 many inner found x5 x6 (some (.d (.lst (tps m)))) (some (.d (.tup ys))) x9) := rfl
    by_cases c : many ≤ found.length + (m ++ inner.map fun v => ys ++ [v]).length
    · rw [if_pos c] at st
      refine ⟨some (.d (.tup ys)), ?_⟩
      show exFor _ _ _ (.tup ys :: tps r) _ _ = _
      rw [exFor, hset]
      dsimp only
      rw [st]
      simp only [Rs.bind_ok, moreL, if_pos c]
    · rw [if_neg c] at st
      obtain ⟨y8, e⟩ := ih (m ++ inner.map fun v => ys ++ [v]) (some (.d (.tup ys))) x9 (fun z hz => hl z (List.mem_cons_of_mem _ hz)) (by omega)
      refine ⟨y8, ?_⟩
      show exFor _ _ _ (.tup ys :: tps r) _ _ = _
      rw [exFor, hset]
      dsimp only
      rw [st]
      simp only [Rs.bind_ok, moreL, if_neg c]
      rw [if_pos (by rfl)]
      exact e
/-- the rounds: all lists found, and those of the last round -/
def roundL (many : Nat) (inner : List Dt) (p : List (List Dt) × List (List Dt)) : List (List Dt) × List (List Dt) := (p.1 ++ moreL p.1.length many inner p.2 [], moreL p.1.length many inner p.2 [])
def roundsL (many : Nat) (inner : List Dt) : Nat → List (List Dt) × List (List Dt)
  | 0 => ([[]], [[]])
  | j + 1 => roundL many inner (roundsL many inner j)
/-- what a round's loop gives: a beginning of all, all of it or enough -/
theorem moreL_spec (f many : Nat) (inner : List Dt) : ∀ (r m : List (List Dt)), ∃ t, (m ++ r.flatMap fun ys => inner.map fun v => ys ++ [v]) = moreL f many inner r m ++ t ∧ (t = [] ∨ many ≤ f + (moreL f many inner r m).length) ∧ (m.length ≤ many → (moreL f many inner r m).length ≤ many + inner.length)
  | [], m => ⟨[], by simp [moreL], .inl rfl, fun h => by simp [moreL]; omega⟩
  | ys :: r, m => by
    by_cases c : many ≤ f + (m ++ inner.map fun v => ys ++ [v]).length
    · refine ⟨r.flatMap fun ys => inner.map fun v => ys ++ [v], ?_, .inr ?_, fun h => ?_⟩
      · rw [moreL, if_pos c, List.flatMap_cons, List.append_assoc]
      · rw [moreL, if_pos c]; exact c
      · rw [moreL, if_pos c]; simp; omega
    · obtain ⟨t, e1, e2, e3⟩ := moreL_spec f many inner r (m ++ inner.map fun v => ys ++ [v])
      refine ⟨t, ?_, ?_, fun h => ?_⟩
      · rw [moreL, if_neg c, List.flatMap_cons, ← List.append_assoc]; exact e1
      · rw [moreL, if_neg c]; exact e2
      · rw [moreL, if_neg c]; exact e3 (by omega)
/-- the law's count -/
def cnt (c m : Nat) : Nat → Nat × Nat
  | 0 => (0, 1)
  | i + 1 => ((cnt c m i).1 + (cnt c m i).2, min ((cnt c m i).2 * c) m)
abbrev unT (L : List (List Dt)) : Prop := L.Pairwise fun x y => eqDs x y = false
theorem eqDs_len : ∀ {xs ys : List Dt}, eqDs xs ys = true → xs.length = ys.length
  | [], [], _ => rfl
  | [], _ :: _, h => by simp [eqDs] at h
  | _ :: _, [], h => by simp [eqDs] at h
  | x :: xs, y :: ys, h => by
    simp only [eqDs, Bool.and_eq_true] at h
    simp [eqDs_len h.2]
theorem eqDs_snoc : ∀ {xs ys : List Dt} {v w : Dt}, xs.length = ys.length → eqDs (xs ++ [v]) (ys ++ [w]) = (eqDs xs ys && eqD v w)
  | [], [], v, w, _ => by simp [eqDs]
  | x :: xs, y :: ys, v, w, h => by
    simp only [List.cons_append, eqDs, eqDs_snoc (xs := xs) (ys := ys) (by simpa using h), Bool.and_assoc]
structure RoundOk (many : Nat) (inner : List Dt) (j : Nat) (p : List (List Dt) × List (List Dt)) : Prop where
  f1 : ∀ ys ∈ p.1, ys.length ≤ j ∧ ∀ y ∈ ys, y ∈ inner
  l1 : ∀ ys ∈ p.2, ys.length = j ∧ ∀ y ∈ ys, y ∈ inner
  fu : unT p.1
  lu : unT p.2
  fl : p.1.length ≤ 1 + 82 * j
  cn : (p.1.length < many ∧ p.1.length = (cnt inner.length many (j + 1)).1 ∧ p.2.length = (cnt inner.length many j).2) ∨ (many ≤ p.1.length ∧ many ≤ (cnt inner.length many (j + 1)).1)
theorem full_len (inner : List Dt) : ∀ L : List (List Dt), (L.flatMap fun ys => inner.map fun v => ys ++ [v]).length = L.length * inner.length
  | [] => by simp
  | ys :: r => by
    rw [List.flatMap_cons, List.length_append, List.length_map, full_len inner r, List.length_cons, Nat.add_mul, Nat.one_mul, Nat.add_comm]
theorem round_ok {many : Nat} {inner : List Dt} (hi : inner.length ≤ many) (h41 : many ≤ 41) (hm1 : 1 ≤ many) (un : uniqD inner) : ∀ j, RoundOk many inner j (roundsL many inner j)
  | 0 => ⟨by simp [roundsL], by simp [roundsL], List.pairwise_singleton _ _, List.pairwise_singleton _ _, by simp [roundsL], by
      by_cases c : 1 < many
      · exact .inl ⟨by simpa [roundsL] using c, by simp [roundsL, cnt], by simp [roundsL, cnt]⟩
      · exact .inr ⟨by simp [roundsL]; omega, by simp [cnt]; omega⟩⟩
  | j + 1 => by
    have R := round_ok hi h41 hm1 un j
    show RoundOk many inner (j + 1) (roundL many inner (roundsL many inner j))
    generalize roundsL many inner j = p at R
    obtain ⟨F, L⟩ := p
    obtain ⟨f1, l1, fu, lu, fl, cn⟩ := R
    dsimp only at f1 l1 fu lu fl cn
    obtain ⟨t, e1, e2, e3⟩ := moreL_spec F.length many inner L []
    rw [List.nil_append] at e1
    have e3 := e3 (by simp)
    have full : unT (L.flatMap fun ys => inner.map fun v => ys ++ [v]) := by
      unfold unT
      rw [List.pairwise_flatMap]
      refine ⟨fun ys hy => ?_, ?_⟩
      · rw [List.pairwise_map]
        refine List.Pairwise.imp (fun {a b} h => ?_) un
        rw [eqDs_snoc rfl, h, Bool.and_false]
      · refine List.Pairwise.imp_of_mem (fun {a b} ha hb h x hx y hy => ?_) lu
        obtain ⟨v, _, rfl⟩ := List.mem_map.mp hx
        obtain ⟨w, _, rfl⟩ := List.mem_map.mp hy
        rw [eqDs_snoc (by rw [(l1 a ha).1, (l1 b hb).1]), h, Bool.false_and]
    have fl2 := full_len inner L
    have mem : ∀ ys ∈ moreL F.length many inner L [], ys.length = j + 1 ∧ ∀ y ∈ ys, y ∈ inner := by
      intro ys hy
      have h : ys ∈ L.flatMap fun ys => inner.map fun v => ys ++ [v] := by rw [e1]; exact List.mem_append_left _ hy
      obtain ⟨zs, hz, hy⟩ := List.mem_flatMap.mp h
      obtain ⟨v, hv, rfl⟩ := List.mem_map.mp hy
      refine ⟨by simp [(l1 zs hz).1], fun y hy => ?_⟩
      rcases List.mem_append.mp hy with hy | hy
      · exact (l1 zs hz).2 y hy
      · rw [List.mem_singleton.mp hy]; exact hv
    rw [e1] at full fl2
    rw [List.length_append] at fl2
    generalize hM : moreL F.length many inner L [] = M at *
    have mu : unT M := (List.pairwise_append.mp full).1
    have er : roundL many inner (F, L) = (F ++ M, M) := by simp only [roundL, hM]
    rw [er]
    refine ⟨fun ys hy => ?_, mem, ?_, mu, ?_, ?_⟩
    · rcases List.mem_append.mp hy with hy | hy
      · exact ⟨by have := (f1 ys hy).1; omega, (f1 ys hy).2⟩
      · exact ⟨by have := (mem ys hy).1; omega, (mem ys hy).2⟩
    · refine List.pairwise_append.mpr ⟨fu, mu, fun x hx y hy => ?_⟩
      cases h : eqDs x y with
      | false => rfl
      | true =>
        have := eqDs_len h
        have h1 := (f1 x hx).1
        have h2 := (mem y hy).1
        omega
    · show (F ++ M).length ≤ _
      rw [List.length_append]
      omega
    · show ((F ++ M).length < many ∧ (F ++ M).length = _ ∧ M.length = _) ∨ _
      rw [List.length_append]
      rcases cn with ⟨a1, a2, a3⟩ | ⟨a1, a2⟩
      · have c1 : (cnt inner.length many (j + 1 + 1)).1 = F.length + (cnt inner.length many (j + 1)).2 := by rw [cnt, ← a2]
        have c2 : (cnt inner.length many (j + 1)).2 = min (L.length * inner.length) many := by rw [cnt, ← a3]
        rw [c1, c2]
        by_cases c : F.length + M.length < many
        · have ht : t = [] := by
            rcases e2 with e2 | e2
            · exact e2
            · omega
          subst ht
          simp only [List.length_nil, Nat.add_zero] at fl2
          exact .inl ⟨c, by omega, by omega⟩
        · refine .inr ⟨by omega, ?_⟩
          omega
      · refine .inr ⟨by omega, ?_⟩
        rw [cnt]
        omega
theorem sl_rounds (n many most : Nat) (inner : List Dt) (hi : inner.length ≤ many) (h41 : many ≤ 41) (hm1 : 1 ≤ many) (hmo : most ≤ 6) (un : uniqD inner) (x0 x1 : Option Wv) :
    ∃ y6 y7 y8 y9, exFor (exSs (Gm n) slOut) (.one 6) [] (rangeL 0 most) (slEnv x0 x1 many inner [[]] (some (.d (.lst (tps [[]])))) none none none none) [] =
      .ok ((.nx, slEnv x0 x1 many inner (roundsL many inner most).1 (some (.d (.lst (tps (roundsL many inner most).2)))) y6 y7 y8 y9), []) := by
  obtain ⟨ρ', h1, h2⟩ := @exFor_inv [] (exSs (Gm n) slOut) (.one 6)
    (fun j ρ => j ≤ most → ∃ y6 y7 y8 y9, ρ = slEnv x0 x1 many inner (roundsL many inner j).1 (some (.d (.lst (tps (roundsL many inner j).2)))) y6 y7 y8 y9)
    (rangeL 0 most) 0 (slEnv x0 x1 many inner [[]] (some (.d (.lst (tps [[]])))) none none none none) (fun _ => ⟨none, none, none, none, rfl⟩) (by
    rintro j x ρ hj hI
    obtain ⟨rfl, hj2⟩ := range0_at hj
    rw [Nat.zero_add] at hI
    obtain ⟨y6, y7, y8, y9, rfl⟩ := hI (by omega)
    have R := round_ok hi h41 hm1 un j
    have hS : roundsL many inner (0 + j + 1) = roundL many inner (roundsL many inner j) := by rw [Nat.zero_add]; rfl
    generalize roundsL many inner j = p at R hS ⊢
    obtain ⟨F, L⟩ := p
    have hfl := R.fl
    dsimp only at hfl
    obtain ⟨z8, e⟩ := sl_loop n many inner F x0 x1 (some (.d (.lst (tps L)))) (some (.d (.int j))) hi h41 L [] y8 y9 (fun ys hy => by have := (R.l1 ys hy).1; omega) (by simp)
    obtain ⟨t, _, _, e3⟩ := moreL_spec F.length many inner L []
    have e3 := e3 (by simp)
    have er : roundL many inner (F, L) = (F ++ moreL F.length many inner L [], moreL F.length many inner L []) := rfl
    generalize moreL F.length many inner L [] = M at e e3 er
    have hadd : bopD .add (.lst (tps F)) (.lst (tps M)) = some (.lst (tps (F ++ M))) := by
      rw [add_ll (by rw [lim16]; simp [tps]; omega)]
      simp [tps]
    refine ⟨_, slEnv x0 x1 many inner (F ++ M) (some (.d (.lst (tps M)))) (some (.d (.int j))) (some (.d (.lst (tps M)))) z8 y9, rfl, ?_, fun _ => ⟨some (.d (.int j)), some (.d (.lst (tps M))), z8, y9, by rw [hS, er]⟩⟩
    have F1 := exS_for_ok (Γ := Gm n) (tg := .one 8) (it := .seq (.v 5)) (b := slIn) (st := []) (xs := tps L) (by simp [slEnv]) e
    unfold slOut
    rw [exSs_nx (ρ1 := slEnv x0 x1 many inner F (some (.d (.lst (tps L)))) (some (.d (.int j))) (some (.d (.lst (tps [])))) y8 y9) (st1 := []) (by simp [slEnv, tps]), exSs_nx F1]
    simp [slEnv, hadd])
  rw [rangeL_len, Nat.zero_add] at h2
  obtain ⟨y6, y7, y8, y9, rfl⟩ := h2 (Nat.le_refl _)
  exact ⟨y6, y7, y8, y9, h1⟩
/-- some lists: as the rounds tell -/
def lstsL (many most : Nat) (inner : List Dt) : List Dt := ((roundsL many inner most).1.take many).map fun ys => .tup [.str s_list_f818, .tup ys]
theorem run_some_lists3 (n many most : Nat) (kd : Dt) (h41 : many ≤ 41) (hm1 : 1 ≤ many) (hmo : most ≤ 6) (inner : List Dt) (hr : runP tab gls n c_some_values [kd, .int many] = .ok (.tup inner)) (hi : inner.length ≤ many) (un : uniqD inner) :
    runP tab gls (n + 1) c_some_lists [kd, .int most, .int many] = .ok (.tup (lstsL many most inner)) := by
  obtain ⟨y6, y7, y8, y9, h1⟩ := sl_rounds n many most inner hi h41 hm1 hmo un (some (.d kd)) (some (.d (.int most)))
  have F := exS_for_ok (Γ := Gm n) (tg := .one 6) (it := .rng1 (.v 1)) (b := slOut) (st := []) (xs := rangeL 0 most) (evI_rng_ok (m := most) (by simp [slEnv]) (by omega)) h1
  have hlc : evE (Gm n) (.lc (.tup (.cons (.str s_list_f818) (.cons (.v 8) .nil))) (.one 8) (.seq (.sl (.v 4) .no (.yes (.v 2)))) .nil) (slEnv (some (.d kd)) (some (.d (.int most))) many inner (roundsL many inner most).1 (some (.d (.lst (tps (roundsL many inner most).2)))) y6 y7 y8 y9) [] = .ok (.d (.lst (lstsL many most inner)), []) := by
    refine evE_lc_ok (xs := tps ((roundsL many inner most).1.take many)) (by simp [slEnv, cut_hi, tps]) ?_ (by simp [lstsL]; omega)
    refine lcL_map' _ Dt.tup _ _ fun ys _ => lcTurn_one (by simp) ?_
    simp [slEnv]
  rw [run_sl']
  unfold b_some_lists
  unfold slOut slIn at F
  rw [exSs_nx (exS_set_ok (w := .d (.tup inner)) (st1 := []) (by simp [hr])), exSs_nx (exS_set_ok (w := .d (.lst [.tup []])) (st1 := []) (by simp)), exSs_nx (exS_set_ok (w := .d (.lst [.tup []])) (st1 := []) (by simp))]
  dsimp only [List.set]
  show (exSs (Gm n) _ (slEnv (some (.d kd)) (some (.d (.int most))) many inner [[]] (some (.d (.lst (tps [[]])))) none none none none) []).bind endD = _
  rw [exSs_nx F, exSs_rt (exS_ret_ok (evE_p1_ok hlc rfl))] <;> rfl
/-- how many, by the law -/
def countK : Kd → Nat → Nat
  | .pl s, m => if s = s_truth_2626 then min 2 m else m
  | .rg lo hi, m => min (hi - lo + 1).toNat m
  | .am vs, m => min vs.length m
  | .ls K mo, m => min (cnt (countK K m) m (mo + 1)).1 m
theorem uniq_map {α : Type} {f : α → Dt} {l : List α} (h : l.Pairwise fun a b => eqD (f a) (f b) = false) : uniqD (l.map f) := List.pairwise_map.mpr h
theorem uniq_range {f : Nat → Dt} {n : Nat} (h : ∀ i j, i < j → j < n → eqD (f i) (f j) = false) : uniqD ((List.range n).map f) := by
  refine uniq_map (List.pairwise_iff_getElem.mpr fun i j hi hj hij => ?_)
  simp only [List.length_range] at hi hj
  simp only [List.getElem_range]
  exact h i j hij hj
theorem tn_inj (i j : Nat) (hi : i < 41) (hj : j < 41) (h : tnS i = tnS j) : i = j := by
  have key : ∀ i : Fin 41, ∀ j : Fin 41, tnS i.1 = tnS j.1 → i = j := by decide +kernel
  exact congrArg Fin.val (key ⟨i, hi⟩ ⟨j, hj⟩ h)
theorem uniq_take {vs : List Dt} (h : uniqD vs) (m : Nat) : uniqD (vs.take m) := List.Pairwise.sublist (List.take_sublist m vs) h
theorem someP_uniq {d : Nat} {K : Kd} (hK : K.ok d) (un : K.unl) {m : Nat} (hm : m ≤ 41) : uniqD (someP K m) := by
  cases K with
  | pl s =>
    rcases Kd.ok_pl' hK with rfl | rfl | rfl | rfl
    · rw [someP, if_pos rfl]
      refine uniq_range fun i j h1 h2 => ?_
      have : ¬ (0 + (i : Int)) = 0 + (j : Int) := by omega
      simp only [numV, eqD, eqDs]
      simp; omega
    · rw [someP, if_neg (by decide), if_pos rfl]
      refine uniq_take ?_ m
      exact List.pairwise_cons.mpr ⟨fun y hy => by rw [List.mem_singleton.mp hy]; simp [eqD, eqDs], List.pairwise_singleton _ _⟩
    · rw [someP, if_neg (by decide), if_neg (by decide), if_pos rfl]
      refine uniq_range fun i j h1 h2 => ?_
      have : ¬ tnS i = tnS j := fun e => by have := tn_inj i j (by omega) (by omega) e; omega
      simp [eqD, eqDs, this]
    · rw [someP, if_neg (by decide), if_neg (by decide), if_neg (by decide)]
      refine uniq_range fun i j h1 h2 => ?_
      simp only [dnD, eqD, eqDs]
      simp
      omega
  | am vs => exact uniq_take un m
  | rg lo hi =>
    refine uniq_range fun i j h1 h2 => ?_
    simp only [numV, eqD, eqDs]
    simp; omega
  | ls k m => exact List.Pairwise.nil
theorem someP_count {d : Nat} {K : Kd} (hK : K.ok d) (hl : ∀ k m, K ≠ .ls k m) (m : Nat) : (someP K m).length = countK K m := by
  cases K with
  | pl s =>
    rcases Kd.ok_pl' hK with rfl | rfl | rfl | rfl
    · rw [someP, if_pos rfl, countK, if_neg (by decide)]; simp [rgL]
    · rw [someP, if_neg (by decide), if_pos rfl, countK, if_pos rfl, List.length_take]
      simp [Nat.min_comm]
    · rw [someP, if_neg (by decide), if_neg (by decide), if_pos rfl, countK, if_neg (by decide)]; simp
    · rw [someP, if_neg (by decide), if_neg (by decide), if_neg (by decide), countK, if_neg (by decide)]; simp
  | am vs => simp only [someP, countK, List.length_take, Nat.min_comm]
  | rg lo hi => simp only [someP, countK, rgL, List.length_map, List.length_range]
  | ls k m => exact absurd rfl (hl k m)
/-- some values: so many as counted, unlike, of the kind -/
theorem run_some3 : ∀ (d n m : Nat) (K : Kd), K.ok d → K.unl → m ≤ 41 → 1 ≤ m → ∃ vs, runP tab gls (n + 2 * d + 2) c_some_values [K.toD, .int m] = .ok (.tup vs) ∧ vs.length = countK K m ∧ uniqD vs ∧ vs.length ≤ m ∧ (∀ v ∈ vs, Good d K v) := by
  intro d n m K
  induction K generalizing d n with
  | ls K mo ih =>
    intro hK un hm hm1
    cases d with
    | zero => exact hK.elim
    | succ d =>
    obtain ⟨inner, r1, r2, r3, r4, r5⟩ := ih d n hK.1 un hm hm1
    have v1 := run_some_lists3 (n + 2 * d + 2) m mo K.toD hm hm1 hK.2 inner r1 r4 r3
    have R := round_ok r4 hm hm1 r3 mo
    refine ⟨lstsL m mo inner, ?_, ?_, ?_, ?_, ?_⟩
    · rw [show n + 2 * (d + 1) + 2 = n + 2 * d + 2 + 1 + 1 by omega, run_some']
      unfold b_some_values Kd.toD
      rw [exSs_nx (exS_if_no (cmpT rfl) rfl), exSs_nx (exS_if_no (cmpT rfl) rfl), exSs_nx (exS_if_no (cmpT rfl) rfl), exSs_nx (exS_if_no (cmpT rfl) rfl), exSs_nx (exS_if_no (cmp0 (s := s_list_f818) (b := false) rfl (by decide)) rfl), exSs_nx (exS_if_no (cmp0 (s := s_list_f818) (b := false) rfl (by decide)) rfl), exSs_rt (exS_ret_ok (w := .d (.tup (lstsL m mo inner))) (st1 := []) (by simp [ix1, ix2, v1]))] <;> rfl
    · simp only [lstsL, List.length_map, List.length_take, countK, ← r2]
      rcases R.cn with ⟨a1, a2, _⟩ | ⟨a1, a2⟩ <;> omega
    · refine uniq_map (List.Pairwise.sublist (List.take_sublist m _) (List.Pairwise.imp (fun {a b} h => ?_) R.fu))
      simp [eqD, eqDs, h]
    · simp only [lstsL, List.length_map, List.length_take]; omega
    · intro v hv
      obtain ⟨ys, hy, rfl⟩ := List.mem_map.mp hv
      obtain ⟨a1, a2⟩ := R.f1 ys (List.mem_of_mem_take hy)
      have hmo := hK.2
      refine ⟨isVal_list (by omega) fun y hy => (r5 y (a2 y hy)).1, ?_⟩
      simp only [ofK, decide_true, Bool.true_and, Bool.and_eq_true, decide_eq_true_eq, List.all_eq_true]
      exact ⟨a1, fun y hy => (r5 y (a2 y hy)).2⟩
  | pl s =>
    intro hK un hm hm1
    have hl : ∀ k j, Kd.pl s ≠ .ls k j := by intro k j h; cases h
    exact ⟨_, by rw [run_someP (n + 2 * d) m d _ hK hl hm hm1], someP_count hK hl m, someP_uniq hK un hm, someP_len _ _, someP_good hK hm⟩
  | rg lo hi =>
    intro hK un hm hm1
    have hl : ∀ k j, Kd.rg lo hi ≠ .ls k j := by intro k j h; cases h
    exact ⟨_, by rw [run_someP (n + 2 * d) m d _ hK hl hm hm1], someP_count hK hl m, someP_uniq hK un hm, someP_len _ _, someP_good hK hm⟩
  | am vs =>
    intro hK un hm hm1
    have hl : ∀ k j, Kd.am vs ≠ .ls k j := by intro k j h; cases h
    exact ⟨_, by rw [run_someP (n + 2 * d) m d _ hK hl hm hm1], someP_count hK hl m, someP_uniq hK un hm, someP_len _ _, someP_good hK hm⟩
/-- values can be keys -/
theorem val_keyN : ∀ (d : Nat) {v : Dt}, isValD d v = true → isTupD v = true ∧ keyOk v = true ∧ depD v ≤ 2 * d + 2 := by
  intro d
  induction d with
  | zero =>
    intro v h
    obtain ⟨s, c, rfl, _, h2⟩ := isVal_inv h
    have hs : s ≠ s_list_f818 := fun e => by obtain ⟨_, _, z, _⟩ := h2 e; cases z
    exact val_key0 h hs
  | succ d ih =>
    intro v h
    obtain ⟨s, c, rfl, _, h2⟩ := isVal_inv h
    by_cases hs : s = s_list_f818
    · obtain ⟨xs, j, e, rfl, _, h4⟩ := h2 hs
      cases e
      have k1 : ∀ xs : List Dt, (∀ x ∈ xs, isValD d x = true) → keyOks xs = true ∧ depDs xs ≤ 2 * d + 2 := by
        intro xs
        induction xs with
        | nil => intro _; exact ⟨rfl, Nat.zero_le _⟩
        | cons x xs ihx =>
          intro h4
          obtain ⟨_, a2, a3⟩ := ih (h4 x List.mem_cons_self)
          obtain ⟨b1, b2⟩ := ihx fun y hy => h4 y (List.mem_cons_of_mem _ hy)
          simp only [keyOks, depDs, a2, b1, Bool.and_self, true_and]
          omega
      have k1 := k1 xs h4
      refine ⟨rfl, by simp [keyOk, keyOks, k1.1], ?_⟩
      have := k1.2
      simp only [depD, depDs]
      omega
    · obtain ⟨a1, a2, a3⟩ := val_key0 h hs
      exact ⟨a1, a2, by omega⟩
theorem run_count' (n : Nat) (a b : Dt) : runP tab gls (n + 1) c__law_count [a, b] = (exSs (Gm n) b__law_count [some (.d a), some (.d b), none, none, none, none] []).bind endD := rfl
theorem count_le (K : Kd) (m : Nat) : countK K m ≤ m := by
  cases K with
  | pl s => rw [countK]; split <;> omega
  | rg lo hi => rw [countK]; omega
  | am vs => rw [countK]; omega
  | ls K mo => rw [countK]; omega
theorem min_nn (a b : Nat) : b2D .min (.int (a : Int)) (.int (b : Int)) = some (.int ((min a b : Nat) : Int)) := by
  by_cases h : b < a
  · rw [min_gt (by omega), show min a b = b by omega]
  · rw [min_le (by omega), show min a b = a by omega]
theorem count_loop (n c m : Nat) (hc : c ≤ 41) (x0 x5 : Option Wv) (k : Nat) : ∃ y5, exFor (exSs (Gm n) fb0__law_count) (.one 5) [] (rangeL 0 k) [x0, some (.d (.int m)), some (.d (.int c)), some (.d (.int 0)), some (.d (.int 1)), x5] [] =
    .ok ((.nx, [x0, some (.d (.int m)), some (.d (.int c)), some (.d (.int (cnt c m k).1)), some (.d (.int (cnt c m k).2)), y5]), []) := by
  have sm : smallI (c : Int) := by unfold smallI; omega
  obtain ⟨ρ', h1, y5, rfl⟩ := @exFor_inv [] (exSs (Gm n) fb0__law_count) (.one 5) (fun j ρ => ∃ y5, ρ = [x0, some (.d (.int m)), some (.d (.int c)), some (.d (.int (cnt c m j).1)), some (.d (.int (cnt c m j).2)), y5]) (rangeL 0 k) 0
    [x0, some (.d (.int m)), some (.d (.int c)), some (.d (.int 0)), some (.d (.int 1)), x5] ⟨x5, rfl⟩ (by
    rintro j x ρ hj ⟨y5, rfl⟩
    obtain ⟨rfl, _⟩ := range0_at hj
    rw [Nat.zero_add]
    have mm := min_nn ((cnt c m j).2 * c) m
    rw [show (((cnt c m j).2 * c : Nat) : Int) = ((cnt c m j).2 : Int) * (c : Int) from Int.natCast_mul _ _] at mm
    generalize hA : (cnt c m j).1 = A at mm
    generalize hB : (cnt c m j).2 = B at mm
    have hS : cnt c m (j + 1) = (A + B, min (B * c) m) := by rw [cnt, hA, hB]
    refine ⟨_, [x0, some (.d (.int m)), some (.d (.int c)), some (.d (.int ((A + B : Nat) : Int))), some (.d (.int ((min (B * c) m : Nat) : Int))), some (.d (.int j))], rfl, ?_, some (.d (.int j)), by rw [hS]⟩
    have E1 : evE (Gm n) (.bin .add (.v 3) (.v 4)) [x0, some (.d (.int m)), some (.d (.int c)), some (.d (.int A)), some (.d (.int B)), some (.d (.int j))] [] = .ok (.d (.int ((A : Int) + B)), []) := evE_bin_ok (st1 := []) (x := .int A) (y := .int B) rfl rfl (add_ii _ _)
    have E2 : evE (Gm n) (.b2 .min (.bin .mul (.v 4) (.v 2)) (.v 1)) [x0, some (.d (.int m)), some (.d (.int c)), some (.d (.int ((A : Int) + B))), some (.d (.int B)), some (.d (.int j))] [] = .ok (.d (.int ((min (B * c) m : Nat) : Int)), []) :=
      evE_b2_ok (st1 := []) (x := .int ((B : Int) * c)) (y := .int m) (evE_bin_ok (st1 := []) (x := .int B) (y := .int c) rfl rfl (mul_ii (.inr sm))) rfl mm
    show exSs (Gm n) (.cons (.set 3 (.bin .add (.v 3) (.v 4))) (.cons (.set 4 (.b2 .min (.bin .mul (.v 4) (.v 2)) (.v 1))) .nil)) [x0, some (.d (.int m)), some (.d (.int c)), some (.d (.int A)), some (.d (.int B)), some (.d (.int j))] [] = _
    rw [exSs_nx (exS_set_ok E1)]
    dsimp only [List.set]
    rw [exSs_nx (exS_set_ok E2), Int.natCast_add]
    exact exSs_nil (Γ := Gm n))
  rw [rangeL_len, Nat.zero_add] at h1
  exact ⟨y5, h1⟩
theorem in_three (s : List Nat) : copD .inn (.str s) (.tup [.str s_number_1f54, .str s_text_a7c7, .str [100, 97, 121]]) = some ([Dt.str s_number_1f54, .str s_text_a7c7, .str [100, 97, 121]].any fun z => eqD z (.str s)) := in_st _ _
theorem in_threeT (xs : List Dt) : copD .inn (.tup xs) (.tup [.str s_number_1f54, .str s_text_a7c7, .str [100, 97, 121]]) = some false := by
  simp [copD, depD, depDs, eqD]
theorem threeE {Γ : Gam} {ρ : Ev} {d : Dt} {b : Bool} (h : ρ[0]? = some (some (.d d))) (e : copD .inn d (.tup [.str s_number_1f54, .str s_text_a7c7, .str [100, 97, 121]]) = some b) : evE Γ (.cmp .inn (.v 0) (.tup (.cons (.str s_number_1f54) (.cons (.str s_text_a7c7) (.cons (.str [100, 97, 121]) .nil))))) ρ [] = .ok (.d (.bl b), []) :=
  evE_cmp_ok (st1 := []) (x := d) (y := .tup [.str s_number_1f54, .str s_text_a7c7, .str [100, 97, 121]]) (by rw [evE_v, h]; rfl) (by simp) (by rw [e])
theorem run_count : ∀ (d n m : Nat) (K : Kd), K.ok d → m ≤ 41 → runP tab gls (n + d + 1) c__law_count [K.toD, .int m] = .ok (.int (countK K m)) := by
  intro d n m K
  induction K generalizing d n with
  | pl s =>
    intro hK hm
    rw [run_count']
    unfold b__law_count Kd.toD
    rcases Kd.ok_pl' hK with rfl | rfl | rfl | rfl
    · rw [countK, if_neg (by decide), exSs_rt ((exS_if_yes (threeE (b := true) rfl (by decide)) rfl).trans (exSs_rt (exS_ret_ok (w := .d (.int m)) (st1 := []) rfl)))]; rfl
    · have E2 : evE (Gm (n + d)) (.b2 .min (.int 2) (.v 1)) [some (.d (.str s_truth_2626)), some (.d (.int m)), none, none, none, none] [] = .ok (.d (.int ((min 2 m : Nat) : Int)), []) := evE_b2_ok (st1 := []) (x := .int 2) (y := .int m) (evE_int _) rfl (min_nn 2 m)
      rw [countK, if_pos rfl, exSs_nx (exS_if_no (threeE (b := false) rfl (by decide)) rfl), exSs_rt ((exS_if_yes (cmpS (s := s_truth_2626) rfl (decide_eq_true rfl)) rfl).trans (exSs_rt (exS_ret_ok E2)))]; rfl
    · rw [countK, if_neg (by decide), exSs_rt ((exS_if_yes (threeE (b := true) rfl (by decide)) rfl).trans (exSs_rt (exS_ret_ok (w := .d (.int m)) (st1 := []) rfl)))]; rfl
    · rw [countK, if_neg (by decide), exSs_rt ((exS_if_yes (threeE (b := true) rfl (by decide)) rfl).trans (exSs_rt (exS_ret_ok (w := .d (.int m)) (st1 := []) rfl)))]; rfl
  | rg lo hi =>
    intro hK hm
    have hb := Kd.ok_rg' hK
    rw [run_count']
    unfold b__law_count Kd.toD
    have mm := min_nn (hi - lo + 1).toNat m
    rw [show (((hi - lo + 1).toNat : Nat) : Int) = hi - lo + 1 by omega] at mm
    have E : evE (Gm (n + d)) (.bin .add (.bin .sub (.ix (.v 0) (.int 2)) (.ix (.v 0) (.int 1))) (.int 1)) [some (.d (.tup [.str s_range_5a49, .int lo, .int hi])), some (.d (.int m)), none, none, none, none] [] = .ok (.d (.int (hi - lo + 1)), []) := by simp [ix1, ix2]
    rw [exSs_nx (exS_if_no (threeE rfl (in_threeT _)) rfl), exSs_nx (exS_if_no (cmpT rfl) rfl), exSs_rt ((exS_if_yes (cmp0 (s := s_range_5a49) rfl (decide_eq_true rfl)) rfl).trans (exSs_rt (exS_ret_ok (evE_b2_ok E (y := .int m) rfl mm))))]
    rfl
  | am vs =>
    intro hK hm
    rw [run_count']
    unfold b__law_count Kd.toD
    have E : evE (Gm (n + d)) (.p1 .len (.ix (.v 0) (.int 1))) [some (.d (.tup [.str s_among_b8f1, .tup vs])), some (.d (.int m)), none, none, none, none] [] = .ok (.d (.int vs.length), []) := by simp [ix1]
    rw [exSs_nx (exS_if_no (threeE rfl (in_threeT _)) rfl), exSs_nx (exS_if_no (cmpT rfl) rfl), exSs_nx (exS_if_no (cmp0 (s := s_among_b8f1) (b := false) rfl (by decide)) rfl), exSs_rt ((exS_if_yes (cmp0 (s := s_among_b8f1) rfl (decide_eq_true rfl)) rfl).trans (exSs_rt (exS_ret_ok (evE_b2_ok E (y := .int m) rfl (min_nn _ _)))))]
    rfl
  | ls K mo ih =>
    intro hK hm
    cases d with
    | zero => exact hK.elim
    | succ d =>
    have r := ih d n hK.1 hm
    have cl := count_le K m
    have hmo := hK.2
    rw [show n + (d + 1) + 1 = n + d + 1 + 1 by omega, run_count']
    unfold b__law_count Kd.toD
    obtain ⟨y5, hl⟩ := count_loop (n + d + 1) (countK K m) m (by omega) (some (.d (.tup [.str s_list_f818, K.toD, .int mo]))) none (mo + 1)
    have E : evE (Gm (n + d + 1)) (.call c__law_count (.cons (.ix (.v 0) (.int 1)) (.cons (.v 1) .nil))) [some (.d (.tup [.str s_list_f818, K.toD, .int mo])), some (.d (.int m)), none, none, none, none] [] = .ok (.d (.int (countK K m)), []) := by
      rw [call2_v (x := K.toD) (y := .int m) (st1 := []) (st2 := []) (by simp [ix1]) (by simp), r]; rfl
    have hI : evI (Gm (n + d + 1)) (.rng1 (.bin .add (.ix (.v 0) (.int 2)) (.int 1))) [some (.d (.tup [.str s_list_f818, K.toD, .int mo])), some (.d (.int m)), some (.d (.int (countK K m))), some (.d (.int 0)), some (.d (.int 1)), none] [] = .ok ((rangeL 0 (mo + 1), []), []) :=
      evI_rng_ok (m := mo + 1) (by simp [ix2]) (by omega)
    rw [exSs_nx (exS_if_no (threeE rfl (in_threeT _)) rfl), exSs_nx (exS_if_no (cmpT rfl) rfl), exSs_nx (exS_if_no (cmp0 (s := s_list_f818) (b := false) rfl (by decide)) rfl), exSs_nx (exS_if_no (cmp0 (s := s_list_f818) (b := false) rfl (by decide)) rfl), exSs_nx (exS_set_ok E)]
    dsimp only [List.set]
    rw [exSs_nx (exS_set_ok (evE_int _))]
    dsimp only [List.set]
    rw [exSs_nx (exS_set_ok (evE_int _))]
    dsimp only [List.set]
    rw [exSs_nx (exS_for_ok hI hl), exSs_rt (exS_ret_ok (evE_b2_ok (st1 := []) (x := .int (cnt (countK K m) m (mo + 1)).1) (y := .int m) rfl rfl (min_nn _ _)))]
    rfl
def lwE (ns : List Int) (x1 x2 x3 x4 x5 x6 : Option Wv) : Ev := [some (.d (.scr ns)), x1, x2, x3, x4, x5, x6]
theorem lens_ok {vs : List Dt} (hv : ∀ v ∈ vs, isValD 3 v = true) (hl : vs.length ≤ 41) (un : uniqD vs) : lensD (.tup vs) = some (.int vs.length) := by
  have h : vs.all (fun x => isTupD x && keyOk x && decide (depD x ≤ 8)) = true ∧ vs.length < 64 := by
    refine ⟨List.all_eq_true.mpr fun v h => ?_, by omega⟩
    obtain ⟨a1, a2, a3⟩ := val_keyN 3 (hv v h)
    have a4 : depD v ≤ 8 := by omega
    simp [a1, a2, a4]
  show (if _ then _ else _) = _
  rw [if_pos h, nub_uniq un]
theorem turn_many (ns : List Int) (K : Kd) (hK : K.ok 3) (un : K.unl) (m : Nat) (hm : m ≤ 41) (hm1 : 1 ≤ m) (x1 x2 x5 x6 : Option Wv) :
    ∃ y5, exSs (Gm 11) fb1_law (lwE ns x1 x2 (some (.d K.toD)) (some (.d (.int m))) x5 x6) [] = .ok ((.nx, lwE ns x1 x2 (some (.d K.toD)) (some (.d (.int m))) y5 x6), []) := by
  obtain ⟨vs, r1, r2, r3, r4, r5⟩ := run_some3 3 3 m K hK un hm hm1
  have rc := run_count 3 7 m K hK hm
  have ln := lens_ok (fun v hv => (r5 v hv).1) (by omega) r3
  have hlc : evE (Gm 11) (.lc le1_law (.one 6) (.seq (.v 5)) .nil) (lwE ns x1 x2 (some (.d K.toD)) (some (.d (.int m))) (some (.d (.tup vs))) x6) [] = .ok (.d (.lst (vs.map fun _ => .bl true)), []) := by
    refine evE_lc_ok (xs := vs) (by simp [lwE]) ?_ (by simp; omega)
    have := @lcL_map' [] _ (lcTurn (evIfs (Gm 11) .nil) (evE (Gm 11) le1_law) (.one 6) (lwE ns x1 x2 (some (.d K.toD)) (some (.d (.int m))) (some (.d (.tup vs))) x6)) id (fun _ => .bl true) vs (fun v hv => by
      refine lcTurn_one (by simp) ?_
      obtain ⟨g1, g2⟩ := r5 v hv
      have i1 := run_is_value 4 v
      rw [g1] at i1
      have i2 := run_law_of 3 7 3 K v hK g1
      rw [g2] at i2
      simp [le1_law, lwE, i1, i2])
    simpa using this
  have hall := all_map (fun _ => true) vs
  have ea : (vs.all fun _ => true) = true := by simp
  rw [ea] at hall
  refine ⟨some (.d (.tup vs)), ?_⟩
  unfold fb1_law
  rw [exSs_nx (ρ1 := lwE ns x1 x2 (some (.d K.toD)) (some (.d (.int m))) (some (.d (.tup vs))) x6) (st1 := []) (by simp [lwE, r1])]
  rw [exSs_nx (ρ1 := lwE ns x1 x2 (some (.d K.toD)) (some (.d (.int m))) (some (.d (.tup vs))) x6) (st1 := []) (by simp [lwE, rc, isiD, r2])]
  have hN : evE (Gm 11) (.not (.p1 .all (.lc le1_law (.one 6) (.seq (.v 5)) .nil))) (lwE ns x1 x2 (some (.d K.toD)) (some (.d (.int m))) (some (.d (.tup vs))) x6) [] = .ok (.d (.bl false), []) := by
    rw [evE_not, evE_p1_ok hlc hall]
    rfl
  rw [exSs_nx (exS_if_no hN rfl)]
  rw [exSs_nx (ρ1 := lwE ns x1 x2 (some (.d K.toD)) (some (.d (.int m))) (some (.d (.tup vs))) x6) (st1 := []) (by simp [lwE, r1, ln])]
  exact exSs_nil (Γ := Gm 11)
theorem enum_mem : ∀ (xs : List Dt) (k : Nat) {x : Dt}, x ∈ enumL k xs → ∃ (j : Nat) (y : Dt), y ∈ xs ∧ x = .tup [.int j, y]
  | [], k, x, h => by simp [enumL] at h
  | y :: r, k, x, h => by
    rw [enumL] at h
    rcases List.mem_cons.mp h with e | h
    · exact ⟨k, y, List.mem_cons_self, e⟩
    · rw [show (k : Int) + 1 = ((k + 1 : Nat) : Int) by omega] at h
      obtain ⟨j, z, hz, e⟩ := enum_mem r (k + 1) h
      exact ⟨j, z, List.mem_cons_of_mem _ hz, e⟩
theorem turn_kind (ns : List Int) (K : Kd) (hK : K.ok 3) (un : K.unl) (k : Nat) (x1 x4 x5 x6 : Option Wv) :
    ∃ y4 y5, exSs (Gm 11) fb0_law (lwE ns x1 (some (.d (.int k))) (some (.d K.toD)) x4 x5 x6) [] = .ok ((.nx, lwE ns x1 (some (.d (.int k))) (some (.d K.toD)) y4 y5 x6), []) := by
  have hcell := run_cell 10 ns 4
  simp only [Int.cast_ofNat_Int] at hcell
  have ⟨p1, p2⟩ := @mix_range (cellAt ns 4 + (k : Int)) 9803 40 (by decide)
  have hit : evI (Gm 11) (.seq (.tup (.cons (.int 1) (.cons (.int 7) (.cons (.bin .add (.int 1) (.call c__law_mix (.cons (.bin .add (.call c__law_cell (.cons (.v 0) (.cons (.int 4) .nil))) (.v 2)) (.cons (.int 9803) (.cons (.int 40) .nil))))) .nil))))) (lwE ns x1 (some (.d (.int k))) (some (.d K.toD)) x4 x5 x6) [] =
      .ok (([.int ((1 : Nat) : Int), .int ((7 : Nat) : Int), .int ((1 + (mix (cellAt ns 4 + (k : Int)) 9803 40).toNat : Nat) : Int)], []), []) := by
    rw [show ((1 + (mix (cellAt ns 4 + (k : Int)) 9803 40).toNat : Nat) : Int) = 1 + mix (cellAt ns 4 + (k : Int)) 9803 40 by omega]
    simp [lwE, hcell, run_mix]
  obtain ⟨ρ', hf, y4, y5, rfl⟩ := @exFor_mem (exSs (Gm 11) fb1_law) (.one 4) [] (fun ρ => ∃ y4 y5, ρ = lwE ns x1 (some (.d (.int k))) (some (.d K.toD)) y4 y5 x6) [.int ((1 : Nat) : Int), .int ((7 : Nat) : Int), .int ((1 + (mix (cellAt ns 4 + (k : Int)) 9803 40).toNat : Nat) : Int)] (lwE ns x1 (some (.d (.int k))) (some (.d K.toD)) x4 x5 x6) ⟨_, _, rfl⟩ (by
    rintro x hx ρ ⟨y4, y5, rfl⟩
    have : ∃ m : Nat, x = .int m ∧ m ≤ 41 ∧ 1 ≤ m := by
      simp only [List.mem_cons, List.not_mem_nil, or_false] at hx
      rcases hx with e | e | e
      · exact ⟨1, e, by omega, by omega⟩
      · exact ⟨7, e, by omega, by omega⟩
      · exact ⟨_, e, by omega, by omega⟩
    obtain ⟨m, rfl, hm, hm1⟩ := this
    obtain ⟨z5, h⟩ := turn_many ns K hK un m hm hm1 x1 (some (.d (.int k))) y5 x6
    exact ⟨_, _, rfl, h, _, _, rfl⟩)
  refine ⟨y4, y5, ?_⟩
  unfold fb0_law
  rw [exSs_nx (exS_for_ok hit hf)]
  exact exSs_nil (Γ := Gm 11)
theorem Kd.ok_le : ∀ {K : Kd} {k k' : Nat}, K.ok k → k ≤ k' → K.ok k'
  | .pl s, k, k', h, _ => Kd.ok_pl _ (by cases k <;> exact h)
  | .rg _ _, k, k', h, _ => Kd.ok_rg _ (by cases k <;> exact h)
  | .am _, k, k', h, _ => Kd.ok_am _ (by cases k <;> exact h)
  | .ls K m, 0, _, h, _ => h.elim
  | .ls K m, k + 1, 0, _, hk => by omega
  | .ls K m, k + 1, k' + 1, h, hk => ⟨Kd.ok_le (K := K) h.1 (by omega), h.2⟩
theorem law_ok (ns : List Int) (_ : ns.length ≤ 63) : runP tab gls 12 c_law [.scr ns] = .ok (.bl true) := by
  have e : runP tab gls 12 c_law [.scr ns] = (exSs (Gm 11) b_law (lwE ns none none none none none none) []).bind endD := rfl
  rw [e]
  unfold b_law
  have s7 : smallI 7 := by decide
  have ⟨d1, d2⟩ := @mix_range (cellAt ns 3) 9811 4 (by decide)
  have hk : ∀ k : Nat, ∃ K : Kd, runP tab gls 11 c__law_kind [.int (cellAt ns k + 7 * (k : Int)), .int (mix (cellAt ns 3) 9811 4)] = .ok K.toD ∧ K.ok 3 ∧ K.unl := fun k => by
    obtain ⟨K, r, ok, un⟩ := run_law_kind (mix (cellAt ns 3) 9811 4).toNat (8 - (mix (cellAt ns 3) 9811 4).toNat) (cellAt ns k + 7 * (k : Int))
    rw [show 8 - (mix (cellAt ns 3) 9811 4).toNat + (mix (cellAt ns 3) 9811 4).toNat + 3 = 11 by omega, show (((mix (cellAt ns 3) 9811 4).toNat : Nat) : Int) = mix (cellAt ns 3) 9811 4 by omega] at r
    exact ⟨K, r, Kd.ok_le ok (by omega), un⟩
  obtain ⟨G, hG⟩ := Classical.axiomOfChoice hk
  have hc3 := run_cell 10 ns 3
  simp only [Int.cast_ofNat_Int] at hc3
  have hlc := @lc_rng (Gm 11) (lwE ns none none none none none none) [] le0_law 2 (.rng1 (.int 3)) 0 3 (fun k => (G k).toD) (evI_rng_ok (m := 3) (by simp) (by omega)) (by omega) (fun k hk => by
    have hc := run_cell 10 ns k
    have r := (hG k).1
    rw [Int.zero_add]
    simp [le0_law, lwE, hc, hc3, mul_ii, s7, run_mix, r]) (by simp [lwE])
  rw [exSs_nx (ρ1 := lwE ns (some (.d (.lst ((List.range 3).map fun k => (G k).toD)))) none none none none none) (exS_set_ok hlc)]
  have hit : evI (Gm 11) (.enm (.bin .add (.v 1) (.lst (.cons (.str s_number_1f54) (.cons (.str s_truth_2626) (.cons (.str s_text_a7c7) (.cons (.str [100, 97, 121]) .nil))))))) (lwE ns (some (.d (.lst ((List.range 3).map fun k => (G k).toD)))) none none none none none) [] =
      .ok ((enumL 0 (((List.range 3).map fun k => (G k).toD) ++ [.str s_number_1f54, .str s_truth_2626, .str s_text_a7c7, .str [100, 97, 121]]), []), []) := by
    have hadd : bopD .add (.lst ((List.range 3).map fun k => (G k).toD)) (.lst [.str s_number_1f54, .str s_truth_2626, .str s_text_a7c7, .str [100, 97, 121]]) = some (.lst (((List.range 3).map fun k => (G k).toD) ++ [.str s_number_1f54, .str s_truth_2626, .str s_text_a7c7, .str [100, 97, 121]])) := add_ll (by rw [lim16]; simp)
    have hb : evE (Gm 11) (.bin .add (.v 1) (.lst (.cons (.str s_number_1f54) (.cons (.str s_truth_2626) (.cons (.str s_text_a7c7) (.cons (.str [100, 97, 121]) .nil)))))) (lwE ns (some (.d (.lst ((List.range 3).map fun k => (G k).toD)))) none none none none none) [] = .ok (.d (.lst (((List.range 3).map fun k => (G k).toD) ++ [.str s_number_1f54, .str s_truth_2626, .str s_text_a7c7, .str [100, 97, 121]])), []) := evE_bin_ok (st1 := []) (x := .lst ((List.range 3).map fun k => (G k).toD)) (y := .lst [.str s_number_1f54, .str s_truth_2626, .str s_text_a7c7, .str [100, 97, 121]]) (by simp [lwE]) (by simp [mkLst, mapD, lim16]) hadd
    rw [evI_enm, hb]
    rfl
  obtain ⟨ρ', hf, x2, x3, x4, x5, rfl⟩ := @exFor_mem (exSs (Gm 11) fb0_law) (.many [2, 3]) [] (fun ρ => ∃ x2 x3 x4 x5, ρ = lwE ns (some (.d (.lst ((List.range 3).map fun k => (G k).toD)))) x2 x3 x4 x5 none) (enumL 0 (((List.range 3).map fun k => (G k).toD) ++ [.str s_number_1f54, .str s_truth_2626, .str s_text_a7c7, .str [100, 97, 121]])) (lwE ns (some (.d (.lst ((List.range 3).map fun k => (G k).toD)))) none none none none none) ⟨_, _, _, _, rfl⟩ (by
    rintro x hx ρ ⟨x2, x3, x4, x5, rfl⟩
    obtain ⟨j, y, hy, rfl⟩ := enum_mem _ 0 hx
    have : ∃ K : Kd, y = K.toD ∧ K.ok 3 ∧ K.unl := by
      rcases List.mem_append.mp hy with hy | hy
      · obtain ⟨k, _, rfl⟩ := List.mem_map.mp hy
        exact ⟨G k, rfl, (hG k).2⟩
      · have ⟨i1, i2, i3, i4⟩ := isPl_is
        simp only [List.mem_cons, List.not_mem_nil, or_false] at hy
        rcases hy with e | e | e | e
        · exact ⟨.pl _, e, Kd.ok_pl _ i1, trivial⟩
        · exact ⟨.pl _, e, Kd.ok_pl _ i2, trivial⟩
        · exact ⟨.pl _, e, Kd.ok_pl _ i3, trivial⟩
        · exact ⟨.pl _, e, Kd.ok_pl _ i4, trivial⟩
    obtain ⟨K, rfl, ok, un⟩ := this
    obtain ⟨z4, z5, h⟩ := turn_kind ns K ok un j (some (.d (.lst ((List.range 3).map fun k => (G k).toD)))) x4 x5 none
    exact ⟨_, _, rfl, h, _, _, _, _, rfl⟩)
  rw [exSs_nx (exS_for_ok hit hf), exSs_rt (exS_ret_ok (by rw [evE_bl]))]
  rfl

open PySem.Spec PyProof.Rows L2
abbrev fuel : Nat := 12
def topS (i : Nat) : Stmt := PySem.Challenge.pw_laysheets_k27_some_values.main.body.getD i (.Pass ⟨0, 0, 0, 0⟩)
def T : Tb := ⟨("is_number", 3) :: ("days_in", 2) :: ("is_day", 1) :: ("is_value_so_deep", 2) :: ("is_value", 1) :: ("text_number", 1) :: ("day_number", 1) :: ("some_lists", 3) :: ("some_values", 2) :: ("_law_cell", 2) :: ("_law_mix", 3) :: ("_law_kind", 2) :: ("_law_simple", 1) :: ("_law_of", 2) :: ("_law_count", 2) :: ("law", 1) :: [], ["MOST", "MONTHS"], []⟩
theorem sc_is_number : FnScope ["thing", "low", "high"] ["thing", "low", "high"] (defScope (topS 3)) := ⟨rfl, rfl, rfl, by decide +kernel, rfl, by decide +kernel, by decide +kernel⟩
theorem ck_is_number : chkSs T ["thing", "low", "high"] (defScope (topS 3)) b_is_number (defBody (topS 3)) = true := by decide +kernel
theorem sc_days_in : FnScope ["year", "month"] ["year", "month"] (defScope (topS 4)) := ⟨rfl, rfl, rfl, by decide +kernel, rfl, by decide +kernel, by decide +kernel⟩
theorem ck_days_in : chkSs T ["year", "month"] (defScope (topS 4)) b_days_in (defBody (topS 4)) = true := by decide +kernel
theorem sc_is_day : FnScope ["thing", "year", "month", "day"] ["thing"] (defScope (topS 5)) := ⟨rfl, rfl, rfl, by decide +kernel, rfl, by decide +kernel, by decide +kernel⟩
theorem ck_is_day : chkSs T ["thing", "year", "month", "day"] (defScope (topS 5)) b_is_day (defBody (topS 5)) = true := by decide +kernel
theorem sc_is_value_so_deep : FnScope ["thing", "deep", "kind", "content", "one"] ["thing", "deep"] (defScope (topS 6)) := ⟨rfl, rfl, rfl, by decide +kernel, rfl, by decide +kernel, by decide +kernel⟩
theorem ck_is_value_so_deep : chkSs T ["thing", "deep", "kind", "content", "one"] (defScope (topS 6)) b_is_value_so_deep (defBody (topS 6)) = true := by decide +kernel
theorem sc_is_value : FnScope ["thing"] ["thing"] (defScope (topS 7)) := ⟨rfl, rfl, rfl, by decide +kernel, rfl, by decide +kernel, by decide +kernel⟩
theorem ck_is_value : chkSs T ["thing"] (defScope (topS 7)) b_is_value (defBody (topS 7)) = true := by decide +kernel
theorem sc_text_number : FnScope ["number", "found"] ["number"] (defScope (topS 9)) := ⟨rfl, rfl, rfl, by decide +kernel, rfl, by decide +kernel, by decide +kernel⟩
theorem ck_text_number : chkSs T ["number", "found"] (defScope (topS 9)) b_text_number (defBody (topS 9)) = true := by decide +kernel
theorem sc_day_number : FnScope ["number"] ["number"] (defScope (topS 10)) := ⟨rfl, rfl, rfl, by decide +kernel, rfl, by decide +kernel, by decide +kernel⟩
theorem ck_day_number : chkSs T ["number"] (defScope (topS 10)) b_day_number (defBody (topS 10)) = true := by decide +kernel
theorem sc_some_lists : FnScope ["kind", "most", "many", "inner", "found", "last", "size", "more", "one", "value"] ["kind", "most", "many"] (defScope (topS 11)) := ⟨rfl, rfl, rfl, by decide +kernel, rfl, by decide +kernel, by decide +kernel⟩
theorem ck_some_lists : chkSs T ["kind", "most", "many", "inner", "found", "last", "size", "more", "one", "value"] (defScope (topS 11)) b_some_lists (defBody (topS 11)) = true := by decide +kernel
theorem sc_some_values : FnScope ["kind", "many", "number"] ["kind", "many"] (defScope (topS 12)) := ⟨rfl, rfl, rfl, by decide +kernel, rfl, by decide +kernel, by decide +kernel⟩
theorem ck_some_values : chkSs T ["kind", "many", "number"] (defScope (topS 12)) b_some_values (defBody (topS 12)) = true := by decide +kernel
theorem sc__law_cell : FnScope ["script", "k"] ["script", "k"] (defScope (topS 14)) := ⟨rfl, rfl, rfl, by decide +kernel, rfl, by decide +kernel, by decide +kernel⟩
theorem ck__law_cell : chkSs T ["script", "k"] (defScope (topS 14)) b__law_cell (defBody (topS 14)) = true := by decide +kernel
theorem sc__law_mix : FnScope ["cell", "prime", "many", "blend"] ["cell", "prime", "many"] (defScope (topS 15)) := ⟨rfl, rfl, rfl, by decide +kernel, rfl, by decide +kernel, by decide +kernel⟩
theorem ck__law_mix : chkSs T ["cell", "prime", "many", "blend"] (defScope (topS 15)) b__law_mix (defBody (topS 15)) = true := by decide +kernel
theorem sc__law_kind : FnScope ["cell", "deep", "way", "low", "found", "k", "value"] ["cell", "deep"] (defScope (topS 16)) := ⟨rfl, rfl, rfl, by decide +kernel, rfl, by decide +kernel, by decide +kernel⟩
theorem ck__law_kind : chkSs T ["cell", "deep", "way", "low", "found", "k", "value"] (defScope (topS 16)) b__law_kind (defBody (topS 16)) = true := by decide +kernel
theorem sc__law_simple : FnScope ["cell", "way"] ["cell"] (defScope (topS 17)) := ⟨rfl, rfl, rfl, by decide +kernel, rfl, by decide +kernel, by decide +kernel⟩
theorem ck__law_simple : chkSs T ["cell", "way"] (defScope (topS 17)) b__law_simple (defBody (topS 17)) = true := by decide +kernel
theorem sc__law_of : FnScope ["value", "kind", "one"] ["value", "kind"] (defScope (topS 18)) := ⟨rfl, rfl, rfl, by decide +kernel, rfl, by decide +kernel, by decide +kernel⟩
theorem ck__law_of : chkSs T ["value", "kind", "one"] (defScope (topS 18)) b__law_of (defBody (topS 18)) = true := by decide +kernel
theorem sc__law_count : FnScope ["kind", "most", "inner", "found", "here", "size"] ["kind", "most"] (defScope (topS 19)) := ⟨rfl, rfl, rfl, by decide +kernel, rfl, by decide +kernel, by decide +kernel⟩
theorem ck__law_count : chkSs T ["kind", "most", "inner", "found", "here", "size"] (defScope (topS 19)) b__law_count (defBody (topS 19)) = true := by decide +kernel
theorem sc_law : FnScope ["script", "kinds", "k", "kind", "many", "found", "value"] ["script"] (defScope (topS 20)) := ⟨rfl, rfl, rfl, by decide +kernel, rfl, by decide +kernel, by decide +kernel⟩
theorem ck_law : chkSs T ["script", "kinds", "k", "kind", "many", "found", "value"] (defScope (topS 20)) b_law (defBody (topS 20)) = true := by decide +kernel
theorem all_mk {K : PySem.W.Frag} {h : Heap} {mg : Str → Option Value} {fa : Addr} (X : K.In h) (G : h.Ns mainGlobals mg) (hfa : mg "law" = some (.ref fa))
    {a0 : Addr} {od0 an0 : Option Addr} {sl0 : Array (Option Value)} {oc0 kV0 dc0 pm0 cd0 ct0 : Value}
    {a1 : Addr} {od1 an1 : Option Addr} {sl1 : Array (Option Value)} {oc1 kV1 dc1 pm1 cd1 ct1 : Value}
    {a2 : Addr} {od2 an2 : Option Addr} {sl2 : Array (Option Value)} {oc2 kV2 dc2 pm2 cd2 ct2 : Value}
    {a3 : Addr} {od3 an3 : Option Addr} {sl3 : Array (Option Value)} {oc3 kV3 dc3 pm3 cd3 ct3 : Value}
    {a4 : Addr} {od4 an4 : Option Addr} {sl4 : Array (Option Value)} {oc4 kV4 dc4 pm4 cd4 ct4 : Value}
    {a5 : Addr} {od5 an5 : Option Addr} {sl5 : Array (Option Value)} {oc5 kV5 dc5 pm5 cd5 ct5 : Value}
    {a6 : Addr} {od6 an6 : Option Addr} {sl6 : Array (Option Value)} {oc6 kV6 dc6 pm6 cd6 ct6 : Value}
    {a7 : Addr} {od7 an7 : Option Addr} {sl7 : Array (Option Value)} {oc7 kV7 dc7 pm7 cd7 ct7 : Value}
    {a8 : Addr} {od8 an8 : Option Addr} {sl8 : Array (Option Value)} {oc8 kV8 dc8 pm8 cd8 ct8 : Value}
    {a9 : Addr} {od9 an9 : Option Addr} {sl9 : Array (Option Value)} {oc9 kV9 dc9 pm9 cd9 ct9 : Value}
    {a10 : Addr} {od10 an10 : Option Addr} {sl10 : Array (Option Value)} {oc10 kV10 dc10 pm10 cd10 ct10 : Value}
    {a11 : Addr} {od11 an11 : Option Addr} {sl11 : Array (Option Value)} {oc11 kV11 dc11 pm11 cd11 ct11 : Value}
    {a12 : Addr} {od12 an12 : Option Addr} {sl12 : Array (Option Value)} {oc12 kV12 dc12 pm12 cd12 ct12 : Value}
    {a13 : Addr} {od13 an13 : Option Addr} {sl13 : Array (Option Value)} {oc13 kV13 dc13 pm13 cd13 ct13 : Value}
    {a14 : Addr} {od14 an14 : Option Addr} {sl14 : Array (Option Value)} {oc14 kV14 dc14 pm14 cd14 ct14 : Value}
    {a15 : Addr} {od15 an15 : Option Addr} {sl15 : Array (Option Value)} {oc15 kV15 dc15 pm15 cd15 ct15 : Value}
    {gt0 : Tok}
    {ga1 : Addr} {gd1 : Option Addr} {gn1 : Nat} {gs1 : Array (Option Value)} {gt1_0 gt1_1 gt1_2 gt1_3 gt1_4 gt1_5 gt1_6 gt1_7 gt1_8 gt1_9 gt1_10 gt1_11 : Tok}
    (n0 : PySem.W.nsIn K mainGlobals "is_number" = some (some (.ref a0))) (l0 : K.lookup a0 = some ⟨oc0, od0, .func (PySem.W.fnOf "is_number" "is_number" (defArgs (topS 3)) (defBody (topS 3)) (defScope (topS 3)) .none kV0 dc0 pm0 an0 cd0 ct0), sl0⟩) (c0 : PySem.W.codeIn K cd0 "is_number" = true) (k0 : PySem.W.keepIn K (.ref a0) = true)
    (n1 : PySem.W.nsIn K mainGlobals "days_in" = some (some (.ref a1))) (l1 : K.lookup a1 = some ⟨oc1, od1, .func (PySem.W.fnOf "days_in" "days_in" (defArgs (topS 4)) (defBody (topS 4)) (defScope (topS 4)) .none kV1 dc1 pm1 an1 cd1 ct1), sl1⟩) (c1 : PySem.W.codeIn K cd1 "days_in" = true) (k1 : PySem.W.keepIn K (.ref a1) = true)
    (n2 : PySem.W.nsIn K mainGlobals "is_day" = some (some (.ref a2))) (l2 : K.lookup a2 = some ⟨oc2, od2, .func (PySem.W.fnOf "is_day" "is_day" (defArgs (topS 5)) (defBody (topS 5)) (defScope (topS 5)) .none kV2 dc2 pm2 an2 cd2 ct2), sl2⟩) (c2 : PySem.W.codeIn K cd2 "is_day" = true) (k2 : PySem.W.keepIn K (.ref a2) = true)
    (n3 : PySem.W.nsIn K mainGlobals "is_value_so_deep" = some (some (.ref a3))) (l3 : K.lookup a3 = some ⟨oc3, od3, .func (PySem.W.fnOf "is_value_so_deep" "is_value_so_deep" (defArgs (topS 6)) (defBody (topS 6)) (defScope (topS 6)) .none kV3 dc3 pm3 an3 cd3 ct3), sl3⟩) (c3 : PySem.W.codeIn K cd3 "is_value_so_deep" = true) (k3 : PySem.W.keepIn K (.ref a3) = true)
    (n4 : PySem.W.nsIn K mainGlobals "is_value" = some (some (.ref a4))) (l4 : K.lookup a4 = some ⟨oc4, od4, .func (PySem.W.fnOf "is_value" "is_value" (defArgs (topS 7)) (defBody (topS 7)) (defScope (topS 7)) .none kV4 dc4 pm4 an4 cd4 ct4), sl4⟩) (c4 : PySem.W.codeIn K cd4 "is_value" = true) (k4 : PySem.W.keepIn K (.ref a4) = true)
    (n5 : PySem.W.nsIn K mainGlobals "text_number" = some (some (.ref a5))) (l5 : K.lookup a5 = some ⟨oc5, od5, .func (PySem.W.fnOf "text_number" "text_number" (defArgs (topS 9)) (defBody (topS 9)) (defScope (topS 9)) .none kV5 dc5 pm5 an5 cd5 ct5), sl5⟩) (c5 : PySem.W.codeIn K cd5 "text_number" = true) (k5 : PySem.W.keepIn K (.ref a5) = true)
    (n6 : PySem.W.nsIn K mainGlobals "day_number" = some (some (.ref a6))) (l6 : K.lookup a6 = some ⟨oc6, od6, .func (PySem.W.fnOf "day_number" "day_number" (defArgs (topS 10)) (defBody (topS 10)) (defScope (topS 10)) .none kV6 dc6 pm6 an6 cd6 ct6), sl6⟩) (c6 : PySem.W.codeIn K cd6 "day_number" = true) (k6 : PySem.W.keepIn K (.ref a6) = true)
    (n7 : PySem.W.nsIn K mainGlobals "some_lists" = some (some (.ref a7))) (l7 : K.lookup a7 = some ⟨oc7, od7, .func (PySem.W.fnOf "some_lists" "some_lists" (defArgs (topS 11)) (defBody (topS 11)) (defScope (topS 11)) .none kV7 dc7 pm7 an7 cd7 ct7), sl7⟩) (c7 : PySem.W.codeIn K cd7 "some_lists" = true) (k7 : PySem.W.keepIn K (.ref a7) = true)
    (n8 : PySem.W.nsIn K mainGlobals "some_values" = some (some (.ref a8))) (l8 : K.lookup a8 = some ⟨oc8, od8, .func (PySem.W.fnOf "some_values" "some_values" (defArgs (topS 12)) (defBody (topS 12)) (defScope (topS 12)) .none kV8 dc8 pm8 an8 cd8 ct8), sl8⟩) (c8 : PySem.W.codeIn K cd8 "some_values" = true) (k8 : PySem.W.keepIn K (.ref a8) = true)
    (n9 : PySem.W.nsIn K mainGlobals "_law_cell" = some (some (.ref a9))) (l9 : K.lookup a9 = some ⟨oc9, od9, .func (PySem.W.fnOf "_law_cell" "_law_cell" (defArgs (topS 14)) (defBody (topS 14)) (defScope (topS 14)) .none kV9 dc9 pm9 an9 cd9 ct9), sl9⟩) (c9 : PySem.W.codeIn K cd9 "_law_cell" = true) (k9 : PySem.W.keepIn K (.ref a9) = true)
    (n10 : PySem.W.nsIn K mainGlobals "_law_mix" = some (some (.ref a10))) (l10 : K.lookup a10 = some ⟨oc10, od10, .func (PySem.W.fnOf "_law_mix" "_law_mix" (defArgs (topS 15)) (defBody (topS 15)) (defScope (topS 15)) .none kV10 dc10 pm10 an10 cd10 ct10), sl10⟩) (c10 : PySem.W.codeIn K cd10 "_law_mix" = true) (k10 : PySem.W.keepIn K (.ref a10) = true)
    (n11 : PySem.W.nsIn K mainGlobals "_law_kind" = some (some (.ref a11))) (l11 : K.lookup a11 = some ⟨oc11, od11, .func (PySem.W.fnOf "_law_kind" "_law_kind" (defArgs (topS 16)) (defBody (topS 16)) (defScope (topS 16)) .none kV11 dc11 pm11 an11 cd11 ct11), sl11⟩) (c11 : PySem.W.codeIn K cd11 "_law_kind" = true) (k11 : PySem.W.keepIn K (.ref a11) = true)
    (n12 : PySem.W.nsIn K mainGlobals "_law_simple" = some (some (.ref a12))) (l12 : K.lookup a12 = some ⟨oc12, od12, .func (PySem.W.fnOf "_law_simple" "_law_simple" (defArgs (topS 17)) (defBody (topS 17)) (defScope (topS 17)) .none kV12 dc12 pm12 an12 cd12 ct12), sl12⟩) (c12 : PySem.W.codeIn K cd12 "_law_simple" = true) (k12 : PySem.W.keepIn K (.ref a12) = true)
    (n13 : PySem.W.nsIn K mainGlobals "_law_of" = some (some (.ref a13))) (l13 : K.lookup a13 = some ⟨oc13, od13, .func (PySem.W.fnOf "_law_of" "_law_of" (defArgs (topS 18)) (defBody (topS 18)) (defScope (topS 18)) .none kV13 dc13 pm13 an13 cd13 ct13), sl13⟩) (c13 : PySem.W.codeIn K cd13 "_law_of" = true) (k13 : PySem.W.keepIn K (.ref a13) = true)
    (n14 : PySem.W.nsIn K mainGlobals "_law_count" = some (some (.ref a14))) (l14 : K.lookup a14 = some ⟨oc14, od14, .func (PySem.W.fnOf "_law_count" "_law_count" (defArgs (topS 19)) (defBody (topS 19)) (defScope (topS 19)) .none kV14 dc14 pm14 an14 cd14 ct14), sl14⟩) (c14 : PySem.W.codeIn K cd14 "_law_count" = true) (k14 : PySem.W.keepIn K (.ref a14) = true)
    (n15 : PySem.W.nsIn K mainGlobals "law" = some (some (.ref a15))) (l15 : K.lookup a15 = some ⟨oc15, od15, .func (PySem.W.fnOf "law" "law" (defArgs (topS 20)) (defBody (topS 20)) (defScope (topS 20)) .none kV15 dc15 pm15 an15 cd15 ct15), sl15⟩) (c15 : PySem.W.codeIn K cd15 "law" = true) (k15 : PySem.W.keepIn K (.ref a15) = true)
    (qg0 : PySem.W.nsIn K mainGlobals "MOST" = some (some (.int 999999999 gt0)))
    (qg1 : PySem.W.nsIn K mainGlobals "MONTHS" = some (some (.ref ga1))) (ql1 : K.lookup ga1 = some ⟨.type "tuple", gd1, .seq #[.int 31 gt1_0, .int 28 gt1_1, .int 31 gt1_2, .int 30 gt1_3, .int 31 gt1_4, .int 30 gt1_5, .int 31 gt1_6, .int 31 gt1_7, .int 30 gt1_8, .int 31 gt1_9, .int 30 gt1_10, .int 31 gt1_11] gn1, gs1⟩)
    (z0 : PySem.W.nsIn K mainGlobals "len" = some none)
    (z1 : PySem.W.nsIn K mainGlobals "all" = some none)
    (z2 : PySem.W.nsIn K mainGlobals "any" = some none)
    (z3 : PySem.W.nsIn K mainGlobals "tuple" = some none)
    (z4 : PySem.W.nsIn K mainGlobals "list" = some none)
    (z5 : PySem.W.nsIn K mainGlobals "str" = some none)
    (z6 : PySem.W.nsIn K mainGlobals "int" = some none)
    (z7 : PySem.W.nsIn K mainGlobals "isinstance" = some none)
    (z8 : PySem.W.nsIn K mainGlobals "bool" = some none)
    (z9 : PySem.W.nsIn K mainGlobals "range" = some none)
    (z10 : PySem.W.nsIn K mainGlobals "enumerate" = some none)
    (z11 : PySem.W.nsIn K mainGlobals "zip" = some none)
    (z12 : PySem.W.nsIn K mainGlobals "sorted" = some none)
    (z13 : PySem.W.nsIn K mainGlobals "dict" = some none)
    (z14 : PySem.W.nsIn K mainGlobals "set" = some none)
    (z15 : PySem.W.nsIn K mainGlobals "min" = some none)
    (z16 : PySem.W.nsIn K mainGlobals "max" = some none)
    (z17 : PySem.W.nsIn K mainGlobals "ValueError" = some none)
    : (∀ f x np, T.fns[f]? = some (x, np) → ∃ a fd ps, DefIs K mg T tab f x np a fd ps) ∧ (∃ fd, DefIs K mg T tab 15 "law" 1 fa fd ["script"]) ∧
      (∀ (k : Nat) (x : Str), T.gls[k]? = some x → ∃ (d : Dt) (v : V) (u : Value), gls[k]? = some d ∧ mg x = some u ∧ RelV v u ∧ ∀ av H, Rep K av H d v) ∧
      (∀ x ∈ bltNames, mg (Str.ofString x) = none) ∧ (∀ (c : Nat) (x : Str), T.xcs[c]? = some (x, []) → XcOk (xtK K T.xcs) K mg c x) := by
  have D0 : DefIs K mg T tab 0 "is_number" 3 a0 _ ["thing", "low", "high"] := ⟨topS 3, "is_number", _, f_is_number, fun_mk (st := topS 3) l0 c0 k0, sc_is_number, PySem.W.mg_of X G n0, fun us hl => match us, hl with | [_, _, _], _ => rfl, rfl, rfl, rfl, rfl, .inl ck_is_number⟩
  have D1 : DefIs K mg T tab 1 "days_in" 2 a1 _ ["year", "month"] := ⟨topS 4, "days_in", _, f_days_in, fun_mk (st := topS 4) l1 c1 k1, sc_days_in, PySem.W.mg_of X G n1, fun us hl => match us, hl with | [_, _], _ => rfl, rfl, rfl, rfl, rfl, .inl ck_days_in⟩
  have D2 : DefIs K mg T tab 2 "is_day" 1 a2 _ ["thing"] := ⟨topS 5, "is_day", _, f_is_day, fun_mk (st := topS 5) l2 c2 k2, sc_is_day, PySem.W.mg_of X G n2, fun us hl => match us, hl with | [_], _ => rfl, rfl, rfl, rfl, rfl, .inl ck_is_day⟩
  have D3 : DefIs K mg T tab 3 "is_value_so_deep" 2 a3 _ ["thing", "deep"] := ⟨topS 6, "is_value_so_deep", _, f_is_value_so_deep, fun_mk (st := topS 6) l3 c3 k3, sc_is_value_so_deep, PySem.W.mg_of X G n3, fun us hl => match us, hl with | [_, _], _ => rfl, rfl, rfl, rfl, rfl, .inl ck_is_value_so_deep⟩
  have D4 : DefIs K mg T tab 4 "is_value" 1 a4 _ ["thing"] := ⟨topS 7, "is_value", _, f_is_value, fun_mk (st := topS 7) l4 c4 k4, sc_is_value, PySem.W.mg_of X G n4, fun us hl => match us, hl with | [_], _ => rfl, rfl, rfl, rfl, rfl, .inl ck_is_value⟩
  have D5 : DefIs K mg T tab 5 "text_number" 1 a5 _ ["number"] := ⟨topS 9, "text_number", _, f_text_number, fun_mk (st := topS 9) l5 c5 k5, sc_text_number, PySem.W.mg_of X G n5, fun us hl => match us, hl with | [_], _ => rfl, rfl, rfl, rfl, rfl, .inl ck_text_number⟩
  have D6 : DefIs K mg T tab 6 "day_number" 1 a6 _ ["number"] := ⟨topS 10, "day_number", _, f_day_number, fun_mk (st := topS 10) l6 c6 k6, sc_day_number, PySem.W.mg_of X G n6, fun us hl => match us, hl with | [_], _ => rfl, rfl, rfl, rfl, rfl, .inl ck_day_number⟩
  have D7 : DefIs K mg T tab 7 "some_lists" 3 a7 _ ["kind", "most", "many"] := ⟨topS 11, "some_lists", _, f_some_lists, fun_mk (st := topS 11) l7 c7 k7, sc_some_lists, PySem.W.mg_of X G n7, fun us hl => match us, hl with | [_, _, _], _ => rfl, rfl, rfl, rfl, rfl, .inl ck_some_lists⟩
  have D8 : DefIs K mg T tab 8 "some_values" 2 a8 _ ["kind", "many"] := ⟨topS 12, "some_values", _, f_some_values, fun_mk (st := topS 12) l8 c8 k8, sc_some_values, PySem.W.mg_of X G n8, fun us hl => match us, hl with | [_, _], _ => rfl, rfl, rfl, rfl, rfl, .inl ck_some_values⟩
  have D9 : DefIs K mg T tab 9 "_law_cell" 2 a9 _ ["script", "k"] := ⟨topS 14, "_law_cell", _, f__law_cell, fun_mk (st := topS 14) l9 c9 k9, sc__law_cell, PySem.W.mg_of X G n9, fun us hl => match us, hl with | [_, _], _ => rfl, rfl, rfl, rfl, rfl, .inl ck__law_cell⟩
  have D10 : DefIs K mg T tab 10 "_law_mix" 3 a10 _ ["cell", "prime", "many"] := ⟨topS 15, "_law_mix", _, f__law_mix, fun_mk (st := topS 15) l10 c10 k10, sc__law_mix, PySem.W.mg_of X G n10, fun us hl => match us, hl with | [_, _, _], _ => rfl, rfl, rfl, rfl, rfl, .inl ck__law_mix⟩
  have D11 : DefIs K mg T tab 11 "_law_kind" 2 a11 _ ["cell", "deep"] := ⟨topS 16, "_law_kind", _, f__law_kind, fun_mk (st := topS 16) l11 c11 k11, sc__law_kind, PySem.W.mg_of X G n11, fun us hl => match us, hl with | [_, _], _ => rfl, rfl, rfl, rfl, rfl, .inl ck__law_kind⟩
  have D12 : DefIs K mg T tab 12 "_law_simple" 1 a12 _ ["cell"] := ⟨topS 17, "_law_simple", _, f__law_simple, fun_mk (st := topS 17) l12 c12 k12, sc__law_simple, PySem.W.mg_of X G n12, fun us hl => match us, hl with | [_], _ => rfl, rfl, rfl, rfl, rfl, .inl ck__law_simple⟩
  have D13 : DefIs K mg T tab 13 "_law_of" 2 a13 _ ["value", "kind"] := ⟨topS 18, "_law_of", _, f__law_of, fun_mk (st := topS 18) l13 c13 k13, sc__law_of, PySem.W.mg_of X G n13, fun us hl => match us, hl with | [_, _], _ => rfl, rfl, rfl, rfl, rfl, .inl ck__law_of⟩
  have D14 : DefIs K mg T tab 14 "_law_count" 2 a14 _ ["kind", "most"] := ⟨topS 19, "_law_count", _, f__law_count, fun_mk (st := topS 19) l14 c14 k14, sc__law_count, PySem.W.mg_of X G n14, fun us hl => match us, hl with | [_, _], _ => rfl, rfl, rfl, rfl, rfl, .inl ck__law_count⟩
  have D15 : DefIs K mg T tab 15 "law" 1 a15 _ ["script"] := ⟨topS 20, "law", _, f_law, fun_mk (st := topS 20) l15 c15 k15, sc_law, PySem.W.mg_of X G n15, fun us hl => match us, hl with | [_], _ => rfl, rfl, rfl, rfl, rfl, .inl ck_law⟩
  have e := hfa.symm.trans (PySem.W.mg_of X G n15)
  cases e
  refine ⟨AllDefs.get (L := T.fns) ⟨⟨_, _, _, D0⟩, ⟨_, _, _, D1⟩, ⟨_, _, _, D2⟩, ⟨_, _, _, D3⟩, ⟨_, _, _, D4⟩, ⟨_, _, _, D5⟩, ⟨_, _, _, D6⟩, ⟨_, _, _, D7⟩, ⟨_, _, _, D8⟩, ⟨_, _, _, D9⟩, ⟨_, _, _, D10⟩, ⟨_, _, _, D11⟩, ⟨_, _, _, D12⟩, ⟨_, _, _, D13⟩, ⟨_, _, _, D14⟩, ⟨_, _, _, D15⟩, trivial⟩, ⟨_, D15⟩, AllGl.get (L := T.gls) ⟨?_, ?_, trivial⟩, AllBlt.get (L := bltNames) ⟨PySem.W.mg_none_of X G z0, PySem.W.mg_none_of X G z1, PySem.W.mg_none_of X G z2, PySem.W.mg_none_of X G z3, PySem.W.mg_none_of X G z4, PySem.W.mg_none_of X G z5, PySem.W.mg_none_of X G z6, PySem.W.mg_none_of X G z7, PySem.W.mg_none_of X G z8, PySem.W.mg_none_of X G z9, PySem.W.mg_none_of X G z10, PySem.W.mg_none_of X G z11, PySem.W.mg_none_of X G z12, PySem.W.mg_none_of X G z13, PySem.W.mg_none_of X G z14, PySem.W.mg_none_of X G z15, PySem.W.mg_none_of X G z16, PySem.W.mg_none_of X G z17, trivial⟩, AllXc.get (L := T.xcs) trivial⟩
  · exact ⟨_, .int 999999999, _, rfl, PySem.W.mg_of X G qg0, ⟨_, rfl⟩, fun av H => .int _⟩
  · exact ⟨_, .ref ga1, _, rfl, PySem.W.mg_of X G qg1, rfl, fun av H => .tupK ⟨_, _, _, ql1, rfl, rfl, Nat.le_of_ble_eq_true rfl, (show Vals [.int 31, .int 28, .int 31, .int 30, .int 31, .int 30, .int 31, .int 31, .int 30, .int 31, .int 30, .int 31] _ from .cons ⟨_, rfl⟩ (.cons ⟨_, rfl⟩ (.cons ⟨_, rfl⟩ (.cons ⟨_, rfl⟩ (.cons ⟨_, rfl⟩ (.cons ⟨_, rfl⟩ (.cons ⟨_, rfl⟩ (.cons ⟨_, rfl⟩ (.cons ⟨_, rfl⟩ (.cons ⟨_, rfl⟩ (.cons ⟨_, rfl⟩ (.cons ⟨_, rfl⟩ (.nil)))))))))))))⟩ (.cons (.int _) (.cons (.int _) (.cons (.int _) (.cons (.int _) (.cons (.int _) (.cons (.int _) (.cons (.int _) (.cons (.int _) (.cons (.int _) (.cons (.int _) (.cons (.int _) (.cons (.int _) (.nil)))))))))))))⟩

end PBX

set_option maxRecDepth 100000 in
set_option maxHeartbeats 0 in
theorem PySem.Challenge.cw_laysheets_k27_some_values_holds : PySem.Challenge.rw_laysheets_k27_some_values.Holds := by
  w_on; o_law; k_head; (case hw => w_witness2)
  k_fill
  refine PB.walk_law (l := PySem.Challenge.rw_laysheets_k27_some_values) PBX.T PBX.tab PBX.gls PBX.fuel 15 rfl rfl ⟨rfl, by decide, by decide⟩ (fun w h Y => PySem.W.kIn_of Y) ?F PBX.law_ok
  case F =>
    intro w mg fa h KX G hmg
    refine' PBX.all_mk KX G hmg ?n0 ?l0 ?c0 ?k0 ?n1 ?l1 ?c1 ?k1 ?n2 ?l2 ?c2 ?k2 ?n3 ?l3 ?c3 ?k3 ?n4 ?l4 ?c4 ?k4 ?n5 ?l5 ?c5 ?k5 ?n6 ?l6 ?c6 ?k6 ?n7 ?l7 ?c7 ?k7 ?n8 ?l8 ?c8 ?k8 ?n9 ?l9 ?c9 ?k9 ?n10 ?l10 ?c10 ?k10 ?n11 ?l11 ?c11 ?k11 ?n12 ?l12 ?c12 ?k12 ?n13 ?l13 ?c13 ?k13 ?n14 ?l14 ?c14 ?k14 ?n15 ?l15 ?c15 ?k15 ?qg0 ?qg1 ?ql1 ?z0 ?z1 ?z2 ?z3 ?z4 ?z5 ?z6 ?z7 ?z8 ?z9 ?z10 ?z11 ?z12 ?z13 ?z14 ?z15 ?z16 ?z17
    (case n0 => k_is); (case l0 => k_is); (case c0 => k_is); (case k0 => k_is); (case n1 => k_is); (case l1 => k_is); (case c1 => k_is); (case k1 => k_is)
    (case n2 => k_is); (case l2 => k_is); (case c2 => k_is); (case k2 => k_is); (case n3 => k_is); (case l3 => k_is); (case c3 => k_is); (case k3 => k_is)
    (case n4 => k_is); (case l4 => k_is); (case c4 => k_is); (case k4 => k_is); (case n5 => k_is); (case l5 => k_is); (case c5 => k_is); (case k5 => k_is)
    (case n6 => k_is); (case l6 => k_is); (case c6 => k_is); (case k6 => k_is); (case n7 => k_is); (case l7 => k_is); (case c7 => k_is); (case k7 => k_is)
    (case n8 => k_is); (case l8 => k_is); (case c8 => k_is); (case k8 => k_is); (case n9 => k_is); (case l9 => k_is); (case c9 => k_is); (case k9 => k_is)
    (case n10 => k_is); (case l10 => k_is); (case c10 => k_is); (case k10 => k_is); (case n11 => k_is); (case l11 => k_is); (case c11 => k_is); (case k11 => k_is)
    (case n12 => k_is); (case l12 => k_is); (case c12 => k_is); (case k12 => k_is); (case n13 => k_is); (case l13 => k_is); (case c13 => k_is); (case k13 => k_is)
    (case n14 => k_is); (case l14 => k_is); (case c14 => k_is); (case k14 => k_is); (case n15 => k_is); (case l15 => k_is); (case c15 => k_is); (case k15 => k_is)
    (case qg0 => k_is); (case qg1 => k_is); (case ql1 => k_is); (case z0 => k_is); (case z1 => k_is); (case z2 => k_is); (case z3 => k_is); (case z4 => k_is)
    (case z5 => k_is); (case z6 => k_is); (case z7 => k_is); (case z8 => k_is); (case z9 => k_is); (case z10 => k_is); (case z11 => k_is); (case z12 => k_is)
    (case z13 => k_is); (case z14 => k_is); (case z15 => k_is); (case z16 => k_is); (case z17 => k_is)
