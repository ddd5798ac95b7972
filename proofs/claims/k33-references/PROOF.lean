import PyProof.Rows.All
import Wide.All
import OpenK.AllK
import Wide.FinOn
import HandS.ForMost
import HandS.ForExc
import HandS.IsInst
import HandS.ExcIs
import HandS.Walk
import HandS.Flow
import HandS.Style
import HandS.Deep
import HandS.TupAny
import HandS.TupMul
import HandS.StrMore
import HandS.CallSlots
import HandS.Zip
import KE.GoesEnum
import KE.GoesMore
import PyProof.Draws
import HandS.ReplaceDef
import HandS.ReplaceLit
import PyProof.StrLawsReplace
import KE.IntTextLaws
import HandS.MapJoin
import PyProof.StrLawsTight
import PyProof.StrLawsChain
import PyProof.Rows.StrItems
import KE.DataCmp
import KE.SortCalls
import KE.SortKeyed
import KE.SortData
import HandS.TupSets
import KE.KeyNested
import KE.KDictKeyed
import HandS.Strs
import KE.DataEq
import HandS.TupLe
import PyProof.Transfer
import HandS.ExcCtx
import HandS.SuiteRaise
import HandS.RaiseFrom
import KE.KExcIs
import HandS.ExcInit
import HandS.ExcField
import PyProof.StrLawsFrom
import KE.KDictPairs
import KE.KDictSum
import KE.KDictCopyH
import HandS.Conv
import HandS.TryOnly
import PySem.Challenge.RW_laysheets_k33_references
set_option Elab.async false
set_option linter.all false
set_option maxRecDepth 100000
set_option maxHeartbeats 4000000
set_option backward.match.sparseCases false
/-! The own language: data, syntax, meaning. -/
namespace PB
open PySem

/-- data without objects -/
inductive Dt where
  | non
  | bl (b : Bool)
  | int (i : Int)
  | str (s : List Nat)
  | tup (xs : List Dt)
  | lst (xs : List Dt)
  /-- the script: read by len and by place alone -/
  | scr (ns : List Int)
  deriving Inhabited

/-- what a name holds: data, or an object of the store -/
inductive Wv where
  | d (x : Dt)
  | ob (n : Nat)
  /-- a dict that does not change -/
  | dc (kvs : List (Dt × Dt))
  deriving Inhabited

/-- an object of the store: a list, a dict that may change -/
inductive Ob where
  | lst (xs : List Dt)
  | dic (kvs : List (Dt × Dt))
  deriving Inhabited

inductive Rs (α : Type) where
  | ok (a : α)
  | exc (c : Nat) (fs : List Dt) (st : List Ob)
  | bad
  deriving Inhabited

def Rs.bind {α β : Type} (x : Rs α) (f : α → Rs β) : Rs β :=
  match x with
  | .ok a => f a
  | .exc c fs st => .exc c fs st
  | .bad => .bad
def Rs.ofO {α : Type} : Option α → Rs α
  | some a => .ok a
  | none => .bad
@[simp] theorem Rs.bind_ok {α β : Type} (a : α) (f : α → Rs β) : Rs.bind (.ok a) f = f a := rfl
@[simp] theorem Rs.bind_exc {α β : Type} (c : Nat) (fs : List Dt) (st : List Ob) (f : α → Rs β) : Rs.bind (.exc c fs st) f = .exc c fs st := rfl
@[simp] theorem Rs.bind_bad {α β : Type} (f : α → Rs β) : Rs.bind .bad f = .bad := rfl
@[simp] theorem Rs.ofO_some {α : Type} (a : α) : Rs.ofO (some a) = .ok a := rfl
@[simp] theorem Rs.ofO_none {α : Type} : Rs.ofO (none : Option α) = .bad := rfl

abbrev Ev := List (Option Wv)
abbrev Sr := List Ob

inductive Bop where | add | sub | mul | fdiv | mod
  deriving DecidableEq
inductive Cop where | eq | ne | lt | le | gt | ge | is | isnot | inn | notin
  deriving DecidableEq
inductive Ty where | str | int | bool | tuple | list
  deriving DecidableEq
/-- builtins of one argument -/
inductive P1 where | len | all | any | tuple | list | str | int | sorted
  deriving DecidableEq
/-- methods of texts with one argument -/
inductive B2 where
  | min
  | max
  deriving DecidableEq
inductive M1 where | join | zfill | split
  deriving DecidableEq

/-- builtins of one argument, a dict -/
inductive PD where | len | list | sorted
  deriving DecidableEq

inductive Tg where
  | one (i : Nat)
  | many (is : List Nat)
  | nst (i : Nat) (is : List Nat)

mutual
inductive Ex where
  | v (i : Nat)
  | non
  | bl (b : Bool)
  | int (i : Int)
  | str (s : List Nat)
  | g (k : Nat)
  | bin (o : Bop) (a b : Ex)
  | neg (a : Ex)
  | not (a : Ex)
  | and (es : Exs)
  | or (es : Exs)
  | cmp (o : Cop) (a b : Ex)
  | cmp2 (o o' : Cop) (a b c : Ex)
  | call (f : Nat) (es : Exs)
  /-- a call with no argument, which does not raise -/
  | call0 (f : Nat)
  | p1 (p : P1) (a : Ex)
  /-- len(set(a)) -/
  | lens (a : Ex)
  | ssort (a : Ex)
  | find (a : Ex) (c : Nat) (i : Ex)
  | popi (i : Nat) (e : Ex)
  /-- list(range(a)) -/
  | lrng (a : Ex)
  | isi (a : Ex) (t : Ty)
  | isi2 (a : Ex) (t u : Ty)
  | m1 (m : M1) (a b : Ex)
  | b2 (o : B2) (a b : Ex)
  | rev (a : Ex)
  | ix (a i : Ex)
  | sl (a : Ex) (lo hi : Exo)
  | tup (es : Exs)
  | lst (es : Exs)
  | lc (elt : Ex) (tg : Tg) (it : Itx) (ifs : Exs)
  /-- a comprehension over a dict: no object changes meanwhile -/
  | lcz (elt : Ex) (tg : Tg) (it : Itx) (ifs : Exs)
  | dnew
  | dict (a : Ex)
  | dix (a k : Ex)
  | dget (a k x : Ex)
  | din (neg : Bool) (k a : Ex)
  | pd (p : PD) (a : Ex)
inductive Exs where
  | nil
  | cons (e : Ex) (es : Exs)
inductive Exo where
  | no
  | yes (e : Ex)
inductive Itx where
  | seq (e : Ex)
  | rng1 (e : Ex)
  | rng2 (a b : Ex)
  | enm (e : Ex)
  | zip (a b : Ex)
end

/-- what is asked of a caught exception: of which class it is (none: ValueError) -/
inductive Xe where
  | isi (c : Option Nat)
  | not (a : Xe)
  | and (a b : Xe)
  | or (a b : Xe)
/-- what a suite tells of it -/
inductive Xv where
  | b (x : Xe)
  | fld (j : Nat)
  | str (s : List Nat)
  | non
  /-- ("..", "..")[int(x)] -/
  | sel (s t : List Nat) (x : Xe)
inductive Xs where
  | one (x : Xv)
  | many (xs : List Xv)
  | sel (s t : List Nat) (x : Xe)
/-- the first class stands above the others, and those beside one another -/
def subB (c k : Nat) : Bool := k == 0 || c == k
def xeB (c : Nat) : Xe → Bool
  | .isi none => true
  | .isi (some k) => subB c k
  | .not a => !xeB c a
  | .and a b => xeB c a && xeB c b
  | .or a b => xeB c a || xeB c b
mutual
inductive Sm where
  | set (i : Nat) (e : Ex)
  | setL (i : Nat) (e : Ex)
  | unp (is : List Nat) (e : Ex)
  | ret (e : Ex)
  | ife (c : Ex) (a b : Sms)
  | forS (tg : Tg) (it : Itx) (b : Sms)
  | whl (c : Ex) (b : Sms)
  | app (i : Nat) (e : Ex)
  | ext (i : Nat) (e : Ex)
  | expr (e : Ex)
  | brk
  | cnt
  | pass
  | never
  /-- an exception of the program's own, with no fields -/
  | rai (c : Nat)
  /-- .. with fields -/
  | raiF (c : Nat) (es : Exs)
  /-- x, y = a, b -/
  | par (i j : Nat) (a b : Ex)
  /-- a try whose body does not raise -/
  | tryN (c : Nat) (b : Sms)
  /-- a try whose suite tells of which classes the exception (at name i) is, at name j -/
  | tryX (c : Nat) (b : Sms) (i j : Nat) (xs : Xs)
  /-- a try whose suite, which does not name the exception, sets a constant -/
  | tryV (c : Nat) (b : Sms) (j : Nat) (x : Xv)
  /-- a try whose suite raises: except c: raise k(..) from None -/
  | tryR (c k : Nat) (b : Sms)
  /-- a dict's item is set; d.update(a dict); d.pop(k), which is there -/
  | put (i : Nat) (k e : Ex)
  | upd (i : Nat) (e : Ex)
  | popd (i : Nat) (k : Ex)
  /-- the whole body of the def that quotes a text -/
  | quo (i : Nat)
inductive Sms where
  | nil
  | cons (s : Sm) (r : Sms)
end

def Exs.isNil : Exs → Bool
  | .nil => true
  | .cons _ _ => false

/-! ### operations on data -/
def lim : Nat := 16777216

def eqIntD (i : Int) : Dt → Bool
  | .int j => i == j
  | .bl b => i == (if b then 1 else 0)
  | _ => false
def eqIL : List Int → List Dt → Bool
  | [], [] => true
  | i :: is, y :: ys => eqIntD i y && eqIL is ys
  | _, _ => false
def eqDInt : Dt → Int → Bool
  | .int j, i => j == i
  | .bl b, i => (if b then 1 else 0) == i
  | _, _ => false
def eqLI : List Dt → List Int → Bool
  | [], [] => true
  | y :: ys, i :: is => eqDInt y i && eqLI ys is
  | _, _ => false
mutual
def eqD : Dt → Dt → Bool
  | .non, .non => true
  | .bl a, .bl b => a == b
  | .bl a, .int j => (if a then 1 else 0) == j
  | .int i, .bl b => i == (if b then 1 else 0)
  | .int i, .int j => i == j
  | .str x, .str y => x == y
  | .lst xs, .lst ys => eqDs xs ys
  | .tup xs, .tup ys => eqDs xs ys
  | .scr a, .scr b => a == b
  | .scr a, .lst ys => eqIL a ys
  | .lst xs, .scr b => eqLI xs b
  | _, _ => false
def eqDs : List Dt → List Dt → Bool
  | [], [] => true
  | x :: xs, y :: ys => eqD x y && eqDs xs ys
  | _, _ => false
end
mutual
def depD : Dt → Nat
  | .lst xs => depDs xs + 1
  | .tup xs => depDs xs + 1
  | .scr _ => 1
  | _ => 0
def depDs : List Dt → Nat
  | [] => 0
  | x :: xs => max (depD x) (depDs xs)
end

def truthD : Dt → Bool
  | .non => false
  | .bl b => b
  | .int i => i != 0
  | .str s => !s.isEmpty
  | .tup xs => !xs.isEmpty
  | .lst xs => !xs.isEmpty
  | .scr ns => !ns.isEmpty

/-- within 64 bits -/
def smallI (i : Int) : Prop := -(2 ^ 64) < i ∧ i < 2 ^ 64
instance (i : Int) : Decidable (smallI i) := by unfold smallI; infer_instance
def bopD : Bop → Dt → Dt → Option Dt
  | .add, .int i, .int j => some (.int (i + j))
  | .add, .str a, .str b => if a.length + b.length ≤ lim then some (.str (a ++ b)) else none
  | .add, .tup a, .tup b => if a.length + b.length ≤ lim then some (.tup (a ++ b)) else none
  | .add, .lst a, .lst b => if a.length + b.length ≤ lim then some (.lst (a ++ b)) else none
  | .sub, .int i, .int j => some (.int (i - j))
  | .mul, .int i, .int j => if smallI i ∨ smallI j then some (.int (i * j)) else none
  | .mul, .str a, .int j => if a.length * j.toNat ≤ lim ∧ -(2 ^ 62) < j ∧ j < 2 ^ 62 then some (.str (List.replicate j.toNat a).flatten) else none
  | .mul, .tup a, .int j => if 0 < a.length ∧ 1 ≤ j ∧ j ≤ 1000 ∧ a.length ≤ 1000 then some (.tup (List.replicate j.toNat a).flatten) else none
  | .mul, .lst a, .int j => if 0 < a.length ∧ 1 ≤ j ∧ j ≤ 1000 ∧ a.length ≤ 1000 then some (.lst (List.replicate j.toNat a).flatten) else none
  | .fdiv, .int i, .int j => if 0 < j ∧ j < 1073741824 then some (.int (i / j)) else none
  | .mod, .int i, .int j => if 0 < j then some (.int (i % j)) else none
  | _, _, _ => none

/-- a datum as a row of signs, as its order wants it -/
def keyIs : List Int → List (Int ⊕ List Nat)
  | [] => [.inl 0]
  | i :: is => .inl 1 :: .inl i :: keyIs is
mutual
def keyD : Dt → List (Int ⊕ List Nat)
  | .non => []
  | .bl b => [.inl (if b = true then 1 else 0)]
  | .int n => [.inl n]
  | .str x => [.inr x]
  | .lst xs => keyDs xs
  | .tup xs => keyDs xs
  | .scr ns => keyIs ns
def keyDs : List Dt → List (Int ⊕ List Nat)
  | [] => [.inl 0]
  | x :: xs => .inl 1 :: (keyD x ++ keyDs xs)
end
mutual
/-- of one kind at each place -/
def alikeD : Dt → Dt → Bool
  | .non, .non => true
  | .bl _, .bl _ => true
  | .int _, .int _ => true
  | .str _, .str _ => true
  | .lst xs, .lst ys => alikeDs xs ys
  | .tup xs, .tup ys => alikeDs xs ys
  | _, _ => false
def alikeDs : List Dt → List Dt → Bool
  | x :: xs, y :: ys => alikeD x y && alikeDs xs ys
  | [], _ => true
  | _ :: _, [] => true
end
def signLt : Int ⊕ List Nat → Int ⊕ List Nat → Bool
  | .inl a, .inl b => decide (a < b)
  | .inl _, .inr _ => true
  | .inr _, .inl _ => false
  | .inr a, .inr b => decide (a < b)
def rowLt : List (Int ⊕ List Nat) → List (Int ⊕ List Nat) → Bool
  | [], [] => false
  | [], _ :: _ => true
  | _ :: _, [] => false
  | x :: r, y :: t => signLt x y || (!signLt y x && rowLt r t)
/-- less than, of data that are alike -/
def ltB (x y : Dt) : Bool := rowLt (keyD x) (keyD y)
def ordD (x y : Dt) (b : Bool) : Option Bool := if alikeD x y = true ∧ (depD x ≤ 60 ∨ depD y ≤ 60) then some b else none
/-- can be sorted: alike, and tuples with an item, or no tuples and not None -/
def sortableD (xs : List Dt) : Bool := xs.all (fun x => xs.all (alikeD x)) && (xs.all (fun x => match x with | .tup (_ :: _) => true | _ => false) || xs.all (fun x => match x with | .non => false | .tup _ => false | _ => true)) && decide (depDs xs ≤ 60)
def sortD (xs : List Dt) : List Dt := xs.mergeSort fun a b => !ltB b a
def headD : Dt → Dt
  | .tup (p :: _) => p
  | d => d
def isConsD : Dt → Bool
  | .tup (_ :: _) => true
  | _ => false
def farD : List Dt → Bool
  | [] => true
  | x :: r => r.all (fun y => !eqD (headD x) (headD y) && !eqD (headD y) (headD x)) && farD r
/-- tuples with first items that are alike and all unlike one another -/
def sortableF (xs : List Dt) : Bool := xs.all isConsD && xs.all (fun x => xs.all fun y => alikeD (headD x) (headD y)) && farD xs && decide (depDs xs ≤ 60)
def sortF (xs : List Dt) : List Dt := xs.mergeSort fun a b => !ltB (headD b) (headD a)
/-- the first item, and the first one of the second item -/
def secD : Dt → Dt
  | .tup (h :: .tup (n :: _) :: _) => .tup [h, n]
  | d => d
def isSecD : Dt → Bool
  | .tup (_ :: .tup (_ :: _) :: _) => true
  | _ => false
def far2D : List Dt → Bool
  | [] => true
  | x :: r => r.all (fun y => !eqD (secD x) (secD y) && !eqD (secD y) (secD x)) && far2D r
/-- tuples whose first items and first ones of their second items are alike, and all unlike one another -/
def sortableG (xs : List Dt) : Bool := xs.all isSecD && xs.all (fun x => xs.all fun y => alikeD (secD x) (secD y)) && far2D xs && decide (depDs xs ≤ 60)
def sortG (xs : List Dt) : List Dt := xs.mergeSort fun a b => !ltB (secD b) (secD a)

def isNonD : Dt → Bool
  | .non => true
  | _ => false
def copD : Cop → Dt → Dt → Option Bool
  | .eq, a, b => if depD a ≤ 64 ∨ depD b ≤ 64 then some (eqD a b) else none
  | .ne, a, b => if depD a ≤ 64 ∨ depD b ≤ 64 then some (!eqD a b) else none
  | .lt, .int i, .int j => some (decide (i < j))
  | .le, .int i, .int j => some (decide (i ≤ j))
  | .gt, .int i, .int j => some (decide (j < i))
  | .ge, .int i, .int j => some (decide (j ≤ i))
  | .lt, .str a, .str b => ordD (.str a) (.str b) (ltB (.str a) (.str b))
  | .lt, .tup a, .tup b => ordD (.tup a) (.tup b) (ltB (.tup a) (.tup b))
  | .le, .str a, .str b => ordD (.str a) (.str b) (!ltB (.str b) (.str a))
  | .le, .tup a, .tup b => ordD (.tup a) (.tup b) (!ltB (.tup b) (.tup a))
  | .is, a, .non => some (isNonD a)
  | .is, .bl a, .bl b => some (a == b)
  | .isnot, a, .non => some (!isNonD a)
  | .isnot, .bl a, .bl b => some (!(a == b))
  | .inn, .str [c], .str b => some (decide (c ∈ b))
  | .inn, a, .tup xs => if depD a ≤ 64 ∨ depDs xs ≤ 64 then some (xs.any fun z => eqD z a) else none
  | .inn, a, .lst xs => if depD a ≤ 64 ∨ depDs xs ≤ 64 then some (xs.any fun z => eqD z a) else none
  | .notin, .str [c], .str b => some (!decide (c ∈ b))
  | .notin, a, .tup xs => if depD a ≤ 64 ∨ depDs xs ≤ 64 then some (!xs.any fun z => eqD z a) else none
  | .notin, a, .lst xs => if depD a ≤ 64 ∨ depDs xs ≤ 64 then some (!xs.any fun z => eqD z a) else none
  | _, _, _ => none

def allBl : List Dt → Option (List Bool)
  | [] => some []
  | .bl b :: r => (allBl r).map (b :: ·)
  | _ :: _ => none
def allStr : List Dt → Option (List (List Nat))
  | [] => some []
  | .str b :: r => (allStr r).map (b :: ·)
  | _ :: _ => none

/-- what a suite tells of an exception of the class k with the fields fs -/
def xvD (k : Nat) (fs : List Dt) : Xv → Option Dt
  | .b x => some (.bl (xeB k x))
  | .fld j => if k = 0 then none else fs[j]?
  | .str s => some (.str s)
  | .non => some .non
  | .sel s t x => some (.str (if xeB k x = true then t else s))
def xvsD (k : Nat) (fs : List Dt) : List Xv → Option (List Dt)
  | [] => some []
  | x :: xs => (xvD k fs x).bind fun d => (xvsD k fs xs).map (d :: ·)
def xsD (k : Nat) (fs : List Dt) : Xs → Option Dt
  | .one x => xvD k fs x
  | .many xs => if xs.length ≤ lim then (xvsD k fs xs).map .tup else none
  | .sel s t x => some (.str (if xeB k x = true then t else s))
/-- a text of Lean as codes -/
def S2 (s : String) : List Nat := s.toList.map Char.toNat

/-- figures as a number -/
def digV (s : List Nat) : Nat := s.foldl (fun acc c => acc * 10 + (c - 48)) 0
def p1D : P1 → Dt → Option Dt
  | .len, .str s => some (.int s.length)
  | .len, .tup s => some (.int s.length)
  | .len, .lst s => some (.int s.length)
  | .len, .scr s => some (.int s.length)
  | .all, .lst s => (allBl s).map fun bs => .bl (bs.all id)
  | .any, .lst s => (allBl s).map fun bs => .bl (bs.any id)
  | .tuple, .lst s => some (.tup s)
  | .tuple, .tup s => some (.tup s)
  | .list, .lst s => some (.lst s)
  | .list, .tup s => some (.lst s)
  | .sorted, .lst s => if sortableD s = true then some (.lst (sortD s)) else if sortableF s = true then some (.lst (sortF s)) else if sortableG s = true then some (.lst (sortG s)) else none
  | .sorted, .tup s => if sortableD s = true then some (.lst (sortD s)) else if sortableF s = true then some (.lst (sortF s)) else none
  | .str, .int i => if i.natAbs < 2 ^ 64 then some (.str (S2 (toString i))) else none
  | .int, .bl b => some (.int (if b then 1 else 0))
  | .int, .int i => some (.int i)
  | .int, .str s => if s ≠ [] ∧ s.all (fun c => decide (48 ≤ c) && decide (c ≤ 57)) = true ∧ s.length ≤ 600 then some (.int (digV s)) else none
  | _, _ => none

mutual
/-- can be a key: no lists within -/
def keyOk : Dt → Bool
  | .lst _ => false
  | .scr _ => false
  | .tup xs => keyOks xs
  | _ => true
def keyOks : List Dt → Bool
  | [] => true
  | x :: xs => keyOk x && keyOks xs
end
def isTupD : Dt → Bool
  | .tup _ => true
  | _ => false
/-- unlike ones, each once -/
def nubD : List Dt → List Dt
  | [] => []
  | x :: xs => if xs.any (fun z => eqD x z) then nubD xs else x :: nubD xs
def lensD : Dt → Option Dt
  | .tup xs => if xs.all (fun x => isTupD x && keyOk x && decide (depD x ≤ 8)) = true ∧ xs.length < 64 then some (.int (nubD xs).length) else none
  | _ => none
/-- a sign's first place from k on -/
def findG (c : Nat) : Nat → List Nat → Int
  | _, [] => -1
  | k, x :: xs => if x = c then (k : Int) else findG c (k + 1) xs
def findS (c : Nat) (s : List Nat) : Dt → Option Dt
  | .int i => if 0 ≤ i then some (.int (findG c i.toNat (s.drop i.toNat))) else none
  | _ => none
/-- sorted(set(xs)), of tuples that are alike -/
def ssortD : Dt → Option Dt
  | .lst xs => if xs.all (fun x => isTupD x && keyOk x && decide (depD x ≤ 8)) = true ∧ xs.all (fun x => xs.all (alikeD x)) = true ∧ (nubD xs).length < 76 then some (.lst (sortD (nubD xs))) else none
  | _ => none
def joinL (sep : List Nat) : List (List Nat) → List Nat
  | [] => []
  | [x] => x
  | x :: y :: r => x ++ sep ++ joinL sep (y :: r)
def sumLen : List (List Nat) → Nat
  | [] => 0
  | x :: r => x.length + sumLen r

/-- the parts between a sign -/
def splitC (c : Nat) : List Nat → List (List Nat)
  | [] => [[]]
  | x :: xs => if x = c then [] :: splitC c xs else match splitC c xs with
    | [] => [[x]]
    | p :: ps => (x :: p) :: ps
def m1S : M1 → List Nat → Dt → Option Dt
  | .join, s, .lst xs => (allStr xs).bind fun ys => if sumLen ys + ys.length * s.length ≤ lim then some (.str (joinL s ys)) else none
  | .join, s, .tup xs => (allStr xs).bind fun ys => if sumLen ys + ys.length * s.length ≤ lim then some (.str (joinL s ys)) else none
  | .join, _, _ => none
  | .zfill, s, .int i => if 0 ≤ i ∧ i ≤ 1000 ∧ s.length ≤ 1000 ∧ s.head? ≠ some 43 ∧ s.head? ≠ some 45 then some (.str (List.replicate (i.toNat - s.length) 48 ++ s)) else none
  | .zfill, _, _ => none
  | .split, s, .str [c] => if s.length ≤ 1000000 then some (.lst ((splitC c s).map Dt.str)) else none
  | .split, _, _ => none

def b2D : B2 → Dt → Dt → Option Dt
  | .min, .int i, .int j => some (.int (if j < i then j else i))
  | .max, .int i, .int j => some (.int (if j > i then j else i))
  | _, _, _ => none

def revD : Dt → Option Dt
  | .lst xs => some (.lst xs.reverse)
  | _ => none
def isiD (t : Ty) : Dt → Bool
  | .non => false
  | .bl _ => t == .bool || t == .int
  | .int _ => t == .int
  | .str _ => t == .str
  | .tup _ => t == .tuple
  | .lst _ => t == .list
  | .scr _ => t == .list

/-- the place of an index -/
def ixP (n : Nat) (i : Int) : Option Nat := if 0 ≤ i then (if i < n then some i.toNat else none) else if -(n : Int) ≤ i then some (i + n).toNat else none
def ixL {α : Type} (xs : List α) (i : Int) : Option α := (ixP xs.length i).bind fun j => xs[j]?
def ixD : Dt → Dt → Option Dt
  | .str s, .int i => (ixL s i).map fun c => .str [c]
  | .tup s, .int i => ixL s i
  | .lst s, .int i => ixL s i
  | .scr s, .int i => (ixL s i).map .int
  | _, _ => none

/-- a slice's bound -/
def slP (n d : Nat) : Option Int → Nat
  | none => d
  | some v => if v < 0 then (v + (n : Int)).toNat else min v.toNat n
def cutL {α : Type} (xs : List α) (lo hi : Option Int) : List α := (xs.drop (slP xs.length 0 lo)).take (slP xs.length xs.length hi - slP xs.length 0 lo)
def slD (a : Dt) (lo hi : Option Int) : Option Dt :=
  match a with
  | .str s => some (.str (cutL s lo hi))
  | .tup s => some (.tup (cutL s lo hi))
  | .lst s => some (.lst (cutL s lo hi))
  | _ => none

/-- what stands at a name, as data that is looked at -/
def viewW (st : Sr) : Wv → Option Dt
  | .d x => some x
  | .ob n => match st[n]? with
    | some (.lst xs) => some (.lst xs)
    | _ => none
  | .dc _ => none
/-- .. as a dict -/
def viewK (st : Sr) : Wv → Option (List (Dt × Dt))
  | .d _ => none
  | .ob n => match st[n]? with
    | some (.dic kvs) => some kvs
    | _ => none
  | .dc kvs => some kvs
def dataW : Wv → Option Dt
  | .d x => some x
  | _ => none

def mapD : List Wv → Option (List Dt)
  | [] => some []
  | .d x :: r => (mapD r).map (x :: ·)
  | _ :: _ => none
def itemsD : Dt → Option (List Dt)
  | .tup xs => some xs
  | .lst xs => some xs
  | .str s => some (s.map fun c => .str [c])
  | _ => none
def rangeL (lo : Int) : Nat → List Dt
  | 0 => []
  | n + 1 => .int lo :: rangeL (lo + 1) n
def enumL (k : Int) : List Dt → List Dt
  | [] => []
  | x :: r => .tup [.int k, x] :: enumL (k + 1) r
def zipL : List Dt → List Dt → List Dt
  | x :: xs, y :: ys => .tup [x, y] :: zipL xs ys
  | _, _ => []

/-- a target takes an item -/
def setMany : List Nat → List Dt → Ev → Option Ev
  | [], [], ρ => some ρ
  | i :: is, x :: xs, ρ => setMany is xs (ρ.set i (some (.d x)))
  | _, _, _ => none
def setTg : Tg → Dt → Ev → Option Ev
  | .one i, x, ρ => some (ρ.set i (some (.d x)))
  | .many is, .tup xs, ρ => setMany is xs ρ
  | .many _, _, _ => none
  | .nst i is, .tup [x, .tup xs], ρ => setMany is xs (ρ.set i (some (.d x)))
  | .nst _ _, _, _ => none
def Tg.slots : Tg → List Nat
  | .one i => [i]
  | .many is => is
  | .nst i is => i :: is
def wipeE (ρ : Ev) : List Nat → Ev
  | [] => ρ
  | v :: vs => (wipeE ρ vs).set v none

structure Gam where
  call : Nat → List Wv → Sr → Rs (Wv × Sr)
  glob : List Dt

mutual
def sameD : Dt → Dt → Bool
  | .non, .non => true
  | .bl a, .bl b => a == b
  | .int i, .int j => i == j
  | .str x, .str y => x == y
  | .lst xs, .lst ys => sameDs xs ys
  | .tup xs, .tup ys => sameDs xs ys
  | .scr a, .scr b => a == b
  | _, _ => false
def sameDs : List Dt → List Dt → Bool
  | [], [] => true
  | x :: xs, y :: ys => sameD x y && sameDs xs ys
  | _, _ => false
end
/-- the objects that are walked stay -/
def watchOk (ws : List (Nat × List Dt)) (st : Sr) : Bool := ws.all fun p => match st[p.1]? with
  | some (.lst ys) => sameDs ys p.2
  | _ => false

def consO : Option Dt → List Dt → List Dt
  | some y, r => y :: r
  | none, r => r
/-- a list comprehension's turns -/
def lcL (ws : List (Nat × List Dt)) (f : Dt → Sr → Rs (Option Dt × Sr)) : List Dt → Sr → Rs (List Dt × Sr)
  | [], st => .ok ([], st)
  | x :: xs, st => (f x st).bind fun p => if watchOk ws p.2 = true then (lcL ws f xs p.2).bind fun q => .ok (consO p.1 q.1, q.2) else .bad

def noExc {α : Type} : Rs α → Rs α
  | .ok a => .ok a
  | _ => .bad

/-! ### expressions -/
def op1 (f : Dt → Option Dt) (p : Wv × Sr) : Rs (Wv × Sr) := Rs.ofO ((viewW p.2 p.1).bind fun x => (f x).map fun z => (.d z, p.2))
def op2 (f : Dt → Dt → Option Dt) (x : Wv) (p : Wv × Sr) : Rs (Wv × Sr) := Rs.ofO ((viewW p.2 x).bind fun x => (viewW p.2 p.1).bind fun y => (f x y).map fun z => (.d z, p.2))
def blO : Option Bool → Option Dt
  | some b => some (.bl b)
  | none => none
def negD : Dt → Option Dt
  | .int i => some (.int (-i))
  | _ => none
def notD (x : Dt) : Option Dt := some (.bl (!truthD x))
/-- a test of a value that was told -/
def truW (p : Wv × Sr) : Rs Bool := Rs.ofO ((viewW p.2 p.1).map truthD)
def strW : Wv → Option (List Nat)
  | .d (.str s) => some s
  | _ => none
def intW : Wv → Option Int
  | .d (.int i) => some i
  | _ => none
def mkTup (p : List Wv × Sr) : Rs (Wv × Sr) := if p.1.length ≤ lim then Rs.ofO ((mapD p.1).map fun xs => (.d (.tup xs), p.2)) else .bad
def mkLst (p : List Wv × Sr) : Rs (Wv × Sr) := if p.1.length ≤ lim then Rs.ofO ((mapD p.1).map fun xs => (.d (.lst xs), p.2)) else .bad
abbrev Wk := (List Dt × List (Nat × List Dt)) × Sr
def itSeq (p : Wv × Sr) : Option Wk := match p.1 with
  | .d x => (itemsD x).map fun xs => ((xs, []), p.2)
  | .ob n => match p.2[n]? with
    | some (.lst xs) => some ((xs, [(n, xs)]), p.2)
    | _ => none
  | .dc kvs => some ((kvs.map Prod.fst, []), p.2)
def itEnm (p : Wv × Sr) : Option Wk := match p.1 with
  | .d (.lst xs) => some ((enumL 0 xs, []), p.2)
  | .d (.tup xs) => some ((enumL 0 xs, []), p.2)
  | .d _ => none
  | .ob n => match p.2[n]? with
    | some (.lst xs) => some ((enumL 0 xs, [(n, xs)]), p.2)
    | _ => none
  | .dc _ => none
/-! #### dicts -/
/-- a tuple that can be a key -/
def keyB (k : Dt) : Bool := isTupD k && keyOk k && decide (depD k ≤ 8)
def getK (kvs : List (Dt × Dt)) (k : Dt) : Option Dt := (kvs.find? fun p => eqD p.1 k).map (·.2)
def putK (kvs : List (Dt × Dt)) (k v : Dt) : List (Dt × Dt) := if (getK kvs k).isSome = true then kvs.map fun p => if eqD p.1 k = true then (p.1, v) else p else kvs ++ [(k, v)]
def dropK (kvs : List (Dt × Dt)) (k : Dt) : List (Dt × Dt) := kvs.filter fun p => !eqD p.1 k
def mergeK (kvs more : List (Dt × Dt)) : List (Dt × Dt) := more.foldl (fun acc p => putK acc p.1 p.2) kvs
/-- pairs with keys -/
def pairsD : List Dt → Option (List (Dt × Dt))
  | [] => some []
  | .tup [k, v] :: r => if keyB k = true then (pairsD r).map ((k, v) :: ·) else none
  | _ => none
def dictD : Dt → Option (List (Dt × Dt))
  | .tup xs => if xs.length ≤ 1000000 then pairsD xs else none
  | .lst xs => if xs.length ≤ 1000000 then pairsD xs else none
  | _ => none
def dictW (p : Wv × Sr) : Rs (Wv × Sr) := Rs.ofO ((viewW p.2 p.1).bind fun x => (dictD x).map fun kvs => (.dc (mergeK [] kvs), p.2))
/-- a look into a dict: at a key -/
def keyAt (kvs : List (Dt × Dt)) (k : Dt) : Option (Option Dt) := if keyB k = true then some (getK kvs k) else none
def dixW (w : Wv) (q : Wv × Sr) : Rs (Wv × Sr) := Rs.ofO ((viewK q.2 w).bind fun kvs => (viewW q.2 q.1).bind fun k => (keyAt kvs k).bind fun o => o.map fun z => (.d z, q.2))
def dinW (neg : Bool) (k : Wv) (q : Wv × Sr) : Rs (Wv × Sr) := Rs.ofO ((viewK q.2 q.1).bind fun kvs => (viewW q.2 k).bind fun k => (keyAt kvs k).map fun o => (.d (.bl (if neg = true then !o.isSome else o.isSome)), q.2))
def seenK (p : Wv × Sr) : Rs (Wv × Sr) := Rs.ofO ((viewK p.2 p.1).map fun _ => p)
def dgetW (w k : Wv) (q : Wv × Sr) : Rs (Wv × Sr) := Rs.ofO ((viewK q.2 w).bind fun kvs => (viewW q.2 k).bind fun k => (dataW q.1).bind fun x => (keyAt kvs k).map fun o => (.d (o.getD x), q.2))
def pdD : PD → List (Dt × Dt) → Option Dt
  | .len, kvs => some (.int kvs.length)
  | .list, kvs => some (.lst (kvs.map Prod.fst))
  | .sorted, kvs => if sortableD (kvs.map Prod.fst) = true then some (.lst (sortD (kvs.map Prod.fst))) else none
def pdW (p : PD) (q : Wv × Sr) : Rs (Wv × Sr) := Rs.ofO ((viewK q.2 q.1).bind fun kvs => if kvs.length ≤ 1000000 then (pdD p kvs).map fun z => (.d z, q.2) else none)
/-- an object as what does not change -/
def frzW (st : Sr) : Wv → Wv
  | .ob n => match st[n]? with
    | some (.lst xs) => .d (.lst xs)
    | some (.dic kvs) => .dc kvs
    | none => .ob n
  | w => w
def frzE (st : Sr) (ρ : Ev) : Ev := ρ.map fun o => o.map (frzW st)
def itZip (x : Wv) (p : Wv × Sr) : Option Wk := match x, p.1 with
  | .d (.tup xs), .d (.tup ys) => some ((zipL xs ys, []), p.2)
  | _, _ => none
def itRng (st : Sr) (i j : Int) : Option Wk := if i < 2 ^ 30 ∧ -(2 ^ 30) < i ∧ j < 2 ^ 30 ∧ -(2 ^ 30) < j then some ((rangeL i (j - i).toNat, []), st) else none
/-- one turn of a comprehension -/
def lcTurn (ifs : Ev → Sr → Rs (Bool × Sr)) (elt : Ev → Sr → Rs (Wv × Sr)) (tg : Tg) (ρ : Ev) (x : Dt) (st : Sr) : Rs (Option Dt × Sr) :=
  (Rs.ofO (setTg tg x (wipeE ρ tg.slots))).bind fun ρ' => noExc ((ifs ρ' st).bind fun q => if q.1 = true then (elt ρ' q.2).bind fun r => (Rs.ofO (dataW r.1)).bind fun y => .ok (some y, r.2) else .ok (none, q.2))
/-- what comes of a comprehension that changes no object -/
def lczW (st : Sr) (r : List Dt × Sr) : Rs (List Dt × Sr) := if keyOks r.1 = true then .ok (r.1, st) else .bad
def lcEnd (r : List Dt × Sr) : Rs (Wv × Sr) := if r.1.length ≤ lim then .ok (.d (.lst r.1), r.2) else .bad

def obW : Option (Option Wv) → Option Nat
  | some (some (.ob n)) => some n
  | _ => none
def seenW (n : Nat) (st : Sr) : Rs (Unit × Sr) := match st[n]? with
  | some (.lst _) => .ok ((), st)
  | _ => .bad
def popiW (n : Nat) (p : Wv × Sr) : Rs (Wv × Sr) := match p.1, p.2[n]? with
  | .d (.int i), some (.lst xs) => if 0 ≤ i ∧ i < xs.length ∧ xs.length ≤ lim then Rs.ofO ((xs[i.toNat]?).map fun x => (.d x, p.2.set n (.lst (xs.eraseIdx i.toNat)))) else .bad
  | _, _ => .bad
/-- list(range(i)) -/
def lrngW (p : Wv × Sr) : Rs (Wv × Sr) := match p.1 with
  | .d (.int i) => if -1000000 ≤ i ∧ i ≤ 1000000 then .ok (.d (.lst (rangeL 0 i.toNat)), p.2) else .bad
  | _ => .bad
mutual
def evE (Γ : Gam) : Ex → Ev → Sr → Rs (Wv × Sr)
  | .v i, ρ, st => match ρ[i]? with
    | some (some w) => .ok (w, st)
    | _ => .bad
  | .non, _, st => .ok (.d .non, st)
  | .bl b, _, st => .ok (.d (.bl b), st)
  | .int i, _, st => .ok (.d (.int i), st)
  | .str s, _, st => .ok (.d (.str s), st)
  | .g k, _, st => match Γ.glob[k]? with
    | some x => .ok (.d x, st)
    | none => .bad
  | .bin o a b, ρ, st => (evE Γ a ρ st).bind fun p => (evE Γ b ρ p.2).bind fun q => op2 (bopD o) p.1 q
  | .neg a, ρ, st => (evE Γ a ρ st).bind fun p => op1 negD p
  | .not a, ρ, st => (evE Γ a ρ st).bind fun p => op1 notD p
  | .and es, ρ, st => evAnd Γ es ρ st
  | .or es, ρ, st => evOr Γ es ρ st
  | .cmp o a b, ρ, st => (evE Γ a ρ st).bind fun p => (evE Γ b ρ p.2).bind fun q => op2 (fun x y => blO (copD o x y)) p.1 q
  | .cmp2 o o' a b c, ρ, st => (evE Γ a ρ st).bind fun p => (evE Γ b ρ p.2).bind fun q => (op2 (fun x y => blO (copD o x y)) p.1 q).bind fun k =>
      (truW k).bind fun t => if t = true then (evE Γ c ρ k.2).bind fun r => op2 (fun x y => blO (copD o' x y)) q.1 r else .ok k
  | .call f es, ρ, st => (evEs Γ es ρ st).bind fun p => Γ.call f p.1 p.2
  | .call0 f, ρ, st => noExc (Γ.call f [] st)
  | .p1 p a, ρ, st => (evE Γ a ρ st).bind fun x => op1 (p1D p) x
  | .lens a, ρ, st => (evE Γ a ρ st).bind fun x => op1 lensD x
  | .ssort a, ρ, st => (evE Γ a ρ st).bind fun x => op1 ssortD x
  | .find a c i, ρ, st => (evE Γ a ρ st).bind fun p => (Rs.ofO ((strW p.1).map fun s => (s, p.2))).bind fun s => (evE Γ i ρ s.2).bind fun q => op1 (findS c s.1) q
  | .popi i e, ρ, st => (Rs.ofO ((obW ρ[i]?).map fun n => (n, st))).bind fun n => (seenW n.1 n.2).bind fun u => (evE Γ e ρ u.2).bind fun p => popiW n.1 p
  | .lrng a, ρ, st => (evE Γ a ρ st).bind lrngW
  | .isi a t, ρ, st => (evE Γ a ρ st).bind fun x => op1 (fun x => some (.bl (isiD t x))) x
  | .isi2 a t u, ρ, st => (evE Γ a ρ st).bind fun x => op1 (fun x => some (.bl (isiD t x || isiD u x))) x
  | .m1 m a b, ρ, st => (evE Γ a ρ st).bind fun p => (Rs.ofO ((strW p.1).map fun s => (s, p.2))).bind fun s => (evE Γ b ρ s.2).bind fun q => op1 (m1S m s.1) q
  | .b2 o a b, ρ, st => (evE Γ a ρ st).bind fun p => (evE Γ b ρ p.2).bind fun q => op2 (b2D o) p.1 q
  | .rev a, ρ, st => (evE Γ a ρ st).bind fun p => op1 revD p
  | .ix a i, ρ, st => (evE Γ a ρ st).bind fun p => (evE Γ i ρ p.2).bind fun q => op2 ixD p.1 q
  | .sl a lo hi, ρ, st => (evE Γ a ρ st).bind fun p => (evO Γ lo ρ p.2).bind fun l => (evO Γ hi ρ l.2).bind fun h => op1 (fun x => slD x l.1 h.1) (p.1, h.2)
  | .tup es, ρ, st => (evEs Γ es ρ st).bind mkTup
  | .lst es, ρ, st => (evEs Γ es ρ st).bind mkLst
  | .lc elt tg it ifs, ρ, st => (evI Γ it ρ st).bind fun p => (lcL p.1.2 (lcTurn (evIfs Γ ifs) (evE Γ elt) tg ρ) p.1.1 p.2).bind lcEnd
  | .lcz elt tg it ifs, ρ, st => (noExc (evI Γ it (frzE st ρ) [])).bind fun p => (lcL p.1.2 (lcTurn (evIfs Γ ifs) (evE Γ elt) tg (frzE st ρ)) p.1.1 p.2).bind fun r => (lczW st r).bind lcEnd
  | .dnew, _, st => .ok (.dc [], st)
  | .dict a, ρ, st => (evE Γ a ρ st).bind dictW
  | .dix a k, ρ, st => (evE Γ a ρ st).bind fun p => (evE Γ k ρ p.2).bind fun q => dixW p.1 q
  | .dget a k x, ρ, st => (evE Γ a ρ st).bind fun p => (seenK p).bind fun p => (evE Γ k ρ p.2).bind fun q => (evE Γ x ρ q.2).bind fun r => dgetW p.1 q.1 r
  | .din neg k a, ρ, st => (evE Γ k ρ st).bind fun p => (evE Γ a ρ p.2).bind fun q => dinW neg p.1 q
  | .pd p a, ρ, st => (evE Γ a ρ st).bind fun q => pdW p q
def evEs (Γ : Gam) : Exs → Ev → Sr → Rs (List Wv × Sr)
  | .nil, _, st => .ok ([], st)
  | .cons e es, ρ, st => (evE Γ e ρ st).bind fun p => (evEs Γ es ρ p.2).bind fun q => .ok (p.1 :: q.1, q.2)
def evAnd (Γ : Gam) : Exs → Ev → Sr → Rs (Wv × Sr)
  | .nil, _, _ => .bad
  | .cons e es, ρ, st => if es.isNil = true then evE Γ e ρ st
    else (evE Γ e ρ st).bind fun p => (truW p).bind fun t => if t = true then evAnd Γ es ρ p.2 else .ok p
def evOr (Γ : Gam) : Exs → Ev → Sr → Rs (Wv × Sr)
  | .nil, _, _ => .bad
  | .cons e es, ρ, st => if es.isNil = true then evE Γ e ρ st
    else (evE Γ e ρ st).bind fun p => (truW p).bind fun t => if t = true then .ok p else evOr Γ es ρ p.2
/-- a clause's tests -/
def evIfs (Γ : Gam) : Exs → Ev → Sr → Rs (Bool × Sr)
  | .nil, _, st => .ok (true, st)
  | .cons e es, ρ, st => if es.isNil = true then (evE Γ e ρ st).bind fun p => (truW p).bind fun t => .ok (t, p.2) else .bad
/-- a slice's bound -/
def evO (Γ : Gam) : Exo → Ev → Sr → Rs (Option Int × Sr)
  | .no, _, st => .ok (none, st)
  | .yes e, ρ, st => (evE Γ e ρ st).bind fun p => Rs.ofO ((intW p.1).map fun i => (some i, p.2))
/-- what is walked: the items, and the objects that must stay meanwhile -/
def evI (Γ : Gam) : Itx → Ev → Sr → Rs Wk
  | .seq e, ρ, st => (evE Γ e ρ st).bind fun p => Rs.ofO (itSeq p)
  | .rng1 e, ρ, st => (evE Γ e ρ st).bind fun p => Rs.ofO ((intW p.1).bind fun i => itRng p.2 0 i)
  | .rng2 a b, ρ, st => (evE Γ a ρ st).bind fun p => (evE Γ b ρ p.2).bind fun q => Rs.ofO ((intW p.1).bind fun i => (intW q.1).bind fun j => itRng q.2 i j)
  | .enm e, ρ, st => (evE Γ e ρ st).bind fun p => Rs.ofO (itEnm p)
  | .zip a b, ρ, st => (evE Γ a ρ st).bind fun p => (evE Γ b ρ p.2).bind fun q => Rs.ofO (itZip p.1 q)
end

/-! ### statements -/
inductive Fl where
  | nx
  | rt (w : Wv)
  | bk
  | ct

abbrev Sx := (Fl × Ev) × Sr
def exFor (body : Ev → Sr → Rs Sx) (tg : Tg) (ws : List (Nat × List Dt)) : List Dt → Ev → Sr → Rs Sx
  | [], ρ, st => .ok ((.nx, ρ), st)
  | x :: xs, ρ, st => match setTg tg x ρ with
    | none => .bad
    | some ρ' => (body ρ' st).bind fun p => match p.1.1 with
      | .nx => if watchOk ws p.2 = true then exFor body tg ws xs p.1.2 p.2 else .bad
      | .ct => if watchOk ws p.2 = true then exFor body tg ws xs p.1.2 p.2 else .bad
      | .bk => .ok ((.nx, p.1.2), p.2)
      | .rt w => .ok ((.rt w, p.1.2), p.2)
def exWhl (c : Ev → Sr → Rs (Bool × Sr)) (body : Ev → Sr → Rs Sx) : Nat → Ev → Sr → Rs Sx
  | 0, _, _ => .bad
  | n + 1, ρ, st => (c ρ st).bind fun b => if b.1 = true then (body ρ b.2).bind fun p => match p.1.1 with
      | .nx => exWhl c body n p.1.2 p.2
      | .ct => exWhl c body n p.1.2 p.2
      | .bk => .ok ((.nx, p.1.2), p.2)
      | .rt w => .ok ((.rt w, p.1.2), p.2)
    else .ok ((.nx, ρ), b.2)
/-- turns of a while at most -/
def turns : Nat := 1000000
/-- an expression's truth -/
def evT (Γ : Gam) (e : Ex) (ρ : Ev) (st : Sr) : Rs (Bool × Sr) := (evE Γ e ρ st).bind fun p => (truW p).bind fun t => .ok (t, p.2)
/-- a list's object laid -/
def layL (i : Nat) (ρ : Ev) (p : Wv × Sr) : Rs Sx := match p.1 with
  | .d (.lst xs) => .ok ((.nx, ρ.set i (some (.ob p.2.length))), p.2 ++ [.lst xs])
  | .dc kvs => .ok ((.nx, ρ.set i (some (.ob p.2.length))), p.2 ++ [.dic kvs])
  | _ => .bad
def unpW (is : List Nat) (ρ : Ev) (p : Wv × Sr) : Rs Sx := match p.1 with
  | .d (.tup xs) => (Rs.ofO (setMany is xs ρ)).bind fun ρ' => .ok ((.nx, ρ'), p.2)
  | .d (.lst xs) => (Rs.ofO (setMany is xs ρ)).bind fun ρ' => .ok ((.nx, ρ'), p.2)
  | _ => .bad
def extW (n : Nat) (ρ : Ev) (p : Wv × Sr) : Rs Sx := match p.1, p.2[n]? with
  | .d (.lst ys), some (.lst xs) => if xs.length + ys.length ≤ lim then .ok ((.nx, ρ), p.2.set n (.lst (xs ++ ys))) else .bad
  | _, _ => .bad
def appW (n : Nat) (ρ : Ev) (p : Wv × Sr) : Rs Sx := match p.1, p.2[n]? with
  | .d y, some (.lst xs) => if xs.length < lim then .ok ((.nx, ρ), p.2.set n (.lst (xs ++ [y]))) else .bad
  | _, _ => .bad
/-- a sign exchanged -/
def subC (c : Nat) (z : List Nat) : List Nat → List Nat
  | [] => []
  | x :: xs => (if x = c then z else [x]) ++ subC c z xs
def quoL (s : List Nat) : List Nat := 34 :: (subC 34 [92, 34] (subC 92 [92, 92] s) ++ [34])
def quoW (w : Option (Option Wv)) (ρ : Ev) (st : Sr) : Rs Sx := match w with
  | some (some (.d (.str s))) => if s.length ≤ 1000 then .ok ((.rt (.d (.str (quoL s))), ρ), st) else .bad
  | _ => .bad
/-- is an object there -/
def seenD (n : Nat) (st : Sr) : Rs (Unit × Sr) := match st[n]? with
  | some (.dic _) => .ok ((), st)
  | _ => .bad
def obN (o : Option (Option Wv)) (st : Sr) : Rs (Nat × Sr) := Rs.ofO ((obW o).map fun n => (n, st))
/-- d[k] = v -/
def putW (n : Nat) (v : Wv) (ρ : Ev) (q : Wv × Sr) : Rs Sx := match v, viewW q.2 q.1, q.2[n]? with
  | .d y, some k, some (.dic kvs) => if keyB k = true ∧ kvs.length < lim then .ok ((.nx, ρ), q.2.set n (.dic (putK kvs k y))) else .bad
  | _, _, _ => .bad
def updW (n : Nat) (ρ : Ev) (q : Wv × Sr) : Rs Sx := match q.1, q.2[n]? with
  | .dc more, some (.dic kvs) => if kvs.length + more.length ≤ 1000000 then .ok ((.nx, ρ), q.2.set n (.dic (mergeK kvs more))) else .bad
  | _, _ => .bad
def popW (n : Nat) (ρ : Ev) (q : Wv × Sr) : Rs Sx := match viewW q.2 q.1, q.2[n]? with
  | some k, some (.dic kvs) => if keyB k = true ∧ (getK kvs k).isSome = true ∧ kvs.length ≤ lim then .ok ((.nx, ρ), q.2.set n (.dic (dropK kvs k))) else .bad
  | _, _ => .bad
/-- what a try's end gives -/
def tryW (c i j : Nat) (xs : Xs) (ρ : Ev) : Rs Sx → Rs Sx
  | .ok p => .ok p
  | .exc k fs st => if subB k c = true ∧ i ≠ j ∧ i < ρ.length then (Rs.ofO (xsD k fs xs)).bind fun d => .ok ((.nx, (ρ.set j (some (.d d))).set i none), st) else .bad
  | .bad => .bad
def tryVW (c j : Nat) (x : Xv) (ρ : Ev) : Rs Sx → Rs Sx
  | .ok p => .ok p
  | .exc k fs st => if subB k c = true then (Rs.ofO (xvD k fs x)).bind fun d => .ok ((.nx, ρ.set j (some (.d d))), st) else .bad
  | .bad => .bad
/-- an exception with fields: the last one first -/
def raiW (c : Nat) (p : List Wv × Sr) : Rs Sx := match mapD p.1 with
  | some ds => if ds = [] then .bad else .exc c ds.reverse p.2
  | none => .bad
def tryRW (c k : Nat) : Rs Sx → Rs Sx
  | .ok p => .ok p
  | .exc e fs st => if subB e c = true ∧ fs = [] then .exc k [] st else .bad
  | .bad => .bad
mutual
def exS (Γ : Gam) : Sm → Ev → Sr → Rs Sx
  | .set i e, ρ, st => (evE Γ e ρ st).bind fun p => .ok ((.nx, ρ.set i (some p.1)), p.2)
  | .setL i e, ρ, st => (evE Γ e ρ st).bind fun p => layL i ρ p
  | .unp is e, ρ, st => (evE Γ e ρ st).bind fun p => unpW is ρ p
  | .ret e, ρ, st => (evE Γ e ρ st).bind fun p => .ok ((.rt p.1, ρ), p.2)
  | .ife c a b, ρ, st => (evT Γ c ρ st).bind fun p => if p.1 = true then exSs Γ a ρ p.2 else exSs Γ b ρ p.2
  | .forS tg it b, ρ, st => (evI Γ it ρ st).bind fun p => exFor (exSs Γ b) tg p.1.2 p.1.1 ρ p.2
  | .whl c b, ρ, st => exWhl (evT Γ c) (exSs Γ b) turns ρ st
  | .app i e, ρ, st => (Rs.ofO ((obW ρ[i]?).map fun n => (n, st))).bind fun n => (seenW n.1 n.2).bind fun u => (evE Γ e ρ u.2).bind fun p => appW n.1 ρ p
  | .ext i e, ρ, st => (Rs.ofO ((obW ρ[i]?).map fun n => (n, st))).bind fun n => (seenW n.1 n.2).bind fun u => (evE Γ e ρ u.2).bind fun p => extW n.1 ρ p
  | .expr e, ρ, st => (evE Γ e ρ st).bind fun p => .ok ((.nx, ρ), p.2)
  | .put i k e, ρ, st => (evE Γ e ρ st).bind fun p => (obN ρ[i]? p.2).bind fun n => (evE Γ k ρ n.2).bind fun q => putW n.1 p.1 ρ q
  | .upd i e, ρ, st => (obN ρ[i]? st).bind fun n => (seenD n.1 n.2).bind fun u => (evE Γ e ρ u.2).bind fun q => updW n.1 ρ q
  | .popd i k, ρ, st => (obN ρ[i]? st).bind fun n => (seenD n.1 n.2).bind fun u => (evE Γ k ρ u.2).bind fun q => popW n.1 ρ q
  | .brk, ρ, st => .ok ((.bk, ρ), st)
  | .cnt, ρ, st => .ok ((.ct, ρ), st)
  | .pass, ρ, st => .ok ((.nx, ρ), st)
  | .never, _, _ => .bad
  | .rai c, _, st => .exc c [] st
  | .raiF c es, ρ, st => (evEs Γ es ρ st).bind fun p => raiW c p
  | .par i j a b, ρ, st => (evE Γ a ρ st).bind fun p => (evE Γ b ρ p.2).bind fun q => .ok ((.nx, (ρ.set i (some p.1)).set j (some q.1)), q.2)
  | .tryN _ b, ρ, st => noExc (exSs Γ b ρ st)
  | .tryX c b i j xs, ρ, st => tryW c i j xs ρ (exSs Γ b ρ st)
  | .tryV c b j x, ρ, st => tryVW c j x ρ (exSs Γ b ρ st)
  | .tryR c k b, ρ, st => tryRW c k (exSs Γ b ρ st)
  | .quo i, ρ, st => quoW ρ[i]? ρ st
def exSs (Γ : Gam) : Sms → Ev → Sr → Rs Sx
  | .nil, ρ, st => .ok ((.nx, ρ), st)
  | .cons s r, ρ, st => (exS Γ s ρ st).bind fun p => match p.1.1 with
    | .nx => exSs Γ r p.1.2 p.2
    | .rt w => .ok ((.rt w, p.1.2), p.2)
    | .bk => .ok ((.bk, p.1.2), p.2)
    | .ct => .ok ((.ct, p.1.2), p.2)
end

/-! ### defs -/
structure Fn where
  np : Nat
  ns : Nat
  body : Sms
def isOb : Wv → Bool
  | .ob _ => true
  | _ => false
/-- a call: objects are handed over as what does not change, and then the answer is no list -/
def callW (r : Nat → List Wv → Rs Dt) (f : Nat) (ws : List Wv) (st : Sr) : Rs (Wv × Sr) :=
  match r f (ws.map (frzW st)) with
    | .ok d => if ws.any isOb = true ∧ keyOk d = false then .bad else .ok (.d d, st)
    | .exc c fs _ => if ws.any isOb = true ∧ keyOks fs = false then .bad else .exc c fs st
    | .bad => .bad
/-- what a def's end gives -/
def endD (p : Sx) : Rs Dt := match p.1.1 with
  | .nx => .ok .non
  | .rt (.d x) => .ok x
  | .rt (.ob n) => match p.2[n]? with
    | some (.lst xs) => .ok (.lst xs)
    | _ => .bad
  | _ => .bad
def startE (ns : Nat) (ws : List Wv) : Ev := ws.map some ++ List.replicate (ns - ws.length) none
def runV (tab : List Fn) (gl : List Dt) : Nat → Nat → List Wv → Rs Dt
  | 0, _, _ => .bad
  | n + 1, f, ws => match tab[f]? with
    | none => .bad
    | some F => if ws.length = F.np ∧ ws.any isOb = false then (exSs ⟨callW (runV tab gl n), gl⟩ F.body (startE F.ns ws) []).bind endD else .bad
def runP (tab : List Fn) (gl : List Dt) (n f : Nat) (ds : List Dt) : Rs Dt := runV tab gl n f (ds.map .d)

end PB

set_option Elab.async false
set_option linter.all false
set_option maxRecDepth 100000
set_option maxHeartbeats 4000000
/-! Sets whose members are nested keys. -/
namespace PB
open PySem PySem.Spec PyProof.Rows L2
abbrev NK := NestedKey
/-- the key k stands at b -/
def isN (h : Heap) (k : NK) (b : Addr) : Prop := NestedIs h k (.ref b) ∧ k.depth ≤ 8
section
variable {P : Program} {w : World}
/-- asked of v, n deep: of a class of the program's own? no -/
def NoCls (P : Program) (w : World) (n : Nat) (s : Shared) (v : Value) : Prop := ∀ (A : Around) (E : Value → Shared → Prop) (Q : Bool → Shared → Prop), Q false s → wpAny (model P w) A (ofAClassStatement n v) Q E s
/-- asked of v: is its hash by value? one way or the other -/
def HashAny (P : Program) (w : World) (n : Nat) (s : Shared) (v : Value) : Prop := ∀ (A : Around) (E : Value → Shared → Prop) (Q : Bool → Shared → Prop), (∀ b, Q b s) → wpAny (model P w) A (hashByValue n v) Q E s
theorem noCls_tup {n : Nat} {s : Shared} {a : Addr} {o : Obj} {us : Array Value} {m : Nat} (g1 : s.heap.get? a = some o) (g2 : o.cls = .type "tuple") (g3 : o.data = .seq us m) (all : ∀ u ∈ us.toList, NoCls P w n s u) : NoCls P w (n + 1) s (.ref a) := fun A E Q fin => by
  have ty : s.TypeIs (.ref a) "tuple" := ⟨o, g1, g2⟩
  unfold ofAClassStatement
  refine wpAny_bind (wpAny_typeOf ty ?_)
  dsimp only
  have same : (("tuple" : String) == "tuple") = true := by decide
  simp only [same, if_true, Bool.not_true, Bool.false_eq_true, if_false]
  try refine wpAny_bind (wpAny_pure ?_)
  try simp only [Bool.not_true, Bool.false_eq_true, if_false]
  show wpAny _ _ (seqItems? (.ref a) >>= _) _ _ s
  refine wpAny_bind (wpAny_seqItems g1 g3 ?_)
  dsimp only
  refine wpAny_bind ?_
  show wpAny _ _ (forIn us _ _) _ _ s
  rw [← Array.forIn_toList]
  refine wpAny_forIn_list _ (fun left r z => r.1 = none ∧ z = s ∧ ∀ u ∈ left, NoCls P w n s u) _ ?_ ?_ _ _ ⟨rfl, rfl, all⟩
  · rintro u left r z ⟨e1, rfl, more⟩
    refine wpAny_bind (more u List.mem_cons_self _ _ _ ?_)
    simp only [Bool.false_eq_true, if_false]
    exact wpAny_pure ⟨rfl, rfl, fun q hq => more q (List.mem_cons_of_mem _ hq)⟩
  · rintro ⟨r1, r2⟩ z ⟨e1, rfl, _⟩
    simp only at e1
    subst e1
    exact wpAny_pure fin
mutual
theorem noCls_key : ∀ (k : NK) (v : Value) (n : Nat) (s : Shared), NestedIs s.heap k v → k.depth ≤ n → NoCls P w n s v
  | .none, _, n, s, x, _ => by cases x; intro A E Q q; cases n <;> exact wpAny_pure q
  | .num i, _, n, s, x, _ => by cases x <;> (intro A E Q q; cases n <;> exact wpAny_pure q)
  | .text y, _, n, s, x, _ => by cases x; intro A E Q q; cases n <;> exact wpAny_pure q
  | .tup ks, _, n, s, x, hn => by
    cases x with
    | tup g1 g2 g3 g4 =>
      simp only [NestedKey.depth] at hn
      cases n with
      | zero => omega
      | succ n => exact noCls_tup g1 g2 g3 (noCls_keys ks _ n s g4 (by omega))
theorem noCls_keys : ∀ (ks : List NK) (vs : List Value) (n : Nat) (s : Shared), NestedAll s.heap ks vs → NestedKey.depthAll ks ≤ n → ∀ v ∈ vs, NoCls P w n s v
  | [], _, n, s, x, _, v, hv => by cases x; cases hv
  | k :: ks, _, n, s, x, hn, v, hv => by
    cases x with
    | cons x1 x2 =>
      simp only [NestedKey.depthAll] at hn
      rcases List.mem_cons.mp hv with e | hv
      · subst e; exact noCls_key k _ n s x1 (by omega)
      · exact noCls_keys ks _ n s x2 (by omega) v hv
end
theorem hashAny_tup {n : Nat} {s : Shared} {a : Addr} {o : Obj} {us : Array Value} {m : Nat} (g1 : s.heap.get? a = some o) (g2 : o.cls = .type "tuple") (g3 : o.data = .seq us m) (all : ∀ u ∈ us.toList, HashAny P w n s u) : HashAny P w (n + 1) s (.ref a) := fun A E Q fin => by
  have ty : s.TypeIs (.ref a) "tuple" := ⟨o, g1, g2⟩
  unfold hashByValue
  refine wpAny_bind (wpAny_specialOf ty F.slot_tuple_hash.lookup ?_)
  show wpAny _ _ (seqItems? (.ref a) >>= _) _ _ s
  refine wpAny_bind (wpAny_seqItems g1 g3 ?_)
  refine wpAny_bind ?_
  show wpAny _ _ (forIn us _ _) _ _ s
  rw [← Array.forIn_toList]
  refine wpAny_forIn_list _ (fun left r z => r.1 = none ∧ z = s ∧ ∀ u ∈ left, HashAny P w n s u) _ ?_ ?_ _ _ ⟨rfl, rfl, all⟩
  · rintro u left r z ⟨e1, rfl, more⟩
    refine wpAny_bind (more u List.mem_cons_self _ _ _ fun b => ?_)
    cases b with
    | false =>
      simp only [Bool.not_false, if_true]
      refine wpAny_pure ?_
      first
        | exact fin false
        | exact wpAny_pure (fin false)
    | true =>
      simp only [Bool.not_true, Bool.false_eq_true, if_false]
      exact wpAny_pure ⟨rfl, rfl, fun q hq => more q (List.mem_cons_of_mem _ hq)⟩
  · rintro ⟨r1, r2⟩ z ⟨e1, rfl, _⟩
    simp only at e1
    subst e1
    exact wpAny_pure (fin _)
mutual
theorem hashAny_key : ∀ (k : NK) (v : Value) (n : Nat) (s : Shared), NestedIs s.heap k v → k.depth ≤ n → HashAny P w n s v
  | .none, _, n, s, x, _ => by cases x; intro A E Q q; cases n <;> exact wpAny_pure (q _)
  | .num i, _, n, s, x, _ => by cases x <;> (intro A E Q q; cases n <;> exact wpAny_pure (q _))
  | .text y, _, n, s, x, _ => by cases x; intro A E Q q; cases n <;> exact wpAny_pure (q _)
  | .tup ks, _, n, s, x, hn => by
    cases x with
    | tup g1 g2 g3 g4 =>
      simp only [NestedKey.depth] at hn
      cases n with
      | zero => omega
      | succ n => exact hashAny_tup g1 g2 g3 (hashAny_keys ks _ n s g4 (by omega))
theorem hashAny_keys : ∀ (ks : List NK) (vs : List Value) (n : Nat) (s : Shared), NestedAll s.heap ks vs → NestedKey.depthAll ks ≤ n → ∀ v ∈ vs, HashAny P w n s v
  | [], _, n, s, x, _, v, hv => by cases x; cases hv
  | k :: ks, _, n, s, x, hn, v, hv => by
    cases x with
    | cons x1 x2 =>
      simp only [NestedKey.depthAll] at hn
      rcases List.mem_cons.mp hv with e | hv
      · subst e; exact hashAny_key k _ n s x1 (by omega)
      · exact hashAny_keys ks _ n s x2 (by omega) v hv
end
variable {A : Around} {E : Value → Shared → Prop} {s : Shared}
/-- nobody sees a search among keys -/
theorem unseen_keys {k : NK} {b : Addr} {Q : Bool → Shared → Prop} (hk : isN s.heap k b) {ys : List Value} (all : ∀ y ∈ ys, ∃ k' c, y = Value.ref c ∧ isN s.heap k' c) (fin : Q false s) :
    wpAny (model P w) A (searchCouldBeSeen (.ref b) ys) Q E s := by
  unfold searchCouldBeSeen
  refine wpAny_bind ?_
  refine wpAny_forIn_list _ (fun left r z => r.1 = none ∧ z = s ∧ ∀ y ∈ left, ∃ k' c, y = Value.ref c ∧ isN s.heap k' c) _ ?_ ?_ _ _ ⟨rfl, rfl, all⟩
  · rintro u left r z ⟨e1, rfl, more⟩
    obtain ⟨k', c, rfl, hc⟩ := more u List.mem_cons_self
    have more' : ∀ y ∈ left, ∃ k' c, y = Value.ref c ∧ isN z.heap k' c := fun q hq => more q (List.mem_cons_of_mem _ hq)
    dsimp only
    by_cases same : (b == c || (carriedByValue (.ref b) && carriedByValue (.ref c))) = true
    · exact wp_if_pos same (wpAny_pure ⟨rfl, rfl, more'⟩)
    · refine wp_if_neg same ?_
      refine wpAny_bind ((nestedKind P w).quiet hk ?_)
      simp only [Bool.not_true, Bool.false_eq_true, if_false]
      refine wpAny_bind ((nestedKind P w).quiet hc ?_)
      simp only [Bool.not_true, Bool.false_eq_true, if_false]
      refine wpAny_bind (noCls_key k _ 8 z hk.1 hk.2 _ _ _ ?_)
      simp only [Bool.false_eq_true, if_false]
      refine wpAny_bind (noCls_key k' _ 8 z hc.1 hc.2 _ _ _ ?_)
      simp only [Bool.false_eq_true, if_false]
      exact wpAny_pure ⟨rfl, rfl, more'⟩
  · rintro ⟨r1, r2⟩ z ⟨e1, rfl, _⟩
    simp only at e1
    subst e1
    exact wpAny_pure fin

/-- the set at a holds the keys of L, in the table's order -/
structure SN (P : Program) (w : World) (h : Heap) (a : Addr) (L : List (Addr × NK)) (es : Array (Int × Value)) (ep : Nat) (t : SetTable) : Prop where
  obj : ∃ o, h.get? a = some o ∧ o.ExactSet ∧ o.data = .set es ep t
  ent : es.toList = L.map fun p => (p.2.hash w, Value.ref p.1)
  tab : TabOk t (L.map fun p => p.2.hash w)
  nod : (L.map (·.2)).Nodup
  key : ∀ p ∈ L, isN h p.2 p.1
  ord : w.params.followText "set-order" = true ∨ t.led = true
  gap : L.length * 5 < t.mask * 3
  few : L.length < 76
variable {a : Addr} {L : List (Addr × NK)} {es : Array (Int × Value)} {ep : Nat} {t : SetTable}
theorem ent_size {L : List (Addr × NK)} {es : Array (Int × Value)} (h : es.toList = L.map fun p => (p.2.hash w, Value.ref p.1)) : es.size = L.length := by
  rw [← Array.length_toList, h, List.length_map]
theorem SN.size (S : SN P w s.heap a L es ep t) : es.size = L.length := ent_size S.ent
theorem SN.fits (S : SN P w s.heap a L es ep t) : t.fits es.size = true := by
  have z1 := S.tab.sz
  have z2 := S.size
  have z3 := S.gap
  rw [List.length_map] at z1
  simp only [SetTable.fits, SetTable.fill, S.tab.dm, Bool.and_eq_true, beq_iff_eq, decide_eq_true_eq]
  refine ⟨by omega, ?_⟩
  show t.place.size + 0 ≤ t.mask
  omega
theorem SN.at_ (S : SN P w s.heap a L es ep t) {i : Nat} {p : Addr × NK} (h : L[i]? = some p) : es[i]? = some (p.2.hash w, Value.ref p.1) := by
  rw [← Array.getElem?_toList, S.ent, List.getElem?_map, h]
  rfl
theorem SN.stands (S : SN P w s.heap a L es ep t) : ¬ t.gaveWay = true := by
  unfold SetTable.gaveWay
  simp [mask_odd S.tab.mok]
/-- the c-th step of a hash's way through the table -/
def stepAt (t : SetTable) (x : Int) (c : Nat) : SetTable.Probe := nth t.mask (runAt t.mask (SetTable.bits x % (t.mask + 1)) (SetTable.bits x)) c
theorem stepAt_j (t : SetTable) (x : Int) (c : Nat) : (stepAt t x c).j = way t.mask x c := rfl
theorem stepAt_more (t : SetTable) (x : Int) (c q : Nat) : nth t.mask (stepAt t x c) q = stepAt t x (c + q) := (nth_add t.mask c _ q).symm
theorem nth_dummy (m : Nat) : ∀ (n : Nat) (p : SetTable.Probe), p.dummy = none → (nth m p n).dummy = none
  | 0, _, h => h
  | n + 1, p, h => nth_dummy m n (adv m p) (by unfold adv; split <;> exact h)
theorem same_mem (t : SetTable) : t.sameMemory t.moves t.mask = some true := if_pos (beq_self_eq_true _)
/-- the search from the c-th step on: f turns are enough -/
theorem SN.search (S : SN P w s.heap a L es ep t) {x : Addr} {k : NK} (hx : isN s.heap k x) (room : A.units + 8 < cLine) {n : Nat} (big : n < 10 * SetTable.turns t.mask)
    (free : way t.mask (k.hash w) n ∉ t.place.toList) (full : ∀ c, c < n → way t.mask (k.hash w) c ∈ t.place.toList) {Q : SetFound → Shared → Prop}
    (yes : k ∈ L.map (·.2) → Q (.there none) s) (no : k ∉ L.map (·.2) → Q (.free (way t.mask (k.hash w) n) false) s) :
    ∀ (f c : Nat) (from_ : Option SetTable.Probe), from_.getD (t.probeStart (k.hash w)) = stepAt t (k.hash w) c → c ≤ n → n - c < f →
      (∀ (i : Nat) p, L[i]? = some p → p.2 = k → ∃ c', c ≤ c' ∧ c' < n ∧ t.place.toList[i]? = some (way t.mask (k.hash w) c')) →
      wpAny (model P w) A (setSearchFrom a (.ref x) (k.hash w) true f from_) Q E s := by
  intro f
  induction f with
  | zero => intro c from_ _ _ z; omega
  | succ f ih =>
    intro c from_ hfrom hc hf there
    obtain ⟨o, g1, g2, g3⟩ := S.obj
    rw [setSearchFrom_succ]
    refine wpAny_bind (wpAny_setState_of g1 g3 S.fits ?_)
    dsimp only
    refine wp_if_neg S.stands ?_
    try refine wpAny_bind (wpAny_pure ?_)
    have d0 : (stepAt t (k.hash w) c).dummy = none := nth_dummy t.mask c _ rfl
    have jj : ∀ q, (nth t.mask (stepAt t (k.hash w) c) q).j = way t.mask (k.hash w) (c + q) := fun q => by rw [stepAt_more, stepAt_j]
    have spec := go_spec t S.tab.ris S.tab.dm (fun i => (es[i]?.map (·.1)).getD 0) (k.hash w) (10 * SetTable.turns t.mask) (n - c) _ d0 (by omega)
      (fun q hq => by rw [jj]; exact full (c + q) (by omega)) (by rw [jj, show c + (n - c) = n by omega]; exact free)
    have hashAt : ∀ (i : Nat) p, L[i]? = some p → (es[i]?.map (·.1)).getD 0 = p.2.hash w := fun i p hp => by rw [S.at_ hp]; rfl
    rcases spec with ⟨q, i, hq, hi, hh, miss, pr⟩ | ⟨miss, pr⟩
    · have pr' : t.probe (fun i => (es[i]?.map (·.1)).getD 0) (k.hash w) (from_.getD (t.probeStart (k.hash w))) = some (.candidate (way t.mask (k.hash w) (c + q)) i (stepAt t (k.hash w) (c + (q + 1)))) := by
        rw [hfrom, ← jj, ← stepAt_more]
        exact pr
      rw [pr']
      dsimp only
      rw [jj] at hi
      have hil : i < L.length := by
        have z1 := (List.getElem?_eq_some_iff.mp hi).1
        have z2 := S.tab.sz
        rw [List.length_map] at z2
        rw [Array.length_toList] at z1
        omega
      obtain ⟨p, hp⟩ : ∃ p, L[i]? = some p := ⟨_, List.getElem?_eq_getElem hil⟩
      have mem : p ∈ L := List.mem_of_getElem? hp
      have rest : wpAny (model P w) A (searchRest a (.ref x) (k.hash w) true f es t (way t.mask (k.hash w) (c + q)) i (stepAt t (k.hash w) (c + (q + 1)))) Q E s := by
        unfold searchRest
        rw [S.at_ hp]
        dsimp only
        refine wpAny_bind (wpAny_holding ((nestedKind P w).eqBool room (S.key p mem) hx ?_))
        refine wpAny_bind (wpAny_setState_of g1 g3 S.fits ?_)
        dsimp only
        by_cases same : p.2 = k
        · exact wp_if_pos (by simp [same]) (wpAny_pure (yes (List.mem_map.mpr ⟨p, mem, same⟩)))
        · refine wp_if_neg (by simp [same]) ?_
          try refine wpAny_bind (wpAny_pure ?_)
          rw [same_mem]
          dsimp only
          have live : t.slot (way t.mask (k.hash w) (c + q)) = .live i := slot_live S.tab.ris hi
          simp only [if_true, live, S.at_ hp]
          refine wpAny_bind (wpAny_isSame_ref_self (wpAny_bind (wpAny_pure ?_)))
          simp only [if_true]
          refine wp_if_neg (by simp [same]) ?_
          refine ih (c + (q + 1)) _ rfl (by omega) (by omega) fun i0 p0 h0 hk0 => ?_
          obtain ⟨c', b1, b2, b3⟩ := there i0 p0 h0 hk0
          refine ⟨c', ?_, b2, b3⟩
          rcases Nat.lt_trichotomy c' (c + q) with z | z | z
          · refine (miss (c' - c) i0 (by omega) (by rw [jj, show c + (c' - c) = c' by omega]; exact b3) ?_).elim
            exact (hashAt i0 p0 h0).trans (by rw [hk0])
          · subst z
            have l2 := slot_live S.tab.ris b3
            rw [live] at l2
            injection l2 with l2
            subst l2
            rw [hp] at h0
            cases h0
            exact absurd hk0 same
          · omega
      by_cases led : t.led = true
      · refine wp_if_neg (by simp [led]) ?_
        try refine wpAny_bind (wpAny_pure ?_)
        exact rest
      · refine wp_if_pos (by simp [led]) ?_
        refine wpAny_bind (unseen_keys hx (fun y hy => ?_) ?_)
        · obtain ⟨e, he, rfl⟩ := List.mem_map.mp hy
          have h1 : e ∈ es ∧ e.1 = k.hash w := by simpa using he
          have h2 : e ∈ es.toList := by simpa using h1.1
          rw [S.ent] at h2
          obtain ⟨p2, m2, rfl⟩ := List.mem_map.mp h2
          exact ⟨p2.2, p2.1, rfl, S.key p2 m2⟩
        · refine wp_if_neg (by decide) ?_
          try refine wpAny_bind (wpAny_pure ?_)
          exact rest
    · have pr' : t.probe (fun i => (es[i]?.map (·.1)).getD 0) (k.hash w) (from_.getD (t.probeStart (k.hash w))) = some (.empty (way t.mask (k.hash w) n) none) := by
        have e2 := jj (n - c)
        rw [show c + (n - c) = n by omega] at e2
        rw [hfrom, ← e2]
        exact pr
      rw [pr']
      dsimp only
      refine wpAny_pure (no fun hm => ?_)
      obtain ⟨p0, m0, hk0⟩ := List.mem_map.mp hm
      obtain ⟨i0, h0⟩ := List.getElem?_of_mem m0
      obtain ⟨c', b1, b2, b3⟩ := there i0 p0 h0 hk0
      exact miss (c' - c) i0 (by omega) (by rw [jj, show c + (c' - c) = c' by omega]; exact b3) ((hashAt i0 p0 h0).trans (by rw [hk0]))
/-- the search as adding wants it -/
theorem SN.search0 (S : SN P w s.heap a L es ep t) {x : Addr} {k : NK} (hx : isN s.heap k x) (room : A.units + 8 < cLine) {Q : SetFound → Shared → Prop}
    (yes : k ∈ L.map (·.2) → Q (.there none) s)
    (no : ∀ n, k ∉ L.map (·.2) → way t.mask (k.hash w) n ∉ t.place.toList → (∀ c, c < n → way t.mask (k.hash w) c ∈ t.place.toList) → Q (.free (way t.mask (k.hash w) n) false) s) :
    wpAny (model P w) A (setSearch a (.ref x) (k.hash w) true) Q E s := by
  have gp := S.gap
  obtain ⟨n, nb, nf, nw⟩ := S.tab.first (by rw [List.length_map]; omega) (k.hash w)
  have small : 10 * SetTable.turns t.mask ≤ 1420 := by
    unfold SetTable.turns
    rcases S.tab.mok with e | e | e <;> omega
  unfold setSearch
  refine S.search hx room nb nf nw yes (fun z => no n z nf nw) 100000 0 none rfl (Nat.zero_le _) (by omega) fun i p hp hk => ?_
  have e1 : (L.map fun p => p.2.hash w)[i]? = some (k.hash w) := by rw [List.getElem?_map, hp, ← hk]; rfl
  have il : i < t.place.toList.length := by
    have z1 := (List.getElem?_eq_some_iff.mp hp).1
    have z2 := S.tab.sz
    rw [List.length_map] at z2
    rw [Array.length_toList]
    omega
  obtain ⟨c, hc, e⟩ := S.tab.before nf e1 (List.getElem?_eq_getElem il)
  exact ⟨c, Nat.zero_le _, hc, by rw [List.getElem?_eq_getElem il, e]⟩
/-- a key stands, the set being another object -/
theorem isN_but {h h' : Heap} {k : NK} {a b : Addr} {o : Obj} {es : Array (Int × Value)} {ep : Nat} {t : SetTable} (hb : isN h k b) (g1 : h.get? a = some o) (g3 : o.data = .set es ep t) (hs : Heap.SameBut a h h') : isN h' k b :=
  ⟨NestedIs.at (fun c oc vs m e1 e2 => by
    refine (hs.2 c fun z => ?_).trans e1
    subst z
    rw [g1] at e1
    cases e1
    rw [g3] at e2
    cases e2) k _ hb.1, hb.2⟩
theorem isN_keep {h h' : Heap} {k : NK} {b : Addr} (x : isN h k b) (hk : ∀ c o, h.get? c = some o → h'.get? c = some o) : isN h' k b :=
  ⟨NestedIs.at (fun c oc vs m e1 e2 => hk c oc e1) k _ x.1, x.2⟩
theorem range_pick {α : Type} (L : List α) : (List.range L.length).filterMap (fun i => L[i]?) = L := by
  have key : ∀ n, n ≤ L.length → (List.range n).filterMap (fun i => L[i]?) = L.take n := by
    intro n
    induction n with
    | zero => intro _; rfl
    | succ n ih =>
      intro hn
      rw [List.range_succ, List.filterMap_append, ih (by omega), List.take_succ]
      simp [List.getElem?_eq_getElem (show n < L.length from hn)]
  rw [key _ (Nat.le_refl _), List.take_length]
/-- the entries in another order -/
theorem reorder (L : List (Addr × NK)) (es : Array (Int × Value)) (order : Array Nat) (hr : es.toList = L.map fun p => (p.2.hash w, Value.ref p.1)) (hp : order.toList.Perm (List.range L.length)) :
    ∃ L2 : List (Addr × NK), (order.filterMap (es[·]?)).toList = (L2.map fun p => (p.2.hash w, Value.ref p.1)) ∧ L2.Perm L ∧ (L2.map fun p => p.2.hash w) = order.toList.map fun i => (es.map (·.1)).getD i 0 := by
  have ent : ∀ i (h : i < L.length), es[i]? = some ((L[i]).2.hash w, Value.ref (L[i]).1) := fun i h => by
    rw [← Array.getElem?_toList, hr, List.getElem?_map, List.getElem?_eq_getElem h]
    rfl
  have key : ∀ l : List Nat, (∀ i ∈ l, i < L.length) → l.filterMap (fun i => es[i]?) = ((l.filterMap fun i => L[i]?).map fun p => (p.2.hash w, Value.ref p.1)) ∧ ((l.filterMap fun i => L[i]?).map fun p => p.2.hash w) = l.map fun i => (es.map (·.1)).getD i 0 := by
    intro l
    induction l with
    | nil => intro _; exact ⟨rfl, rfl⟩
    | cons i l ih =>
      intro hl
      have hi := hl i List.mem_cons_self
      obtain ⟨e1, e2⟩ := ih fun j hj => hl j (List.mem_cons_of_mem _ hj)
      rw [List.filterMap_cons_some (ent i hi), List.filterMap_cons_some (List.getElem?_eq_getElem hi), e1, List.map_cons, List.map_cons, e2]
      refine ⟨rfl, ?_⟩
      rw [List.map_cons]
      congr 1
      have e5 : (es.map (·.1))[i]? = some ((L[i]).2.hash w) := by rw [Array.getElem?_map, ent i hi]; rfl
      simp [Array.getD_eq_getD_getElem?, e5]
  obtain ⟨e1, e2⟩ := key order.toList fun i hi => List.mem_range.mp (hp.mem_iff.mp hi)
  refine ⟨order.toList.filterMap fun i => L[i]?, by simpa using e1, ?_, e2⟩
  have z := hp.filterMap fun i => L[i]?
  rw [range_pick] at z
  exact z
/-- the table is laid anew -/
theorem SN.relay {o : Obj} (g1 : s.heap.get? a = some o) (g2 : o.ExactSet) (g3 : o.data = .set es ep t) (ent : es.toList = L.map fun p => (p.2.hash w, Value.ref p.1)) (sz : t.place.size = es.size) (dm : t.dummies = #[]) (fl : es.size ≤ t.mask)
    (nod : (L.map (·.2)).Nodup) (key : ∀ p ∈ L, isN s.heap p.2 p.1) (ord : w.params.followText "set-order" = true ∨ t.led = true) (few : L.length < 76) {wanted M : Nat}
    (m1 : SetTable.sizeAbove wanted - 1 = M) (m2 : MaskOk M) (m3 : SetTable.sizeAbove wanted ≤ 128) (m4 : L.length * 5 < M * 3) {Q : Unit → Shared → Prop}
    (fin : ∀ h' L' es' ep' t', Heap.SameBut a s.heap h' → SN P w h' a L' es' ep' t' → L'.Perm L → Q () { s with heap := h' }) : wpAny (model P w) A (setRelay a wanted) Q E s := by
  have len := ent_size ent
  have fits : t.fits es.size = true := by
    simp only [SetTable.fits, SetTable.fill, dm, Bool.and_eq_true, beq_iff_eq, decide_eq_true_eq]
    refine ⟨by omega, ?_⟩
    show t.place.size + 0 ≤ t.mask
    omega
  obtain ⟨t', order, e, hp, T, em, el, ep', ed⟩ := relaid_ok t (hs := es.map (·.1)) (wanted := wanted) m1 m2 (by rw [Array.size_map, len]; omega)
  rw [Array.size_map, len] at hp
  obtain ⟨L2, r1, r2, r3⟩ := reorder L es order ent hp
  rw [← r3] at T
  have sz2 : (order.filterMap (es[·]?)).size = es.size := by rw [ent_size r1, r2.length_eq, len]
  rw [setRelay_eq]
  refine wpAny_bind (wpAny_setState_of g1 g3 fits ?_)
  dsimp only
  refine wp_if_neg (by rw [sizeLine_eq]; omega) ?_
  try refine wpAny_bind (wpAny_pure ?_)
  rw [e]
  dsimp only
  refine wpAny_bind (wp_if_neg (by rw [sz2]; simp) ?_)
  try refine wpAny_bind (wpAny_pure ?_)
  refine wpAny_pure ?_
  dsimp only
  refine wpAny_storeSet_of g1 g3 ?_ (by rw [sz2, len, sizeLine_eq]; omega)
  have sb : Heap.SameBut a s.heap (s.heap.update a (Obj.putSet (order.filterMap (es[·]?)) t')) := Heap.SameBut.update ..
  refine fin _ L2 (order.filterMap (es[·]?)) (ep + 1) t' sb ⟨⟨_, store_at g1 g3, ⟨g2.1, g2.2.1, g2.2.2⟩, rfl⟩, r1, T, (r2.map (·.2)).nodup_iff.mpr nod, fun p hpm => isN_but (key p (r2.mem_iff.mp hpm)) g1 g3 sb, by rw [el]; exact ord, ?_, by rw [r2.length_eq]; exact few⟩ r2
  rw [r2.length_eq, em]
  exact m4
/-- a key is added -/
theorem SN.add (S : SN P w s.heap a L es ep t) {x : Addr} {k : NK} (hx : isN s.heap k x) (room : A.units + 8 < cLine) (few : k ∉ L.map (·.2) → L.length + 1 < 76) {Q : Bool → Shared → Prop}
    (fin : ∀ b h' L' es' ep' t', Heap.SameBut a s.heap h' → SN P w h' a L' es' ep' t' → (k ∈ L.map (·.2) → L' = L) → (k ∉ L.map (·.2) → L'.Perm ((x, k) :: L)) → Q b { s with heap := h' }) :
    wpAny (model P w) A (setAddHashed a (.ref x) (k.hash w)) Q E s := by
  obtain ⟨o, g1, g2, g3⟩ := S.obj
  have len := S.size
  have gp := S.gap
  unfold setAddHashed
  refine wpAny_holding ?_
  rw [show (100000 : Nat) = 99999 + 1 from rfl, setAddHashedIn_succ]
  refine wpAny_bind (wpAny_setState_of g1 g3 S.fits ?_)
  dsimp only
  refine wp_if_neg (by simp [byScan, Value.scannable]) ?_
  try refine wpAny_bind (wpAny_pure ?_)
  refine wpAny_bind (S.search0 hx room (fun hm => ?_) fun n hm nf nw => ?_)
  · exact wpAny_pure (fin false s.heap L es ep t (Heap.SameBut.refl a s.heap) S (fun _ => rfl) fun z => absurd hm z)
  · have fewm := few hm
    dsimp only
    refine wpAny_bind (wpAny_setState_of g1 g3 S.fits ?_)
    dsimp only
    obtain ⟨q1, q2, q3, q4, q5, q6, q7, q8, q9⟩ := S.tab.put nf nw
    generalize hpt : t.put (way t.mask (k.hash w) n) = pt at q1 q3 q4 q5 q6 q7 q8 q9 ⊢
    obtain ⟨t1, p⟩ := pt
    dsimp only at q1 q3 q4 q5 q6 q7 q8 q9 ⊢
    subst q1
    generalize hpp : SetTable.below t.place (way t.mask (k.hash w) n) = p at q2 q3 ⊢
    have pm : (L.take p ++ (x, k) :: L.drop p).Perm ((x, k) :: L) := by
      have z : (L.take p ++ (x, k) :: L.drop p).Perm ((x, k) :: (L.take p ++ L.drop p)) := List.perm_middle
      rwa [List.take_append_drop] at z
    have hin : (SetTable.insertAt es p (k.hash w, Value.ref x)).toList = (L.take p ++ (x, k) :: L.drop p).map fun p => (p.2.hash w, Value.ref p.1) := by
      rw [SetTable.toList_insertAt, S.ent, List.map_append, List.map_cons, List.map_take, List.map_drop]
    have hh : ((L.take p ++ (x, k) :: L.drop p).map fun p => p.2.hash w) = (L.map fun p => p.2.hash w).take p ++ k.hash w :: (L.map fun p => p.2.hash w).drop p := by
      rw [List.map_append, List.map_cons, List.map_take, List.map_drop]
    rw [← hh] at q3
    have hlen : (L.take p ++ (x, k) :: L.drop p).length = L.length + 1 := pm.length_eq
    have nod1 : ((L.take p ++ (x, k) :: L.drop p).map (·.2)).Nodup := by
      refine (pm.map (·.2)).nodup_iff.mpr ?_
      rw [List.map_cons]
      exact List.nodup_cons.mpr ⟨hm, S.nod⟩
    have hes := ent_size hin
    rw [hlen] at hes
    generalize SetTable.insertAt es p (k.hash w, Value.ref x) = es1 at hin hes ⊢
    generalize L.take p ++ (x, k) :: L.drop p = L1 at pm hlen q3 nod1 hin
    -- whatever is told of the hash
    have go : ∀ t2 : SetTable, TabOk t2 (L1.map fun p => p.2.hash w) → t2.mask = t1.mask → t2.led = t1.led → t2.tooFull = t1.tooFull → t2.place = t1.place → t2.dummies = t1.dummies →
        wpAny (model P w) A (do
          storeSet a es1 t2
          if !false && t2.tooFull then setRelay a (SetTable.grown (es.size + 1))
          return true) Q E s := by
      intro t2 T2 em el ef epl ed
      refine wpAny_bind (wpAny_storeSet_of g1 g3 ?_ (by rw [hes, sizeLine_eq]; omega))
      have sb : Heap.SameBut a s.heap (s.heap.update a (Obj.putSet es1 t2)) := Heap.SameBut.update ..
      have ho1 := store_at (es' := es1) (t' := t2) g1 g3
      generalize s.heap.update a (Obj.putSet es1 t2) = h1 at sb ho1 ⊢
      have key1 : ∀ p ∈ L1, isN h1 p.2 p.1 := fun p hp => by
        rcases List.mem_cons.mp (pm.mem_iff.mp hp) with e | hp
        · rw [e]; exact isN_but hx g1 g3 sb
        · exact isN_but (S.key p hp) g1 g3 sb
      have ord1 : w.params.followText "set-order" = true ∨ t2.led = true := by rw [el, q5]; exact S.ord
      by_cases hf : t2.tooFull = true
      · first
          | (refine wpAny_bind ?_; refine wp_if_pos (by simp [hf]) ?_)
          | (refine wp_if_pos (by simp [hf]) ?_; refine wpAny_bind ?_)
        have full : (L.length + 1) * 5 ≥ t1.mask * 3 := by
          have z := hf
          rw [ef] at z
          unfold SetTable.tooFull at z
          rw [decide_eq_true_eq, q9, List.length_map] at z
          exact z
        rw [len]
        have sz1 : t2.place.size = es1.size := by
          have z := T2.sz
          rw [List.length_map, hlen] at z
          rw [z, hes]
        have two : (t.mask = 7 ∧ L.length = 4) ∨ (t.mask = 31 ∧ L.length = 18) := by
          rcases S.tab.mok with e | e | e
          · left; rw [q4, e] at full; rw [e] at gp; exact ⟨e, by omega⟩
          · right; rw [q4, e] at full; rw [e] at gp; exact ⟨e, by omega⟩
          · exfalso; rw [q4, e] at full; omega
        have lay : ∀ M, SetTable.sizeAbove (SetTable.grown (L.length + 1)) - 1 = M → MaskOk M → SetTable.sizeAbove (SetTable.grown (L.length + 1)) ≤ 128 → (L.length + 1) * 5 < M * 3 →
            wpAny (model P w) A (setRelay a (SetTable.grown (L.length + 1))) (fun _ s' => wpAny (model P w) A (pure true) Q E s') E { s with heap := h1 } := fun M l1 l2 l3 l4 => by
          refine SN.relay (s := { s with heap := h1 }) ho1 ⟨g2.1, g2.2.1, g2.2.2⟩ rfl hin sz1 T2.dm (by rw [hes, em, q4]; rcases two with ⟨e, e2⟩ | ⟨e, e2⟩ <;> omega) nod1 key1 ord1 (by rw [hlen]; exact few hm) l1 l2 l3 (by rw [hlen]; exact l4) ?_
          intro h2 L2 es2 ep2 t3 sb2 S2 pm2
          exact wpAny_pure (fin true h2 L2 es2 ep2 t3 (sb.trans sb2) S2 (fun z => absurd z hm) fun _ => pm2.trans pm)
        rcases two with ⟨_, e2⟩ | ⟨_, e2⟩
        · exact lay 31 (by rw [e2, size_20]) (.inr (.inl rfl)) (by rw [e2, size_20]; decide) (by omega)
        · exact lay 127 (by rw [e2, size_76]) (.inr (.inr rfl)) (by rw [e2, size_76]; decide) (by omega)
      · first
          | refine wp_if_neg (by simp [hf]) ?_
          | (refine wpAny_bind ?_; refine wp_if_neg (by simp [hf]) ?_; refine wpAny_pure ?_)
        refine wpAny_pure (fin true h1 L1 es1 (ep + 1) t2 sb ⟨⟨_, ho1, ⟨g2.1, g2.2.1, g2.2.2⟩, rfl⟩, hin, T2, nod1, key1, ord1, ?_, by rw [hlen]; exact few hm⟩ (fun z => absurd z hm) fun _ => pm)
        have z := hf
        rw [ef] at z
        unfold SetTable.tooFull at z
        rw [decide_eq_true_eq, q9, List.length_map] at z
        rw [hlen, em]
        omega
    by_cases pl : t1.plain = true
    · first
        | (refine wpAny_bind ?_; refine wp_if_pos pl ?_; refine hashAny_key k _ 8 s hx.1 hx.2 _ _ _ fun b => ?_)
        | refine wp_if_pos pl (wpAny_bind (hashAny_key k _ 8 s hx.1 hx.2 _ _ _ fun b => ?_))
      cases b with
      | true =>
        simp only [if_true]
        exact go t1 q3 rfl rfl rfl rfl rfl
      | false =>
        simp only [Bool.false_eq_true, if_false]
        exact go { t1 with plain := false } ⟨q3.ris, q3.dm, q3.sz, q3.mok, q3.bd, q3.reach⟩ rfl rfl rfl rfl rfl
    · first
        | (refine wpAny_bind ?_; refine wp_if_neg pl ?_; refine wpAny_pure ?_)
        | refine wp_if_neg pl (wpAny_bind (wpAny_pure ?_))
      simp only [if_true]
      exact go t1 q3 rfl rfl rfl rfl rfl
end
end PB

set_option Elab.async false
set_option linter.all false
set_option maxRecDepth 100000
set_option maxHeartbeats 4000000
/-! set(xs). -/
namespace PB
open PySem PySem.Spec PyProof.Rows L2
/-- what the set has of the first i keys -/
structure GotN (ks : List (Addr × NK)) (i : Nat) (L : List (Addr × NK)) : Prop where
  sub : ∀ p ∈ L, p ∈ ks.take i
  all : ∀ p ∈ ks.take i, p.2 ∈ L.map (·.2)
  len : L.length ≤ i
theorem GotN.zero (ks : List (Addr × NK)) : GotN ks 0 [] := ⟨fun p h => (by cases h), fun p h => (by simp at h), Nat.le_refl _⟩
theorem GotN.next {ks L L' : List (Addr × NK)} {i : Nat} {x : Addr × NK} (g : GotN ks i L) (h : ks[i]? = some x) (c1 : x.2 ∈ L.map (·.2) → L' = L) (c2 : x.2 ∉ L.map (·.2) → L'.Perm (x :: L)) : GotN ks (i + 1) L' := by
  have tk : ks.take (i + 1) = ks.take i ++ [x] := by rw [List.take_succ, h]; rfl
  by_cases c : x.2 ∈ L.map (·.2)
  · rw [c1 c]
    refine ⟨fun p hp => ?_, fun p hp => ?_, by have := g.len; omega⟩
    · rw [tk]
      exact List.mem_append_left _ (g.sub p hp)
    · rw [tk] at hp
      rcases List.mem_append.mp hp with z | z
      · exact g.all p z
      · rw [List.mem_singleton.mp z]
        exact c
  · have pm := c2 c
    refine ⟨fun p hp => ?_, fun p hp => ?_, by rw [pm.length_eq, List.length_cons]; have := g.len; omega⟩
    · rw [tk]
      rcases List.mem_cons.mp (pm.mem_iff.mp hp) with e | z
      · rw [e]
        exact List.mem_append_right _ (List.mem_singleton.mpr rfl)
      · exact List.mem_append_left _ (g.sub p z)
    · rw [(pm.map (·.2)).mem_iff, List.map_cons]
      rw [tk] at hp
      rcases List.mem_append.mp hp with z | z
      · exact List.mem_cons_of_mem _ (g.all p z)
      · rw [List.mem_singleton.mp z]
        exact List.mem_cons_self
section
variable {P : Program} {w : World} {A : Around} {E : Value → Shared → Prop} {s : Shared}
theorem SN.keep {h h' : Heap} {a : Addr} {L : List (Addr × NK)} {es : Array (Int × Value)} {ep : Nat} {t : SetTable} (S : SN P w h a L es ep t) (ha : ∀ o, h.get? a = some o → h'.get? a = some o) (ht : ∀ p ∈ L, isN h' p.2 p.1) : SN P w h' a L es ep t := by
  obtain ⟨o, g1, g2⟩ := S.obj
  exact ⟨⟨o, ha o g1, g2⟩, S.ent, S.tab, S.nod, ht, S.ord, S.gap, S.few⟩
def freshS (w : World) : Obj := { cls := .type "set", dict := none, data := .set #[] 0 (.fresh 0 0 (!w.params.followText "set-order")) }
theorem SN.fresh {h : Heap} {a : Addr} (g1 : h.get? a = some (freshS w)) : SN P w h a [] #[] 0 (.fresh 0 0 (!w.params.followText "set-order")) where
  obj := ⟨_, g1, ⟨rfl, rfl, rfl⟩, rfl⟩
  ent := rfl
  tab := ⟨List.Pairwise.nil, rfl, rfl, .inl rfl, fun x hx => (by cases hx), fun i h j hi => (by simp at hi)⟩
  nod := List.nodup_nil
  key := fun p hp => (by cases hp)
  ord := by
    show _ ∨ (!w.params.followText "set-order") = true
    cases w.params.followText "set-order"
    · exact .inr rfl
    · exact .inl rfl
  gap := (by decide : 0 * 5 < 7 * 3)
  few := (by decide : 0 < 76)
theorem nodup_len {α : Type} : ∀ (l ds : List α), l.Nodup → (∀ x ∈ l, x ∈ ds) → l.length ≤ ds.length
  | [], _, _, _ => Nat.zero_le _
  | x :: l, ds, nd, sub => by
    obtain ⟨n1, n2⟩ := List.nodup_cons.mp nd
    obtain ⟨a, b, rfl⟩ := List.append_of_mem (sub x List.mem_cons_self)
    have := nodup_len l (a ++ b) n2 fun y hy => by
      rcases List.mem_append.mp (sub y (List.mem_cons_of_mem _ hy)) with h | h
      · exact List.mem_append_left _ h
      · rcases List.mem_cons.mp h with e | h
        · exact absurd (e ▸ hy) n1
        · exact List.mem_append_right _ h
    simp only [List.length_append, List.length_cons] at this ⊢
    omega
/-- unlike keys are no more than all there are -/
theorem few_room {ks L : List (Addr × NK)} {x : Addr × NK} (few : ∃ ds : List NK, (∀ p ∈ ks, p.2 ∈ ds) ∧ ds.length < 76) (nod : (L.map (·.2)).Nodup) (sub : ∀ p ∈ L, p ∈ ks) (hx : x ∈ ks) (no : x.2 ∉ L.map (·.2)) : L.length + 1 < 76 := by
  obtain ⟨ds, h1, h2⟩ := few
  have nd : (x.2 :: L.map (·.2)).Nodup := List.nodup_cons.mpr ⟨no, nod⟩
  have sb : ∀ k ∈ (x.2 :: L.map (·.2)), k ∈ ds := fun k hk => by
    rcases List.mem_cons.mp hk with e | hk
    · rw [e]; exact h1 x hx
    · obtain ⟨p, hp, rfl⟩ := List.mem_map.mp hk
      exact h1 p (sub p hp)
  have := nodup_len _ _ nd sb
  rw [List.length_cons, List.length_map] at this
  omega
/-- the loop of set.update -/
theorem loop_setN {I : Addr} {fp wr : List Addr} {G : Array GenState → Array GenState → Prop} {n : Nat} {Pv : Nat → Value → Prop} {St : Nat → Shared → Prop} {R : Result → Shared → Prop}
    (W : WalksS P w A.in1 I fp wr G n Pv St) (S : Addr) (off : S ∉ fp) (ks : List (Addr × NK)) (hn : n = ks.length) (few : ∃ ds : List NK, (∀ p ∈ ks, p.2 ∈ ds) ∧ ds.length < 76) (val : ∀ i v, Pv i v → ∃ p, ks[i]? = some p ∧ v = .ref p.1)
    (h0 : Heap) (hk : ∀ p ∈ ks, isN h0 p.2 p.1) (z0 : h0.get? S = none) (zw : ∀ b ∈ wr, h0.get? b = none) (room : A.in1.units + 8 < cLine) :
    ∀ (k i : Nat) (s : Shared), n - i = k → i ≤ n → St i s → (∀ b o, h0.get? b = some o → s.heap.get? b = some o) → (∃ L es ep t, SN P w s.heap S L es ep t ∧ GotN ks i L) →
      (∀ s' L es ep t, Moved (S :: wr) G s s' → SN P w s'.heap S L es ep t → GotN ks n L → (∀ b o, h0.get? b = some o → s'.heap.get? b = some o) → R (.ok (.ret .none)) s') →
      codeAny (model P w) A (.builtin "set.update.loop" ⟨[.ref S, .ref I], []⟩) R s := by
  have offw : S ∉ wr := fun h => off (W.sub _ h)
  have more : ∀ b ∈ wr, b ∈ S :: wr := fun b hb => List.mem_cons_of_mem _ hb
  have keepM : ∀ {s s' : Shared}, Moved wr G s s' → (∀ b o, h0.get? b = some o → s.heap.get? b = some o) → ∀ b o, h0.get? b = some o → s'.heap.get? b = some o := fun hm hkp b o e =>
    hm.heap b o (fun hb => by rw [zw b hb] at e; cases e) (hkp b o e)
  intro k
  induction k with
  | zero =>
    intro i s hk' hi hst hkp ⟨L, es, ep, t, hS, g⟩ fin
    obtain rfl : i = n := by omega
    refine codeAny_builtin F.entry_set_update_loop ?_
    rw [Around.under_plainId F.plain_set_update_loop _]
    show wpAny _ A.in1 (pyNext (.ref I) >>= _) _ _ s
    refine wpAny_bind (W.done s _ _ hst fun s' hm => ?_)
    show wpAny _ A.in1 (ret Value.none) _ _ s'
    have hkp' := keepM hm hkp
    exact wpAny_pure (fin s' L es ep t (hm.mono more) (hS.keep (fun o e => hm.heap S o offw e) fun p hp => isN_keep (hk p (List.mem_of_mem_take (g.sub p hp))) hkp') g hkp')
  | succ k ih =>
    intro i s hk' hi hst hkp ⟨L, es, ep, t, hS, g⟩ fin
    have lt : i < n := by omega
    refine codeAny_builtin F.entry_set_update_loop ?_
    rw [Around.under_plainId F.plain_set_update_loop _]
    show wpAny _ A.in1 (pyNext (.ref I) >>= _) _ _ s
    refine wpAny_bind (W.item i s _ _ lt hst fun v s' hP hst' hm => ?_)
    obtain ⟨p, hp, rfl⟩ := val i v hP
    have hkp' := keepM hm hkp
    have hS' : SN P w s'.heap S L es ep t := hS.keep (fun o e => hm.heap S o offw e) fun q hq => isN_keep (hk q (List.mem_of_mem_take (g.sub q hq))) hkp'
    have hx : isN s'.heap p.2 p.1 := isN_keep (hk p (List.mem_of_getElem? hp)) hkp'
    show wpAny _ A.in1 (holding [Value.ref p.1] (setAdd S (.ref p.1)) >>= _) _ _ s'
    refine wpAny_bind (wpAny_holding ?_)
    unfold setAdd
    refine wpAny_holding (wpAny_bind ((nestedKind P w).pyHash room hx ?_))
    refine SN.add (s := { s' with toks := s'.toks + p.2.draws }) hS' hx room (fun no => few_room few hS.nod (fun q hq => List.mem_of_mem_take (g.sub q hq)) (List.mem_of_getElem? hp) no) fun b h' L' es' ep' t' hsb hS2 c1 c2 => ?_
    have hkp2 : ∀ b o, h0.get? b = some o → h'.get? b = some o := fun b o e => (hsb.2 b (fun z => by rw [z, z0] at e; cases e)).trans (hkp' b o e)
    refine wpAny_pure ⟨plainId_quiet F.plain_set_update_loop _, ih (i + 1) _ (by omega) lt (W.frame _ s' _ _ hst' (Nat.le_add_right _ _) fun b hb o e => ?_) hkp2 ⟨L', es', ep', t', hS2, g.next hp c1 c2⟩ fun s'' L2 es2 ep2 t2 hm'' hS'' g'' hkp'' => ?_⟩
    · rw [hsb.2 b (fun h : b = S => off (h ▸ hb))]
      exact e
    · refine fin s'' L2 es2 ep2 t2 (Moved.trans W.gtrans ((hm.mono more).then_heap (Nat.le_add_right _ _) fun b o hb e => ?_) hm'') hS'' g'' hkp''
      rw [hsb.2 b (fun h : b = S => hb (h ▸ List.mem_cons_self))]
      exact e
end
end PB

set_option Elab.async false
set_option linter.all false
set_option maxRecDepth 100000
set_option maxHeartbeats 4000000
/-! set(xs). -/
namespace PB
open PySem PySem.Spec PyProof.Rows L2
section
variable {P : Program} {w : World} {A : Around} {E : Value → Shared → Prop} {s : Shared}

set_option maxHeartbeats 6000000 in
/-- set(xs) of a tuple -/
theorem call_setN_tuple {l : Addr} {us : Array Value} (ks : List (Addr × NK)) {Q : Value → Shared → Prop} (calm : A.handled = none) (hl : s.heap.IsTuple l us) (hus : us.toList = ks.map fun p => Value.ref p.1)
    (hk : ∀ p ∈ ks, isN s.heap p.2 p.1) (few : ∃ ds : List NK, (∀ p ∈ ks, p.2 ∈ ds) ∧ ds.length < 76) (room : A.units + 20 < cLine)
    (fin : ∀ (h' : Heap) (tk : Nat) L es ep t, SN P w h' s.heap.objs.size L es ep t → GotN ks ks.length L → (∀ b o, s.heap.get? b = some o → h'.get? b = some o) → Q (.ref s.heap.objs.size) { s with heap := h', toks := tk }) :
    wpAny (model P w) A (call (.type "set") [.ref l]) Q E s := by
  have size : us.size = ks.length := by rw [← Array.length_toList, hus, List.length_map]
  obtain ⟨c, tl, hmro⟩ := F.called_set.mro
  have hmade := F.called_set.made
  have hsub := F.called_set.sub
  refine wpAny_call (codeAny_of_tree ?_)
  show wpAny _ _ (callAny (.type "set") _) _ _ _
  refine wpAny_pure ⟨Code.quiet_builtin _ (by decide +kernel), codeAny_builtin F.entry_type_call ?_⟩
  rw [Around.under_plain (weight_type_call_type "set" [.ref l] []) rfl]
  have f1 := F.called_set.notType
  have f2 := F.called_set.canCreate
  have f3 := F.typeCall_set_1 (.ref l)
  repeat (any_goals (first | assumption | wp_step))
  refine codeAny_mono (code_set_led1 (.ref l) (E := E) (Q₁ := fun obj z => obj = .ref s.heap.objs.size ∧ z = { s with heap := s.heap.push (freshS w) }) ⟨rfl, rfl⟩) fun r z hr => ?_
  cases r with
  | error e => exact hr
  | ok fl =>
    cases fl with
    | ret obj =>
      obtain ⟨rfl, rfl⟩ := hr
      have gS : (s.heap.push (freshS w)).get? s.heap.objs.size = some (freshS w) := Heap.get?_push_size _ rfl
      have tS : Shared.TypeIs { s with heap := s.heap.push (freshS w) } (.ref s.heap.objs.size) "set" := ⟨_, gS, rfl⟩
      have f4 := F.called_set.init.lookup
      have f5 := F.called_set.init.bind (.ref s.heap.objs.size)
      repeat (any_goals (first | assumption | wp_step))
      refine codeAny_mono (codeAny_call_builtin (R := wants (fun r z => r = .none ∧ ∃ h' tk L es ep t, z = { s with heap := h', toks := tk } ∧ SN P w h' s.heap.objs.size L es ep t ∧ GotN ks ks.length L ∧
          (∀ b o, s.heap.get? b = some o → h'.get? b = some o)) E) F.called_set.init.plain F.entry_set_init (check_set_init_1 tS ?_)) fun r z hr => ?_
      · obtain ⟨ol, e1, e2, nl, e3⟩ := hl
        obtain ⟨ocls, odict, odata, oslots⟩ := ol
        simp only at e2 e3
        subst e2; subst e3
        have e1' : (s.heap.push (freshS w)).get? l = some { cls := .type "tuple", dict := odict, data := .seq us nl, slots := oslots } := Heap.get?_push_of_some _ e1
        have f6 := F.sub_tuple_set
        have f7 := F.sub_tuple_frozenset
        have f8 : (Value.type "tuple" == Value.type "dict") = false := by decide
        have hl1 : (s.heap.push (freshS w)).IsTuple l us := ⟨_, e1', rfl, nl, rfl⟩
        unfold Builtin.«set.__init__» noKeywords Builtin.Frozenset.updateFrom
        generalize hPI : pyIter = PI
        wp_walk
        subst hPI
        refine wpAny_pyIter_tuple hl1 (wpAny_bind (wpAny_runValue ?_))
        have lS : l < s.heap.objs.size := Heap.lt_size e1
        have calm3 : A.in1.in1.in1.handled = none := by simp [calm]
        have neI : l ≠ (s.heap.push (freshS w)).objs.size := by
          rw [Heap.size_push]
          exact Nat.ne_of_lt (Nat.lt_succ_of_lt lS)
        have off : s.heap.objs.size ∉ [(s.heap.push (freshS w)).objs.size, l] := by
          rw [Heap.size_push]
          intro hm
          rcases List.mem_cons.mp hm with e | hm
          · exact absurd e (Nat.ne_of_lt (Nat.lt_succ_self _))
          · exact absurd (List.mem_singleton.mp hm).symm (Nat.ne_of_lt lS)
        have val : ∀ (i : Nat) (v : Value), us[i]? = some v → ∃ p, ks[i]? = some p ∧ v = .ref p.1 := fun i v hv => by
          have q : us.toList[i]? = some v := by rw [Array.getElem?_toList]; exact hv
          rw [hus, List.getElem?_map] at q
          cases hq : ks[i]? with
          | none => rw [hq] at q; cases q
          | some p =>
            rw [hq] at q
            exact ⟨p, rfl, (Option.some.inj q).symm⟩
        have none_of : ∀ b, s.heap.objs.size ≤ b → s.heap.get? b = none := fun b hb => by
          cases q : s.heap.get? b with
          | none => rfl
          | some o => exact absurd (Heap.lt_size q) (Nat.not_lt.mpr hb)
        refine loop_setN ((Walks.tuple calm3 _ l neI us).toS) s.heap.objs.size
          off ks size few val s.heap hk (none_of _ (Nat.le_refl _)) (fun b hb => none_of b (by
            rw [List.mem_singleton.mp hb, Heap.size_push]
            exact Nat.le_succ _)) (by show A.units + 3 + 8 < cLine; omega) (us.size - 0) 0 _ (by omega) (Nat.zero_le _)
          ⟨⟨_, Heap.get?_push_size _ rfl, rfl, rfl⟩, (hl1.push _)⟩ (fun b o e => Heap.get?_push_of_some _ (Heap.get?_push_of_some _ e)) ?start ?done
        case start => exact ⟨[], #[], 0, _, SN.fresh (Heap.get?_push_of_some _ gS), GotN.zero ks⟩
        case done =>
          intro z L es ep t hm hS g hkp
          obtain ⟨h', g2, d', tk', os'⟩ := z
          obtain rfl : g2 = s.gens := hm.gens
          obtain rfl : d' = s.drawn := hm.drawn
          obtain rfl : os' = s.os := hm.os
          show wpAny _ _ _ _ _ _
          refine wpAny_pure ?_
          show wpAny _ _ (ret Value.none) _ _ _
          rw [size] at g
          exact wpAny_pure ⟨rfl, h', tk', L, es, ep, t, rfl, hS, g, hkp⟩
      · cases r with
        | error e => exact hr
        | ok fl =>
          cases fl with
          | ret r =>
            obtain ⟨rfl, h', tk, L, es, ep, t, rfl, hS, g, hk'⟩ := hr
            repeat (any_goals (first | assumption | wp_step))
            exact fin _ _ _ _ _ _ hS g hk'
          | _ => exact hr.elim
    | _ => exact hr.elim
end
end PB

set_option Elab.async false
set_option linter.all false
set_option maxRecDepth 100000
set_option maxHeartbeats 4000000
/-! set(xs). -/
namespace PB
open PySem PySem.Spec PyProof.Rows L2
section
variable {P : Program} {w : World} {A : Around} {E : Value → Shared → Prop} {s : Shared}

set_option maxHeartbeats 6000000 in
/-- set(xs) of a list -/
theorem call_setN_list {l : Addr} {us : Array Value} (ks : List (Addr × NK)) {Q : Value → Shared → Prop} (calm : A.handled = none) (hl : s.heap.IsList l us) (hus : us.toList = ks.map fun p => Value.ref p.1)
    (hk : ∀ p ∈ ks, isN s.heap p.2 p.1) (few : ∃ ds : List NK, (∀ p ∈ ks, p.2 ∈ ds) ∧ ds.length < 76) (room : A.units + 20 < cLine)
    (fin : ∀ (h' : Heap) (tk : Nat) L es ep t, SN P w h' s.heap.objs.size L es ep t → GotN ks ks.length L → (∀ b o, s.heap.get? b = some o → h'.get? b = some o) → Q (.ref s.heap.objs.size) { s with heap := h', toks := tk }) :
    wpAny (model P w) A (call (.type "set") [.ref l]) Q E s := by
  have size : us.size = ks.length := by rw [← Array.length_toList, hus, List.length_map]
  obtain ⟨c, tl, hmro⟩ := F.called_set.mro
  have hmade := F.called_set.made
  have hsub := F.called_set.sub
  refine wpAny_call (codeAny_of_tree ?_)
  show wpAny _ _ (callAny (.type "set") _) _ _ _
  refine wpAny_pure ⟨Code.quiet_builtin _ (by decide +kernel), codeAny_builtin F.entry_type_call ?_⟩
  rw [Around.under_plain (weight_type_call_type "set" [.ref l] []) rfl]
  have f1 := F.called_set.notType
  have f2 := F.called_set.canCreate
  have f3 := F.typeCall_set_1 (.ref l)
  repeat (any_goals (first | assumption | wp_step))
  refine codeAny_mono (code_set_led1 (.ref l) (E := E) (Q₁ := fun obj z => obj = .ref s.heap.objs.size ∧ z = { s with heap := s.heap.push (freshS w) }) ⟨rfl, rfl⟩) fun r z hr => ?_
  cases r with
  | error e => exact hr
  | ok fl =>
    cases fl with
    | ret obj =>
      obtain ⟨rfl, rfl⟩ := hr
      have gS : (s.heap.push (freshS w)).get? s.heap.objs.size = some (freshS w) := Heap.get?_push_size _ rfl
      have tS : Shared.TypeIs { s with heap := s.heap.push (freshS w) } (.ref s.heap.objs.size) "set" := ⟨_, gS, rfl⟩
      have f4 := F.called_set.init.lookup
      have f5 := F.called_set.init.bind (.ref s.heap.objs.size)
      repeat (any_goals (first | assumption | wp_step))
      refine codeAny_mono (codeAny_call_builtin (R := wants (fun r z => r = .none ∧ ∃ h' tk L es ep t, z = { s with heap := h', toks := tk } ∧ SN P w h' s.heap.objs.size L es ep t ∧ GotN ks ks.length L ∧
          (∀ b o, s.heap.get? b = some o → h'.get? b = some o)) E) F.called_set.init.plain F.entry_set_init (check_set_init_1 tS ?_)) fun r z hr => ?_
      · obtain ⟨ol, e1, e2, nl, e3⟩ := hl
        obtain ⟨ocls, odict, odata, oslots⟩ := ol
        simp only at e2 e3
        subst e2; subst e3
        have e1' : (s.heap.push (freshS w)).get? l = some { cls := .type "list", dict := odict, data := .seq us nl, slots := oslots } := Heap.get?_push_of_some _ e1
        have f6 := F.sub_list_set
        have f7 := F.sub_list_frozenset
        have f8 : (Value.type "list" == Value.type "dict") = false := by decide
        have hl1 : (s.heap.push (freshS w)).IsList l us := ⟨_, e1', rfl, nl, rfl⟩
        unfold Builtin.«set.__init__» noKeywords Builtin.Frozenset.updateFrom
        generalize hPI : pyIter = PI
        wp_walk
        subst hPI
        refine wpAny_pyIter_list hl1 (wpAny_bind (wpAny_runValue ?_))
        have lS : l < s.heap.objs.size := Heap.lt_size e1
        have calm3 : A.in1.in1.in1.handled = none := by simp [calm]
        have neI : l ≠ (s.heap.push (freshS w)).objs.size := by
          rw [Heap.size_push]
          exact Nat.ne_of_lt (Nat.lt_succ_of_lt lS)
        have off : s.heap.objs.size ∉ [(s.heap.push (freshS w)).objs.size, l] := by
          rw [Heap.size_push]
          intro hm
          rcases List.mem_cons.mp hm with e | hm
          · exact absurd e (Nat.ne_of_lt (Nat.lt_succ_self _))
          · exact absurd (List.mem_singleton.mp hm).symm (Nat.ne_of_lt lS)
        have val : ∀ (i : Nat) (v : Value), us[i]? = some v → ∃ p, ks[i]? = some p ∧ v = .ref p.1 := fun i v hv => by
          have q : us.toList[i]? = some v := by rw [Array.getElem?_toList]; exact hv
          rw [hus, List.getElem?_map] at q
          cases hq : ks[i]? with
          | none => rw [hq] at q; cases q
          | some p =>
            rw [hq] at q
            exact ⟨p, rfl, (Option.some.inj q).symm⟩
        have none_of : ∀ b, s.heap.objs.size ≤ b → s.heap.get? b = none := fun b hb => by
          cases q : s.heap.get? b with
          | none => rfl
          | some o => exact absurd (Heap.lt_size q) (Nat.not_lt.mpr hb)
        refine loop_setN ((Walks.list calm3 _ l neI us).toS) s.heap.objs.size
          off ks size few val s.heap hk (none_of _ (Nat.le_refl _)) (fun b hb => none_of b (by
            rw [List.mem_singleton.mp hb, Heap.size_push]
            exact Nat.le_succ _)) (by show A.units + 3 + 8 < cLine; omega) (us.size - 0) 0 _ (by omega) (Nat.zero_le _)
          ⟨⟨_, Heap.get?_push_size _ rfl, rfl, rfl⟩, (hl1.push _)⟩ (fun b o e => Heap.get?_push_of_some _ (Heap.get?_push_of_some _ e)) ?start ?done
        case start => exact ⟨[], #[], 0, _, SN.fresh (Heap.get?_push_of_some _ gS), GotN.zero ks⟩
        case done =>
          intro z L es ep t hm hS g hkp
          obtain ⟨h', g2, d', tk', os'⟩ := z
          obtain rfl : g2 = s.gens := hm.gens
          obtain rfl : d' = s.drawn := hm.drawn
          obtain rfl : os' = s.os := hm.os
          show wpAny _ _ _ _ _ _
          refine wpAny_pure ?_
          show wpAny _ _ (ret Value.none) _ _ _
          rw [size] at g
          exact wpAny_pure ⟨rfl, h', tk', L, es, ep, t, rfl, hS, g, hkp⟩
      · cases r with
        | error e => exact hr
        | ok fl =>
          cases fl with
          | ret r =>
            obtain ⟨rfl, h', tk, L, es, ep, t, rfl, hS, g, hk'⟩ := hr
            repeat (any_goals (first | assumption | wp_step))
            exact fin _ _ _ _ _ _ hS g hk'
          | _ => exact hr.elim
    | _ => exact hr.elim
end
end PB

set_option Elab.async false
set_option linter.all false
set_option maxRecDepth 100000
set_option maxHeartbeats 4000000
set_option backward.match.sparseCases false
/-! What data is in the heap. -/
namespace PB
open PySem PySem.Spec PyProof.Rows L2

/-- the written part, with the program and the world -/
structure KF where
  fr : PySem.W.Frag
  P : Program
  w : World
instance : CoeOut KF PySem.W.Frag := ⟨KF.fr⟩
abbrev _root_.L2.Cx.KF (X : L2.Cx) : KF := ⟨X.K, X.prog, X.w⟩
def toS (s : List Nat) : Str := ⟨s.toArray⟩
theorem toS_len (s : List Nat) : (toS s).length = s.length := by simp [toS, Str.length]
theorem toS_cps (s : List Nat) : (toS s).cps.toList = s := by simp [toS]
theorem toS_inj {a b : List Nat} (h : toS a = toS b) : a = b := by
  have := congrArg (fun z : Str => z.cps.toList) h
  simpa [toS] using this

/-- the written part holds a tuple at a -/
def KTup (K : PySem.W.Frag) (a : Addr) (vs : List V) : Prop :=
  ∃ (o : Obj) (its : Array Value) (n : Nat), K.lookup a = some o ∧ o.cls = .type "tuple" ∧ o.data = .seq its n ∧ its.size ≤ sizeLine ∧ Vals vs its.toList

/-- a text within bounds -/
def okS (s : List Nat) : Prop := s.length ≤ lim ∧ ∀ c ∈ s, c < 1114112

/-- .. a list -/
def KLst (K : PySem.W.Frag) (a : Addr) (vs : List V) : Prop :=
  ∃ (o : Obj) (its : Array Value) (n : Nat), K.lookup a = some o ∧ o.cls = .type "list" ∧ o.dict = none ∧ o.data = .seq its n ∧ its.size ≤ sizeLine ∧ Vals vs its.toList

/-- a tuple at a that has no dict of its own; or one that does not begin with a tuple -/
def TupP (H : Hp) (a : Addr) (xs : List Dt) (vs : List V) : Prop := (∃ o, H a = some (.frz o (.tup vs)) ∧ o.dict = none) ∨ (Rd H a (.tup vs) ∧ ∃ x r, xs = x :: r ∧ isTupD x = false)
theorem TupP.rd {H : Hp} {a : Addr} {xs : List Dt} {vs : List V} (h : TupP H a xs vs) : Rd H a (.tup vs) := h.elim (fun ⟨o, e, _⟩ => .inr ⟨o, e⟩) (·.1)
mutual
/-- v shows the data x; it stands at none of the addresses av -/
inductive Rep (K : KF) (av : List Addr) (H : Hp) : Dt → V → Prop
  | non : Rep K av H .non .non
  | bl (b : Bool) : Rep K av H (.bl b) (.bl b)
  | int (i : Int) : Rep K av H (.int i) (.int i)
  | str (s : List Nat) (h : okS s) : Rep K av H (.str s) (.str (toS s))
  | tup {a : Addr} {vs : List V} {xs : List Dt} (h : a ∉ av) (r : TupP H a xs vs) (e : RepL K av H xs vs) : Rep K av H (.tup xs) (.ref a)
  | tupK {a : Addr} {vs : List V} {xs : List Dt} (r : KTup K a vs) (pl : ∃ o, K.fr.lookup a = some o ∧ o.dict = none) (e : RepL K av H xs vs) : Rep K av H (.tup xs) (.ref a)
  | lst {a : Addr} {vs : List V} {xs : List Dt} (h : a ∉ av) (r : Rd H a (.lst vs)) (e : RepL K av H xs vs) : Rep K av H (.lst xs) (.ref a)
  | scr {a : Addr} {ns : List Int} (r : (a ∉ av ∧ Rd H a (.lst (ns.map V.int))) ∨ KLst K a (ns.map V.int)) : Rep K av H (.scr ns) (.ref a)
inductive RepL (K : KF) (av : List Addr) (H : Hp) : List Dt → List V → Prop
  | nil : RepL K av H [] []
  | cons {x : Dt} {v : V} {xs : List Dt} {vs : List V} (h : Rep K av H x v) (r : RepL K av H xs vs) : RepL K av H (x :: xs) (v :: vs)
end

section
variable {K : KF} {av av' : List Addr} {H H' : Hp}
/-- all objects off av stand, and off av' -/
def Keeps (av : List Addr) (H : Hp) (av' : List Addr) (H' : Hp) : Prop := ∀ a o, a ∉ av → H a = some o → H' a = some o ∧ a ∉ av'
theorem Keeps.refl : Keeps av H av H := fun _ _ h e => ⟨e, h⟩
theorem Keeps.trans {av2 : List Addr} {H2 : Hp} (p : Keeps av H av' H') (q : Keeps av' H' av2 H2) : Keeps av H av2 H2 := fun a o h e => by
  obtain ⟨e1, h1⟩ := p a o h e
  exact q a o h1 e1
theorem Keeps.rd {a : Addr} {u : HO} (k : Keeps av H av' H') (h : a ∉ av) (r : Rd H a u) : Rd H' a u ∧ a ∉ av' := by
  rcases r with r | ⟨o, r⟩
  · exact ⟨.inl (k _ _ h r).1, (k _ _ h r).2⟩
  · exact ⟨.inr ⟨o, (k _ _ h r).1⟩, (k _ _ h r).2⟩

theorem Keeps.tp {a : Addr} {xs : List Dt} {vs : List V} (k : Keeps av H av' H') (h : a ∉ av) (r : TupP H a xs vs) : TupP H' a xs vs ∧ a ∉ av' := by
  rcases r with ⟨o, e, d⟩ | ⟨r, z⟩
  · exact ⟨.inl ⟨o, (k _ _ h e).1, d⟩, (k _ _ h e).2⟩
  · exact ⟨.inr ⟨(k.rd h r).1, z⟩, (k.rd h r).2⟩
mutual
theorem Rep.keep (k : Keeps av H av' H') : ∀ {x : Dt} {v : V}, Rep K av H x v → Rep K av' H' x v
  | _, _, .non => .non
  | _, _, .bl b => .bl b
  | _, _, .int i => .int i
  | _, _, .str s h => .str s h
  | _, _, .tup h r e => .tup (k.tp h r).2 (k.tp h r).1 (RepL.keep k e)
  | _, _, .tupK r pl e => .tupK r pl (RepL.keep k e)
  | _, _, .lst h r e => .lst (k.rd h r).2 (k.rd h r).1 (RepL.keep k e)
  | _, _, .scr r => .scr (r.imp (fun z => ⟨(k.rd z.1 z.2).2, (k.rd z.1 z.2).1⟩) id)
theorem RepL.keep (k : Keeps av H av' H') : ∀ {xs : List Dt} {vs : List V}, RepL K av H xs vs → RepL K av' H' xs vs
  | _, _, .nil => .nil
  | _, _, .cons h r => .cons (Rep.keep k h) (RepL.keep k r)
end
/-- fewer addresses to stay off -/
theorem Keeps.fewer (h : ∀ a ∈ av', a ∈ av) : Keeps av H av' H := fun a o n e => ⟨e, fun z => n (h a z)⟩

theorem RepL.length : ∀ {xs : List Dt} {vs : List V}, RepL K av H xs vs → xs.length = vs.length
  | _, _, .nil => rfl
  | _, _, .cons _ r => by rw [List.length_cons, List.length_cons, RepL.length r]
theorem RepL.get : ∀ {xs : List Dt} {vs : List V} {i : Nat} {x : Dt}, RepL K av H xs vs → xs[i]? = some x → ∃ v, vs[i]? = some v ∧ Rep K av H x v
  | _, _, i, x, .nil, e => by simp at e
  | _, _, 0, x, .cons h r, e => by
    simp at e; subst e
    exact ⟨_, rfl, h⟩
  | _, _, i + 1, x, .cons h r, e => by
    obtain ⟨v, e1, q⟩ := RepL.get (i := i) r (by simpa using e)
    exact ⟨v, by simpa using e1, q⟩
theorem RepL.get' : ∀ {xs : List Dt} {vs : List V} {i : Nat} {v : V}, RepL K av H xs vs → vs[i]? = some v → ∃ x, xs[i]? = some x ∧ Rep K av H x v
  | _, _, i, x, .nil, e => by simp at e
  | _, _, 0, x, .cons h r, e => by
    simp at e; subst e
    exact ⟨_, rfl, h⟩
  | _, _, i + 1, x, .cons h r, e => by
    obtain ⟨v, e1, q⟩ := RepL.get' (i := i) r (by simpa using e)
    exact ⟨v, by simpa using e1, q⟩
theorem RepL.append : ∀ {xs ys : List Dt} {vs us : List V}, RepL K av H xs vs → RepL K av H ys us → RepL K av H (xs ++ ys) (vs ++ us)
  | _, _, _, _, .nil, q => q
  | _, _, _, _, .cons h r, q => .cons h (RepL.append r q)
theorem RepL.take : ∀ {xs : List Dt} {vs : List V} (n : Nat), RepL K av H xs vs → RepL K av H (xs.take n) (vs.take n)
  | _, _, 0, _ => .nil
  | _, _, n + 1, .nil => .nil
  | _, _, n + 1, .cons h r => .cons h (RepL.take n r)
theorem RepL.drop : ∀ {xs : List Dt} {vs : List V} (n : Nat), RepL K av H xs vs → RepL K av H (xs.drop n) (vs.drop n)
  | _, _, 0, r => r
  | _, _, n + 1, .nil => .nil
  | _, _, n + 1, .cons h r => RepL.drop n r
theorem RepL.rep {xs : List Dt} {vs : List V} (r : RepL K av H xs vs) : ∀ n : Nat, RepL K av H (List.replicate n xs).flatten (List.replicate n vs).flatten
  | 0 => .nil
  | n + 1 => by
    rw [List.replicate_succ, List.replicate_succ, List.flatten_cons, List.flatten_cons]
    exact r.append (r.rep n)
theorem RepL.strs : ∀ {xs : List Dt} {vs : List V} {ys : List (List Nat)}, RepL K av H xs vs → allStr xs = some ys → vs = ys.map fun y => V.str (toS y)
  | _, _, ys, .nil, e => by
    simp [allStr] at e; subst e; rfl
  | _, _, ys, .cons (x := x) h r, e => by
    cases h with
    | str s hs =>
      simp only [allStr, Option.map_eq_some_iff] at e
      obtain ⟨zs, e1, rfl⟩ := e
      rw [RepL.strs r e1]; rfl
    | _ => simp [allStr] at e
theorem RepL.bls : ∀ {xs : List Dt} {vs : List V} {ys : List Bool}, RepL K av H xs vs → allBl xs = some ys → vs = ys.map V.bl
  | _, _, ys, .nil, e => by
    simp [allBl] at e; subst e; rfl
  | _, _, ys, .cons (x := x) h r, e => by
    cases h with
    | bl b =>
      simp only [allBl, Option.map_eq_some_iff] at e
      obtain ⟨zs, e1, rfl⟩ := e
      rw [RepL.bls r e1]; rfl
    | _ => simp [allBl] at e
end

theorem toS_beq0 (a b : List Nat) : (toS a == toS b) = (a == b) := by
  by_cases h : a = b
  · subst h; simp
  · have h2 : toS a ≠ toS b := fun e => h (toS_inj e)
    rw [beq_eq_false_iff_ne.mpr h, beq_eq_false_iff_ne.mpr h2]
mutual
/-- a datum as a key -/
def nkD : Dt → NK
  | .non => .none
  | .bl b => .num (if b = true then 1 else 0)
  | .int i => .num i
  | .str s => .text (toS s)
  | .tup xs => .tup (nkDs xs)
  | .lst _ => .none
  | .scr _ => .none
def nkDs : List Dt → List NK
  | [] => []
  | x :: xs => nkD x :: nkDs xs
end
mutual
theorem nk_dep : ∀ x : Dt, keyOk x = true → (nkD x).depth = depD x
  | .non, _ => rfl
  | .bl _, _ => rfl
  | .int _, _ => rfl
  | .str _, _ => rfl
  | .tup xs, h => by simp only [nkD, NestedKey.depth, depD, nk_deps xs (by simpa [keyOk] using h)]
  | .lst _, h => by simp [keyOk] at h
  | .scr _, h => by simp [keyOk] at h
theorem nk_deps : ∀ xs : List Dt, keyOks xs = true → NestedKey.depthAll (nkDs xs) = depDs xs
  | [], _ => rfl
  | x :: xs, h => by
    simp only [keyOks, Bool.and_eq_true] at h
    simp only [nkDs, NestedKey.depthAll, depDs, nk_dep x h.1, nk_deps xs h.2]
end
mutual
theorem nk_eq : ∀ x y : Dt, keyOk x = true → keyOk y = true → NestedKey.beq (nkD x) (nkD y) = eqD x y
  | .tup xs, .tup ys, h, h' => by
    simp only [nkD, NestedKey.beq, eqD]
    exact nk_eqs xs ys (by simpa [keyOk] using h) (by simpa [keyOk] using h')
  | .str a, .str b, _, _ => by
    simp only [nkD, NestedKey.beq, eqD]
    rw [← toS_beq0]
    rfl
  | .lst _, _, h, _ => by simp [keyOk] at h
  | .scr _, _, h, _ => by simp [keyOk] at h
  | .non, y, _, h' => by cases y <;> first | rfl | (simp [keyOk] at h')
  | .bl a, y, _, h' => by cases y <;> first | rfl | (simp [keyOk] at h'; done) | (rename_i b; cases a <;> cases b <;> rfl)
  | .int i, y, _, h' => by cases y <;> first | rfl | (simp [keyOk] at h'; done)
  | .str _, .non, _, _ => rfl
  | .str _, .bl _, _, _ => rfl
  | .str _, .int _, _, _ => rfl
  | .str _, .tup _, _, _ => rfl
  | .str _, .lst _, _, h' => by simp [keyOk] at h'
  | .str _, .scr _, _, h' => by simp [keyOk] at h'
  | .tup _, .non, _, _ => rfl
  | .tup _, .bl _, _, _ => rfl
  | .tup _, .int _, _, _ => rfl
  | .tup _, .str _, _, _ => rfl
  | .tup _, .lst _, _, h' => by simp [keyOk] at h'
  | .tup _, .scr _, _, h' => by simp [keyOk] at h'
theorem nk_eqs : ∀ xs ys : List Dt, keyOks xs = true → keyOks ys = true → NestedKey.beqAll (nkDs xs) (nkDs ys) = eqDs xs ys
  | [], [], _, _ => rfl
  | [], _ :: _, _, _ => rfl
  | _ :: _, [], _, _ => rfl
  | x :: xs, y :: ys, h, h' => by
    simp only [keyOks, Bool.and_eq_true] at h h'
    simp only [nkDs, NestedKey.beqAll, eqDs, nk_eq x y h.1 h'.1, nk_eqs xs ys h.2 h'.2]
end
theorem nk_iff {x y : Dt} (h : keyOk x = true) (h' : keyOk y = true) : nkD x = nkD y ↔ eqD x y = true := by
  rw [← nk_eq x y h h']
  constructor
  · intro e
    rw [e]
    exact NestedKey.beq_self _
  · exact NestedKey.eq_of_beq _ _

/-! ### dicts -/
/-- the dict at a: its keys with their places and its values, its epoch -/
def DO (P : Program) (w : World) (a : Addr) (xs : List (NK × Addr × V)) (ep : Nat) : HO := .ext fun h => (a == sysModules) = false ∧ ∃ (ys : List (NK × Addr × Value)) (o : Obj) (es : Array DictEntry),
  Paired (fun (p : NK × Addr × V) (q : NK × Addr × Value) => p.1 = q.1 ∧ p.2.1 = q.2.1 ∧ RelV p.2.2 q.2.2) xs ys ∧ h.get? a = some o ∧ o.ExactDict ∧ o.data = .dict es ep ∧ es.toList = ys.map (entryOfKey (nestedKind P w)) ∧ (ys.map (·.1)).Nodup
inductive KvR (K : KF) (av : List Addr) (H : Hp) : List (Dt × Dt) → List (NK × Addr × V) → Prop
  | nil : KvR K av H [] []
  | cons {k x : Dt} {q : Addr} {v : V} {kvs : List (Dt × Dt)} {xs : List (NK × Addr × V)} (hk : keyB k = true) (rk : Rep K av H k (.ref q)) (rx : Rep K av H x v) (r : KvR K av H kvs xs) : KvR K av H ((k, x) :: kvs) ((nkD k, q, v) :: xs)
/-- at a stands the dict kvs -/
def DicR (K : KF) (av : List Addr) (H : Hp) (kvs : List (Dt × Dt)) (a : Addr) : Prop := ∃ xs ep, H a = some (DO K.P K.w a xs ep) ∧ KvR K av H kvs xs
theorem KvR.keep {K : KF} {av av' : List Addr} {H H' : Hp} (k : Keeps av H av' H') : ∀ {kvs : List (Dt × Dt)} {xs : List (NK × Addr × V)}, KvR K av H kvs xs → KvR K av' H' kvs xs
  | _, _, .nil => .nil
  | _, _, .cons h1 h2 h3 r => .cons h1 (Rep.keep k h2) (Rep.keep k h3) (KvR.keep k r)
theorem KvR.length {K : KF} {av : List Addr} {H : Hp} : ∀ {kvs : List (Dt × Dt)} {xs : List (NK × Addr × V)}, KvR K av H kvs xs → kvs.length = xs.length
  | _, _, .nil => rfl
  | _, _, .cons _ _ _ r => by rw [List.length_cons, List.length_cons, KvR.length r]
/-- the tuple at a, read -/
theorem Rep.sqT {K : KF} {av : List Addr} {H : Hp} {xs : List Dt} {v : V} (h : Rep K av H (.tup xs) v) : ∃ a vs, v = .ref a ∧ SqT K H a vs ∧ RepL K av H xs vs := by
  cases h with
  | tup h r e => exact ⟨_, _, rfl, .inl r.rd, e⟩
  | tupK r _ e => exact ⟨_, _, rfl, .inr r, e⟩

/-- as data of the library -/
def toPy : Dt → PyData
  | .non => .none
  | .bl b => .bool b
  | .int i => .int i
  | .str s => .str (toS s)
  | .tup xs => .tuple (toPys xs)
  | .lst xs => .list (toPys xs)
  | .scr ns => .list (ns.map PyData.int)
where toPys : List Dt → List PyData
  | [] => []
  | x :: xs => toPy x :: toPys xs

theorem lim_eq : lim = sizeLine := by rw [sizeLine_eq]; rfl
theorem okS.ok {s : List Nat} (h : okS s) : PyData.strOk (toS s) = true := by
  unfold PyData.strOk toS
  simp only [List.all_toArray, List.all_eq_true, decide_eq_true_eq]
  exact h.2
section
variable {K : KF} {av : List Addr} {H : Hp}
theorem dp_ints : ∀ ns : List Int, DpAll K H (ns.map V.int) (ns.map PyData.int)
  | [] => .nil
  | n :: ns => .cons (.int n) (dp_ints ns)
theorem can_ints : ∀ ns : List Int, PyData.canLayAll0 (ns.map PyData.int) = true
  | [] => rfl
  | n :: ns => by
    show (PyData.canLay0 (.int n) && PyData.canLayAll0 (ns.map PyData.int)) = true
    rw [can_ints ns]; rfl
theorem scr_sq {a : Addr} {vs : List V} (r : (a ∉ av ∧ Rd H a (.lst vs)) ∨ KLst K a vs) : SqL K H a vs := r.elim (fun z => .inl z.2) .inr
mutual
theorem Rep.dp : ∀ {x : Dt} {v : V}, Rep K av H x v → Dp K H v (toPy x) ∧ (toPy x).canLay0 = true
  | _, _, .non => ⟨.non, rfl⟩
  | _, _, .bl b => ⟨.bl b, rfl⟩
  | _, _, .int i => ⟨.int i, rfl⟩
  | _, _, .str s h => ⟨.str _, by simp only [toPy, PyData.canLay0]; exact h.ok⟩
  | _, _, .tup h r e => ⟨by rw [toPy]; exact .tup (.inl r.rd) (RepL.dp e).1, by simp only [toPy, PyData.canLay0]; exact (RepL.dp e).2⟩
  | _, _, .tupK r _ e => ⟨by rw [toPy]; exact .tup (.inr r) (RepL.dp e).1, by simp only [toPy, PyData.canLay0]; exact (RepL.dp e).2⟩
  | _, _, .lst h r e => ⟨by rw [toPy]; exact .lst (.inl r) (RepL.dp e).1, by simp only [toPy, PyData.canLay0]; exact (RepL.dp e).2⟩
  | _, _, .scr (ns := ns) r => ⟨by rw [toPy]; exact .lst (scr_sq r) (dp_ints ns), by simp only [toPy, PyData.canLay0]; exact can_ints ns⟩
theorem RepL.dp : ∀ {xs : List Dt} {vs : List V}, RepL K av H xs vs → DpAll K H vs (toPy.toPys xs) ∧ PyData.canLayAll0 (toPy.toPys xs) = true
  | _, _, .nil => ⟨.nil, rfl⟩
  | _, _, .cons h r => ⟨by rw [toPy.toPys]; exact .cons (Rep.dp h).1 (RepL.dp r).1, by simp only [toPy.toPys, PyData.canLayAll0, (Rep.dp h).2, (RepL.dp r).2, Bool.and_self]⟩
end
end
theorem dep_ints : ∀ ns : List Int, PyData.depthAll (ns.map PyData.int) = 0
  | [] => rfl
  | n :: ns => by
    show max (PyData.depth (.int n)) (PyData.depthAll (ns.map PyData.int)) = 0
    rw [dep_ints ns]; rfl
mutual
theorem dep_toPy : ∀ x : Dt, (toPy x).depth = depD x
  | .non => rfl
  | .bl _ => rfl
  | .int _ => rfl
  | .str _ => rfl
  | .tup xs => by simp only [toPy, PyData.depth, depD, deps_toPy xs]
  | .lst xs => by simp only [toPy, PyData.depth, depD, deps_toPy xs]
  | .scr ns => by simp only [toPy, PyData.depth, depD, dep_ints ns]
theorem deps_toPy : ∀ xs : List Dt, PyData.depthAll (toPy.toPys xs) = depDs xs
  | [] => rfl
  | x :: xs => by simp only [toPy.toPys, PyData.depthAll, depDs, dep_toPy x, deps_toPy xs]
end
theorem toS_beq (a b : List Nat) : (toS a == toS b) = (a == b) := by
  by_cases h : a = b
  · subst h; simp
  · have h2 : toS a ≠ toS b := fun e => h (toS_inj e)
    rw [beq_eq_false_iff_ne.mpr h, beq_eq_false_iff_ne.mpr h2]
theorem eqv_ints : ∀ a b : List Int, PyData.eqvAll (a.map PyData.int) (b.map PyData.int) = (a == b)
  | [], [] => rfl
  | [], _ :: _ => rfl
  | _ :: _, [] => rfl
  | x :: a, y :: b => by
    show (PyData.eqv (.int x) (.int y) && PyData.eqvAll (a.map PyData.int) (b.map PyData.int)) = _
    rw [eqv_ints a b]
    rfl
theorem eqv_il : ∀ (a : List Int) (ys : List Dt), PyData.eqvAll (a.map PyData.int) (toPy.toPys ys) = eqIL a ys
  | [], [] => rfl
  | [], _ :: _ => rfl
  | _ :: _, [] => rfl
  | x :: a, y :: ys => by
    show (PyData.eqv (.int x) (toPy y) && PyData.eqvAll (a.map PyData.int) (toPy.toPys ys)) = _
    rw [eqv_il a ys]
    cases y <;> rfl
theorem eqv_li : ∀ (xs : List Dt) (b : List Int), PyData.eqvAll (toPy.toPys xs) (b.map PyData.int) = eqLI xs b
  | [], [] => rfl
  | [], _ :: _ => rfl
  | _ :: _, [] => rfl
  | x :: xs, y :: b => by
    show (PyData.eqv (toPy x) (.int y) && PyData.eqvAll (toPy.toPys xs) (b.map PyData.int)) = _
    rw [eqv_li xs b]
    cases x <;> rfl
mutual
theorem eqv_toPy : ∀ x y : Dt, PyData.eqv (toPy x) (toPy y) = eqD x y
  | .tup xs, .tup ys => by simp only [toPy, PyData.eqv, eqD, eqvs_toPy xs ys]
  | .lst xs, .lst ys => by simp only [toPy, PyData.eqv, eqD, eqvs_toPy xs ys]
  | .str a, .str b => by simp only [toPy, PyData.eqv, eqD, toS_beq]
  | .scr a, .scr b => by simp only [toPy, PyData.eqv, eqD, eqv_ints]
  | .scr a, .lst ys => by simp only [toPy, PyData.eqv, eqD, eqv_il]
  | .lst xs, .scr b => by simp only [toPy, PyData.eqv, eqD, eqv_li]
  | .non, y => by cases y <;> rfl
  | .bl _, y => by cases y <;> rfl
  | .int _, y => by cases y <;> rfl
  | .str _, .non => rfl
  | .str _, .bl _ => rfl
  | .str _, .int _ => rfl
  | .str _, .tup _ => rfl
  | .str _, .lst _ => rfl
  | .str _, .scr _ => rfl
  | .tup _, .non => rfl
  | .tup _, .bl _ => rfl
  | .tup _, .int _ => rfl
  | .tup _, .str _ => rfl
  | .tup _, .lst _ => rfl
  | .tup _, .scr _ => rfl
  | .lst _, .non => rfl
  | .lst _, .bl _ => rfl
  | .lst _, .int _ => rfl
  | .lst _, .str _ => rfl
  | .lst _, .tup _ => rfl
  | .scr _, .non => rfl
  | .scr _, .bl _ => rfl
  | .scr _, .int _ => rfl
  | .scr _, .str _ => rfl
  | .scr _, .tup _ => rfl
theorem eqvs_toPy : ∀ xs ys : List Dt, PyData.eqvAll (toPy.toPys xs) (toPy.toPys ys) = eqDs xs ys
  | [], [] => rfl
  | [], _ :: _ => rfl
  | _ :: _, [] => rfl
  | x :: xs, y :: ys => by simp only [toPy.toPys, PyData.eqvAll, eqDs, eqv_toPy x y, eqvs_toPy xs ys]
end
theorem any_toPy (a : Dt) : ∀ xs : List Dt, ((toPy.toPys xs).any fun z => PyData.eqv z (toPy a)) = xs.any fun z => eqD z a
  | [] => rfl
  | x :: xs => by simp only [toPy.toPys, List.any_cons, eqv_toPy x a, any_toPy a xs]

end PB

set_option Elab.async false
set_option linter.all false
set_option maxRecDepth 100000
set_option maxHeartbeats 4000000
set_option backward.match.sparseCases false
/-! The store and the names in the heap; readings by the own meaning. -/
namespace PB
open PySem PySem.Spec PyProof.Rows L2

/-- the store's objects stand at φ; the foreign addresses fo are others, and stand -/
structure Sok (K : KF) (fo φ : List Addr) (H : Hp) (st : Sr) : Prop where
  len : φ.length = st.length
  nd : φ.Nodup
  ft : ∀ a ∈ fo, ∃ o, H a = some o
  dj : ∀ a ∈ φ, a ∉ fo
  ob : ∀ (n : Nat) (a : Addr) (xs : List Dt), φ[n]? = some a → st[n]? = some (.lst xs) → ∃ vs, H a = some (.lst vs) ∧ RepL K (fo ++ φ) H xs vs
  od : ∀ (n : Nat) (a : Addr) (kvs : List (Dt × Dt)), φ[n]? = some a → st[n]? = some (.dic kvs) → DicR K (fo ++ φ) H kvs a
def RepW (K : KF) (fo φ : List Addr) (H : Hp) : Wv → V → Prop
  | .d x, v => Rep K (fo ++ φ) H x v
  | .ob n, v => ∃ a, φ[n]? = some a ∧ v = .ref a
  | .dc kvs, v => ∃ a, v = .ref a ∧ a ∉ fo ++ φ ∧ DicR K (fo ++ φ) H kvs a
structure EnvOk (K : KF) (fo φ : List Addr) (H : Hp) (ρ : Ev) (σ : L2.St) : Prop where
  len : ρ.length = σ.length
  at_ : ∀ (i : Nat) (w : Wv), ρ[i]? = some (some w) → ∃ v, σ[i]? = some (some v) ∧ RepW K fo φ H w v
/-- the store may have grown, its objects may have changed, all else stands -/
structure Step (φ : List Addr) (H : Hp) (φ' : List Addr) (H' : Hp) : Prop where
  ext : ∃ t, φ' = φ ++ t
  keep : Keeps φ H φ' H'

section
variable {K : KF} {fo φ φ1 φ2 : List Addr} {H H1 H2 : Hp} {st st1 : Sr} {ρ : Ev} {σ : L2.St}
theorem Step.refl : Step φ H φ H := ⟨⟨[], by simp⟩, .refl⟩
theorem Step.trans (a : Step φ H φ1 H1) (b : Step φ1 H1 φ2 H2) : Step φ H φ2 H2 := by
  obtain ⟨t, rfl⟩ := a.ext
  obtain ⟨u, rfl⟩ := b.ext
  exact ⟨⟨t ++ u, by rw [List.append_assoc]⟩, a.keep.trans b.keep⟩
theorem Step.same (h : Same H H1) : Step φ H φ H1 := ⟨⟨[], by simp⟩, fun a o n e => ⟨h a o e, n⟩⟩
theorem Step.keeps (a : Step φ H φ1 H1) : Keeps (fo ++ φ) H (fo ++ φ1) H1 := fun b o n e => by
  rw [List.mem_append, not_or] at n
  obtain ⟨e1, n1⟩ := a.keep b o n.2 e
  exact ⟨e1, by rw [List.mem_append, not_or]; exact ⟨n.1, n1⟩⟩
theorem Step.get (a : Step φ H φ1 H1) {n : Nat} {x : Addr} (h : φ[n]? = some x) : φ1[n]? = some x := by
  obtain ⟨t, rfl⟩ := a.ext
  rw [List.getElem?_append_left (List.getElem?_eq_some_iff.mp h).1]
  exact h
theorem RepW.step (a : Step φ H φ1 H1) {w : Wv} {v : V} (h : RepW K fo φ H w v) : RepW K fo φ1 H1 w v := by
  cases w with
  | d x => exact Rep.keep a.keeps h
  | ob n =>
    obtain ⟨x, e, r⟩ := h
    exact ⟨x, a.get e, r⟩
  | dc kvs =>
    obtain ⟨b, e, n, xs, ep, h1, h2⟩ := h
    obtain ⟨h3, h4⟩ := a.keeps (fo := fo) b _ n h1
    exact ⟨b, e, h4, xs, ep, h3, h2.keep a.keeps⟩
theorem EnvOk.step (a : Step φ H φ1 H1) (h : EnvOk K fo φ H ρ σ) : EnvOk K fo φ1 H1 ρ σ :=
  ⟨h.len, fun i w e => let ⟨v, e1, r⟩ := h.at_ i w e; ⟨v, e1, r.step a⟩⟩
theorem EnvOk.set {i : Nat} {w : Wv} {v : V} (h : EnvOk K fo φ H ρ σ) (r : RepW K fo φ H w v) : EnvOk K fo φ H (ρ.set i (some w)) (σ.set i (some v)) := by
  refine ⟨by rw [List.length_set, List.length_set]; exact h.len, fun j w' e => ?_⟩
  by_cases hj : i = j
  · subst hj
    by_cases hi : i < ρ.length
    · rw [List.getElem?_set_self hi] at e
      cases e
      exact ⟨v, by rw [List.getElem?_set_self (by rw [← h.len]; exact hi)], r⟩
    · rw [List.getElem?_eq_none (by simpa using hi)] at e
      cases e
  · rw [List.getElem?_set_ne hj] at e
    obtain ⟨u, e1, q⟩ := h.at_ j w' e
    exact ⟨u, by rw [List.getElem?_set_ne hj]; exact e1, q⟩
theorem EnvOk.wiped (h : EnvOk K fo φ H ρ σ) : ∀ vs : List Nat, EnvOk K fo φ H (wipeE ρ vs) (wipe σ vs)
  | [] => h
  | v :: vs => by
    have q := EnvOk.wiped h vs
    refine ⟨by show ((wipeE ρ vs).set v none).length = ((wipe σ vs).set v none).length; rw [List.length_set, List.length_set]; exact q.len, fun j w' e => ?_⟩
    have e : ((wipeE ρ vs).set v none)[j]? = some (some w') := e
    show ∃ u, ((wipe σ vs).set v none)[j]? = some (some u) ∧ _
    by_cases hj : v = j
    · subst hj
      by_cases hi : v < (wipeE ρ vs).length
      · rw [List.getElem?_set_self hi] at e; cases e
      · rw [List.getElem?_eq_none (by simpa using hi)] at e; cases e
    · rw [List.getElem?_set_ne hj] at e
      obtain ⟨u, e1, r⟩ := q.at_ j w' e
      exact ⟨u, by rw [List.getElem?_set_ne hj]; exact e1, r⟩
theorem Sok.trk (s : Sok K fo φ H st) : ∀ a ∈ fo ++ φ, ∃ o, H a = some o := fun a h => by
  rcases List.mem_append.mp h with h | h
  · exact s.ft a h
  · obtain ⟨n, e⟩ := List.getElem?_of_mem h
    have hn : n < st.length := by
      rw [← s.len]; exact (List.getElem?_eq_some_iff.mp e).1
    have e2 : st[n]? = some st[n] := List.getElem?_eq_getElem hn
    cases q : st[n] with
    | lst xs =>
      rw [q] at e2
      obtain ⟨vs, e3, _⟩ := s.ob n a xs e e2
      exact ⟨_, e3⟩
    | dic kvs =>
      rw [q] at e2
      obtain ⟨xs, ep, e3, _⟩ := s.od n a kvs e e2
      exact ⟨_, e3⟩
theorem Sok.fresh (s : Sok K fo φ H st) {p : Addr} (h : H p = none) : p ∉ fo ++ φ := fun z => by
  obtain ⟨o, e⟩ := s.trk p z
  rw [h] at e; cases e
/-- more stands -/
theorem Sok.same (s : Sok K fo φ H st) (h : Same H H1) : Sok K fo φ H1 st :=
  ⟨s.len, s.nd, fun a z => let ⟨o, e⟩ := s.ft a z; ⟨o, h a o e⟩, s.dj, fun n a xs e1 e2 => let ⟨vs, e3, r⟩ := s.ob n a xs e1 e2; ⟨vs, h a _ e3, RepL.keep (Step.keeps (Step.same h)) r⟩, fun n a kvs e1 e2 => let ⟨xs, ep, e3, r⟩ := s.od n a kvs e1 e2; ⟨xs, ep, h a _ e3, r.keep (Step.keeps (Step.same h))⟩⟩
theorem Sok.push (s : Sok K fo φ H st) : True := trivial
/-- data that is looked at: a list may be one of the store's -/
def VRep (K : KF) (av : List Addr) (H : Hp) : Dt → V → Prop
  | .lst xs, v => ∃ a vs, v = .ref a ∧ Rd H a (.lst vs) ∧ RepL K av H xs vs
  | x, v => Rep K av H x v
theorem Rep.view {av : List Addr} {x : Dt} {v : V} (h : Rep K av H x v) : VRep K av H x v := by
  cases h with
  | lst h r e => exact ⟨_, _, rfl, r, e⟩
  | tup h r e => exact Rep.tup h r e
  | tupK r pl e => exact Rep.tupK r pl e
  | non => exact Rep.non
  | bl b => exact Rep.bl b
  | int i => exact Rep.int i
  | str s h => exact Rep.str s h
  | scr r => exact Rep.scr r
theorem view_of {w : Wv} {v : V} {x : Dt} (s : Sok K fo φ H st) (r : RepW K fo φ H w v) (e : viewW st w = some x) : VRep K (fo ++ φ) H x v := by
  cases w with
  | d y =>
    have : y = x := Option.some.inj e
    subst this
    exact Rep.view r
  | ob n =>
    obtain ⟨a, e1, rfl⟩ := r
    unfold viewW at e
    simp only at e
    split at e
    · rename_i xs q
      cases e
      obtain ⟨vs, e3, r⟩ := s.ob n a xs e1 q
      exact ⟨a, vs, rfl, .inl e3, r⟩
    · cases e
  | dc kvs => cases e
end

/-! ### what is wanted of an exception -/
abbrev Xw := Nat → List Dt → Sr → List Addr → Hp → Prop

section
variable {K : KF} {xw : Xw} {fo φ φ1 φ2 : List Addr} {H H1 H2 : Hp} {α β : Type}
/-- behind a step of the own meaning -/
def Go (K : KF) (xw : Xw) (fo φ : List Addr) (H : Hp) (r : Rs (α × Sr)) (R : α → Sr → List Addr → Hp → Prop) : Prop :=
  match r with
  | .ok p => ∀ φ' H', Step φ H φ' H' → Sok K fo φ' H' p.2 → R p.1 p.2 φ' H'
  | .exc c fs st => ∀ φ' H', Step φ H φ' H' → Sok K fo φ' H' st → xw c fs st φ' H'
  | .bad => False
theorem Go.ok {a : α} {st : Sr} {R : α → Sr → List Addr → Hp → Prop} : Go K xw fo φ H (.ok (a, st)) R = ∀ φ' H', Step φ H φ' H' → Sok K fo φ' H' st → R a st φ' H' := rfl
theorem Go.at_ {r : Rs (α × Sr)} {R : α → Sr → List Addr → Hp → Prop} (h : Go K xw fo φ H r R) (a : Step φ H φ1 H1) : Go K xw fo φ1 H1 r R := by
  cases r with
  | ok p => exact fun φ' H' s q => h φ' H' (a.trans s) q
  | exc c fs sx => exact fun φ' H' s q => h φ' H' (a.trans s) q
  | bad => exact h
theorem Go.imp {r : Rs (α × Sr)} {R R' : α → Sr → List Addr → Hp → Prop} (h : Go K xw fo φ H r R) (f : ∀ a st φ' H', Step φ H φ' H' → Sok K fo φ' H' st → R a st φ' H' → R' a st φ' H') : Go K xw fo φ H r R' := by
  cases r with
  | ok p => exact fun φ' H' s q => f _ _ _ _ s q (h φ' H' s q)
  | exc c fs sx => exact h
  | bad => exact h
theorem Go.of_bind {r : Rs (α × Sr)} {f : α × Sr → Rs (β × Sr)} {R : β → Sr → List Addr → Hp → Prop} (h : Go K xw fo φ H (r.bind f) R) : Go K xw fo φ H r (fun a st φ1 H1 => Go K xw fo φ1 H1 (f (a, st)) R) := by
  cases r with
  | ok p => exact fun φ' H' s q => Go.at_ (r := f p) h s
  | exc c fs sx => exact h
  | bad => exact h
/-- the step that was gone -/
theorem Go.run {a : α} {st : Sr} {R : α → Sr → List Addr → Hp → Prop} (h : Go K xw fo φ H (.ok (a, st)) R) (q : Sok K fo φ H st) : R a st φ H := h φ H .refl q

end

/-- the program's own exceptions: a class's value, its fields -/
structure Xt where
  cls : Nat → Option Value
  flds : Nat → List Str
  /-- only exceptions whose context is None -/
  nn : Bool := false
/-- the exception (cls, d) shows the number c and the fields fs -/
def XRep (XT : Xt) (K : KF) (av : List Addr) (H : Hp) (c : Nat) (fs : List Dt) (cls : Value) (d : Option Addr) : Prop :=
  XT.cls c = some cls ∧ fs.length = (XT.flds c).length ∧ ((fs = [] ∧ d = none) ∨ fs ≠ [] ∧ ∃ a vs, d = some a ∧ a ∉ av ∧ H a = some (.xd ((XT.flds c).zip vs)) ∧ RepL K av H fs vs)
def xwOf (XT : Xt) (K : KF) (W : WX) (σ : L2.St) (fo : List Addr) : Xw := fun c fs _ φ H => ∀ cls d, XRep XT K (fo ++ φ) H c fs cls d → W cls d σ H

section
variable (XT : Xt) (K : KF) (W : WX)
/-- an expression's reading by its meaning -/
def tW (m : Ev → Sr → Rs (Wv × Sr)) : TE := fun σ H Q => ∃ fo φ ρ st, Sok K fo φ H st ∧ EnvOk K fo φ H ρ σ ∧
  Go K (xwOf XT K W σ fo) fo φ H (m ρ st) (fun w _ φ' H' => ∀ v, RepW K fo φ' H' w v → Q v H')
def tT (m : Ev → Sr → Rs (Bool × Sr)) : TT := fun σ H Q => ∃ fo φ ρ st, Sok K fo φ H st ∧ EnvOk K fo φ H ρ σ ∧
  Go K (xwOf XT K W σ fo) fo φ H (m ρ st) (fun b _ _ H' => Q b H')
def tL (m : Ev → Sr → Rs (List Wv × Sr)) : TA := fun σ H Q => ∃ fo φ ρ st, Sok K fo φ H st ∧ EnvOk K fo φ H ρ σ ∧
  Go K (xwOf XT K W σ fo) fo φ H (m ρ st) (fun ws _ φ' H' => ∀ vs, Paired (RepW K fo φ' H') ws vs → Q vs H')
def tO (m : Ev → Sr → Rs (Option Int × Sr)) : TO := fun σ H Q => ∃ fo φ ρ st, Sok K fo φ H st ∧ EnvOk K fo φ H ρ σ ∧
  Go K (xwOf XT K W σ fo) fo φ H (m ρ st) (fun o _ _ H' => Q o H')
/-- an item of a walk: data, or (z) a pair to be unpacked at once -/
def RepI (K : KF) (z : Bool) (av : List Addr) (H : Hp) (d : Dt) (x : V) : Prop := Rep K av H d x ∨ (z = true ∧ ∃ xs a vs, d = .tup xs ∧ x = .ref a ∧ SqT K H a vs ∧ RepL K av H xs vs)
/-- J walks the items while the watched objects stay -/
def WkOk (z : Bool) (fo φ₀ : List Addr) (H₀ : Hp) (J : It) (p : List Dt × List (Nat × List Dt)) : Prop :=
  ∀ fo' φ H st, (∃ t, φ = φ₀ ++ t) → Keeps (fo ++ φ₀) H₀ (fo' ++ φ) H → Sok K fo' φ H st → watchOk p.2 st = true →
    (∀ i, i < p.1.length → J.go i H) ∧ J.stop p.1.length H ∧ ∀ i d x H', p.1[i]? = some d → J.yld i H x H' → Same H H' ∧ RepI K z (fo' ++ φ) H' d x
def tI (z : Bool) (m : Ev → Sr → Rs Wk) : TI := fun σ H R => ∃ fo φ ρ st, Sok K fo φ H st ∧ EnvOk K fo φ H ρ σ ∧
  Go K (xwOf XT K W σ fo) fo φ H (m ρ st) (fun p st' φ' H' => ∀ J, WkOk K z fo φ' H' J p → watchOk p.2 st' = true → R J H')
end
theorem PE.weak {X : Cx} {e : Expr} {t t' : TE} (h : PE X e t) (f : ∀ σ H Q, t' σ H Q → t σ H Q) : PE X e t' := ⟨fun pins s σ H Q I q => h.run pins s σ H Q I (f σ H Q q)⟩
theorem PT.weak {X : Cx} {e : Expr} {t t' : TT} (h : PT X e t) (f : ∀ σ H Q, t' σ H Q → t σ H Q) : PT X e t' := ⟨fun pins s σ H Q I q => h.run pins s σ H Q I (f σ H Q q)⟩
theorem PA.weak {X : Cx} {e : List Expr} {t t' : TA} (h : PA X e t) (f : ∀ σ H Q, t' σ H Q → t σ H Q) : PA X e t' := ⟨fun pos pins s σ H Q I q => h.run pos pins s σ H Q I (f σ H Q q)⟩

/-! ### operators by values -/
/-- the rule r serves f: from what shows x and y to what shows f x y, all that stood stands -/
def OpS (K : KF) (f : Dt → Dt → Option Dt) (r : R2) : Prop := ∀ (av : List Addr) (H : Hp) (x y z : Dt) (v u : V) (Q : VK), (∀ a ∈ av, ∃ o, H a = some o) → VRep K av H x v → VRep K av H y u → f x y = some z →
  (∀ w H', Same H H' → Rep K av H' z w → Q w H') → r v u H Q
def UnS (K : KF) (f : Dt → Option Dt) (r : V → Hp → VK → Prop) : Prop := ∀ (av : List Addr) (H : Hp) (x z : Dt) (v : V) (Q : VK), (∀ a ∈ av, ∃ o, H a = some o) → VRep K av H x v → f x = some z →
  (∀ w H', Same H H' → Rep K av H' z w → Q w H') → r v H Q
theorem same_new {H : Hp} {p : Addr} {o : HO} (h : H p = none) : Same H (upd H p o) := fun b x e => by
  rw [upd_ne (ne_of_none e h)]
  exact e
section
variable {XT : Xt} {K : KF} {W : WX} {σ : L2.St} {H : Hp} {Q : VK} {m : Ev → Sr → Rs (Wv × Sr)} {m' : Ev → Sr → Rs (Wv × Sr)}
theorem tW_op1 {f : Dt → Option Dt} {r : V → Hp → VK → Prop} (hr : UnS K f r) (h : tW XT K W (fun ρ st => (m ρ st).bind (op1 f)) σ H Q) : tW XT K W m σ H (fun x H1 => r x H1 Q) := by
  obtain ⟨fo, φ, ρ, st, hs, he, h⟩ := h
  refine ⟨fo, φ, ρ, st, hs, he, (Go.of_bind h).imp fun w st1 φ1 H1 s1 q1 h1 v rv => ?_⟩
  unfold op1 at h1
  simp only at h1
  cases e1 : viewW st1 w with
  | none => rw [e1] at h1; exact h1.elim
  | some x =>
    rw [e1] at h1
    cases e2 : f x with
    | none => simp only [Option.bind_some, e2] at h1; exact h1.elim
    | some z =>
      simp only [Option.bind_some, e2] at h1
      exact hr (fo ++ φ1) H1 x z v Q q1.trk (view_of q1 rv e1) e2 fun u H' sm rz => h1 φ1 H' (Step.same sm) (q1.same sm) u rz
theorem tW_op2 {f : Dt → Dt → Option Dt} {r : R2} (hr : OpS K f r) (h : tW XT K W (fun ρ st => (m ρ st).bind fun p => (m' ρ p.2).bind fun q => op2 f p.1 q) σ H Q) : tOp r (tW XT K W m) (tW XT K W m') σ H Q := by
  obtain ⟨fo, φ, ρ, st, hs, he, h⟩ := h
  refine ⟨fo, φ, ρ, st, hs, he, (Go.of_bind h).imp fun w st1 φ1 H1 s1 q1 h1 v rv => ?_⟩
  refine ⟨fo, φ1, ρ, st1, q1, he.step s1, (Go.of_bind h1).imp fun w2 st2 φ2 H2 s2 q2 h2 v2 rv2 => ?_⟩
  unfold op2 at h2
  simp only at h2
  cases e1 : viewW st2 w with
  | none => rw [e1] at h2; exact h2.elim
  | some x =>
    cases e2 : viewW st2 w2 with
    | none => simp only [e1, e2, Option.bind_some] at h2; exact h2.elim
    | some y =>
      cases e3 : f x y with
      | none => simp only [e1, e2, e3, Option.bind_some] at h2; exact h2.elim
      | some z =>
        simp only [e1, e2, e3, Option.bind_some] at h2
        exact hr (fo ++ φ2) H2 x y z v v2 Q q2.trk (view_of q2 (rv.step s2) e1) (view_of q2 rv2 e2) e3 fun u H' sm rz => h2 φ2 H' (Step.same sm) (q2.same sm) u rz
end
end PB

set_option Elab.async false
set_option linter.all false
set_option maxRecDepth 100000
set_option maxHeartbeats 4000000
set_option backward.match.sparseCases false
/-! Operators. -/
namespace PB
open PySem PySem.Spec PyProof.Rows L2
section
variable {X : Cx} {K : KF} {av : List Addr} {H : Hp}

theorem vint {i : Int} {v : V} (h : VRep K av H (.int i) v) : v = .int i := by cases (show Rep K av H (.int i) v from h); rfl
theorem vbl {i : Bool} {v : V} (h : VRep K av H (.bl i) v) : v = .bl i := by cases (show Rep K av H (.bl i) v from h); rfl
theorem vnon {v : V} (h : VRep K av H .non v) : v = .non := by cases (show Rep K av H .non v from h); rfl
theorem vstr {s : List Nat} {v : V} (h : VRep K av H (.str s) v) : v = .str (toS s) ∧ okS s := by cases (show Rep K av H (.str s) v from h) with | str s hs => exact ⟨rfl, hs⟩
theorem vtup {xs : List Dt} {v : V} (h : VRep K av H (.tup xs) v) : ∃ a vs, v = .ref a ∧ SqT K H a vs ∧ RepL K av H xs vs := Rep.sqT h
theorem vscr {ns : List Int} {v : V} (h : VRep K av H (.scr ns) v) : ∃ a, v = .ref a ∧ SqL K H a (ns.map V.int) := by
  cases (show Rep K av H (.scr ns) v from h) with | scr r => exact ⟨_, rfl, scr_sq r⟩
theorem vlst {xs : List Dt} {v : V} (h : VRep K av H (.lst xs) v) : ∃ a vs, v = .ref a ∧ Rd H a (.lst vs) ∧ RepL K av H xs vs := h

theorem okS.append {a b : List Nat} (ha : okS a) (hb : okS b) (h : a.length + b.length ≤ lim) : okS (a ++ b) :=
  ⟨by rw [List.length_append]; exact h, fun c hc => (List.mem_append.mp hc).elim (ha.2 c) (hb.2 c)⟩
theorem toS_append (a b : List Nat) : toS a ++ toS b = toS (a ++ b) := by
  show Str.mk _ = Str.mk _
  simp [toS]
/-- fresh places -/
theorem fresh_of (ht : ∀ a ∈ av, ∃ o, H a = some o) {p : Addr} (h : H p = none) : p ∉ av := fun z => by
  obtain ⟨o, e⟩ := ht p z
  rw [h] at e; cases e
theorem RepL.same {xs : List Dt} {vs : List V} {H' : Hp} (r : RepL K av H xs vs) (s : Same H H') : RepL K av H' xs vs := RepL.keep (fun a o n e => ⟨s a o e, n⟩) r
theorem Rep.same {x : Dt} {v : V} {H' : Hp} (r : Rep K av H x v) (s : Same H H') : Rep K av H' x v := Rep.keep (fun a o n e => ⟨s a o e, n⟩) r
theorem rep_newF {xs : List Dt} {vs : List V} {p : Addr} {o : Obj} (ht : ∀ a ∈ av, ∃ o, H a = some o) (h : H p = none) (hd : o.dict = none) (r : RepL K av H xs vs) : Rep K av (upd H p (.frz o (.tup vs))) (.tup xs) (.ref p) :=
  .tup (fresh_of ht h) (.inl ⟨o, upd_same, hd⟩) (r.same (same_new h))
/-- a new tuple is laid -/
theorem _root_.L2.Inv.laidT {X : Cx} {pins : List (Addr × Obj)} {σ : L2.St} {H : Hp} {s : Shared} {xs : List V} {its : List Value} {t' : Nat} (I : Inv X pins σ H s) (r : Vals xs its) (hz : xs.length ≤ sizeLine) :
    Inv X pins σ (upd H s.heap.objs.size (.frz { cls := .type "tuple", data := .seq its.toArray } (.tup xs))) { s with heap := s.heap.push { cls := .type "tuple", data := .seq its.toArray }, toks := t' } :=
  I.laid (t' := t') (o := .frz _ (.tup xs)) (fun b ob q => Heap.get?_push_of_some _ q) (Nat.le_refl _) (show ObjOk X.prog X.w _ _ _ (.frz _ (.tup xs)) from ⟨Heap.get?_push_size _ rfl, hz, its, r, IsTup.new _ _⟩)
/-- what may be at a new tuple's place -/
def NewT (H : Hp) (vs : List V) (Q : VK) : Prop := ∀ p o, H p = none → o.dict = none → Q (.ref p) (upd H p (.frz o (.tup vs)))
theorem rep_newT {xs : List Dt} {vs : List V} {p : Addr} (ht : ∀ a ∈ av, ∃ o, H a = some o) (h : H p = none) (r : RepL K av H xs vs) (hx : ∃ x r, xs = x :: r ∧ isTupD x = false) : Rep K av (upd H p (.tup vs)) (.tup xs) (.ref p) :=
  .tup (fresh_of ht h) (.inr ⟨.inl upd_same, hx⟩) (r.same (same_new h))
theorem rep_newL {xs : List Dt} {vs : List V} {p : Addr} (ht : ∀ a ∈ av, ∃ o, H a = some o) (h : H p = none) (r : RepL K av H xs vs) : Rep K av (upd H p (.lst vs)) (.lst xs) (.ref p) :=
  .lst (fresh_of ht h) (.inl upd_same) (r.same (same_new h))
theorem rep_tup {a : Addr} {xs : List Dt} {vs : List V} (h : Rep K av H (.tup xs) (.ref a)) (q : SqT K H a vs) : True := trivial

/-! #### list + list, read -/
def rCatR : R2 := fun x y H Q => ∃ l b xs zs, x = .ref l ∧ y = .ref b ∧ Rd H l (.lst xs) ∧ Rd H b (.lst zs) ∧ xs.length + zs.length ≤ sizeLine ∧ ∀ p, H p = none → Q (.ref p) (upd H p (.lst (xs ++ zs)))
theorem op_catR : OpR X (binaryOp .Add) rCatR := by
  intro pins s σ H x y v u Q I rx ry h
  obtain ⟨l, b, xs, zs, rfl, rfl, hH, hB, hz, q⟩ := h
  cases rx
  cases ry
  obtain ⟨z, its, n, r, e⟩ := hH.ok I.hok
  obtain ⟨z2, its2, n2, r2, e2⟩ := hB.ok I.hok
  have hl := r.length
  have hl2 := r2.length
  refine PySem.P.add_list e e2 ?_ (by rw [List.size_toArray, List.size_toArray]; omega)
  have ea : its.toArray ++ its2.toArray = (its ++ its2).toArray := by simp
  rw [ea]
  exact ⟨.ref _, _, I.lnew (t' := s.toks) (r.append r2) (by rw [List.length_append]; omega), rfl, q _ I.fresh⟩
/-! #### text * int -/
def rMulS : R2 := fun x y H Q => ∃ (a : List Nat) (k : Int), x = .str (toS a) ∧ y = .int k ∧ a.length * k.toNat ≤ lim ∧ -(2 ^ 62) < k ∧ k < 2 ^ 62 ∧ Q (.str (toS (List.replicate k.toNat a).flatten)) H
theorem foldl_repA (a : List Nat) : ∀ (k : Nat) (acc : List Nat), (List.replicate k a.toArray).foldl (· ++ ·) acc.toArray = (acc ++ (List.replicate k a).flatten).toArray
  | 0, acc => by simp
  | k + 1, acc => by
    rw [List.replicate_succ, List.foldl_cons, List.replicate_succ, List.flatten_cons, ← List.append_assoc]
    have : acc.toArray ++ a.toArray = (acc ++ a).toArray := by simp
    rw [this]
    exact foldl_repA a k (acc ++ a)
theorem tooLong_of {n : Nat} (h : n ≤ lim) : Builtin.Str.tooLong n = false := by
  unfold Builtin.Str.tooLong
  exact decide_eq_false (by rw [← lim_eq]; omega)
theorem op_mulS : OpR X (binaryOp .Mult) rMulS := by
  intro pins s σ H x y v u Q I rx ry h
  obtain ⟨a, k, rfl, rfl, hz, hlo, hhi, q⟩ := h
  obtain ⟨t, rfl⟩ := rx
  obtain ⟨t', rfl⟩ := ry
  have hlen : (toS a).length = a.length := toS_len a
  have h2 : lim = 16777216 := rfl
  refine PySem.P.mul_str ?_ ?_ ?_ ?_
  · have h1 : ¬ k < -(2 ^ 63 : Int) := by omega
    have h3 : ¬ k ≥ (2 ^ 63 : Int) := by omega
    rw [decide_eq_false h1, decide_eq_false h3]; rfl
  · intro h1 h3
    rw [hlen]
    have hk : (k.toNat : Int) = k := Int.toNat_of_nonneg (by omega)
    have h4 : ((a.length : Int)) * k ≤ (lim : Int) := by
      have h7 : ((a.length * k.toNat : Nat) : Int) ≤ (lim : Int) := Int.ofNat_le.mpr hz
      rw [Int.natCast_mul, hk] at h7
      exact h7
    have h8 : (lim : Int) = 16777216 := rfl
    rw [h8] at h4
    intro h5
    have h6 : (2 ^ 63 - 1 : Int) < (a.length : Int) * k := by
      have := Int.lt_mul_of_ediv_lt (by omega : 0 < k) h5
      rw [Int.mul_comm] at this
      first | exact this | (rw [Int.mul_comm] at this; exact this)
    omega
  · intro h1 h3
    rw [hlen]
    exact tooLong_of hz
  · by_cases h1 : k < 1
    · rw [if_pos h1]
      have e : k.toNat = 0 := by omega
      refine ⟨by decide, ⟨.str (toS (List.replicate k.toNat a).flatten), H, I.tok _, ?_, q⟩⟩
      rw [e]
      exact ⟨_, rfl⟩
    · rw [if_neg h1]
      by_cases h3 : (k == 1 || (toS a).length == 0) = true
      · rw [if_pos h3]
        have e : (List.replicate k.toNat a).flatten = a := by
          simp only [Bool.or_eq_true, beq_iff_eq, hlen] at h3
          rcases h3 with h3 | h3
          · subst h3
            show (List.replicate 1 a).flatten = a
            simp
          · have : a = [] := List.length_eq_zero_iff.mp h3
            subst this
            simp
        rw [e] at q
        exact ⟨.str (toS a), H, I, ⟨_, rfl⟩, q⟩
      · rw [if_neg h3]
        have e : (List.replicate k.toNat (toS a).cps).foldl (· ++ ·) #[] = ((List.replicate k.toNat a).flatten).toArray := by
          have := foldl_repA a k.toNat []
          simpa [toS] using this
        rw [e]
        refine ⟨?_, ⟨.str (toS (List.replicate k.toNat a).flatten), H, I.tok _, ⟨_, rfl⟩, q⟩⟩
        show (List.replicate k.toNat a).flatten.toArray.size ≤ _
        rw [List.size_toArray]
        have e2 : (List.replicate k.toNat a).flatten.length = k.toNat * a.length := by simp [List.length_flatten]
        rw [e2, Nat.mul_comm]
        first | exact Nat.le_trans hz (by rw [h2, sizeLine_eq]; exact Nat.le_refl _) | (rw [sizeLine_eq]; omega)

/-! #### tuple * 1 -/
theorem mulT_one (l : Addr) (items : Array Value) (n : Nat) (dd : Option Addr) (sl : Array (Option Value)) (u : Tok) :
    Meets (Builtin.«tuple.__mul__» ⟨[.ref l, .int 1 u], []⟩) (fun _ R s => s.heap.get? l = some { cls := .type "tuple", dict := dd, data := .seq items n, slots := sl } ∧ R (.ok (.ret (Value.ref l))) s) :=
  .of_wp fun prog w A R s h => by
    obtain ⟨hp, g, d, tk, os⟩ := s
    obtain ⟨hl, h⟩ := h
    have f1 := AutoSeq1.idx_int
    have c1 : (items.isEmpty || (1 : Int) == 1) = true := by simp
    wp_walk using wpAny_loadPart' hl
    repeat (first
      | (refine wpAny_ite_true (decide_eq_true c1) ?_; wp_walk using wpAny_loadPart' hl)
      | (refine wpAny_ite_false (decide_eq_false (by decide)) ?_; wp_walk using wpAny_loadPart' hl))
    exact ⟨_, rfl, h⟩
def rRepT1 (K : KF) : R2 := fun x y H Q => ∃ l xs, x = .ref l ∧ y = .int 1 ∧ SqT K H l xs ∧ Q (.ref l) H
theorem op_repT1 : OpR X (binaryOp .Mult) (rRepT1 X.KF) := by
  intro pins s σ H x y v u Q I rx ry h
  obtain ⟨l, xs, rfl, rfl, hT, q⟩ := h
  cases rx
  obtain ⟨t, rfl⟩ := ry
  obtain ⟨its, r, ⟨⟨cls, dd, data, sl⟩, ho, hc, n, hd⟩, hs⟩ := I.tuple hT
  simp only at hc hd
  subst hc hd
  exact wpAny_binaryOp_repeat_ref (T := "tuple") (U := "int") (by decide) ⟨_, ho, rfl⟩ (fun s' => typeIs_int s' 1 t) noFill_tuple_mul F.fills_int_mul F.slot_int_rmul repeat_tuple F.slot_int_index.lookup
    (call_meets F.slot_int_rmul (typeIs_int s 1 t) F.entry_int_rmul (F.args_int_rmul_2 _ _) (int_rmul_tuple 1 t l its.toArray n dd sl)
      ⟨ho, rfl, ⟨_, ho, rfl⟩, call_meets F.slot_tuple_mul ⟨_, ho, rfl⟩ F.entry_tuple_mul (F.args_tuple_mul_2 _ _) (mulT_one l its.toArray n dd sl t) ⟨ho, .ref l, H, I, rfl, q⟩⟩)
/-! #### list * int -/
def rRepR : R2 := fun x y H Q => ∃ l k xs, x = .ref l ∧ y = .int k ∧ Rd H l (.lst xs) ∧ xs ≠ [] ∧ 1 ≤ k ∧ k ≤ 1000 ∧ xs.length ≤ 1000 ∧ ∀ p, H p = none → Q (.ref p) (upd H p (.lst (List.replicate k.toNat xs).flatten))
theorem rep_arr (its : List Value) : ∀ (m : Nat) (acc : List Value), (List.replicate m its.toArray).foldl (fun a b => a ++ b) acc.toArray = (acc ++ (List.replicate m its).flatten).toArray
  | 0, acc => by simp
  | m + 1, acc => by
    have ea : acc.toArray ++ its.toArray = (acc ++ its).toArray := by simp
    rw [List.replicate_succ, List.foldl_cons, ea, rep_arr its m (acc ++ its), List.replicate_succ, List.flatten_cons, List.append_assoc]
theorem op_repR : OpR X (binaryOp .Mult) rRepR := by
  intro pins s σ H x y v u Q I rx ry h
  obtain ⟨l, k, xs, rfl, rfl, hH, hne, k1, k2, k3, q⟩ := h
  cases rx
  obtain ⟨t, rfl⟩ := ry
  obtain ⟨z, its, n, r, e⟩ := hH.ok I.hok
  have hlx : xs.length = its.length := r.length
  have hk : k.toNat ≤ 1000 := by omega
  have hm : its.length * k.toNat ≤ 1000 * 1000 := Nat.mul_le_mul (by omega) hk
  have hz : its.length * k.toNat ≤ sizeLine := by rw [sizeLine_eq]; omega
  have b1 : ¬ its.toArray.size * k.toNat > (2 ^ 63 - 1) / 8 := by rw [List.size_toArray]; omega
  have b2 : ¬ (!Builtin.List.listFitsIndex k) = true := by rw [fitsIndex_both (by omega) (by omega)]; exact Bool.false_ne_true
  have b3 : ¬ Builtin.List.listTooLong (its.toArray.size * k.toNat) = true := by rw [notLongL (by rw [List.size_toArray]; exact hz)]; exact Bool.false_ne_true
  have en : List.foldl (fun x1 x2 => x1 ++ x2) #[] (List.replicate (if its.toArray.isEmpty = true then 0 else k.toNat) its.toArray) = (List.replicate k.toNat its).flatten.toArray := by
    have hi : ¬ its.toArray.isEmpty = true := fun e0 => by
      have e1 : its = [] := by simpa using e0
      rw [e1] at hlx
      exact hne (List.length_eq_zero_iff.mp hlx)
    rw [if_neg hi]
    exact rep_arr its k.toNat []
  have rr : Vals (List.replicate k.toNat xs).flatten (List.replicate k.toNat its).flatten := r.rep k.toNat
  exact wpAny_binaryOp_repeat_ref (T := "list") (U := "int") (by decide) ⟨_, e, rfl⟩ (fun s' => typeIs_int s' k t) noFill_list_mul F.fills_int_mul F.slot_int_rmul repeat_list F.slot_int_index.lookup (call_meets F.slot_int_rmul (typeIs_int s k t) F.entry_int_rmul (F.args_int_rmul_2 _ _) (int___rmul___int_list k t l its.toArray n) ⟨e, rfl, ⟨_, e, rfl⟩, call_meets F.slot_list_mul ⟨_, e, rfl⟩ F.entry_list_mul (F.args_list_mul_2 _ _) (AutoListH.list___mul___list_int_3 l its.toArray n k t b2 b1 b3) ⟨e, by
    rw [en]
    exact ⟨.ref _, _, I.lnew (t' := s.toks) rr (by rw [PyProof.Rows.lm_len_rep_flat, Nat.mul_comm, hlx]; exact hz), rfl, q _ I.fresh⟩⟩⟩)
/-! #### tuple + tuple, tuple * int: what is new has no dict of its own -/
def rCatF (K : PySem.W.Frag) : R2 := fun x y H Q => ∃ a b xs ys, x = .ref a ∧ y = .ref b ∧ SqT K H a xs ∧ SqT K H b ys ∧ xs.length + ys.length ≤ sizeLine ∧
  (xs = [] → Q (.ref b) H) ∧ (xs ≠ [] → ys = [] → Q (.ref a) H) ∧ (xs ≠ [] → ys ≠ [] → NewT H (xs ++ ys) Q)
theorem op_catF : OpR X (binaryOp .Add) (rCatF X.K) := by
  intro pins s σ H x y v u Q I rx ry h
  obtain ⟨a, b, xs, ys, rfl, rfl, ha, hb, hz, q0, q1, q2⟩ := h
  by_cases hx : xs = []
  · exact op_catA pins s σ H _ _ v u Q I rx ry ⟨a, b, xs, ys, rfl, rfl, ha, hb, hz, q0, q1, fun z => (z hx).elim⟩
  · cases rx
    cases ry
    obtain ⟨its, r1, p1, _⟩ := I.tuple ha
    obtain ⟨its2, r2, p2, _⟩ := I.tuple hb
    refine HT.cat_tup p1 p2 (fun z => hx (r1.nil_iff.mp z)) (fun z => ⟨.ref a, H, I, rfl, q1 hx (r2.nil_iff.mp z)⟩) (fun z => ?_) (by rw [← r1.length, ← r2.length]; exact hz)
    exact ⟨.ref s.heap.objs.size, _, I.laidT (r1.append r2) (by rw [List.length_append]; exact hz), rfl, q2 hx (fun w => z (r2.nil_iff.mpr w)) _ _ (I.hok.fresh (Nat.le_refl _)) rfl⟩
def rRepF (K : PySem.W.Frag) : R2 := fun x y H Q => ∃ l k xs, x = .ref l ∧ y = .int k ∧ SqT K H l xs ∧ xs ≠ [] ∧ 2 ≤ k ∧ k ≤ 1000 ∧ xs.length ≤ 1000 ∧ NewT H (List.replicate k.toNat xs).flatten Q
theorem op_repF : OpR X (binaryOp .Mult) (rRepF X.K) := by
  intro pins s σ H x y v u Q I rx ry ⟨l, k, xs, e1, e2, sq, ne, lo, up, few, q⟩
  subst e1 e2
  cases rx
  obtain ⟨t, rfl⟩ := ry
  obtain ⟨us, rel, ⟨⟨c, dd, dat, sl⟩, g1, g2, n, g3⟩, _⟩ := I.tuple sq
  cases (show c = _ from g2)
  cases (show dat = _ from g3)
  have len : us.toArray.size = xs.length := by rw [List.size_toArray]; exact rel.length.symm
  have pos : 0 < xs.length := List.length_pos_iff.mpr ne
  have full : us.toArray.isEmpty = false := by
    cases us with
    | nil => simp at len; omega
    | cons a r => rfl
  have prod : ((us.toArray.size : Nat) : Int) * k ≤ 1000000 := by
    have : ((xs.length : Nat) : Int) * k ≤ 1000 * k := Int.mul_le_mul_of_nonneg_right (by omega) (by omega)
    rw [len]; omega
  have all : (List.replicate k.toNat us).flatten.length ≤ sizeLine := by
    have : k.toNat * xs.length ≤ 1000 * 1000 := Nat.mul_le_mul (by omega) few
    rw [PyProof.Rows.lm_len_rep_flat, ← rel.length, sizeLine_eq]; omega
  have b1 : (decide (k < -(2 ^ 63)) || decide (k ≥ 2 ^ 63)) = false := by simp only [Bool.or_eq_false_iff, decide_eq_false_iff_not]; omega
  have b2 : (us.toArray.isEmpty || k == 1) = false := by rw [full]; exact beq_eq_false_iff_ne.mpr (by omega)
  have b3 : (decide (k ≤ 0) || us.toArray.isEmpty) = false := by rw [full, decide_eq_false (by omega)]; rfl
  have b4 : Builtin.Tuple.tupleTooMany (((us.toArray.size : Nat) : Int) * k) = false := decide_eq_false (by rw [sizeLine_eq]; omega)
  refine wpAny_binaryOp_repeat_ref (T := "tuple") (U := "int") (by decide) ⟨_, g1, rfl⟩ (fun z => typeIs_int z k t) noFill_tuple_mul F.fills_int_mul F.slot_int_rmul repeat_tuple F.slot_int_index.lookup ?_
  refine call_meets F.slot_int_rmul (typeIs_int s k t) F.entry_int_rmul (F.args_int_rmul_2 _ _) (int_rmul_tuple k t l us.toArray n dd sl) ⟨g1, rfl, ⟨_, g1, rfl⟩, ?_⟩
  refine call_meets F.slot_tuple_mul ⟨_, g1, rfl⟩ F.entry_tuple_mul (F.args_tuple_mul_2 _ _) (tuple_mulW l us.toArray n dd sl k t b1 b2 b3 (by omega) b4 (by rw [size_rep, List.size_toArray]; exact all)) ⟨g1, ?_⟩
  rw [size_rep]
  have lenx : (List.replicate k.toNat xs).flatten.length ≤ sizeLine := by rw [PyProof.Rows.lm_len_rep_flat] at all ⊢; rw [rel.length]; exact all
  exact ⟨.ref s.heap.objs.size, _, I.laidT (rel.rep k.toNat) lenx, rfl, q _ _ (I.hok.fresh (Nat.le_refl _)) rfl⟩
/-! #### + - * // % -/
def pyBop : Bop → Operator
  | .add => .Add | .sub => .Sub | .mul => .Mult | .fdiv => .FloorDiv | .mod => .Mod
def rBop (K : KF) : Bop → R2
  | .add => fun x y H Q => rI0 (fun i j => .int (i + j)) x y H Q ∨ ((∃ i j, x = .str i ∧ y = .str j ∧ i.length + j.length ≤ sizeLine ∧ Q (.str (i ++ j)) H) ∨ (rCatF K x y H Q ∨ rCatR x y H Q))
  | .sub => rI0 fun i j => .int (i - j)
  | .mul => fun x y H Q => rI CMul (fun i j => .int (i * j)) x y H Q ∨ (rMulS x y H Q ∨ (rRepF K x y H Q ∨ (rRepT1 K x y H Q ∨ rRepR x y H Q)))
  | .fdiv => rI CDiv fun i j => .int (i / j)
  | .mod => rI (fun _ j => 0 < j) fun i j => .int (i % j)
theorem op_bop : ∀ o : Bop, OpR X (binaryOp (pyBop o)) (rBop X.KF o)
  | .add => op_add.or (op_add_str.or (op_catF.or op_catR))
  | .sub => op_sub
  | .mul => op_mul.or (op_mulS.or (op_repF.or (op_repT1.or op_repR)))
  | .fdiv => op_fdiv
  | .mod => op_mod
theorem okS.rep {a : List Nat} (h : okS a) {k : Nat} (hz : a.length * k ≤ lim) : okS (List.replicate k a).flatten := by
  refine ⟨by simp [List.length_flatten]; rw [Nat.mul_comm]; exact hz, fun c hc => ?_⟩
  obtain ⟨l, hl, hc⟩ := List.mem_flatten.mp hc
  rw [(List.mem_replicate.mp hl).2] at hc
  exact h.2 c hc
theorem ops_add : OpS K (bopD .add) (rBop K .add) := by
  intro av H x y z v u Q ht hx hy e q
  unfold bopD at e
  split at e <;> try (cases e; done)
  · cases vint hx; cases vint hy; cases e
    exact .inl ⟨_, _, rfl, rfl, q _ H (.refl H) (.int _)⟩
  · obtain ⟨rfl, ha⟩ := vstr hx
    obtain ⟨rfl, hb⟩ := vstr hy
    split at e
    · rename_i hl
      cases e
      refine .inr (.inl ⟨_, _, rfl, rfl, by rw [toS_len, toS_len, ← lim_eq]; exact hl, ?_⟩)
      rw [toS_append]
      exact q _ H (.refl H) (.str _ (ha.append hb hl))
    · cases e
  · split at e
    · rename_i hl
      cases e
      obtain ⟨a, vs, rfl, ha, ra⟩ := vtup hx
      obtain ⟨b, us, rfl, hb, rb⟩ := vtup hy
      refine .inr (.inr (.inl ⟨a, b, vs, us, rfl, rfl, ha, hb, by rw [← ra.length, ← rb.length, ← lim_eq]; exact hl, fun e0 => ?_, fun _ e0 => ?_, fun _ _ p o hp ho => q _ _ (same_new hp) (rep_newF ht hp ho (ra.append rb))⟩))
      · subst e0
        cases ra
        exact q _ H (.refl H) hy
      · subst e0
        cases rb
        rw [List.append_nil] at q
        exact q _ H (.refl H) hx
    · cases e
  · split at e
    · rename_i hl
      cases e
      obtain ⟨a, vs, rfl, ha, ra⟩ := vlst hx
      obtain ⟨b, us, rfl, hb, rb⟩ := vlst hy
      exact .inr (.inr (.inr ⟨a, b, vs, us, rfl, rfl, ha, hb, by rw [← ra.length, ← rb.length, ← lim_eq]; exact hl, fun p hp => q _ _ (same_new hp) (rep_newL ht hp (ra.append rb))⟩))
    · cases e
  all_goals (rename_i h1; cases h1)
theorem ops_bop (o : Bop) : OpS K (bopD o) (rBop K o) := by
  cases o with
  | add => exact ops_add
  | sub =>
    intro av H x y z v u Q ht hx hy e q
    unfold bopD at e
    split at e <;> first | (rename_i h1; cases h1; done) | skip
    · cases vint hx; cases vint hy; cases e
      exact ⟨_, _, rfl, rfl, q _ H (.refl H) (.int _)⟩
    · cases e
  | mul =>
    intro av H x y z v u Q ht hx hy e q
    unfold bopD at e
    split at e <;> first | (rename_i h1; cases h1; done) | skip
    · cases vint hx; cases vint hy
      split at e
      · rename_i hc
        cases e
        exact .inl ⟨_, _, rfl, rfl, hc, q _ H (.refl H) (.int _)⟩
      · cases e
    · obtain ⟨rfl, ha⟩ := vstr hx
      cases vint hy
      split at e
      · rename_i hc
        cases e
        exact .inr (.inl ⟨_, _, rfl, rfl, hc.1, hc.2.1, hc.2.2, q _ H (.refl H) (.str _ (ha.rep hc.1))⟩)
      · cases e
    · rename_i i_ _
      obtain ⟨a, vs, rfl, ha, ra⟩ := vtup hx
      cases vint hy
      split at e
      · rename_i hc
        cases e
        have hl := ra.length
        by_cases h1 : i_ = 1
        · subst h1
          refine .inr (.inr (.inr (.inl ⟨a, vs, rfl, rfl, ha, q _ H (.refl H) ?_⟩)))
          simp only [Int.toNat_one, List.replicate_one, List.flatten_singleton]
          exact hx
        · refine .inr (.inr (.inl ⟨a, _, vs, rfl, rfl, ha, fun e0 => ?_, by omega, hc.2.2.1, by omega, fun p o hp ho => q _ _ (same_new hp) (rep_newF ht hp ho (ra.rep _))⟩))
          subst e0
          have := hc.1
          rw [hl] at this
          exact absurd this (by simp)
      · cases e
    · obtain ⟨a, vs, rfl, ha, ra⟩ := vlst hx
      cases vint hy
      split at e
      · rename_i hc
        cases e
        have hl := ra.length
        refine .inr (.inr (.inr (.inr ⟨a, _, vs, rfl, rfl, ha, fun e0 => ?_, hc.2.1, hc.2.2.1, by omega, fun p hp => q _ _ (same_new hp) (rep_newL ht hp (ra.rep _))⟩)))
        subst e0
        have := hc.1
        rw [hl] at this
        exact absurd this (by simp)
      · cases e
    · cases e
  | fdiv =>
    intro av H x y z v u Q ht hx hy e q
    unfold bopD at e
    split at e <;> first | (rename_i h1; cases h1; done) | skip
    · cases vint hx; cases vint hy
      split at e
      · rename_i hc
        cases e
        exact ⟨_, _, rfl, rfl, hc, q _ H (.refl H) (.int _)⟩
      · cases e
    · cases e
  | mod =>
    intro av H x y z v u Q ht hx hy e q
    unfold bopD at e
    split at e <;> first | (rename_i h1; cases h1; done) | skip
    · cases vint hx; cases vint hy
      split at e
      · rename_i hc
        cases e
        exact ⟨_, _, rfl, rfl, hc, q _ H (.refl H) (.int _)⟩
      · cases e
    · cases e
end
end PB

set_option Elab.async false
set_option linter.all false
set_option maxRecDepth 100000
set_option maxHeartbeats 4000000
set_option backward.match.sparseCases false
/-! Comparisons. -/
namespace PB
open PySem PySem.Spec PyProof.Rows L2
section
variable {X : Cx} {K : KF} {av : List Addr} {H : Hp}
theorem VRep.dp {x : Dt} {v : V} (h : VRep K av H x v) : Dp K H v (toPy x) ∧ (toPy x).canLay0 = true := by
  cases x with
  | lst xs =>
    obtain ⟨a, vs, rfl, r, e⟩ := vlst h
    exact ⟨by rw [toPy]; exact .lst (.inl r) (RepL.dp e).1, by simp only [toPy, PyData.canLay0]; exact (RepL.dp e).2⟩
  | non => exact Rep.dp h
  | bl b => exact Rep.dp h
  | int i => exact Rep.dp h
  | str s => exact Rep.dp h
  | tup xs => exact Rep.dp h
  | scr ns => exact Rep.dp h
def rEqA (K : KF) (neg : Bool) : R2 := fun x y H Q => ∃ d e, Dp K H x d ∧ Dp K H y e ∧ d.canLay0 = true ∧ e.canLay0 = true ∧ min d.depth e.depth ≤ 64 ∧ Q (.bl (if neg then !PyData.eqv d e else PyData.eqv d e)) H
theorem op_eqA (hu : X.A.units + 65 < cLine) : OpR X (compareOp .Eq) (rEqA X.KF false) := by
  intro pins s σ H x y v u Q I rx ry h
  obtain ⟨d, e, hd, he, sd, se, hm, q⟩ := h
  obtain ⟨as, r1⟩ := Dp.reads I d x v hd rx
  obtain ⟨bs, r2⟩ := Dp.reads I e y u he ry
  exact SeqAt.compareEq_reads r1 r2 sd se (by omega) ⟨.bl _, H, I, rfl, q⟩
theorem op_neA (hu : X.A.units + 65 < cLine) : OpR X (compareOp .NotEq) (rEqA X.KF true) := by
  intro pins s σ H x y v u Q I rx ry h
  obtain ⟨d, e, hd, he, sd, se, hm, q⟩ := h
  obtain ⟨as, r1⟩ := Dp.reads I d x v hd rx
  obtain ⟨bs, r2⟩ := Dp.reads I e y u he ry
  exact SeqAt.compareNe_reads r1 r2 sd se (by omega) ⟨.bl _, H, I, rfl, q⟩
def rInA (K : KF) (neg : Bool) : R2 := fun x y H Q => ∃ d ds, Dp K H x d ∧ (Dp K H y (.list ds) ∨ Dp K H y (.tuple ds)) ∧ d.canLay0 = true ∧ PyData.canLayAll0 ds = true ∧ min (PyData.depthAll ds) d.depth ≤ 64 ∧
  Q (.bl (if neg then !ds.any fun z => PyData.eqv z d else ds.any fun z => PyData.eqv z d)) H
theorem op_inA (hu : X.A.units + 65 < cLine) : OpR X (compareOp .In) (rInA X.KF false) := by
  intro pins s σ H x y v u Q I rx ry h
  obtain ⟨d, ds, hd, he, sd, se, hm, q⟩ := h
  obtain ⟨as, r1⟩ := Dp.reads I d x v hd rx
  rcases he with he | he
  · obtain ⟨bs, r2⟩ := Dp.reads I _ y u he ry
    exact SeqAt.in_list_reads r2 r1 se sd (by omega) ⟨.bl _, H, I, rfl, q⟩
  · obtain ⟨bs, r2⟩ := Dp.reads I _ y u he ry
    exact SeqAt.in_tuple_reads r2 r1 se sd (by omega) ⟨.bl _, H, I, rfl, q⟩
theorem op_notInA (hu : X.A.units + 65 < cLine) : OpR X (compareOp .NotIn) (rInA X.KF true) := by
  intro pins s σ H x y v u Q I rx ry h
  obtain ⟨d, ds, hd, he, sd, se, hm, q⟩ := h
  obtain ⟨as, r1⟩ := Dp.reads I d x v hd rx
  rcases he with he | he
  · obtain ⟨bs, r2⟩ := Dp.reads I _ y u he ry
    exact SeqAt.notIn_list_reads r2 r1 se sd (by omega) ⟨.bl _, H, I, rfl, q⟩
  · obtain ⟨bs, r2⟩ := Dp.reads I _ y u he ry
    exact SeqAt.notIn_tuple_reads r2 r1 se sd (by omega) ⟨.bl _, H, I, rfl, q⟩

/-! #### order -/
theorem key_ints : ∀ ns : List Int, PySem.W.keyToksAll (ns.map PyData.int) = keyIs ns
  | [] => rfl
  | n :: ns => by
    rw [List.map_cons, PySem.W.keyToksAll, key_ints ns, keyIs]
    rfl
mutual
theorem key_toPy : ∀ x : Dt, PySem.W.keyToks (toPy x) = keyD x
  | .non => rfl
  | .bl b => rfl
  | .int i => rfl
  | .str s => by rw [toPy, PySem.W.keyToks, keyD, toS_cps]
  | .tup xs => by rw [toPy, PySem.W.keyToks, keyD, keys_toPy xs]
  | .lst xs => by rw [toPy, PySem.W.keyToks, keyD, keys_toPy xs]
  | .scr ns => by rw [toPy, PySem.W.keyToks, keyD, key_ints ns]
theorem keys_toPy : ∀ xs : List Dt, PySem.W.keyToksAll (toPy.toPys xs) = keyDs xs
  | [] => rfl
  | x :: xs => by rw [toPy.toPys, PySem.W.keyToksAll, keyDs, key_toPy x, keys_toPy xs]
end
theorem sign_eq (a b : Int ⊕ List Nat) : itemLt a b = signLt a b := by
  cases a with
  | inl a => cases b <;> rfl
  | inr a =>
    cases b with
    | inl b => rfl
    | inr b => rfl
theorem row_eq : ∀ a b : List (Int ⊕ List Nat), PyProof.Rows.lexLt itemOrd a b = rowLt a b
  | [], [] => rfl
  | [], _ :: _ => rfl
  | _ :: _, [] => rfl
  | x :: r, y :: t => by
    show (itemLt x y || (!itemLt y x && PyProof.Rows.lexLt itemOrd r t)) = _
    rw [sign_eq, sign_eq, row_eq r t]
    rfl
theorem lt_toPy (x y : Dt) : PySem.W.dataLt (toPy x) (toPy y) = ltB x y := by
  unfold PySem.W.dataLt ltB
  rw [key_toPy, key_toPy, row_eq]
mutual
theorem alike_toPy : ∀ x y : Dt, alikeD x y = true → PySem.W.alike (toPy x) (toPy y) = true
  | .tup xs, .tup ys, h => by
    rw [alikeD] at h
    rw [toPy, toPy, PySem.W.alike]
    exact alikes_toPy xs ys h
  | .lst xs, .lst ys, h => by
    rw [alikeD] at h
    rw [toPy, toPy, PySem.W.alike]
    exact alikes_toPy xs ys h
  | .non, .non, _ => rfl
  | .bl _, .bl _, _ => rfl
  | .int _, .int _, _ => rfl
  | .str _, .str _, _ => rfl
  | .scr _, y, h => by cases y <;> simp [alikeD] at h
  | .non, .bl _, h | .non, .int _, h | .non, .str _, h | .non, .tup _, h | .non, .lst _, h | .non, .scr _, h => by simp [alikeD] at h
  | .bl _, .non, h | .bl _, .int _, h | .bl _, .str _, h | .bl _, .tup _, h | .bl _, .lst _, h | .bl _, .scr _, h => by simp [alikeD] at h
  | .int _, .non, h | .int _, .bl _, h | .int _, .str _, h | .int _, .tup _, h | .int _, .lst _, h | .int _, .scr _, h => by simp [alikeD] at h
  | .str _, .non, h | .str _, .bl _, h | .str _, .int _, h | .str _, .tup _, h | .str _, .lst _, h | .str _, .scr _, h => by simp [alikeD] at h
  | .tup _, .non, h | .tup _, .bl _, h | .tup _, .int _, h | .tup _, .str _, h | .tup _, .lst _, h | .tup _, .scr _, h => by simp [alikeD] at h
  | .lst _, .non, h | .lst _, .bl _, h | .lst _, .int _, h | .lst _, .str _, h | .lst _, .tup _, h | .lst _, .scr _, h => by simp [alikeD] at h
theorem alikes_toPy : ∀ xs ys : List Dt, alikeDs xs ys = true → PySem.W.alikeAll (toPy.toPys xs) (toPy.toPys ys) = true
  | [], _, _ => by rw [toPy.toPys, PySem.W.alikeAll]
  | x :: xs, [], _ => by rw [toPy.toPys, toPy.toPys, PySem.W.alikeAll]
  | x :: xs, y :: ys, h => by
    rw [alikeDs, Bool.and_eq_true] at h
    rw [toPy.toPys, toPy.toPys, PySem.W.alikeAll, alike_toPy x y h.1, alikes_toPy xs ys h.2]
    rfl
end
/-- an order's answer, of alike data -/
def rOrd (K : KF) (f : PyData → PyData → Bool) : R2 := fun x y H Q => ∃ d e, Dp K H x d ∧ Dp K H y e ∧ PySem.W.alike d e = true ∧ d ≠ .none ∧ min d.depth e.depth ≤ 60 ∧ Q (.bl (f d e)) H
theorem op_ltA (hu : X.A.units + 65 < cLine) : OpR X (compareOp .Lt) (rOrd X.KF PySem.W.dataLt) := by
  intro pins s σ H x y v u Q I rx ry h
  obtain ⟨d, e, hd, he, ha, hn, hm, q⟩ := h
  obtain ⟨as, r1⟩ := Dp.reads I d x v hd rx
  obtain ⟨bs, r2⟩ := Dp.reads I e y u he ry
  exact PySem.W.lt_data r1 r2 ha hn (by omega) ⟨.bl _, H, I, rfl, q⟩
theorem op_leA (hu : X.A.units + 65 < cLine) : OpR X (compareOp .LtE) (rOrd X.KF fun d e => !PySem.W.dataLt e d) := by
  intro pins s σ H x y v u Q I rx ry h
  obtain ⟨d, e, hd, he, ha, hn, hm, q⟩ := h
  obtain ⟨as, r1⟩ := Dp.reads I d x v hd rx
  obtain ⟨bs, r2⟩ := Dp.reads I e y u he ry
  exact PySem.W.le_data r1 r2 ha hn (by omega) ⟨.bl _, H, I, rfl, q⟩

def pyCop : Cop → CmpOp
  | .eq => .Eq | .ne => .NotEq | .lt => .Lt | .le => .LtE | .gt => .Gt | .ge => .GtE | .is => .Is | .isnot => .IsNot | .inn => .In | .notin => .NotIn
def rCop (K : KF) : Cop → R2
  | .eq => rEqA K false
  | .ne => rEqA K true
  | .lt => fun x y H Q => rI0 (fun i j => .bl (decide (i < j))) x y H Q ∨ rOrd K PySem.W.dataLt x y H Q
  | .le => fun x y H Q => rI0 (fun i j => .bl (decide (i ≤ j))) x y H Q ∨ rOrd K (fun d e => !PySem.W.dataLt e d) x y H Q
  | .gt => rI0 fun i j => .bl (decide (j < i))
  | .ge => rI0 fun i j => .bl (decide (j ≤ i))
  | .is => fun x y H Q => (y = .non ∧ Q (.bl (decide (x = .non))) H) ∨ rIsB x y H Q
  | .isnot => fun x y H Q => (y = .non ∧ Q (.bl (!decide (x = .non))) H) ∨ rNotB x y H Q
  | .inn => fun x y H Q => (∃ (c : Nat) (z : Str), x = .str ⟨#[c]⟩ ∧ y = .str z ∧ Q (.bl (decide (c ∈ z.cps.toList))) H) ∨ rInA K false x y H Q
  | .notin => fun x y H Q => (∃ (c : Nat) (z : Str), x = .str ⟨#[c]⟩ ∧ y = .str z ∧ Q (.bl (!decide (c ∈ z.cps.toList))) H) ∨ rInA K true x y H Q
theorem op_cop (hu : X.A.units + 65 < cLine) : ∀ o : Cop, OpR X (compareOp (pyCop o)) (rCop X.KF o)
  | .eq => op_eqA hu
  | .ne => op_neA hu
  | .lt => op_lt.or (op_ltA hu)
  | .le => op_le.or (op_leA hu)
  | .gt => op_gt
  | .ge => op_ge
  | .is => op_isN.or op_isBl
  | .isnot => op_notN.or op_notBl
  | .inn => op_in_sign.or (op_inA hu)
  | .notin => op_notIn_sign.or (op_notInA hu)
theorem vrep_non {x : Dt} {v : V} (h : VRep K av H x v) : decide (v = V.non) = isNonD x := by
  cases x with
  | lst xs => obtain ⟨a, vs, rfl, r, e⟩ := vlst h; rfl
  | tup xs => obtain ⟨a, vs, rfl, r, e⟩ := vtup h; rfl
  | non => cases vnon h; rfl
  | bl b => cases vbl h; rfl
  | int i => cases vint h; rfl
  | str s => obtain ⟨rfl, _⟩ := vstr h; rfl
  | scr ns => obtain ⟨a, rfl, _⟩ := vscr h; rfl
theorem ops_cop (o : Cop) : OpS K (fun x y => blO (copD o x y)) (rCop K o) := by
  intro av H x y z v u Q ht hx hy e q
  dsimp only at e
  have hq : ∀ b, copD o x y = some b → Q (.bl b) H := fun b hb => by
    rw [hb] at e
    cases e
    exact q _ H (.refl H) (.bl _)
  have hn : ∃ b, copD o x y = some b := by
    cases h : copD o x y with
    | none => rw [h] at e; cases e
    | some b => exact ⟨b, rfl⟩
  clear q e
  obtain ⟨b, hb⟩ := hn
  have hq := hq b hb
  have hI : ∀ (g : Int → Int → Bool) (i j : Int), x = .int i → y = .int j → b = g i j → rI0 (fun i j => .bl (g i j)) v u H Q := fun g i j h1 h2 h3 => by
    subst h1 h2 h3
    cases vint hx; cases vint hy
    exact ⟨_, _, rfl, rfl, hq⟩
  have hO : ∀ (f : PyData → PyData → Bool) (c : Bool), f (toPy x) (toPy y) = c → toPy x ≠ .none → ordD x y c = some b → rOrd K f v u H Q := fun f c h1 h2 h3 => by
    unfold ordD at h3
    split at h3
    · rename_i hc
      cases h3
      refine ⟨toPy x, toPy y, hx.dp.1, hy.dp.1, alike_toPy _ _ hc.1, h2, by rw [dep_toPy, dep_toPy]; omega, ?_⟩
      rw [h1]
      exact hq
    · cases h3
  have hIn : ∀ (neg : Bool) (xs : List Dt), (y = .tup xs ∨ y = .lst xs) → (if depD x ≤ 64 ∨ depDs xs ≤ 64 then some (if neg then !xs.any fun z => eqD z x else xs.any fun z => eqD z x) else none) = some b → rInA K neg v u H Q := fun neg xs h1 h2 => by
    split at h2
    · rename_i hc
      cases h2
      obtain ⟨h3, h4⟩ := hx.dp
      obtain ⟨h5, h6⟩ := hy.dp
      refine ⟨toPy x, toPy.toPys xs, h3, ?_, h4, ?_, ?_, ?_⟩
      · rcases h1 with rfl | rfl
        · rw [toPy] at h5; exact .inr h5
        · rw [toPy] at h5; exact .inl h5
      · rcases h1 with rfl | rfl
        · simpa only [toPy, PyData.canLay0] using h6
        · simpa only [toPy, PyData.canLay0] using h6
      · rw [dep_toPy, deps_toPy]
        omega
      · rw [any_toPy]
        exact hq
    · cases h2
  unfold copD at hb
  split at hb
  -- eq, ne
  · split at hb
    · rename_i hc
      cases hb
      refine ⟨_, _, hx.dp.1, hy.dp.1, hx.dp.2, hy.dp.2, by rw [dep_toPy, dep_toPy]; omega, ?_⟩
      rw [eqv_toPy]
      exact hq
    · cases hb
  · split at hb
    · rename_i hc
      cases hb
      refine ⟨_, _, hx.dp.1, hy.dp.1, hx.dp.2, hy.dp.2, by rw [dep_toPy, dep_toPy]; omega, ?_⟩
      rw [eqv_toPy]
      exact hq
    · cases hb
  · cases hb; exact .inl (hI (fun i j => decide (i < j)) _ _ rfl rfl rfl)
  · cases hb; exact .inl (hI (fun i j => decide (i ≤ j)) _ _ rfl rfl rfl)
  · cases hb; exact hI (fun i j => decide (j < i)) _ _ rfl rfl rfl
  · cases hb; exact hI (fun i j => decide (j ≤ i)) _ _ rfl rfl rfl
  · exact .inr (hO PySem.W.dataLt _ (lt_toPy _ _) (by simp [toPy]) hb)
  · exact .inr (hO PySem.W.dataLt _ (lt_toPy _ _) (by simp [toPy]) hb)
  · exact .inr (hO (fun d e => !PySem.W.dataLt e d) _ (congrArg Bool.not (lt_toPy _ _)) (by simp [toPy]) hb)
  · exact .inr (hO (fun d e => !PySem.W.dataLt e d) _ (congrArg Bool.not (lt_toPy _ _)) (by simp [toPy]) hb)
  · cases hb
    refine .inl ⟨vnon hy, ?_⟩
    rw [vrep_non hx]
    exact hq
  · cases hb
    cases vbl hx; cases vbl hy
    refine .inr ⟨_, _, rfl, rfl, ?_⟩
    rw [← Bool.beq_eq_decide_eq]
    exact hq
  · cases hb
    refine .inl ⟨vnon hy, ?_⟩
    rw [vrep_non hx]
    exact hq
  · cases hb
    cases vbl hx; cases vbl hy
    refine .inr ⟨_, _, rfl, rfl, ?_⟩
    rw [← Bool.beq_eq_decide_eq]
    exact hq
  · cases hb
    obtain ⟨rfl, _⟩ := vstr hx
    obtain ⟨rfl, _⟩ := vstr hy
    refine .inl ⟨_, _, rfl, rfl, ?_⟩
    rw [toS_cps]
    exact hq
  · exact .inr (hIn false _ (.inl rfl) hb)
  · exact .inr (hIn false _ (.inr rfl) hb)
  · cases hb
    obtain ⟨rfl, _⟩ := vstr hx
    obtain ⟨rfl, _⟩ := vstr hy
    refine .inl ⟨_, _, rfl, rfl, ?_⟩
    rw [toS_cps]
    exact hq
  · exact .inr (hIn true _ (.inl rfl) hb)
  · exact .inr (hIn true _ (.inr rfl) hb)
  · cases hb
end
end PB

set_option Elab.async false
set_option linter.all false
set_option maxRecDepth 100000
set_option maxHeartbeats 4000000
namespace PB'
open PySem PySem.Calls PyProof.Rows PySem.W
/-! #### tuples sorted by their first items, all unlike -/
section
variable {prog : Program} {w : World} {A : Around} {s : Shared}
/-- v is a tuple of the heap whose first item reads as p -/
def Hd (h : Heap) (v : Value) (p : PyData) : Prop := ∃ a o xs n f fr as, v = .ref a ∧ h.get? a = some o ∧ o.cls = .type "tuple" ∧ o.data = .seq xs n ∧ xs.toList = f :: fr ∧ Reads h f p as
noncomputable def hdKind (h : Heap) (zs : List (Value × PyData)) : KeyKind where
  toKeyOrd := listOrd itemOrd
  keyOf v := open Classical in if q : ∃ p, (v, p) ∈ zs then some (keyToks q.choose) else none
  dflt := ([] : List (Int ⊕ List Nat))
theorem hd_unique {h : Heap} {v : Value} {p p' : PyData} (ha : alike p p' = true) (r : Hd h v p) (r' : Hd h v p') : p = p' := by
  obtain ⟨a, o, xs, n, f, fr, as, rfl, h1, h2, h3, h4, h5⟩ := r
  obtain ⟨a', o', xs', n', f', fr', as', e, k1, k2, k3, k4, k5⟩ := r'
  cases e
  rw [h1] at k1
  cases k1
  rw [h3] at k3
  cases k3
  rw [h4] at k4
  cases k4
  exact alike_unique _ _ _ _ _ ha h5 k5
theorem hd_some {h : Heap} {zs : List (Value × PyData)} (hr : ∀ z ∈ zs, Hd h z.1 z.2) (hal : ∀ z ∈ zs, ∀ y ∈ zs, alike z.2 y.2 = true) {v : Value} {p : PyData} (hz : (v, p) ∈ zs) : (hdKind h zs).keyOf v = some (keyToks p) := by
  have q : ∃ p, (v, p) ∈ zs := ⟨p, hz⟩
  have e : (hdKind h zs).keyOf v = some (keyToks q.choose) := by
    show (open Classical in if q : ∃ p, (v, p) ∈ zs then some (keyToks q.choose) else none) = _
    rw [dif_pos q]
  have h1 := q.choose_spec
  have u : q.choose = p := hd_unique (hal _ h1 _ hz) (hr _ h1) (hr _ hz)
  exact e.trans (congrArg (fun p => some (keyToks p)) u)
theorem hd_inv {h : Heap} {zs : List (Value × PyData)} {v : Value} {k : List (Int ⊕ List Nat)} (e : (hdKind h zs).keyOf v = some k) : ∃ p, (v, p) ∈ zs ∧ k = keyToks p := by
  by_cases q : ∃ p, (v, p) ∈ zs
  · have e' : (hdKind h zs).keyOf v = some (keyToks q.choose) := by
      show (open Classical in if q : ∃ p, (v, p) ∈ zs then some (keyToks q.choose) else none) = _
      rw [dif_pos q]
    rw [e'] at e
    exact ⟨_, q.choose_spec, (Option.some.inj e).symm⟩
  · have e' : (hdKind h zs).keyOf v = none := by
      show (open Classical in if q : ∃ p, (v, p) ∈ zs then some (keyToks q.choose) else none) = _
      rw [dif_neg q]
      rfl
    rw [e'] at e
    exact absurd e (by simp)
theorem hd_tups {h : Heap} : ∀ {zs : List (Value × PyData)}, (∀ z ∈ zs, Hd h z.1 z.2) → ∃ fs, KatTups h (zs.map Prod.fst) fs ∧ fs.length = zs.length ∧ ∀ f, f ∈ fs → ∃ z ∈ zs, ∃ as, Reads h f z.2 as
  | [], _ => ⟨[], KatTups.nil, rfl, fun f hf => absurd hf (by simp)⟩
  | z :: zs, hr => by
    obtain ⟨fs, h1, h2, h3⟩ := hd_tups fun y hy => hr y (List.mem_cons_of_mem _ hy)
    obtain ⟨v, p⟩ := z
    obtain ⟨a, o, xs, n, f, fr, as, e, g1, g2, g3, g4, g5⟩ := hr (v, p) List.mem_cons_self
    dsimp only at e
    subst e
    refine ⟨f :: fs, KatTups.cons g1 g2 g3 (by rw [← Array.getElem?_toList, g4]; rfl) h1, by rw [List.length_cons, List.length_cons, h2], fun g hg => ?_⟩
    rcases List.mem_cons.mp hg with rfl | hg
    · exact ⟨_, List.mem_cons_self, _, g5⟩
    · obtain ⟨z, hz, as', r⟩ := h3 g hg
      exact ⟨z, List.mem_cons_of_mem _ hz, as', r⟩
theorem kat_self {b : Bool} {Q : Bool → Shared → Prop} : ∀ (vs : List Value) (i : Nat), Q false s → KatLex prog w A b false Q (vs.zip vs) i s
  | [], _, h => kat_nil h
  | v :: vs, i, h => by
    rw [List.zip_cons_cons]
    exact kat_cons (PySem.SeqAt.EqAt.same _ prog w _ _ (kat_yes (kat_self vs (i + 1) h)))
theorem SortsAt.heads {zs : List (Value × PyData)} (hr : ∀ z ∈ zs, Hd s.heap z.1 z.2) (hal : ∀ z ∈ zs, ∀ y ∈ zs, alike z.2 y.2 = true) (hu : ∀ z ∈ zs, A.units + z.2.depth < cLine)
    (hf : ∀ z ∈ zs, ∀ y ∈ zs, z = y ∨ PyData.eqv z.2 y.2 = false) : SortsAt prog w A s (hdKind s.heap zs) (zs.map Prod.fst) := by
  refine ⟨fun v hv => ?_, ?_⟩
  · obtain ⟨⟨v, p⟩, hz, rfl⟩ := List.mem_map.mp hv
    exact ⟨_, hd_some hr hal hz⟩
  · cases zs with
    | nil => exact ⟨PyProof.Rows.general', fun E x y a b Q ha _ _ => (by
        obtain ⟨p, hp, _⟩ := hd_inv ha
        exact absurd hp (by simp)), fun h2 => absurd h2 (by simp)⟩
    | cons z₀ zs₀ =>
      have hty : ∀ z ∈ z₀ :: zs₀, dataType z.2 = dataType z₀.2 := fun z hz => dataType_alike (hal z hz z₀ List.mem_cons_self)
      refine ⟨PyProof.Rows.tuples' (dataType z₀.2 != Value.type "tuple"), ?_, fun h2 E Q hq => ?_⟩
      · intro E x y a b Q ha hb hq
        obtain ⟨p, hp, rfl⟩ := hd_inv ha
        obtain ⟨q, hq', rfl⟩ := hd_inv hb
        obtain ⟨a1, o1, xs, n1, f, fr, as, e1, g1, g2, g3, g4, g5⟩ := hr _ hp
        obtain ⟨a2, o2, ys, n2, g, gr, bs, e2, k1, k2, k3, k4, k5⟩ := hr _ hq'
        dsimp only at e1 e2 g5 k5
        subst e1 e2
        refine kat_lt g1 g3 k1 k3 ?_
        have hq : Q (dataLt p q) s := hq
        rcases hf _ hp _ hq' with e | e
        · cases e
          rw [g1] at k1
          cases k1
          rw [g3] at k3
          cases k3
          rw [decide_eq_false (Nat.lt_irrefl _)]
          refine kat_self _ 0 ?_
          rwa [show dataLt p p = false from lex_irrefl _] at hq
        · rw [g4, k4, List.zip_cons_cons]
          have room : A.units + min p.depth q.depth < cLine := Nat.lt_of_le_of_lt (Nat.add_le_add_left (Nat.min_le_left _ _) _) (hu _ hp)
          refine kat_cons (eqAt_alike p q A s _ _ _ _ g5 k5 (hal _ hp _ hq') room prog w _ _ ?_)
          dsimp only at e
          rw [e]
          refine kat_no (oneLt_alike (fun hb t => ?_) g5 k5 (hal _ hp _ hq') (ne_none_of (hal _ hp _ hq') e) room hq)
          rw [Bool.and_eq_true] at hb
          have hb := hb.1
          rw [← hty _ hp] at hb
          exact dataType_tuple hb t
      · obtain ⟨fs, t1, t2, t3⟩ := hd_tups hr
        rw [List.length_map] at h2
        refine kat_kind (T := dataType z₀.2) t1 (by omega) (fun f hf => ?_) (beq_self_eq_true _) hq
        obtain ⟨z, hz, as, r⟩ := t3 f hf
        rw [← hty z hz]
        exact looks_reads r
end
end PB'

set_option Elab.async false
set_option linter.all false
set_option maxRecDepth 100000
set_option maxHeartbeats 4000000
namespace PB'
open PySem PySem.Calls PyProof.Rows PySem.W
/-! #### tuples sorted by their first items and by the first ones of their second items -/
section
open PySem.SeqAt
open PySem.AutoSeq1 (wpAny_loadPart')
open PySem.MeetsSeq PySem.MeetsSeq2 PySem.MeetsSeq3
theorem tuple_lt0 (l b : Addr) (us vs : Array Value) (n n2 : Nat) (dd dd2 : Option Addr) (sl sl2 : Array (Option Value)) (f g : Value) (fr gr : List Value) (e1 : us.toList = f :: fr) (e2 : vs.toList = g :: gr) (r : Bool) :
    Meets (Builtin.«tuple.__lt__» ⟨[.ref l, .ref b], []⟩)
      (fun A R s => s.heap.get? l = some { cls := .type "tuple", dict := dd, data := .seq us n, slots := sl } ∧ s.heap.get? b = some { cls := .type "tuple", dict := dd2, data := .seq vs n2, slots := sl2 } ∧
        EqAt A.in1 s f g false ∧ RcLt A.in1 s f g r ∧ R (.ok (.ret (.bool r))) s) :=
  .of_wp fun prog w A R s h => by
    obtain ⟨hp, ge, d, tk, os⟩ := s; obtain ⟨hl, hb, he, hr, h⟩ := h
    have f2 := AutoSeq1.sub_tuple_tuple
    wp_walk using wpAny_loadPart' hl, wpAny_loadPart' hb, wpAny_forIn_list _ (fun rest b s' => b.1 = none ∧ s' = ⟨hp, ge, d, tk, os⟩ ∧ rest = us.toList.zip vs.toList) _
    case turn =>
      rintro ⟨p, q⟩ rest b s' ⟨hb', rfl, hz⟩
      rw [e1, e2, List.zip_cons_cons] at hz
      injection hz with h1 h2
      injection h1 with h3 h4
      subst h3 h4 h2
      refine wpAny_bind (he prog w _ _ ?_)
      have hri := hr prog w
      wp_walk using hri
      exact ⟨_, rfl, by simpa using h⟩
    case fin =>
      rintro ⟨b1, b2⟩ s' ⟨hb', rfl, hz⟩
      rw [e1, e2, List.zip_cons_cons] at hz
      cases hz
    case h =>
      exact ⟨rfl, rfl, rfl⟩
theorem rcLt_first {A : Around} {s : Shared} {l b : Addr} {us vs : Array Value} {f g : Value} {fr gr : List Value} {r : Bool} (hl : s.heap.IsTuple l us) (hb : s.heap.IsTuple b vs) (hu : A.units < cLine) (e1 : us.toList = f :: fr) (e2 : vs.toList = g :: gr)
    (he : EqAt A.in1 s f g false) (hr : RcLt A.in1 s f g r) : RcLt A s (.ref l) (.ref b) r := fun prog w E Q h => by
  obtain ⟨⟨c1, x1, y1, z1⟩, g1, k1, n1, d1⟩ := id hl
  obtain ⟨⟨c2, x2, y2, z2⟩, g2, k2, n2, d2⟩ := id hb
  simp only at k1 d1 k2 d2
  subst k1 d1 k2 d2
  exact richCompare_meets_room (op := .Lt) ⟨_, g1, rfl⟩ ⟨_, g2, rfl⟩ F.slot_tuple_lt F.entry_tuple_lt (F.args_tuple_lt_2 _ _) (tuple_lt0 l b us vs n1 n2 x1 x2 z1 z2 f g fr gr e1 e2 r)
    ⟨g1, g2, he, hr, show Value.bool r ≠ Value.notImplemented ∧ Q (.bool r) s from ⟨(fun x => nomatch x), h⟩⟩ hu
end
section
variable {prog : Program} {w : World} {A : Around} {s : Shared}
/-- v is a tuple of the heap: its first item reads as p's first one, its second one is a tuple whose first item reads as p's second one -/
def Hd2 (h : Heap) (v : Value) (p : PyData) : Prop := ∃ a o xs n f g fr ph dn dr as bs, v = .ref a ∧ h.get? a = some o ∧ o.cls = .type "tuple" ∧ o.data = .seq xs n ∧ xs.toList = f :: g :: fr ∧ Reads h f ph as ∧ Reads h g (.tuple (dn :: dr)) bs ∧
  (PyData.tuple (dn :: dr)).plain = true ∧ p = .tuple [ph, dn] ∧ ph.depth ≤ 60 ∧ (PyData.tuple (dn :: dr)).depth ≤ 60
theorem hd2_unique {h : Heap} {v : Value} {p p' : PyData} (ha : alike p p' = true) (r : Hd2 h v p) (r' : Hd2 h v p') : p = p' := by
  obtain ⟨a, o, xs, n, f, g, fr, ph, dn, dr, as, bs, rfl, h1, h2, h3, h4, h5, h6, h7, rfl, _⟩ := r
  obtain ⟨a', o', xs', n', f', g', fr', ph', dn', dr', as', bs', e, k1, k2, k3, k4, k5, k6, k7, rfl, _⟩ := r'
  cases e
  rw [h1] at k1
  cases k1
  rw [h3] at k3
  cases k3
  rw [h4] at k4
  cases k4
  have a0 : alikeAll [ph, dn] [ph', dn'] = true := by simpa [alike] using ha
  obtain ⟨a1, a2⟩ := alike_all_cons a0
  obtain ⟨a3, _⟩ := alike_all_cons a2
  have e1 := alike_unique _ _ _ _ _ a1 h5 k5
  cases h6 with
  | tuple g1 g2 g3 g4 =>
    cases k6 with
    | tuple q1 q2 q3 q4 =>
      rw [g1] at q1
      cases q1
      rw [g3] at q3
      cases q3
      generalize Array.toList _ = zs at g4 q4
      cases g4 with
      | cons r1 r2 =>
        cases q4 with
        | cons t1 t2 => rw [e1, alike_unique _ _ _ _ _ a3 r1 t1]
theorem hd2_some {h : Heap} {zs : List (Value × PyData)} (hr : ∀ z ∈ zs, Hd2 h z.1 z.2) (hal : ∀ z ∈ zs, ∀ y ∈ zs, alike z.2 y.2 = true) {v : Value} {p : PyData} (hz : (v, p) ∈ zs) : (hdKind h zs).keyOf v = some (keyToks p) := by
  have q : ∃ p, (v, p) ∈ zs := ⟨p, hz⟩
  have e : (hdKind h zs).keyOf v = some (keyToks q.choose) := by
    show (open Classical in if q : ∃ p, (v, p) ∈ zs then some (keyToks q.choose) else none) = _
    rw [dif_pos q]
  have h1 := q.choose_spec
  have u : q.choose = p := hd2_unique (hal _ h1 _ hz) (hr _ h1) (hr _ hz)
  exact e.trans (congrArg (fun p => some (keyToks p)) u)
theorem hd2_tups {h : Heap} : ∀ {zs : List (Value × PyData)}, (∀ z ∈ zs, Hd2 h z.1 z.2) → ∃ fs, KatTups h (zs.map Prod.fst) fs ∧ fs.length = zs.length ∧ ∀ f, f ∈ fs → ∃ z ∈ zs, ∃ ph dn as, z.2 = .tuple [ph, dn] ∧ Reads h f ph as
  | [], _ => ⟨[], KatTups.nil, rfl, fun f hf => absurd hf (by simp)⟩
  | z :: zs, hr => by
    obtain ⟨fs, h1, h2, h3⟩ := hd2_tups fun y hy => hr y (List.mem_cons_of_mem _ hy)
    obtain ⟨v, p⟩ := z
    obtain ⟨a, o, xs, n, f, g, fr, ph, dn, dr, as, bs, e, g1, g2, g3, g4, g5, g6, g7, g8, _⟩ := hr (v, p) List.mem_cons_self
    dsimp only at e
    subst e
    refine ⟨f :: fs, KatTups.cons g1 g2 g3 (by rw [← Array.getElem?_toList, g4]; rfl) h1, by rw [List.length_cons, List.length_cons, h2], fun g hg => ?_⟩
    rcases List.mem_cons.mp hg with rfl | hg
    · exact ⟨_, List.mem_cons_self, _, _, _, g8, g5⟩
    · obtain ⟨z, hz, ph', dn', as', r⟩ := h3 g hg
      exact ⟨z, List.mem_cons_of_mem _ hz, ph', dn', as', r⟩
open PySem.SeqAt in
theorem SortsAt.seconds {zs : List (Value × PyData)} (hr : ∀ z ∈ zs, Hd2 s.heap z.1 z.2) (hal : ∀ z ∈ zs, ∀ y ∈ zs, alike z.2 y.2 = true) (hu : A.units + 62 < cLine)
    (hf : ∀ z ∈ zs, ∀ y ∈ zs, z = y ∨ PyData.eqv z.2 y.2 = false) : SortsAt prog w A s (hdKind s.heap zs) (zs.map Prod.fst) := by
  refine ⟨fun v hv => ?_, ?_⟩
  · obtain ⟨⟨v, p⟩, hz, rfl⟩ := List.mem_map.mp hv
    exact ⟨_, hd2_some hr hal hz⟩
  · cases zs with
    | nil => exact ⟨PyProof.Rows.general', fun E x y a b Q ha _ _ => (by
        obtain ⟨p, hp, _⟩ := hd_inv ha
        exact absurd hp (by simp)), fun h2 => absurd h2 (by simp)⟩
    | cons z₀ zs₀ =>
      obtain ⟨a₀, o₀, xs₀, n₀, f₀, g₀, fr₀, ph₀, dn₀, dr₀, as₀, bs₀, _, _, _, _, _, _, _, _, eq₀, _⟩ := hr z₀ List.mem_cons_self
      have hty : ∀ z ∈ z₀ :: zs₀, ∀ ph dn, z.2 = .tuple [ph, dn] → dataType ph = dataType ph₀ := fun z hz ph dn e => by
        have q := hal z hz z₀ List.mem_cons_self
        rw [e, eq₀] at q
        exact dataType_alike (alike_all_cons (by simpa [alike] using q)).1
      refine ⟨PyProof.Rows.tuples' (dataType ph₀ != Value.type "tuple"), ?_, fun h2 E Q hq => ?_⟩
      · intro E x y a b Q ha hb hq
        obtain ⟨p, hp, rfl⟩ := hd_inv ha
        obtain ⟨q, hq', rfl⟩ := hd_inv hb
        have hpq := hal _ hp _ hq'
        have tp := hty _ hp
        have ff := hf _ hp _ hq'
        obtain ⟨a1, o1, xs, n1, f, g, fr, ph, dn, dr, as, bs, e1, g1, g2, g3, g4, g5, g6, g7, g8, g9, g10⟩ := hr _ hp
        obtain ⟨a2, o2, ys, n2, f', g', fr', ph', dn', dr', as', bs', e2, k1, k2, k3, k4, k5, k6, k7, k8, k9, k10⟩ := hr _ hq'
        dsimp only at e1 e2 g8 k8 tp hpq
        subst e1 e2
        refine kat_lt g1 g3 k1 k3 ?_
        have hq : Q (dataLt p q) s := hq
        rcases ff with e | e
        · cases e
          rw [g1] at k1
          cases k1
          rw [g3] at k3
          cases k3
          rw [decide_eq_false (Nat.lt_irrefl _)]
          refine kat_self _ 0 ?_
          rwa [show dataLt p p = false from lex_irrefl _] at hq
        · dsimp only at e
          subst g8 k8
          have al : alikeAll [ph, dn] [ph', dn'] = true := by simpa [alike] using hpq
          obtain ⟨al1, al2⟩ := alike_all_cons al
          obtain ⟨al3, _⟩ := alike_all_cons al2
          rw [dataLt_tuple, ← firstLt_toks _ _ al] at hq
          have hq : Q (firstLt (pairEq [ph, dn] [ph', dn']) (fun j => dataLt ([ph, dn].getD j .none) ([ph', dn'].getD j .none)) false [0, 1]) s := hq
          have e' : (PyData.eqv ph ph' && PyData.eqv dn dn') = false := by simpa [PyData.eqv, PyData.eqvAll] using e
          rw [g4, k4, List.zip_cons_cons, List.zip_cons_cons]
          refine kat_cons (eqAt_alike ph ph' A s _ _ _ _ g5 k5 al1 (by omega) prog w _ _ ?_)
          cases c : PyData.eqv ph ph' with
          | false =>
            rw [firstLt_no (show pairEq [ph, dn] [ph', dn'] 0 = false from c)] at hq
            refine kat_no (oneLt_alike (fun hb t => ?_) g5 k5 al1 (ne_none_of al1 c) (by omega) hq)
            rw [Bool.and_eq_true] at hb
            have hb := hb.1
            rw [← tp ph dn rfl] at hb
            exact dataType_tuple hb t
          | true =>
            have c2 : PyData.eqv dn dn' = false := by rw [c] at e'; simpa using e'
            rw [firstLt_yes (show pairEq [ph, dn] [ph', dn'] 0 = true from c), firstLt_no (show pairEq [ph, dn] [ph', dn'] 1 = false from c2)] at hq
            refine kat_yes (kat_cons (eqAt_plain _ _ A s _ _ _ _ g6 k6 g7 k7 (by omega) prog w _ _ ?_))
            have c3 : PyData.eqv (.tuple (dn :: dr)) (.tuple (dn' :: dr')) = false := by simp [PyData.eqv, PyData.eqvAll, c2]
            rw [c3]
            refine kat_no ?_
            rw [show (((dataType ph₀ != Value.type "tuple") && (0 + 1 == 0)) : Bool) = false by simp, oneLt'_eq]
            simp only [Bool.false_eq_true, if_false]
            cases g6 with
            | @tuple l1 u1 us m1 _ _ t1 t2 t3 t4 =>
              cases k6 with
              | @tuple l2 u2 vs m2 _ _ r1 r2 r3 r4 =>
                cases eu : us.toList with
                | nil => rw [eu] at t4; cases t4
                | cons f1 fr1 =>
                  cases ev : vs.toList with
                  | nil => rw [ev] at r4; cases r4
                  | cons f2 fr2 =>
                    rw [eu] at t4
                    rw [ev] at r4
                    cases t4 with
                    | cons t5 t6 =>
                      cases r4 with
                      | cons r5 r6 =>
                        have dd : dn.depth + 1 ≤ 60 := by
                          simp only [PyData.depth, PyData.depthAll] at g10
                          omega
                        have ru : A.in1.units + min dn.depth dn'.depth < cLine := by
                          show A.units + 1 + min dn.depth dn'.depth < cLine
                          omega
                        have he := eqAt_alike dn dn' A.in1 s _ _ _ _ t5 r5 al3 ru
                        rw [c2] at he
                        exact wpAny_bind (rcLt_first ⟨_, t1, t2, _, t3⟩ ⟨_, r1, r2, _, r3⟩ (by omega) eu ev he (rcLt_alike dn dn' A.in1 s _ _ _ _ t5 r5 al3 (ne_none_of al3 c2) ru) prog w _ _ (wpAny_truthy_bool hq))
      · obtain ⟨fs, t1, t2, t3⟩ := hd2_tups hr
        rw [List.length_map] at h2
        refine kat_kind (T := dataType ph₀) t1 (by omega) (fun f hf => ?_) (beq_self_eq_true _) hq
        obtain ⟨z, hz, ph, dn, as, e, r⟩ := t3 f hf
        rw [← hty z hz ph dn e]
        exact looks_reads r
end
end PB'

set_option Elab.async false
set_option linter.all false
set_option maxRecDepth 100000
set_option maxHeartbeats 4000000
/-! #### tuples are sorted, empty ones among them -/
namespace PB
open PySem PySem.W PyProof.Rows PySem.SeqAt
section
variable {prog : Program} {w : World} {A : Around} {E : Value → Shared → Prop} {s : Shared}
theorem call_tup_lt {Q : Value → Shared → Prop} {l b : Addr} {us vs : Array Value} {e r : Nat → Bool} (hl : s.heap.IsTuple l us) (hb : s.heap.IsTuple b vs)
    (he : ∀ j (h1 : j < us.size) (h2 : j < vs.size), EqAt A.in1 s us[j] vs[j] (e j)) (hr : ∀ j (h1 : j < us.size) (h2 : j < vs.size), e j = false → RcLt A.in1 s us[j] vs[j] (r j))
    (h : Q (.bool (firstLt e r (decide (us.size < vs.size)) (List.range (min us.size vs.size)))) s) : wpAny (model prog w) A (call (.builtin "tuple.__lt__") [.ref l, .ref b]) Q E s := by
  obtain ⟨⟨c1, x1, y1, z1⟩, g1, k1, n1, d1⟩ := id hl
  obtain ⟨⟨c2, x2, y2, z2⟩, g2, k2, n2, d2⟩ := id hb
  simp only at k1 d1 k2 d2
  subst k1 d1 k2 d2
  exact call_meets F.slot_tuple_lt ⟨_, g1, rfl⟩ F.entry_tuple_lt (F.args_tuple_lt_2 _ _) (tuple_ltAt l b us vs n1 n2 x1 x2 z1 z2 e r) ⟨g1, g2, he, hr, h⟩
/-- one tuple against another -/
theorem oneLt_tup {f : Bool} {xs : List PyData} {db : PyData} {a b : Value} {as bs : List Addr} {Q : Bool → Shared → Prop} (ra : Reads s.heap a (.tuple xs) as) (rb : Reads s.heap b db bs) (h : alike (.tuple xs) db = true)
    (hu : A.units + min (PyData.tuple xs).depth db.depth < cLine) (hq : Q (dataLt (.tuple xs) db) s) : wpAny (model prog w) A (oneLt' f a b) Q E s := by
  cases f with
  | false => exact oneLt_alike (fun z => by cases z) ra rb h (by simp) hu hq
  | true =>
    cases db with
    | tuple ys =>
      have hal : alikeAll xs ys = true := by simpa [alike] using h
      cases ra with
      | @tuple l o vs n _ as₁ h1 h2 h3 h4 =>
        cases rb with
        | @tuple l' o' vs' n' _ bs₁ k1 k2 k3 k4 =>
          have n1 : vs.size = xs.length := by simpa using ReadsAll.length _ _ _ h4
          have n2 : vs'.size = ys.length := by simpa using ReadsAll.length _ _ _ k4
          rw [dataLt_tuple, ← firstLt_toks xs ys hal, ← n1, ← n2] at hq
          rw [oneLt'_eq]
          simp only [if_true]
          refine wpAny_bind (wpAny_cRoomFor (room_here hu) ?_)
          refine wpAny_bind (wpAny_callSpecialIfBound?_slot (T := "tuple") ⟨_, h1, h2⟩ F.slot_tuple_lt (call_tup_lt (e := pairEq xs ys) (r := fun j => dataLt (xs.getD j .none) (ys.getD j .none)) ⟨_, h1, h2, _, h3⟩ ⟨_, k1, k2, _, k3⟩ (fun j j1 j2 => ?_) (fun j j1 j2 hj => ?_) ?_))
          · have := eqAt_alikeAll xs ys A.in1 s vs.toList vs'.toList _ _ h4 k4 hal (room_in hu) j (by simpa using j1) (by simpa using j2)
            simpa using this
          · have := rcLt_alikeAll xs ys A.in1 s vs.toList vs'.toList _ _ h4 k4 hal (room_in hu) j (by simpa using j1) (by simpa using j2) hj
            simpa using this
          · exact wpAny_truthy_bool hq
    | _ => exact absurd h (by simp [alike])
end
/-- tuples, with the first item of each -/
inductive TupsF (h : Heap) : List Value → List (Option Value) → Prop where
  | nil : TupsF h [] []
  | cons {a : Addr} {o : Obj} {xs : Array Value} {n : Nat} {vs : List Value} {fs : List (Option Value)} (ho : h.get? a = some o) (hc : o.cls = .type "tuple") (hd : o.data = .seq xs n) (t : TupsF h vs fs) : TupsF h (.ref a :: vs) (xs[0]? :: fs)
section
variable {M : Model} {A : Around} {E : Value → Shared → Prop} {s : Shared}
theorem TupsF.len {h : Heap} {vs : List Value} {fs : List (Option Value)} (t : TupsF h vs fs) : fs.length = vs.length := by
  induction t with
  | nil => rfl
  | cons _ _ _ _ ih => rw [List.length_cons, List.length_cons, ih]
theorem firsts_of : ∀ {vs : List Value} {fs : List (Option Value)} {Q : List (Option Value) → Shared → Prop}, TupsF s.heap vs fs → Q fs s → wpAny M A (vs.mapM firstOfTuple') Q E s
  | _, _, _, .nil, h => by rw [List.mapM_nil]; exact wpAny_pure h
  | _, _, Q, .cons (fs := fs) (xs := xs) ho hc hd t, h => by
    rw [List.mapM_cons]
    refine wpAny_bind ?_
    rw [kas_first_eq]
    refine wpAny_bind (Looks.here (show Looks M s.heap (typeOf (.ref _)) _ from (Looks.ld ho).andThen .now) ?_)
    rw [hc, if_neg (by first | decide | simp)]
    refine wpAny_bind (listItems_at ho hd (wpAny_pure ?_))
    exact wpAny_bind (firsts_of (Q := fun bs s' => wpAny M A (pure (xs[0]? :: bs)) Q E s') t (wpAny_pure h))
/-- the kind of the keys, if one at least is empty -/
theorem kind_mixed {vs : List Value} {fs : List (Option Value)} {Q : SortKind → Shared → Prop} (t : TupsF s.heap vs fs) (h2 : 0 < vs.length) (no : fs.all (fun x => x.isSome) = false)
    (h : Q (if (fs[0]?.bind id).isSome = true then general' else oneType') s) : wpAny M A (keyKind' vs.toArray) Q E s := by
  rw [kat_kind_eq, List.mapM_toArray, map_eq_pure_bind]
  refine wpAny_bind (wpAny_bind (firsts_of t (wpAny_pure ?_)))
  rw [if_neg (by rw [List.all_toArray, no]; simp)]
  by_cases c : (fs[0]?.bind id).isSome = true
  · rw [if_pos c] at h
    rw [if_pos (by simpa using c)]
    exact wpAny_pure h
  · rw [if_neg c] at h
    rw [if_neg (by simpa using c)]
    have tt : ∀ v ∈ vs, Looks M s.heap (typeOf v) (.type "tuple") := by
      clear h2 no h c
      induction t with
      | nil => intro v hv; cases hv
      | cons ho hc hd t ih =>
        intro v hv
        rcases List.mem_cons.mp hv with rfl | hv
        · exact hc ▸ (Looks.ld ho).andThen .now
        · exact ih v hv
    rw [oneTypeOnly'_eq, List.mapM_toArray, map_eq_pure_bind]
    obtain ⟨v₁, r, rfl⟩ : ∃ v₁ r, vs = v₁ :: r := by
      cases vs with
      | nil => exact absurd h2 (by simp)
      | cons v r => exact ⟨v, r, rfl⟩
    refine wpAny_bind (wpAny_bind (wpAny_bind (kas_mapM (r := Value.type "tuple") _ (fun v hv Q' hq => (tt v hv).here hq) (wpAny_pure ?_))))
    have h0 : (List.map (fun _ => Value.type "tuple") (v₁ :: r)).toArray[0]? = some (Value.type "tuple") := by simp
    have hall : ((List.map (fun _ => Value.type "tuple") (v₁ :: r)).toArray.all fun x => x == Value.type "tuple") = true := by simp
    rw [h0]
    simp only [hall, if_true]
    exact wpAny_pure (wpAny_pure h)
end
section
variable {prog : Program} {w : World} {A : Around} {E : Value → Shared → Prop} {s : Shared}
theorem tupsF_of : ∀ {vs : List Value} {ds : List PyData}, EachIs (fun v d => ∃ as, Reads s.heap v d as) vs ds → (∀ d, d ∈ ds → ∃ xs, d = .tuple xs) → ∃ fs, TupsF s.heap vs fs ∧ (fs.all (fun x => x.isSome) = true → ∀ d, d ∈ ds → ∃ x r, d = .tuple (x :: r))
  | _, _, .nil, _ => ⟨[], .nil, fun _ d hd => by cases hd⟩
  | _, _, .cons (b := d) ⟨as, r⟩ t, ht => by
    obtain ⟨fs, h1, h2⟩ := tupsF_of t fun d hd => ht d (List.mem_cons_of_mem _ hd)
    obtain ⟨ys, rfl⟩ := ht d (List.mem_cons_self ..)
    cases r with
    | @tuple a o xs n _ _ ho hc hd hr =>
      refine ⟨xs[0]? :: fs, .cons ho hc hd h1, fun al d hd => ?_⟩
      rw [List.all_cons, Bool.and_eq_true] at al
      rcases List.mem_cons.mp hd with rfl | hd
      · cases q : xs.toList with
        | nil =>
          have : xs = #[] := by rw [← Array.toArray_toList (xs := xs), q]
          rw [this] at al
          exact absurd al.1 (by simp)
        | cons f fr =>
          rw [q] at hr
          cases hr with
          | cons r1 r2 => exact ⟨_, _, rfl⟩
      · exact h2 al.2 d hd
theorem SortsAt.tups {vs : List Value} {ds : List PyData} (e : EachIs (fun v d => ∃ as, Reads s.heap v d as) vs ds) (hal : AllAlike ds) (hk : ∀ d, d ∈ ds → ∃ xs, d = .tuple xs) (hu : ∀ d, d ∈ ds → A.units + d.depth < cLine) : SortsAt prog w A s (dataKind s.heap ds) vs := by
  obtain ⟨fs, tf, al⟩ := tupsF_of e hk
  by_cases c : fs.all (fun x => x.isSome) = true
  · exact SortsAt.data e hal (.inl (al c)) hu
  · have no : fs.all (fun x => x.isSome) = false := by simpa using c
    have room : ∀ {d d' : PyData}, d ∈ ds → A.units + min d.depth d'.depth < cLine := fun {d d'} hd => Nat.lt_of_le_of_lt (Nat.add_le_add_left (Nat.min_le_left _ _) _) (hu d hd)
    refine ⟨fun v hv => ?_, if (fs[0]?.bind id).isSome = true then general' else oneType', ?_, fun h2 E Q hq => kind_mixed tf (by omega) no hq⟩
    · obtain ⟨d, hd, as, r⟩ := e.left v hv
      exact ⟨_, dataKind_some hal hd r⟩
    · intro E x y a b Q ha hb hq
      obtain ⟨d, as, hd, ra, rfl⟩ := dataKind_inv ha
      obtain ⟨d', as', hd', rb, rfl⟩ := dataKind_inv hb
      obtain ⟨xs, rfl⟩ := hk d hd
      have key : ∀ f, wpAny (model prog w) A (oneLt' f x y) Q E s := fun f => oneLt_tup ra rb (hal _ hd d' hd') (room hd) hq
      by_cases z : (fs[0]?.bind id).isSome = true
      · rw [if_pos z]; exact key false
      · rw [if_neg z]; exact key true
theorem list_sort_tups {α : Type} {enc : α → PyData} {R : Value → α → Prop} {vs : List Value} {bs : List α} {a : Addr} {n : Nat} {Q : Value → Shared → Prop} (ho : s.heap.get? a = some (seqObj "list" vs.toArray n)) (e : EachIs R vs bs) (er : EachIs (fun v b => ∃ as, Reads s.heap v (enc b) as ∧ a ∉ as) vs bs) (hal : AllAlike (bs.map enc)) (hk : ∀ b ∈ bs, ∃ xs, enc b = .tuple xs) (hL : bs.length ≤ sizeLine)
    (hu : ∀ b, b ∈ bs → A.units + 1 + (enc b).depth < cLine) (h : ∀ out, out.length = bs.length → EachIs R out (bs.mergeSort (dataLe false enc)) → Q .none { s with heap := sortedHeap s.heap a vs (List.toArray out) }) :
    wpAny (model prog w) A (call (.builtin "list.sort") [.ref a]) Q E s := by
  have er' : EachIs (fun v b => ∃ as, Reads (sortingHeap s.heap a vs) v (enc b) as) vs bs := each_keepBut (h' := sortingHeap s.heap a vs) (fun _ _ hb q => sortingHeap_old hb q) (fun o q => by rw [ho] at q; rw [← Option.some.inj q]) hal er
  refine wpAny_call_entry slot_list_sort ⟨_, ho, rfl⟩ entry_list_sort (list_sort_vals (κ := dataKind (sortingHeap s.heap a vs) (bs.map enc)) ho (SortsAt.tups (s := { s with heap := sortingHeap s.heap a vs }) (each_map (R := fun v d => ∃ as, Reads (sortingHeap s.heap a vs) v d as) enc er') hal (fun d hd => ?_) (bound_map hu)) (by rw [e.length]; exact hL) ⟨.none, rfl, ?_⟩) (args_list_sort _)
  · obtain ⟨b, hb, rfl⟩ := List.mem_map.mp hd
    exact hk b hb
  · exact h _ (by rw [sortVals_length false rfl]; exact e.length) (sortVals_data false e er' hal)
end
end PB

set_option Elab.async false
set_option linter.all false
set_option maxRecDepth 100000
set_option maxHeartbeats 4000000
set_option backward.match.sparseCases false
/-! Builtins, places, slices, methods. -/
namespace PB
open PySem PySem.Spec PyProof.Rows L2
section
variable {X : Cx} {K : KF} {av : List Addr} {H : Hp}

theorem S2_ofString (s : String) : (Str.ofString s) = toS (S2 s) := by
  unfold Str.ofString toS S2
  rw [cpsOfBytes_string]
theorem okS_S2 {s : String} (h : (S2 s).length ≤ lim) : okS (S2 s) := by
  refine ⟨h, fun c hc => ?_⟩
  unfold S2 at hc
  obtain ⟨ch, _, rfl⟩ := List.mem_map.mp hc
  have := ch.valid
  show ch.val.toNat < 1114112
  rcases this with h1 | ⟨_, h1⟩ <;> omega

/-! #### builtins of one argument -/
inductive Bi where
  | fn (id : String)
  | ty (id : String)
def pyP1 : P1 → String
  | .len => "len" | .all => "all" | .any => "any" | .tuple => "tuple" | .list => "list" | .str => "str" | .int => "int" | .sorted => "sorted"
def p1Ty : P1 → Bool
  | .len => false | .all => false | .any => false | .tuple => true | .list => true | .str => true | .int => true | .sorted => false
def valP1 (p : P1) : Value := if p1Ty p then .type (pyP1 p) else .builtin (pyP1 p)
/-! #### sorted -/
theorem vals_each : ∀ {out : List Value} {zs : List (Dt × V)}, PySem.W.EachIs (fun v z => RelV z.2 v) out zs → Vals (zs.map Prod.snd) out
  | _, _, .nil => .nil
  | _, _, .cons h t => .cons h (vals_each t)
theorem each_vals : ∀ {zs : List (Dt × V)} {out : List Value}, Vals (zs.map Prod.snd) out → PySem.W.EachIs (fun v z => RelV z.2 v) out zs
  | [], _, h => by cases h; exact .nil
  | z :: zs, _, h => by
    cases h with
    | cons a b => exact .cons a (each_vals b)
theorem each_and {α β : Type} {R S : α → β → Prop} : ∀ {as : List α} {bs : List β}, PySem.W.EachIs R as bs → (∀ a, ∀ b ∈ bs, R a b → S a b) → PySem.W.EachIs S as bs
  | _, _, .nil, _ => .nil
  | _, _, .cons h t, f => .cons (f _ _ List.mem_cons_self h) (each_and t fun a b hb => f a b (List.mem_cons_of_mem _ hb))
theorem le_toPy : (PySem.W.dataLe false fun z : Dt × V => toPy z.1) = fun a b => !ltB b.1 a.1 := by
  funext a b
  show (!PyProof.Rows.lexLt itemOrd (PySem.W.keyToks (toPy b.1)) (PySem.W.keyToks (toPy a.1))) = _
  rw [key_toPy, key_toPy, row_eq]
  rfl
def rSorted (K : KF) : List V → Hp → VK → Prop := fun vs H Q => ∃ (a : Addr) (zs : List (Dt × V)), vs = [V.ref a] ∧ SqL K H a (zs.map Prod.snd) ∧ (∀ z ∈ zs, Dp K H z.2 (toPy z.1)) ∧ sortableD (zs.map Prod.fst) = true ∧
  ∀ p, H p = none → Q (.ref p) (upd H p (.lst ((zs.mergeSort fun a b => !ltB b.1 a.1).map Prod.snd)))
theorem dep_mem : ∀ {xs : List Dt} {x : Dt}, x ∈ xs → depD x ≤ depDs xs
  | y :: xs, x, h => by
    simp only [depDs]
    rcases List.mem_cons.mp h with rfl | h
    · omega
    · have := dep_mem h; omega
theorem call_sorted (hu : X.A.units + 65 < cLine) : CallR X (.builtin "sorted") (rSorted X.KF) := by
  intro pins s σ H vs us Q I r h
  obtain ⟨a, zs, rfl, hs, hd, ok, q⟩ := h
  obtain ⟨its, rv, hl, hz⟩ := I.list hs
  obtain ⟨u, rfl, ru⟩ := vals1 r
  obtain rfl : u = Value.ref a := ru
  have e1 := each_vals rv
  unfold sortableD at ok
  simp only [Bool.and_eq_true, List.all_eq_true, decide_eq_true_eq, Bool.or_eq_true] at ok
  obtain ⟨⟨o1, o2⟩, o3⟩ := ok
  have er : PySem.W.EachIs (fun v z => ∃ as, Reads s.heap v (toPy z.1) as) its zs := each_and e1 fun v z hz hr => Dp.reads I _ _ _ (hd z hz) hr
  refine PySem.W.sorted_data (R := fun v z => RelV z.2 v) (enc := fun z : Dt × V => toPy z.1) hl.isList e1 er ?_ ?_ (by rw [List.length_map] at hz; exact hz) ?_ fun out hlen ho => ?_
  · intro d hd d' hd'
    obtain ⟨z, hz, rfl⟩ := List.mem_map.mp hd
    obtain ⟨z', hz', rfl⟩ := List.mem_map.mp hd'
    exact alike_toPy _ _ (o1 _ (List.mem_map_of_mem hz) _ (List.mem_map_of_mem hz'))
  · rcases o2 with o2 | o2
    · left
      intro d hd
      obtain ⟨z, hz, rfl⟩ := List.mem_map.mp hd
      have := o2 _ (List.mem_map_of_mem hz)
      split at this
      · rename_i x r e
        exact ⟨toPy x, toPy.toPys r, by rw [e, toPy, toPy.toPys]⟩
      · cases this
    · right
      intro d hd
      obtain ⟨z, hz, rfl⟩ := List.mem_map.mp hd
      have := o2 _ (List.mem_map_of_mem hz)
      cases e : z.1 <;> rw [e] at this <;> first | (cases this; done) | (refine ⟨?_, ?_⟩ <;> simp [toPy])
  · intro z hz
    have := dep_mem (List.mem_map_of_mem (f := Prod.fst) hz)
    rw [dep_toPy]
    omega
  · rw [le_toPy] at ho
    obtain ⟨n, hn⟩ := sortedAll_at s.heap its out.toArray
    refine ⟨.ref (s.heap.objs.size + 1), upd H (s.heap.objs.size + 1) (.lst ((zs.mergeSort fun a b => !ltB b.1 a.1).map Prod.snd)), I.laid (t' := s.toks) (fun b o e => sortedAll_old e) (Nat.le_succ _) ⟨?_, out, n, vals_each ho, hn⟩, rfl, q _ (I.hok.fresh (Nat.le_succ _))⟩
    rw [List.length_map, List.length_mergeSort]
    rw [List.length_map] at hz
    exact hz
theorem each_zip {α β : Type} {R : α → β → Prop} : ∀ {as : List α} {bs : List β}, PySem.W.EachIs R as bs → PySem.W.EachIs (fun a b => R a b ∧ (a, b) ∈ as.zip bs) as bs
  | _, _, .nil => .nil
  | _, _, .cons h t => .cons ⟨h, List.mem_cons_self⟩ (each_and (each_zip t) fun a b _ q => ⟨q.1, List.mem_cons_of_mem _ q.2⟩)
theorem far_mem {α : Type} {f : α → Dt} : ∀ {l : List α}, farD (l.map f) = true → ∀ z ∈ l, ∀ y ∈ l, z = y ∨ eqD (headD (f z)) (headD (f y)) = false
  | [], _, z, hz, _, _ => by cases hz
  | x :: l, h, z, hz, y, hy => by
    rw [List.map_cons, farD] at h
    simp only [Bool.and_eq_true, List.all_eq_true, Bool.not_eq_true'] at h
    rcases List.mem_cons.mp hz with e1 | h1
    · rcases List.mem_cons.mp hy with e2 | h2
      · exact .inl (e1.trans e2.symm)
      · exact .inr (by rw [e1]; exact (h.1 _ (List.mem_map_of_mem h2)).1)
    · rcases List.mem_cons.mp hy with e2 | h2
      · exact .inr (by rw [e2]; exact (h.1 _ (List.mem_map_of_mem h1)).2)
      · exact far_mem h.2 z h1 y h2
theorem head_dep {d : Dt} (h : isConsD d = true) : depD (headD d) ≤ depD d := by
  cases d with
  | tup xs =>
    cases xs with
    | nil => cases h
    | cons p r => simp only [headD, depD, depDs]; omega
  | _ => cases h
theorem zip_fst2 {α β : Type} : ∀ {as : List α} {bs : List β}, as.length = bs.length → (as.zip bs).map Prod.fst = as
  | [], [], _ => rfl
  | a :: as, b :: bs, h => by rw [List.zip_cons_cons, List.map_cons, zip_fst2 (by simpa using h)]
  | [], _ :: _, h => by cases h
  | _ :: _, [], h => by cases h
theorem zip_snd2 {α β : Type} : ∀ {as : List α} {bs : List β}, as.length = bs.length → (as.zip bs).map Prod.snd = bs
  | [], [], _ => rfl
  | a :: as, b :: bs, h => by rw [List.zip_cons_cons, List.map_cons, zip_snd2 (by simpa using h)]
  | [], _ :: _, h => by cases h
  | _ :: _, [], h => by cases h
theorem leF_toPy : (PySem.W.sortLe (PyProof.Rows.listOrd itemOrd) false fun z : Dt × V => PySem.W.keyToks (toPy (headD z.1))) = fun a b => !ltB (headD b.1) (headD a.1) := by
  funext a b
  show (!PyProof.Rows.lexLt itemOrd (PySem.W.keyToks (toPy (headD b.1))) (PySem.W.keyToks (toPy (headD a.1)))) = _
  rw [key_toPy, key_toPy, row_eq]
  rfl
def rSortedF (K : KF) : List V → Hp → VK → Prop := fun vs H Q => ∃ (a : Addr) (zs : List (Dt × V)), vs = [V.ref a] ∧ SqL K H a (zs.map Prod.snd) ∧ (∀ z ∈ zs, Dp K H z.2 (toPy z.1)) ∧ sortableF (zs.map Prod.fst) = true ∧
  ∀ p, H p = none → Q (.ref p) (upd H p (.lst ((zs.mergeSort fun a b => !ltB (headD b.1) (headD a.1)).map Prod.snd)))
theorem call_sortedF (hu : X.A.units + 65 < cLine) : CallR X (.builtin "sorted") (rSortedF X.KF) := by
  intro pins s σ H vs us Q I r h
  obtain ⟨a, zs, rfl, hs, hd, ok, q⟩ := h
  obtain ⟨its, rv, hl, hz⟩ := I.list hs
  obtain ⟨u, rfl, ru⟩ := vals1 r
  obtain rfl : u = Value.ref a := ru
  have e1 := each_vals rv
  unfold sortableF at ok
  simp only [Bool.and_eq_true, List.all_eq_true, decide_eq_true_eq] at ok
  obtain ⟨⟨⟨o1, o2⟩, o3⟩, o4⟩ := ok
  have len : its.length = zs.length := by rw [← rv.length, List.length_map]
  let g : Value × (Dt × V) → Value × PyData := fun z => (z.1, toPy (headD z.2.1))
  have hmem : ∀ z ∈ its.zip zs, z.2 ∈ zs := fun z hz => (List.of_mem_zip hz).2
  have er : PySem.W.EachIs (fun v z => (∃ as, Reads s.heap v (toPy z.1) as)) its zs := each_and e1 fun v z hz hr => Dp.reads I _ _ _ (hd z hz) hr
  have er2 : ∀ z ∈ its.zip zs, ∃ as, Reads s.heap z.1 (toPy z.2.1) as := by
    have : ∀ {as : List Value} {bs : List (Dt × V)}, PySem.W.EachIs (fun v z => (∃ as, Reads s.heap v (toPy z.1) as)) as bs → ∀ z ∈ as.zip bs, ∃ as, Reads s.heap z.1 (toPy z.2.1) as := by
      intro as bs e
      induction e with
      | nil => intro z hz; cases hz
      | cons h t ih =>
        intro z hz
        rw [List.zip_cons_cons] at hz
        rcases List.mem_cons.mp hz with rfl | hz
        · exact h
        · exact ih z hz
    exact this er
  have hh : ∀ z ∈ (its.zip zs).map g, PB'.Hd (PySem.W.sortingHeap (PySem.W.copyHeap s.heap its) (s.heap.objs.size + 1) its) z.1 z.2 := by
    intro z hz
    obtain ⟨y, hy, rfl⟩ := List.mem_map.mp hz
    obtain ⟨as, r⟩ := er2 y hy
    have ty := o1 _ (List.mem_map_of_mem (hmem y hy))
    obtain ⟨v, d, V⟩ := y
    dsimp only at r ty ⊢
    cases d with
    | tup xs =>
      cases xs with
      | nil => cases ty
      | cons p rr =>
        simp only [toPy, toPy.toPys] at r
        cases r with
        | @tuple a o xs n _ _ h1 h2 h3 h4 =>
          cases e : xs.toList with
          | nil => rw [e] at h4; cases h4
          | cons f fr =>
            rw [e] at h4
            cases h4 with
            | cons r1 r2 => exact ⟨a, o, xs, n, f, fr, _, rfl, PySem.W.sorting_copy_old h1, h2, h3, e, PyProof.Rows.Reads.keeps (fun _ _ => PySem.W.sorting_copy_old) r1⟩
    | _ => cases ty
  have hal : ∀ z ∈ (its.zip zs).map g, ∀ y ∈ (its.zip zs).map g, PySem.W.alike z.2 y.2 = true := by
    intro z hz y hy
    obtain ⟨z', hz', rfl⟩ := List.mem_map.mp hz
    obtain ⟨y', hy', rfl⟩ := List.mem_map.mp hy
    exact alike_toPy _ _ (o2 _ (List.mem_map_of_mem (hmem _ hz')) _ (List.mem_map_of_mem (hmem _ hy')))
  have hfar : ∀ z ∈ (its.zip zs).map g, ∀ y ∈ (its.zip zs).map g, z = y ∨ PyData.eqv z.2 y.2 = false := by
    intro z hz y hy
    obtain ⟨z', hz', rfl⟩ := List.mem_map.mp hz
    obtain ⟨y', hy', rfl⟩ := List.mem_map.mp hy
    have o3' : farD ((its.zip zs).map fun z => z.2.1) = true := by
      rw [show ((its.zip zs).map fun z => z.2.1) = zs.map Prod.fst by rw [← zip_snd2 len, List.map_map]; rw [zip_snd2 len]; rfl]
      exact o3
    rcases far_mem o3' z' hz' y' hy' with e | e
    · exact .inl (by rw [e])
    · exact .inr (by rw [eqv_toPy]; exact e)
  have hdep : ∀ z ∈ (its.zip zs).map g, X.A.in1.in1.units + z.2.depth < cLine := by
    intro z hz
    obtain ⟨y, hy, rfl⟩ := List.mem_map.mp hz
    have t := List.mem_map_of_mem (f := Prod.fst) (hmem y hy)
    have a1 := head_dep (o1 _ t)
    have a2 := dep_mem t
    show X.A.units + 1 + 1 + (toPy (headD y.2.1)).depth < cLine
    rw [dep_toPy]
    omega
  have S := PB'.SortsAt.heads (prog := X.prog) (w := X.w) (A := X.A.in1.in1) (s := { s with heap := PySem.W.sortingHeap (PySem.W.copyHeap s.heap its) (s.heap.objs.size + 1) its }) hh hal hdep hfar
  have hfst : ((its.zip zs).map g).map Prod.fst = its := by
    rw [List.map_map]
    exact zip_fst2 len
  rw [hfst] at S
  have ek : PySem.W.EachIs (fun v z => (PB'.hdKind (PySem.W.sortingHeap (PySem.W.copyHeap s.heap its) (s.heap.objs.size + 1) its) ((its.zip zs).map g)).keyOf v = some (PySem.W.keyToks (toPy (headD z.1)))) its zs :=
    each_and (each_zip e1) fun v z _ h => PB'.hd_some hh hal (List.mem_map.mpr ⟨(v, z), h.2, rfl⟩)
  have ho := PySem.W.sortVals_each (κ := PB'.hdKind (PySem.W.sortingHeap (PySem.W.copyHeap s.heap its) (s.heap.objs.size + 1) its) ((its.zip zs).map g)) (rev := false) (fun z : Dt × V => PySem.W.keyToks (toPy (headD z.1))) e1 ek
  have ho : PySem.W.EachIs (fun v z => RelV z.2 v) (PySem.W.sortVals (PB'.hdKind (PySem.W.sortingHeap (PySem.W.copyHeap s.heap its) (s.heap.objs.size + 1) its) ((its.zip zs).map g)) false its its) (zs.mergeSort fun a b => !ltB (headD b.1) (headD a.1)) := by
    rw [← leF_toPy]
    exact ho
  refine PySem.W.sorted_vals hl.isList S (by rw [len]; rw [List.length_map] at hz; exact hz) ?_
  obtain ⟨n, hn⟩ := sortedAll_at s.heap its (PySem.W.sortVals (PB'.hdKind (PySem.W.sortingHeap (PySem.W.copyHeap s.heap its) (s.heap.objs.size + 1) its) ((its.zip zs).map g)) false its its).toArray
  refine ⟨.ref (s.heap.objs.size + 1), upd H (s.heap.objs.size + 1) (.lst ((zs.mergeSort fun a b => !ltB (headD b.1) (headD a.1)).map Prod.snd)), I.laid (t' := s.toks) (fun b o e => sortedAll_old e) (Nat.le_succ _) ⟨?_, _, n, vals_each ho, hn⟩, rfl, q _ (I.hok.fresh (Nat.le_succ _))⟩
  rw [List.length_map, List.length_mergeSort]
  rw [List.length_map] at hz
  exact hz
/-- of a tuple -/
theorem sorted_tupV {A : Around} {E : Value → Shared → Prop} {prog : Program} {w : World} {s : Shared} {l : Addr} {vs : List Value} {Q : Value → Shared → Prop} (hl : s.heap.IsTuple l vs.toArray) (few : vs.length ≤ sizeLine)
    (h : ∀ h' : Heap, (∀ b o, s.heap.get? b = some o → h'.get? b = some o) → wpAny (model prog w) A.in1 (call (.builtin "list.sort") [.ref h'.objs.size]) (fun _ z => Q (.ref h'.objs.size) z) E { s with heap := h'.push { cls := .type "list", data := .seq vs.toArray } }) :
    wpAny (model prog w) A (call (.builtin "sorted") [.ref l]) Q E s := by
  obtain ⟨o, g1, g2, n, g3⟩ := hl
  refine Calls.call_function_entry PyProof.Rows.kind_sorted PyProof.Rows.plain_sorted PyProof.Rows.entry_sorted (PyProof.Rows.args_sorted1 _) ?_
  unfold Builtin.«sorted»
  refine wpAny_bind (m := checkCount "sorted" 1 1 _) (wpAny_pure ?_)
  refine wpAny_bind (wpAny_collect_seq (A := A.in1) l (.inr rfl) g1 g2 g3 (fun h' kp => ?_) (by rw [List.size_toArray]; exact few))
  refine wpAny_bind (wpAny_newList ?_ few)
  exact wpAny_bind (wpAny_holding (wpAny_mono (h h' kp) (fun _ z x => wpAny_pure ⟨_, rfl, x⟩) fun _ _ e => e))
def rSortedT (K : KF) : List V → Hp → VK → Prop := fun vs H Q => ∃ (a : Addr) (zs : List (Dt × V)), vs = [V.ref a] ∧ SqT K H a (zs.map Prod.snd) ∧ (∀ z ∈ zs, Dp K H z.2 (toPy z.1)) ∧ sortableD (zs.map Prod.fst) = true ∧
  ∀ p, H p = none → Q (.ref p) (upd H p (.lst ((zs.mergeSort fun a b => !ltB b.1 a.1).map Prod.snd)))
def rSortedFT (K : KF) : List V → Hp → VK → Prop := fun vs H Q => ∃ (a : Addr) (zs : List (Dt × V)), vs = [V.ref a] ∧ SqT K H a (zs.map Prod.snd) ∧ (∀ z ∈ zs, Dp K H z.2 (toPy z.1)) ∧ sortableF (zs.map Prod.fst) = true ∧
  ∀ p, H p = none → Q (.ref p) (upd H p (.lst ((zs.mergeSort fun a b => !ltB (headD b.1) (headD a.1)).map Prod.snd)))
theorem call_sortedT (hu : X.A.units + 65 < cLine) : CallR X (.builtin "sorted") (rSortedT X.KF) := by
  intro pins s σ H vs us Q I r h
  obtain ⟨a, zs, rfl, hs, hd, ok, q⟩ := h
  obtain ⟨its, rv, tu, hz⟩ := I.tuple hs
  obtain ⟨u, rfl, ru⟩ := vals1 r
  obtain rfl : u = Value.ref a := ru
  have e1 := each_vals rv
  unfold sortableD at ok
  simp only [Bool.and_eq_true, List.all_eq_true, decide_eq_true_eq, Bool.or_eq_true] at ok
  obtain ⟨⟨o1, o2⟩, o3⟩ := ok
  have lz : zs.length ≤ sizeLine := by rw [List.length_map] at hz; exact hz
  have len : its.length = zs.length := by rw [← rv.length, List.length_map]
  refine sorted_tupV (show s.heap.IsTuple a its.toArray from tu) (by rw [len]; exact lz) fun h' kp => ?_
  have J : Inv X pins σ H { s with heap := h' } := I.kept (t' := s.toks) kp
  have er : PySem.W.EachIs (fun v z => ∃ as, Reads (h'.push { cls := .type "list", data := .seq its.toArray }) v (toPy z.1) as ∧ h'.objs.size ∉ as) its zs := each_and e1 fun v z hz hr => by
    obtain ⟨as, rd⟩ := Dp.reads J _ _ _ (hd z hz) hr
    exact ⟨as, PyProof.Rows.Reads.keeps (fun b o e => Heap.get?_push_of_some _ e) rd, fun m => by
      obtain ⟨o, e⟩ := PyProof.On.reads_mem_get rd _ m
      exact Nat.lt_irrefl _ (Heap.lt_size e)⟩
  have at_ : (h'.push { cls := .type "list", data := .seq its.toArray }).get? h'.objs.size = some (PyProof.Rows.seqObj "list" its.toArray 0) := Heap.get?_push_size _ rfl
  refine PySem.W.list_sort_data (enc := fun z : Dt × V => toPy z.1) (R := fun v z => RelV z.2 v) at_ e1 er (fun d hd d' hd' => ?_) ?_ lz (fun z hz => ?_) fun out lo eo => ?_
  · obtain ⟨z, hz, rfl⟩ := List.mem_map.mp hd
    obtain ⟨z', hz', rfl⟩ := List.mem_map.mp hd'
    exact alike_toPy _ _ (o1 _ (List.mem_map_of_mem hz) _ (List.mem_map_of_mem hz'))
  · rcases o2 with o2 | o2
    · left
      intro d hd
      obtain ⟨z, hz, rfl⟩ := List.mem_map.mp hd
      have := o2 _ (List.mem_map_of_mem hz)
      split at this
      · rename_i x r e
        exact ⟨toPy x, toPy.toPys r, by rw [e, toPy, toPy.toPys]⟩
      · cases this
    · right
      intro d hd
      obtain ⟨z, hz, rfl⟩ := List.mem_map.mp hd
      have := o2 _ (List.mem_map_of_mem hz)
      cases e : z.1 <;> rw [e] at this <;> first | (cases this; done) | (refine ⟨?_, ?_⟩ <;> simp [toPy])
  · have := dep_mem (List.mem_map_of_mem (f := Prod.fst) hz)
    show X.A.units + 1 + 1 + (toPy z.1).depth < cLine
    rw [dep_toPy]
    omega
  · rw [le_toPy] at eo
    obtain ⟨n, hn⟩ := PyProof.Rows.sortedHeap_at (vs := its) (out := out.toArray) at_
    refine ⟨.ref h'.objs.size, _, J.laid (t' := s.toks) (o := .lst ((zs.mergeSort fun a b => !ltB b.1 a.1).map Prod.snd)) (fun b o e => ?_) (Nat.le_refl _) (show ObjOk _ _ _ _ _ (.lst _) from ⟨?_, out, n, vals_each eo, hn⟩), rfl, q _ (J.hok.fresh (Nat.le_refl _))⟩
    · have lt : b < h'.objs.size := Heap.lt_size e
      rw [PyProof.Rows.sortedHeap_old (Nat.ne_of_lt lt) (by rw [Heap.size_push]; exact Nat.lt_succ_of_lt lt)]
      exact Heap.get?_push_of_some _ e
    · rw [List.length_map, List.length_mergeSort]
      exact lz
theorem call_sortedFT (hu : X.A.units + 65 < cLine) : CallR X (.builtin "sorted") (rSortedFT X.KF) := by
  intro pins s σ H vs us Q I r h
  obtain ⟨a, zs, rfl, hs, hd, ok, q⟩ := h
  obtain ⟨its, rv, tu, hz⟩ := I.tuple hs
  obtain ⟨u, rfl, ru⟩ := vals1 r
  obtain rfl : u = Value.ref a := ru
  have e1 := each_vals rv
  unfold sortableF at ok
  simp only [Bool.and_eq_true, List.all_eq_true, decide_eq_true_eq] at ok
  obtain ⟨⟨⟨o1, o2⟩, o3⟩, o4⟩ := ok
  have len : its.length = zs.length := by rw [← rv.length, List.length_map]
  have lz : zs.length ≤ sizeLine := by rw [List.length_map] at hz; exact hz
  refine sorted_tupV (show s.heap.IsTuple a its.toArray from tu) (by rw [len]; exact lz) fun h' kp => ?_
  have J : Inv X pins σ H { s with heap := h' } := I.kept (t' := s.toks) kp
  have at_ : (h'.push { cls := .type "list", data := .seq its.toArray }).get? h'.objs.size = some (PyProof.Rows.seqObj "list" its.toArray 0) := Heap.get?_push_size _ rfl
  have old : ∀ {b : Addr} {o : Obj}, h'.get? b = some o → (PySem.W.sortingHeap (h'.push { cls := .type "list", data := .seq its.toArray }) h'.objs.size its).get? b = some o := fun e =>
    PySem.W.sortingHeap_old (Nat.ne_of_lt (Heap.lt_size e)) (Heap.get?_push_of_some _ e)
  let g : Value × (Dt × V) → Value × PyData := fun z => (z.1, toPy (headD z.2.1))
  have hmem : ∀ z ∈ its.zip zs, z.2 ∈ zs := fun z hz => (List.of_mem_zip hz).2
  have er : PySem.W.EachIs (fun v z => (∃ as, Reads h' v (toPy z.1) as)) its zs := each_and e1 fun v z hz hr => Dp.reads J _ _ _ (hd z hz) hr
  have er2 : ∀ z ∈ its.zip zs, ∃ as, Reads h' z.1 (toPy z.2.1) as := by
    have : ∀ {as : List Value} {bs : List (Dt × V)}, PySem.W.EachIs (fun v z => (∃ as, Reads h' v (toPy z.1) as)) as bs → ∀ z ∈ as.zip bs, ∃ as, Reads h' z.1 (toPy z.2.1) as := by
      intro as bs e
      induction e with
      | nil => intro z hz; cases hz
      | cons h t ih =>
        intro z hz
        rw [List.zip_cons_cons] at hz
        rcases List.mem_cons.mp hz with rfl | hz
        · exact h
        · exact ih z hz
    exact this er
  have hh : ∀ z ∈ (its.zip zs).map g, PB'.Hd (PySem.W.sortingHeap (h'.push { cls := .type "list", data := .seq its.toArray }) h'.objs.size its) z.1 z.2 := by
    intro z hz
    obtain ⟨y, hy, rfl⟩ := List.mem_map.mp hz
    obtain ⟨as, r⟩ := er2 y hy
    have ty := o1 _ (List.mem_map_of_mem (hmem y hy))
    obtain ⟨v, d, V⟩ := y
    dsimp only at r ty ⊢
    cases d with
    | tup xs =>
      cases xs with
      | nil => cases ty
      | cons p rr =>
        simp only [toPy, toPy.toPys] at r
        cases r with
        | @tuple a o xs n _ _ h1 h2 h3 h4 =>
          cases e : xs.toList with
          | nil => rw [e] at h4; cases h4
          | cons f fr =>
            rw [e] at h4
            cases h4 with
            | cons r1 r2 => exact ⟨a, o, xs, n, f, fr, _, rfl, old h1, h2, h3, e, PyProof.Rows.Reads.keeps (fun _ _ => old) r1⟩
    | _ => cases ty
  have hal : ∀ z ∈ (its.zip zs).map g, ∀ y ∈ (its.zip zs).map g, PySem.W.alike z.2 y.2 = true := by
    intro z hz y hy
    obtain ⟨z', hz', rfl⟩ := List.mem_map.mp hz
    obtain ⟨y', hy', rfl⟩ := List.mem_map.mp hy
    exact alike_toPy _ _ (o2 _ (List.mem_map_of_mem (hmem _ hz')) _ (List.mem_map_of_mem (hmem _ hy')))
  have hfar : ∀ z ∈ (its.zip zs).map g, ∀ y ∈ (its.zip zs).map g, z = y ∨ PyData.eqv z.2 y.2 = false := by
    intro z hz y hy
    obtain ⟨z', hz', rfl⟩ := List.mem_map.mp hz
    obtain ⟨y', hy', rfl⟩ := List.mem_map.mp hy
    have o3' : farD ((its.zip zs).map fun z => z.2.1) = true := by
      rw [show ((its.zip zs).map fun z => z.2.1) = zs.map Prod.fst by rw [← zip_snd2 len, List.map_map]; rw [zip_snd2 len]; rfl]
      exact o3
    rcases far_mem o3' z' hz' y' hy' with e | e
    · exact .inl (by rw [e])
    · exact .inr (by rw [eqv_toPy]; exact e)
  have hdep : ∀ z ∈ (its.zip zs).map g, X.A.in1.in1.units + z.2.depth < cLine := by
    intro z hz
    obtain ⟨y, hy, rfl⟩ := List.mem_map.mp hz
    have t := List.mem_map_of_mem (f := Prod.fst) (hmem y hy)
    have a1 := head_dep (o1 _ t)
    have a2 := dep_mem t
    show X.A.units + 1 + 1 + (toPy (headD y.2.1)).depth < cLine
    rw [dep_toPy]
    omega
  have S := PB'.SortsAt.heads (prog := X.prog) (w := X.w) (A := X.A.in1.in1) (s := { s with heap := PySem.W.sortingHeap (h'.push { cls := .type "list", data := .seq its.toArray }) h'.objs.size its }) hh hal hdep hfar
  have hfst : ((its.zip zs).map g).map Prod.fst = its := by
    rw [List.map_map]
    exact zip_fst2 len
  rw [hfst] at S
  have ek : PySem.W.EachIs (fun v z => (PB'.hdKind (PySem.W.sortingHeap (h'.push { cls := .type "list", data := .seq its.toArray }) h'.objs.size its) ((its.zip zs).map g)).keyOf v = some (PySem.W.keyToks (toPy (headD z.1)))) its zs :=
    each_and (each_zip e1) fun v z _ h => PB'.hd_some hh hal (List.mem_map.mpr ⟨(v, z), h.2, rfl⟩)
  have ho := PySem.W.sortVals_each (κ := PB'.hdKind (PySem.W.sortingHeap (h'.push { cls := .type "list", data := .seq its.toArray }) h'.objs.size its) ((its.zip zs).map g)) (rev := false) (fun z : Dt × V => PySem.W.keyToks (toPy (headD z.1))) e1 ek
  have ho : PySem.W.EachIs (fun v z => RelV z.2 v) (PySem.W.sortVals (PB'.hdKind (PySem.W.sortingHeap (h'.push { cls := .type "list", data := .seq its.toArray }) h'.objs.size its) ((its.zip zs).map g)) false its its) (zs.mergeSort fun a b => !ltB (headD b.1) (headD a.1)) := by
    rw [← leF_toPy]
    exact ho
  refine wpAny_call_entry PyProof.Rows.slot_list_sort ⟨_, at_, rfl⟩ PyProof.Rows.entry_list_sort (PySem.W.list_sort_vals (κ := PB'.hdKind (PySem.W.sortingHeap (h'.push { cls := .type "list", data := .seq its.toArray }) h'.objs.size its) ((its.zip zs).map g)) at_ S (by rw [len]; exact lz) ⟨.none, rfl, ?_⟩) (PyProof.Rows.args_list_sort _)
  obtain ⟨n, hn⟩ := PyProof.Rows.sortedHeap_at (vs := its) (out := (PySem.W.sortVals (PB'.hdKind (PySem.W.sortingHeap (h'.push { cls := .type "list", data := .seq its.toArray }) h'.objs.size its) ((its.zip zs).map g)) false its its).toArray) at_
  refine ⟨.ref h'.objs.size, _, J.laid (t' := s.toks) (o := .lst ((zs.mergeSort fun a b => !ltB (headD b.1) (headD a.1)).map Prod.snd)) (fun b o e => ?_) (Nat.le_refl _) (show ObjOk _ _ _ _ _ (.lst _) from ⟨?_, _, n, vals_each ho, hn⟩), rfl, q _ (J.hok.fresh (Nat.le_refl _))⟩
  · have lt : b < h'.objs.size := Heap.lt_size e
    rw [PyProof.Rows.sortedHeap_old (Nat.ne_of_lt lt) (by rw [Heap.size_push]; exact Nat.lt_succ_of_lt lt)]
    exact Heap.get?_push_of_some _ e
  · rw [List.length_map, List.length_mergeSort]
    exact lz
mutual
theorem toPy_plain : ∀ x : Dt, (toPy x).plain = true
  | .non => rfl
  | .bl _ => rfl
  | .int _ => rfl
  | .str _ => rfl
  | .tup xs => by rw [toPy, PyData.plain]; exact toPys_plain xs
  | .lst xs => by rw [toPy, PyData.plain]; exact toPys_plain xs
  | .scr ns => by
    rw [toPy, PyData.plain]
    induction ns with
    | nil => rfl
    | cons n ns ih => rw [List.map_cons, PyData.plainAll, ih]; rfl
theorem toPys_plain : ∀ xs : List Dt, PyData.plainAll (toPy.toPys xs) = true
  | [] => rfl
  | x :: xs => by rw [toPy.toPys, PyData.plainAll, toPy_plain x, toPys_plain xs]; rfl
end
theorem far2_mem {α : Type} {f : α → Dt} : ∀ {l : List α}, far2D (l.map f) = true → ∀ z ∈ l, ∀ y ∈ l, z = y ∨ eqD (secD (f z)) (secD (f y)) = false
  | [], _, z, hz, _, _ => by cases hz
  | x :: l, h, z, hz, y, hy => by
    rw [List.map_cons, far2D] at h
    simp only [Bool.and_eq_true, List.all_eq_true, Bool.not_eq_true'] at h
    rcases List.mem_cons.mp hz with e1 | h1
    · rcases List.mem_cons.mp hy with e2 | h2
      · exact .inl (e1.trans e2.symm)
      · exact .inr (by rw [e1]; exact (h.1 _ (List.mem_map_of_mem h2)).1)
    · rcases List.mem_cons.mp hy with e2 | h2
      · exact .inr (by rw [e2]; exact (h.1 _ (List.mem_map_of_mem h1)).2)
      · exact far2_mem h.2 z h1 y h2
theorem leG_toPy : (PySem.W.sortLe (PyProof.Rows.listOrd itemOrd) false fun z : Dt × V => PySem.W.keyToks (toPy (secD z.1))) = fun a b => !ltB (secD b.1) (secD a.1) := by
  funext a b
  show (!PyProof.Rows.lexLt itemOrd (PySem.W.keyToks (toPy (secD b.1))) (PySem.W.keyToks (toPy (secD a.1)))) = _
  rw [key_toPy, key_toPy, row_eq]
  rfl
def rSortedG (K : KF) : List V → Hp → VK → Prop := fun vs H Q => ∃ (a : Addr) (zs : List (Dt × V)), vs = [V.ref a] ∧ SqL K H a (zs.map Prod.snd) ∧ (∀ z ∈ zs, Dp K H z.2 (toPy z.1)) ∧ sortableG (zs.map Prod.fst) = true ∧
  ∀ p, H p = none → Q (.ref p) (upd H p (.lst ((zs.mergeSort fun a b => !ltB (secD b.1) (secD a.1)).map Prod.snd)))
theorem call_sortedG (hu : X.A.units + 65 < cLine) : CallR X (.builtin "sorted") (rSortedG X.KF) := by
  intro pins s σ H vs us Q I r h
  obtain ⟨a, zs, rfl, hs, hd, ok, q⟩ := h
  obtain ⟨its, rv, hl, hz⟩ := I.list hs
  obtain ⟨u, rfl, ru⟩ := vals1 r
  obtain rfl : u = Value.ref a := ru
  have e1 := each_vals rv
  unfold sortableG at ok
  simp only [Bool.and_eq_true, List.all_eq_true, decide_eq_true_eq] at ok
  obtain ⟨⟨⟨o1, o2⟩, o3⟩, o4⟩ := ok
  have len : its.length = zs.length := by rw [← rv.length, List.length_map]
  let g : Value × (Dt × V) → Value × PyData := fun z => (z.1, toPy (secD z.2.1))
  have hmem : ∀ z ∈ its.zip zs, z.2 ∈ zs := fun z hz => (List.of_mem_zip hz).2
  have er : PySem.W.EachIs (fun v z => (∃ as, Reads s.heap v (toPy z.1) as)) its zs := each_and e1 fun v z hz hr => Dp.reads I _ _ _ (hd z hz) hr
  have er2 : ∀ z ∈ its.zip zs, ∃ as, Reads s.heap z.1 (toPy z.2.1) as := by
    have : ∀ {as : List Value} {bs : List (Dt × V)}, PySem.W.EachIs (fun v z => (∃ as, Reads s.heap v (toPy z.1) as)) as bs → ∀ z ∈ as.zip bs, ∃ as, Reads s.heap z.1 (toPy z.2.1) as := by
      intro as bs e
      induction e with
      | nil => intro z hz; cases hz
      | cons h t ih =>
        intro z hz
        rw [List.zip_cons_cons] at hz
        rcases List.mem_cons.mp hz with rfl | hz
        · exact h
        · exact ih z hz
    exact this er
  have hh : ∀ z ∈ (its.zip zs).map g, PB'.Hd2 (PySem.W.sortingHeap (PySem.W.copyHeap s.heap its) (s.heap.objs.size + 1) its) z.1 z.2 := by
    intro z hz
    obtain ⟨y, hy, rfl⟩ := List.mem_map.mp hz
    obtain ⟨as, r⟩ := er2 y hy
    have ty := o1 _ (List.mem_map_of_mem (hmem y hy))
    have dp := dep_mem (List.mem_map_of_mem (f := Prod.fst) (hmem y hy))
    obtain ⟨v, d, V⟩ := y
    dsimp only at r ty dp ⊢
    have dp : depD d ≤ 60 := Nat.le_trans dp o4
    unfold isSecD at ty
    split at ty
    · rename_i ph dn dr rest _
      have pl := toPy_plain (.tup (dn :: dr))
      simp only [depD, depDs] at dp
      simp only [toPy, toPy.toPys] at r pl
      cases r with
      | @tuple a o xs n _ _ h1 h2 h3 h4 =>
        cases e : xs.toList with
        | nil => rw [e] at h4; cases h4
        | cons f fr =>
          rw [e] at h4
          cases h4 with
          | cons r1 r2 =>
            cases r2 with
            | cons r3 r4 =>
              refine ⟨a, o, xs, n, f, _, _, toPy ph, toPy dn, toPy.toPys dr, _, _, rfl, PySem.W.sorting_copy_old h1, h2, h3, e, PyProof.Rows.Reads.keeps (fun _ _ => PySem.W.sorting_copy_old) r1, PyProof.Rows.Reads.keeps (fun _ _ => PySem.W.sorting_copy_old) r3, pl, ?_, ?_, ?_⟩
              · first | rfl | (show toPy (.tup [ph, dn]) = _; rw [toPy, toPy.toPys, toPy.toPys, toPy.toPys])
              · rw [dep_toPy]; omega
              · have := dep_toPy (.tup (dn :: dr))
                simp only [toPy, toPy.toPys, depD, depDs] at this
                omega
    · cases ty
  have hal : ∀ z ∈ (its.zip zs).map g, ∀ y ∈ (its.zip zs).map g, PySem.W.alike z.2 y.2 = true := by
    intro z hz y hy
    obtain ⟨z', hz', rfl⟩ := List.mem_map.mp hz
    obtain ⟨y', hy', rfl⟩ := List.mem_map.mp hy
    exact alike_toPy _ _ (o2 _ (List.mem_map_of_mem (hmem _ hz')) _ (List.mem_map_of_mem (hmem _ hy')))
  have hfar : ∀ z ∈ (its.zip zs).map g, ∀ y ∈ (its.zip zs).map g, z = y ∨ PyData.eqv z.2 y.2 = false := by
    intro z hz y hy
    obtain ⟨z', hz', rfl⟩ := List.mem_map.mp hz
    obtain ⟨y', hy', rfl⟩ := List.mem_map.mp hy
    have o3' : far2D ((its.zip zs).map fun z => z.2.1) = true := by
      rw [show ((its.zip zs).map fun z => z.2.1) = zs.map Prod.fst by rw [← zip_snd2 len, List.map_map]; rw [zip_snd2 len]; rfl]
      exact o3
    rcases far2_mem o3' z' hz' y' hy' with e | e
    · exact .inl (by rw [e])
    · exact .inr (by rw [eqv_toPy]; exact e)
  have S := PB'.SortsAt.seconds (prog := X.prog) (w := X.w) (A := X.A.in1.in1) (s := { s with heap := PySem.W.sortingHeap (PySem.W.copyHeap s.heap its) (s.heap.objs.size + 1) its }) hh hal (by show X.A.units + 1 + 1 + 62 < cLine; omega) hfar
  have hfst : ((its.zip zs).map g).map Prod.fst = its := by
    rw [List.map_map]
    exact zip_fst2 len
  rw [hfst] at S
  have ek : PySem.W.EachIs (fun v z => (PB'.hdKind (PySem.W.sortingHeap (PySem.W.copyHeap s.heap its) (s.heap.objs.size + 1) its) ((its.zip zs).map g)).keyOf v = some (PySem.W.keyToks (toPy (secD z.1)))) its zs :=
    each_and (each_zip e1) fun v z _ h => PB'.hd2_some hh hal (List.mem_map.mpr ⟨(v, z), h.2, rfl⟩)
  have ho := PySem.W.sortVals_each (κ := PB'.hdKind (PySem.W.sortingHeap (PySem.W.copyHeap s.heap its) (s.heap.objs.size + 1) its) ((its.zip zs).map g)) (rev := false) (fun z : Dt × V => PySem.W.keyToks (toPy (secD z.1))) e1 ek
  have ho : PySem.W.EachIs (fun v z => RelV z.2 v) (PySem.W.sortVals (PB'.hdKind (PySem.W.sortingHeap (PySem.W.copyHeap s.heap its) (s.heap.objs.size + 1) its) ((its.zip zs).map g)) false its its) (zs.mergeSort fun a b => !ltB (secD b.1) (secD a.1)) := by
    rw [← leG_toPy]
    exact ho
  refine PySem.W.sorted_vals hl.isList S (by rw [len]; rw [List.length_map] at hz; exact hz) ?_
  obtain ⟨n, hn⟩ := sortedAll_at s.heap its (PySem.W.sortVals (PB'.hdKind (PySem.W.sortingHeap (PySem.W.copyHeap s.heap its) (s.heap.objs.size + 1) its) ((its.zip zs).map g)) false its its).toArray
  refine ⟨.ref (s.heap.objs.size + 1), upd H (s.heap.objs.size + 1) (.lst ((zs.mergeSort fun a b => !ltB (secD b.1) (secD a.1)).map Prod.snd)), I.laid (t' := s.toks) (fun b o e => sortedAll_old e) (Nat.le_succ _) ⟨?_, _, n, vals_each ho, hn⟩, rfl, q _ (I.hok.fresh (Nat.le_succ _))⟩
  rw [List.length_map, List.length_mergeSort]
  rw [List.length_map] at hz
  exact hz
theorem callR_or {f : Value} {r r' : List V → Hp → VK → Prop} (h : CallR X f r) (h' : CallR X f r') : CallR X f (fun xs H Q => r xs H Q ∨ r' xs H Q) := by
  intro pins s σ H xs us Q I rv q
  rcases q with q | q
  · exact h pins s σ H xs us Q I rv q
  · exact h' pins s σ H xs us Q I rv q
/-- tuple(xs): a new one has no dict of its own -/
theorem call_tupleF : CallR X (.type "tuple") (fun xs H Q => ∃ p ys, xs = [.ref p] ∧ ((SqL X.K H p ys ∧ NewT H ys Q) ∨ (SqT X.K H p ys ∧ Q (.ref p) H))) := by
  intro pins s σ H xs us Q I r h
  obtain ⟨p, ys, e, h | h⟩ := h
  · subst e
    obtain ⟨u, rfl, ru⟩ := vals1 r
    cases ru
    obtain ⟨its, rv, pl, few⟩ := I.list h.1
    refine call_tuple_list pl.isList (fun h' kp => ?_) (by rw [List.size_toArray, ← rv.length]; exact few)
    have J : Inv X pins σ H { s with heap := h' } := I.kept (t' := s.toks) kp
    exact ⟨.ref h'.objs.size, _, J.laidT (t' := s.toks) rv few, rfl, h.2 _ _ (J.hok.fresh (Nat.le_refl _)) rfl⟩
  · exact call_tuple_of pins s σ H xs us Q I r ⟨p, ys, e, .inr h⟩
def rP1 (K : KF) : P1 → List V → Hp → VK → Prop
  | .len => fun xs H Q => ∃ x n, xs = [x] ∧ LenV K x H n ∧ Q (.int n) H
  | .all => rAll K
  | .any => rAny K
  | .tuple => fun xs H Q => ∃ p ys, xs = [.ref p] ∧ ((SqL K H p ys ∧ NewT H ys Q) ∨ (SqT K H p ys ∧ Q (.ref p) H))
  | .list => fun xs H Q => ∃ p ys, xs = [.ref p] ∧ (SqL K H p ys ∨ SqT K H p ys) ∧ ∀ l, H l = none → Q (.ref l) (upd H l (.lst ys))
  | .str => fun xs H Q => ∃ i, xs = [.int i] ∧ i.natAbs.log2 < 1920 ∧ Q (.str (toString i)) H
  | .int => fun xs H Q => ((∃ i, xs = [.int i] ∧ Q (.int i) H) ∨ ∃ k, xs = [.bl k] ∧ Q (.int (if k then 1 else 0)) H) ∨ (∃ a n, xs = [.str a] ∧ PySem.intText? a = some n ∧ a.length ≤ 640 ∧ Q (.int n) H)
  | .sorted => fun xs H Q => (rSorted K xs H Q ∨ rSortedF K xs H Q ∨ rSortedG K xs H Q) ∨ rSortedT K xs H Q ∨ rSortedFT K xs H Q
theorem call_p1 (hc : X.calm = true) (hu : X.A.units + 65 < cLine) : ∀ p : P1, CallR X (valP1 p) (rP1 X.KF p)
  | .len => call_len
  | .all => cr_all hc
  | .any => cr_any hc
  | .tuple => call_tupleF
  | .list => call_list_of
  | .str => call_str_int
  | .int => callR_or call_int1 call_int_str
  | .sorted => callR_or (callR_or (call_sorted hu) (callR_or (call_sortedF hu) (call_sortedG hu))) (callR_or (call_sortedT hu) (call_sortedFT hu))
def pyB2 : B2 → String
  | .min => "min" | .max => "max"
def rB2 : B2 → List V → Hp → VK → Prop
  | .min => fun xs H Q => ∃ i j, xs = [.int i, .int j] ∧ Q (.int (if j < i then j else i)) H
  | .max => fun xs H Q => ∃ i j, xs = [.int i, .int j] ∧ Q (.int (if j > i then j else i)) H
theorem call_b2 (hc : X.calm = true) : ∀ o : B2, CallR X (.builtin (pyB2 o)) (rB2 o)
  | .min => call_min2 hc
  | .max => call_max2 hc
theorem ops_b2 (o : B2) : OpS K (b2D o) (fun v u H Q => rB2 o [v, u] H Q) := by
  intro av H x y z v u Q ht hx hy e q
  unfold b2D at e
  split at e
  · cases e
    cases vint hx
    cases vint hy
    exact ⟨_, _, rfl, q _ H (.refl H) (.int _)⟩
  · cases e
    cases vint hx
    cases vint hy
    exact ⟨_, _, rfl, q _ H (.refl H) (.int _)⟩
  · cases e
theorem RepL.zip : ∀ {xs : List Dt} {vs : List V}, RepL K av H xs vs → ∀ z ∈ xs.zip vs, Rep K av H z.1 z.2
  | _, _, .nil, z, h => by cases h
  | _, _, .cons a r, z, h => by
    rw [List.zip_cons_cons] at h
    rcases List.mem_cons.mp h with rfl | h
    · exact a
    · exact RepL.zip r z h
theorem RepL.of_pairs : ∀ (zs : List (Dt × V)), (∀ z ∈ zs, Rep K av H z.1 z.2) → RepL K av H (zs.map Prod.fst) (zs.map Prod.snd)
  | [], _ => .nil
  | z :: zs, h => .cons (h z List.mem_cons_self) (RepL.of_pairs zs fun y hy => h y (List.mem_cons_of_mem _ hy))
theorem str_len {i : Int} (h : i.natAbs.log2 < 1920) : (S2 (toString i)).length ≤ lim := by
  have := int_text_fits h
  rw [S2_ofString, toS_len] at this
  rw [lim_eq]
  exact this
theorem uns_p1 (p : P1) : UnS K (p1D p) (fun v H Q => rP1 K p [v] H Q) := by
  intro av H x z v Q ht hx e q
  unfold p1D at e
  split at e
  · cases e
    obtain ⟨rfl, hs⟩ := vstr hx
    refine ⟨_, _, rfl, ⟨by rw [toS_len, ← lim_eq]; exact hs.1, rfl⟩, ?_⟩
    rw [toS_len]
    exact q _ H (.refl H) (.int _)
  · cases e
    obtain ⟨a, vs, rfl, ha, ra⟩ := vtup hx
    refine ⟨_, vs.length, rfl, .inr ⟨vs, ha, rfl⟩, ?_⟩
    rw [← ra.length]
    exact q _ H (.refl H) (.int _)
  · cases e
    obtain ⟨a, vs, rfl, ha, ra⟩ := vlst hx
    refine ⟨_, vs.length, rfl, .inl ⟨vs, .inl ha, rfl⟩, ?_⟩
    rw [← ra.length]
    exact q _ H (.refl H) (.int _)
  · cases e
    obtain ⟨a, rfl, ha⟩ := vscr hx
    refine ⟨_, _, rfl, .inl ⟨_, ha, rfl⟩, ?_⟩
    rw [List.length_map]
    exact q _ H (.refl H) (.int _)
  · obtain ⟨a, vs, rfl, ha, ra⟩ := vlst hx
    obtain ⟨bs, e1, rfl⟩ := Option.map_eq_some_iff.mp e
    have := ra.bls e1
    subst this
    exact ⟨a, bs, rfl, .inl ha, q _ H (.refl H) (.bl _)⟩
  · obtain ⟨a, vs, rfl, ha, ra⟩ := vlst hx
    obtain ⟨bs, e1, rfl⟩ := Option.map_eq_some_iff.mp e
    have := ra.bls e1
    subst this
    exact ⟨a, bs, rfl, .inl ha, q _ H (.refl H) (.bl _)⟩
  · cases e
    obtain ⟨a, vs, rfl, ha, ra⟩ := vlst hx
    exact ⟨a, vs, rfl, .inl ⟨.inl ha, fun l o hl ho => q _ _ (same_new hl) (rep_newF ht hl ho ra)⟩⟩
  · cases e
    obtain ⟨a, vs, rfl, ha, ra⟩ := vtup hx
    exact ⟨a, vs, rfl, .inr ⟨ha, q _ H (.refl H) hx⟩⟩
  · cases e
    obtain ⟨a, vs, rfl, ha, ra⟩ := vlst hx
    exact ⟨a, vs, rfl, .inl (.inl ha), fun l hl => q _ _ (same_new hl) (rep_newL ht hl ra)⟩
  · cases e
    obtain ⟨a, vs, rfl, ha, ra⟩ := vtup hx
    exact ⟨a, vs, rfl, .inr ha, fun l hl => q _ _ (same_new hl) (rep_newL ht hl ra)⟩
  · split at e
    · rename_i xs hok
      cases e
      obtain ⟨a, vs, rfl, ha, ra⟩ := vlst hx
      have hl := ra.length
      have z1 : (xs.zip vs).map Prod.fst = xs := List.map_fst_zip (by omega)
      have z2 : (xs.zip vs).map Prod.snd = vs := List.map_snd_zip (by omega)
      have hz : ∀ z ∈ xs.zip vs, Rep K av H z.1 z.2 := fun z hz => RepL.zip ra z hz
      refine .inl (.inl ⟨a, xs.zip vs, rfl, by rw [z2]; exact .inl ha, fun z h => (hz z h).dp.1, by rw [z1]; exact hok, fun p hp => ?_⟩)
      have e1 : sortD xs = ((xs.zip vs).mergeSort fun a b => !ltB b.1 a.1).map Prod.fst := by
        rw [List.map_mergeSort (s := fun a b => !ltB b a) (fun a _ b _ => rfl), z1]
        rfl
      refine q _ _ (same_new hp) ?_
      rw [e1]
      exact rep_newL ht hp (RepL.of_pairs _ fun z h => hz z (List.mem_mergeSort.mp h))
    · split at e
      · rename_i xs _ hok
        cases e
        obtain ⟨a, vs, rfl, ha, ra⟩ := vlst hx
        have hl := ra.length
        have z1 : (xs.zip vs).map Prod.fst = xs := List.map_fst_zip (by omega)
        have z2 : (xs.zip vs).map Prod.snd = vs := List.map_snd_zip (by omega)
        have hz : ∀ z ∈ xs.zip vs, Rep K av H z.1 z.2 := fun z hz => RepL.zip ra z hz
        refine .inl (.inr (.inl ⟨a, xs.zip vs, rfl, by rw [z2]; exact .inl ha, fun z h => (hz z h).dp.1, by rw [z1]; exact hok, fun p hp => ?_⟩))
        have e1 : sortF xs = ((xs.zip vs).mergeSort fun a b => !ltB (headD b.1) (headD a.1)).map Prod.fst := by
          rw [List.map_mergeSort (s := fun a b => !ltB (headD b) (headD a)) (fun a _ b _ => rfl), z1]
          rfl
        refine q _ _ (same_new hp) ?_
        rw [e1]
        exact rep_newL ht hp (RepL.of_pairs _ fun z h => hz z (List.mem_mergeSort.mp h))
      · split at e
        · rename_i xs _ _ hok
          cases e
          obtain ⟨a, vs, rfl, ha, ra⟩ := vlst hx
          have hl := ra.length
          have z1 : (xs.zip vs).map Prod.fst = xs := List.map_fst_zip (by omega)
          have z2 : (xs.zip vs).map Prod.snd = vs := List.map_snd_zip (by omega)
          have hz : ∀ z ∈ xs.zip vs, Rep K av H z.1 z.2 := fun z hz => RepL.zip ra z hz
          refine .inl (.inr (.inr ⟨a, xs.zip vs, rfl, by rw [z2]; exact .inl ha, fun z h => (hz z h).dp.1, by rw [z1]; exact hok, fun p hp => ?_⟩))
          have e1 : sortG xs = ((xs.zip vs).mergeSort fun a b => !ltB (secD b.1) (secD a.1)).map Prod.fst := by
            rw [List.map_mergeSort (s := fun a b => !ltB (secD b) (secD a)) (fun a _ b _ => rfl), z1]
            rfl
          refine q _ _ (same_new hp) ?_
          rw [e1]
          exact rep_newL ht hp (RepL.of_pairs _ fun z h => hz z (List.mem_mergeSort.mp h))
        · cases e
  · split at e
    · rename_i xs hok
      cases e
      obtain ⟨a, vs, rfl, ha, ra⟩ := vtup hx
      have hl := ra.length
      have z1 : (xs.zip vs).map Prod.fst = xs := List.map_fst_zip (by omega)
      have z2 : (xs.zip vs).map Prod.snd = vs := List.map_snd_zip (by omega)
      have hz : ∀ z ∈ xs.zip vs, Rep K av H z.1 z.2 := fun z hz => RepL.zip ra z hz
      refine .inr (.inl ⟨a, xs.zip vs, rfl, by rw [z2]; exact ha, fun z h => (hz z h).dp.1, by rw [z1]; exact hok, fun p hp => ?_⟩)
      have e1 : sortD xs = ((xs.zip vs).mergeSort fun a b => !ltB b.1 a.1).map Prod.fst := by
        rw [List.map_mergeSort (s := fun a b => !ltB b a) (fun a _ b _ => rfl), z1]
        rfl
      refine q _ _ (same_new hp) ?_
      rw [e1]
      exact rep_newL ht hp (RepL.of_pairs _ fun z h => hz z (List.mem_mergeSort.mp h))
    · split at e
      · rename_i xs _ hok
        cases e
        obtain ⟨a, vs, rfl, ha, ra⟩ := vtup hx
        have hl := ra.length
        have z1 : (xs.zip vs).map Prod.fst = xs := List.map_fst_zip (by omega)
        have z2 : (xs.zip vs).map Prod.snd = vs := List.map_snd_zip (by omega)
        have hz : ∀ z ∈ xs.zip vs, Rep K av H z.1 z.2 := fun z hz => RepL.zip ra z hz
        refine .inr (.inr ⟨a, xs.zip vs, rfl, by rw [z2]; exact ha, fun z h => (hz z h).dp.1, by rw [z1]; exact hok, fun p hp => ?_⟩)
        have e1 : sortF xs = ((xs.zip vs).mergeSort fun a b => !ltB (headD b.1) (headD a.1)).map Prod.fst := by
          rw [List.map_mergeSort (s := fun a b => !ltB (headD b) (headD a)) (fun a _ b _ => rfl), z1]
          rfl
        refine q _ _ (same_new hp) ?_
        rw [e1]
        exact rep_newL ht hp (RepL.of_pairs _ fun z h => hz z (List.mem_mergeSort.mp h))
      · cases e
  · cases vint hx
    split at e
    · rename_i i hi
      cases e
      have hlg : i.natAbs.log2 < 1920 := by
        by_cases h0 : i.natAbs = 0
        · rw [h0]; decide
        · have := (Nat.log2_lt h0 (k := 64)).mpr hi
          omega
      refine ⟨i, rfl, hlg, ?_⟩
      · have := q (.str (toS (S2 (toString i)))) H (.refl H) (.str _ (okS_S2 (str_len hlg)))
        rw [← S2_ofString] at this
        exact this
    · cases e
  · cases e
    cases vbl hx
    exact .inl (.inr ⟨_, rfl, q _ H (.refl H) (.int _)⟩)
  · cases e
    cases vint hx
    exact .inl (.inl ⟨_, rfl, q _ H (.refl H) (.int _)⟩)
  · split at e
    · rename_i s hc
      cases e
      obtain ⟨rfl, _⟩ := vstr hx
      refine .inr ⟨toS s, _, rfl, PySem.intText_digits (x := toS s) (fun c h => ?_) (by rw [toS_cps]; exact hc.1) (by rw [toS_len]; omega), by rw [toS_len]; omega, ?_⟩
      · rw [toS_cps] at h
        have := List.all_eq_true.mp hc.2.1 c h
        simpa using this
      · rw [toS_cps]
        exact q _ H (.refl H) (.int _)
    · cases e
  · cases e

/-! #### places -/
theorem ixP_eq (n : Nat) (i : Int) : ixP n i = ixN n i := rfl
theorem ops_ix : OpS K ixD (rIx K) := by
  intro av H x y z v u Q ht hx hy e q
  unfold ixD at e
  split at e
  · obtain ⟨rfl, hs⟩ := vstr hx
    cases vint hy
    obtain ⟨c, e1, rfl⟩ := Option.map_eq_some_iff.mp e
    refine .inr (.inr ⟨_, _, c, rfl, rfl, by rw [toS_len, ← lim_eq]; exact hs.1, by rw [toS_cps]; exact e1, ?_⟩)
    refine q (.str (toS [c])) H (.refl H) (.str _ ⟨by show 1 ≤ 16777216; decide, fun c' hc' => ?_⟩)
    have e2 : c' = c := by simpa using hc'
    subst e2
    unfold ixL at e1
    obtain ⟨j, _, e3⟩ := Option.bind_eq_some_iff.mp e1
    exact hs.2 _ (List.mem_of_getElem? e3)
  · obtain ⟨a, vs, rfl, ha, ra⟩ := vtup hx
    cases vint hy
    unfold ixL at e
    obtain ⟨j, e2, e3⟩ := Option.bind_eq_some_iff.mp e
    obtain ⟨w, e4, rw'⟩ := ra.get e3
    refine .inr (.inl ⟨a, vs, _, w, rfl, rfl, ha, ?_, q _ H (.refl H) rw'⟩)
    unfold atI
    rw [← ra.length, ← ixP_eq, e2]
    exact e4
  · obtain ⟨a, vs, rfl, ha, ra⟩ := vlst hx
    cases vint hy
    unfold ixL at e
    obtain ⟨j, e2, e3⟩ := Option.bind_eq_some_iff.mp e
    obtain ⟨w, e4, rw'⟩ := ra.get e3
    refine .inl ⟨a, vs, _, w, rfl, rfl, .inl ha, ?_, q _ H (.refl H) rw'⟩
    unfold atI
    rw [← ra.length, ← ixP_eq, e2]
    exact e4
  · obtain ⟨a, rfl, ha⟩ := vscr hx
    cases vint hy
    obtain ⟨k, e1, rfl⟩ := Option.map_eq_some_iff.mp e
    unfold ixL at e1
    obtain ⟨j, e2, e3⟩ := Option.bind_eq_some_iff.mp e1
    refine .inl ⟨a, _, _, .int k, rfl, rfl, ha, ?_, q _ H (.refl H) (.int _)⟩
    unfold atI
    rw [List.length_map, ← ixP_eq, e2]
    show (_ : List V)[j]? = _
    rw [List.getElem?_map, e3]
    rfl
  · cases e

/-! #### slices -/
theorem slP_eq (n d : Nat) : ∀ o : Option Int, slP n d o = HT.sIx n d o
  | none => rfl
  | some _ => rfl
theorem RepL.cut {xs : List Dt} {vs : List V} (r : RepL K av H xs vs) (lo hi : Option Int) : RepL K av H (cutL xs lo hi) (cutV vs lo hi) := by
  unfold cutL cutV
  rw [slP_eq, slP_eq, r.length]
  exact (r.drop _).take _
/-- a part of a tuple: a new one has no dict of its own -/
def rSlF (K : PySem.W.Frag) : V → Option Int → Option Int → Hp → VK → Prop := fun x lo hi H Q => ∃ a xs, x = .ref a ∧ SqT K H a xs ∧
  (HT.sIx xs.length 0 lo = 0 ∧ HT.sIx xs.length xs.length hi = xs.length → Q (.ref a) H) ∧ (¬ (HT.sIx xs.length 0 lo = 0 ∧ HT.sIx xs.length xs.length hi = xs.length) → NewT H (cutV xs lo hi) Q)
theorem sl_tupF : SlR X (rSlF X.K) := by
  intro pins s σ H x v vl vu lo hi sl Q I rx hs pl pu ⟨a, xs, e, sq, q1, q2⟩
  by_cases whole : HT.sIx xs.length 0 lo = 0 ∧ HT.sIx xs.length xs.length hi = xs.length
  · exact sl_tupA pins s σ H x v vl vu lo hi sl Q I rx hs pl pu ⟨a, xs, e, sq, q1, fun z => (z whole).elim⟩
  · subst e
    cases rx
    obtain ⟨us, rel, tu, few⟩ := I.tuple sq
    have len : us.toArray.size = xs.length := by rw [List.size_toArray]; exact rel.length.symm
    refine ⟨"tuple", _, PyProof.Rows.slot_tuple_getitem.lookup, tu.typeIs, HT.getItem_tuple_cut tu hs pl pu (by rw [len]; exact whole) ?_ (by rw [len]; exact few)⟩
    rw [len]
    exact ⟨.ref s.heap.objs.size, _, I.laidT (t' := s.toks) ((rel.drop (HT.sIx xs.length 0 lo)).take (HT.sIx xs.length xs.length hi - HT.sIx xs.length 0 lo)) (Nat.le_trans (cutV_length xs lo hi) few), rfl, q2 whole _ _ (I.hok.fresh (Nat.le_refl _)) rfl⟩
def rSl (K : KF) : V → Option Int → Option Int → Hp → VK → Prop := fun x lo hi H Q => rSlS x lo hi H Q ∨ (rSlF K x lo hi H Q ∨ rSlL K x lo hi H Q)
theorem sl_any : SlR X (rSl X.KF) := sl_str.or (sl_tupF.or sl_list)
theorem uns_sl (lo hi : Option Int) : UnS K (fun x => slD x lo hi) (fun v H Q => rSl K v lo hi H Q) := by
  intro av H x z v Q ht hx e q
  dsimp only at e
  unfold slD at e
  split at e
  · cases e
    rename_i s
    obtain ⟨rfl, hs⟩ := vstr hx
    refine .inl ⟨_, rfl, by rw [toS_len, ← lim_eq]; exact hs.1, ?_⟩
    have e2 : cutS (toS s) lo hi = toS (cutL s lo hi) := by
      unfold cutS cutL
      rw [toS_cps, toS_len, slP_eq, slP_eq]
      rfl
    rw [e2]
    refine q _ H (.refl H) (.str _ ⟨?_, fun c hc => hs.2 c (List.mem_of_mem_drop (List.mem_of_mem_take hc))⟩)
    refine Nat.le_trans ?_ hs.1
    unfold cutL
    rw [List.length_take, List.length_drop]
    omega
  · cases e
    rename_i xs
    obtain ⟨a, vs, rfl, ha, ra⟩ := vtup hx
    refine .inr (.inl ⟨a, vs, rfl, ha, fun hw => ?_, fun _ p o hp ho => q _ _ (same_new hp) (rep_newF ht hp ho (ra.cut lo hi))⟩)
    have e2 : cutL xs lo hi = xs := by
      unfold cutL
      rw [slP_eq, slP_eq, ra.length, hw.1, hw.2, ← ra.length]
      simp
    rw [e2] at q
    exact q _ H (.refl H) hx
  · cases e
    obtain ⟨a, vs, rfl, ha, ra⟩ := vlst hx
    exact .inr (.inr ⟨a, vs, rfl, .inl ha, fun p hp => q _ _ (same_new hp) (rep_newL ht hp (ra.cut lo hi))⟩)
  · cases e

/-! #### isinstance -/
def pyTy : Ty → String
  | .str => "str" | .int => "int" | .bool => "bool" | .tuple => "tuple" | .list => "list"
def tyName : Dt → String
  | .non => "NoneType" | .bl _ => "bool" | .int _ => "int" | .str _ => "str" | .tup _ => "tuple" | .lst _ => "list" | .scr _ => "list"
theorem kit_isi (x : Dt) (t : Ty) : kitB (tyName x) (pyTy t) = some (isiD t x) := by
  cases x <;> cases t <;> simp only [tyName, pyTy, isiD] <;> decide +kernel
theorem vrep_ty {x : Dt} {v : V} (h : VRep K av H x v) : TyX K H v (.type (tyName x)) := by
  cases x with
  | lst xs =>
    obtain ⟨a, vs, rfl, r, e⟩ := vlst h
    rcases r with r | ⟨o, r⟩
    · exact .base (.lst r)
    · exact .base (.frz r)
  | tup xs =>
    cases (show Rep K av H (.tup xs) v from h) with
    | tup _ r _ =>
      rcases r.rd with r | ⟨o, r⟩
      · exact .base (.tup r)
      · exact .fTuple r
    | tupK r _ _ =>
      obtain ⟨o, _, _, h1, h2, _⟩ := r
      exact .kTuple h1 h2
  | non => cases vnon h; exact .base .non
  | bl b => cases vbl h; exact .base (.bl _)
  | int i => cases vint h; exact .base (.int _)
  | str s => obtain ⟨rfl, _⟩ := vstr h; exact .base (.str _)
  | scr ns =>
    obtain ⟨a, rfl, r⟩ := vscr h
    rcases r with (r | ⟨o, r⟩) | ⟨o, its, n, h1, h2, _⟩
    · exact .base (.lst r)
    · exact .base (.frz r)
    · exact .kList h1 h2
theorem uns_isi (t : Ty) : UnS K (fun x => some (.bl (isiD t x))) (fun v H Q => rIsi K [v, .ty (pyTy t)] H Q) := by
  intro av H x z v Q ht hx e q
  cases e
  exact ⟨v, .ty (pyTy t), _, _, _, rfl, .ty _, vrep_ty hx, kit_ty (kit_isi x t), q _ H (.refl H) (.bl _)⟩

theorem vrep_same {H1 : Hp} {x : Dt} {v : V} (h : VRep K av H x v) (sm : Same H H1) : VRep K av H1 x v := by
  have kp : Keeps av H av H1 := fun a o n e => ⟨sm a o e, n⟩
  cases x with
  | lst xs =>
    obtain ⟨a, vs, rfl, r, e⟩ := vlst h
    refine ⟨a, vs, rfl, ?_, RepL.keep kp e⟩
    rcases r with r | ⟨o, r⟩
    · exact .inl (sm _ _ r)
    · exact .inr ⟨o, sm _ _ r⟩
  | non => exact Rep.keep kp (show Rep K av H .non v from h)
  | bl b => exact Rep.keep kp (show Rep K av H (.bl b) v from h)
  | int i => exact Rep.keep kp (show Rep K av H (.int i) v from h)
  | str s => exact Rep.keep kp (show Rep K av H (.str s) v from h)
  | tup xs => exact Rep.keep kp (show Rep K av H (.tup xs) v from h)
  | scr ns => exact Rep.keep kp (show Rep K av H (.scr ns) v from h)
theorem uns_isi2 (t u : Ty) : UnS K (fun x => some (.bl (isiD t x || isiD u x))) (fun v H Q => [V.ty (pyTy t), V.ty (pyTy u)].length ≤ sizeLine ∧ ∀ tp, H tp = none → rIsiT K [v, .ref tp] (upd H tp (.tup [.ty (pyTy t), .ty (pyTy u)])) Q) := by
  intro av H x z v Q ht hx e q
  refine ⟨by rw [sizeLine_eq]; show 2 ≤ 16777216; decide, fun tp hp => ?_⟩
  cases e
  have sm : Same H (upd H tp (.tup [.ty (pyTy t), .ty (pyTy u)])) := same_new hp
  have hx' : VRep K av (upd H tp (.tup [.ty (pyTy t), .ty (pyTy u)])) x v := vrep_same hx sm
  refine ⟨v, tp, [.ty (pyTy t), .ty (pyTy u)], _, _, _, rfl, upd_same, .cons (.ty _) (.cons (.ty _) .nil), vrep_ty hx', ?_, q _ _ sm (.bl _)⟩
  refine kitAny_cons (kit_ty (kit_isi x t)) (fun h1 => ?_) (fun h1 => by rw [h1]; rfl)
  refine kitAny_cons (kit_ty (kit_isi x u)) (fun h2 => ?_) (fun h2 => by rw [h2, Bool.or_true])
  rw [h1, h2]
  rfl

/-! #### join -/
theorem glued_fold (sep : List Nat) : ∀ (ys : List (List Nat)) (acc : List Nat), (ys.map toS).foldl (fun acc p => acc ++ (toS sep).cps ++ p.cps) acc.toArray = (ys.foldl (fun acc p => acc ++ sep ++ p) acc).toArray
  | [], acc => by simp
  | y :: ys, acc => by
    rw [List.map_cons, List.foldl_cons, List.foldl_cons, ← glued_fold sep ys]
    simp [toS]
theorem fold_join (sep : List Nat) : ∀ (ys : List (List Nat)) (acc : List Nat), ys.foldl (fun acc p => acc ++ sep ++ p) acc = joinL sep (acc :: ys)
  | [], acc => rfl
  | y :: ys, acc => by
    rw [List.foldl_cons, fold_join sep ys]
    cases ys with
    | nil => simp [joinL]
    | cons z r => simp [joinL]
theorem glued_join (sep : List Nat) (ys : List (List Nat)) : Txt.join (toS sep) (ys.map toS) = toS (joinL sep ys) := by
  show Builtin.Str.glued (toS sep) (ys.map toS) = _
  unfold Builtin.Str.glued
  cases ys with
  | nil => rfl
  | cons y r =>
    show Str.mk (List.foldl _ (toS y).cps (r.map toS)) = _
    have := glued_fold sep r y
    rw [fold_join] at this
    show Str.mk _ = Str.mk _
    rw [← this]
    rfl
theorem sum_len (ys : List (List Nat)) : ((ys.map toS).map (·.length)).sum = sumLen ys := by
  induction ys with
  | nil => rfl
  | cons y r ih => simp only [List.map_cons, List.sum_cons, sumLen, toS_len, ih]
theorem mem_join {sep : List Nat} {c : Nat} : ∀ {ys : List (List Nat)}, c ∈ joinL sep ys → c ∈ sep ∨ ∃ y ∈ ys, c ∈ y
  | [], h => by simp [joinL] at h
  | [y], h => .inr ⟨y, by simp, h⟩
  | y :: z :: r, h => by
    rw [joinL, List.mem_append, List.mem_append] at h
    rcases h with (h | h) | h
    · exact .inr ⟨y, by simp, h⟩
    · exact .inl h
    · rcases mem_join h with h | ⟨w, hw, h⟩
      · exact .inl h
      · exact .inr ⟨w, List.mem_cons_of_mem _ hw, h⟩
theorem len_join (sep : List Nat) : ∀ ys : List (List Nat), (joinL sep ys).length ≤ sumLen ys + ys.length * sep.length
  | [] => by simp [joinL]
  | [y] => by simp [joinL, sumLen]
  | y :: z :: r => by
    have := len_join sep (z :: r)
    simp only [joinL, sumLen, List.length_append, List.length_cons, Nat.add_mul] at this ⊢
    omega
theorem RepL.oks : ∀ {xs : List Dt} {vs : List V} {ys : List (List Nat)}, RepL K av H xs vs → allStr xs = some ys → ∀ y ∈ ys, okS y
  | _, _, ys, .nil, e => by
    simp [allStr] at e; subst e; simp
  | _, _, ys, .cons (x := x) h r, e => by
    cases h with
    | str s hs =>
      simp only [allStr, Option.map_eq_some_iff] at e
      obtain ⟨zs, e1, rfl⟩ := e
      intro y hy
      rcases List.mem_cons.mp hy with rfl | hy
      · exact hs
      · exact RepL.oks r e1 y hy
    | _ => simp [allStr] at e
def rJoin (K : KF) : V → List V → Hp → VK → Prop := fun x xs H Q => ∃ a p, ∃ ys : List Str, x = .str a ∧ xs = [.ref p] ∧ (SqL K H p (ys.map V.str) ∨ SqT K H p (ys.map V.str)) ∧
    (ys.map (·.length)).sum + ys.length * a.length ≤ 16777216 ∧ Q (.str (Txt.join a ys)) H
def pyM1 : M1 → String
  | .join => "join" | .zfill => "zfill" | .split => "split"
/-! #### zfill, split -/
theorem zfill_toS {s : List Nat} {i : Int} (h0 : 0 ≤ i) (h1 : s.head? ≠ some 43) (h2 : s.head? ≠ some 45) : Txt.zfill (toS s) i = toS (List.replicate (i.toNat - s.length) 48 ++ s) := by
  unfold Txt.zfill
  rw [toS_len]
  by_cases h : i ≤ s.length
  · rw [if_pos h, show i.toNat - s.length = 0 by omega]
    rfl
  · rw [if_neg h]
    unfold PySem.zfilled
    have e : (toS s).cps[0]? = s.head? := by cases s <;> rfl
    rw [e]
    have key : Builtin.Str.padded (toS s) (i.toNat - s.length) 0 48 = toS (List.replicate (i.toNat - s.length) 48 ++ s) := by
      unfold Builtin.Str.padded toS
      simp
    cases hs : s.head? with
    | none => exact key
    | some c =>
      rw [hs] at h1 h2
      have n1 : c ≠ 43 := fun e => h1 (by rw [e])
      have n2 : c ≠ 45 := fun e => h2 (by rw [e])
      split
      · rename_i e; cases e; exact absurd rfl n1
      · rename_i e; cases e; exact absurd rfl n2
      · exact key
theorem uns_zfill {s : List Nat} (ho : okS s) : UnS K (m1S .zfill s) (fun u H Q => ∃ (a : Str) (i : Int), V.str (toS s) = .str a ∧ [u] = [.int i] ∧ PadOk i = true ∧ Q (.str (Txt.zfill a i)) H) := by
  intro av H y z u Q ht hy e q
  cases y with
  | int i =>
    cases vint hy
    simp only [m1S] at e
    split at e
    · rename_i hc
      cases e
      refine ⟨toS s, i, rfl, rfl, ?_, ?_⟩
      · unfold PadOk fitsSsize Builtin.Str.tooLong
        simp only [Bool.and_eq_true, Bool.not_eq_true', Bool.or_eq_false_iff, decide_eq_false_iff_not]
        rw [sizeLine_eq]
        omega
      · rw [zfill_toS hc.1 hc.2.2.2.1 hc.2.2.2.2]
        refine q _ H (.refl H) (.str _ ⟨?_, fun c h => ?_⟩)
        · rw [List.length_append, List.length_replicate]
          have := hc.2.1
          have := hc.2.2.1
          show _ ≤ 16777216
          omega
        · rcases List.mem_append.mp h with h | h
          · rw [List.eq_of_mem_replicate h]; decide
          · exact ho.2 c h
    · cases e
  | _ => cases e
theorem split_uniq (c : Nat) : ∀ (ps : List (List Nat)), ps ≠ [] → (∀ p ∈ ps, c ∉ p) → splitC c (joinL [c] ps) = ps
  | [], h, _ => absurd rfl h
  | [p], _, hf => by
    have : ∀ p : List Nat, c ∉ p → splitC c p = [p] := by
      intro p
      induction p with
      | nil => intro _; rfl
      | cons x p ih =>
        intro h
        have hx : ¬ x = c := fun e => h (by rw [e]; exact List.mem_cons_self)
        rw [splitC, if_neg hx, ih fun e => h (List.mem_cons_of_mem _ e)]
    exact this p (hf p List.mem_cons_self)
  | p :: q :: r, _, hf => by
    have ih := split_uniq c (q :: r) (by simp) fun p hp => hf p (List.mem_cons_of_mem _ hp)
    have : ∀ p : List Nat, c ∉ p → splitC c (p ++ [c] ++ joinL [c] (q :: r)) = p :: (q :: r) := by
      intro p
      induction p with
      | nil =>
        intro _
        show splitC c (c :: joinL [c] (q :: r)) = _
        rw [splitC, if_pos rfl, ih]
      | cons x p ih2 =>
        intro h
        have hx : ¬ x = c := fun e => h (by rw [e]; exact List.mem_cons_self)
        show splitC c (x :: (p ++ [c] ++ joinL [c] (q :: r))) = _
        rw [splitC, if_neg hx, ih2 fun e => h (List.mem_cons_of_mem _ e)]
    rw [joinL]
    exact this p (hf p List.mem_cons_self)
theorem join_codes (y : Str) : ∀ qs : List Str, (Str.join y qs).cps.toList = joinL y.cps.toList (qs.map fun q => q.cps.toList)
  | [] => rfl
  | [q] => rfl
  | q :: p :: r => by
    have ih := join_codes y (p :: r)
    rw [List.map_cons] at ih
    rw [List.map_cons, List.map_cons, joinL, ← ih]
    show ((q ++ y) ++ Str.join y (p :: r)).cps.toList = _
    show (q.cps ++ y.cps ++ (Str.join y (p :: r)).cps).toList = _
    simp
theorem split_toS (s : List Nat) (c : Nat) : Txt.split (toS s) (toS [c]) = (splitC c s).map toS := by
  have h1 := StrLaws.join_split (toS s) (toS [c])
  have h2 := StrLaws.split_free (toS s) c
  have h3 := PyProof.Rows.split_pos (toS s) (toS [c])
  have e0 : (⟨#[c]⟩ : Str) = toS [c] := rfl
  rw [e0] at h2
  generalize Txt.split (toS s) (toS [c]) = qs at h1 h2 h3
  have h4 := congrArg (fun q : Str => q.cps.toList) h1
  simp only [join_codes, toS_cps] at h4
  have h5 := split_uniq c (qs.map fun q => q.cps.toList) (by
    intro e
    have := congrArg List.length e
    rw [List.length_map] at this
    simp at this
    rw [this] at h3
    simp at h3) (fun p hp => by
    obtain ⟨q, hq, rfl⟩ := List.mem_map.mp hp
    exact h2 q hq)
  rw [h4] at h5
  rw [h5, List.map_map]
  have : (toS ∘ fun q : Str => q.cps.toList) = id := by
    funext q
    cases q
    simp [toS]
  rw [this, List.map_id]
theorem split_mem (c : Nat) : ∀ (s : List Nat), (∀ p ∈ splitC c s, ∀ x ∈ p, x ∈ s) ∧ (∀ p ∈ splitC c s, p.length ≤ s.length)
  | [] => by simp [splitC]
  | x :: xs => by
    have ih := split_mem c xs
    rw [splitC]
    split
    · refine ⟨fun p hp y hy => ?_, fun p hp => ?_⟩
      · rcases List.mem_cons.mp hp with rfl | hp
        · cases hy
        · exact List.mem_cons_of_mem _ (ih.1 p hp y hy)
      · rcases List.mem_cons.mp hp with rfl | hp
        · simp
        · have := ih.2 p hp; simp; omega
    · split
      · refine ⟨fun p hp y hy => ?_, fun p hp => ?_⟩
        · rw [List.mem_singleton.mp hp] at hy
          rw [List.mem_singleton.mp hy]; exact List.mem_cons_self
        · rw [List.mem_singleton.mp hp]; simp
      · rename_i p ps e
        rw [e] at ih
        refine ⟨fun q hq y hy => ?_, fun q hq => ?_⟩
        · rcases List.mem_cons.mp hq with rfl | hq
          · rcases List.mem_cons.mp hy with rfl | hy
            · exact List.mem_cons_self
            · exact List.mem_cons_of_mem _ (ih.1 p List.mem_cons_self y hy)
          · exact List.mem_cons_of_mem _ (ih.1 q (List.mem_cons_of_mem _ hq) y hy)
        · rcases List.mem_cons.mp hq with rfl | hq
          · have := ih.2 p List.mem_cons_self; simp; omega
          · have := ih.2 q (List.mem_cons_of_mem _ hq); simp; omega
theorem RepL.strsOf : ∀ {ys : List (List Nat)}, (∀ y ∈ ys, okS y) → RepL K av H (ys.map Dt.str) ((ys.map toS).map V.str)
  | [], _ => .nil
  | y :: ys, h => .cons (.str y (h y List.mem_cons_self)) (RepL.strsOf fun z hz => h z (List.mem_cons_of_mem _ hz))
theorem uns_split {s : List Nat} (ho : okS s) : UnS K (m1S .split s) (fun u H Q => ∃ a b, V.str (toS s) = .str a ∧ [u] = [.str b] ∧ (b.length == 0) = false ∧ a.length + 2 ≤ sizeLine ∧ rNewStrs (Txt.split a b) H Q) := by
  intro av H y z u Q ht hy e q
  cases y with
  | str t =>
    match t, hy, e with
    | [c], hy, e =>
      obtain ⟨rfl, _⟩ := vstr hy
      simp only [m1S] at e
      split at e
      · rename_i hc
        cases e
        refine ⟨toS s, toS [c], rfl, rfl, rfl, by rw [toS_len, sizeLine_eq]; omega, fun p hp => ?_⟩
        rw [split_toS]
        refine q _ _ (same_new hp) (rep_newL ht hp (RepL.strsOf fun y hy => ⟨?_, fun x hx => ho.2 x ((split_mem c s).1 y hy x hx)⟩))
        have := (split_mem c s).2 y hy
        show _ ≤ 16777216
        omega
      · cases e
    | [], hy, e => cases e
    | _ :: _ :: _, hy, e => cases e
  | _ => cases e
theorem uns_join {s : List Nat} (ho : okS s) : UnS K (m1S .join s) (fun u H Q => rJoin K (.str (toS s)) [u] H Q) := by
  intro av H y z u Q ht hy e q
  have key : ∀ (xs : List Dt) (p : Addr) (vs : List V), u = .ref p → (SqL K H p vs ∨ SqT K H p vs) → RepL K av H xs vs → ((allStr xs).bind fun ys => if sumLen ys + ys.length * s.length ≤ lim then some (Dt.str (joinL s ys)) else none) = some z → rJoin K (.str (toS s)) [u] H Q := by
    intro xs p vs e2 hs r e3
    subst e2
    obtain ⟨ys, e4, e5⟩ := Option.bind_eq_some_iff.mp e3
    split at e5
    · rename_i hc
      cases e5
      have hv := r.strs e4
      have hv2 : vs = (ys.map toS).map V.str := by rw [hv, List.map_map]; rfl
      subst hv2
      refine ⟨toS s, p, ys.map toS, rfl, rfl, hs, ?_, ?_⟩
      · rw [sum_len, List.length_map, toS_len]
        exact hc
      · rw [glued_join]
        refine q _ H (.refl H) (.str _ ⟨Nat.le_trans (len_join s ys) hc, fun c h => ?_⟩)
        rcases mem_join h with h | ⟨y, hy, h⟩
        · exact ho.2 c h
        · exact (r.oks e4 y hy).2 c h
    · cases e5
  unfold m1S at e
  split at e
  · obtain ⟨p, vs, rfl, r, rr⟩ := vlst hy
    exact key _ p vs rfl (.inl (.inl r)) rr e
  · obtain ⟨p, vs, rfl, r, rr⟩ := vtup hy
    exact key _ p vs rfl (.inr r) rr e
  · cases e
  all_goals contradiction
end
end PB

set_option Elab.async false
set_option linter.all false
set_option maxRecDepth 100000
set_option maxHeartbeats 4000000
set_option backward.match.sparseCases false
/-! The checker for expressions. -/
namespace PB
open PySem PySem.Spec PyProof.Rows L2

structure Tb where
  fns : List (Str × Nat)
  gls : List Str
  /-- the program's own exceptions, with their fields -/
  xcs : List (Str × List Str) := []
  /-- only exceptions whose context is None; the defs that raise no others -/
  nn : Bool := false
  cln : List Nat := []
  /-- the classes with fields that are raised -/
  xfs : List Nat := []
def TakesB (nn : Bool) (X : Cx) (W : WX) : Prop := match nn with
  | true => L2N.Takes X W
  | false => L2.Takes X W
def CXB (nn : Bool) (P : Program) (w : World) : CXT := match nn with
  | true => L2N.CX P w
  | false => L2.CX P w
theorem takesB0 {nn : Bool} {X : Cx} : TakesB nn X (fun _ _ _ _ => False) := by
  cases nn with
  | true => exact fun u s' ⟨_, _, _, _, _, _, _, _, _, _, _, _, _, _, _, _, w⟩ => w.elim
  | false => exact takes0
theorem passB {nn : Bool} {X : Cx} {W : WX} (tk : TakesB nn X W) (σ : L2.St) : PassesAt (CXB nn X.prog X.w) X σ (WE W σ) := by
  cases nn with
  | true => exact L2N.passAt tk σ
  | false => exact L2.passAt tk σ
/-- ... their classes, as the written part has them -/
def xtK (K : PySem.W.Frag) (L : List (Str × List Str)) : Xt := ⟨fun c => match L[c]? with | some p => (PySem.W.nsIn K mainGlobals p.1).join | none => none, fun c => match L[c]? with | some p => p.2 | none => [], false⟩
abbrev bmVE : List Value := [.type "ValueError", .type "Exception", .type "BaseException", .type "object"]
/-- what the class at C says of itself and of the others -/
def XsOk (XT : Xt) (K : PySem.W.Frag) (c : Nat) (C : Addr) : Prop := L2.ExcC K C ∧ PySem.W.kitOne K (.ref C) (.type "ValueError") = some true ∧ ∀ k D, XT.cls k = some (.ref D) → PySem.W.kitCls K (.ref C) (.ref D) = some (subB c k)
/-- a class of exceptions without fields -/
def XcOk (XT : Xt) (K : PySem.W.Frag) (mg : Str → Option Value) (c : Nat) (x : Str) : Prop := ∃ C : Addr, XT.cls c = some (.ref C) ∧ XT.flds c = [] ∧ mg x = some (.ref C) ∧ PySem.W.excIn K C bmVE "ValueError.__new__" = true ∧
  PySem.W.keepIn K (.ref C) = true ∧ PySem.W.subIn K (.ref C) (.type "BaseException") = some true ∧ PySem.W.typeIn K (.ref C) = some (.type "type") ∧ XsOk XT K c C
/-- any class of exceptions -/
def XnOk (XT : Xt) (K : PySem.W.Frag) (mg : Str → Option Value) (c : Nat) (x : Str) : Prop := ∃ C : Addr, XT.cls c = some (.ref C) ∧ mg x = some (.ref C) ∧ PySem.W.subIn K (.ref C) (.type "BaseException") = some true ∧ XsOk XT K c C
/-- the body of an __init__ that stores what it is handed; fl: the fields, the last one first -/
def iniB (fl ps : List Str) (vis : Str → Bool) : List Stmt → Bool
  | [.Assign [.Attribute (.Name s _) f _] (.Name y _) _] => decide (fl = [f]) && decide (ps = [s, y]) && vis s && vis y
  | [.Assign [.Attribute (.Name s _) f _] (.Name y _) _, .Assign [.Attribute (.Name s2 _) f2 _] (.Name y2 _) _] => decide (fl = [f2, f]) && decide (ps = [s, y, y2]) && decide (s2 = s) && vis s && vis y && vis y2
  | _ => false
/-- the def at fI is an __init__ that stores what it is handed -/
def IniIs (K : PySem.W.Frag) (fI : Addr) (fd : FuncData) (ps fl : List Str) (vis : Scope → Str → Bool) : Prop := ∃ (st : Stmt) (qual : Str) (oc : Value) (od : Option Addr) (kV doc pm : Value) (an : Option Addr) (cdv ct : Value) (osl : Array (Option Value)),
  fd = PySem.W.fnOf "__init__" qual (defArgs st) (defBody st) (defScope st) .none kV doc pm an cdv ct ∧ K.lookup fI = some ⟨oc, od, .func fd, osl⟩ ∧ PySem.W.codeIn K cdv qual = true ∧ FnScope ps ps (defScope st) ∧
  (∀ us : List Value, us.length = ps.length → bindArgs fd ⟨us, []⟩ = pure (ps.zip us)) ∧ iniB fl ps (vis (defScope st)) (defBody st) = true
def isGl (sc : Scope) (x : Str) : Bool := match sc.names.lookup x with
  | some .globalImplicit => !(x == ("__debug__" : Str))
  | _ => false
def isVis (sc : Scope) (x : Str) : Bool := (match sc.names.lookup x with
  | some .local => true
  | some .cell => true
  | some .free => true
  | _ => false) && !(x == ("__debug__" : Str)) && !(x == ("__classdict__" : Str))
/-- a class of exceptions with fields -/
def XfOk (XT : Xt) (K : PySem.W.Frag) (mg : Str → Option Value) (c : Nat) (x : Str) (fl : List Str) : Prop := ∃ (C fI : Addr) (fd : FuncData) (ps : List Str), XT.cls c = some (.ref C) ∧ XT.flds c = fl ∧ mg x = some (.ref C) ∧ L2.OexC K C ∧
  (∀ f ∈ fl, PySem.W.findIn K (.ref C) f = some none) ∧ PySem.W.findIn K (.ref C) "__init__" = some (some (.ref fI)) ∧ PySem.W.typeIn K (.ref fI) = some (.type "function") ∧ IniIs K fI fd ps fl isVis
/-- a target's name: of a def's own, or of a comprehension's own -/
def isTg (sc : Scope) (cell : Str → Bool) (x : Str) : Bool := match sc.names.lookup x with
  | some .local => true
  | some .cell => cell x
  | _ => false
def plainE : Expr → Bool
  | .Starred _ _ => false
  | .Slice _ _ _ _ => false
  | .Set _ _ _ => false
  | .Call _ [] _ _ => false
  | _ => true
def bopB : Bop → Operator → Bool
  | .add, .Add => true
  | .sub, .Sub => true
  | .mul, .Mult => true
  | .fdiv, .FloorDiv => true
  | .mod, .Mod => true
  | _, _ => false
def copB : Cop → CmpOp → Bool
  | .eq, .Eq => true
  | .ne, .NotEq => true
  | .lt, .Lt => true
  | .le, .LtE => true
  | .gt, .Gt => true
  | .ge, .GtE => true
  | .is, .Is => true
  | .isnot, .IsNot => true
  | .inn, .In => true
  | .notin, .NotIn => true
  | _, _ => false
theorem bopB_eq {o : Bop} {p : Operator} (h : bopB o p = true) : p = pyBop o := by cases o <;> cases p <;> first | rfl | cases h
theorem copB_eq {o : Cop} {p : CmpOp} (h : copB o p = true) : p = pyCop o := by cases o <;> cases p <;> first | rfl | cases h
def Exs.len : Exs → Nat
  | .nil => 0
  | .cons _ r => r.len + 1
/-- a target's names with their places -/
def ownOf : Tg → Expr → List (Str × Nat)
  | .one i, .Name x _ => [(x, i)]
  | .many is, .Tuple es _ _ => (es.zip is).map fun p => (match p.1 with | .Name x _ => x | _ => "", p.2)
  | .nst i is, .Tuple [.Name x _, .Tuple es _ _] _ _ => (x, i) :: (es.zip is).map fun p => (match p.1 with | .Name x _ => x | _ => "", p.2)
  | _, _ => []
def chkTgs (N : List Str) (ok : Str → Bool) : List Nat → List Expr → Bool
  | [], [] => true
  | i :: is, .Name x _ :: es => decide (N[i]? = some x) && ok x && chkTgs N ok is es
  | _, _ => false
def chkTg (N : List Str) (ok : Str → Bool) : Tg → Expr → Bool
  | .one i, .Name x _ => decide (N[i]? = some x) && ok x
  | .many is, .Tuple es _ _ => chkTgs N ok is es
  | .nst i is, .Tuple [.Name x _, .Tuple es _ _] _ _ => decide (N[i]? = some x) && ok x && chkTgs N ok is es
  | _, _ => false
def isTuple : Expr → Bool
  | .Tuple _ _ _ => true
  | _ => false

def PD.p1 : PD → P1
  | .len => .len | .list => .list | .sorted => .sorted
def dinB : Bool → CmpOp → Bool
  | false, .In => true
  | true, .NotIn => true
  | _, _ => false
def pyDin (neg : Bool) : CmpOp := if neg = true then .NotIn else .In
theorem dinB_eq {neg : Bool} {op : CmpOp} (h : dinB neg op = true) : op = pyDin neg := by cases neg <;> cases op <;> first | rfl | cases h
set_option backward.match.sparseCases true
mutual
def chkE (T : Tb) (N : List Str) (sc : Scope) : Ex → Expr → Bool
  | .v i, .Name x _ => decide (N[i]? = some x) && isVis sc x
  | .non, .Constant .none _ _ => true
  | .bl b, .Constant (.bool c) _ _ => b == c
  | .int i, .Constant (.int j) _ _ => i == j
  | .str s, .Constant (.str x) _ _ => decide (x = toS s) && decide (s.length ≤ lim) && s.all (fun c => decide (c < 1114112))
  | .g k, .Name x _ => decide (T.gls[k]? = some x) && isGl sc x
  | .bin o a b, .BinOp x op y _ => bopB o op && chkE T N sc a x && chkE T N sc b y
  | .neg a, .UnaryOp .USub x _ => chkE T N sc a x
  | .not a, .UnaryOp .Not x _ => chkE T N sc a x
  | .and es, .BoolOp .And xs _ => chkEs T N sc es xs && !es.isNil
  | .or es, .BoolOp .Or xs _ => chkEs T N sc es xs && !es.isNil
  | .cmp o a b, .Compare x [op] [y] _ => copB o op && chkE T N sc a x && chkE T N sc b y && plainE y
  | .cmp2 o o' a b c, .Compare x [op, op'] [y, z] _ => copB o op && copB o' op' && chkE T N sc a x && chkE T N sc b y && chkE T N sc c z && plainE z
  | .call f es, .Call (.Name x _) xs [] _ => decide (T.fns[f]? = some (x, es.len)) && isGl sc x && chkEs T N sc es xs && !es.isNil && (!T.nn || decide (f ∈ T.cln))
  | .call0 f, .Call (.Name x _) [] [] _ => decide (T.fns[f]? = some (x, 0)) && isGl sc x && (!T.nn || decide (f ∈ T.cln))
  | .p1 p a, .Call (.Name x _) [y] [] _ => decide (x = Str.ofString (pyP1 p)) && isGl sc x && chkE T N sc a y && plainE y
  | .lens a, .Call (.Name x _) [.Call (.Name x2 _) [y] [] _] [] _ => decide (x = "len") && isGl sc x && decide (x2 = "set") && isGl sc x2 && chkE T N sc a y && plainE y
  | .ssort a, .Call (.Name x _) [.Call (.Name x2 _) [y] [] _] [] _ => decide (x = "sorted") && isGl sc x && decide (x2 = "set") && isGl sc x2 && chkE T N sc a y && plainE y
  | .find a c i, .Call (.Attribute x n ap) [.Constant (.str z) _ _, y] [] cp => decide (n = "find") && decide (z = toS [c]) && (ap.endLine == cp.line) && chkE T N sc a x && chkE T N sc i y && plainE x && plainE y
  | .popi i e, .Call (.Attribute (.Name x px) n ap) [y] [] cp => decide (n = "pop") && (ap.endLine == cp.line) && decide (N[i]? = some x) && isVis sc x && chkE T N sc e y && plainE y
  | .lrng a, .Call (.Name x _) [.Call (.Name x2 _) [y] [] _] [] _ => decide (x = "list") && isGl sc x && decide (x2 = "range") && isGl sc x2 && chkE T N sc a y && plainE y
  | .isi a t, .Call (.Name x _) [y, .Name z _] [] _ => decide (x = "isinstance") && isGl sc x && decide (z = Str.ofString (pyTy t)) && isGl sc z && chkE T N sc a y && plainE y
  | .isi2 a t u, .Call (.Name x _) [y, .Tuple [.Name z _, .Name z2 _] _ _] [] _ => decide (x = "isinstance") && isGl sc x && decide (z = Str.ofString (pyTy t)) && isGl sc z && decide (z2 = Str.ofString (pyTy u)) && isGl sc z2 && chkE T N sc a y && plainE y
  | .m1 m a b, .Call (.Attribute x n ap) [y] [] cp => decide (n = Str.ofString (pyM1 m)) && (ap.endLine == cp.line) && chkE T N sc a x && chkE T N sc b y && plainE x && plainE y
  | .b2 o a b, .Call (.Name x _) [y, z] [] _ => decide (x = Str.ofString (pyB2 o)) && isGl sc x && chkE T N sc a y && plainE y && chkE T N sc b z && plainE z
  | .rev a, .Subscript x (.Slice none none (some (.UnaryOp .USub (.Constant (.int 1) _ _) _)) _) _ => chkE T N sc a x
  | .ix a i, .Subscript x y _ => chkE T N sc a x && chkE T N sc i y && plainE y
  | .sl a lo hi, .Subscript x (.Slice l h none _) _ => chkE T N sc a x && chkO T N sc lo l && chkO T N sc hi h
  | .tup es, .Tuple xs _ _ => chkEs T N sc es xs
  | .lst es, .List xs _ => chkEs T N sc es xs
  | .lc elt tg it ifs, .ListComp x [⟨t, i, cs, 0⟩] scope _ => chkI T N sc it i && (match it with | .enm _ => isTuple t | .zip _ _ => isTuple t | _ => true) && blkC N sc scope (ownOf tg t) && plainE i &&
      chkTg N (isTg (relS scope sc) fun x => scope.names.lookup x == some .cell) tg t && chkEs T N (relS scope sc) ifs cs && chkE T N (relS scope sc) elt x
  | .lcz elt tg it ifs, .ListComp x [⟨t, i, cs, 0⟩] scope _ => chkI T N sc it i && (match it with | .enm _ => isTuple t | .zip _ _ => isTuple t | _ => true) && blkC N sc scope (ownOf tg t) && plainE i &&
      chkTg N (isTg (relS scope sc) fun x => scope.names.lookup x == some .cell) tg t && chkEs T N (relS scope sc) ifs cs && chkE T N (relS scope sc) elt x
  | .dnew, .Dict [] [] _ => true
  | .dict a, .Call (.Name x _) [y] [] _ => decide (x = "dict") && isGl sc x && chkE T N sc a y && plainE y
  | .dix a k, .Subscript x y _ => chkE T N sc a x && chkE T N sc k y && plainE y
  | .dget a k d, .Call (.Attribute x n ap) [y, z] [] cp => decide (n = "get") && (ap.endLine == cp.line) && chkE T N sc a x && chkE T N sc k y && chkE T N sc d z && plainE x && plainE y && plainE z
  | .din neg k a, .Compare x [op] [y] _ => dinB neg op && chkE T N sc k x && chkE T N sc a y && plainE y
  | .pd p a, .Call (.Name x _) [y] [] _ => decide (x = Str.ofString (pyP1 p.p1)) && isGl sc x && chkE T N sc a y && plainE y
  | _, _ => false
def chkEs (T : Tb) (N : List Str) (sc : Scope) : Exs → List Expr → Bool
  | .nil, [] => true
  | .cons e es, x :: xs => chkE T N sc e x && plainE x && chkEs T N sc es xs
  | _, _ => false
def chkO (T : Tb) (N : List Str) (sc : Scope) : Exo → Option Expr → Bool
  | .no, none => true
  | .yes e, some x => chkE T N sc e x
  | _, _ => false
def chkI (T : Tb) (N : List Str) (sc : Scope) : Itx → Expr → Bool
  | .seq e, x => chkE T N sc e x
  | .rng1 e, .Call (.Name x _) [y] [] _ => decide (x = "range") && isGl sc x && chkE T N sc e y && plainE y
  | .rng2 a b, .Call (.Name x _) [y, z] [] _ => decide (x = "range") && isGl sc x && chkE T N sc a y && plainE y && chkE T N sc b z && plainE z
  | .zip a b, .Call (.Name x _) [y, z] [] _ => decide (x = "zip") && isGl sc x && chkE T N sc a y && plainE y && chkE T N sc b z && plainE z
  | .enm e, .Call (.Name x _) [y] [] _ => decide (x = "enumerate") && isGl sc x && chkE T N sc e y && plainE y
  | _, _ => false
end
set_option backward.match.sparseCases false

/-- names of builtins that must be the builtins' own -/
def bltNames : List String := ["len", "all", "any", "tuple", "list", "str", "int", "isinstance", "bool", "range", "enumerate", "zip", "sorted", "dict", "set", "min", "max", "ValueError"]

/-- the promise of a def by its meaning -/
def spF (XT : Xt) (K : KF) (n : Nat) (call : List Wv → Sr → Rs (Wv × Sr)) : Sp := fun vs H Q E => ∃ fo φ st ws, Sok K fo φ H st ∧ Paired (RepW K fo φ H) ws vs ∧ ws.length = n ∧
  Go K (fun c fs _ φ' H' => ∀ cls d, XRep XT K (fo ++ φ') H' c fs cls d → E cls d H') fo φ H (call ws st) (fun w _ φ' H' => ∀ v, RepW K fo φ' H' w v → Q v H')

structure CxOk (XT : Xt) (T : Tb) (Γ : Gam) (N : List Str) (X : Cx) (W : WX) (sc : Scope) : Prop where
  n : X.N = N
  nd : X.N.Nodup
  scope : X.env.scope = sc
  calm : X.calm = true
  units : X.A.units + 65 < cLine
  room : Room 2 X.A
  takes : TakesB XT.nn X W
  tn : T.nn = XT.nn
  glob : ∀ (k : Nat) (x : Str), T.gls[k]? = some x → ∃ (d : Dt) (v : V) (u : Value), Γ.glob[k]? = some d ∧ X.mg x = some u ∧ RelV v u ∧ ∀ av H, Rep X.KF av H d v
  blt : ∀ x ∈ bltNames, X.mg (Str.ofString x) = none
  xc : (∀ (c : Nat) (x : Str), T.xcs[c]? = some (x, []) → XcOk XT X.KF X.mg c x) ∧ (∀ (k : Nat) (C : Value), XT.cls k = some C → ∃ A, C = .ref A ∧ XsOk XT X.KF k A) ∧ (∀ (c : Nat) (x : Str) (fl : List Str), T.xcs[c]? = some (x, fl) → XnOk XT X.KF X.mg c x) ∧
    ∀ (c : Nat) (x : Str) (fl : List Str), c ∈ T.xfs → T.xcs[c]? = some (x, fl) → XfOk XT X.KF X.mg c x fl
  fn : ∀ (f : Nat) (x : Str) (n : Nat), T.fns[f]? = some (x, n) → (T.nn = true → f ∈ T.cln) → ∃ (k : Nat) (a : Addr) (fd : FuncData) (ps : List Str),
    FnOk X.prog X.w X.KF X.mg X.base (CXB XT.nn X.prog X.w) k a fd ps (spF XT X.KF n (Γ.call f)) ∧ Room k X.A ∧ X.mg x = some (.ref a) ∧ PySem.W.keepIn X.KF (.ref a) = true ∧ Binds X.KF fd ps [] ∧ ps.length = n
  fnN : T.nn = false → ∀ (f : Nat) (x : Str) (n : Nat), T.fns[f]? = some (x, n) → f ∈ T.cln → ∃ (k : Nat) (a : Addr) (fd : FuncData) (ps : List Str),
    FnOk X.prog X.w X.KF X.mg X.base (L2N.CX X.prog X.w) k a fd ps (spF XT X.KF n (Γ.call f)) ∧ Room k X.A ∧ X.mg x = some (.ref a) ∧ PySem.W.keepIn X.KF (.ref a) = true ∧ Binds X.KF fd ps [] ∧ ps.length = n

theorem plainE_star {e : Expr} (h : plainE e = true) (es : List Expr) (env : PySem.Env) : starEach (e :: es) env = (false, eval e env) :: starEach es env := by
  cases e <;> first | rfl | cases h
theorem isGl_gl {sc : Scope} {x : Str} (h : isGl sc x = true) : sc.names.lookup x = some .globalImplicit ∧ (x == ("__debug__" : Str)) = false := by
  unfold isGl at h
  split at h
  · rename_i e
    exact ⟨e, by simpa using h⟩
  · cases h
theorem isVis_vis {sc : Scope} {x : Str} (h : isVis sc x = true) : Vis sc x ∧ (x == ("__debug__" : Str)) = false ∧ (x == ("__classdict__" : Str)) = false := by
  unfold isVis at h
  simp only [Bool.and_eq_true, Bool.not_eq_true'] at h
  refine ⟨?_, h.1.2, h.2⟩
  have h1 := h.1.1
  split at h1
  · rename_i e; exact .inl e
  · rename_i e; exact .inr (.inl e)
  · rename_i e; exact .inr (.inr e)
  · cases h1
theorem plainE_base {e : Expr} (h : plainE e = true) (n : Str) (env : PySem.Env) : attributeBase e n env (eval e env) = eval e env := by
  cases e with
  | Call f as ks p =>
    cases as with
    | nil => cases h
    | cons _ _ => cases f <;> cases ks <;> rfl
  | _ => rfl
theorem plainE_ix {e : Expr} (h : plainE e = true) : PlainIx e := by
  intro o i
  cases e <;> first | rfl | cases h
theorem plainE_mark {e : Expr} (h : plainE e = true) (op : CmpOp) : behindInMarks op e = false := by
  cases e <;> first | rfl | cases h
theorem plainE_set {e : Expr} (h : plainE e = true) (env : PySem.Env) (x : Value) : foldedSetIterable e env x = pure x := by
  cases e <;> first | rfl | cases h
end PB

set_option Elab.async false
set_option linter.all false
set_option maxRecDepth 100000
set_option maxHeartbeats 4000000
set_option backward.match.sparseCases false
/-! Expressions keep their meaning: the pieces. -/
namespace PB
open PySem PySem.Spec PyProof.Rows L2
section
variable {XT : Xt} {T : Tb} {Γ : Gam} {N : List Str} {X : Cx} {W : WX} {sc : Scope} {K : KF} {σ : L2.St} {H : Hp} {Q : VK}

theorem Go.bad {α : Type} {xw : Xw} {fo φ : List Addr} {R : α → Sr → List Addr → Hp → Prop} (h : Go K xw fo φ H (.bad : Rs (α × Sr)) R) : False := h

theorem pe_v {i : Nat} {x : Str} {pos : Pos} (c : CxOk XT T Γ N X W sc) (h1 : N[i]? = some x) (h2 : isVis sc x = true) : PE X (.Name x pos) (tW XT X.KF W (evE Γ (.v i))) := by
  obtain ⟨hv, h3, h4⟩ := isVis_vis h2
  refine PE.weak (pe_var (i := i) (by rw [c.n]; exact h1) (by rw [c.scope]; exact hv) h3 h4) fun σ H Q h => ?_
  obtain ⟨fo, φ, ρ, st, hs, he, h⟩ := h
  unfold evE at h
  split at h
  · rename_i w e
    obtain ⟨v, e1, r⟩ := he.at_ i w e
    exact ⟨v, e1, (Go.run h hs) v r⟩
  · exact h.elim
theorem pe_cst {e : Ex} {d : Dt} {v : V} {pe : Expr} (h : PE X pe (tC v)) (he : ∀ ρ st, evE Γ e ρ st = .ok (.d d, st)) (r : ∀ av H, Rep X.KF av H d v) : PE X pe (tW XT X.KF W (evE Γ e)) := by
  refine PE.weak h fun σ H Q h => ?_
  obtain ⟨fo, φ, ρ, st, hs, _, h⟩ := h
  rw [he] at h
  exact (Go.run h hs) v (r _ _)
theorem pe_gl {k : Nat} {x : Str} {pos : Pos} (c : CxOk XT T Γ N X W sc) (h1 : T.gls[k]? = some x) (h2 : isGl sc x = true) : PE X (.Name x pos) (tW XT X.KF W (evE Γ (.g k))) := by
  obtain ⟨d, v, u, e1, e2, r1, r2⟩ := c.glob k x h1
  obtain ⟨g1, g2⟩ := isGl_gl h2
  refine pe_cst (d := d) (v := v) (pe_glob (show X.env.scope.names.lookup x = _ by rw [c.scope]; exact g1) e2 r1 g2) (fun ρ st => ?_) r2
  unfold evE
  rw [e1]
theorem pe_bin {o : Bop} {a b : Ex} {x y : Expr} {pos : Pos} (ha : PE X x (tW XT X.KF W (evE Γ a))) (hb : PE X y (tW XT X.KF W (evE Γ b))) : PE X (.BinOp x (pyBop o) y pos) (tW XT X.KF W (evE Γ (.bin o a b))) := by
  refine PE.weak (pe_op (op_bop o) ha hb) fun σ H Q h => tW_op2 (ops_bop o) ?_
  exact h
theorem uns_neg : UnS K negD (rU fun i => .int (-i)) := by
  intro av H x z v Q ht hx e q
  unfold negD at e
  split at e
  · cases e
    cases vint hx
    exact ⟨_, rfl, q _ H (.refl H) (.int _)⟩
  · cases e
theorem pe_neg {a : Ex} {x : Expr} {pos : Pos} (ha : PE X x (tW XT X.KF W (evE Γ a))) : PE X (.UnaryOp .USub x pos) (tW XT X.KF W (evE Γ (.neg a))) :=
  PE.weak (L2.pe_un un_neg ha) fun σ H Q h => tW_op1 uns_neg h
theorem tru_view {av : List Addr} {x : Dt} {v : V} (h : VRep K av H x v) : TruV K v H (truthD x) := by
  cases x with
  | non => cases vnon h; rfl
  | bl b => cases vbl h; rfl
  | int i => cases vint h; rfl
  | str s =>
    obtain ⟨rfl, hs⟩ := vstr h
    refine ⟨by rw [toS_len, ← lim_eq]; exact hs.1, ?_⟩
    rw [toS_len]
    cases s <;> simp [truthD]
    omega
  | tup xs =>
    obtain ⟨a, vs, rfl, ha, ra⟩ := vtup h
    refine .inr (.inl ⟨vs, ha, ?_⟩)
    have := ra.length
    cases xs <;> cases vs <;> first | rfl | (simp at this)
  | lst xs =>
    obtain ⟨a, vs, rfl, ha, ra⟩ := vlst h
    refine .inl ⟨vs, .inl ha, ?_⟩
    have := ra.length
    cases xs <;> cases vs <;> first | rfl | (simp at this)
  | scr ns =>
    obtain ⟨a, rfl, r⟩ := vscr h
    refine .inl ⟨_, r, ?_⟩
    cases ns <;> rfl
theorem uns_not : UnS K notD (fun v H Q => ∃ k, TruV K v H k ∧ Q (.bl (!k)) H) := by
  intro av H x z v Q ht hx e q
  cases e
  exact ⟨_, tru_view hx, q _ H (.refl H) (.bl _)⟩
theorem pe_nott {a : Ex} {x : Expr} {pos : Pos} (ha : PE X x (tW XT X.KF W (evE Γ a))) : PE X (.UnaryOp .Not x pos) (tW XT X.KF W (evE Γ (.not a))) :=
  PE.weak (pe_notT ha) fun σ H Q h => tW_op1 uns_not h
theorem pe_cmpE {o : Cop} {a b : Ex} {x y : Expr} {pos : Pos} (hu : X.A.units + 65 < cLine) (ha : PE X x (tW XT X.KF W (evE Γ a))) (hb : PE X y (tW XT X.KF W (evE Γ b))) (hy : plainE y = true) :
    PE X (.Compare x [pyCop o] [y] pos) (tW XT X.KF W (evE Γ (.cmp o a b))) :=
  PE.weak (pe_cmpR (op_cop hu o) ha hb (plainE_mark hy _)) fun σ H Q h => tW_op2 (ops_cop o) h
/-- a value's truth in the store -/
theorem truW_ok {fo φ : List Addr} {st : Sr} {w : Wv} {v : V} {k : Bool} (hs : Sok K fo φ H st) (r : RepW K fo φ H w v) (e : truW (w, st) = .ok k) : TruV K v H k := by
  unfold truW at e
  dsimp only at e
  cases e1 : viewW st w with
  | none => rw [e1] at e; cases e
  | some x =>
    rw [e1] at e
    cases e
    exact tru_view (view_of hs r e1)
theorem truW_exc {p : Wv × Sr} {c : Nat} {fs : List Dt} {sx : Sr} (e : truW p = .exc c fs sx) : False := by
  unfold truW at e
  cases e1 : (viewW p.2 p.1) with
  | none => rw [e1] at e; cases e
  | some x => rw [e1] at e; cases e
/-- the truth of an expression whose test is its value's truth -/
theorem pt_of {a : Ex} {x : Expr} (ha : PE X x (tW XT X.KF W (evE Γ a))) (he : ∀ whole, isTrue x X.env whole = (do let v ← whole; standAt x.pos; holding [v] (truthy v))) : PT X x (tT XT X.KF W (evT Γ a)) := by
  refine PT.weak (pt_truth ha he) fun σ H Q h => ?_
  obtain ⟨fo, φ, ρ, st, hs, he, h⟩ := h
  refine ⟨fo, φ, ρ, st, hs, he, (Go.of_bind h).imp fun w st1 φ1 H1 s1 q1 h1 v rv => ?_⟩
  cases e : truW (w, st1) with
  | ok k =>
    rw [e] at h1
    exact ⟨k, truW_ok q1 rv e, Go.run h1 q1⟩
  | exc c fs sx => exact (truW_exc e).elim
  | bad => rw [e] at h1; exact h1.elim
theorem pt_nott {a : Ex} {x : Expr} {pos : Pos} (ha : PT X x (tT XT X.KF W (evT Γ a))) : PT X (.UnaryOp .Not x pos) (tT XT X.KF W (evT Γ (.not a))) := by
  refine PT.weak (pt_not ha) fun σ H Q h => ?_
  obtain ⟨fo, φ, ρ, st, hs, he, h⟩ := h
  refine ⟨fo, φ, ρ, st, hs, he, ?_⟩
  unfold evT at h ⊢
  unfold evE at h
  cases e : evE Γ a ρ st with
  | bad => rw [e] at h; exact h
  | exc c fs sx => rw [e] at h; exact h
  | ok p =>
    rw [e] at h
    simp only [Rs.bind_ok] at h ⊢
    unfold op1 truW at h
    unfold truW
    cases e2 : viewW p.2 p.1 with
    | none => rw [e2] at h; exact h.elim
    | some z =>
      rw [e2] at h
      exact h
/-- a comparison's value is a truth -/
theorem op2_bl {f : Dt → Dt → Option Bool} {x : Wv} {p q : Wv × Sr} (h : op2 (fun x y => blO (f x y)) x p = .ok q) : ∃ b, q.1 = .d (.bl b) ∧ q.2 = p.2 := by
  unfold op2 at h
  cases e1 : viewW p.2 x with
  | none => rw [e1] at h; cases h
  | some a =>
    cases e2 : viewW p.2 p.1 with
    | none => rw [e1, e2] at h; cases h
    | some b =>
      cases e3 : f a b with
      | none => simp only [e1, e2, e3, Option.bind_some, blO] at h; cases h
      | some k =>
        simp only [e1, e2, e3, Option.bind_some, blO] at h
        cases h
        exact ⟨k, rfl, rfl⟩
/-- every value of it is a truth -/
def BlM (m : Ev → Sr → Rs (Wv × Sr)) : Prop := ∀ ρ st q, m ρ st = .ok q → ∃ b, q.1 = .d (.bl b)
theorem bind_ok_inv {α β : Type} {r : Rs α} {f : α → Rs β} {b : β} (h : r.bind f = .ok b) : ∃ a, r = .ok a ∧ f a = .ok b := by
  cases r with
  | ok a => exact ⟨a, rfl, h⟩
  | exc _ _ => cases h
  | bad => cases h
theorem blM_cmp {o : Cop} {a b : Ex} : BlM (evE Γ (.cmp o a b)) := fun ρ st q h => by
  unfold evE at h
  obtain ⟨p, _, h⟩ := bind_ok_inv h
  obtain ⟨r, _, h⟩ := bind_ok_inv h
  obtain ⟨k, e, _⟩ := op2_bl h
  exact ⟨k, e⟩
theorem blM_cmp2 {o o' : Cop} {a b c : Ex} : BlM (evE Γ (.cmp2 o o' a b c)) := fun ρ st q h => by
  unfold evE at h
  obtain ⟨p, _, h⟩ := bind_ok_inv h
  obtain ⟨r, _, h⟩ := bind_ok_inv h
  obtain ⟨k, e, h⟩ := bind_ok_inv h
  obtain ⟨t, e2, h⟩ := bind_ok_inv h
  split at h
  · obtain ⟨z, _, h⟩ := bind_ok_inv h
    obtain ⟨k, e, _⟩ := op2_bl h
    exact ⟨k, e⟩
  · cases h
    obtain ⟨k, e, _⟩ := op2_bl e
    exact ⟨k, e⟩
/-- as a test: the value's reading, a truth -/
theorem tW_of_tT {e : Ex} {Qb : Bool → Hp → Prop} (hb : BlM (evE Γ e)) (h : tT XT K W (evT Γ e) σ H Qb) : tW XT K W (evE Γ e) σ H (fun x H' => ∃ k, x = .bl k ∧ Qb k H') := by
  obtain ⟨fo, φ, ρ, st, hs, he, h⟩ := h
  refine ⟨fo, φ, ρ, st, hs, he, ?_⟩
  unfold evT at h
  cases e1 : evE Γ e ρ st with
  | bad => rw [e1] at h; exact h
  | exc c fs sx => rw [e1] at h; exact h
  | ok p =>
    rw [e1] at h
    obtain ⟨b, e2⟩ := hb ρ st p e1
    obtain ⟨w, st1⟩ := p
    cases (show w = .d (.bl b) from e2)
    intro φ' H' s' q' v rv
    cases (show Rep K (fo ++ φ') H' (.bl b) v from rv)
    exact ⟨b, rfl, (Go.at_ (r := .ok (b, st1)) h s').run q'⟩
theorem pt_cmpE {o : Cop} {a b : Ex} {x y : Expr} {pos : Pos} (hu : X.A.units + 65 < cLine) (ha : PE X x (tW XT X.KF W (evE Γ a))) (hb : PE X y (tW XT X.KF W (evE Γ b))) (hy : plainE y = true) :
    PT X (.Compare x [pyCop o] [y] pos) (tT XT X.KF W (evT Γ (.cmp o a b))) :=
  PT.weak (pt_cmpR (op_cop hu o) ha hb (plainE_mark hy _)) fun σ H Q h => tW_op2 (ops_cop o) (tW_of_tT blM_cmp h)
theorem op2_cases (f : Dt → Dt → Option Dt) (w : Wv) (p : Wv × Sr) : op2 f w p = .bad ∨ ∃ x y z, viewW p.2 w = some x ∧ viewW p.2 p.1 = some y ∧ f x y = some z ∧ op2 f w p = .ok (.d z, p.2) := by
  unfold op2
  cases e1 : viewW p.2 w with
  | none => exact .inl rfl
  | some x =>
    cases e2 : viewW p.2 p.1 with
    | none => exact .inl rfl
    | some y =>
      cases e3 : f x y with
      | none => exact .inl (by simp only [Option.bind_some, e3]; rfl)
      | some z => exact .inr ⟨x, y, z, rfl, rfl, e3, by simp only [Option.bind_some, e3]; rfl⟩
theorem tW_chain {o o' : Cop} {a b c : Ex} (h : tW XT K W (evE Γ (.cmp2 o o' a b c)) σ H Q) : tChain (rCop K o) (rCop K o') (tW XT K W (evE Γ a)) (tW XT K W (evE Γ b)) (tW XT K W (evE Γ c)) σ H Q := by
  obtain ⟨fo, φ, ρ, st, hs, he, h⟩ := h
  unfold evE at h
  refine ⟨fo, φ, ρ, st, hs, he, (Go.of_bind h).imp fun w st1 φ1 H1 s1 q1 h1 v rv => ?_⟩
  refine ⟨fo, φ1, ρ, st1, q1, he.step s1, (Go.of_bind h1).imp fun w2 st2 φ2 H2 s2 q2 h2 v2 rv2 => ?_⟩
  dsimp only at h2
  rcases op2_cases (fun x y => blO (copD o x y)) w (w2, st2) with e | ⟨x, y, z, e1, e2, e3, e⟩
  · rw [e] at h2; exact h2.elim
  · rw [e] at h2
    obtain ⟨b, rfl⟩ : ∃ b, z = .bl b := by
      cases hc : copD o x y with
      | none => rw [hc] at e3; cases e3
      | some b => rw [hc] at e3; cases e3; exact ⟨b, rfl⟩
    refine ops_cop o (fo ++ φ2) H2 x y (.bl b) v v2 _ q2.trk (view_of q2 (rv.step s2) e1) (view_of q2 rv2 e2) e3 fun u H' sm rz => ?_
    cases rz
    refine ⟨b, rfl, ?_⟩
    have s3 : Step φ2 H2 φ2 H' := Step.same sm
    have q3 := q2.same sm
    have h3 : Go K (xwOf XT K W σ fo) fo φ2 H2 (if b = true then (evE Γ c ρ st2).bind fun r => op2 (fun x y => blO (copD o' x y)) w2 r else .ok (.d (.bl b), st2)) (fun w x φ' H' => ∀ v, RepW K fo φ' H' w v → Q v H') := h2
    cases b with
    | false =>
      rw [if_neg Bool.false_ne_true] at h3 ⊢
      exact (Go.run (Go.at_ h3 s3) q3) _ (Rep.bl _)
    | true =>
      rw [if_pos rfl] at h3 ⊢
      refine ⟨fo, φ2, ρ, st2, q3, (he.step s1).step (s2.trans s3), (Go.of_bind (Go.at_ h3 s3)).imp fun w4 st4 φ4 H4 s4 q4 h4 v4 rv4 => ?_⟩
      rcases op2_cases (fun x y => blO (copD o' x y)) w2 (w4, st4) with e | ⟨x5, y6, z7, e5, e6, e7, e⟩
      · rw [e] at h4; exact h4.elim
      · rw [e] at h4
        exact ops_cop o' (fo ++ φ4) H4 x5 y6 z7 v2 v4 Q q4.trk (view_of q4 (rv2.step (s3.trans s4)) e5) (view_of q4 rv4 e6) e7 fun u H' sm rz => h4 φ4 H' (Step.same sm) (q4.same sm) u rz
theorem marks2 {op op' : CmpOp} {b c : Expr} (h : plainE c = true) : lastMarks [op, op'] [b, c] = false := by
  show behindInMarks op' c = false
  exact plainE_mark h _
theorem pe_cmp2E {o o' : Cop} {a b c : Ex} {x y z : Expr} {pos : Pos} (hu : X.A.units + 65 < cLine) (ha : PE X x (tW XT X.KF W (evE Γ a))) (hb : PE X y (tW XT X.KF W (evE Γ b))) (hc : PE X z (tW XT X.KF W (evE Γ c))) (hz : plainE z = true) :
    PE X (.Compare x [pyCop o, pyCop o'] [y, z] pos) (tW XT X.KF W (evE Γ (.cmp2 o o' a b c))) :=
  PE.weak (pe_chain (op_cop hu o) (op_cop hu o') ha hb hc (marks2 hz)) fun σ H Q h => tW_chain h
theorem pt_cmp2E {o o' : Cop} {a b c : Ex} {x y z : Expr} {pos : Pos} (hu : X.A.units + 65 < cLine) (ha : PE X x (tW XT X.KF W (evE Γ a))) (hb : PE X y (tW XT X.KF W (evE Γ b))) (hc : PE X z (tW XT X.KF W (evE Γ c))) (hz : plainE z = true) :
    PT X (.Compare x [pyCop o, pyCop o'] [y, z] pos) (tT XT X.KF W (evT Γ (.cmp2 o o' a b c))) :=
  PT.weak (pt_chain (op_cop hu o) (op_cop hu o') ha hb hc (marks2 hz)) fun σ H Q h => tW_chain (tW_of_tT blM_cmp2 h)
/-- a tuple's display: the new tuple has no dict of its own -/
def tTupF (t : TA) : TE := fun σ H Q => t σ H fun xs H1 => xs.length ≤ sizeLine ∧ NewT H1 xs Q
theorem pe_tupF {es : List Expr} {t : TA} {pos : Pos} {k : Nat} (h : PA X es t) : PE X (.Tuple es k pos) (tTupF t) := by
  refine ⟨fun pins s σ H Q I hq => wpAny_Tuple_spliced (thn (h.run pos pins s σ H _ I hq) fun us z ⟨xs, H1, J, rel, few, q⟩ => ⟨by rw [← rel.length]; exact few, ?_⟩)⟩
  exact ⟨.ref z.heap.objs.size, _, J.laidT (t' := z.toks) rel few, rfl, q _ _ (J.hok.fresh (Nat.le_refl _)) rfl⟩
/-! #### argument lists -/
theorem pa_consE {e : Ex} {es : Exs} {x : Expr} {xs : List Expr} (ha : PE X x (tW XT X.KF W (evE Γ e))) (hr : PA X xs (tL XT X.KF W (evEs Γ es))) (hx : plainE x = true) : PA X (x :: xs) (tL XT X.KF W (evEs Γ (.cons e es))) := by
  refine PA.weak (pa_cons ha hr (plainE_star hx _ _)) fun σ H Q h => ?_
  obtain ⟨fo, φ, ρ, st, hs, he, h⟩ := h
  unfold evEs at h
  refine ⟨fo, φ, ρ, st, hs, he, (Go.of_bind h).imp fun w st1 φ1 H1 s1 q1 h1 v rv => ?_⟩
  refine ⟨fo, φ1, ρ, st1, q1, he.step s1, (Go.of_bind h1).imp fun ws st2 φ2 H2 s2 q2 h2 vs rvs => ?_⟩
  exact (Go.run h2 q2) (v :: vs) (.cons (rv.step s2) rvs)
theorem pa_nilE : PA X [] (tL XT X.KF W (evEs Γ .nil)) := by
  refine PA.weak pa_nil fun σ H Q h => ?_
  obtain ⟨fo, φ, ρ, st, hs, he, h⟩ := h
  unfold evEs at h
  exact (Go.run h hs) [] .nil
theorem mapD_rep {fo φ : List Addr} : ∀ {ws : List Wv} {vs : List V} {xs : List Dt}, Paired (RepW K fo φ H) ws vs → mapD ws = some xs → RepL K (fo ++ φ) H xs vs
  | _, _, xs, .nil, e => by simp [mapD] at e; subst e; exact .nil
  | w :: ws, _, xs, .cons h r, e => by
    cases w with
    | d x =>
      simp only [mapD, Option.map_eq_some_iff] at e
      obtain ⟨ys, e1, rfl⟩ := e
      exact .cons h (mapD_rep r e1)
    | ob n => simp [mapD] at e
    | dc kvs => simp [mapD] at e
theorem paired_len {α β : Type} {R : α → β → Prop} : ∀ {xs : List α} {ys : List β}, Paired R xs ys → xs.length = ys.length := fun h => Paired.length h
theorem pe_tupE {es : Exs} {xs : List Expr} {k : Nat} {pos : Pos} (h : PA X xs (tL XT X.KF W (evEs Γ es))) : PE X (.Tuple xs k pos) (tW XT X.KF W (evE Γ (.tup es))) := by
  refine PE.weak (pe_tupF h) fun σ H Q h => ?_
  obtain ⟨fo, φ, ρ, st, hs, he, h⟩ := h
  unfold evE at h
  refine ⟨fo, φ, ρ, st, hs, he, (Go.of_bind h).imp fun ws st1 φ1 H1 s1 q1 h1 vs rv => ?_⟩
  unfold mkTup at h1
  dsimp only at h1
  split at h1
  · rename_i hl
    refine ⟨by rw [← Paired.length rv, ← lim_eq]; exact hl, fun p o hp ho => ?_⟩
    cases e : mapD ws with
    | none => rw [e] at h1; exact h1.elim
    | some ds =>
      rw [e] at h1
      have sm : Same H1 (upd H1 p (.frz o (.tup vs))) := same_new hp
      exact h1 φ1 _ (Step.same sm) (q1.same sm) _ (rep_newF q1.trk hp ho (mapD_rep rv e))
  · exact h1.elim
/-- a fresh list's reading: the list stands alone at a new place -/
def tF (XT : Xt) (K : KF) (W : WX) (m : Ev → Sr → Rs (Wv × Sr)) : TE := fun σ H Q => ∃ fo φ ρ st, Sok K fo φ H st ∧ EnvOk K fo φ H ρ σ ∧
  Go K (xwOf XT K W σ fo) fo φ H (m ρ st) (fun w st' φ' H' => ∀ xs vs p, w = .d (.lst xs) → H' p = none → RepL K (fo ++ φ') H' xs vs → Q (.ref p) (upd H' p (.lst vs)))
theorem tW_tF {m : Ev → Sr → Rs (Wv × Sr)} (h : tW XT K W m σ H Q) : tF XT K W m σ H Q := by
  obtain ⟨fo, φ, ρ, st, hs, he, h⟩ := h
  refine ⟨fo, φ, ρ, st, hs, he, ?_⟩
  cases e : m ρ st with
  | bad => rw [e] at h; exact h
  | exc c fs sx => rw [e] at h; exact h
  | ok p =>
    rw [e] at h
    intro φ' H' s' q' xs vs a ew ha r
    have sm : Same H' (upd H' a (.lst vs)) := same_new ha
    refine h φ' _ (s'.trans (Step.same sm)) (q'.same sm) _ ?_
    rw [ew]
    exact rep_newL q'.trk ha r
theorem pe_lstF {es : Exs} {xs : List Expr} {pos : Pos} (h : PA X xs (tL XT X.KF W (evEs Γ es))) : PE X (.List xs pos) (tF XT X.KF W (evE Γ (.lst es))) := by
  refine PE.weak (pe_lst h) fun σ H Q h => ?_
  obtain ⟨fo, φ, ρ, st, hs, he, h⟩ := h
  unfold evE at h
  refine ⟨fo, φ, ρ, st, hs, he, (Go.of_bind h).imp fun ws st1 φ1 H1 s1 q1 h1 vs rv => ?_⟩
  unfold mkLst at h1
  dsimp only at h1
  split at h1
  · rename_i hl
    refine ⟨by rw [← Paired.length rv, ← lim_eq]; exact hl, fun p hp => ?_⟩
    cases e : mapD ws with
    | none => rw [e] at h1; exact h1.elim
    | some ds =>
      rw [e] at h1
      exact (Go.run h1 q1) ds vs p rfl hp (mapD_rep rv e)
  · exact h1.elim
end
end PB

set_option Elab.async false
set_option linter.all false
set_option maxRecDepth 100000
set_option maxHeartbeats 4000000
set_option backward.match.sparseCases false
/-! Expressions keep their meaning: calls, builtins, walks, comprehensions. -/
namespace PB
open PySem PySem.Spec PyProof.Rows L2
section
variable {XT : Xt} {T : Tb} {Γ : Gam} {N : List Str} {X : Cx} {W : WX} {sc : Scope} {K : KF} {σ : L2.St} {H : Hp} {Q : VK}

theorem CxOk.gl (c : CxOk XT T Γ N X W sc) {x : Str} (h : isGl sc x = true) : Gl X x := by
  show X.env.scope.names.lookup x = _
  rw [c.scope]
  exact (isGl_gl h).1
theorem boot_p1 (p : P1) : bootBuiltins (Str.ofString (pyP1 p)) = some (valP1 p) := by cases p <;> decide +kernel
theorem ne_p1 (p : P1) : Str.ofString (pyP1 p) ≠ ("__name__" : Str) := by cases p <;> decide +kernel
theorem mem_p1 (p : P1) : pyP1 p ∈ bltNames := by cases p <;> decide
theorem one_arg {es : List Expr} {pos : Pos} {env : PySem.Env} : (backTo pos (starEach [] env)).any (·.1) = false := rfl
theorem pa_one {a : Ex} {y : Expr} (ha : PE X y (tW XT X.KF W (evE Γ a))) (hy : plainE y = true) : PA X [y] (tCons (tW XT X.KF W (evE Γ a)) tNil) := pa_cons ha pa_nil (plainE_star hy _ _)
theorem pe_p1E {p : P1} {a : Ex} {y : Expr} {pn pos : Pos} (c : CxOk XT T Γ N X W sc) (hg : isGl sc (Str.ofString (pyP1 p)) = true) (ha : PE X y (tW XT X.KF W (evE Γ a))) (hy : plainE y = true) :
    PE X (.Call (.Name (Str.ofString (pyP1 p)) pn) [y] [] pos) (tW XT X.KF W (evE Γ (.p1 p a))) := by
  have hb := boot_p1 p
  have hc := call_p1 (X := X) c.calm c.units p
  have hm := c.blt _ (mem_p1 p)
  have key : PE X (.Call (.Name (Str.ofString (pyP1 p)) pn) [y] [] pos) (tCB (rP1 X.KF p) (tCons (tW XT X.KF W (evE Γ a)) tNil)) := by
    unfold valP1 at hb hc
    cases ht : p1Ty p with
    | true =>
      rw [ht] at hb hc
      exact pe_callTy hc (c.gl hg) hm hb (pa_one ha hy) (ne_p1 p) (isGl_gl hg).2 (plainE_star hy _ _) rfl
    | false =>
      rw [ht] at hb hc
      exact pe_callB hc (c.gl hg) hm hb (pa_one ha hy) (ne_p1 p) (isGl_gl hg).2 (plainE_star hy _ _) rfl
  refine PE.weak key fun σ H Q h => ?_
  exact tW_op1 (uns_p1 p) h
theorem boot_b2 (p : B2) : bootBuiltins (Str.ofString (pyB2 p)) = some (.builtin (pyB2 p)) := by cases p <;> decide +kernel
theorem ne_b2 (p : B2) : Str.ofString (pyB2 p) ≠ ("__name__" : Str) := by cases p <;> decide +kernel
theorem mem_b2 (p : B2) : pyB2 p ∈ bltNames := by cases p <;> decide
theorem pe_b2E {o : B2} {a b : Ex} {y z : Expr} {pn pos : Pos} (c : CxOk XT T Γ N X W sc) (hg : isGl sc (Str.ofString (pyB2 o)) = true) (ha : PE X y (tW XT X.KF W (evE Γ a))) (hy : plainE y = true) (hb : PE X z (tW XT X.KF W (evE Γ b))) (hz : plainE z = true) :
    PE X (.Call (.Name (Str.ofString (pyB2 o)) pn) [y, z] [] pos) (tW XT X.KF W (evE Γ (.b2 o a b))) := by
  have hA : PA X [y, z] (tCons (tW XT X.KF W (evE Γ a)) (tCons (tW XT X.KF W (evE Γ b)) tNil)) := pa_cons ha (pa_cons hb pa_nil (plainE_star hz _ _)) (plainE_star hy _ _)
  refine PE.weak (pe_callB (call_b2 c.calm o) (c.gl hg) (c.blt _ (mem_b2 o)) (boot_b2 o) hA (ne_b2 o) (isGl_gl hg).2 (plainE_star hy _ _) (by rw [plainE_star hz]; rfl)) fun σ H Q h => ?_
  exact tW_op2 (ops_b2 o) h
def tyP : Ty → Value := fun t => .type (pyTy t)
theorem boot_ty (t : Ty) : bootBuiltins (Str.ofString (pyTy t)) = some (.type (pyTy t)) := by cases t <;> decide +kernel
theorem ne_ty (t : Ty) : Str.ofString (pyTy t) ≠ ("__name__" : Str) := by cases t <;> decide +kernel
theorem mem_ty (t : Ty) : pyTy t ∈ bltNames := by cases t <;> decide
theorem boot_isi : bootBuiltins ("isinstance" : Str) = some (.builtin "isinstance") := by decide +kernel
theorem pe_isiE {t : Ty} {a : Ex} {y : Expr} {pn pz pos : Pos} (c : CxOk XT T Γ N X W sc) (hg : isGl sc "isinstance" = true) (hz : isGl sc (Str.ofString (pyTy t)) = true) (ha : PE X y (tW XT X.KF W (evE Γ a))) (hy : plainE y = true) :
    PE X (.Call (.Name "isinstance" pn) [y, .Name (Str.ofString (pyTy t)) pz] [] pos) (tW XT X.KF W (evE Γ (.isi a t))) := by
  have hT : PE X (.Name (Str.ofString (pyTy t)) pz) (tC (.ty (pyTy t))) := pe_bltn (v := .ty (pyTy t)) (c.gl hz) (c.blt _ (mem_ty t)) (boot_ty t) rfl (ne_ty t) (isGl_gl hz).2
  have hA : PA X [y, .Name (Str.ofString (pyTy t)) pz] (tCons (tW XT X.KF W (evE Γ a)) (tCons (tC (.ty (pyTy t))) tNil)) := pa_cons ha (pa_cons hT pa_nil rfl) (plainE_star hy _ _)
  refine PE.weak (pe_callB call_isi (c.gl hg) (c.blt "isinstance" (by decide)) boot_isi hA (by decide +kernel) (isGl_gl hg).2 (plainE_star hy _ _) rfl) fun σ H Q h => ?_
  exact tW_op1 (uns_isi t) h
theorem pe_isi2E {t u : Ty} {a : Ex} {y : Expr} {pn pz pz2 pos pt : Pos} {k : Nat} (c : CxOk XT T Γ N X W sc) (hg : isGl sc "isinstance" = true) (hz : isGl sc (Str.ofString (pyTy t)) = true) (hz2 : isGl sc (Str.ofString (pyTy u)) = true) (ha : PE X y (tW XT X.KF W (evE Γ a))) (hy : plainE y = true) :
    PE X (.Call (.Name "isinstance" pn) [y, .Tuple [.Name (Str.ofString (pyTy t)) pz, .Name (Str.ofString (pyTy u)) pz2] k pt] [] pos) (tW XT X.KF W (evE Γ (.isi2 a t u))) := by
  have hT : PE X (.Name (Str.ofString (pyTy t)) pz) (tC (.ty (pyTy t))) := pe_bltn (v := .ty (pyTy t)) (c.gl hz) (c.blt _ (mem_ty t)) (boot_ty t) rfl (ne_ty t) (isGl_gl hz).2
  have hU : PE X (.Name (Str.ofString (pyTy u)) pz2) (tC (.ty (pyTy u))) := pe_bltn (v := .ty (pyTy u)) (c.gl hz2) (c.blt _ (mem_ty u)) (boot_ty u) rfl (ne_ty u) (isGl_gl hz2).2
  have hP : PA X [.Name (Str.ofString (pyTy t)) pz, .Name (Str.ofString (pyTy u)) pz2] (tCons (tC (.ty (pyTy t))) (tCons (tC (.ty (pyTy u))) tNil)) := pa_cons hT (pa_cons hU pa_nil rfl) rfl
  have hA := pa_cons ha (pa_cons (pe_tup (x1 := k) (pos := pt) hP) pa_nil rfl) (plainE_star hy _ _)
  refine PE.weak (pe_callB call_isiT (c.gl hg) (c.blt "isinstance" (by decide)) boot_isi hA (by decide +kernel) (isGl_gl hg).2 (plainE_star hy _ _) rfl) fun σ H Q h => ?_
  have h' := tW_op1 (uns_isi2 t u) (show tW XT X.KF W (fun ρ st => (evE Γ a ρ st).bind (op1 fun x => some (.bl (isiD t x || isiD u x)))) σ H Q from by
    obtain ⟨fo, φ, ρ, st, hs, he, h⟩ := h
    unfold evE at h
    exact ⟨fo, φ, ρ, st, hs, he, h⟩)
  exact h'
theorem RepL.snoc : ∀ {av : List Addr} {xs : List Dt} {vs : List V} {x : Dt} {v : V}, RepL K av H xs vs → Rep K av H x v → RepL K av H (xs ++ [x]) (vs ++ [v])
  | _, _, _, _, _, .nil, h => .cons h .nil
  | _, _, _, _, _, .cons a r, h => .cons a (RepL.snoc r h)
theorem RepL.reverse : ∀ {av : List Addr} {xs : List Dt} {vs : List V}, RepL K av H xs vs → RepL K av H xs.reverse vs.reverse
  | _, _, _, .nil => .nil
  | _, _, _, .cons a r => by
    rw [List.reverse_cons, List.reverse_cons]
    exact RepL.snoc (RepL.reverse r) a
theorem pe_ixE {a i : Ex} {x y : Expr} {pos : Pos} (ha : PE X x (tW XT X.KF W (evE Γ a))) (hb : PE X y (tW XT X.KF W (evE Γ i))) (hy : plainE y = true) : PE X (.Subscript x y pos) (tW XT X.KF W (evE Γ (.ix a i))) :=
  PE.weak (pe_ix ix_seq ha hb (plainE_ix hy)) fun σ H Q h => tW_op2 ops_ix h
theorem po_no : PO X none (tO XT X.KF W (evO Γ .no)) := by
  refine ⟨fun pins s σ H Q I h => po_none.run pins s σ H Q I ?_⟩
  obtain ⟨fo, φ, ρ, st, hs, he, h⟩ := h
  unfold evO at h
  exact Go.run h hs
theorem intW_inv {w : Wv} {i : Int} (h : intW w = some i) : w = .d (.int i) := by
  unfold intW at h
  split at h
  · cases h; rfl
  · cases h
theorem po_yes {e : Ex} {x : Expr} (ha : PE X x (tW XT X.KF W (evE Γ e))) : PO X (some x) (tO XT X.KF W (evO Γ (.yes e))) := by
  refine ⟨fun pins s σ H Q I h => (po_some ha).run pins s σ H Q I ?_⟩
  obtain ⟨fo, φ, ρ, st, hs, he, h⟩ := h
  unfold evO at h
  refine ⟨fo, φ, ρ, st, hs, he, (Go.of_bind h).imp fun w st1 φ1 H1 s1 q1 h1 v rv => ?_⟩
  dsimp only at h1
  cases e1 : intW w with
  | none => rw [e1] at h1; exact h1.elim
  | some i =>
    rw [e1] at h1
    cases intW_inv e1
    cases (show Rep X.KF (fo ++ φ1) H1 (.int i) v from rv)
    exact ⟨i, rfl, Go.run h1 q1⟩
theorem pe_slE {a : Ex} {lo hi : Exo} {x : Expr} {l h : Option Expr} {p2 pos : Pos} (ha : PE X x (tW XT X.KF W (evE Γ a))) (hl : PO X l (tO XT X.KF W (evO Γ lo))) (hh : PO X h (tO XT X.KF W (evO Γ hi))) :
    PE X (.Subscript x (.Slice l h none p2) pos) (tW XT X.KF W (evE Γ (.sl a lo hi))) := by
  refine PE.weak (pe_slice sl_any ha hl hh) fun σ H Q h => ?_
  obtain ⟨fo, φ, ρ, st, hs, he, h⟩ := h
  unfold evE at h
  refine ⟨fo, φ, ρ, st, hs, he, (Go.of_bind h).imp fun w st1 φ1 H1 s1 q1 h1 v rv => ?_⟩
  refine ⟨fo, φ1, ρ, st1, q1, he.step s1, (Go.of_bind h1).imp fun o1 st2 φ2 H2 s2 q2 h2 => ?_⟩
  refine ⟨fo, φ2, ρ, st2, q2, he.step (s1.trans s2), (Go.of_bind h2).imp fun o2 st3 φ3 H3 s3 q3 h3 => ?_⟩
  dsimp only at h3
  unfold op1 at h3
  dsimp only at h3
  cases e1 : viewW st3 w with
  | none => rw [e1] at h3; exact h3.elim
  | some x =>
    cases e2 : slD x o1 o2 with
    | none => rw [e1] at h3; simp only [Option.bind_some, e2] at h3; exact h3.elim
    | some z =>
      rw [e1] at h3; simp only [Option.bind_some, e2] at h3
      exact uns_sl o1 o2 (fo ++ φ3) H3 x z v Q q3.trk (view_of q3 (rv.step (s2.trans s3)) e1) e2 fun u H' sm rz => h3 φ3 H' (Step.same sm) (q3.same sm) u rz
theorem pe_revE {a : Ex} {x : Expr} {k : Nat} {p1 p2 p3 pos : Pos} (ha : PE X x (tW XT X.KF W (evE Γ a))) : PE X (.Subscript x (.Slice none none (some (.UnaryOp .USub (.Constant (.int 1) k p1) p2)) p3) pos) (tW XT X.KF W (evE Γ (.rev a))) := by
  refine PE.weak (pe_revL ha) fun σ H Q h => ?_
  refine tW_op1 (f := revD) (r := fun x H1 Q => ∃ a xs, x = .ref a ∧ SqL X.KF H1 a xs ∧ ∀ p, H1 p = none → Q (.ref p) (upd H1 p (.lst xs.reverse))) ?_ h
  intro av H x z v Q ht hx e q
  cases x with
  | lst xs =>
    cases e
    obtain ⟨a, vs, rfl, ha, ra⟩ := vlst hx
    exact ⟨a, vs, rfl, .inl ha, fun p hp => q _ _ (same_new hp) (rep_newL ht hp (RepL.reverse ra))⟩
  | _ => cases e
/-! #### methods of texts -/
theorem m1_join {a b : Ex} {x y : Expr} {ap cp : Pos} (ha : PE X x (tW XT X.KF W (evE Γ a))) (hb : PE X y (tW XT X.KF W (evE Γ b))) (hx : plainE x = true) (hy : plainE y = true) (hl : (ap.endLine == cp.line) = true) :
    PE X (.Call (.Attribute x "join" ap) [y] [] cp) (tW XT X.KF W (evE Γ (.m1 .join a b))) := by
  have hfew : ((backTo cp (starEach [y] X.env)).all (fun x => !x.1) && (backToKw cp (keywordEach [] X.env)).all (fun x => x.1.isSome)
      && decide ([y].length + ([] : List Keyword).length + (if ([] : List Keyword).isEmpty then 0 else 1) < 30)) = true := by
    rw [plainE_star hy]
    rfl
  refine PE.weak (pe_bm PySem.F.plainAttrs_str PySem.F.slot_str_join PySem.F.type_str_join mt_join ha (pa_one hb hy) (plainE_base hx _ _) hfew hl (plainE_star hy _ _) rfl) fun σ H Q h => ?_
  obtain ⟨fo, φ, ρ, st, hs, he, h⟩ := h
  unfold evE at h
  refine ⟨fo, φ, ρ, st, hs, he, (Go.of_bind h).imp fun w st1 φ1 H1 s1 q1 h1 v rv => ?_⟩
  dsimp only at h1
  cases e1 : strW w with
  | none => rw [e1] at h1; exact h1.elim
  | some s =>
    rw [e1] at h1
    have ew : w = .d (.str s) := by
      unfold strW at e1
      split at e1
      · cases e1; rfl
      · cases e1
    subst ew
    obtain ⟨rfl, ho⟩ := vstr (Rep.view rv)
    refine ⟨rfl, ?_⟩
    exact tW_op1 (uns_join ho) ⟨fo, φ1, ρ, st1, q1, he.step s1, h1⟩
theorem m1_zfill {a b : Ex} {x y : Expr} {ap cp : Pos} (ha : PE X x (tW XT X.KF W (evE Γ a))) (hb : PE X y (tW XT X.KF W (evE Γ b))) (hx : plainE x = true) (hy : plainE y = true) (hl : (ap.endLine == cp.line) = true) :
    PE X (.Call (.Attribute x "zfill" ap) [y] [] cp) (tW XT X.KF W (evE Γ (.m1 .zfill a b))) := by
  have hfew : ((backTo cp (starEach [y] X.env)).all (fun x => !x.1) && (backToKw cp (keywordEach [] X.env)).all (fun x => x.1.isSome)
      && decide ([y].length + ([] : List Keyword).length + (if ([] : List Keyword).isEmpty then 0 else 1) < 30)) = true := by
    rw [plainE_star hy]
    rfl
  refine PE.weak (pe_bm PySem.F.plainAttrs_str PySem.F.slot_str_zfill PySem.F.type_str_zfill mt_zfill ha (pa_one hb hy) (plainE_base hx _ _) hfew hl (plainE_star hy _ _) rfl) fun σ H Q h => ?_
  obtain ⟨fo, φ, ρ, st, hs, he, h⟩ := h
  unfold evE at h
  refine ⟨fo, φ, ρ, st, hs, he, (Go.of_bind h).imp fun w st1 φ1 H1 s1 q1 h1 v rv => ?_⟩
  dsimp only at h1
  cases e1 : strW w with
  | none => rw [e1] at h1; exact h1.elim
  | some s =>
    rw [e1] at h1
    have ew : w = .d (.str s) := by
      unfold strW at e1
      split at e1
      · cases e1; rfl
      · cases e1
    subst ew
    obtain ⟨rfl, ho⟩ := vstr (Rep.view rv)
    refine ⟨rfl, ?_⟩
    exact tW_op1 (uns_zfill ho) ⟨fo, φ1, ρ, st1, q1, he.step s1, h1⟩
theorem m1_split {a b : Ex} {x y : Expr} {ap cp : Pos} (ha : PE X x (tW XT X.KF W (evE Γ a))) (hb : PE X y (tW XT X.KF W (evE Γ b))) (hx : plainE x = true) (hy : plainE y = true) (hl : (ap.endLine == cp.line) = true) :
    PE X (.Call (.Attribute x "split" ap) [y] [] cp) (tW XT X.KF W (evE Γ (.m1 .split a b))) := by
  have hfew : ((backTo cp (starEach [y] X.env)).all (fun x => !x.1) && (backToKw cp (keywordEach [] X.env)).all (fun x => x.1.isSome)
      && decide ([y].length + ([] : List Keyword).length + (if ([] : List Keyword).isEmpty then 0 else 1) < 30)) = true := by
    rw [plainE_star hy]
    rfl
  refine PE.weak (pe_bm PySem.F.plainAttrs_str PySem.F.slot_str_split PySem.F.type_str_split mt_split ha (pa_one hb hy) (plainE_base hx _ _) hfew hl (plainE_star hy _ _) rfl) fun σ H Q h => ?_
  obtain ⟨fo, φ, ρ, st, hs, he, h⟩ := h
  unfold evE at h
  refine ⟨fo, φ, ρ, st, hs, he, (Go.of_bind h).imp fun w st1 φ1 H1 s1 q1 h1 v rv => ?_⟩
  dsimp only at h1
  cases e1 : strW w with
  | none => rw [e1] at h1; exact h1.elim
  | some s =>
    rw [e1] at h1
    have ew : w = .d (.str s) := by
      unfold strW at e1
      split at e1
      · cases e1; rfl
      · cases e1
    subst ew
    obtain ⟨rfl, ho⟩ := vstr (Rep.view rv)
    refine ⟨rfl, ?_⟩
    exact tW_op1 (uns_split ho) ⟨fo, φ1, ρ, st1, q1, he.step s1, h1⟩
end
end PB

set_option Elab.async false
set_option linter.all false
set_option maxRecDepth 100000
set_option maxHeartbeats 4000000
set_option backward.match.sparseCases false
/-! Exceptions with fields. -/
namespace PB
open PySem PySem.Spec PyProof.Rows L2
/-- what an __init__ of the text does -/
def spIni (K : PySem.W.Frag) (C : Addr) (fl : List Str) : Sp := fun vs H Q _ => ∃ (a : Addr) (ws : List V), vs = .ref a :: ws ∧ ws.length = fl.length ∧ H a = some (exo a C none) ∧
  ∀ dx, H dx = none → dx ≠ a → Q .non (upd (upd H dx (exd dx (fl.zip ws.reverse))) a (exo a C (some dx)))
theorem ini_ok {P : Program} {w : World} {K : PySem.W.Frag} {mg : Str → Option Value} {base : Heap} {C fI : Addr} {fd : FuncData} {ps fl : List Str} (T : OexC K C) (no : ∀ f ∈ fl, PySem.W.findIn K (.ref C) f = some none) (h : IniIs K fI fd ps fl isVis) :
    FnOk P w K mg base CX0 1 fI fd ps (spIni K C fl) := by
  obtain ⟨st, qual, oc, od, kV, doc, pm, an, cdv, ct, osl, rfl, lk, hcd, S, hb, hi⟩ := h
  unfold iniB at hi
  split at hi
  · rename_i s p1 f p2 y p3 p4 hbody
    simp only [Bool.and_eq_true, decide_eq_true_eq] at hi
    obtain ⟨⟨⟨rfl, rfl⟩, v1⟩, v2⟩ := hi
    obtain ⟨w1, w2, w3⟩ := isVis_vis v1
    obtain ⟨u1, u2, u3⟩ := isVis_vis v2
    refine fn_of lk hcd S (fun vs H Q E h => ?_) fun A outer s0 H vs Q E hr h => ?_
    · obtain ⟨a, ws, rfl, e, _⟩ := h
      simp at e
      simp [e]
    · generalize hX : cxOf CX0 P w K mg base [s, y] qual (defScope st) fI cdv A outer s0 H E = X
      have XN : X.N = [s, y] := by rw [← hX]; rfl
      have Xsc : X.env.scope = defScope st := by rw [← hX]; rfl
      have XK : X.K = K := by rw [← hX]; rfl
      have hv0 : PE X (.Name s p1) (tVar 0) := pe_var (i := 0) (by rw [XN]; rfl) (by rw [Xsc]; exact w1) w2 w3
      have hv1 : PE X (.Name y p3) (tVar 1) := pe_var (i := 1) (by rw [XN]; rfl) (by rw [Xsc]; exact u1) u2 u3
      rw [hbody]
      refine ⟨_, pss_one (ps_ost (f := f) hv0 hv1), ?_⟩
      obtain ⟨a, ws, rfl, e, ea, q⟩ := h
      obtain ⟨z, rfl⟩ : ∃ z, ws = [z] := List.length_eq_one_iff.mp (by simpa using e)
      refine ⟨z, rfl, _, rfl, a, C, rfl, by rw [XK]; exact T, by rw [XK]; exact no f (by simp), .inl ⟨ea, fun dx hd hn => ?_⟩⟩
      exact q dx hd hn
  · rename_i s p1 f p2 y p3 p4 s2 p5 f2 p6 y2 p7 p8 hbody
    simp only [Bool.and_eq_true, decide_eq_true_eq] at hi
    obtain ⟨⟨⟨⟨⟨rfl, rfl⟩, rfl⟩, v1⟩, v2⟩, v3⟩ := hi
    obtain ⟨w1, w2, w3⟩ := isVis_vis v1
    obtain ⟨u1, u2, u3⟩ := isVis_vis v2
    obtain ⟨t1, t2, t3⟩ := isVis_vis v3
    refine fn_of lk hcd S (fun vs H Q E h => ?_) fun A outer s0 H vs Q E hr h => ?_
    · obtain ⟨a, ws, rfl, e, _⟩ := h
      simp at e
      simp [e]
    · generalize hX : cxOf CX0 P w K mg base [s2, y, y2] qual (defScope st) fI cdv A outer s0 H E = X
      have XN : X.N = [s2, y, y2] := by rw [← hX]; rfl
      have Xsc : X.env.scope = defScope st := by rw [← hX]; rfl
      have XK : X.K = K := by rw [← hX]; rfl
      have hv0 : ∀ p, PE X (.Name s2 p) (tVar 0) := fun p => pe_var (i := 0) (by rw [XN]; rfl) (by rw [Xsc]; exact w1) w2 w3
      have hv1 : PE X (.Name y p3) (tVar 1) := pe_var (i := 1) (by rw [XN]; rfl) (by rw [Xsc]; exact u1) u2 u3
      have hv2 : PE X (.Name y2 p7) (tVar 2) := pe_var (i := 2) (by rw [XN]; rfl) (by rw [Xsc]; exact t1) t2 t3
      rw [hbody]
      refine ⟨_, pss_cons (ps_ost (f := f) (hv0 _) hv1) (pss_one (ps_ost (f := f2) (hv0 _) hv2)), ?_⟩
      obtain ⟨a, ws, rfl, e, ea, q⟩ := h
      obtain ⟨z, z2, rfl⟩ : ∃ z z2, ws = [z, z2] := by
        match ws, e with
        | [z, z2], _ => exact ⟨z, z2, rfl⟩
      refine ⟨z, rfl, _, rfl, a, C, rfl, by rw [XK]; exact T, by rw [XK]; exact no f (by simp), .inl ⟨ea, fun dx hd hn => ?_⟩⟩
      refine ⟨z2, rfl, _, rfl, a, C, rfl, by rw [XK]; exact T, by rw [XK]; exact no f2 (by simp), .inr ⟨dx, [(f, z)], upd_same, by rw [upd_ne hn]; exact upd_same, Nat.le_of_ble_eq_true rfl, ?_⟩⟩
      have := q dx hd hn
      refine (?_ : Q .non _)
      have e2 : upd (upd (upd H dx (exd dx [(f, z)])) a (exo a C (some dx))) dx (exd dx ((f2, z2) :: [(f, z)])) = upd (upd H dx (exd dx [(f2, z2), (f, z)])) a (exo a C (some dx)) := by
        funext b
        by_cases h1 : b = dx
        · subst h1
          rw [upd_same, upd_ne hn, upd_same]
        · rw [upd_ne h1]
          by_cases h2 : b = a
          · subst h2
            rw [upd_same, upd_same]
          · rw [upd_ne h2, upd_ne h2, upd_ne h1, upd_ne h1]
      rw [e2]
      exact this
  · cases hi
/-- C(e, ..) -/
def tMkF (C : Addr) (fl : List Str) (ta : TA) : L2.St → Hp → XK → Prop := fun σ H Q => ta σ H fun vs H1 => vs.length = fl.length ∧ fl.length ≤ 1000 ∧ ∀ dx, H1 dx = none → Q (.ref C) (some dx) (upd H1 dx (.xd (fl.zip vs.reverse)))
theorem pmk_fl {X : Cx} {c : Nat} {XT : Xt} {x : Str} {fl : List Str} {e : Expr} {es : List Expr} {ta : TA} {p pos : Pos} (h : XfOk XT X.K X.mg c x fl) (hr : Room 2 X.A) (hg : Gl X x) (ha : PA X (e :: es) ta) (hdb : (x == ("__debug__" : Str)) = false)
    (he : starEach (e :: es) X.env = (false, eval e X.env) :: starEach es X.env) (hpl : (backTo pos (starEach es X.env)).any (·.1) = false) :
    ∃ C : Addr, XT.cls c = some (.ref C) ∧ XT.flds c = fl ∧ PMk X (.Call (.Name x p) (e :: es) [] pos) (tMkF C fl ta) := by
  obtain ⟨C, fI, fd, ps, h1, h2, h3, h4, h5, h6, h7, h8⟩ := h
  refine ⟨C, h1, h2, ?_⟩
  have F := ini_ok (P := X.prog) (w := X.w) (mg := X.mg) (base := X.base) h4 h5 h8
  have hb : Binds X.K fd ps [] := by
    obtain ⟨st, qual, oc, od, kV, doc, pm, an, cdv, ct, osl, rfl, lk, hcd, S, hb, hi⟩ := h8
    exact .all hb
  have ha' : PA X (e :: es) (fun σ H R => ∃ R1, ta σ H R1 ∧ ∀ vs H, R1 vs H → R vs H) := ⟨fun pos pins s σ H Q I ⟨R1, h1, h2⟩ => thn (ha.run pos pins s σ H R1 I h1) fun us s1 ⟨vs, H1, I1, r, q⟩ => ⟨vs, H1, I1, r, h2 _ _ q⟩⟩
  have M := pmk_oex (X := X) (CX := CX0) (x := x) (e := e) (es := es) (p := p) (pos := pos) (k := 1) (ds := []) (dvs := []) h4 h6 h7 F hr hb .nil (fun _ _ _ _ _ _ _ h => h.elim) hg h3 ha' hdb he hpl
  intro pins s σ H Q I h
  refine M pins s σ H Q I ⟨_, h, fun vs H1 q => ?_⟩
  obtain ⟨q1, q2, q3⟩ := q
  refine ⟨by omega, fun a ha => ⟨a, vs ++ [], rfl, by rw [List.append_nil]; exact q1, upd_same, fun dx hd hn => ?_⟩⟩
  rw [List.append_nil]
  have hd1 : H1 dx = none := by rw [upd_ne hn] at hd; exact hd
  refine ⟨rfl, dx, fl.zip vs.reverse, upd_same, by rw [upd_ne hn]; exact upd_same, hd1, ?_⟩
  have e2 : upd (del (upd (upd (upd H1 a (exo a C none)) dx (exd dx (fl.zip vs.reverse))) a (exo a C (some dx))) a) dx (.xd (fl.zip vs.reverse)) = upd H1 dx (.xd (fl.zip vs.reverse)) := by
    funext b
    by_cases h1 : b = dx
    · subst h1; rw [upd_same, upd_same]
    · rw [upd_ne h1, upd_ne h1]
      by_cases h2 : b = a
      · subst h2; rw [del_same, ha]
      · rw [del_ne h2, upd_ne h2, upd_ne h1, upd_ne h2]
  rw [e2]
  exact q3 dx hd1
/-- isinstance(e, c), e the exception that the suite holds, with fields or without -/
def rIsEF (K : PySem.W.Frag) (D a : Addr) (d : Option Addr) : List V → Hp → VK → Prop := fun xs H Q => (d = none ∨ ∃ dd fs, d = some dd ∧ H dd = some (.xd fs)) ∧ rIsE K D a xs H Q
theorem call_isEF {X : Cx} {a D : Addr} {d : Option Addr} {oe : Obj} {pn : List (Addr × Obj)} (C : ExcC X.K D) (hz : Zc (.ref D) d oe) (hf : ∃ vs, oe.data = .fields vs) : CallR (X.suite a ((a, oe) :: pn)) (.builtin "isinstance") (rIsEF X.K D a d) := by
  intro pins s σ H xs us Q I r h
  obtain ⟨hd0, c, cv, b, rfl, hcv, e, q⟩ := h
  cases r with
  | cons rx rr =>
    cases rr with
    | cons rt rr =>
      cases rr
      cases rx
      have ec := hcv _ rt
      subst ec
      obtain ⟨hget, _⟩ := I.pin (a, oe) (List.mem_append.mpr (.inl List.mem_cons_self))
      obtain ⟨vs, hv⟩ := hf
      have J : ∃ od, PySem.W.InstAt s.heap a oe D od := by
        rcases hd0 with rfl | ⟨dd, fs, rfl, ex⟩
        · exact ⟨none, hget, hz.1, by unfold PySem.W.notCls; rw [hv] <;> rfl, by rw [hz.2]; trivial⟩
        · have hx : ObjOk X.prog X.w H s.heap dd (.xd fs) := I.hok dd _ ex
          obtain ⟨mA, hns, hr⟩ := hx
          obtain ⟨od, ho, hl⟩ := lookIn_ns hns
          exact ⟨some od, hget, hz.1, by unfold PySem.W.notCls; rw [hv] <;> rfl, by rw [hz.2]; exact ho⟩
      obtain ⟨od, J⟩ := J
      have hcl : (PySem.W.clsIn X.K D).isSome = true := by
        obtain ⟨cd, hc, _⟩ := PySem.W.any_some C.hd
        rw [hc]; rfl
      exact PySem.W.kia_one (PySem.W.kitx_exc hcl C.hg C.hk C.hs C.ha C.hn C.ht C.hm) I.kIn J e (fun z => nomatch z) fun tk => ⟨.bl b, H, I.kept (t' := tk) fun _ _ z => z, rfl, q⟩
end PB

set_option Elab.async false
set_option linter.all false
set_option maxRecDepth 100000
set_option maxHeartbeats 4000000
set_option backward.match.sparseCases false
/-! A sign sought in a text. -/
namespace PB
open PySem PySem.Spec PyProof.Rows L2
theorem findG_spec (c : Nat) : ∀ (l : List Nat) (k : Nat), (findG c k l = -1 ∧ ∀ v, v < l.length → l.getD v 0 ≠ c) ∨ ∃ j : Nat, j < l.length ∧ findG c k l = ((k + j : Nat) : Int) ∧ l.getD j 0 = c ∧ ∀ v, v < j → l.getD v 0 ≠ c
  | [], k => .inl ⟨rfl, fun v h => by simp at h⟩
  | x :: xs, k => by
    by_cases h : x = c
    · refine .inr ⟨0, by simp, ?_, by simpa using h, fun v hv => by omega⟩
      unfold findG
      rw [if_pos h]
      simp
    · have e : findG c k (x :: xs) = findG c (k + 1) xs := by rw [findG, if_neg h]
      rcases findG_spec c xs (k + 1) with ⟨h1, h2⟩ | ⟨j, h1, h2, h3, h4⟩
      · refine .inl ⟨by rw [e, h1], fun v hv => ?_⟩
        cases v with
        | zero => simpa using h
        | succ v => simpa using h2 v (by simpa using hv)
      · refine .inr ⟨j + 1, by simpa using h1, by rw [e, h2]; congr 1; omega, by simpa using h3, fun v hv => ?_⟩
        cases v with
        | zero => simpa using h
        | succ v => simpa using h4 v (by omega)
theorem find_eq {s : List Nat} {c : Nat} {i : Int} (hi : 0 ≤ i) : Txt.find3 (toS s) (toS [c]) i = findG c i.toNat (s.drop i.toNat) := by
  have fi : fromIndex (toS s).length i = i.toNat := by
    unfold fromIndex
    rw [if_neg (by omega)]
    omega
  have len : (toS s).length = s.length := toS_len s
  have at_ : ∀ v, (toS s).cps.getD v 0 = s.getD v 0 := fun v => by
    show s.toArray.getD v 0 = _
    simp [Array.getD, List.getD_eq_getElem?_getD]
    split
    · rename_i h; rw [List.getElem?_eq_getElem h]; rfl
    · rename_i h; rw [List.getElem?_eq_none (by omega)]; rfl
  have dr : ∀ v, (s.drop i.toNat).getD v 0 = s.getD (i.toNat + v) 0 := fun v => by
    rw [List.getD_eq_getElem?_getD, List.getElem?_drop, List.getD_eq_getElem?_getD]
  have A := PySem.StrLaws.find3_spec (toS s) c i
  rw [fi, len] at A
  show Txt.find3 (toS s) ⟨#[c]⟩ i = _
  rcases A with ⟨a1, a2⟩ | ⟨k, a1, a2, a3, a4, a5⟩
  · rcases findG_spec c (s.drop i.toNat) i.toNat with ⟨b1, b2⟩ | ⟨j, b1, b2, b3, b4⟩
    · rw [a1, b1]
    · rw [List.length_drop] at b1
      rw [dr] at b3
      exact absurd b3 (by rw [← at_]; exact a2 _ (by omega) (by omega))
  · rcases findG_spec c (s.drop i.toNat) i.toNat with ⟨b1, b2⟩ | ⟨j, b1, b2, b3, b4⟩
    · have := b2 (k - i.toNat) (by rw [List.length_drop]; omega)
      rw [dr, show i.toNat + (k - i.toNat) = k by omega, ← at_] at this
      exact absurd a4 this
    · rw [List.length_drop] at b1
      rw [dr] at b3
      have e : k = i.toNat + j := by
        rcases Nat.lt_trichotomy k (i.toNat + j) with h | h | h
        · have := b4 (k - i.toNat) (by omega)
          rw [dr, show i.toNat + (k - i.toNat) = k by omega, ← at_] at this
          exact absurd a4 this
        · exact h
        · exact absurd b3 (by rw [← at_]; exact a5 _ (by omega) h)
      rw [a1, b2, e]
section
variable {XT : Xt} {T : Tb} {Γ : Gam} {N : List Str} {X : Cx} {W : WX} {sc : Scope}
theorem uns_find {K : KF} {s : List Nat} {c : Nat} : UnS K (findS c s) (fun v H Q => ∃ (a b : Str) (i : Int), V.str (toS s) = .str a ∧ [V.str (toS [c]), v] = [.str b, .int i] ∧ Q (.int (Txt.find3 a b i)) H) := by
  intro av H x z v Q ht hx e q
  unfold findS at e
  split at e
  · rename_i i
    split at e
    · rename_i h
      cases e
      cases vint hx
      refine ⟨toS s, toS [c], i, rfl, rfl, ?_⟩
      rw [find_eq h]
      exact q _ H (.refl H) (.int _)
    · cases e
  · cases e
theorem pe_findE {a b : Ex} {c : Nat} {x y : Expr} {k : Nat} {p ap cp : Pos} (ha : PE X x (tW XT X.KF W (evE Γ a))) (hb : PE X y (tW XT X.KF W (evE Γ b))) (hx : plainE x = true) (hy : plainE y = true) (hl : (ap.endLine == cp.line) = true) :
    PE X (.Call (.Attribute x "find" ap) [.Constant (.str (toS [c])) k p, y] [] cp) (tW XT X.KF W (evE Γ (.find a c b))) := by
  have hfew : ((backTo cp (starEach [.Constant (.str (toS [c])) k p, y] X.env)).all (fun x => !x.1) && (backToKw cp (keywordEach [] X.env)).all (fun x => x.1.isSome)
      && decide ([Expr.Constant (.str (toS [c])) k p, y].length + ([] : List Keyword).length + (if ([] : List Keyword).isEmpty then 0 else 1) < 30)) = true := by
    rw [show starEach [.Constant (.str (toS [c])) k p, y] X.env = (false, eval (.Constant (.str (toS [c])) k p) X.env) :: starEach [y] X.env from rfl, plainE_star hy]
    rfl
  refine PE.weak (pe_bm PySem.F.plainAttrs_str PySem.F.slot_str_find PySem.F.type_str_find mt_find3 ha (pa_cons (pe_str (x := toS [c]) (j := k) (pos := p)) (pa_one hb hy) rfl) (plainE_base hx _ _) hfew hl rfl (by rw [plainE_star hy]; rfl)) fun σ H Q h => ?_
  obtain ⟨fo, φ, ρ, st, hs, he, h⟩ := h
  unfold evE at h
  refine ⟨fo, φ, ρ, st, hs, he, (Go.of_bind h).imp fun w st1 φ1 H1 s1 q1 h1 v rv => ?_⟩
  dsimp only at h1
  cases e1 : strW w with
  | none => rw [e1] at h1; exact h1.elim
  | some s =>
    rw [e1] at h1
    have ew : w = .d (.str s) := by
      unfold strW at e1
      split at e1
      · cases e1; rfl
      · cases e1
    subst ew
    obtain ⟨rfl, ho⟩ := vstr (Rep.view rv)
    refine ⟨rfl, ?_⟩
    exact tW_op1 (uns_find (s := s) (c := c)) ⟨fo, φ1, ρ, st1, q1, he.step s1, h1⟩
end
end PB

set_option Elab.async false
set_option linter.all false
set_option maxRecDepth 100000
set_option maxHeartbeats 4000000
set_option backward.match.sparseCases false
/-! len(set(xs)) of data. -/
namespace PB
open PySem PySem.Spec PyProof.Rows L2
/-- the keys of unlike ones -/
theorem nub_keys : ∀ xs : List Dt, (∀ x ∈ xs, keyOk x = true) → ((nubD xs).map nkD).Nodup ∧ (∀ k, k ∈ (nubD xs).map nkD ↔ k ∈ xs.map nkD)
  | [], _ => ⟨List.nodup_nil, fun k => Iff.rfl⟩
  | x :: xs, h => by
    have hx := h x List.mem_cons_self
    have hr := fun y hy => h y (List.mem_cons_of_mem x hy)
    obtain ⟨i1, i2⟩ := nub_keys xs hr
    by_cases c : xs.any (fun z => eqD x z) = true
    · rw [nubD, if_pos c]
      refine ⟨i1, fun k => ?_⟩
      rw [i2, List.map_cons, List.mem_cons]
      constructor
      · exact .inr
      · rintro (e | e)
        · obtain ⟨z, hz, ez⟩ := List.any_eq_true.mp c
          rw [e, (nk_iff hx (hr z hz)).mpr ez]
          exact List.mem_map_of_mem hz
        · exact e
    · rw [nubD, if_neg c, List.map_cons]
      refine ⟨List.nodup_cons.mpr ⟨fun m => ?_, i1⟩, fun k => ?_⟩
      · rw [i2] at m
        obtain ⟨z, hz, ez⟩ := List.mem_map.mp m
        exact c (List.any_eq_true.mpr ⟨z, hz, (nk_iff hx (hr z hz)).mp ez.symm⟩)
      · rw [List.mem_cons, i2, List.map_cons, List.mem_cons]
section
variable {X : Cx} {pins : List (Addr × Obj)} {σ : L2.St} {H : Hp} {s : Shared} {av : List Addr}
mutual
theorem rep_nk (I : Inv X pins σ H s) : ∀ {x : Dt} {v : V} {u : Value}, Rep X.KF av H x v → RelV v u → keyOk x = true → NestedIs s.heap (nkD x) u
  | _, _, _, .non, r, _ => by cases r; exact .none
  | _, _, _, .bl b, r, _ => by cases r; exact .bool rfl
  | _, _, _, .int i, r, _ => by obtain ⟨t, rfl⟩ := r; exact .int _ _
  | _, _, _, .str z h, r, _ => by obtain ⟨t, rfl⟩ := r; exact .text _ _
  | _, _, _, .tup h q e, r, k => by
    cases r
    obtain ⟨its, rv, ⟨o, g1, g2, m, g3⟩, _⟩ := I.tuple (.inl q.rd)
    exact .tup g1 g2 g3 (by simpa using rep_nks I e rv (by simpa [keyOk] using k))
  | _, _, _, .tupK q _ e, r, k => by
    cases r
    obtain ⟨its, rv, ⟨o, g1, g2, m, g3⟩, _⟩ := I.tuple (.inr q)
    exact .tup g1 g2 g3 (by simpa using rep_nks I e rv (by simpa [keyOk] using k))
  | _, _, _, .lst _ _ _, _, k => by simp [keyOk] at k
  | _, _, _, .scr _, _, k => by simp [keyOk] at k
theorem rep_nks (I : Inv X pins σ H s) : ∀ {xs : List Dt} {vs : List V} {us : List Value}, RepL X.KF av H xs vs → Vals vs us → keyOks xs = true → NestedAll s.heap (nkDs xs) us
  | _, _, _, .nil, r, _ => by cases r; exact .nil
  | _, _, _, .cons h q, r, k => by
    cases r with
    | cons r1 r2 =>
      simp only [keyOks, Bool.and_eq_true] at k
      exact .cons (rep_nk I h r1 k.1) (rep_nks I q r2 k.2)
end
/-- tuples that are keys, with their places -/
theorem reps_ks (I : Inv X pins σ H s) : ∀ {xs : List Dt} {vs : List V} {us : List Value}, RepL X.KF av H xs vs → Vals vs us → xs.all (fun x => isTupD x && keyOk x && decide (depD x ≤ 8)) = true →
    ∃ ks : List (Addr × NK), us = (ks.map fun p => Value.ref p.1) ∧ ks.map (·.2) = xs.map nkD ∧ ∀ p ∈ ks, isN s.heap p.2 p.1
  | _, _, _, .nil, r, _ => by cases r; exact ⟨[], rfl, rfl, fun p h => by cases h⟩
  | x :: xs, _, _, .cons h q, r, k => by
    cases r with
    | cons r1 r2 =>
      simp only [List.all_cons, Bool.and_eq_true, decide_eq_true_eq] at k
      obtain ⟨⟨⟨k1, k2⟩, k3⟩, k4⟩ := k
      obtain ⟨ks, e1, e2, e3⟩ := reps_ks I q r2 (by simpa only [List.all_eq_true, Bool.and_eq_true, decide_eq_true_eq] using k4)
      have n1 := rep_nk I h r1 k2
      obtain ⟨a, ha⟩ : ∃ a, _ = V.ref a := by
        cases x with
        | tup ys => obtain ⟨a, vs, e, _⟩ := Rep.sqT h; exact ⟨a, e⟩
        | _ => simp [isTupD] at k1
      subst ha
      cases r1
      refine ⟨(a, nkD x) :: ks, by rw [e1]; rfl, by rw [List.map_cons, List.map_cons, e2], fun p hp => ?_⟩
      rcases List.mem_cons.mp hp with e | hp
      · rw [e]
        exact ⟨n1, by rw [nk_dep x k2]; exact k3⟩
      · exact e3 p hp
end
section
variable {XT : Xt} {T : Tb} {Γ : Gam} {N : List Str} {X : Cx} {W : WX} {sc : Scope}
/-- the reading of len(set(..)) -/
def rLens (K : KF) : V → Hp → VK → Prop := fun v H Q => ∃ (av : List Addr) (xs : List Dt) (a : Addr) (vs : List V), v = .ref a ∧ SqT K H a vs ∧ RepL K av H xs vs ∧
  xs.all (fun x => isTupD x && keyOk x && decide (depD x ≤ 8)) = true ∧ xs.length < 64 ∧ Q (.int (nubD xs).length) H
theorem uns_lens {K : KF} : UnS K lensD (rLens K) := by
  intro av H x z v Q ht hx e q
  cases x with
  | tup xs =>
    unfold lensD at e
    dsimp only at e
    split at e
    · rename_i c
      cases e
      obtain ⟨a, vs, rfl, ha, ra⟩ := vtup hx
      exact ⟨av, xs, a, vs, rfl, ha, ra, c.1, c.2, q _ H (.refl H) (.int _)⟩
    · cases e
  | _ => cases e
theorem pe_lensV {a : Expr} {ta : TE} {p p2 q pos : Pos} (hc : X.calm = true) (room : X.A.units + 65 < cLine) (hg : Gl X "len") (hm : X.mg "len" = none) (hg2 : Gl X "set") (hm2 : X.mg "set" = none) (ha : PE X a ta)
    (na : starEach [a] X.env = (false, eval a X.env) :: starEach [] X.env) : PE X (.Call (.Name "len" p) [.Call (.Name "set" p2) [a] [] q] [] pos) (fun σ H Q => ta σ H fun x H1 => rLens X.KF x H1 Q) := by
  refine ⟨fun pins s σ H Q I h => ?_⟩
  refine Call_ (ld_blt I hg hm PySem.boot_len ?_)
  refine PyProof.Rows.callWith_builtin1 (PyProof.Rows.args_cons ?_ rfl) rfl rfl
  refine Call_ (ld_blt I hg2 hm2 PyProof.Rows.boot_set ?_)
  refine PyProof.Rows.callWith_type1 (PyProof.Rows.args_cons (thn (ha.run pins s σ H _ I h) fun v s1 ⟨x, H1, I1, r1, q1⟩ => PyProof.Rows.args_nil ?_) na) na rfl
  obtain ⟨av, xs, t, vs, rfl, sq, rl, ok, few, q1⟩ := q1
  cases r1
  obtain ⟨its, rv, tu, _⟩ := I1.tuple sq
  obtain ⟨ks, e1, e2, e3⟩ := reps_ks I1 rl rv ok
  have kl : ks.length = xs.length := by
    have := congrArg List.length e2
    simpa using this
  refine call_setN_tuple (P := X.prog) (w := X.w) ks (I1.ok.hd hc) (show s1.heap.IsTuple t its.toArray from tu) (by simpa using e1) e3 ⟨ks.map (·.2), fun p hp => List.mem_map_of_mem hp, by rw [List.length_map, kl]; omega⟩ (by omega) fun h' tk L es ep tb S g kp => ?_
  refine PyProof.Rows.args_nil ?_
  obtain ⟨o, g1, g2, g3⟩ := S.obj
  have I2 : Inv X pins σ H1 { s1 with heap := h', toks := tk } := I1.kept kp
  have key : ∀ x ∈ xs, keyOk x = true := fun x hx => by
    have := List.all_eq_true.mp ok x hx
    simp only [Bool.and_eq_true] at this
    exact this.1.2
  obtain ⟨u1, u2⟩ := nub_keys xs key
  have cnt : es.size = (nubD xs).length := by
    have pm : (L.map (·.2)).Perm ((nubD xs).map nkD) := by
      refine (List.perm_ext_iff_of_nodup S.nod u1).mpr fun k => ?_
      rw [u2, ← e2]
      constructor
      · intro m
        obtain ⟨p, hp, rfl⟩ := List.mem_map.mp m
        exact List.mem_map_of_mem (List.mem_of_mem_take (g.sub p hp))
      · intro m
        obtain ⟨p, hp, rfl⟩ := List.mem_map.mp m
        exact g.all p (by rw [List.take_length]; exact hp)
    have := pm.length_eq
    rw [List.length_map, List.length_map] at this
    rw [S.size (s := { s1 with heap := h', toks := tk }), this]
  have few2 := S.few
  have sz2 := S.size (s := { s1 with heap := h', toks := tk })
  refine call_len_set g1 g2 g3 (S.fits (s := { s1 with heap := h', toks := tk })) (by omega) ⟨.int (nubD xs).length, H1, I2.tok _, ⟨_, by rw [cnt]⟩, q1⟩
theorem pe_lensE {a : Ex} {y : Expr} {p1 p2 q1 q : Pos} (c : CxOk XT T Γ N X W sc) (g1 : isGl sc "len" = true) (g2 : isGl sc "set" = true) (ha : PE X y (tW XT X.KF W (evE Γ a))) (hy : plainE y = true) :
    PE X (.Call (.Name "len" p1) [.Call (.Name "set" p2) [y] [] q1] [] q) (tW XT X.KF W (evE Γ (.lens a))) := by
  refine PE.weak (pe_lensV c.calm c.units (c.gl g1) (c.blt "len" (by decide)) (c.gl g2) (c.blt "set" (by decide)) ha (plainE_star hy _ _)) fun σ H Q h => tW_op1 uns_lens ?_
  exact h
end
end PB

set_option Elab.async false
set_option linter.all false
set_option maxRecDepth 100000
set_option maxHeartbeats 4000000
set_option backward.match.sparseCases false
/-! Dicts. -/
namespace PB
open PySem PySem.Spec PyProof.Rows L2
/-! #### what is found in a dict -/
def valN (xs : List (NK × Addr × V)) (n : NK) : Option V := (xs.find? fun x => decide (x.1 = n)).map (·.2.2)
def storeN (xs : List (NK × Addr × V)) (n : NK) (b : Addr) (v : V) : List (NK × Addr × V) := if (valN xs n).isSome = true then xs.map fun x => if x.1 = n then (x.1, x.2.1, v) else x else xs ++ [(n, b, v)]
def dropN (xs : List (NK × Addr × V)) (n : NK) : List (NK × Addr × V) := xs.filter fun x => decide (x.1 ≠ n)
def storeAllN (xs ps : List (NK × Addr × V)) : List (NK × Addr × V) := ps.foldl (fun acc p => storeN acc p.1 p.2.1 p.2.2) xs
abbrev YR : List (NK × Addr × V) → List (NK × Addr × Value) → Prop := Paired fun p q => p.1 = q.1 ∧ p.2.1 = q.2.1 ∧ RelV p.2.2 q.2.2
theorem YR.val : ∀ {xs : List (NK × Addr × V)} {ys : List (NK × Addr × Value)}, YR xs ys → ∀ n, RelO (valN xs n) ((atKey ys n).map (·.2))
  | _, _, .nil, n => trivial
  | x :: xs, y :: ys, .cons h r, n => by
    have ih := YR.val r n
    unfold valN atKey at ih ⊢
    rw [List.find?_cons, List.find?_cons, ← h.1]
    by_cases e : x.1 = n
    · rw [decide_eq_true e]
      exact h.2.2
    · rw [decide_eq_false e]
      exact ih
theorem YR.isSome {xs : List (NK × Addr × V)} {ys : List (NK × Addr × Value)} (r : YR xs ys) (n : NK) : (valN xs n).isSome = (atKey ys n).isSome := by
  have := (r.val n).isSome_eq
  rw [Option.isSome_map] at this
  exact this
theorem YR.map {n : NK} {v : V} {u : Value} (rv : RelV v u) : ∀ {xs : List (NK × Addr × V)} {ys : List (NK × Addr × Value)}, YR xs ys → YR (xs.map fun x => if x.1 = n then (x.1, x.2.1, v) else x) (ys.map (putAt n u))
  | _, _, .nil => .nil
  | x :: xs, y :: ys, .cons h r => by
    refine .cons ?_ (YR.map rv r)
    unfold putAt
    dsimp only
    by_cases e : x.1 = n
    · rw [if_pos e, if_pos (h.1.symm.trans e)]
      exact ⟨h.1, h.2.1, rv⟩
    · rw [if_neg e, if_neg (fun z => e (h.1.trans z))]
      exact h
theorem paired_app {α β : Type} {R : α → β → Prop} : ∀ {xs : List α} {ys : List β} {us : List α} {vs : List β}, Paired R xs ys → Paired R us vs → Paired R (xs ++ us) (ys ++ vs)
  | _, _, _, _, .nil, q => q
  | _, _, _, _, .cons h r, q => .cons h (paired_app r q)
theorem YR.store {n : NK} {b : Addr} {v : V} {u : Value} (rv : RelV v u) {xs : List (NK × Addr × V)} {ys : List (NK × Addr × Value)} (r : YR xs ys) : YR (storeN xs n b v) (storedH ys n b u) := by
  unfold storeN storedH
  rw [r.isSome n]
  by_cases e : (atKey ys n).isSome = true
  · rw [if_pos e, if_pos e]
    exact YR.map rv r
  · rw [if_neg e, if_neg e]
    exact paired_app r (.cons ⟨rfl, rfl, rv⟩ .nil)
theorem YR.drop (n : NK) : ∀ {xs : List (NK × Addr × V)} {ys : List (NK × Addr × Value)}, YR xs ys → YR (dropN xs n) (withoutH ys n)
  | _, _, .nil => .nil
  | x :: xs, y :: ys, .cons h r => by
    have ih := YR.drop n r
    unfold dropN withoutH at ih ⊢
    rw [List.filter_cons, List.filter_cons, ← h.1]
    by_cases e : x.1 = n
    · rw [decide_eq_false (fun z => z e)]
      exact ih
    · rw [decide_eq_true e]
      exact .cons h ih
theorem YR.storeAll : ∀ {ps : List (NK × Addr × V)} {qs : List (NK × Addr × Value)} {xs : List (NK × Addr × V)} {ys : List (NK × Addr × Value)}, YR ps qs → YR xs ys → YR (storeAllN xs ps) (storedAllH ys qs)
  | _, _, _, _, .nil, r => r
  | p :: ps, q :: qs, _, _, .cons h t, r => by
    have := YR.store (b := p.2.1) (n := p.1) h.2.2 r
    rw [show storeAllN _ (p :: ps) = storeAllN (storeN _ p.1 p.2.1 p.2.2) ps from rfl, show storedAllH _ (q :: qs) = storedAllH (storedH _ q.1 q.2.1 q.2.2) qs from rfl, ← h.1, ← h.2.1]
    exact YR.storeAll t this
section
variable {K : KF} {av : List Addr} {H : Hp}
theorem keyB_ok {k : Dt} (h : keyB k = true) : isTupD k = true ∧ keyOk k = true ∧ depD k ≤ 8 := by
  unfold keyB at h
  simp only [Bool.and_eq_true, decide_eq_true_eq] at h
  exact ⟨h.1.1, h.1.2, h.2⟩
theorem key_dec {k k' : Dt} (h : keyB k = true) (h' : keyB k' = true) : decide (nkD k = nkD k') = eqD k k' := by
  have := nk_iff (keyB_ok h).2.1 (keyB_ok h').2.1
  cases e : eqD k k' with
  | true => exact decide_eq_true (this.mpr e)
  | false => exact decide_eq_false fun z => by rw [this.mp z] at e; cases e
theorem KvR.get {k : Dt} (hk : keyB k = true) : ∀ {kvs : List (Dt × Dt)} {xs : List (NK × Addr × V)}, KvR K av H kvs xs → (getK kvs k = none ∧ valN xs (nkD k) = none) ∨ ∃ z v, getK kvs k = some z ∧ valN xs (nkD k) = some v ∧ Rep K av H z v
  | _, _, .nil => .inl ⟨rfl, rfl⟩
  | _, _, .cons (k := k') (x := x) (v := v) (kvs := kvs) (xs := xs) h1 h2 h3 r => by
    have ih := KvR.get hk r
    unfold getK valN at ih ⊢
    rw [List.find?_cons, List.find?_cons]
    dsimp only
    rw [key_dec h1 hk]
    cases e : eqD k' k with
    | true => exact .inr ⟨x, v, rfl, rfl, h3⟩
    | false => exact ih
theorem KvR.map {k z : Dt} {v : V} (hk : keyB k = true) (rv : Rep K av H z v) : ∀ {kvs : List (Dt × Dt)} {xs : List (NK × Addr × V)}, KvR K av H kvs xs → KvR K av H (kvs.map fun p => if eqD p.1 k = true then (p.1, z) else p) (xs.map fun x => if x.1 = nkD k then (x.1, x.2.1, v) else x)
  | _, _, .nil => .nil
  | _, _, .cons (k := k') (x := x) (q := q) (v := v') h1 h2 h3 r => by
    rw [List.map_cons, List.map_cons]
    dsimp only
    have := key_dec h1 hk
    by_cases e : eqD k' k = true
    · rw [if_pos e, if_pos (of_decide_eq_true (this.trans e))]
      exact .cons h1 h2 rv (KvR.map hk rv r)
    · rw [if_neg e, if_neg (fun n => e (this.symm.trans (decide_eq_true n)))]
      exact .cons h1 h2 h3 (KvR.map hk rv r)
theorem KvR.append : ∀ {kvs : List (Dt × Dt)} {xs : List (NK × Addr × V)} {kvs' : List (Dt × Dt)} {xs' : List (NK × Addr × V)}, KvR K av H kvs xs → KvR K av H kvs' xs' → KvR K av H (kvs ++ kvs') (xs ++ xs')
  | _, _, _, _, .nil, q => q
  | _, _, _, _, .cons h1 h2 h3 r, q => .cons h1 h2 h3 (KvR.append r q)
theorem KvR.put {k z : Dt} {b : Addr} {v : V} (hk : keyB k = true) (rk : Rep K av H k (.ref b)) (rv : Rep K av H z v) {kvs : List (Dt × Dt)} {xs : List (NK × Addr × V)} (r : KvR K av H kvs xs) : KvR K av H (putK kvs k z) (storeN xs (nkD k) b v) := by
  have e : (getK kvs k).isSome = (valN xs (nkD k)).isSome := by
    rcases KvR.get hk r with ⟨a1, a2⟩ | ⟨_, _, a1, a2, _⟩
    · rw [a1, a2]; rfl
    · rw [a1, a2]; rfl
  unfold putK storeN
  rw [e]
  by_cases c : (valN xs (nkD k)).isSome = true
  · rw [if_pos c, if_pos c]
    exact r.map hk rv
  · rw [if_neg c, if_neg c]
    exact r.append (.cons hk rk rv .nil)
theorem KvR.drop {k : Dt} (hk : keyB k = true) : ∀ {kvs : List (Dt × Dt)} {xs : List (NK × Addr × V)}, KvR K av H kvs xs → KvR K av H (dropK kvs k) (dropN xs (nkD k))
  | _, _, .nil => .nil
  | _, _, .cons (k := k') (x := x) (q := q) (v := v') (kvs := kvs) (xs := xs) h1 h2 h3 r => by
    have ih := KvR.drop hk r
    unfold dropK dropN at ih ⊢
    rw [List.filter_cons, List.filter_cons]
    dsimp only
    have := key_dec h1 hk
    cases e : eqD k' k with
    | true =>
      rw [e] at this
      rw [decide_eq_false (fun n => n (of_decide_eq_true this))]
      exact ih
    | false =>
      rw [e] at this
      rw [decide_eq_true (of_decide_eq_false this)]
      exact .cons h1 h2 h3 ih
theorem KvR.merge : ∀ {more : List (Dt × Dt)} {ps : List (NK × Addr × V)} {kvs : List (Dt × Dt)} {xs : List (NK × Addr × V)}, KvR K av H more ps → KvR K av H kvs xs → KvR K av H (mergeK kvs more) (storeAllN xs ps)
  | _, _, _, _, .nil, r => r
  | _, _, _, _, .cons (k := k) (x := x) (q := q) (v := v) (kvs := more) (xs := ps) h1 h2 h3 t, r => show KvR K av H (mergeK (putK _ k x) more) (storeAllN (storeN _ (nkD k) q v) ps) from KvR.merge t (r.put h1 h2 h3)
theorem KvR.keysL : ∀ {kvs : List (Dt × Dt)} {xs : List (NK × Addr × V)}, KvR K av H kvs xs → RepL K av H (kvs.map Prod.fst) (xs.map fun x => V.ref x.2.1)
  | _, _, .nil => .nil
  | _, _, .cons _ h2 _ r => .cons h2 (KvR.keysL r)
theorem KvR.nth {i : Nat} {n : NK} {q : Addr} {v : V} : ∀ {kvs : List (Dt × Dt)} {xs : List (NK × Addr × V)}, KvR K av H kvs xs → xs[i]? = some (n, q, v) → ∃ k x, kvs[i]? = some (k, x) ∧ Rep K av H k (.ref q)
  | _, _, r, e => by
    induction r generalizing i with
    | nil => simp at e
    | cons h1 h2 h3 r ih =>
      cases i with
      | zero => simp at e; obtain ⟨_, rfl, _⟩ := e; exact ⟨_, _, rfl, h2⟩
      | succ i => simpa using ih (by simpa using e)
end
section
variable {X : Cx} {pins : List (Addr × Obj)} {σ : L2.St} {H : Hp} {s : Shared} {av : List Addr} {a b : Addr} {kvs : List (Dt × Dt)} {xs : List (NK × Addr × V)} {ep : Nat} {k : Dt} {A : Around} {E : Value → Shared → Prop}
/-- the key stands -/
theorem rep_is (I : Inv X pins σ H s) (hk : keyB k = true) (r : Rep X.KF av H k (.ref b)) : (nestedKind X.prog X.w).is s.heap (nkD k) b :=
  ⟨rep_nk I r rfl (keyB_ok hk).2.1, by rw [nk_dep k (keyB_ok hk).2.1]; exact (keyB_ok hk).2.2⟩
theorem rep_ref (hk : keyB k = true) {v : V} (r : Rep X.KF av H k v) : ∃ b, v = .ref b := by
  have := (keyB_ok hk).1
  cases k with
  | tup ys => obtain ⟨b, vs, e, _⟩ := Rep.sqT r; exact ⟨b, e⟩
  | _ => simp [isTupD] at this
theorem kvr_is (I : Inv X pins σ H s) : ∀ {kvs : List (Dt × Dt)} {xs : List (NK × Addr × V)} {ys : List (NK × Addr × Value)}, KvR X.KF av H kvs xs → YR xs ys → ∀ y ∈ ys, (nestedKind X.prog X.w).is s.heap y.1 y.2.1
  | _, _, _, .nil, r, y, hy => by cases r; cases hy
  | _, _, _, .cons h1 h2 h3 t, r, y, hy => by
    cases r with
    | cons c r =>
      rcases List.mem_cons.mp hy with e | hy
      · subst e
        rw [← c.1, ← c.2.1]
        exact rep_is I h1 h2
      · exact kvr_is I t r y hy
/-- what stands at a dict's place -/
theorem do_rd (I : Inv X pins σ H s) (h : H a = some (DO X.prog X.w a xs ep)) (r : KvR X.KF av H kvs xs) : (a == sysModules) = false ∧ ∃ ys, YR xs ys ∧ s.heap.DictOfH (nestedKind X.prog X.w) a ys ∧
    ∃ o es, s.heap.get? a = some o ∧ o.ExactDict ∧ o.data = .dict es ep ∧ es.toList = ys.map (entryOfKey (nestedKind X.prog X.w)) := by
  obtain ⟨⟨hd, ys, o, es, y1, y2, y3, y4, y5, y6⟩, _⟩ := I.hok a _ h
  exact ⟨hd, ys, y1, ⟨o, es, ep, y2, y3, y4, y5, kvr_is I r y1, y6⟩, o, es, y2, y3, y4, y5⟩
theorem do_new {P : Program} {w : World} {H' : Hp} {h' : Heap} {ys : List (NK × Addr × Value)} (hd : (a == sysModules) = false) (y : YR xs ys) (d : h'.DictOfH (nestedKind P w) a ys) : ∃ ep, ObjOk P w H' h' a (DO P w a xs ep) := by
  obtain ⟨o, es, ep, h1, h2, h3, h4, _, h6⟩ := d
  exact ⟨ep, ⟨hd, ys, o, es, y, h1, h2, h3, h4, h6⟩, ⟨o, h1⟩, fun h1' h2' p q => by
    obtain ⟨hd, ys, o, es, y1, y2, y3, y4, y5, y6⟩ := p
    exact ⟨hd, ys, o, es, y1, q o y2, y3, y4, y5, y6⟩⟩
theorem room_nk (hu : A.units + 65 < cLine) : (nestedKind X.prog X.w).room A.in1 := by
  show A.units + 1 + 8 < cLine
  omega
/-! #### readings -/
/-- a look at the key k in the dict at a -/
def DGN (K : KF) (H : Hp) (a : Addr) (y : V) (o : Option V) : Prop := ∃ av kvs xs ep k b, y = .ref b ∧ H a = some (DO K.P K.w a xs ep) ∧ KvR K av H kvs xs ∧ keyB k = true ∧ Rep K av H k (.ref b) ∧ o = valN xs (nkD k)
def IsDN (K : KF) (H : Hp) (a : Addr) : Prop := ∃ av kvs xs ep, H a = some (DO K.P K.w a xs ep) ∧ KvR K av H kvs xs
theorem isDN_at (I : Inv X pins σ H s) (d : IsDN X.KF H a) : s.TypeIs (.ref a) "dict" ∧ (∀ b, Value.ref a = .ref b → ∃ ob, s.heap.get? b = some ob ∧ ob.dict = none) ∧ (a == sysModules) = false := by
  obtain ⟨av, kvs, xs, ep, h, r⟩ := d
  obtain ⟨hd, ys, _, dd, _⟩ := do_rd I h r
  refine ⟨dd.typeIs, fun b q => ?_, hd⟩
  cases q
  obtain ⟨ob, _, _, h1, h2, _⟩ := dd
  exact ⟨ob, h1, h2.2.1⟩
theorem DGN.isD {K : KF} {y : V} {o : Option V} (g : DGN K H a y o) : IsDN K H a := let ⟨av, kvs, xs, ep, _, _, _, h, r, _⟩ := g; ⟨av, kvs, xs, ep, h, r⟩
variable {y v d : V} {u r : Value} {o : Option V}
theorem dn_getItem {Q : Value → Shared → Prop} (hu : A.units + 65 < cLine) (I : Inv X pins σ H s) (g : DGN X.KF H a y (some v)) (ry : RelV y u) (h : ∀ w' s', Inv X pins σ H s' → RelV v w' → Q w' s') : wpAny (model X.prog X.w) A (getItem (.ref a) u) Q E s := by
  obtain ⟨av, kvs, xs, ep, k, b, rfl, e, rel, hk, rk, l⟩ := g
  cases (show u = Value.ref b from ry)
  obtain ⟨hd, ys, yr, dd, _⟩ := do_rd I e rel
  obtain ⟨w', hw, rw'⟩ := RelO.some_of (v := v) (o := (atKey ys (nkD k)).map (·.2)) (by rw [l]; exact yr.val _)
  obtain ⟨p, hp, hp2⟩ := Option.map_eq_some_iff.mp hw
  refine wpAny_getItem_heap (room_nk hu) (rep_is I hk rk) dd hp ?_
  rw [hp2]
  exact h w' _ (I.tok _) rw'
theorem dn_in {Q : Value → Shared → Prop} (hu : A.units + 65 < cLine) (I : Inv X pins σ H s) (g : DGN X.KF H a y o) (ry : RelV y u) (h : ∀ s', Inv X pins σ H s' → Q (.bool o.isSome) s') : wpAny (model X.prog X.w) A (compareOp .In u (.ref a)) Q E s := by
  obtain ⟨av, kvs, xs, ep, k, b, rfl, e, rel, hk, rk, rfl⟩ := g
  cases (show u = Value.ref b from ry)
  obtain ⟨hd, ys, yr, dd, _⟩ := do_rd I e rel
  refine wpAny_in_heap (room_nk hu) (rep_is I hk rk) hd dd ?_
  rw [← yr.isSome]
  exact h _ (I.tok _)
theorem dn_notIn {Q : Value → Shared → Prop} (hu : A.units + 65 < cLine) (I : Inv X pins σ H s) (g : DGN X.KF H a y o) (ry : RelV y u) (h : ∀ s', Inv X pins σ H s' → Q (.bool (!o.isSome)) s') : wpAny (model X.prog X.w) A (compareOp .NotIn u (.ref a)) Q E s := by
  obtain ⟨av, kvs, xs, ep, k, b, rfl, e, rel, hk, rk, rfl⟩ := g
  cases (show u = Value.ref b from ry)
  obtain ⟨hd, ys, yr, dd, _⟩ := do_rd I e rel
  show wpAny _ _ (do return .bool (!(← contains (.ref a) (.ref b)))) Q E s
  refine wpAny_bind (wpAny_contains_heap (room_nk hu) (rep_is I hk rk) hd dd (wpAny_pure ?_))
  rw [← yr.isSome]
  exact h _ (I.tok _)
theorem dn_get2 {Q : Value → Shared → Prop} (hu : A.units + 65 < cLine) (I : Inv X pins σ H s) (g : DGN X.KF H a y o) (ry : RelV y u) (rd : RelV d r) (h : ∀ w' s', Inv X pins σ H s' → RelV (o.getD d) w' → Q w' s') :
    wpAny (model X.prog X.w) A (call (.builtin "dict.get") [.ref a, u, r]) Q E s := by
  obtain ⟨av, kvs, xs, ep, k, b, rfl, e, rel, hk, rk, rfl⟩ := g
  cases (show u = Value.ref b from ry)
  obtain ⟨hd, ys, yr, dd, _⟩ := do_rd I e rel
  exact call_meetsIn F.slot_dict_get dd.typeIs F.entry_dict_get (F.args_dict_get_3 _ _ _) (meetsH_dict_get_default (nestedKind X.prog X.w) a b hd r) ⟨room_nk hu, nkD k, ys, rep_is I hk rk, dd, h _ _ (I.tok _) ((yr.val _).getD rd)⟩
/-- a store into a dict: H' is the heap behind it -/
def DPN (K : KF) (H : Hp) (a : Addr) (y v : V) (P : Hp → Prop) : Prop := ∃ av kvs xs ep k b, y = .ref b ∧ H a = some (DO K.P K.w a xs ep) ∧ KvR K av H kvs xs ∧ keyB k = true ∧ Rep K av H k (.ref b) ∧ kvs.length ≤ sizeLine ∧
  ∀ ep', P (upd H a (DO K.P K.w a (storeN xs (nkD k) b v) ep'))
theorem dn_setItem {P : Hp → Prop} {Q : Unit → Shared → Prop} (hu : A.units + 65 < cLine) (I : Inv X pins σ H s) (g : DPN X.KF H a y v P) (ry : RelV y u) (rv : RelV v r) (h : ∀ H' s', P H' → Inv X pins σ H' s' → Q () s') : wpAny (model X.prog X.w) A (setItem (.ref a) u r) Q E s := by
  obtain ⟨av, kvs, xs, ep, k, b, rfl, e, rel, hk, rk, hz, hP⟩ := g
  cases (show u = Value.ref b from ry)
  obtain ⟨hd, ys, yr, dd, _⟩ := do_rd I e rel
  have hl : ys.length ≤ sizeLine := by rw [← Paired.length yr, ← rel.length]; exact hz
  refine wpAny_setItem_heap (hsz := hl) (room_nk hu) (rep_is I hk rk) dd fun h' dd' hs => ?_
  obtain ⟨ep', new⟩ := do_new (H' := upd H a (DO X.prog X.w a (storeN xs (nkD k) b v) ep)) hd (yr.store (n := nkD k) (b := b) rv) dd'
  have he : ∃ q, h'.get? a = some q := let ⟨q, _, _, hq, _⟩ := dd'; ⟨q, hq⟩
  exact h _ _ (hP ep') (d_write I (by rw [e]; exact True.intro) hs he new)
def DDN (K : KF) (H : Hp) (a : Addr) (y : V) (P : V → Hp → Prop) : Prop := ∃ av kvs xs ep k b v, y = .ref b ∧ H a = some (DO K.P K.w a xs ep) ∧ KvR K av H kvs xs ∧ keyB k = true ∧ Rep K av H k (.ref b) ∧ kvs.length ≤ sizeLine ∧
  valN xs (nkD k) = some v ∧ ∀ ep', P v (upd H a (DO K.P K.w a (dropN xs (nkD k)) ep'))
theorem dn_pop {P : V → Hp → Prop} {Q : Value → Shared → Prop} (hu : A.units + 65 < cLine) (I : Inv X pins σ H s) (g : DDN X.KF H a y P) (ry : RelV y u) (h : ∀ v w' H' s', RelV v w' → P v H' → Inv X pins σ H' s' → Q w' s') : wpAny (model X.prog X.w) A (call (.builtin "dict.pop") [.ref a, u]) Q E s := by
  obtain ⟨av, kvs, xs, ep, k, b, v, rfl, e, rel, hk, rk, hz, hv, hP⟩ := g
  cases (show u = Value.ref b from ry)
  obtain ⟨hd, ys, yr, dd, _⟩ := do_rd I e rel
  have hl : ys.length ≤ sizeLine := by rw [← Paired.length yr, ← rel.length]; exact hz
  obtain ⟨w', hw, rw'⟩ := RelO.some_of (v := v) (o := (atKey ys (nkD k)).map (·.2)) (by rw [← hv]; exact yr.val _)
  obtain ⟨p, hp, hp2⟩ := Option.map_eq_some_iff.mp hw
  refine call_pop_heap (more := []) (hsz := hl) (.inl rfl) (F.args_dict_pop_2 _ _) (room_nk hu) (rep_is I hk rk) hd dd hp fun h' dd' hs => ?_
  obtain ⟨ep', new⟩ := do_new (H' := upd H a (DO X.prog X.w a (dropN xs (nkD k)) ep)) hd (yr.drop (nkD k)) dd'
  have he : ∃ q, h'.get? a = some q := let ⟨q, _, _, hq, _⟩ := dd'; ⟨q, hq⟩
  rw [hp2]
  exact h v w' _ _ rw' (hP ep') (d_write I (by rw [e]; exact True.intro) hs he new)
end
/-! #### expressions -/
section
variable {X : Cx} {o i e f value : Expr} {pos pos' tpos apos cpos : Pos} {td ty tv tx : TE}
def tDGetN (K : KF) (td ty : TE) : TE := fun σ H Q => td σ H fun x H1 => ty σ H1 fun y H2 => ∃ a v, x = .ref a ∧ DGN K H2 a y (some v) ∧ Q v H2
def tDInN (K : KF) (neg : Bool) (ty td : TE) : TE := fun σ H Q => ty σ H fun y H1 => td σ H1 fun x H2 => ∃ a o, x = .ref a ∧ DGN K H2 a y o ∧ Q (.bl (if neg = true then !o.isSome else o.isSome)) H2
def sDPutN (K : KF) (td ty tv : TE) : TS := fun D σ H => tv σ H fun v H1 => td σ H1 fun x H2 => ty σ H2 fun y H3 => ∃ a, x = .ref a ∧ DPN K H3 a y v (D.nx σ)
def tDGet2N (K : KF) (td ty tx : TE) : TE := fun σ H Q => td σ H fun x H1 => ∃ a, x = .ref a ∧ IsDN K H1 a ∧ ty σ H1 fun y H2 => tx σ H2 fun z H3 => ∃ o, DGN K H3 a y o ∧ Q (o.getD z) H3
def tDPopN (K : KF) (td ty : TE) : TE := fun σ H Q => td σ H fun x H1 => ∃ a, x = .ref a ∧ IsDN K H1 a ∧ ty σ H1 fun y H2 => DDN K H2 a y Q
theorem pe_dgetN (hu : X.A.units + 65 < cLine) (ho : PE X o td) (hi : PE X i ty) (hs : NoSl i) : PE X (.Subscript o i pos) (tDGetN X.KF td ty) := by
  refine ⟨fun pins s σ H Q I h => ?_⟩
  refine subD_of PySem.F.slot_dict_getitem.lookup hs (thn (ho.run pins s σ H _ I h) fun u s1 ⟨x, H1, I1, rx, q1⟩ => thn (hi.run pins s1 σ H1 _ I1 q1) fun iv s2 ⟨y, H2, I2, ry, a, v, ex, g, q2⟩ => ?_)
  subst ex
  obtain rfl : u = Value.ref a := rx
  exact ⟨(isDN_at I2 g.isD).1, dn_getItem hu I2 g ry fun w' s3 I3 rw' => ⟨v, H2, I3, rw', q2⟩⟩
theorem pe_dinN (hu : X.A.units + 65 < cLine) (hi : PE X i ty) (ho : PE X o td) : PC X .In i o (tDInN X.KF false ty td) := by
  refine ⟨fun pins s σ H Q I h => ?_⟩
  refine thn (hi.run pins s σ H _ I h) fun iv s1 ⟨y, H1, I1, ry, q1⟩ => thn (ho.run pins s1 σ H1 _ I1 q1) fun u s2 ⟨x, H2, I2, rx, a, ov, ex, g, q2⟩ => ?_
  subst ex
  obtain rfl : u = Value.ref a := rx
  exact dn_in hu I2 g ry fun s3 I3 => ⟨.bl ov.isSome, H2, I3, rfl, q2⟩
theorem pe_dninN (hu : X.A.units + 65 < cLine) (hi : PE X i ty) (ho : PE X o td) : PC X .NotIn i o (tDInN X.KF true ty td) := by
  refine ⟨fun pins s σ H Q I h => ?_⟩
  refine thn (hi.run pins s σ H _ I h) fun iv s1 ⟨y, H1, I1, ry, q1⟩ => thn (ho.run pins s1 σ H1 _ I1 q1) fun u s2 ⟨x, H2, I2, rx, a, ov, ex, g, q2⟩ => ?_
  subst ex
  obtain rfl : u = Value.ref a := rx
  exact dn_notIn hu I2 g ry fun s3 I3 => ⟨.bl (!ov.isSome), H2, I3, rfl, q2⟩
theorem ps_dputN (hu : X.A.units + 65 < cLine) (ho : PE X o td) (hi : PE X i ty) (hv : PE X value tv) (hs : swapsWith value (some (.Subscript o i pos')) pos.line X.env = pure false) :
    PS X (.Assign [.Subscript o i pos'] value pos) (sDPutN X.KF td ty tv) := by
  refine ⟨fun pins s σ H D I h => ?_⟩
  refine wpAny_Assign_Subscript (thn (hv.run pins s σ H _ I h) fun r s1 ⟨v, H1, I1, rv, q1⟩ => thn (ho.run pins s1 σ H1 _ I1 q1) fun u s2 ⟨x, H2, I2, rx, q2⟩ => thn (hi.run pins s2 σ H2 _ I2 q2) fun iv s3 ⟨y, H3, I3, ry, a, ex, g⟩ => ?_) hs
  subst ex
  obtain rfl : u = Value.ref a := rx
  exact dn_setItem hu I3 g ry rv fun H4 s4 q3 I4 => ⟨σ, H4, I4, q3⟩
theorem pe_dget2N (hu : X.A.units + 65 < cLine) (ho : PE X o td) (he : PE X e ty) (hf : PE X f tx) (m : L2.M2 X o "get" apos e f cpos) : PE X (.Call (.Attribute o "get" apos) [e, f] [] cpos) (tDGet2N X.KF td ty tx) := by
  refine ⟨fun pins s σ H Q I h => ?_⟩
  refine wpAny_Call_method m.base m.few m.line PySem.F.plainAttrs_dict PySem.F.slot_dict_get PySem.F.type_dict_get (thn (ho.run pins s σ H _ I h) fun u s1 ⟨x, H1, I1, rx, a, ex, d, q1⟩ => ?_)
  subst ex
  obtain rfl : u = Value.ref a := rx
  obtain ⟨t1, t2, _⟩ := isDN_at I1 d
  refine ⟨t1, t2, ?_⟩
  rw [m.trees]
  refine Calls.callWith_builtin rfl (Calls.evalArgs_plain (Calls.spliced_cons (thn (he.run pins s1 σ H1 _ I1 q1) fun iv s2 ⟨y, H2, I2, ry, q2⟩ =>
    Calls.spliced_cons (thn (hf.run pins s2 σ H2 _ I2 q2) fun fv s3 ⟨z, H3, I3, rz, ov, g, q3⟩ => Calls.spliced_nil ?_))))
  exact dn_get2 hu I3 g ry rz fun w' s4 I4 rw' => ⟨_, H3, I4, rw', q3⟩
theorem pe_dpopN (hu : X.A.units + 65 < cLine) (ho : PE X o td) (he : PE X e ty) (m : L2.M1 X o "pop" apos e cpos) : PE X (.Call (.Attribute o "pop" apos) [e] [] cpos) (tDPopN X.KF td ty) := by
  refine ⟨fun pins s σ H Q I h => ?_⟩
  refine wpAny_Call_method m.base m.few m.line PySem.F.plainAttrs_dict PySem.F.slot_dict_pop PySem.F.type_dict_pop (thn (ho.run pins s σ H _ I h) fun u s1 ⟨x, H1, I1, rx, a, ex, d, q1⟩ => ?_)
  subst ex
  obtain rfl : u = Value.ref a := rx
  obtain ⟨t1, t2, _⟩ := isDN_at I1 d
  refine ⟨t1, t2, ?_⟩
  rw [m.trees]
  refine Calls.callWith_builtin rfl (Calls.evalArgs_plain (Calls.spliced_cons (thn (he.run pins s1 σ H1 _ I1 q1) fun iv s2 ⟨y, H2, I2, ry, g⟩ => Calls.spliced_nil ?_)))
  exact dn_pop hu I2 g ry fun v w' H3 s3 rw' q3 I3 => ⟨v, H3, I3, rw', q3⟩
/-- {} -/
def tDNewN (K : KF) : TE := fun _ H Q => ∀ p, H p = none → Q (.ref p) (upd H p (DO K.P K.w p [] 0))
theorem pe_dnewN : PE X (.Dict [] [] pos) (tDNewN X.KF) := ⟨fun pins s σ H Q I h =>
  wpAny_Dict_empty ⟨.ref s.heap.objs.size, _, I.laid (a := s.heap.objs.size) (o := DO X.prog X.w s.heap.objs.size [] 0) (t' := s.toks) (fun _ _ q => Heap.get?_push_of_some _ q) (Nat.le_refl _)
    (show ObjOk _ _ _ _ _ (HO.ext _) from ⟨⟨beq_eq_false_iff_ne.mpr (Ne.symm (Nat.ne_of_lt I.big)), [], _, #[], .nil, Heap.get?_push_size _ rfl, ⟨rfl, rfl, rfl⟩, rfl, rfl, List.nodup_nil⟩, ⟨_, Heap.get?_push_size _ rfl⟩, fun h1' h2' p q => by
      obtain ⟨hd, ys, o, es, y1, y2, y3, y4, y5, y6⟩ := p
      exact ⟨hd, ys, o, es, y1, q o y2, y3, y4, y5, y6⟩⟩), rfl, h _ (I.hok.fresh (Nat.le_refl _))⟩⟩
end

/-! #### a walk of a dict's keys -/
def ItD (K : KF) (a : Addr) (xs : List (NK × Addr × V)) (ep : Nat) : It :=
  ⟨fun i H => H a = some (DO K.P K.w a xs ep) ∧ i < xs.length, fun i H x H' => H' = H ∧ ∃ n q v, xs[i]? = some (n, q, v) ∧ x = .ref q, fun i H => H a = some (DO K.P K.w a xs ep) ∧ xs.length ≤ i⟩
section
variable {X : Cx} {pins : List (Addr × Obj)} {σ : L2.St} {H : Hp} {s : Shared} {a : Addr} {xs : List (NK × Addr × V)} {ep : Nat}
theorem raw_at (I : Inv X pins σ H s) (h : H a = some (DO X.prog X.w a xs ep)) : (a == sysModules) = false ∧ ∃ o es, s.heap.get? a = some o ∧ o.ExactDict ∧ o.data = .dict es ep ∧ es.size = xs.length ∧ ∀ (i : Nat) (n : NK) (q : Addr) (v : V), xs[i]? = some (n, q, v) → ∃ en : DictEntry, es[i]? = some en ∧ en.key = .ref q := by
  obtain ⟨⟨nm, ys, o, es, y1, y2, y3, y4, y5, _⟩, _⟩ := I.hok a _ h
  refine ⟨nm, o, es, y2, y3, y4, ?_, fun i n q v e => ?_⟩
  · have l1 : es.size = ys.length := size_of_entries y5
    have l2 : xs.length = ys.length := Paired.length y1
    omega
  · obtain ⟨p, hp, c1, c2, _⟩ := paired_get y1 e
    refine ⟨_, by rw [entry_at y5 i, hp]; rfl, ?_⟩
    show Value.ref p.2.1 = _
    rw [← c2]
theorem turn_keysN {P : Program} {w : World} {K : PySem.W.Frag} {tg : Expr} (it : Addr) : Turn P w K tg (ItD ⟨K, P, w⟩ a xs ep) [it] it (fun i h => h.IsKeyIter it a i xs.length ep) where
  mem := List.mem_singleton.mpr rfl
  obj := fun i h z b hb => by
    obtain ⟨oi, e, _, dd⟩ := z
    exact ⟨oi, by rw [List.mem_singleton.mp hb]; exact e, fun v q => by rw [dd] at q; cases q⟩
  keep := fun i h h' z k => z.at fun oi e => k it (List.mem_singleton.mpr rfl) oi e
  item := by
    intro X hP hw hK hc i pins s σ H E I free z ⟨hd, hi⟩
    subst hP hw hK
    obtain ⟨f0, f1, f2, f3, f4, f5⟩ := free it (List.mem_singleton.mpr rfl)
    obtain ⟨nm, o, es, y2, y3, y4, sz, ent⟩ := raw_at I hd
    obtain ⟨⟨n, q, v⟩, hq⟩ : ∃ p, xs[i]? = some p := ⟨xs[i], List.getElem?_eq_getElem hi⟩
    obtain ⟨en, hen, key⟩ := ent i n q v hq
    refine next_key_item z y2 y4 sz hen fun h' z' sb => ?_
    have J : Inv X pins σ H { s with heap := h' } := I.turned (t' := s.toks) (fun b ob hb e => (sb.2 b hb).trans e) f0 f1 f3 f4 f5
    obtain ⟨oi, e, c, dd⟩ := id z'
    exact ⟨en.key, rfl, go_of (s := { s with heap := h' }) e c dd (by decide) ⟨.ref q, H, J, key, ⟨rfl, n, q, v, hq, rfl⟩, z', fun b hb => (free b hb).1⟩⟩
  done := by
    intro X hP hw hK hc i pins s σ H E I free z ⟨hd, hi⟩
    subst hP hw hK
    obtain ⟨f0, f1, f2, f3, f4, f5⟩ := free it (List.mem_singleton.mpr rfl)
    obtain ⟨nm, o, es, y2, y3, y4, sz, _⟩ := raw_at I hd
    exact next_key_end (I.ok.hd hc) z y2 y4 sz hi fun h' eb => ⟨rfl, I.turned (t' := s.toks) (fun b ob hb e => eb b ob hb e) f0 f1 f3 f4 f5⟩
  self := fun A i s Q E z q => by
    refine wpAny_pyIter_slot z.typeIs F.slot_dict_keyiterator_iter (wpAny_call_entry F.slot_dict_keyiterator_iter z.typeIs F.entry_dict_keyiterator_iter (wpAny_pure ?_) (F.args_dict_keyiterator_iter_1 _))
    exact ⟨_, rfl, "dict_keyiterator", _, z.typeIs, F.slot_dict_keyiterator_next.lookup, q⟩
def iDic (K : KF) (td : TE) : TI := fun σ H R => td σ H fun x H1 => ∃ a xs ep, x = .ref a ∧ H1 a = some (DO K.P K.w a xs ep) ∧ R (ItD K a xs ep) H1
theorem pi_dic {tg e : Expr} {td : TE} (he : PE X e td) : PI X tg e (iDic X.KF td) := by
  refine ⟨fun pins s σ H R I h => thn (he.run pins s σ H _ I h) fun u z ⟨x, H1, J, rx, a, xs, ep, ex, hd, q⟩ => ?_⟩
  subst ex
  cases rx
  obtain ⟨nm, o, es, y2, y3, y4, sz, _⟩ := raw_at J hd
  exact iter_keys nm y2 y3 y4 (pi_one (tk := z.toks) J _ (turn_keysN _) ⟨_, Heap.get?_push_size _ rfl, rfl, by rw [sz]; rfl⟩ q)
end
end PB

set_option Elab.async false
set_option linter.all false
set_option maxRecDepth 100000
set_option maxHeartbeats 4000000
set_option backward.match.sparseCases false
/-! Expressions keep their meaning: calls of defs, and, or, walks, comprehensions. -/
namespace PB
open PySem PySem.Spec PyProof.Rows L2
/-- enumerate(v) by what begins v's walk -/
theorem enum_newB {v : Value} {o : Obj} {H : Heap → Prop} (B : PySem.Begins v o H) :
    Meets (Builtin.«enumerate.__new__» ⟨[.type "enumerate", v], []⟩) (fun _ R s => H s.heap ∧
      R (.ok (.ret (.ref (s.heap.push o).objs.size))) { s with heap := (s.heap.push o).push { cls := .type "enumerate", data := .fields #[.none, .bool false, .ref s.heap.objs.size, rawInt 0, .none, .none] } }) :=
  .of_wp fun prog w A R s h => by
    obtain ⟨hp, g, d, tk, os⟩ := s
    obtain ⟨h1, h⟩ := h
    have hsub := sub_enumerate
    have q1 : ∀ {A' : Around} {E : Value → Shared → Prop} {Q : Value → Shared → Prop}, Q (.ref hp.objs.size) ⟨hp.push o, g, d, tk, os⟩ → wpAny (model prog w) A' (pyIter v) Q E ⟨hp, g, d, tk, os⟩ :=
      fun q => B.iter prog w _ _ ⟨hp, g, d, tk, os⟩ _ h1 q
    wp_walk using q1
    refine wpAny_stack_any fun st => wpAny_pure ?_
    split
    · rename_i c _ _ _ _ _
      cases (c == Value.type "enumerate") <;> (wp_walk using q1; exact ⟨_, rfl, h⟩)
    · wp_walk using q1
      exact ⟨_, rfl, h⟩

theorem call_enumT {prog : Program} {w : World} {A : Around} {E : Value → Shared → Prop} {s : Shared} {t : Addr} {items : Array Value} {Q : Value → Shared → Prop} (hT : s.heap.IsTuple t items)
    (h : ∀ h', IsEnum h' (s.heap.objs.size + 1) s.heap.objs.size 0 .none → h'.IsTupleIter s.heap.objs.size t 0 → h'.objs.size = s.heap.objs.size + 2 →
      (∀ b o, s.heap.get? b = some o → h'.get? b = some o) → Q (.ref (s.heap.objs.size + 1)) { s with heap := h' }) :
    wpAny (model prog w) A (call (.type "enumerate") [.ref t]) Q E s := by
  refine callType_new F.called_enumerate (by decide) (F.typeCall_enumerate_1 _) (F.newCall_enumerate_1 _) (fun obj => F.args_object_init_2 obj _) F.entry_enumerate_new (enum_newB (begins_tuple t items)) ⟨hT, ?_⟩
  generalize hO : ({ cls := .type "tuple_iterator", data := .fields #[.ref t, .int 0 0] } : Obj) = O
  generalize hU : ({ cls := .type "enumerate", data := .fields #[.none, .bool false, .ref s.heap.objs.size, rawInt 0, .none, .none] } : Obj) = U
  have hz : (s.heap.push O).objs.size = s.heap.objs.size + 1 := Heap.size_push ..
  have fO : O.isFreed = false := by rw [← hO]; rfl
  have fU : U.isFreed = false := by rw [← hU]; rfl
  have g1 : ((s.heap.push O).push U).get? (s.heap.objs.size + 1) = some U := by
    have q := Heap.get?_push_size (s.heap.push O) fU
    rwa [hz] at q
  have g0 : ((s.heap.push O).push U).get? s.heap.objs.size = some O := Heap.get?_push_of_some _ (Heap.get?_push_size _ fO)
  show _ ∧ _
  rw [hz]
  refine ⟨⟨_, g1, by rw [← hU]⟩, h _ (by rw [← hU] at g1 ⊢; exact g1) ⟨O, g0, by rw [← hO], by rw [← hO]; rfl⟩ (by rw [Heap.size_push, hz]) fun b o x => Heap.get?_push_of_some _ (Heap.get?_push_of_some _ x)⟩
/-- the tuple at a, each item in a new pair -/
def IteT (K : PySem.W.Frag) (a : Addr) : It :=
  ⟨fun i H => ∃ (xs : List V) (x : V), SqT K H a xs ∧ xs[i]? = some x, fun i H v H' => ∃ T x, v = .ref T ∧ H T = none ∧ H' = upd H T (.tup [.int (i : Nat), x]) ∧ ∀ xs, SqT K H a xs → xs[i]? = some x, fun i H => ∃ xs : List V, SqT K H a xs ∧ xs.length = i⟩
theorem turn_enumT {P : Program} {w : World} {K : PySem.W.Frag} {elts : List Expr} {kk : Nat} {tpos : Pos} (a e it : Addr) (hat : a ≠ it) (hea : e ≠ a) :
    Turn P w K (.Tuple elts kk tpos) (IteT K a) [e, it] e (fun i h => (∃ old, IsEnum h e it ((i : Nat) : Int) old) ∧ h.IsTupleIter it a i ∧ e ≠ it) where
  mem := by simp
  obj := fun i h st b hb => by
    obtain ⟨⟨old, he⟩, ⟨o, ho, hc, hd⟩, _⟩ := st
    rcases (by simpa using hb : b = e ∨ b = it) with rfl | rfl
    · exact ⟨_, he, fun v q => nomatch q⟩
    · exact ⟨o, ho, fun v q => by rw [hd] at q; cases q⟩
  keep := fun i h h' st k => let ⟨⟨old, he⟩, hi, hne⟩ := st; ⟨⟨old, k e (by simp) _ he⟩, hi.at fun o q => k it (by simp) o q, hne⟩
  item := by
    intro X hP hw hK hc i pins s σ H E I hf st hg
    subst hP hw hK
    obtain ⟨⟨old, he⟩, hit, hne⟩ := st
    obtain ⟨xs, x, hq, hx⟩ := hg
    obtain ⟨its, rv, p, hz⟩ := I.tuple hq
    obtain ⟨u, hu, ru⟩ := rv.get hx
    have hel : e < s.heap.objs.size := Heap.lt_size he
    have hil : it < s.heap.objs.size := by obtain ⟨_, q, _⟩ := hit; exact Heap.lt_size q
    have pT : s.heap.IsTuple a its.toArray := p
    have hlt : i < its.toArray.size := by
      have := (List.getElem?_eq_some_iff.mp hu).1
      simpa using this
    refine wpAny_pyNext_enum_itemD (Draws.tuple (A := X.A.in1) (I.ok.hd hc) it a hat its.toArray) he ⟨hit, pT⟩ hlt hne (by simp [hne, hea]) fun y h' tk hy ho hst hT hsz hk => ?_
    have ey : y = u := by
      have hy : its.toArray[i]? = some y := hy
      have : its[i]? = some y := by simpa using hy
      rw [hu] at this
      exact (Option.some.inj this).symm
    subst ey
    refine ⟨_, rfl, wpAny_letOwnedTupleGo_enum (s := { s with heap := h', toks := tk + 1 }) ho fun h'' he' sb => ?_⟩
    have hT2 : h''.get? s.heap.objs.size = some { cls := .type "tuple", data := .seq #[.int i tk, y] } := (sb.2 _ (Nat.ne_of_gt hel)).trans hT
    have new : ObjOk X.prog X.w (upd H s.heap.objs.size (.tup [.int (i : Nat), x])) h'' s.heap.objs.size (.tup [.int (i : Nat), x]) :=
      ⟨by show 2 ≤ sizeLine; decide, [.int i tk, y], .cons ⟨_, rfl⟩ (.cons ru .nil), ⟨_, hT2, rfl, _, rfl⟩⟩
    have I1 : Inv X pins σ (upd H s.heap.objs.size (.tup [.int (i : Nat), x])) { s with heap := h'', toks := tk + 1 } :=
      I.turnedNew (ch := [e, it]) (fun b ob hb q => (sb.2 b (fun z => hb (by simp [z]))).trans (hk b ob (fun z => hb (by simp [z])) (fun z => hb (by simp [z])) q)) hf (Nat.le_refl _) new
    refine ⟨.ref s.heap.objs.size, _, I1, rfl, ⟨_, x, rfl, I.hok.fresh (Nat.le_refl _), rfl, fun ys hy => ?_⟩, ⟨⟨y, ?_⟩, hst.1.at fun o q => (sb.2 it (Ne.symm hne)).trans q, hne⟩, fun b hb => ?_⟩
    · rw [I.tuple_inj hy hq]; exact hx
    · have e1 : ((i + 1 : Nat) : Int) = (i : Int) + 1 := by omega
      rw [e1]; exact he'
    · have hb' : b < s.heap.objs.size := by
        rcases (by simpa using hb : b = e ∨ b = it) with rfl | rfl
        · exact hel
        · exact hil
      rw [upd_ne (Nat.ne_of_lt hb')]
      exact (hf b hb).1
  done := by
    intro X hP hw hK hc i pins s σ H E I hf st hg
    subst hP hw hK
    obtain ⟨⟨old, he⟩, hit, hne⟩ := st
    obtain ⟨xs, hq, hx⟩ := hg
    obtain ⟨its, rv, p, hz⟩ := I.tuple hq
    obtain ⟨f0, f1, f2, f3, f4, f5⟩ := hf it (by simp)
    have hl := rv.length
    have hn : i = its.toArray.size := by simp; omega
    exact wpAny_pyNext_enum_endD (Draws.tuple (A := X.A.in1) (I.ok.hd hc) it a hat its.toArray) he ⟨by rw [← hn]; exact hit, p⟩ fun h' eb => ⟨rfl, I.turned (t' := s.toks) (fun b o hb q => eb b o hb q) f0 f1 f3 f4 f5⟩
  self := fun A i s Q E st h => let ⟨⟨_, he⟩, _⟩ := st; wpAny_pyIter_enum he h
def iEnumT (K : KF) (ta : TA) : TI := fun σ H R => ta σ H fun vs H1 => ∃ a xs, vs = [.ref a] ∧ SqT K H1 a xs ∧ R (IteT K a) H1
theorem pi_enumT {X : Cx} {e : Expr} {ta : TA} {p pos tpos : Pos} {elts : List Expr} {kk : Nat} (hg : Gl X "enumerate") (hm : X.mg "enumerate" = none) (ha : PA X [e] ta) (hs : starEach [e] X.env = [(false, eval e X.env)]) :
    PI X (.Tuple elts kk tpos) (.Call (.Name "enumerate" p) [e] [] pos) (iEnumT X.KF ta) := by
  refine ⟨fun pins s σ H R I h => ?_⟩
  refine Call_ (ld_blt I hg hm boot_enumerate (PyProof.Rows.callWith_type1 (thn (ha.run pos pins s σ H _ I h) fun us s1 ⟨vs, H1, I1, r1, q1⟩ => ?_) hs rfl))
  obtain ⟨a, xs, rfl, hq, q⟩ := q1
  obtain ⟨u, rfl, ru⟩ := vals1 r1
  obtain rfl : u = Value.ref a := ru
  obtain ⟨its, rv, p', hz⟩ := I1.tuple hq
  have pT : s1.heap.IsTuple a its.toArray := p'
  have hal : a < s1.heap.objs.size := by obtain ⟨_, g, _⟩ := pT; exact Heap.lt_size g
  refine call_enumT pT fun h' he hit hsz hk => wpAny_pyIter_enum he ?_
  have I2 : Inv X pins σ H1 { s1 with heap := h' } := I1.kept (t' := s1.toks) hk
  refine ⟨s1.heap.objs.size + 1, [s1.heap.objs.size + 1, s1.heap.objs.size], _, _, H1, rfl, I2, turn_enumT a (s1.heap.objs.size + 1) s1.heap.objs.size (Nat.ne_of_lt hal) (Ne.symm (Nat.ne_of_lt (Nat.lt_succ_of_lt hal))), ⟨⟨.none, he⟩, hit, Nat.succ_ne_self _⟩, fun b hb => ?_, q⟩
  have hle : s1.heap.objs.size ≤ b := by
    rcases (by simpa using hb : b = s1.heap.objs.size + 1 ∨ b = s1.heap.objs.size) with rfl | rfl
    · exact Nat.le_add_right _ _
    · exact Nat.le_refl _
  exact I1.fpOk hle (I1.hok.fresh hle)
section
variable {XT : Xt} {T : Tb} {Γ : Gam} {N : List Str} {X : Cx} {W : WX} {sc : Scope} {K : KF} {σ : L2.St} {H : Hp} {Q : VK}

theorem evEs_len : ∀ (es : Exs) {ρ : Ev} {st : Sr} {p : List Wv × Sr}, evEs Γ es ρ st = .ok p → p.1.length = es.len
  | .nil, ρ, st, p, h => by
    unfold evEs at h
    cases h; rfl
  | .cons e es, ρ, st, p, h => by
    unfold evEs at h
    obtain ⟨a, _, h⟩ := bind_ok_inv h
    obtain ⟨b, h2, h⟩ := bind_ok_inv h
    cases h
    show b.1.length + 1 = es.len + 1
    rw [evEs_len es h2]
theorem pe_callE {f : Nat} {es : Exs} {x : Str} {y : Expr} {ys : List Expr} {pn pos : Pos} (c : CxOk XT T Γ N X W sc) (hf : T.fns[f]? = some (x, es.len)) (hcl : T.nn = true → f ∈ T.cln) (hg : isGl sc x = true) (ha : PA X (y :: ys) (tL XT X.KF W (evEs Γ es)))
    (hs : starEach (y :: ys) X.env = (false, eval y X.env) :: starEach ys X.env) (hpl : (backTo pos (starEach ys X.env)).any (·.1) = false) :
    PE X (.Call (.Name x pn) (y :: ys) [] pos) (tW XT X.KF W (evE Γ (.call f es))) := by
  obtain ⟨k, a, fd, ps, F, hr, hm, hk, hb, hn⟩ := c.fn f x es.len hf hcl
  refine PE.weak (pe_callSD F hr (c.gl hg) hm hk hb .nil (fun σ => passB c.takes σ) ha (isGl_gl hg).2 hs hpl) fun σ H Q h => ?_
  obtain ⟨fo, φ, ρ, st, hs, he, h⟩ := h
  unfold evE at h
  refine ⟨fo, φ, ρ, st, hs, he, ?_⟩
  have h2 := Go.of_bind h
  cases e : evEs Γ es ρ st with
  | bad => rw [e] at h2; exact h2
  | exc c fs sx => rw [e] at h2; exact h2
  | ok p =>
    rw [e] at h2
    intro φ' H' s' q' vs rv
    refine ⟨fo, φ', p.2, p.1, q', ?_, evEs_len es e, h2 φ' H' s' q'⟩
    rw [List.append_nil]
    exact rv
theorem pe_call0E {f : Nat} {x : Str} {pn pos : Pos} (c : CxOk XT T Γ N X W sc) (hf : T.fns[f]? = some (x, 0)) (hcl : T.nn = true → f ∈ T.cln) (hg : isGl sc x = true) : PE X (.Call (.Name x pn) [] [] pos) (tW XT X.KF W (evE Γ (.call0 f))) := by
  obtain ⟨k, a, fd, ps, F, hr, hm, hk, hb, hn⟩ := c.fn f x 0 hf hcl
  refine PE.weak (pe_call0 (E := fun _ _ _ => False) (dvs := []) F hr (c.gl hg) hm hk hb .nil (fun pins σ H s e s' I z => by
    revert z
    cases XT.nn with
    | true => exact fun ⟨_, _, _, _, _, _, _, _, _, _, _, _, z⟩ => z.elim
    | false => exact fun ⟨_, _, _, _, _, _, _, _, _, _, _, _, z⟩ => z.elim) (isGl_gl hg).2) fun σ H Q h => ?_
  obtain ⟨fo, φ, ρ, st, hs, he, h⟩ := h
  unfold evE at h
  refine ⟨fo, φ, st, [], hs, .nil, rfl, ?_⟩
  cases e : Γ.call f [] st with
  | ok p => rw [e] at h; exact h
  | exc c fs sx => rw [e] at h; exact h.elim
  | bad => rw [e] at h; exact h
theorem no_star : ∀ {T : Tb} {N : List Str} {sc : Scope} {es : Exs} {ys : List Expr} {pos : Pos} {env : PySem.Env}, chkEs T N sc es ys = true → (backTo pos (starEach ys env)).any (·.1) = false
  | T, N, sc, .nil, [], pos, env, h => rfl
  | T, N, sc, .cons e es, y :: ys, pos, env, h => by
    unfold chkEs at h
    simp only [Bool.and_eq_true] at h
    rw [plainE_star h.1.2]
    have := no_star (T := T) (N := N) (sc := sc) (es := es) (ys := ys) (pos := pos) (env := env) h.2
    show (false || (backTo pos (starEach ys env)).any (·.1)) = false
    rw [this]
    rfl
  | T, N, sc, .nil, _ :: _, pos, env, h => by unfold chkEs at h; cases h
  | T, N, sc, .cons _ _, [], pos, env, h => by unfold chkEs at h; cases h
/-! #### and, or -/
theorem evAnd_one (e : Ex) : evAnd Γ (.cons e .nil) = evE Γ e := by
  funext ρ st
  unfold evAnd
  rfl
theorem evOr_one (e : Ex) : evOr Γ (.cons e .nil) = evE Γ e := by
  funext ρ st
  unfold evOr
  rfl
theorem evAnd_more (e e2 : Ex) (r : Exs) (ρ : Ev) (st : Sr) : evAnd Γ (.cons e (.cons e2 r)) ρ st = (evE Γ e ρ st).bind fun p => (truW p).bind fun t => if t = true then evAnd Γ (.cons e2 r) ρ p.2 else .ok p := by
  rw [evAnd]
  rfl
theorem evOr_more (e e2 : Ex) (r : Exs) (ρ : Ev) (st : Sr) : evOr Γ (.cons e (.cons e2 r)) ρ st = (evE Γ e ρ st).bind fun p => (truW p).bind fun t => if t = true then .ok p else evOr Γ (.cons e2 r) ρ p.2 := by
  rw [evOr]
  rfl
theorem truW_cases (p : Wv × Sr) : truW p = .bad ∨ ∃ k, truW p = .ok k := by
  cases e : truW p with
  | bad => exact .inl rfl
  | ok k => exact .inr ⟨k, rfl⟩
  | exc c fs sx => exact (truW_exc e).elim
theorem pe_andE {e e2 : Ex} {r : Exs} {x y : Expr} {ys : List Expr} {pos : Pos} (ha : PE X x (tW XT X.KF W (evE Γ e))) (hb : PE X (.BoolOp .And (y :: ys) pos) (tW XT X.KF W (evAnd Γ (.cons e2 r)))) :
    PE X (.BoolOp .And (x :: y :: ys) pos) (tW XT X.KF W (evAnd Γ (.cons e (.cons e2 r)))) := by
  refine PE.weak (pe_andT ha hb) fun σ H Q h => ?_
  obtain ⟨fo, φ, ρ, st, hs, he, h⟩ := h
  rw [evAnd_more] at h
  refine ⟨fo, φ, ρ, st, hs, he, (Go.of_bind h).imp fun w st1 φ1 H1 s1 q1 h1 v rv => ?_⟩
  rcases truW_cases (w, st1) with e1 | ⟨k, e1⟩
  · rw [e1] at h1; exact h1.elim
  · rw [e1] at h1
    refine ⟨k, truW_ok q1 rv e1, ?_⟩
    cases k with
    | true => exact ⟨fo, φ1, ρ, st1, q1, he.step s1, h1⟩
    | false => exact (Go.run (a := w) (st := st1) h1 q1) v rv
theorem pe_orE {e e2 : Ex} {r : Exs} {x y : Expr} {ys : List Expr} {pos : Pos} (ha : PE X x (tW XT X.KF W (evE Γ e))) (hb : PE X (.BoolOp .Or (y :: ys) pos) (tW XT X.KF W (evOr Γ (.cons e2 r)))) :
    PE X (.BoolOp .Or (x :: y :: ys) pos) (tW XT X.KF W (evOr Γ (.cons e (.cons e2 r)))) := by
  refine PE.weak (pe_orT ha hb) fun σ H Q h => ?_
  obtain ⟨fo, φ, ρ, st, hs, he, h⟩ := h
  rw [evOr_more] at h
  refine ⟨fo, φ, ρ, st, hs, he, (Go.of_bind h).imp fun w st1 φ1 H1 s1 q1 h1 v rv => ?_⟩
  rcases truW_cases (w, st1) with e1 | ⟨k, e1⟩
  · rw [e1] at h1; exact h1.elim
  · rw [e1] at h1
    refine ⟨k, truW_ok q1 rv e1, ?_⟩
    cases k with
    | false => exact ⟨fo, φ1, ρ, st1, q1, he.step s1, h1⟩
    | true => exact (Go.run (a := w) (st := st1) h1 q1) v rv
/-- a test of and, or: as the truth of the value -/
def evTAnd (Γ : Gam) (es : Exs) (ρ : Ev) (st : Sr) : Rs (Bool × Sr) := (evAnd Γ es ρ st).bind fun p => (truW p).bind fun t => .ok (t, p.2)
def evTOr (Γ : Gam) (es : Exs) (ρ : Ev) (st : Sr) : Rs (Bool × Sr) := (evOr Γ es ρ st).bind fun p => (truW p).bind fun t => .ok (t, p.2)
theorem pw_one {e : Ex} {x : Expr} {op : BoolOp} {pos : Pos} (ha : PT X x (tT XT X.KF W (evT Γ e))) : PW X (.BoolOp op [x] pos) (tT XT X.KF W (evT Γ e)) := by
  cases op with
  | And => exact pw_and1 ha
  | Or => exact pw_or1 ha
theorem PW.weak {e : Expr} {t t' : TT} (h : PW X e t) (f : ∀ σ H Q, t' σ H Q → t σ H Q) : PW X e t' := ⟨fun wh pins s σ H Q I q => h.run wh pins s σ H Q I (f σ H Q q)⟩
theorem pw_andE {e e2 : Ex} {r : Exs} {x y : Expr} {ys : List Expr} {pos : Pos} (ha : PT X x (tT XT X.KF W (evT Γ e))) (hb : PW X (.BoolOp .And (y :: ys) pos) (tT XT X.KF W (evTAnd Γ (.cons e2 r)))) :
    PW X (.BoolOp .And (x :: y :: ys) pos) (tT XT X.KF W (evTAnd Γ (.cons e (.cons e2 r)))) := by
  refine PW.weak (pw_and ha hb) fun σ H Q h => ?_
  obtain ⟨fo, φ, ρ, st, hs, he, h⟩ := h
  refine ⟨fo, φ, ρ, st, hs, he, ?_⟩
  unfold evTAnd at h
  rw [evAnd_more] at h
  unfold evT
  cases e1 : evE Γ e ρ st with
  | bad => rw [e1] at h; exact h
  | exc c fs sx => rw [e1] at h; exact h
  | ok p =>
    rw [e1] at h
    simp only [Rs.bind_ok] at h ⊢
    rcases truW_cases p with e2 | ⟨k, e2⟩
    · rw [e2] at h; exact False.elim h
    · rw [e2] at h ⊢
      simp only [Rs.bind_ok] at h ⊢
      intro φ' H' s' q'
      cases k with
      | true => exact ⟨fo, φ', ρ, p.2, q', he.step s', Go.at_ h s'⟩
      | false =>
        rw [if_neg Bool.false_ne_true] at h ⊢
        simp only [Rs.bind_ok, e2] at h
        exact Go.run (Go.at_ h s') q'
theorem pw_orE {e e2 : Ex} {r : Exs} {x y : Expr} {ys : List Expr} {pos : Pos} (ha : PT X x (tT XT X.KF W (evT Γ e))) (hb : PW X (.BoolOp .Or (y :: ys) pos) (tT XT X.KF W (evTOr Γ (.cons e2 r)))) :
    PW X (.BoolOp .Or (x :: y :: ys) pos) (tT XT X.KF W (evTOr Γ (.cons e (.cons e2 r)))) := by
  refine PW.weak (pw_or ha hb) fun σ H Q h => ?_
  obtain ⟨fo, φ, ρ, st, hs, he, h⟩ := h
  refine ⟨fo, φ, ρ, st, hs, he, ?_⟩
  unfold evTOr at h
  rw [evOr_more] at h
  unfold evT
  cases e1 : evE Γ e ρ st with
  | bad => rw [e1] at h; exact h
  | exc c fs sx => rw [e1] at h; exact h
  | ok p =>
    rw [e1] at h
    simp only [Rs.bind_ok] at h ⊢
    rcases truW_cases p with e2 | ⟨k, e2⟩
    · rw [e2] at h; exact False.elim h
    · rw [e2] at h ⊢
      simp only [Rs.bind_ok] at h ⊢
      intro φ' H' s' q'
      cases k with
      | false =>
        rw [if_neg Bool.false_ne_true] at h ⊢
        exact ⟨fo, φ', ρ, p.2, q', he.step s', Go.at_ h s'⟩
      | true =>
        rw [if_pos rfl] at h ⊢
        simp only [Rs.bind_ok, e2] at h
        exact Go.run (Go.at_ h s') q'
/-! #### targets -/
def gMany : List Nat → TGs
  | [] => gNil
  | i :: is => gCons (gName i) (gMany is)
def gTg (K : KF) : Tg → TG
  | .one i => gName i
  | .many is => gTup K is.length (gMany is)
  | .nst i is => gTup K 2 (gCons (gName i) (gCons (gTup K is.length (gMany is)) gNil))
theorem isTg_loc {sc : Scope} {cell : Str → Bool} {x : Str} (h : isTg sc cell x = true) : Loc sc x ∧ (cell x = true ∨ sc.names.lookup x = some .local) := by
  unfold isTg at h
  split at h
  · rename_i e; exact ⟨.inl e, .inr e⟩
  · rename_i e; exact ⟨.inr e, .inl h⟩
  · cases h
theorem pgs_many {cell : Str → Bool} (hn : X.N = N) (nd : X.N.Nodup) (hsc : X.env.scope = sc) (hcell : ∀ x, cell x = true → X.fn x = true) : ∀ {is : List Nat} {es : List Expr}, chkTgs N (isTg sc cell) is es = true →
    PGs X es (gMany is) ∧ (assignEach es X.env).length = is.length ∧ (assignEach es X.env).findIdx? (·.1) = none
  | [], [], _ => ⟨pgs_nil, rfl, rfl⟩
  | i :: is, e :: es, h => by
    cases e with
    | Name x p =>
      unfold chkTgs at h
      simp only [Bool.and_eq_true, decide_eq_true_eq] at h
      obtain ⟨h1, h2, h3⟩ := pgs_many (cell := cell) hn nd hsc hcell h.2
      obtain ⟨l1, l2⟩ := isTg_loc h.1.2
      refine ⟨pgs_cons (pg_name nd (by rw [hn]; exact h.1.1) (by rw [hsc]; exact l1) (by rw [hsc]; exact l2.imp (hcell x) id)) h1 rfl, ?_, ?_⟩
      · show (assignEach es X.env).length + 1 = is.length + 1
        rw [h2]
      · show ((false, assign (.Name x p) X.env) :: assignEach es X.env).findIdx? (·.1) = none
        rw [List.findIdx?_cons]
        simp [h3]
    | _ => unfold chkTgs at h; cases h
  | [], _ :: _, h => by unfold chkTgs at h; cases h
  | _ :: _, [], h => by unfold chkTgs at h; cases h
theorem pg_tg {cell : Str → Bool} (hn : X.N = N) (nd : X.N.Nodup) (hsc : X.env.scope = sc) (hcell : ∀ x, cell x = true → X.fn x = true) (hc : X.calm = true) {tg : Tg} {t : Expr} (h : chkTg N (isTg sc cell) tg t = true) : PG X t (gTg X.KF tg) := by
  cases tg with
  | one i =>
    cases t with
    | Name x p =>
      unfold chkTg at h
      simp only [Bool.and_eq_true, decide_eq_true_eq] at h
      obtain ⟨l1, l2⟩ := isTg_loc h.2
      exact pg_name nd (by rw [hn]; exact h.1) (by rw [hsc]; exact l1) (by rw [hsc]; exact l2.imp (hcell x) id)
    | _ => unfold chkTg at h; cases h
  | many is =>
    cases t with
    | Tuple es k p =>
      unfold chkTg at h
      obtain ⟨h1, h2, h3⟩ := pgs_many (cell := cell) hn nd hsc hcell h
      exact pg_tup hc h1 h2 h3
    | _ => unfold chkTg at h; cases h
  | nst i is =>
    unfold chkTg at h
    split at h
    · rename_i e; cases e
    · rename_i e; cases e
    · rename_i e
      cases e
      simp only [Bool.and_eq_true, decide_eq_true_eq] at h
      obtain ⟨l1, l2⟩ := isTg_loc h.1.2
      obtain ⟨h1, h2, h3⟩ := pgs_many (cell := cell) hn nd hsc hcell h.2
      exact pg_tup hc (pgs_cons (pg_name nd (by rw [hn]; exact h.1.1) (by rw [hsc]; exact l1) (by rw [hsc]; exact l2.imp (hcell _) id)) (pgs_cons (pg_tup hc h1 h2 h3) pgs_nil rfl) rfl) rfl rfl
    · cases h
theorem wipe_set {σ : L2.St} {i : Nat} {v : Option V} : ∀ {vs : List Nat}, i ∈ vs → wipe (σ.set i v) vs = wipe σ vs
  | u :: vs, h => by
    show (wipe (σ.set i v) vs).set u none = (wipe σ vs).set u none
    by_cases hu : i ∈ vs
    · rw [wipe_set hu]
    · rcases List.mem_cons.mp h with rfl | h
      · have : ∀ (ws : List Nat), wipe (σ.set i v) ws = (wipe σ ws).set i v ∨ wipe (σ.set i v) ws = wipe σ ws := by
          intro ws
          induction ws with
          | nil => exact .inl rfl
          | cons w ws ih =>
            show ((wipe (σ.set i v) ws).set w none = ((wipe σ ws).set w none).set i v) ∨ ((wipe (σ.set i v) ws).set w none = (wipe σ ws).set w none)
            by_cases hw : w = i
            · subst hw
              rcases ih with ih | ih
              · right; rw [ih, List.set_set]
              · right; rw [ih]
            · rcases ih with ih | ih
              · left; rw [ih, List.set_comm _ _ (Ne.symm hw)]
              · right; rw [ih]
        rcases this vs with e | e
        · rw [e, List.set_set]
        · rw [e]
      · exact absurd h hu
theorem gMany_ok {fo φ : List Addr} {all : List Nat} {Qs : L2.St → Hp → Prop} : ∀ {is : List Nat} {xs : List Dt} {vs : List V} {ρ ρ' : Ev} {σ : L2.St}, setMany is xs ρ = some ρ' → (∀ i ∈ is, i ∈ all) → EnvOk K fo φ H ρ σ → RepL K (fo ++ φ) H xs vs →
    (∀ σ', EnvOk K fo φ H ρ' σ' → wipe σ' all = wipe σ all → Qs σ' H) → gMany is vs σ H Qs
  | [], [], _, ρ, ρ', σ, e, _, he, .nil, q => by
    cases e
    exact ⟨rfl, q σ he rfl⟩
  | i :: is, x :: xs, _, ρ, ρ', σ, e, ha, he, .cons h r, q => by
    refine ⟨_, _, rfl, ?_⟩
    show gMany is _ (σ.set i (some _)) H Qs
    refine gMany_ok e (fun j hj => ha j (List.mem_cons_of_mem _ hj)) (he.set (w := .d x) h) r fun σ' he' hw => q σ' he' ?_
    rw [hw]
    exact wipe_set (ha i List.mem_cons_self)
  | [], _ :: _, _, _, _, _, e, _, _, _, _ => by cases e
  | _ :: _, [], _, _, _, _, e, _, _, _, _ => by cases e
theorem gMany_len : ∀ {is : List Nat} {xs : List Dt} {ρ ρ' : Ev}, setMany is xs ρ = some ρ' → xs.length = is.length
  | [], [], _, _, _ => rfl
  | i :: is, x :: xs, ρ, ρ', e => by
    show xs.length + 1 = is.length + 1
    rw [gMany_len (ρ := ρ.set i (some (.d x))) e]
  | [], _ :: _, _, _, e => by cases e
  | _ :: _, [], _, _, e => by cases e
theorem gTg_ok {fo φ : List Addr} {tg : Tg} {d : Dt} {v : V} {ρ ρ' : Ev} {Qs : L2.St → Hp → Prop} (e : setTg tg d ρ = some ρ') (he : EnvOk K fo φ H ρ σ) {z : Bool} (hz : z = true → ∀ i, tg ≠ .one i) (r : RepI K z (fo ++ φ) H d v)
    (q : ∀ σ', EnvOk K fo φ H ρ' σ' → wipe σ' tg.slots = wipe σ tg.slots → Qs σ' H) : gTg K tg v σ H Qs := by
  cases tg with
  | one i =>
    cases e
    rcases r with r | ⟨ez, _⟩
    · exact q _ (he.set (w := .d d) r) (wipe_set (by simp [Tg.slots]))
    · exact absurd rfl (hz ez i)
  | many is =>
    cases d with
    | tup xs =>
      obtain ⟨a, vs, rfl, hs, hr⟩ : ∃ a vs, v = .ref a ∧ SqT K H a vs ∧ RepL K (fo ++ φ) H xs vs := by
        rcases r with r | ⟨_, xs', a, vs, ed, e2, e3, e4⟩
        · exact r.sqT
        · cases ed; exact ⟨a, vs, e2, e3, e4⟩
      refine ⟨a, vs, rfl, hs, by rw [← hr.length]; exact gMany_len e, gMany_ok e (fun i hi => hi) he hr q⟩
    | _ => cases e
  | nst i is =>
    unfold setTg at e
    split at e
    · rename_i ee; cases ee
    · rename_i ee; cases ee
    · cases e
    · rename_i ρ0 i' is' x xs ee
      cases ee
      obtain ⟨a, vs, rfl, hs, hr⟩ : ∃ a vs, v = .ref a ∧ SqT K H a vs ∧ RepL K (fo ++ φ) H [x, .tup xs] vs := by
        rcases r with r | ⟨_, xs', a, vs, ed, e2, e3, e4⟩
        · exact r.sqT
        · cases ed; exact ⟨a, vs, e2, e3, e4⟩
      cases hr with
      | cons r1 r2 =>
        cases r2 with
        | cons r3 r4 =>
          cases r4
          obtain ⟨a2, vs2, rfl, hs2, hr2⟩ := r3.sqT
          refine ⟨a, _, rfl, hs, rfl, _, _, rfl, ?_⟩
          refine ⟨_, _, rfl, a2, vs2, rfl, hs2, by rw [← hr2.length]; exact gMany_len e, ?_⟩
          refine gMany_ok (all := i :: is) e (fun j hj => List.mem_cons_of_mem _ hj) (he.set (w := .d x) r1) hr2 fun σ' he' hw => ⟨rfl, q σ' he' ?_⟩
          rw [show (Tg.nst i is).slots = i :: is from rfl, hw]
          exact wipe_set List.mem_cons_self
    · cases e
/-! #### walks -/
mutual
theorem sameD_eq : ∀ {x y : Dt}, sameD x y = true → x = y
  | .non, .non, _ => rfl
  | .bl a, .bl b, h => by
    simp only [sameD, beq_iff_eq] at h
    rw [h]
  | .int a, .int b, h => by
    simp only [sameD, beq_iff_eq] at h
    rw [h]
  | .str a, .str b, h => by
    simp only [sameD, beq_iff_eq] at h
    rw [h]
  | .tup a, .tup b, h => by
    simp only [sameD] at h
    rw [sameDs_eq h]
  | .lst a, .lst b, h => by
    simp only [sameD] at h
    rw [sameDs_eq h]
  | .scr a, .scr b, h => by
    simp only [sameD, beq_iff_eq] at h
    rw [h]
  | .non, .bl _, h => by cases h
  | .non, .int _, h => by cases h
  | .non, .str _, h => by cases h
  | .non, .tup _, h => by cases h
  | .non, .lst _, h => by cases h
  | .non, .scr _, h => by cases h
  | .bl _, .non, h => by cases h
  | .bl _, .int _, h => by cases h
  | .bl _, .str _, h => by cases h
  | .bl _, .tup _, h => by cases h
  | .bl _, .lst _, h => by cases h
  | .bl _, .scr _, h => by cases h
  | .int _, .non, h => by cases h
  | .int _, .bl _, h => by cases h
  | .int _, .str _, h => by cases h
  | .int _, .tup _, h => by cases h
  | .int _, .lst _, h => by cases h
  | .int _, .scr _, h => by cases h
  | .str _, .non, h => by cases h
  | .str _, .bl _, h => by cases h
  | .str _, .int _, h => by cases h
  | .str _, .tup _, h => by cases h
  | .str _, .lst _, h => by cases h
  | .str _, .scr _, h => by cases h
  | .tup _, .non, h => by cases h
  | .tup _, .bl _, h => by cases h
  | .tup _, .int _, h => by cases h
  | .tup _, .str _, h => by cases h
  | .tup _, .lst _, h => by cases h
  | .tup _, .scr _, h => by cases h
  | .lst _, .non, h => by cases h
  | .lst _, .bl _, h => by cases h
  | .lst _, .int _, h => by cases h
  | .lst _, .str _, h => by cases h
  | .lst _, .tup _, h => by cases h
  | .lst _, .scr _, h => by cases h
  | .scr _, .non, h => by cases h
  | .scr _, .bl _, h => by cases h
  | .scr _, .int _, h => by cases h
  | .scr _, .str _, h => by cases h
  | .scr _, .tup _, h => by cases h
  | .scr _, .lst _, h => by cases h
theorem sameDs_eq : ∀ {xs ys : List Dt}, sameDs xs ys = true → xs = ys
  | [], [], _ => rfl
  | x :: xs, y :: ys, h => by
    simp only [sameDs, Bool.and_eq_true] at h
    rw [sameD_eq h.1, sameDs_eq h.2]
  | [], _ :: _, h => by cases h
  | _ :: _, [], h => by cases h
end
mutual
theorem sameD_refl : ∀ x : Dt, sameD x x = true
  | .non => rfl
  | .bl _ => by simp [sameD]
  | .int _ => by simp [sameD]
  | .str _ => by simp [sameD]
  | .tup xs => by simp only [sameD]; exact sameDs_refl xs
  | .lst xs => by simp only [sameD]; exact sameDs_refl xs
  | .scr _ => by simp [sameD]
theorem sameDs_refl : ∀ xs : List Dt, sameDs xs xs = true
  | [] => rfl
  | x :: xs => by simp only [sameDs, sameD_refl x, sameDs_refl xs, Bool.and_self]
end
theorem watch_one {n : Nat} {xs : List Dt} {st : Sr} (h : watchOk [(n, xs)] st = true) : st[n]? = some (.lst xs) := by
  unfold watchOk at h
  simp only [List.all_cons, List.all_nil, Bool.and_true] at h
  split at h
  · rename_i ys e
    rw [e, sameDs_eq h]
  · cases h
theorem watch_self {n : Nat} {xs : List Dt} {st : Sr} (h : st[n]? = some (.lst xs)) : watchOk [(n, xs)] st = true := by
  unfold watchOk
  simp only [List.all_cons, List.all_nil, Bool.and_true, h]
  exact sameDs_refl xs
/-- the list that is walked, as it stands at each turn -/
def LivesL (K : KF) (fo φ₀ : List Addr) (H₀ : Hp) (ws : List (Nat × List Dt)) (xs : List Dt) (a : Addr) : Prop :=
  ∀ fo' φ H st, (∃ t, φ = φ₀ ++ t) → Keeps (fo ++ φ₀) H₀ (fo' ++ φ) H → Sok K fo' φ H st → watchOk ws st = true → ∃ vs, Rd H a (.lst vs) ∧ RepL K (fo' ++ φ) H xs vs
theorem lives_d {fo φ₀ : List Addr} {H₀ : Hp} {xs : List Dt} {vs : List V} {a : Addr} (h : a ∉ fo ++ φ₀) (r : Rd H₀ a (.lst vs)) (e : RepL K (fo ++ φ₀) H₀ xs vs) : LivesL K fo φ₀ H₀ [] xs a := fun fo' φ H st _ s q _ =>
  ⟨vs, (s.rd h r).1, RepL.keep s e⟩
theorem lives_ob {fo φ₀ : List Addr} {H₀ : Hp} {xs : List Dt} {n : Nat} {a : Addr} (h : φ₀[n]? = some a) : LivesL K fo φ₀ H₀ [(n, xs)] xs a := fun fo' φ H st x s q w => by
  obtain ⟨t, rfl⟩ := x
  obtain ⟨vs, e, r⟩ := q.ob n a xs (by rw [List.getElem?_append_left (List.getElem?_eq_some_iff.mp h).1]; exact h) (watch_one w)
  exact ⟨vs, .inl e, r⟩
theorem get_lt {α : Type} {xs : List α} {i : Nat} (h : i < xs.length) : ∃ x, xs[i]? = some x := ⟨xs[i], List.getElem?_eq_getElem h⟩
theorem wk_list {z : Bool} {fo φ₀ : List Addr} {H₀ : Hp} {ws : List (Nat × List Dt)} {xs : List Dt} {a : Addr} (h : LivesL K fo φ₀ H₀ ws xs a) : WkOk K z fo φ₀ H₀ (Itl K a) (xs, ws) := fun fo' φ H st x s q w => by
  obtain ⟨vs, r, e⟩ := h fo' φ H st x s q w
  have hl := e.length
  refine ⟨fun i hi => ?_, ⟨vs, .inl r, by show vs.length ≤ xs.length; omega⟩, fun i d x H' hd hy => ?_⟩
  · obtain ⟨v, hv⟩ := get_lt (xs := vs) (i := i) (by rw [← hl]; exact hi)
    exact ⟨vs, v, .inl r, hv⟩
  · obtain ⟨rfl, hy⟩ := hy
    obtain ⟨v, e1, r1⟩ := e.get hd
    have := hy vs (.inl r)
    rw [e1] at this
    cases this
    exact ⟨.refl _, .inl r1⟩
theorem wk_tup {z : Bool} {fo φ₀ : List Addr} {H₀ : Hp} {xs : List Dt} {a : Addr} (h : Rep K (fo ++ φ₀) H₀ (.tup xs) (.ref a)) : WkOk K z fo φ₀ H₀ (Itt K a) (xs, []) := fun fo' φ H st x s q w => by
  obtain ⟨a', vs, e0, r, e⟩ := (Rep.keep s h).sqT
  cases e0
  have hl := e.length
  refine ⟨fun i hi => ?_, ⟨vs, r, by show vs.length ≤ xs.length; omega⟩, fun i d x H' hd hy => ?_⟩
  · obtain ⟨v, hv⟩ := get_lt (xs := vs) (i := i) (by rw [← hl]; exact hi)
    exact ⟨vs, v, r, hv⟩
  · obtain ⟨rfl, hy⟩ := hy
    obtain ⟨v, e1, r1⟩ := e.get hd
    have := hy vs r
    rw [e1] at this
    cases this
    exact ⟨.refl _, .inl r1⟩
theorem wk_str {z : Bool} {fo φ₀ : List Addr} {H₀ : Hp} {s : List Nat} (ho : okS s) : WkOk K z fo φ₀ H₀ (Its (toS s)) (s.map (fun c => .str [c]), []) := fun fo' φ H st x s' q w => by
  have hl : (toS s).cps.size = s.length := by simp [toS]
  refine ⟨fun i hi => ?_, ?_, fun i d x H' hd hy => ?_⟩
  · show i < (toS s).cps.size
    rw [hl]
    simpa using hi
  · show (toS s).cps.size ≤ (s.map _).length
    rw [hl, List.length_map]
    exact Nat.le_refl _
  · obtain ⟨rfl, c, hc, rfl⟩ := hy
    refine ⟨.refl _, ?_⟩
    rw [List.getElem?_map] at hd
    have e : (toS s).cps[i]? = s[i]? := by simp [toS]
    rw [e] at hc
    rw [hc] at hd
    cases hd
    exact .inl <| .str [c] ⟨by show 1 ≤ 16777216; decide, fun c' hc' => by
      have : c' = c := by simpa using hc'
      rw [this]; exact ho.2 c (List.mem_of_getElem? hc)⟩
theorem rangeL_len : ∀ (n : Nat) (lo : Int), (rangeL lo n).length = n
  | 0, _ => rfl
  | n + 1, lo => by show (rangeL (lo + 1) n).length + 1 = n + 1; rw [rangeL_len n]
theorem rangeL_get : ∀ (n : Nat) (lo : Int) (i : Nat), i < n → (rangeL lo n)[i]? = some (.int (lo + i))
  | n + 1, lo, 0, _ => by simp [rangeL]
  | n + 1, lo, i + 1, h => by
    show (rangeL (lo + 1) n)[i]? = _
    rw [rangeL_get n (lo + 1) i (by omega)]
    congr 2
    omega
theorem wk_range {z : Bool} {fo φ₀ : List Addr} {H₀ : Hp} {lo : Int} {n : Nat} : WkOk K z fo φ₀ H₀ (Itr lo n) (rangeL lo n, []) := fun fo' φ H st x s q w => by
  refine ⟨fun i hi => ?_, ?_, fun i d x H' hd hy => ?_⟩
  · show i < n
    rw [rangeL_len] at hi
    exact hi
  · show n ≤ (rangeL lo n).length
    rw [rangeL_len]
    exact Nat.le_refl _
  · obtain ⟨rfl, rfl⟩ := hy
    have hi : i < n := by
      have := (List.getElem?_eq_some_iff.mp hd).1
      rw [rangeL_len] at this
      exact this
    have hd : (rangeL lo n)[i]? = some d := hd
    rw [rangeL_get n lo i hi] at hd
    cases hd
    exact ⟨.refl _, .inl (.int _)⟩
theorem enumL_len : ∀ (xs : List Dt) (k : Int), (enumL k xs).length = xs.length
  | [], _ => rfl
  | x :: xs, k => by show (enumL (k + 1) xs).length + 1 = xs.length + 1; rw [enumL_len xs]
theorem enumL_get : ∀ (xs : List Dt) (k : Int) (i : Nat) (d : Dt), (enumL k xs)[i]? = some d → ∃ x, xs[i]? = some x ∧ d = .tup [.int (k + i), x]
  | [], k, i, d, h => by simp [enumL] at h
  | x :: xs, k, 0, d, h => by
    simp [enumL] at h
    exact ⟨x, rfl, by rw [← h]; simp⟩
  | x :: xs, k, i + 1, d, h => by
    have h : (enumL (k + 1) xs)[i]? = some d := h
    obtain ⟨y, e, rfl⟩ := enumL_get xs (k + 1) i d h
    refine ⟨y, e, ?_⟩
    congr 3
    omega
theorem wk_enum {z : Bool} {fo φ₀ : List Addr} {H₀ : Hp} {ws : List (Nat × List Dt)} {xs : List Dt} {a : Addr} (h : LivesL K fo φ₀ H₀ ws xs a) : WkOk K z fo φ₀ H₀ (Ite K a) (enumL 0 xs, ws) := fun fo' φ H st x s q w => by
  obtain ⟨vs, r, e⟩ := h fo' φ H st x s q w
  have hl := e.length
  refine ⟨fun i hi => ?_, ⟨vs, .inl r, by show vs.length ≤ (enumL 0 xs).length; rw [enumL_len]; omega⟩, fun i d x H' hd hy => ?_⟩
  · have hi : i < (enumL 0 xs).length := hi
    rw [enumL_len] at hi
    obtain ⟨v, hv⟩ := get_lt (xs := vs) (i := i) (by rw [← hl]; exact hi)
    exact ⟨vs, v, .inl r, hv⟩
  · obtain ⟨Tn, y, rfl, hT, rfl, hy⟩ := hy
    obtain ⟨dx, e1, rfl⟩ := enumL_get xs 0 i d hd
    obtain ⟨v, e2, r1⟩ := e.get e1
    have := hy vs (.inl r)
    rw [e2] at this
    cases this
    refine ⟨same_new hT, ?_⟩
    have e3 : (0 : Int) + (i : Int) = ((i : Nat) : Int) := by omega
    rw [e3]
    exact .inl (rep_newT q.trk hT (.cons (.int _) (.cons r1 .nil)) ⟨_, _, rfl, rfl⟩)
theorem PI.weak {tg it : Expr} {t t' : TI} (h : PI X tg it t) (f : ∀ σ H R, t' σ H R → t σ H R) : PI X tg it t' := ⟨fun pins s σ H R I q => h.run pins s σ H R I (f σ H R q)⟩
theorem PI.or {tg it : Expr} {t t' : TI} (h : PI X tg it t) (h' : PI X tg it t') : PI X tg it (fun σ H R => t σ H R ∨ t' σ H R) := ⟨fun pins s σ H R I q => q.elim (h.run pins s σ H R I) (h'.run pins s σ H R I)⟩
theorem wk_dic {z : Bool} {fo φ₀ : List Addr} {H₀ : Hp} {kvs : List (Dt × Dt)} {xs : List (NK × Addr × V)} {ep : Nat} {a : Addr} (hn : a ∉ fo ++ φ₀) (h : H₀ a = some (DO K.P K.w a xs ep)) (r : KvR K (fo ++ φ₀) H₀ kvs xs) : WkOk K z fo φ₀ H₀ (ItD K a xs ep) (kvs.map Prod.fst, []) := fun fo' φ H st x s q w => by
  obtain ⟨h', _⟩ := s a _ hn h
  have r' := r.keep s
  have hl := r.length
  refine ⟨fun i hi => ⟨h', by rw [← hl]; simpa using hi⟩, ⟨h', by rw [List.length_map]; omega⟩, fun i d y H' hd hy => ?_⟩
  obtain ⟨rfl, n, b, v, hx, rfl⟩ := hy
  obtain ⟨k, z, hk, rk⟩ := r'.nth hx
  rw [List.getElem?_map, hk] at hd
  cases hd
  exact ⟨.refl _, .inl rk⟩
theorem pi_seq {tg : Expr} {e : Ex} {x : Expr} (ha : PE X x (tW XT X.KF W (evE Γ e))) : PI X tg x (tI XT X.KF W false (evI Γ (.seq e))) := by
  refine PI.weak (PI.or (pi_list ha) (PI.or (pi_tup ha) (PI.or (pi_str ha) (pi_dic ha)))) fun σ H R h => ?_
  obtain ⟨fo, φ, ρ, st, hs, he, h⟩ := h
  unfold evI at h
  cases ev : evE Γ e ρ st with
  | bad => rw [ev] at h; exact False.elim h
  | exc c fs sx => exact .inl ⟨fo, φ, ρ, st, hs, he, by rw [ev] at h ⊢; exact h⟩
  | ok p =>
    rw [ev] at h
    obtain ⟨w, st1⟩ := p
    have h : Go X.KF (xwOf XT X.KF W σ fo) fo φ H (Rs.ofO (itSeq (w, st1))) (fun p st' φ' H' => ∀ J, WkOk X.KF false fo φ' H' J p → watchOk p.2 st' = true → R J H') := h
    unfold itSeq at h
    cases w with
    | ob n =>
      dsimp only at h
      split at h
      · rename_i xs e1
        refine .inl ⟨fo, φ, ρ, st, hs, he, ?_⟩
        rw [ev]
        intro φ' H' s' q' v rv
        obtain ⟨a, e2, rfl⟩ := rv
        obtain ⟨vs, e3, r3⟩ := q'.ob n a xs e2 e1
        exact ⟨a, rfl, ⟨vs, .inl (.inl e3)⟩, h φ' H' s' q' _ (wk_list (lives_ob e2)) (watch_self e1)⟩
      · exact False.elim h
    | d x' =>
      dsimp only at h
      cases x' with
      | tup xs =>
        refine .inr (.inl ⟨fo, φ, ρ, st, hs, he, ?_⟩)
        rw [ev]
        intro φ' H' s' q' v rv
        obtain ⟨a, vs, rfl, r, e⟩ := Rep.sqT rv
        exact ⟨a, rfl, ⟨vs, r⟩, h φ' H' s' q' _ (wk_tup rv) rfl⟩
      | lst xs =>
        refine .inl ⟨fo, φ, ρ, st, hs, he, ?_⟩
        rw [ev]
        intro φ' H' s' q' v rv
        cases (show Rep X.KF (fo ++ φ') H' (.lst xs) v from rv) with
        | lst hn r e => exact ⟨_, rfl, ⟨_, .inl r⟩, h φ' H' s' q' _ (wk_list (lives_d hn r e)) rfl⟩
      | str s =>
        refine .inr (.inr (.inl ⟨fo, φ, ρ, st, hs, he, ?_⟩))
        rw [ev]
        intro φ' H' s' q' v rv
        obtain ⟨rfl, ho⟩ := vstr (Rep.view rv)
        exact ⟨_, rfl, h φ' H' s' q' _ (wk_str ho) rfl⟩
      | non => exact False.elim h
      | scr ns => exact False.elim h
      | bl b => exact False.elim h
      | int i => exact False.elim h
    | dc kvs =>
      refine .inr (.inr (.inr ⟨fo, φ, ρ, st, hs, he, ?_⟩))
      rw [ev]
      intro φ' H' s' q' v rv
      obtain ⟨a, rfl, hn, xs, ep, hd, r⟩ := rv
      exact ⟨a, xs, ep, rfl, hd, h φ' H' s' q' _ (wk_dic hn hd r) rfl⟩
theorem itRng_inv {st : Sr} {i j : Int} {p : Wk} (h : itRng st i j = some p) : (i < 2 ^ 30 ∧ -(2 ^ 30) < i ∧ j < 2 ^ 30 ∧ -(2 ^ 30) < j) ∧ p = ((rangeL i (j - i).toNat, []), st) := by
  unfold itRng at h
  split at h
  · rename_i hc
    cases h
    exact ⟨hc, rfl⟩
  · cases h
theorem pi_rng1 {tg : Expr} {e : Ex} {y : Expr} {pn pos : Pos} (c : CxOk XT T Γ N X W sc) (hg : isGl sc "range" = true) (ha : PE X y (tW XT X.KF W (evE Γ e))) (hy : plainE y = true) : PI X tg (.Call (.Name "range" pn) [y] [] pos) (tI XT X.KF W false (evI Γ (.rng1 e))) := by
  refine PI.weak (pi_range1 (c.gl hg) (c.blt "range" (by decide)) (pa_one ha hy) (plainE_star hy _ _)) fun σ H R h => ?_
  obtain ⟨fo, φ, ρ, st, hs, he, h⟩ := h
  unfold evI at h
  refine ⟨fo, φ, ρ, st, hs, he, (Go.of_bind h).imp fun w st1 φ1 H1 s1 q1 h1 v rv => ?_⟩
  dsimp only at h1
  cases e1 : intW w with
  | none => rw [e1] at h1; exact False.elim h1
  | some j =>
    rw [e1] at h1
    simp only [Option.bind_some] at h1
    cases e2 : itRng st1 0 j with
    | none => rw [e2] at h1; exact False.elim h1
    | some p =>
      rw [e2] at h1
      obtain ⟨hc, rfl⟩ := itRng_inv e2
      cases intW_inv e1
      cases (show Rep X.KF (fo ++ φ1) H1 (.int j) v from rv)
      refine ⟨j, rfl, by omega, by omega, ?_⟩
      have e3 : (j - 0).toNat = j.toNat := by omega
      rw [← e3]
      exact (Go.run h1 q1) _ wk_range rfl
theorem pi_rng2 {tg : Expr} {a b : Ex} {y z : Expr} {pn pos : Pos} (c : CxOk XT T Γ N X W sc) (hg : isGl sc "range" = true) (ha : PE X y (tW XT X.KF W (evE Γ a))) (hy : plainE y = true) (hb : PE X z (tW XT X.KF W (evE Γ b))) (hz : plainE z = true) :
    PI X tg (.Call (.Name "range" pn) [y, z] [] pos) (tI XT X.KF W false (evI Γ (.rng2 a b))) := by
  refine PI.weak (pi_range2 (c.gl hg) (c.blt "range" (by decide)) (pa_cons ha (pa_one hb hz) (plainE_star hy _ _)) (by rw [plainE_star hy, plainE_star hz]; rfl) (plainE_star hz _ _)) fun σ H R h => ?_
  obtain ⟨fo, φ, ρ, st, hs, he, h⟩ := h
  unfold evI at h
  refine ⟨fo, φ, ρ, st, hs, he, (Go.of_bind h).imp fun w st1 φ1 H1 s1 q1 h1 v rv => ?_⟩
  refine ⟨fo, φ1, ρ, st1, q1, he.step s1, (Go.of_bind h1).imp fun w2 st2 φ2 H2 s2 q2 h2 v2 rv2 => ?_⟩
  dsimp only at h2
  cases e1 : intW w with
  | none => rw [e1] at h2; exact False.elim h2
  | some i =>
    cases e2 : intW w2 with
    | none => rw [e1, e2] at h2; exact False.elim h2
    | some j =>
      rw [e1, e2] at h2
      simp only [Option.bind_some] at h2
      cases e3 : itRng st2 i j with
      | none => rw [e3] at h2; exact False.elim h2
      | some p =>
        rw [e3] at h2
        obtain ⟨hc, rfl⟩ := itRng_inv e3
        cases intW_inv e1
        cases intW_inv e2
        cases (show Rep X.KF (fo ++ φ1) H1 (.int i) v from rv)
        cases (show Rep X.KF (fo ++ φ2) H2 (.int j) v2 from rv2)
        exact ⟨i, j, rfl, by omega, (Go.run h2 q2) _ wk_range rfl⟩
theorem wk_enumT {z : Bool} {fo φ₀ : List Addr} {H₀ : Hp} {xs : List Dt} {a : Addr} (h : Rep K (fo ++ φ₀) H₀ (.tup xs) (.ref a)) : WkOk K z fo φ₀ H₀ (IteT K a) (enumL 0 xs, []) := fun fo' φ H st x s q w => by
  obtain ⟨a', vs, e0, r, e⟩ := (Rep.keep s h).sqT
  cases e0
  have hl := e.length
  refine ⟨fun i hi => ?_, ⟨vs, r, by show vs.length = (enumL 0 xs).length; rw [enumL_len]; omega⟩, fun i d x H' hd hy => ?_⟩
  · have hi : i < (enumL 0 xs).length := hi
    rw [enumL_len] at hi
    obtain ⟨v, hv⟩ := get_lt (xs := vs) (i := i) (by rw [← hl]; exact hi)
    exact ⟨vs, v, r, hv⟩
  · obtain ⟨Tn, y, rfl, hT, rfl, hy⟩ := hy
    obtain ⟨dx, e1, rfl⟩ := enumL_get xs 0 i d hd
    obtain ⟨v, e2, r1⟩ := e.get e1
    have := hy vs r
    rw [e2] at this
    cases this
    refine ⟨same_new hT, ?_⟩
    rw [show (0 : Int) + (i : Int) = ((i : Nat) : Int) by omega]
    exact .inl (rep_newT q.trk hT (.cons (.int _) (.cons r1 .nil)) ⟨_, _, rfl, rfl⟩)
theorem pi_enm {e : Ex} {y : Expr} {pn pos tpos : Pos} {elts : List Expr} {kk : Nat} (c : CxOk XT T Γ N X W sc) (hg : isGl sc "enumerate" = true) (ha : PE X y (tW XT X.KF W (evE Γ e))) (hy : plainE y = true) :
    PI X (.Tuple elts kk tpos) (.Call (.Name "enumerate" pn) [y] [] pos) (tI XT X.KF W false (evI Γ (.enm e))) := by
  refine PI.weak (PI.or (pi_enum (c.gl hg) (c.blt "enumerate" (by decide)) (pa_one ha hy) (plainE_star hy _ _)) (pi_enumT (c.gl hg) (c.blt "enumerate" (by decide)) (pa_one ha hy) (plainE_star hy _ _))) fun σ H R h => ?_
  obtain ⟨fo, φ, ρ, st, hs, he, h⟩ := h
  unfold evI at h
  cases ev : evE Γ e ρ st with
  | bad => rw [ev] at h; exact False.elim h
  | exc c' fs sx => exact .inl ⟨fo, φ, ρ, st, hs, he, by rw [ev] at h ⊢; exact h⟩
  | ok p =>
    rw [ev] at h
    obtain ⟨w, st1⟩ := p
    have h : Go X.KF (xwOf XT X.KF W σ fo) fo φ H (Rs.ofO (itEnm (w, st1))) (fun p st' φ' H' => ∀ J, WkOk X.KF false fo φ' H' J p → watchOk p.2 st' = true → R J H') := h
    unfold itEnm at h
    cases w with
    | ob n =>
      dsimp only at h
      split at h
      · rename_i xs e1
        refine .inl ⟨fo, φ, ρ, st, hs, he, ?_⟩
        rw [ev]
        intro φ' H' s' q' v rv
        obtain ⟨a, e2, rfl⟩ := rv
        obtain ⟨vs, e3, r3⟩ := q'.ob n a xs e2 e1
        exact ⟨a, vs, rfl, .inl (.inl e3), h φ' H' s' q' _ (wk_enum (lives_ob e2)) (watch_self e1)⟩
      · exact False.elim h
    | d x' =>
      dsimp only at h
      cases x' with
      | tup xs =>
        refine .inr ⟨fo, φ, ρ, st, hs, he, ?_⟩
        rw [ev]
        intro φ' H' s' q' v rv
        obtain ⟨a, vs, rfl, r, e⟩ := Rep.sqT rv
        exact ⟨a, vs, rfl, r, h φ' H' s' q' _ (wk_enumT rv) rfl⟩
      | lst xs =>
        refine .inl ⟨fo, φ, ρ, st, hs, he, ?_⟩
        rw [ev]
        intro φ' H' s' q' v rv
        cases (show Rep X.KF (fo ++ φ') H' (.lst xs) v from rv) with
        | lst hn r e => exact ⟨_, _, rfl, .inl r, h φ' H' s' q' _ (wk_enum (lives_d hn r e)) rfl⟩
      | non => exact False.elim h
      | scr ns => exact False.elim h
      | bl b => exact False.elim h
      | int i => exact False.elim h
      | str s => exact False.elim h
    | dc kvs => exact False.elim h
theorem zipL_len : ∀ xs ys : List Dt, (zipL xs ys).length = min xs.length ys.length
  | [], _ => by simp [zipL]
  | _ :: _, [] => by simp [zipL]
  | x :: xs, y :: ys => by
    show (zipL xs ys).length + 1 = min (xs.length + 1) (ys.length + 1)
    rw [zipL_len xs ys]
    omega
theorem zipL_get : ∀ (xs ys : List Dt) (i : Nat) (d : Dt), (zipL xs ys)[i]? = some d → ∃ x y, xs[i]? = some x ∧ ys[i]? = some y ∧ d = .tup [x, y]
  | [], _, i, d, h => by simp [zipL] at h
  | _ :: _, [], i, d, h => by simp [zipL] at h
  | x :: xs, y :: ys, 0, d, h => by
    simp [zipL] at h
    exact ⟨x, y, rfl, rfl, h.symm⟩
  | x :: xs, y :: ys, i + 1, d, h => by
    have h : (zipL xs ys)[i]? = some d := h
    obtain ⟨u, v, e1, e2, e3⟩ := zipL_get xs ys i d h
    exact ⟨u, v, e1, e2, e3⟩
theorem wk_zip {fo φ₀ : List Addr} {H₀ : Hp} {xs ys : List Dt} {a b : Addr} (h : Rep K (fo ++ φ₀) H₀ (.tup xs) (.ref a)) (h2 : Rep K (fo ++ φ₀) H₀ (.tup ys) (.ref b)) : WkOk K true fo φ₀ H₀ (RZ.ItzT K a b) (zipL xs ys, []) := fun fo' φ H st x s q w => by
  obtain ⟨a', vs, e0, r, e⟩ := (Rep.keep s h).sqT
  cases e0
  obtain ⟨b', us, e0, r2, e2⟩ := (Rep.keep s h2).sqT
  cases e0
  have hl := e.length
  have hl2 := e2.length
  refine ⟨fun i hi => ?_, ⟨vs, us, r, r2, ?_⟩, fun i d x H' hd hy => ?_⟩
  · have hi : i < (zipL xs ys).length := hi
    rw [zipL_len] at hi
    obtain ⟨v, hv⟩ := get_lt (xs := vs) (i := i) (by omega)
    obtain ⟨u, hu⟩ := get_lt (xs := us) (i := i) (by omega)
    exact ⟨vs, us, v, u, r, r2, hv, hu⟩
  · show vs.length ≤ (zipL xs ys).length ∨ us.length ≤ (zipL xs ys).length
    rw [zipL_len]
    omega
  · obtain ⟨T, x1, y1, rfl, hT, rfl, g1, g2⟩ := hy
    obtain ⟨dx, dy, d1, d2, rfl⟩ := zipL_get xs ys i d hd
    obtain ⟨v, f1, r1⟩ := e.get d1
    obtain ⟨u, f2, r3⟩ := e2.get d2
    have a1 := g1 vs r
    have a2 := g2 us r2
    rw [f1] at a1
    rw [f2] at a2
    cases a1
    cases a2
    exact ⟨same_new hT, .inr ⟨rfl, _, _, _, rfl, rfl, .inl (.inl upd_same), (RepL.same (.cons r1 (.cons r3 .nil)) (same_new hT))⟩⟩
theorem pi_zipE {a b : Ex} {y z : Expr} {pn pos tpos : Pos} {elts : List Expr} {kk : Nat} (c : CxOk XT T Γ N X W sc) (hg : isGl sc "zip" = true) (ha : PE X y (tW XT X.KF W (evE Γ a))) (hy : plainE y = true) (hb : PE X z (tW XT X.KF W (evE Γ b))) (hz : plainE z = true) :
    PI X (.Tuple elts kk tpos) (.Call (.Name "zip" pn) [y, z] [] pos) (tI XT X.KF W true (evI Γ (.zip a b))) := by
  refine PI.weak (RZ.pi_zipA (c.gl hg) (c.blt "zip" (by decide)) (pa_cons ha (pa_one hb hz) (plainE_star hy _ _)) (by rw [plainE_star hy]) (by rw [plainE_star hz]; rfl)) fun σ H R h => ?_
  obtain ⟨fo, φ, ρ, st, hs, he, h⟩ := h
  unfold evI at h
  refine ⟨fo, φ, ρ, st, hs, he, (Go.of_bind h).imp fun w st1 φ1 H1 s1 q1 h1 v rv => ?_⟩
  refine ⟨fo, φ1, ρ, st1, q1, he.step s1, (Go.of_bind h1).imp fun w2 st2 φ2 H2 s2 q2 h2 v2 rv2 => ?_⟩
  dsimp only at h2
  unfold itZip at h2
  split at h2
  · rename_i xs ys e1
    have rv' := rv.step s2
    obtain ⟨p, vs, rfl, r, e⟩ := Rep.sqT rv'
    have e1' : w2 = .d (.tup ys) := e1
    subst e1'
    obtain ⟨p2, us, rfl, r2, e2⟩ := Rep.sqT rv2
    exact ⟨p, p2, vs, us, rfl, .inr ⟨r, r2, (Go.run h2 q2) _ (wk_zip rv' rv2) rfl⟩⟩
  · exact False.elim h2
end
end PB

set_option Elab.async false
set_option linter.all false
set_option maxRecDepth 100000
set_option maxHeartbeats 4000000
set_option backward.match.sparseCases false
/-! Dicts in expressions. -/
namespace PB
open PySem PySem.Spec PyProof.Rows L2
section
variable {K : KF} {fo φ : List Addr} {H : Hp} {st : Sr} {w : Wv} {v : V} {kvs : List (Dt × Dt)}
theorem viewK_of (s : Sok K fo φ H st) (r : RepW K fo φ H w v) (e : viewK st w = some kvs) : ∃ a, v = .ref a ∧ DicR K (fo ++ φ) H kvs a := by
  cases w with
  | d x => cases e
  | ob n =>
    obtain ⟨a, e1, rfl⟩ := r
    unfold viewK at e
    dsimp only at e
    split at e
    · rename_i q
      cases e
      exact ⟨a, rfl, s.od n a _ e1 q⟩
    · cases e
  | dc ks =>
    cases e
    obtain ⟨a, e1, _, d⟩ := r
    exact ⟨a, e1, d⟩
theorem key_rep {av : List Addr} {k : Dt} (hk : keyB k = true) (r : VRep K av H k v) : Rep K av H k v := by
  have := (keyB_ok hk).1
  cases k with
  | tup ys => exact r
  | _ => simp [isTupD] at this
theorem key_ref {av : List Addr} {k : Dt} (hk : keyB k = true) (r : VRep K av H k v) : ∃ b, v = .ref b := by
  have := (keyB_ok hk).1
  cases k with
  | tup ys => obtain ⟨b, vs, e, _⟩ := Rep.sqT r; exact ⟨b, e⟩
  | _ => simp [isTupD] at this
/-- a look by the own meaning is a look into the heap -/
theorem dgn_of {k : Dt} {u : V} {o : Option Dt} {a : Addr} (d : DicR K (fo ++ φ) H kvs a) (rk : VRep K (fo ++ φ) H k u) (e : keyAt kvs k = some o) :
    (o = none ∧ DGN K H a u none) ∨ ∃ z x, o = some z ∧ DGN K H a u (some x) ∧ Rep K (fo ++ φ) H z x := by
  unfold keyAt at e
  split at e
  · rename_i hk
    obtain ⟨xs, ep, h1, h2⟩ := d
    obtain ⟨b, rfl⟩ := key_ref hk rk
    have rk' := key_rep hk rk
    rcases h2.get hk with ⟨g1, g2⟩ | ⟨z, x, g1, g2, g3⟩
    · rw [g1] at e
      cases e
      exact .inl ⟨rfl, _, kvs, xs, ep, k, b, rfl, h1, h2, hk, rk', g2.symm⟩
    · rw [g1] at e
      cases e
      exact .inr ⟨z, x, rfl, ⟨_, kvs, xs, ep, k, b, rfl, h1, h2, hk, rk', g2.symm⟩, g3⟩
  · cases e
end
section
variable {XT : Xt} {T : Tb} {Γ : Gam} {N : List Str} {X : Cx} {W : WX} {sc : Scope} {K : KF} {σ : L2.St} {H : Hp} {Q : VK}
theorem pe_dixE {a k : Ex} {x y : Expr} {pos : Pos} (hu : X.A.units + 65 < cLine) (ha : PE X x (tW XT X.KF W (evE Γ a))) (hk : PE X y (tW XT X.KF W (evE Γ k))) (hy : plainE y = true) : PE X (.Subscript x y pos) (tW XT X.KF W (evE Γ (.dix a k))) := by
  refine PE.weak (pe_dgetN hu ha hk (plainE_ix hy)) fun σ H Q h => ?_
  obtain ⟨fo, φ, ρ, st, hs, he, h⟩ := h
  unfold evE at h
  refine ⟨fo, φ, ρ, st, hs, he, (Go.of_bind h).imp fun w st1 φ1 H1 s1 q1 h1 v rv => ?_⟩
  refine ⟨fo, φ1, ρ, st1, q1, he.step s1, (Go.of_bind h1).imp fun w2 st2 φ2 H2 s2 q2 h2 v2 rv2 => ?_⟩
  unfold dixW at h2
  dsimp only at h2
  cases e1 : viewK st2 w with
  | none => rw [e1] at h2; exact False.elim h2
  | some kvs =>
    cases e2 : viewW st2 w2 with
    | none => simp only [e1, e2, Option.bind_some] at h2; exact False.elim h2
    | some kd =>
      cases e3 : keyAt kvs kd with
      | none => simp only [e1, e2, e3, Option.bind_some] at h2; exact False.elim h2
      | some o =>
        obtain ⟨b, rfl, d⟩ := viewK_of q2 (rv.step s2) e1
        rcases dgn_of d (view_of q2 rv2 e2) e3 with ⟨rfl, _⟩ | ⟨z, zv, rfl, g, rz⟩
        · simp only [e1, e2, e3, Option.bind_some, Option.map_none] at h2; exact False.elim h2
        · simp only [e1, e2, e3, Option.bind_some, Option.map_some, Rs.ofO_some] at h2
          exact ⟨b, zv, rfl, g, Go.run h2 q2 zv rz⟩
theorem tDInN_of {neg : Bool} {a k : Ex} (h : tW XT K W (evE Γ (.din neg k a)) σ H Q) : tDInN K neg (tW XT K W (evE Γ k)) (tW XT K W (evE Γ a)) σ H Q := by
  obtain ⟨fo, φ, ρ, st, hs, he, h⟩ := h
  unfold evE at h
  refine ⟨fo, φ, ρ, st, hs, he, (Go.of_bind h).imp fun w st1 φ1 H1 s1 q1 h1 v rv => ?_⟩
  refine ⟨fo, φ1, ρ, st1, q1, he.step s1, (Go.of_bind h1).imp fun w2 st2 φ2 H2 s2 q2 h2 v2 rv2 => ?_⟩
  unfold dinW at h2
  dsimp only at h2
  cases e1 : viewK st2 w2 with
  | none => rw [e1] at h2; exact False.elim h2
  | some kvs =>
    cases e2 : viewW st2 w with
    | none => simp only [e1, e2, Option.bind_some] at h2; exact False.elim h2
    | some kd =>
      cases e3 : keyAt kvs kd with
      | none => simp only [e1, e2, e3, Option.bind_some] at h2; exact False.elim h2
      | some o =>
        simp only [e1, e2, e3, Option.bind_some, Option.map_some, Rs.ofO_some] at h2
        obtain ⟨b, rfl, d⟩ := viewK_of q2 rv2 e1
        rcases dgn_of d (view_of q2 (rv.step s2) e2) e3 with ⟨rfl, g⟩ | ⟨z, zv, rfl, g, _⟩
        · exact ⟨b, none, rfl, g, Go.run h2 q2 _ (Rep.bl _)⟩
        · exact ⟨b, some zv, rfl, g, Go.run h2 q2 _ (Rep.bl _)⟩
theorem blM_din {neg : Bool} {a k : Ex} : BlM (evE Γ (.din neg k a)) := fun ρ st q h => by
  unfold evE at h
  obtain ⟨p, _, h⟩ := bind_ok_inv h
  obtain ⟨r, _, h⟩ := bind_ok_inv h
  unfold dinW at h
  cases e1 : viewK r.2 r.1 with
  | none => rw [e1] at h; cases h
  | some kvs =>
    cases e2 : viewW r.2 p.1 with
    | none => simp only [e1, e2, Option.bind_some] at h; cases h
    | some kd =>
      cases e3 : keyAt kvs kd with
      | none => simp only [e1, e2, e3, Option.bind_some] at h; cases h
      | some o =>
        simp only [e1, e2, e3, Option.bind_some, Option.map_some, Rs.ofO_some] at h
        cases h
        exact ⟨_, rfl⟩
theorem pc_dinE {neg : Bool} {a k : Ex} {x y : Expr} (hu : X.A.units + 65 < cLine) (hk : PE X x (tW XT X.KF W (evE Γ k))) (ha : PE X y (tW XT X.KF W (evE Γ a))) : PC X (pyDin neg) x y (tDInN X.KF neg (tW XT X.KF W (evE Γ k)) (tW XT X.KF W (evE Γ a))) := by
  cases neg with
  | false => exact pe_dinN hu hk ha
  | true => exact pe_dninN hu hk ha
theorem pe_dgetE {a k d : Ex} {x y z : Expr} {apos cpos : Pos} (hu : X.A.units + 65 < cLine) (ha : PE X x (tW XT X.KF W (evE Γ a))) (hk : PE X y (tW XT X.KF W (evE Γ k))) (hd : PE X z (tW XT X.KF W (evE Γ d))) (hx : plainE x = true) (hy : plainE y = true) (hz : plainE z = true) (hl : (apos.endLine == cpos.line) = true) :
    PE X (.Call (.Attribute x "get" apos) [y, z] [] cpos) (tW XT X.KF W (evE Γ (.dget a k d))) := by
  have m : L2.M2 X x "get" apos y z cpos := by
    have e1 := plainE_star hy [z] X.env
    have e2 := plainE_star hz [] X.env
    refine ⟨plainE_base hx _ _, ?_, hl, ?_⟩
    · rw [e1, e2]; rfl
    · rw [e1, e2]; rfl
  refine PE.weak (pe_dget2N hu ha hk hd m) fun σ H Q h => ?_
  obtain ⟨fo, φ, ρ, st, hs, he, h⟩ := h
  unfold evE at h
  refine ⟨fo, φ, ρ, st, hs, he, (Go.of_bind h).imp fun w st1 φ1 H1 s1 q1 h1 v rv => ?_⟩
  unfold seenK at h1
  dsimp only at h1
  cases e0 : viewK st1 w with
  | none => rw [e0] at h1; exact False.elim h1
  | some kvs0 =>
    simp only [e0, Option.map_some, Rs.ofO_some, Rs.bind_ok] at h1
    obtain ⟨b, rfl, d⟩ := viewK_of q1 rv e0
    refine ⟨b, rfl, ?_, ?_⟩
    · obtain ⟨xs, ep, g1, g2⟩ := d
      exact ⟨_, _, xs, ep, g1, g2⟩
    refine ⟨fo, φ1, ρ, st1, q1, he.step s1, (Go.of_bind h1).imp fun w2 st2 φ2 H2 s2 q2 h2 v2 rv2 => ?_⟩
    refine ⟨fo, φ2, ρ, st2, q2, (he.step s1).step s2, (Go.of_bind h2).imp fun w3 st3 φ3 H3 s3 q3 h3 v3 rv3 => ?_⟩
    unfold dgetW at h3
    dsimp only at h3
    cases e1 : viewK st3 w with
    | none => rw [e1] at h3; exact False.elim h3
    | some kvs =>
      cases e2 : viewW st3 w2 with
      | none => simp only [e1, e2, Option.bind_some] at h3; exact False.elim h3
      | some kd =>
        cases e4 : dataW w3 with
        | none => simp only [e1, e2, e4, Option.bind_some] at h3; exact False.elim h3
        | some xd =>
          cases e3 : keyAt kvs kd with
          | none => simp only [e1, e2, e3, e4, Option.bind_some] at h3; exact False.elim h3
          | some o =>
            simp only [e1, e2, e3, e4, Option.bind_some, Option.map_some, Rs.ofO_some] at h3
            obtain ⟨b', eb, d⟩ := viewK_of q3 (rv.step (s2.trans s3)) e1
            cases eb
            have rx : Rep X.KF (fo ++ φ3) H3 xd v3 := by
              cases w3 with
              | d x => cases e4; exact rv3
              | _ => cases e4
            rcases dgn_of d (view_of q3 (rv2.step s3) e2) e3 with ⟨rfl, g⟩ | ⟨z, zv, rfl, g, rz⟩
            · exact ⟨none, g, Go.run h3 q3 _ rx⟩
            · exact ⟨some zv, g, Go.run h3 q3 _ rz⟩
/-- a new dict comes into being -/
theorem rep_newD {fo φ : List Addr} {st : Sr} {p : Addr} {kvs : List (Dt × Dt)} {xs : List (NK × Addr × V)} {ep : Nat} (s : Sok K fo φ H st) (hp : H p = none) (r : KvR K (fo ++ φ) H kvs xs) : RepW K fo φ (upd H p (DO K.P K.w p xs ep)) (.dc kvs) (.ref p) :=
  ⟨p, rfl, s.fresh hp, xs, ep, upd_same, r.keep (fun a o n e => ⟨same_new hp a o e, n⟩)⟩
theorem pe_dnewE {pos : Pos} : PE X (.Dict [] [] pos) (tW XT X.KF W (evE Γ .dnew)) := by
  refine PE.weak pe_dnewN fun σ H Q h => ?_
  obtain ⟨fo, φ, ρ, st, hs, he, h⟩ := h
  unfold evE at h
  intro p hp
  have sm : Same H (upd H p (DO X.KF.P X.KF.w p [] 0)) := same_new hp
  exact Go.run (Go.at_ h (Step.same sm)) (hs.same sm) _ (rep_newD hs hp .nil)
end

/-! #### len, list, sorted of a dict -/
section
variable {X : Cx} {pins : List (Addr × Obj)} {σ : L2.St} {H : Hp} {s : Shared} {a : Addr} {xs : List (NK × Addr × V)} {ep : Nat}
theorem raw_keys {s : Shared} {es : Array DictEntry} (sz : es.size = xs.length) (ent : ∀ (i : Nat) (n : NK) (q : Addr) (v : V), xs[i]? = some (n, q, v) → ∃ en : DictEntry, es[i]? = some en ∧ en.key = .ref q) {acc : Array Value} (it : ItemsOf (fun i v => ∃ hi : i < es.size, v = es[i].key) acc es.size) :
    Vals (xs.map fun x => V.ref x.2.1) acc.toList := by
  have len : acc.toList.length = xs.length := by rw [Array.length_toList, it.1, sz]
  have at_ : ∀ i (h : i < xs.length), acc.toList[i]? = some (.ref xs[i].2.1) := fun i h => by
    have hi : i < acc.toList.length := by omega
    have e := List.getElem?_eq_getElem hi
    rw [e]
    obtain ⟨h2, hv⟩ := it.2 i _ (by rw [← Array.getElem?_toList]; exact e)
    obtain ⟨en, g1, g2⟩ := ent i xs[i].1 xs[i].2.1 xs[i].2.2 (by rw [List.getElem?_eq_getElem h])
    rw [Array.getElem?_eq_getElem h2] at g1
    cases g1
    rw [hv, g2]
  have eq : acc.toList = xs.map fun x => Value.ref x.2.1 := by
    apply List.ext_getElem?
    intro i
    by_cases h : i < xs.length
    · rw [at_ i h, List.getElem?_map, List.getElem?_eq_getElem h]; rfl
    · rw [List.getElem?_eq_none (by omega), List.getElem?_eq_none (by rw [List.length_map]; omega)]
  rw [eq]
  clear eq at_ len it ent sz
  induction xs with
  | nil => exact .nil
  | cons x xs ih => exact .cons rfl ih
/-- a dict to be looked at: its keys -/
def DK (K : KF) (H : Hp) (a : Addr) (kvs : List (Dt × Dt)) (vs : List V) : Prop := ∃ av xs ep, H a = some (DO K.P K.w a xs ep) ∧ KvR K av H kvs xs ∧ vs = xs.map (fun x => V.ref x.2.1) ∧ kvs.length ≤ 1000000
theorem call_lenD : CallR X (.builtin "len") (fun vs H Q => ∃ a kvs ks, vs = [.ref a] ∧ DK X.KF H a kvs ks ∧ Q (.int kvs.length) H) := by
  intro pins s σ H vs us Q I r ⟨a, kvs, ks, e, ⟨av, xs, ep, hd, kr, _, few⟩, q⟩
  subst e
  obtain ⟨u, rfl, ru⟩ := vals1 r
  cases ru
  obtain ⟨nm, o, es, y2, y3, y4, sz, _⟩ := raw_at I hd
  have hl := kr.length
  have raw : s.heap.DictRaw a es ep := ⟨o, y2, y3, y4⟩
  refine PyProof.Rows.call_len_slot (n := (kvs.length : Nat)) raw.typeIs F.slot_dict_len (fun Q' hq => call_len_raw nm raw ?_) (by omega) (by omega) ⟨.int kvs.length, H, (I.tok _).tok _, ⟨_, rfl⟩, q⟩
  rw [sz, ← hl]
  exact hq
theorem call_listD (hc : X.calm = true) : CallR X (.type "list") (fun vs H Q => ∃ a kvs ks, vs = [.ref a] ∧ DK X.KF H a kvs ks ∧ ∀ p, H p = none → Q (.ref p) (upd H p (.lst ks))) := by
  intro pins s σ H vs us Q I r ⟨a, kvs, ks, e, ⟨av, xs, ep, hd, kr, ek, few⟩, q⟩
  subst e
  obtain ⟨u, rfl, ru⟩ := vals1 r
  cases ru
  obtain ⟨nm, o, es, y2, y3, y4, sz, ent⟩ := raw_at I hd
  have hl := kr.length
  have raw : s.heap.DictRaw a es ep := ⟨o, y2, y3, y4⟩
  refine PySem.W.kdl_call (KdlSrc.rawDict nm) (I.ok.hd hc) raw (by rw [sz, sizeLine_eq]; omega) fun h' tk acc c kp e it => ?_
  have rv := raw_keys (s := s) sz ent it
  subst ek
  exact ⟨.ref s.heap.objs.size, _, I.laid (t' := tk) (o := .lst (xs.map fun x => V.ref x.2.1)) kp (Nat.le_refl _) (show ObjOk _ _ _ _ _ (.lst _) from ⟨by rw [List.length_map, sizeLine_eq]; omega, acc.toList, c, rv, by rw [Array.toArray_toList]; exact e⟩), rfl, q _ (I.hok.fresh (Nat.le_refl _))⟩
theorem sorted_rawD {A : Around} {E : Value → Shared → Prop} {prog : Program} {w : World} {es : Array DictEntry} {Q : Value → Shared → Prop} (hh : A.handled = none) (nm : (a == sysModules) = false) (raw : s.heap.DictRaw a es ep) (few : es.size ≤ sizeLine)
    (h : ∀ (h' : Heap) (tk : Nat) (acc : Array Value), (∀ b o, s.heap.get? b = some o → h'.get? b = some o) → ItemsOf (fun i v => ∃ hi : i < es.size, v = es[i].key) acc es.size →
      wpAny (model prog w) A.in1 (call (.builtin "list.sort") [.ref h'.objs.size]) (fun _ z => Q (.ref h'.objs.size) z) E { s with heap := h'.push { cls := .type "list", data := .seq acc.toList.toArray }, toks := tk }) :
    wpAny (model prog w) A (call (.builtin "sorted") [.ref a]) Q E s := by
  refine Calls.call_function_entry kind_sorted plain_sorted entry_sorted (args_sorted1 _) ?_
  unfold Builtin.«sorted»
  refine wpAny_bind (m := checkCount "sorted" 1 1 _) (wpAny_pure ?_)
  refine wpAny_bind (PySem.W.kdu_collect (A := A.in1) (KdlSrc.rawDict nm) hh raw few fun h' tk acc kp it => ?_)
  refine wpAny_bind (wpAny_newList ?_ (by rw [Array.length_toList, it.1]; exact few))
  exact wpAny_bind (wpAny_holding (wpAny_mono (h h' tk acc kp it) (fun _ z x => wpAny_pure ⟨_, rfl, x⟩) fun _ _ e => e))
mutual
/-- a key reads off no list -/
theorem rep_rd0 {av : List Addr} (I : Inv X pins σ H s) : ∀ {x : Dt} {v : V} {u : Value}, Rep X.KF av H x v → RelV v u → keyOk x = true → Reads s.heap u (toPy x) []
  | _, _, _, .non, r, _ => by cases r; exact .none
  | _, _, _, .bl b, r, _ => by cases r; exact .bool b
  | _, _, _, .int i, r, _ => by obtain ⟨t, rfl⟩ := r; exact .int _ _
  | _, _, _, .str z h, r, _ => by obtain ⟨t, rfl⟩ := r; exact .str _ _
  | _, _, _, .tup h q e, r, k => by
    cases r
    obtain ⟨its, rv, ⟨o, g1, g2, m, g3⟩, _⟩ := I.tuple (.inl q.rd)
    rw [toPy]
    exact .tuple g1 g2 g3 (by simpa using rep_rds0 I e rv (by simpa [keyOk] using k))
  | _, _, _, .tupK q _ e, r, k => by
    cases r
    obtain ⟨its, rv, ⟨o, g1, g2, m, g3⟩, _⟩ := I.tuple (.inr q)
    rw [toPy]
    exact .tuple g1 g2 g3 (by simpa using rep_rds0 I e rv (by simpa [keyOk] using k))
  | _, _, _, .lst _ _ _, _, k => by simp [keyOk] at k
  | _, _, _, .scr _, _, k => by simp [keyOk] at k
theorem rep_rds0 {av : List Addr} (I : Inv X pins σ H s) : ∀ {xs : List Dt} {vs : List V} {us : List Value}, RepL X.KF av H xs vs → Vals vs us → keyOks xs = true → ReadsAll s.heap us (toPy.toPys xs) []
  | _, _, _, .nil, r, _ => by cases r; exact .nil
  | _, _, _, .cons h q, r, k => by
    cases r with
    | cons r1 r2 =>
      simp only [keyOks, Bool.and_eq_true] at k
      rw [toPy.toPys]
      exact ReadsAll.cons (as := []) (bs := []) (rep_rd0 I h r1 k.1) (rep_rds0 I q r2 k.2)
end

theorem KvR.keys {K : KF} {av : List Addr} {H : Hp} : ∀ {kvs : List (Dt × Dt)} {xs : List (NK × Addr × V)}, KvR K av H kvs xs → ∀ d ∈ kvs.map Prod.fst, keyB d = true
  | _, _, .nil, d, h => by cases h
  | _, _, .cons h1 _ _ r, d, h => by
    rw [List.map_cons] at h
    rcases List.mem_cons.mp h with e | h
    · rw [e]; exact h1
    · exact KvR.keys r d h
theorem each_keys {av : List Addr} (I : Inv X pins σ H s) : ∀ {ds : List Dt} {vs : List V} {us : List Value}, RepL X.KF av H ds vs → Vals vs us → (∀ d ∈ ds, keyOk d = true) → PySem.W.EachIs (fun u (z : Dt × V) => RelV z.2 u ∧ Reads s.heap u (toPy z.1) []) us (ds.zip vs)
  | _, _, _, .nil, r, _ => by cases r; exact .nil
  | _, _, _, .cons h q, r, k => by
    cases r with
    | cons r1 r2 => exact .cons ⟨r1, rep_rd0 I h r1 (k _ List.mem_cons_self)⟩ (each_keys I q r2 fun d hd => k d (List.mem_cons_of_mem _ hd))
theorem zip_fst : ∀ (ds : List Dt) (vs : List V), ds.length = vs.length → (ds.zip vs).map Prod.fst = ds
  | [], [], _ => rfl
  | [], _ :: _, h => by cases h
  | _ :: _, [], h => by cases h
  | d :: ds, v :: vs, h => by rw [List.zip_cons_cons, List.map_cons, zip_fst ds vs (by simpa using h)]
theorem sortable_ok {zs : List (Dt × V)} (ok : sortableD (zs.map Prod.fst) = true) : PySem.W.AllAlike (zs.map fun z => toPy z.1) ∧ PySem.W.Sortable (zs.map fun z => toPy z.1) ∧ ∀ z ∈ zs, (toPy z.1).depth ≤ 60 := by
  unfold sortableD at ok
  simp only [Bool.and_eq_true, List.all_eq_true, decide_eq_true_eq, Bool.or_eq_true] at ok
  obtain ⟨⟨o1, o2⟩, o3⟩ := ok
  refine ⟨?_, ?_, fun z hz => ?_⟩
  · intro d hd d' hd'
    obtain ⟨z, hz, rfl⟩ := List.mem_map.mp hd
    obtain ⟨z', hz', rfl⟩ := List.mem_map.mp hd'
    exact alike_toPy _ _ (o1 _ (List.mem_map_of_mem hz) _ (List.mem_map_of_mem hz'))
  · rcases o2 with o2 | o2
    · left
      intro d hd
      obtain ⟨z, hz, rfl⟩ := List.mem_map.mp hd
      have := o2 _ (List.mem_map_of_mem hz)
      split at this
      · rename_i x r e
        exact ⟨toPy x, toPy.toPys r, by rw [e, toPy, toPy.toPys]⟩
      · cases this
    · right
      intro d hd
      obtain ⟨z, hz, rfl⟩ := List.mem_map.mp hd
      have := o2 _ (List.mem_map_of_mem hz)
      cases e : z.1 <;> rw [e] at this <;> first | (cases this; done) | (refine ⟨?_, ?_⟩ <;> simp [toPy])
  · have := dep_mem (List.mem_map_of_mem (f := Prod.fst) hz)
    rw [dep_toPy]
    omega
def sortZ (kvs : List (Dt × Dt)) (ks : List V) : List V := (((kvs.map Prod.fst).zip ks).mergeSort fun a b => !ltB b.1 a.1).map Prod.snd
theorem call_sortedD (hc : X.calm = true) (hu : X.A.units + 65 < cLine) : CallR X (.builtin "sorted") (fun vs H Q => ∃ a kvs ks, vs = [.ref a] ∧ DK X.KF H a kvs ks ∧ sortableD (kvs.map Prod.fst) = true ∧ ∀ p, H p = none → Q (.ref p) (upd H p (.lst (sortZ kvs ks)))) := by
  intro pins s σ H vs us Q I r ⟨a, kvs, ks, e, ⟨av, xs, ep, hd, kr, ek, few⟩, ok, q⟩
  subst e
  obtain ⟨u, rfl, ru⟩ := vals1 r
  cases ru
  obtain ⟨nm, o, es, y2, y3, y4, sz, ent⟩ := raw_at I hd
  have hl := kr.length
  have raw : s.heap.DictRaw a es ep := ⟨o, y2, y3, y4⟩
  refine sorted_rawD (I.ok.hd hc) nm raw (by rw [sz, sizeLine_eq]; omega) fun h' tk acc kp it => ?_
  have rv := raw_keys (s := s) sz ent it
  rw [← ek] at rv
  have J : Inv X pins σ H { s with heap := h' } := I.kept (t' := s.toks) kp
  have keyk : ∀ d ∈ kvs.map Prod.fst, keyOk d = true := fun d hd => (keyB_ok (kr.keys d hd)).2.1
  have rl : RepL X.KF av H (kvs.map Prod.fst) ks := by rw [ek]; exact kr.keysL
  have each := each_keys J rl rv keyk
  have zf : ((kvs.map Prod.fst).zip ks).map Prod.fst = kvs.map Prod.fst := zip_fst _ _ rl.length
  obtain ⟨k1, k2, k3⟩ := sortable_ok (zs := (kvs.map Prod.fst).zip ks) (by rw [zf]; exact ok)
  have few' : ((kvs.map Prod.fst).zip ks).length ≤ sizeLine := by
    rw [List.length_zip, List.length_map, sizeLine_eq]; omega
  have at_ : (h'.push { cls := .type "list", data := .seq acc.toList.toArray }).get? h'.objs.size = some (PyProof.Rows.seqObj "list" acc.toList.toArray 0) := Heap.get?_push_size _ rfl
  refine PySem.W.list_sort_data (enc := fun z : Dt × V => toPy z.1) (R := fun v z => RelV z.2 v) at_ (each_and each fun u z _ h => h.1) (each_and each fun u z _ h => ⟨[], PyProof.Rows.Reads.keeps (fun b o e => Heap.get?_push_of_some _ e) h.2, List.not_mem_nil⟩) k1 k2 few' (fun z hz => Nat.lt_of_le_of_lt (Nat.add_le_add_left (k3 z hz) _) (show X.A.units + 1 + 1 + 60 < cLine by omega)) fun out lo eo => ?_
  rw [le_toPy] at eo
  obtain ⟨n, hn⟩ := PyProof.Rows.sortedHeap_at (vs := acc.toList) (out := out.toArray) at_
  refine ⟨.ref h'.objs.size, _, J.laid (t' := tk) (o := .lst (sortZ kvs ks)) (fun b o e => ?_) (Nat.le_refl _) (show ObjOk _ _ _ _ _ (.lst _) from ⟨?_, out, n, vals_each eo, hn⟩), rfl, q _ (J.hok.fresh (Nat.le_refl _))⟩
  · have lt : b < h'.objs.size := Heap.lt_size e
    rw [PyProof.Rows.sortedHeap_old (Nat.ne_of_lt lt) (by rw [Heap.size_push]; exact Nat.lt_succ_of_lt lt)]
    exact Heap.get?_push_of_some _ e
  · unfold sortZ
    rw [List.length_map, List.length_mergeSort]
    exact few'
end

def rPD (K : KF) : PD → List V → Hp → VK → Prop
  | .len => fun vs H Q => ∃ a kvs ks, vs = [.ref a] ∧ DK K H a kvs ks ∧ Q (.int kvs.length) H
  | .list => fun vs H Q => ∃ a kvs ks, vs = [.ref a] ∧ DK K H a kvs ks ∧ ∀ p, H p = none → Q (.ref p) (upd H p (.lst ks))
  | .sorted => fun vs H Q => ∃ a kvs ks, vs = [.ref a] ∧ DK K H a kvs ks ∧ sortableD (kvs.map Prod.fst) = true ∧ ∀ p, H p = none → Q (.ref p) (upd H p (.lst (sortZ kvs ks)))
theorem call_pd {X : Cx} (hc : X.calm = true) (hu : X.A.units + 65 < cLine) : ∀ p : PD, CallR X (valP1 p.p1) (rPD X.KF p)
  | .len => call_lenD
  | .list => call_listD hc
  | .sorted => call_sortedD hc hu
section
variable {XT : Xt} {T : Tb} {Γ : Gam} {N : List Str} {X : Cx} {W : WX} {sc : Scope} {K : KF} {σ : L2.St} {H : Hp} {Q : VK}
theorem sortZ_rep {av : List Addr} {kvs : List (Dt × Dt)} {ks : List V} (r : RepL K av H (kvs.map Prod.fst) ks) : RepL K av H (sortD (kvs.map Prod.fst)) (sortZ kvs ks) := by
  have z1 : ((kvs.map Prod.fst).zip ks).map Prod.fst = kvs.map Prod.fst := zip_fst _ _ r.length
  have hz : ∀ z ∈ (kvs.map Prod.fst).zip ks, Rep K av H z.1 z.2 := fun z h => RepL.zip r z h
  have e1 : sortD (kvs.map Prod.fst) = (((kvs.map Prod.fst).zip ks).mergeSort fun a b => !ltB b.1 a.1).map Prod.fst := by
    rw [List.map_mergeSort (s := fun a b => !ltB b a) (fun a _ b _ => rfl), z1]
    rfl
  rw [e1]
  exact RepL.of_pairs _ fun z h => hz z (List.mem_mergeSort.mp h)
theorem tW_pd {p : PD} {a : Ex} (h : tW XT K W (evE Γ (.pd p a)) σ H Q) : tCB (rPD K p) (tCons (tW XT K W (evE Γ a)) tNil) σ H Q := by
  obtain ⟨fo, φ, ρ, st, hs, he, h⟩ := h
  unfold evE at h
  refine ⟨fo, φ, ρ, st, hs, he, (Go.of_bind h).imp fun w st1 φ1 H1 s1 q1 h1 v rv => ?_⟩
  unfold pdW at h1
  dsimp only at h1
  cases e1 : viewK st1 w with
  | none => rw [e1] at h1; exact False.elim h1
  | some kvs =>
    rw [e1] at h1
    simp only [Option.bind_some] at h1
    split at h1
    · rename_i few
      obtain ⟨b, rfl, xs, ep, g1, g2⟩ := viewK_of q1 rv e1
      have dk : DK K H1 b kvs (xs.map fun x => V.ref x.2.1) := ⟨_, xs, ep, g1, g2, rfl, few⟩
      cases p with
      | len => exact ⟨b, kvs, _, rfl, dk, Go.run h1 q1 _ (Rep.int _)⟩
      | list => exact ⟨b, kvs, _, rfl, dk, fun p hp => h1 φ1 _ (Step.same (same_new hp)) (q1.same (same_new hp)) _ (rep_newL q1.trk hp g2.keysL)⟩
      | sorted =>
        unfold pdD at h1
        dsimp only at h1
        split at h1
        · rename_i ok
          exact ⟨b, kvs, _, rfl, dk, ok, fun p hp => h1 φ1 _ (Step.same (same_new hp)) (q1.same (same_new hp)) _ (rep_newL q1.trk hp (sortZ_rep g2.keysL))⟩
        · exact False.elim h1
    · exact False.elim h1
theorem pe_pdE {p : PD} {a : Ex} {y : Expr} {pn pos : Pos} (c : CxOk XT T Γ N X W sc) (hg : isGl sc (Str.ofString (pyP1 p.p1)) = true) (ha : PE X y (tW XT X.KF W (evE Γ a))) (hy : plainE y = true) :
    PE X (.Call (.Name (Str.ofString (pyP1 p.p1)) pn) [y] [] pos) (tW XT X.KF W (evE Γ (.pd p a))) := by
  have hb := boot_p1 p.p1
  have hc := call_pd (X := X) c.calm c.units p
  have hm := c.blt _ (mem_p1 p.p1)
  have key : PE X (.Call (.Name (Str.ofString (pyP1 p.p1)) pn) [y] [] pos) (tCB (rPD X.KF p) (tCons (tW XT X.KF W (evE Γ a)) tNil)) := by
    unfold valP1 at hb hc
    cases ht : p1Ty p.p1 with
    | true =>
      rw [ht] at hb hc
      exact pe_callTy hc (c.gl hg) hm hb (pa_one ha hy) (ne_p1 p.p1) (isGl_gl hg).2 (plainE_star hy _ _) rfl
    | false =>
      rw [ht] at hb hc
      exact pe_callB hc (c.gl hg) hm hb (pa_one ha hy) (ne_p1 p.p1) (isGl_gl hg).2 (plainE_star hy _ _) rfl
  exact PE.weak key fun σ H Q h => tW_pd h
end

/-! #### dict(pairs) -/
section
variable {X : Cx} {pins : List (Addr × Obj)} {σ : L2.St} {H : Hp} {s : Shared}
/-- pairs as the heap has them: their places, keys, values -/
theorem pairs_at {av : List Addr} (I : Inv X pins σ H s) : ∀ {ds : List Dt} {kvs : List (Dt × Dt)} {vs : List V} {us : List Value}, pairsD ds = some kvs → RepL X.KF av H ds vs → Vals vs us →
    ∃ (Ts : List Addr) (xs : List (NK × Addr × V)) (ys : List (NK × Addr × Value)), us = Ts.map Value.ref ∧ KvR X.KF av H kvs xs ∧ YR xs ys ∧ Ts.length = ys.length ∧ kvs.length = ds.length ∧
      ∀ (i : Nat) (T : Addr) (y : NK × Addr × Value), Ts[i]? = some T → ys[i]? = some y → PairAt s.heap T (.ref y.2.1) y.2.2 ∧ (nestedKind X.prog X.w).is s.heap y.1 y.2.1
  | [], kvs, vs, us, e, r, rv => by
    cases e
    cases r
    cases rv
    exact ⟨[], [], [], rfl, .nil, .nil, rfl, rfl, fun i T y h => by simp at h⟩
  | d :: ds, kvs, vs, us, e, r, rv => by
    cases r with
    | cons h r =>
      cases rv with
      | cons h2 rv =>
        unfold pairsD at e
        split at e
        · rename_i e0; cases e0
        · rename_i k x ds' e0
          cases e0
          split at e
          · rename_i hk
            obtain ⟨more, e1, e2⟩ := Option.map_eq_some_iff.mp e
            subst e2
            obtain ⟨Ts, xs, ys, g1, g2, g3, g4, g5, g6⟩ := pairs_at I e1 r rv
            obtain ⟨T, ws, rfl, sq, rl⟩ := h.sqT
            cases h2
            cases rl with
            | cons rk rl =>
              cases rl with
              | cons rx rl =>
                cases rl
                obtain ⟨its, vv, ⟨o, t1, t2, m, t3⟩, _⟩ := I.tuple sq
                cases vv with
                | cons v1 vv =>
                  cases vv with
                  | cons v2 vv =>
                    cases vv
                    rename_i u1 u2
                    obtain ⟨b, rfl⟩ := rep_ref hk rk
                    cases v1
                    refine ⟨T :: Ts, (nkD k, b, _) :: xs, (nkD k, b, u2) :: ys, by rw [g1]; rfl, .cons hk rk rx g2, .cons ⟨rfl, rfl, v2⟩ g3, by simp [g4], by simp [g5], fun i T' y h1 h2 => ?_⟩
                    cases i with
                    | zero =>
                      simp at h1 h2
                      subst h1 h2
                      exact ⟨.inl ⟨o, t1, t2, m, t3⟩, rep_is I hk rk⟩
                    | succ i => exact g6 i T' y (by simpa using h1) (by simpa using h2)
          · cases e
        · cases e
def rDict (K : KF) : V → Hp → VK → Prop := fun v H Q => ∃ av ds kvs a vs, v = .ref a ∧ pairsD ds = some kvs ∧ RepL K av H ds vs ∧ ds.length ≤ 1000000 ∧ ((SqL K H a vs) ∨ (SqT K H a vs ∧ ((∃ o, H a = some (.frz o (.tup vs)) ∧ o.dict = none) ∨ (∃ o, K.fr.lookup a = some o ∧ o.dict = none)))) ∧
  ∀ p xs ep, H p = none → KvR K av H (mergeK [] kvs) xs → Q (.ref p) (upd H p (DO K.P K.w p xs ep))
theorem dict_fin {av : List Addr} (I : Inv X pins σ H s) {kvs : List (Dt × Dt)} {xs : List (NK × Addr × V)} {ys : List (NK × Addr × Value)} {h' : Heap} {tk : Nat} {Q : VK} (kr : KvR X.KF av H kvs xs) (yr : YR xs ys) (d : h'.DictOfH (nestedKind X.prog X.w) s.heap.objs.size (storedAllH [] ys)) (kp : ∀ b o, s.heap.get? b = some o → h'.get? b = some o)
    (q : ∀ p xs ep, H p = none → KvR X.KF av H (mergeK [] kvs) xs → Q (.ref p) (upd H p (DO X.prog X.w p xs ep))) : EP X pins σ Q (.ref s.heap.objs.size) { s with heap := h', toks := tk } := by
  have yr2 := YR.storeAll yr .nil
  obtain ⟨ep, new⟩ := do_new (H' := upd H s.heap.objs.size (DO X.prog X.w s.heap.objs.size (storeAllN [] xs) 0)) (beq_eq_false_iff_ne.mpr (Ne.symm (Nat.ne_of_lt I.big))) yr2 d
  exact ⟨.ref s.heap.objs.size, _, I.laid (t' := tk) (o := DO X.prog X.w s.heap.objs.size (storeAllN [] xs) ep) kp (Nat.le_refl _) new, rfl, q _ _ ep (I.hok.fresh (Nat.le_refl _)) (KvR.merge kr .nil)⟩
theorem call_dictN (hc : X.calm = true) (hu : X.A.units + 65 < cLine) : CallR X (.type "dict") (fun vs H Q => ∃ v, vs = [v] ∧ rDict X.KF v H Q) := by
  intro pins s σ H vs us Q I r ⟨v, e, av, ds, kvs, a, ws, ev, ok, rl, few, sq, q⟩
  subst e ev
  obtain ⟨u, rfl, ru⟩ := vals1 r
  cases ru
  have hh := I.ok.hd hc
  have rm : (nestedKind X.prog X.w).room X.A.in1.in1 := by show X.A.units + 1 + 1 + 8 < cLine; omega
  have main : ∀ (its : List Value), Vals ws its → ∃ (Ts : List Addr) (xs : List (NK × Addr × V)) (ys : List (NK × Addr × Value)), KvR X.KF av H kvs xs ∧ YR xs ys ∧ ys.length ≤ 1000000 ∧
      PairItems s.heap its.toArray (fun j => Ts.getD j 0) (ys.map fun y => (Value.ref y.2.1, y.2.2)) ∧ PairsHaveH (nestedKind X.prog X.w) (ys.map fun y => (Value.ref y.2.1, y.2.2)).length (PairRel (ys.map fun y => (Value.ref y.2.1, y.2.2))) ys ∧ KeysStay (nestedKind X.prog X.w) s.heap s.heap.objs.size [] ys := by
    intro its rv
    obtain ⟨Ts, xs, ys, g1, g2, g3, g4, g5, g6⟩ := pairs_at I ok rl rv
    have lz : ys.length = ds.length := by rw [← g5, g2.length]; exact (Paired.length g3).symm
    refine ⟨Ts, xs, ys, g2, g3, by omega, ⟨by rw [g1]; simp [g4], fun j k v hj => ?_⟩, ⟨by simp, fun i key v hi => ?_⟩, fun h' kp y hy => ?_⟩
    · rw [List.getElem?_map] at hj
      obtain ⟨y, hy, e⟩ := Option.map_eq_some_iff.mp hj
      cases e
      have jl : j < Ts.length := by rw [g4]; exact (List.getElem?_eq_some_iff.mp hy).1
      have ht : Ts[j]? = some (Ts.getD j 0) := by simp [jl]
      refine ⟨?_, (g6 j _ y ht hy).1⟩
      rw [g1]
      simp [jl]
    · have hi : (ys.map fun y => (Value.ref y.2.1, y.2.2))[i]? = some (key, v) := hi
      rw [List.getElem?_map] at hi
      obtain ⟨y, hy, e⟩ := Option.map_eq_some_iff.mp hi
      cases e
      exact ⟨y.1, y.2.1, hy, rfl⟩
    · obtain ⟨j, hj⟩ := List.getElem?_of_mem hy
      have jl : j < Ts.length := by rw [g4]; exact (List.getElem?_eq_some_iff.mp hj).1
      have ht : Ts[j]? = some Ts[j] := List.getElem?_eq_getElem jl
      exact nestedKind_stays.stays (fun b o vs n e _ => kp b o (Nat.ne_of_lt (Heap.lt_size e)) List.not_mem_nil e) (g6 j _ y ht hj).2
  rcases sq with sq | ⟨sq, pl⟩
  · obtain ⟨its, rv, pl, _⟩ := I.list sq
    obtain ⟨Ts, xs, ys, kr, yr, lz, items, have_, stay⟩ := main its rv
    exact call_dict_pairsH (PairArg.list a its.toArray _ _) hh rm ⟨pl, items⟩ have_ stay (by rw [List.length_map, sizeLine_eq]; omega) fun h' tk d kp => dict_fin I kr yr d (fun b o e => kp b o List.not_mem_nil e) q
  · obtain ⟨its, rv, ⟨o, t1, t2, n, t3⟩, _⟩ := I.tuple sq
    obtain ⟨Ts, xs, ys, kr, yr, lz, items, have_, stay⟩ := main its rv
    have dn : o.dict = none := by
      rcases pl with ⟨o', e, d⟩ | ⟨o', e, d⟩
      · obtain ⟨e2, _⟩ := (show ObjOk _ _ _ _ _ (.frz o' _) from I.hok a _ e)
        rw [t1] at e2; cases e2; exact d
      · have e2 := I.kIn a o' e
        rw [t1] at e2; cases e2; exact d
    exact call_dict_pairsH (PairArg.tuple a its.toArray _ _) hh rm ⟨⟨o, n, t1, t2, dn, t3⟩, items⟩ have_ stay (by rw [List.length_map, sizeLine_eq]; omega) fun h' tk d kp => dict_fin I kr yr d (fun b o e => kp b o List.not_mem_nil e) q
end

section
variable {XT : Xt} {T : Tb} {Γ : Gam} {N : List Str} {X : Cx} {W : WX} {sc : Scope} {K : KF} {σ : L2.St} {H : Hp} {Q : VK}
/-- a new dict's reading: it stands alone at a new place -/
def tFD (XT : Xt) (K : KF) (W : WX) (m : Ev → Sr → Rs (Wv × Sr)) : TE := fun σ H Q => ∃ fo φ ρ st, Sok K fo φ H st ∧ EnvOk K fo φ H ρ σ ∧
  Go K (xwOf XT K W σ fo) fo φ H (m ρ st) (fun w st' φ' H' => ∃ kvs, w = .dc kvs ∧ ∀ xs p ep, H' p = none → KvR K (fo ++ φ') H' kvs xs → Q (.ref p) (upd H' p (DO K.P K.w p xs ep)))
theorem tW_tFD {m : Ev → Sr → Rs (Wv × Sr)} (hm : ∀ ρ st q, m ρ st = .ok q → ∃ kvs, q.1 = .dc kvs) (h : tW XT K W m σ H Q) : tFD XT K W m σ H Q := by
  obtain ⟨fo, φ, ρ, st, hs, he, h⟩ := h
  refine ⟨fo, φ, ρ, st, hs, he, ?_⟩
  cases e : m ρ st with
  | bad => rw [e] at h; exact h
  | exc c fs sx => rw [e] at h; exact h
  | ok q =>
    rw [e] at h
    obtain ⟨kvs, e2⟩ := hm ρ st q e
    obtain ⟨w, st1⟩ := q
    cases (show w = .dc kvs from e2)
    intro φ' H' s' q'
    refine ⟨kvs, rfl, fun xs p ep hp r => ?_⟩
    have sm : Same H' (upd H' p (DO K.P K.w p xs ep)) := same_new hp
    exact h φ' _ (s'.trans (Step.same sm)) (q'.same sm) _ (rep_newD q' hp r)
theorem tDict_of {a : Ex} (h : tFD XT K W (evE Γ (.dict a)) σ H Q) : tW XT K W (evE Γ a) σ H (fun x H1 => rDict K x H1 Q) := by
  obtain ⟨fo, φ, ρ, st, hs, he, h⟩ := h
  unfold evE at h
  refine ⟨fo, φ, ρ, st, hs, he, (Go.of_bind h).imp fun w st1 φ1 H1 s1 q1 h1 v rv => ?_⟩
  unfold dictW at h1
  dsimp only at h1
  cases e1 : viewW st1 w with
  | none => rw [e1] at h1; exact False.elim h1
  | some x =>
    cases e2 : dictD x with
    | none => simp only [e1, e2, Option.bind_some, Option.map_none] at h1; exact False.elim h1
    | some kvs =>
      simp only [e1, e2, Option.bind_some, Option.map_some, Rs.ofO_some] at h1
      obtain ⟨ks, ek, h3⟩ := Go.run h1 q1
      cases ek
      have vr := view_of q1 rv e1
      unfold dictD at e2
      split at e2
      · rename_i xs
        split at e2
        · rename_i few
          have vr : Rep K (fo ++ φ1) H1 (.tup xs) v := vr
          cases vr with
          | tup hn r e =>
            rcases r with ⟨o, r, d⟩ | ⟨r, y, z, e3, e4⟩
            · exact ⟨fo ++ φ1, xs, kvs, _, _, rfl, e2, e, few, .inr ⟨.inl (.inr ⟨o, r⟩), .inl ⟨o, r, d⟩⟩, fun p zs ep hp r => h3 zs p ep hp r⟩
            · exfalso
              subst e3
              unfold pairsD at e2
              cases y with
              | tup _ => cases e4
              | _ => cases e2
          | tupK r pl e => exact ⟨fo ++ φ1, xs, kvs, _, _, rfl, e2, e, few, .inr ⟨.inr r, .inr pl⟩, fun p zs ep hp r => h3 zs p ep hp r⟩
        · cases e2
      · rename_i xs
        split at e2
        · rename_i few
          obtain ⟨a, vs, rfl, r, e⟩ := vlst vr
          exact ⟨fo ++ φ1, xs, kvs, a, vs, rfl, e2, e, few, .inl (.inl r), fun p zs ep hp r => h3 zs p ep hp r⟩
        · cases e2
      · cases e2
theorem boot_dictN : bootBuiltins ("dict" : Str) = some (.type "dict") := by decide +kernel
theorem pe_dictF {a : Ex} {y : Expr} {pn pos : Pos} (c : CxOk XT T Γ N X W sc) (hg : isGl sc "dict" = true) (ha : PE X y (tW XT X.KF W (evE Γ a))) (hy : plainE y = true) : PE X (.Call (.Name "dict" pn) [y] [] pos) (tFD XT X.KF W (evE Γ (.dict a))) := by
  refine PE.weak (pe_callTy (call_dictN c.calm c.units) (c.gl hg) (c.blt "dict" (by decide)) boot_dictN (pa_one ha hy) (by decide +kernel) (isGl_gl hg).2 (plainE_star hy _ _) rfl) fun σ H Q h => ?_
  have h2 := tDict_of h
  obtain ⟨fo, φ, ρ, st, hs, he, h2⟩ := h2
  exact ⟨fo, φ, ρ, st, hs, he, h2.imp fun w st1 φ1 H1 s1 q1 h1 v rv => ⟨v, rfl, h1 v rv⟩⟩
theorem dcM_dict {a : Ex} : ∀ ρ st q, evE Γ (.dict a) ρ st = .ok q → ∃ kvs, q.1 = .dc kvs := fun ρ st q h => by
  unfold evE at h
  obtain ⟨p, _, h⟩ := bind_ok_inv h
  unfold dictW at h
  cases e1 : viewW p.2 p.1 with
  | none => rw [e1] at h; cases h
  | some x =>
    cases e2 : dictD x with
    | none => simp only [e1, e2, Option.bind_some, Option.map_none] at h; cases h
    | some kvs =>
      simp only [e1, e2, Option.bind_some, Option.map_some, Rs.ofO_some] at h
      cases h
      exact ⟨_, rfl⟩
theorem pe_dictE {a : Ex} {y : Expr} {pn pos : Pos} (c : CxOk XT T Γ N X W sc) (hg : isGl sc "dict" = true) (ha : PE X y (tW XT X.KF W (evE Γ a))) (hy : plainE y = true) : PE X (.Call (.Name "dict" pn) [y] [] pos) (tW XT X.KF W (evE Γ (.dict a))) :=
  PE.weak (pe_dictF c hg ha hy) fun σ H Q h => tW_tFD dcM_dict h
theorem pe_dnewF {pos : Pos} : PE X (.Dict [] [] pos) (tFD XT X.KF W (evE Γ .dnew)) := by
  refine PE.weak pe_dnewN fun σ H Q h => ?_
  obtain ⟨fo, φ, ρ, st, hs, he, h⟩ := h
  unfold evE at h
  intro p hp
  obtain ⟨kvs, e, h3⟩ := Go.run h hs
  cases e
  exact h3 [] p 0 hp .nil
end
/-! #### the frozen store -/
section
variable {K : KF} {av av' : List Addr} {H H2 : Hp}
mutual
/-- a key stays off the places of other things than tuples -/
theorem Rep.keyO (ht : ∀ a ∈ av', a ∈ av ∨ ∀ vs, ¬ Rd H a (.tup vs)) : ∀ {x : Dt} {v : V}, Rep K av H x v → keyOk x = true → Rep K av' H x v
  | _, _, .non, _ => .non
  | _, _, .bl b, _ => .bl b
  | _, _, .int i, _ => .int i
  | _, _, .str s h, _ => .str s h
  | _, _, .tup h r e, k => .tup (fun z => (ht _ z).elim h fun n => n _ r.rd) r (RepL.keyO ht e (by simpa [keyOk] using k))
  | _, _, .tupK r pl e, k => .tupK r pl (RepL.keyO ht e (by simpa [keyOk] using k))
  | _, _, .lst _ _ _, k => by simp [keyOk] at k
  | _, _, .scr _, k => by simp [keyOk] at k
theorem RepL.keyO (ht : ∀ a ∈ av', a ∈ av ∨ ∀ vs, ¬ Rd H a (.tup vs)) : ∀ {xs : List Dt} {vs : List V}, RepL K av H xs vs → keyOks xs = true → RepL K av' H xs vs
  | _, _, .nil, _ => .nil
  | _, _, .cons h r, k => by
    simp only [keyOks, Bool.and_eq_true] at k
    exact .cons (Rep.keyO ht h k.1) (RepL.keyO ht r k.2)
end
variable {fo φ φ2 : List Addr} {st : Sr} {ρ : Ev} {σ : L2.St}
theorem Sok.frz (s : Sok K fo φ H st) : Sok K fo [] H [] := ⟨rfl, List.nodup_nil, s.ft, fun a ha => (List.not_mem_nil ha).elim, fun n a xs e => by simp at e, fun n a xs e => by simp at e⟩
theorem fewer_frz : Keeps (fo ++ φ) H (fo ++ []) H := Keeps.fewer fun a ha => by
  rw [List.append_nil] at ha
  exact List.mem_append_left _ ha
theorem RepW.frz (s : Sok K fo φ H st) {w : Wv} {v : V} (r : RepW K fo φ H w v) : RepW K fo [] H (frzW st w) v := by
  cases w with
  | d x => exact Rep.keep fewer_frz r
  | dc kvs =>
    obtain ⟨a, e, n, xs, ep, h1, h2⟩ := r
    exact ⟨a, e, (fewer_frz a _ n h1).2, xs, ep, h1, h2.keep fewer_frz⟩
  | ob n =>
    obtain ⟨a, e, rfl⟩ := r
    have hn : n < st.length := by rw [← s.len]; exact (List.getElem?_eq_some_iff.mp e).1
    have nf : a ∉ fo ++ [] := by rw [List.append_nil]; exact s.dj a (List.mem_of_getElem? e)
    unfold frzW
    dsimp only
    cases q : st[n]? with
    | none => rw [List.getElem?_eq_getElem hn] at q; cases q
    | some o =>
      cases o with
      | lst xs =>
        obtain ⟨vs, h1, h2⟩ := s.ob n a xs e q
        exact Rep.lst nf (.inl h1) (RepL.keep fewer_frz h2)
      | dic kvs =>
        obtain ⟨xs, ep, h1, h2⟩ := s.od n a kvs e q
        exact ⟨a, rfl, nf, xs, ep, h1, h2.keep fewer_frz⟩
theorem EnvOk.frz (s : Sok K fo φ H st) (e : EnvOk K fo φ H ρ σ) : EnvOk K fo [] H (frzE st ρ) σ := by
  refine ⟨by unfold frzE; rw [List.length_map]; exact e.len, fun i w h => ?_⟩
  unfold frzE at h
  rw [List.getElem?_map] at h
  obtain ⟨o, h1, h2⟩ := Option.map_eq_some_iff.mp h
  cases o with
  | none => cases h2
  | some w0 =>
    cases h2
    obtain ⟨v, h3, r⟩ := e.at_ i w0 h1
    exact ⟨v, h3, r.frz s⟩
/-- the places of the store hold no tuples -/
theorem Sok.noTup (s : Sok K fo φ H st) (sm : Same H H2) : ∀ a ∈ fo ++ φ, a ∈ fo ++ φ2 ∨ ∀ vs, ¬ Rd H2 a (.tup vs) := fun a ha => by
  rcases List.mem_append.mp ha with ha | ha
  · exact .inl (List.mem_append_left _ ha)
  · right
    obtain ⟨n, e⟩ := List.getElem?_of_mem ha
    have hn : n < st.length := by rw [← s.len]; exact (List.getElem?_eq_some_iff.mp e).1
    cases q : st[n] with
    | lst xs =>
      obtain ⟨vs, h1, _⟩ := s.ob n a xs e (by rw [List.getElem?_eq_getElem hn, q])
      have h1 := sm a _ h1
      intro us r
      rcases r with r | ⟨o, r⟩ <;> (rw [h1] at r; cases r)
    | dic kvs =>
      obtain ⟨xs, ep, h1, _⟩ := s.od n a kvs e (by rw [List.getElem?_eq_getElem hn, q])
      have h1 := sm a _ h1
      intro us r
      rcases r with r | ⟨o, r⟩ <;> (rw [h1] at r; cases r)
end
end PB

set_option Elab.async false
set_option linter.all false
set_option maxRecDepth 100000
set_option maxHeartbeats 4000000
set_option backward.match.sparseCases false
/-! sorted(set(..)) of tuples. -/
namespace PB
open PySem PySem.Spec PyProof.Rows L2
/-! #### data that are alike and equal are one; their order -/
mutual
theorem key_inj : ∀ (x y : Dt) (u v : List (Int ⊕ List Nat)), alikeD x y = true → keyD x ++ u = keyD y ++ v → x = y ∧ u = v
  | .non, y, u, v, h, e => by cases y <;> simp [alikeD] at h; exact ⟨rfl, e⟩
  | .bl a, y, u, v, h, e => by
    cases y <;> simp [alikeD] at h
    rename_i b
    simp only [keyD, List.cons_append, List.nil_append, List.cons.injEq, Sum.inl.injEq] at e
    cases a <;> cases b <;> simp at e <;> exact ⟨rfl, e⟩
  | .int a, y, u, v, h, e => by
    cases y <;> simp [alikeD] at h
    simp only [keyD, List.cons_append, List.nil_append, List.cons.injEq, Sum.inl.injEq] at e
    exact ⟨by rw [e.1], e.2⟩
  | .str a, y, u, v, h, e => by
    cases y <;> simp [alikeD] at h
    simp only [keyD, List.cons_append, List.nil_append, List.cons.injEq, Sum.inr.injEq] at e
    exact ⟨by rw [e.1], e.2⟩
  | .lst a, y, u, v, h, e => by
    cases y <;> simp [alikeD] at h
    obtain ⟨z1, z2⟩ := keys_inj a _ u v h (by simpa [keyD] using e)
    exact ⟨by rw [z1], z2⟩
  | .tup a, y, u, v, h, e => by
    cases y <;> simp [alikeD] at h
    obtain ⟨z1, z2⟩ := keys_inj a _ u v h (by simpa [keyD] using e)
    exact ⟨by rw [z1], z2⟩
  | .scr a, y, u, v, h, e => by cases y <;> simp [alikeD] at h
theorem keys_inj : ∀ (xs ys : List Dt) (u v : List (Int ⊕ List Nat)), alikeDs xs ys = true → keyDs xs ++ u = keyDs ys ++ v → xs = ys ∧ u = v
  | [], [], u, v, _, e => by simpa [keyDs] using e
  | [], _ :: _, u, v, _, e => by simp [keyDs] at e
  | _ :: _, [], u, v, _, e => by simp [keyDs] at e
  | x :: xs, y :: ys, u, v, h, e => by
    rw [alikeDs, Bool.and_eq_true] at h
    simp only [keyDs, List.cons_append, List.append_assoc, List.cons.injEq, true_and] at e
    obtain ⟨z1, z2⟩ := key_inj x y _ _ h.1 e
    obtain ⟨z3, z4⟩ := keys_inj xs ys u v h.2 z2
    exact ⟨by rw [z1, z3], z4⟩
end
theorem key_one {x y : Dt} (h : alikeD x y = true) (e : keyD x = keyD y) : x = y := (key_inj x y [] [] h (by rw [e])).1
mutual
theorem nk_key : ∀ (x y : Dt), alikeD x y = true → keyOk x = true → nkD x = nkD y → x = y
  | .non, y, h, _, e => by cases y <;> simp [alikeD] at h; rfl
  | .bl a, y, h, _, e => by
    cases y <;> simp [alikeD] at h
    rename_i b
    cases a <;> cases b <;> simp [nkD] at e <;> rfl
  | .int a, y, h, _, e => by
    cases y <;> simp [alikeD] at h
    simp [nkD] at e
    rw [e]
  | .str a, y, h, k, e => by
    cases y <;> simp [alikeD] at h
    rename_i b
    simp [nkD] at e
    exact congrArg Dt.str (toS_inj e)
  | .lst a, y, h, k, e => by simp [keyOk] at k
  | .tup a, y, h, k, e => by
    cases y <;> simp [alikeD] at h
    rename_i b
    simp [nkD] at e
    rw [nk_keys a b h (by simpa [keyOk] using k) e]
  | .scr a, y, h, k, e => by simp [keyOk] at k
theorem nk_keys : ∀ (xs ys : List Dt), alikeDs xs ys = true → keyOks xs = true → nkDs xs = nkDs ys → xs = ys
  | [], [], _, _, _ => rfl
  | [], _ :: _, _, _, e => by simp [nkDs] at e
  | _ :: _, [], _, _, e => by simp [nkDs] at e
  | x :: xs, y :: ys, h, k, e => by
    rw [alikeDs, Bool.and_eq_true] at h
    simp only [keyOks, Bool.and_eq_true] at k
    simp only [nkDs, List.cons.injEq] at e
    rw [nk_key x y h.1 k.1 e.1, nk_keys xs ys h.2 k.2 e.2]
end
/-! #### what sorts to the same -/
theorem row_le_trans {a b c : List (Int ⊕ List Nat)} (h1 : rowLt b a = false) (h2 : rowLt c b = false) : rowLt c a = false := by
  rw [← row_eq] at h1 h2 ⊢
  exact KeyOrd.kle_trans (O := listOrd itemOrd) (a := a) (b := b) (c := c) h1 h2
theorem row_le_anti {a b : List (Int ⊕ List Nat)} (h1 : rowLt b a = false) (h2 : rowLt a b = false) : a = b := by
  rw [← row_eq] at h1 h2
  exact KeyOrd.kle_antisymm (O := listOrd itemOrd) (a := a) (b := b) h1 h2
theorem row_le_total (a b : List (Int ⊕ List Nat)) : rowLt b a = false ∨ rowLt a b = false := by
  rw [← row_eq, ← row_eq]
  cases e : lexLt itemOrd b a with
  | false => exact .inl rfl
  | true => exact .inr (KeyOrd.kle_of_klt (O := listOrd itemOrd) (a := b) (b := a) e)
theorem sortD_pair (xs : List Dt) : (sortD xs).Pairwise fun a b => (!ltB b a) = true := by
  refine List.pairwise_mergeSort (fun a b c h1 h2 => ?_) (fun a b => ?_) xs
  · simp only [Bool.not_eq_true'] at h1 h2 ⊢
    exact row_le_trans h1 h2
  · have := row_le_total (keyD a) (keyD b)
    simp only [Bool.or_eq_true, Bool.not_eq_true']
    exact this
theorem sort_same {xs ys : List Dt} (p : xs.Perm ys) (al : ∀ x ∈ xs, ∀ y ∈ xs, alikeD x y = true) : sortD xs = sortD ys := by
  have p1 : (sortD xs).Perm xs := List.mergeSort_perm ..
  have p2 : (sortD ys).Perm ys := List.mergeSort_perm ..
  refine List.Perm.eq_of_pairwise (le := fun a b => (!ltB b a) = true) (fun a b ha hb h1 h2 => ?_) (sortD_pair xs) (sortD_pair ys) (p1.trans (p.trans p2.symm))
  simp only [Bool.not_eq_true'] at h1 h2
  exact key_one (al a (p1.mem_iff.mp ha) b (p.mem_iff.mpr (p2.mem_iff.mp hb))) (row_le_anti h1 h2)
theorem perm_map {α β : Type} (f : α → β) {l k : List β} (p : l.Perm k) : ∀ m : List α, k = m.map f → ∃ m' : List α, l = m'.map f ∧ m'.Perm m := by
  induction p with
  | nil => intro m e; cases m with
    | nil => exact ⟨[], rfl, .nil⟩
    | cons x m => cases e
  | cons x p ih =>
    intro m e
    cases m with
    | nil => cases e
    | cons y m =>
      rw [List.map_cons, List.cons.injEq] at e
      obtain ⟨m', e1, e2⟩ := ih m e.2
      exact ⟨y :: m', by rw [List.map_cons, e1, e.1], e2.cons y⟩
  | swap x y l =>
    intro m e
    match m, e with
    | [], e => cases e
    | [_], e => simp at e
    | a :: b :: m, e =>
      simp only [List.map_cons, List.cons.injEq] at e
      exact ⟨b :: a :: m, by simp only [List.map_cons]; rw [e.1, e.2.1, e.2.2], .swap a b m⟩
  | trans p q ih1 ih2 =>
    intro m e
    obtain ⟨m1, e1, p1⟩ := ih2 m e
    obtain ⟨m2, e2, p2⟩ := ih1 m1 e1
    exact ⟨m2, e2, p2.trans p1⟩
theorem nub_mem : ∀ {xs : List Dt} {x : Dt}, x ∈ nubD xs → x ∈ xs
  | y :: xs, x, h => by
    unfold nubD at h
    split at h
    · exact List.mem_cons_of_mem _ (nub_mem h)
    · rcases List.mem_cons.mp h with e | h
      · rw [e]; exact List.mem_cons_self
      · exact List.mem_cons_of_mem _ (nub_mem h)
/-- the unlike ones, told by their keys -/
theorem nub_perm {xs ys : List Dt} (ok : ∀ x ∈ xs, keyOk x = true) (al : ∀ x ∈ xs, ∀ y ∈ xs, alikeD x y = true) (sub : ∀ y ∈ ys, y ∈ xs) (nd : (ys.map nkD).Nodup) (all : ∀ k, k ∈ ys.map nkD ↔ k ∈ xs.map nkD) : ys.Perm (nubD xs) := by
  obtain ⟨u1, u2⟩ := nub_keys xs ok
  have n1 : ys.Nodup := (List.pairwise_map.mp nd).imp fun h e => h (by rw [e])
  have n2 : (nubD xs).Nodup := (List.pairwise_map.mp u1).imp fun h e => h (by rw [e])
  have one : ∀ x ∈ xs, ∀ y ∈ xs, nkD x = nkD y → x = y := fun x hx y hy e => nk_key x y (al x hx y hy) (ok x hx) e
  refine (List.perm_ext_iff_of_nodup n1 n2).mpr fun x => ⟨fun h => ?_, fun h => ?_⟩
  · obtain ⟨y, hy, e⟩ := List.mem_map.mp ((u2 (nkD x)).mpr ((all (nkD x)).mp (List.mem_map_of_mem h)))
    rw [← one y (nub_mem hy) x (sub x h) e]
    exact hy
  · obtain ⟨y, hy, e⟩ := List.mem_map.mp ((all (nkD x)).mpr (List.mem_map_of_mem (nub_mem h)))
    rw [← one y (sub y hy) x (nub_mem h) e]
    exact hy
section
variable {X : Cx} {pins : List (Addr × Obj)} {σ : L2.St} {H : Hp} {s : Shared} {av : List Addr}
/-- tuples that are keys, with their data and places -/
theorem reps_ts (I : Inv X pins σ H s) : ∀ {xs : List Dt} {vs : List V} {us : List Value}, RepL X.KF av H xs vs → Vals vs us → xs.all (fun x => isTupD x && keyOk x && decide (depD x ≤ 8)) = true →
    ∃ ts : List (Dt × Addr), us = (ts.map fun p => Value.ref p.2) ∧ ts.map Prod.fst = xs ∧ ∀ t ∈ ts, Rep X.KF av H t.1 (.ref t.2) ∧ isN s.heap (nkD t.1) t.2
  | _, _, _, .nil, r, _ => by cases r; exact ⟨[], rfl, rfl, fun p h => by cases h⟩
  | x :: xs, _, _, .cons h q, r, k => by
    cases r with
    | cons r1 r2 =>
      simp only [List.all_cons, Bool.and_eq_true, decide_eq_true_eq] at k
      obtain ⟨⟨⟨k1, k2⟩, k3⟩, k4⟩ := k
      obtain ⟨ts, e1, e2, e3⟩ := reps_ts I q r2 (by simpa only [List.all_eq_true, Bool.and_eq_true, decide_eq_true_eq] using k4)
      have n1 := rep_nk I h r1 k2
      obtain ⟨a, ha⟩ : ∃ a, _ = V.ref a := by
        cases x with
        | tup ys => obtain ⟨a, vs, e, _⟩ := Rep.sqT h; exact ⟨a, e⟩
        | _ => simp [isTupD] at k1
      subst ha
      cases r1
      refine ⟨(x, a) :: ts, by rw [e1]; rfl, by rw [List.map_cons, e2], fun p hp => ?_⟩
      rcases List.mem_cons.mp hp with e | hp
      · rw [e]
        exact ⟨h, n1, by rw [nk_dep x k2]; exact k3⟩
      · exact e3 p hp
theorem each_us (I : Inv X pins σ H s) : ∀ Us : List (Dt × Addr), (∀ t ∈ Us, Rep X.KF av H t.1 (.ref t.2) ∧ keyOk t.1 = true) →
    PySem.W.EachIs (fun u (z : Dt × V) => RelV z.2 u ∧ Reads s.heap u (toPy z.1) []) (Us.map fun t => Value.ref t.2) (Us.map fun t => (t.1, V.ref t.2))
  | [], _ => .nil
  | t :: Us, h => .cons ⟨rfl, rep_rd0 I (h t List.mem_cons_self).1 rfl (h t List.mem_cons_self).2⟩ (each_us I Us fun q hq => h q (List.mem_cons_of_mem _ hq))
/-- the rows of the set, with their data -/
theorem rows_ts {ts : List (Dt × Addr)} : ∀ L : List (Addr × NK), (∀ p ∈ L, p ∈ ts.map fun t => (t.2, nkD t.1)) → ∃ Ts : List (Dt × Addr), L = (Ts.map fun t => (t.2, nkD t.1)) ∧ ∀ t ∈ Ts, t ∈ ts
  | [], _ => ⟨[], rfl, fun t h => by cases h⟩
  | p :: L, h => by
    obtain ⟨t, ht, e⟩ := List.mem_map.mp (h p List.mem_cons_self)
    obtain ⟨Ts, e1, e2⟩ := rows_ts L fun q hq => h q (List.mem_cons_of_mem _ hq)
    refine ⟨t :: Ts, by rw [List.map_cons, e, e1], fun q hq => ?_⟩
    rcases List.mem_cons.mp hq with e | hq
    · rw [e]; exact ht
    · exact e2 q hq
/-- the reading of sorted(set(..)) -/
def rSsort (K : KF) : V → Hp → VK → Prop := fun v H Q => ∃ (av : List Addr) (xs : List Dt) (a : Addr) (vs : List V), v = .ref a ∧ SqL K H a vs ∧ RepL K av H xs vs ∧
  xs.all (fun x => isTupD x && keyOk x && decide (depD x ≤ 8)) = true ∧ xs.all (fun x => xs.all (alikeD x)) = true ∧ (nubD xs).length < 76 ∧ ∀ p us, H p = none → RepL K av H (sortD (nubD xs)) us → Q (.ref p) (upd H p (.lst us))
theorem uns_ssort {K : KF} : UnS K ssortD (rSsort K) := by
  intro av H x z v Q ht hx e q
  cases x with
  | lst xs =>
    unfold ssortD at e
    dsimp only at e
    split at e
    · rename_i c
      cases e
      obtain ⟨a, vs, rfl, ha, ra⟩ := vlst hx
      exact ⟨av, xs, a, vs, rfl, .inl ha, ra, c.1, c.2.1, c.2.2, fun p us hp r => q _ _ (same_new hp) (rep_newL ht hp r)⟩
    · cases e
  | _ => cases e
end
section
variable {A : Around} {E : Value → Shared → Prop} {prog : Program} {w : World} {s : Shared}
/-- sorted of a set in a drawn order -/
theorem sorted_setN {a : Addr} {es : Array (Int × Value)} {ep : Nat} {t : SetTable} {Q : Value → Shared → Prop} (hh : A.handled = none) (ha : SetAt s.heap a es ep t) (hf : t.fits es.size = true) (few : es.size < 76) (r : Ris t.place.toList) (hl : w.params.followText "set-order" = true ∨ t.led = true)
    (h : ∀ (s1 : Shared) (out : List Value), (∀ b o, s.heap.get? b = some o → s1.heap.get? b = some o) → s1.gens = s.gens → s1.os = s.os → out.Perm (es.toList.map (·.2)) →
      wpAny (model prog w) A.in1 (call (.builtin "list.sort") [.ref s1.heap.objs.size]) (fun _ z => Q (.ref s1.heap.objs.size) z) E { s1 with heap := s1.heap.push { cls := .type "list", data := .seq out.toArray } }) :
    wpAny (model prog w) A (call (.builtin "sorted") [.ref a]) Q E s := by
  refine Calls.call_function_entry kind_sorted plain_sorted entry_sorted (args_sorted1 _) ?_
  unfold Builtin.«sorted»
  refine wpAny_bind (m := checkCount "sorted" 1 1 _) (wpAny_pure ?_)
  refine wpAny_bind (collect_set (A := A.in1) hh ha hf (by unfold scanBound; omega) r hl fun s1 out k1 hz g1 o1 pm => ?_)
  have ol : out.length < 76 := by rw [pm.length_eq, List.length_map, Array.length_toList]; exact few
  refine wpAny_bind (wpAny_newList ?_ (by rw [sizeLine_eq]; omega))
  exact wpAny_bind (wpAny_holding (wpAny_mono (h s1 out k1 g1 o1 pm) (fun _ z x => wpAny_pure ⟨_, rfl, x⟩) fun _ _ e => e))
end
section
variable {X : Cx} {XT : Xt} {T : Tb} {Γ : Gam} {N : List Str} {W : WX} {sc : Scope}
theorem pe_ssortV {a : Expr} {ta : TE} {p p2 q pos : Pos} (hc : X.calm = true) (room : X.A.units + 65 < cLine) (hg : Gl X "sorted") (hm : X.mg "sorted" = none) (hg2 : Gl X "set") (hm2 : X.mg "set" = none) (ha : PE X a ta)
    (na : starEach [a] X.env = (false, eval a X.env) :: starEach [] X.env) : PE X (.Call (.Name "sorted" p) [.Call (.Name "set" p2) [a] [] q] [] pos) (fun σ H Q => ta σ H fun x H1 => rSsort X.KF x H1 Q) := by
  refine ⟨fun pins s σ H Q I h => ?_⟩
  refine Call_ (ld_blt I hg hm PyProof.Rows.boot_sorted ?_)
  refine PyProof.Rows.callWith_builtin1 (PyProof.Rows.args_cons ?_ rfl) rfl rfl
  refine Call_ (ld_blt I hg2 hm2 PyProof.Rows.boot_set ?_)
  refine PyProof.Rows.callWith_type1 (PyProof.Rows.args_cons (thn (ha.run pins s σ H _ I h) fun v s1 ⟨x, H1, I1, r1, q1⟩ => PyProof.Rows.args_nil ?_) na) na rfl
  obtain ⟨av, xs, t, vs, rfl, sq, rl, ok, al, few, q1⟩ := q1
  cases r1
  obtain ⟨its, rv, tu, _⟩ := I1.list sq
  obtain ⟨ts, e1, e2, e3⟩ := reps_ts I1 rl rv ok
  have key : ∀ x ∈ xs, keyOk x = true := fun x hx => by
    have := List.all_eq_true.mp ok x hx
    simp only [Bool.and_eq_true] at this
    exact this.1.2
  have alk : ∀ x ∈ xs, ∀ y ∈ xs, alikeD x y = true := fun x hx y hy => List.all_eq_true.mp (List.all_eq_true.mp al x hx) y hy
  obtain ⟨u1, u2⟩ := nub_keys xs key
  have kk : ((ts.map fun t => (t.2, nkD t.1)).map (·.2)) = xs.map nkD := by rw [← e2, List.map_map, List.map_map] <;> rfl
  have fewk : ∃ ds : List NK, (∀ p ∈ (ts.map fun t => (t.2, nkD t.1)), p.2 ∈ ds) ∧ ds.length < 76 := ⟨(nubD xs).map nkD, fun p hp => by
    rw [u2, ← kk]
    exact List.mem_map_of_mem hp, by rw [List.length_map]; exact few⟩
  refine call_setN_list (P := X.prog) (w := X.w) (ts.map fun t => (t.2, nkD t.1)) (I1.ok.hd hc) tu.isList (by rw [e1, List.map_map]; rfl) (fun p hp => by
    obtain ⟨t, ht, rfl⟩ := List.mem_map.mp hp
    exact (e3 t ht).2) fewk (by omega) fun h' tk L es ep tb S g kp => ?_
  refine PyProof.Rows.args_nil ?_
  have I2 : Inv X pins σ H1 { s1 with heap := h', toks := tk } := I1.kept kp
  obtain ⟨Ts, eL, sub⟩ := rows_ts L fun p hp => List.mem_of_mem_take (g.sub p hp)
  obtain ⟨o, g1, g2, g3⟩ := S.obj
  have few2 := S.few
  have sz2 := S.size (s := { s1 with heap := h', toks := tk })
  refine sorted_setN (I2.ok.hd hc) ⟨o, g1, g2.1, g3⟩ (S.fits (s := { s1 with heap := h', toks := tk })) (by omega) S.tab.ris S.ord fun z out k1 hg1 ho1 pm => ?_
  have em : es.toList.map (·.2) = Ts.map fun t => Value.ref t.2 := by
    rw [S.ent, eL, List.map_map, List.map_map] <;> rfl
  obtain ⟨Us, eU, pU⟩ := perm_map (fun t : Dt × Addr => Value.ref t.2) pm Ts em
  have subU : ∀ t ∈ Us, t ∈ ts := fun t ht => sub t (pU.mem_iff.mp ht)
  have inx : ∀ t ∈ ts, t.1 ∈ xs := fun t ht => by rw [← e2]; exact List.mem_map_of_mem ht
  have nubU : (Us.map Prod.fst).Perm (nubD xs) := by
    refine nub_perm key alk (fun y hy => ?_) ?_ fun k => ?_
    · obtain ⟨t, ht, rfl⟩ := List.mem_map.mp hy
      exact inx t (subU t ht)
    · have n0 := S.nod
      rw [eL, List.map_map] at n0
      rw [List.map_map]
      exact (pU.map _).nodup_iff.mpr n0
    · rw [List.map_map, (pU.map (nkD ∘ Prod.fst)).mem_iff]
      have eLm : Ts.map (nkD ∘ Prod.fst) = L.map (·.2) := by rw [eL, List.map_map] <;> rfl
      rw [eLm, ← kk]
      constructor
      · intro m
        obtain ⟨p, hp, rfl⟩ := List.mem_map.mp m
        exact List.mem_map_of_mem (List.mem_of_mem_take (g.sub p hp))
      · intro m
        obtain ⟨p, hp, rfl⟩ := List.mem_map.mp m
        exact g.all p (by rw [List.take_length]; exact hp)
  have J : Inv X pins σ H1 z := I2.call' (ch := []) ho1 (Un.kept k1) (I2.hok.kept k1) (by rw [hg1]; exact I2.bare) (fun _ q => nomatch q)
  have each := each_us J Us fun t ht => ⟨(e3 t (subU t ht)).1, key _ (inx t (subU t ht))⟩
  rw [← eU] at each
  have at_ : (z.heap.push { cls := .type "list", data := .seq out.toArray }).get? z.heap.objs.size = some (PyProof.Rows.seqObj "list" out.toArray 0) := Heap.get?_push_size _ rfl
  have lU : Us.length = (nubD xs).length := by rw [← nubU.length_eq, List.length_map]
  have few' : (Us.map fun t => ((t.1, V.ref t.2) : Dt × V)).length ≤ sizeLine := by rw [List.length_map, sizeLine_eq]; omega
  have mU : ∀ b ∈ (Us.map fun t => ((t.1, V.ref t.2) : Dt × V)), ∃ t ∈ ts, b = (t.1, V.ref t.2) := fun b hb => by
    obtain ⟨t, ht, rfl⟩ := List.mem_map.mp hb
    exact ⟨t, subU t ht, rfl⟩
  refine list_sort_tups (enc := fun z : Dt × V => toPy z.1) (R := fun v z => RelV z.2 v) at_ (each_and each fun u z _ h => h.1) (each_and each fun u z _ h => ⟨[], PyProof.Rows.Reads.keeps (fun b o e => Heap.get?_push_of_some _ e) h.2, List.not_mem_nil⟩) (fun d hd d' hd' => ?_) (fun b hb => ?_) few' (fun b hb => ?_) fun out2 lo eo => ?_
  · obtain ⟨b, hb, rfl⟩ := List.mem_map.mp hd
    obtain ⟨b', hb', rfl⟩ := List.mem_map.mp hd'
    obtain ⟨t, ht, rfl⟩ := mU b hb
    obtain ⟨t', ht', rfl⟩ := mU b' hb'
    exact alike_toPy _ _ (alk _ (inx t ht) _ (inx t' ht'))
  · obtain ⟨t, ht, rfl⟩ := mU b hb
    have := List.all_eq_true.mp ok _ (inx t ht)
    simp only [Bool.and_eq_true] at this
    obtain ⟨⟨k1, _⟩, _⟩ := this
    revert k1
    show isTupD t.1 = true → ∃ xs, toPy t.1 = .tuple xs
    cases t.1 <;> intro k1 <;> first | (simp [isTupD] at k1; done) | exact ⟨_, by rw [toPy]⟩
  · obtain ⟨t, ht, rfl⟩ := mU b hb
    have := List.all_eq_true.mp ok _ (inx t ht)
    simp only [Bool.and_eq_true, decide_eq_true_eq] at this
    show X.A.in1.units + 1 + (toPy t.1).depth < cLine
    rw [dep_toPy]
    show X.A.units + 1 + 1 + depD t.1 < cLine
    omega
  · rw [le_toPy] at eo
    obtain ⟨n, hn⟩ := PyProof.Rows.sortedHeap_at (vs := out) (out := out2.toArray) at_
    have K1 : Inv X pins σ (upd H1 z.heap.objs.size (.lst ((Us.map fun t => ((t.1, V.ref t.2) : Dt × V)).mergeSort (fun a b => !ltB b.1 a.1) |>.map Prod.snd))) { z with heap := sortedHeap (z.heap.push { cls := .type "list", data := .seq out.toArray }) z.heap.objs.size out out2.toArray } :=
      J.laid (t' := z.toks) (fun b o e => ?_) (Nat.le_refl _) (show ObjOk _ _ _ _ _ (.lst _) from ⟨?_, out2, n, vals_each eo, hn⟩)
    · refine ⟨.ref z.heap.objs.size, _, K1, rfl, q1 _ _ (J.hok.fresh (Nat.le_refl _)) ?_⟩
      have e0 : sortD (nubD xs) = ((Us.map fun t => ((t.1, V.ref t.2) : Dt × V)).mergeSort fun a b => !ltB b.1 a.1).map Prod.fst := by
        rw [List.map_mergeSort (s := fun a b => !ltB b a) (fun a _ b _ => rfl), List.map_map]
        refine (sort_same nubU fun x hx y hy => ?_).symm
        obtain ⟨t, ht, rfl⟩ := List.mem_map.mp hx
        obtain ⟨t', ht', rfl⟩ := List.mem_map.mp hy
        exact alk _ (inx t (subU t ht)) _ (inx t' (subU t' ht'))
      rw [e0]
      refine RepL.of_pairs _ fun b hb => ?_
      obtain ⟨t, ht, rfl⟩ := mU b (List.mem_mergeSort.mp hb)
      exact (e3 t ht).1
    · have lt : b < z.heap.objs.size := Heap.lt_size e
      rw [PyProof.Rows.sortedHeap_old (Nat.ne_of_lt lt) (by rw [Heap.size_push]; exact Nat.lt_succ_of_lt lt)]
      exact Heap.get?_push_of_some _ e
    · rw [List.length_map, List.length_mergeSort]
      exact few'
theorem pe_ssortE {a : Ex} {y : Expr} {p1 p2 q1 q : Pos} (c : CxOk XT T Γ N X W sc) (g1 : isGl sc "sorted" = true) (g2 : isGl sc "set" = true) (ha : PE X y (tW XT X.KF W (evE Γ a))) (hy : plainE y = true) :
    PE X (.Call (.Name "sorted" p1) [.Call (.Name "set" p2) [y] [] q1] [] q) (tW XT X.KF W (evE Γ (.ssort a))) := by
  refine PE.weak (pe_ssortV c.calm c.units (c.gl g1) (c.blt "sorted" (by decide)) (c.gl g2) (c.blt "set" (by decide)) ha (plainE_star hy _ _)) fun σ H Q h => tW_op1 uns_ssort ?_
  exact h
end
end PB

set_option Elab.async false
set_option linter.all false
set_option maxRecDepth 100000
set_option maxHeartbeats 4000000
set_option backward.match.sparseCases false
/-! An item taken out of a list that changes . -/
namespace PB
open PySem PySem.Spec PyProof.Rows L2
theorem RepL.eraseIdx {K : KF} {av : List Addr} {H : Hp} : ∀ {xs : List Dt} {vs : List V} (k : Nat), RepL K av H xs vs → RepL K av H (xs.eraseIdx k) (vs.eraseIdx k)
  | _, _, k, .nil => by cases k <;> exact .nil
  | _, _, 0, .cons h r => by simpa using r
  | _, _, k + 1, .cons h r => by
    rw [List.eraseIdx_cons_succ, List.eraseIdx_cons_succ]
    exact .cons h (RepL.eraseIdx k r)
theorem seqIndex_at {i : Int} {n : Nat} (h : 0 ≤ i ∧ i < n) : seqIndex? i n = some i.toNat := by
  unfold seqIndex?
  simp
  omega
section
variable {K : KF} {fo φ : List Addr} {H : Hp} {st : Sr}
theorem Sok.apart {n m : Nat} {a b : Addr} (s : Sok K fo φ H st) (ha : φ[n]? = some a) (hb : φ[m]? = some b) (hmn : ¬ n = m) : b ≠ a := fun z => by
  rw [z] at hb
  obtain ⟨h1, h2⟩ := List.getElem?_eq_some_iff.mp ha
  obtain ⟨h3, h4⟩ := List.getElem?_eq_some_iff.mp hb
  exact hmn ((List.getElem_inj s.nd).mp (h2.trans h4.symm))
/-- an object of the store changes -/
theorem Sok.setL {n : Nat} {a : Addr} {xs : List Dt} {vs : List V} (s : Sok K fo φ H st) (ha : φ[n]? = some a) (r : RepL K (fo ++ φ) H xs vs) :
    Step φ H φ (upd H a (.lst vs)) ∧ Sok K fo φ (upd H a (.lst vs)) (st.set n (.lst xs)) := by
  have hm : a ∈ φ := List.mem_of_getElem? ha
  have stp : Step φ H φ (upd H a (.lst vs)) := ⟨⟨[], by simp⟩, fun b o hn e => by
    have hb : b ≠ a := fun z => hn (by rw [z]; exact hm)
    exact ⟨by rw [upd_ne hb]; exact e, hn⟩⟩
  refine ⟨stp, ⟨by simp [s.len], s.nd, fun b hb => ?_, s.dj, fun m b ys e1 e2 => ?_, fun m b kvs e1 e2 => ?_⟩⟩
  · obtain ⟨o, e⟩ := s.ft b hb
    have hne : b ≠ a := fun z => s.dj a hm (by rw [← z]; exact hb)
    exact ⟨o, by rw [upd_ne hne]; exact e⟩
  · by_cases hmn : n = m
    · subst hmn
      rw [ha] at e1
      cases e1
      have hl : n < st.length := by rw [← s.len]; exact (List.getElem?_eq_some_iff.mp ha).1
      rw [List.getElem?_set_self hl] at e2
      cases e2
      exact ⟨vs, upd_same, RepL.keep stp.keeps r⟩
    · rw [List.getElem?_set_ne hmn] at e2
      obtain ⟨us, e3, q⟩ := s.ob m b ys e1 e2
      have hne : b ≠ a := fun z => by
        rw [z] at e1
        obtain ⟨h1, h2⟩ := List.getElem?_eq_some_iff.mp ha
        obtain ⟨h3, h4⟩ := List.getElem?_eq_some_iff.mp e1
        exact hmn ((List.getElem_inj s.nd).mp (h2.trans h4.symm))
      exact ⟨us, by rw [upd_ne hne]; exact e3, RepL.keep stp.keeps q⟩
  · by_cases hmn : n = m
    · subst hmn
      rw [ha] at e1
      cases e1
      have hl : n < st.length := by rw [← s.len]; exact (List.getElem?_eq_some_iff.mp ha).1
      rw [List.getElem?_set_self hl] at e2
      cases e2
    · rw [List.getElem?_set_ne hmn] at e2
      obtain ⟨us, ep, e3, q⟩ := s.od m b kvs e1 e2
      exact ⟨us, ep, by rw [upd_ne (s.apart ha e1 hmn)]; exact e3, q.keep stp.keeps⟩
end
theorem obW_inv {o : Option (Option Wv)} {n : Nat} (h : obW o = some n) : o = some (some (.ob n)) := by
  unfold obW at h
  split at h
  · cases h; rfl
  · cases h
section
variable {XT : Xt} {T : Tb} {Γ : Gam} {N : List Str} {X : Cx} {W : WX} {sc : Scope} {K : KF} {σ : L2.St} {H : Hp} {Q : VK}
theorem tW_popi {i : Nat} {e : Ex} (h : tW XT K W (evE Γ (.popi i e)) σ H Q) : tBM K "list" rPopAt (tVar i) (tCons (tW XT K W (evE Γ e)) tNil) σ H Q := by
  obtain ⟨fo, φ, ρ, st, hs, he, h⟩ := h
  unfold evE at h
  cases e1 : obW ρ[i]? with
  | none => rw [e1] at h; exact False.elim h
  | some n =>
    rw [e1] at h
    simp only [Option.map_some, Rs.ofO_some, Rs.bind_ok] at h
    obtain ⟨v, e2, a, ea, rfl⟩ := he.at_ i _ (obW_inv e1)
    refine ⟨.ref a, e2, ?_⟩
    unfold seenW at h
    cases e3 : st[n]? with
    | none => rw [e3] at h; exact False.elim h
    | some o =>
      cases o with
      | dic kvs0 => rw [e3] at h; exact False.elim h
      | lst xs0 =>
        rw [e3] at h
        simp only [Rs.bind_ok] at h
        obtain ⟨vs0, h0, r0⟩ := hs.ob n a xs0 ea e3
        refine ⟨.inl ⟨rfl, vs0, .inl (.inl h0)⟩, ?_⟩
        refine ⟨fo, φ, ρ, st, hs, he, (Go.of_bind h).imp fun w st1 φ1 H1 s1 q1 h1 v rv => ?_⟩
        unfold popiW at h1
        dsimp only at h1
        split at h1
        · rename_i j xs e4
          split at h1
          · rename_i hl
            obtain ⟨vs, h5, r5⟩ := q1.ob n a xs (s1.get ea) e4
            cases (show Rep _ _ H1 (.int j) v from rv)
            cases e6 : xs[j.toNat]? with
            | none => rw [e6] at h1; exact False.elim h1
            | some x =>
              rw [e6] at h1
              simp only [Option.map_some, Rs.ofO_some] at h1
              obtain ⟨y, hy, ry⟩ := r5.get e6
              obtain ⟨b1, b2⟩ := q1.setL (s1.get ea) (RepL.eraseIdx j.toNat r5)
              have l5 := r5.length
              have hl3 := hl.2.2
              rw [lim_eq, sizeLine_eq] at hl3
              refine ⟨a, vs, j, j.toNat, y, rfl, rfl, h5, by omega, by omega, seqIndex_at (by omega), hy, ?_⟩
              exact h1 _ _ b1 b2 _ (Rep.keep b1.keeps ry)
          · exact False.elim h1
        · exact False.elim h1
theorem pe_popiE {i : Nat} {e : Ex} {x : Str} {px ap cp : Pos} {y : Expr} (c : CxOk XT T Γ N X W sc) (h3 : N[i]? = some x) (h4 : isVis sc x = true) (hb : PE X y (tW XT X.KF W (evE Γ e))) (hy : plainE y = true) (hl : (ap.endLine == cp.line) = true) :
    PE X (.Call (.Attribute (.Name x px) "pop" ap) [y] [] cp) (tW XT X.KF W (evE Γ (.popi i e))) := by
  obtain ⟨v1, v2, v3⟩ := isVis_vis h4
  have hv := pe_var (X := X) (pos := px) (i := i) (by rw [c.n]; exact h3) (by rw [c.scope]; exact v1) v2 v3
  refine PE.weak (pe_bm PySem.F.plainAttrs_list PySem.F.slot_list_pop PySem.F.type_list_pop mt_popAt hv (pa_one hb hy) rfl ?_ hl (plainE_star hy _ _) rfl) fun σ H Q h => tW_popi h
  rw [plainE_star hy]
  rfl
theorem rep_rgV {av : List Addr} : ∀ (n : Nat) (a : Int), RepL K av H (rangeL a n) ((List.range n).map fun i => V.int (a + (i : Nat)))
  | 0, a => .nil
  | n + 1, a => by
    rw [List.range_succ_eq_map, List.map_cons, List.map_map]
    refine .cons (by simpa using (Rep.int (a + ((0 : Nat) : Int)) : Rep K av H (.int (a + ((0 : Nat) : Int))) (.int (a + ((0 : Nat) : Int))))) ?_
    have e := rep_rgV (av := av) n (a + 1)
    have e2 : ((fun i : Nat => V.int (a + (i : Int))) ∘ Nat.succ) = fun i : Nat => V.int (a + 1 + (i : Int)) := by
      funext i
      show V.int _ = V.int _
      congr 1
      have : ((Nat.succ i : Nat) : Int) = (i : Int) + 1 := by omega
      rw [this]; omega
    rw [e2]; exact e
theorem pe_lrngF {a : Ex} {y : Expr} {p1 p2 q1 q : Pos} (c : CxOk XT T Γ N X W sc) (hg : isGl sc "list" = true) (hg2 : isGl sc "range" = true) (ha : PE X y (tW XT X.KF W (evE Γ a))) (hy : plainE y = true) :
    PE X (.Call (.Name "list" p1) [.Call (.Name "range" p2) [y] [] q1] [] q) (tF XT X.KF W (evE Γ (.lrng a))) := by
  refine PE.weak (pe_listRg c.calm (c.gl hg) (c.blt "list" (by decide)) (prg_1 (c.gl hg2) (c.blt "range" (by decide)) ha (plainE_star hy _ _)) rfl) fun σ H Q h => ?_
  obtain ⟨fo, φ, ρ, st, hs, he, h⟩ := h
  unfold evE at h
  refine ⟨fo, φ, ρ, st, hs, he, (Go.of_bind h).imp fun w st1 φ1 H1 s1 q1 h1 v rv => ?_⟩
  unfold lrngW at h1
  dsimp only at h1
  split at h1
  · rename_i i
    split at h1
    · rename_i hc
      cases (show Rep X.KF (fo ++ φ1) H1 (.int i) v from rv)
      refine ⟨i, rfl, ⟨by omega, by omega, by omega, by omega, by omega⟩, fun p hp => ?_⟩
      refine (Go.run h1 q1) _ _ p rfl hp ?_
      have := rep_rgV (K := X.KF) (H := H1) (av := fo ++ φ1) i.toNat 0
      show RepL _ _ _ _ (rgV 0 i)
      unfold rgV
      rw [Int.sub_zero]
      exact this
    · exact False.elim h1
  · exact False.elim h1
end
end PB

set_option Elab.async false
set_option linter.all false
set_option maxRecDepth 100000
set_option maxHeartbeats 4000000
set_option backward.match.sparseCases false
/-! A list comprehension keeps its meaning. -/
namespace PB
open PySem PySem.Spec PyProof.Rows L2
/-- the heap without one place -/
def er (D : Addr) (H : Hp) : Hp := fun b => if b = D then none else H b
theorem er_ne {D b : Addr} {H : Hp} (h : b ≠ D) : er D H b = H b := if_neg h
theorem er_at {D : Addr} {H : Hp} : er D H D = none := if_pos rfl
theorem er_some {D b : Addr} {H : Hp} {o : HO} (h : er D H b = some o) : b ≠ D ∧ H b = some o := by
  by_cases e : b = D
  · subst e; rw [er_at] at h; cases h
  · rw [er_ne e] at h; exact ⟨e, h⟩
theorem upd_er {D : Addr} {H : Hp} {o : HO} (h : H D = some o) : upd (er D H) D o = H := by
  funext b
  by_cases e : b = D
  · subst e; rw [upd_same]; exact h.symm
  · rw [upd_ne e, er_ne e]
theorem er_upd {D : Addr} {H : Hp} {o : HO} : er D (upd H D o) = er D H := by
  funext b
  by_cases e : b = D
  · subst e; rw [er_at, er_at]
  · rw [er_ne e, er_ne e, upd_ne e]
theorem er_none {D : Addr} {H : Hp} (h : H D = none) : er D H = H := by
  funext b
  by_cases e : b = D
  · subst e; rw [er_at]; exact h.symm
  · rw [er_ne e]
section
variable {XT : Xt} {T : Tb} {Γ : Gam} {N : List Str} {X : Cx} {W : WX} {sc : Scope} {K : KF} {σ : L2.St} {H H1 H2 : Hp} {Q : VK} {fo φ φ1 : List Addr} {D : Addr} {st : Sr}
theorem Step.er (a : Step φ H φ1 H1) : Step φ (er D H) φ1 (PB.er D H1) := ⟨a.ext, fun b o n e => by
  obtain ⟨h1, h2⟩ := er_some e
  obtain ⟨h3, h4⟩ := a.keep b o n h2
  exact ⟨by rw [er_ne h1]; exact h3, h4⟩⟩
/-- a new place is put aside -/
theorem Sok.aside {o : HO} (s : Sok K fo φ H st) (h : H D = none) : Sok K (D :: fo) φ (upd H D o) st := by
  have kp : Keeps (fo ++ φ) H (D :: fo ++ φ) (upd H D o) := fun b u n e => by
    have hb : b ≠ D := ne_of_none e h
    refine ⟨by rw [upd_ne hb]; exact e, ?_⟩
    rw [List.cons_append, List.mem_cons, not_or]
    exact ⟨hb, n⟩
  refine ⟨s.len, s.nd, fun a ha => ?_, fun a ha => ?_, fun n a xs e1 e2 => ?_, fun n a kvs e1 e2 => ?_⟩
  · rcases List.mem_cons.mp ha with rfl | ha
    · exact ⟨o, upd_same⟩
    · obtain ⟨u, e⟩ := s.ft a ha
      exact ⟨u, by rw [upd_ne (ne_of_none e h)]; exact e⟩
  · rw [List.mem_cons, not_or]
    refine ⟨fun e => ?_, s.dj a ha⟩
    obtain ⟨u, e2⟩ := s.trk a (List.mem_append_right _ ha)
    rw [e, h] at e2; cases e2
  · obtain ⟨vs, e3, r⟩ := s.ob n a xs e1 e2
    exact ⟨vs, by rw [upd_ne (ne_of_none e3 h)]; exact e3, RepL.keep kp r⟩
  · obtain ⟨xs, ep, e3, r⟩ := s.od n a kvs e1 e2
    exact ⟨xs, ep, by rw [upd_ne (ne_of_none e3 h)]; exact e3, r.keep kp⟩
theorem aside_keeps {o : HO} (h : H D = none) : Keeps (fo ++ φ) H (D :: fo ++ φ) (upd H D o) := fun b u n e => by
  have hb : b ≠ D := ne_of_none e h
  refine ⟨by rw [upd_ne hb]; exact e, ?_⟩
  rw [List.cons_append, List.mem_cons, not_or]
  exact ⟨hb, n⟩
theorem EnvOk.keeps {fo' : List Addr} {ρ : Ev} (k : Keeps (fo ++ φ) H (fo' ++ φ) H1) (h : EnvOk K fo φ H ρ σ) : EnvOk K fo' φ H1 ρ σ := ⟨h.len, fun i w e => by
  obtain ⟨v, e1, r⟩ := h.at_ i w e
  refine ⟨v, e1, ?_⟩
  cases w with
  | d x => exact Rep.keep k r
  | ob n => exact r
  | dc kvs =>
    obtain ⟨a, e, n, xs, ep, h1, h2⟩ := r
    exact ⟨a, e, (k a _ n h1).2, xs, ep, (k a _ n h1).1, h2.keep k⟩⟩
/-- the place that was put aside changes -/
theorem Sok.change {o : HO} (s : Sok K (D :: fo) φ H st) : Sok K (D :: fo) φ (upd H D o) st := by
  have kp : Keeps (D :: fo ++ φ) H (D :: fo ++ φ) (upd H D o) := fun b u n e => by
    have hb : b ≠ D := fun z => n (by rw [z]; exact List.mem_cons_self)
    exact ⟨by rw [upd_ne hb]; exact e, n⟩
  refine ⟨s.len, s.nd, fun a ha => ?_, s.dj, fun n a xs e1 e2 => ?_, fun n a kvs e1 e2 => ?_⟩
  · by_cases hb : a = D
    · subst hb; exact ⟨o, upd_same⟩
    · obtain ⟨u, e⟩ := s.ft a ha
      exact ⟨u, by rw [upd_ne hb]; exact e⟩
  · obtain ⟨vs, e3, r⟩ := s.ob n a xs e1 e2
    have hb : a ≠ D := fun z => s.dj a (List.mem_of_getElem? e1) (by rw [z]; exact List.mem_cons_self)
    exact ⟨vs, by rw [upd_ne hb]; exact e3, RepL.keep kp r⟩
  · obtain ⟨xs, ep, e3, r⟩ := s.od n a kvs e1 e2
    have hb : a ≠ D := fun z => s.dj a (List.mem_of_getElem? e1) (by rw [z]; exact List.mem_cons_self)
    exact ⟨xs, ep, by rw [upd_ne hb]; exact e3, r.keep kp⟩
theorem change_keeps {o : HO} : Keeps (D :: fo ++ φ) H (D :: fo ++ φ) (upd H D o) := fun b u n e => by
  have hb : b ≠ D := fun z => n (by rw [z]; exact List.mem_cons_self)
  exact ⟨by rw [upd_ne hb]; exact e, n⟩
/-- .. and comes back -/
theorem back_keeps : Keeps (D :: fo ++ φ) H (fo ++ φ) (er D H) := fun b u n e => by
  rw [List.cons_append, List.mem_cons, not_or] at n
  exact ⟨by rw [er_ne n.1]; exact e, n.2⟩
theorem Sok.back (s : Sok K (D :: fo) φ H st) (hD : D ∉ fo) : Sok K fo φ (er D H) st := by
  refine ⟨s.len, s.nd, fun a ha => ?_, fun a ha z => s.dj a ha (List.mem_cons_of_mem _ z), fun n a xs e1 e2 => ?_, fun n a kvs e1 e2 => ?_⟩
  · obtain ⟨u, e⟩ := s.ft a (List.mem_cons_of_mem _ ha)
    exact ⟨u, by rw [er_ne (fun z => hD (by rw [← z]; exact ha))]; exact e⟩
  · obtain ⟨vs, e3, r⟩ := s.ob n a xs e1 e2
    have hb : a ≠ D := fun z => s.dj a (List.mem_of_getElem? e1) (by rw [z]; exact List.mem_cons_self)
    exact ⟨vs, by rw [er_ne hb]; exact e3, RepL.keep back_keeps r⟩
  · obtain ⟨xs, ep, e3, r⟩ := s.od n a kvs e1 e2
    have hb : a ≠ D := fun z => s.dj a (List.mem_of_getElem? e1) (by rw [z]; exact List.mem_cons_self)
    exact ⟨xs, ep, by rw [er_ne hb]; exact e3, r.keep back_keeps⟩
theorem wipe_wipe : ∀ (vs us : List Nat), wipe (wipe σ us) vs = wipe (wipe σ vs) us
  | [], us => rfl
  | v :: vs, us => by
    show (wipe (wipe σ us) vs).set v none = wipe ((wipe σ vs).set v none) us
    rw [wipe_wipe vs us]
    have : ∀ (τ : L2.St) (ws : List Nat), (wipe τ ws).set v none = wipe (τ.set v none) ws := by
      intro τ ws
      induction ws with
      | nil => rfl
      | cons w ws ih =>
        show ((wipe τ ws).set w none).set v none = (wipe (τ.set v none) ws).set w none
        rw [← ih]
        by_cases e : w = v
        · subst e; rfl
        · exact List.set_comm _ _ e
    exact this _ _
theorem set_wipe {v : Nat} : ∀ {vs : List Nat}, v ∈ vs → (wipe σ vs).set v none = wipe σ vs
  | w :: vs, h => by
    show ((wipe σ vs).set w none).set v none = (wipe σ vs).set w none
    by_cases e : w = v
    · subst e; rw [List.set_set]
    · rcases List.mem_cons.mp h with z | h
      · exact absurd z.symm e
      · rw [List.set_comm _ _ e, set_wipe h]
theorem wipe_idem (vs : List Nat) : wipe (wipe σ vs) vs = wipe σ vs := by
  have : ∀ (us : List Nat), (∀ u ∈ us, u ∈ vs) → wipe (wipe σ vs) us = wipe σ vs := by
    intro us
    induction us with
    | nil => intro _; rfl
    | cons u us ih =>
      intro h
      show (wipe (wipe σ vs) us).set u none = wipe σ vs
      rw [ih fun w hw => h w (List.mem_cons_of_mem _ hw)]
      exact set_wipe (h u List.mem_cons_self)
  exact this vs fun _ h => h
theorem lcTurn_exc {ifs : Ev → Sr → Rs (Bool × Sr)} {elt : Ev → Sr → Rs (Wv × Sr)} {tg : Tg} {ρ : Ev} {d : Dt} {c : Nat} {fs : List Dt} {sx : Sr} (h : lcTurn ifs elt tg ρ d st = .exc c fs sx) : False := by
  unfold lcTurn at h
  cases e : setTg tg d (wipeE ρ tg.slots) with
  | none => rw [e] at h; cases h
  | some ρ' =>
    rw [e] at h
    simp only [Rs.ofO_some, Rs.bind_ok] at h
    unfold noExc at h
    split at h <;> cases h
theorem lcL_exc {ws : List (Nat × List Dt)} {f : Dt → Sr → Rs (Option Dt × Sr)} (hf : ∀ d st c fs sx, f d st ≠ .exc c fs sx) : ∀ (xs : List Dt) (st : Sr) (c : Nat) (fs : List Dt) (sx : Sr), lcL ws f xs st ≠ .exc c fs sx
  | [], st, c, fs, sx, h => by cases h
  | x :: xs, st, c, fs, sx, h => by
    unfold lcL at h
    cases e : f x st with
    | bad => rw [e] at h; cases h
    | exc c' fs' sx' => exact hf _ _ _ _ _ e
    | ok p =>
      rw [e] at h
      simp only [Rs.bind_ok] at h
      split at h
      · cases e2 : lcL ws f xs p.2 with
        | bad => rw [e2] at h; cases h
        | exc c' fs' sx' => exact lcL_exc hf _ _ _ _ _ e2
        | ok q => rw [e2] at h; cases h
      · cases h
/-- what a turn gives: the tests' answer, the item -/
theorem lcTurn_inv {ifs : Ev → Sr → Rs (Bool × Sr)} {elt : Ev → Sr → Rs (Wv × Sr)} {tg : Tg} {ρ : Ev} {d : Dt} {p : Option Dt × Sr} (h : lcTurn ifs elt tg ρ d st = .ok p) :
    ∃ ρ', setTg tg d (wipeE ρ tg.slots) = some ρ' ∧ ∃ b st3, ifs ρ' st = .ok (b, st3) ∧ ((b = false ∧ p = (none, st3)) ∨ (b = true ∧ ∃ y st4, elt ρ' st3 = .ok (.d y, st4) ∧ p = (some y, st4))) := by
  unfold lcTurn at h
  cases e : setTg tg d (wipeE ρ tg.slots) with
  | none => rw [e] at h; cases h
  | some ρ' =>
    rw [e] at h
    simp only [Rs.ofO_some, Rs.bind_ok] at h
    refine ⟨ρ', rfl, ?_⟩
    cases e2 : ifs ρ' st with
    | bad => rw [e2] at h; cases h
    | exc c fs sx => rw [e2] at h; cases h
    | ok q =>
      rw [e2] at h
      obtain ⟨b, st3⟩ := q
      refine ⟨b, st3, rfl, ?_⟩
      simp only [Rs.bind_ok] at h
      cases b with
      | false =>
        rw [if_neg Bool.false_ne_true] at h
        cases h
        exact .inl ⟨rfl, rfl⟩
      | true =>
        rw [if_pos rfl] at h
        refine .inr ⟨rfl, ?_⟩
        cases e3 : elt ρ' st3 with
        | bad => rw [e3] at h; cases h
        | exc c fs sx => rw [e3] at h; cases h
        | ok r =>
          rw [e3] at h
          obtain ⟨w, st4⟩ := r
          cases w with
          | d y =>
            cases h
            exact ⟨y, st4, rfl, rfl⟩
          | ob n => cases h
          | dc kvs => cases h
/-- no exception leaves a block -/
abbrev W0 : WX := fun _ _ _ _ => False
theorem lc_read {z : Bool} {it : Ev → Sr → Rs Wk} {ifs : Ev → Sr → Rs (Bool × Sr)} {elt : Ev → Sr → Rs (Wv × Sr)} {tg : Tg} (hz : z = true → ∀ i, tg ≠ .one i)
    (h : tF XT K W (fun ρ st => (it ρ st).bind fun p => (lcL p.1.2 (lcTurn ifs elt tg ρ) p.1.1 p.2).bind lcEnd) σ H Q) : tLc (tI XT K W z it) (gTg K tg) (tT XT K W0 ifs) (tW XT K W0 elt) tg.slots σ H Q := by
  obtain ⟨fo, φ, ρ, st, hs, he, h⟩ := h
  refine ⟨fo, φ, ρ, st, hs, he, (Go.of_bind h).imp fun p st1 φ1 H1 s1 q1 h1 J wk wo => ?_⟩
  obtain ⟨items, ws⟩ := p
  dsimp only at h1 wo
  intro D hD
  have hDf : D ∉ fo := fun z => by
    obtain ⟨o, e⟩ := q1.ft D z
    rw [hD] at e; cases e
  have nex : ∀ d st c fs sx, lcTurn ifs elt tg ρ d st ≠ .exc c fs sx := fun d st c fs sx e => lcTurn_exc e
  refine ⟨fun i m H => m = items.length - i ∧ i ≤ items.length ∧ ∃ φ st acc vs, Sok K (D :: fo) φ H st ∧ EnvOk K (D :: fo) φ H ρ σ ∧ (∃ t, φ = φ1 ++ t) ∧ Keeps (fo ++ φ1) H1 (D :: fo ++ φ) H ∧ watchOk ws st = true ∧ H D = some (.lst vs) ∧
      RepL K (D :: fo ++ φ) H acc vs ∧ Go K (xwOf XT K W σ fo) fo φ (er D H) ((lcL ws (lcTurn ifs elt tg ρ) (items.drop i) st).bind fun q => lcEnd (acc ++ q.1, q.2))
        (fun w st' φ' H' => ∀ xs vs p, w = .d (.lst xs) → H' p = none → RepL K (fo ++ φ') H' xs vs → Q (.ref p) (upd H' p (.lst vs))),
    ⟨items.length, by simp, Nat.zero_le _, φ1, st1, [], [], q1.aside hD, (he.step s1).keeps (aside_keeps hD), ⟨[], by simp⟩, aside_keeps hD, wo, upd_same, .nil, ?_⟩, ?_⟩
  · rw [er_upd, er_none hD, List.drop_zero]
    simp only [List.nil_append]
    exact h1
  · rintro i m H ⟨rfl, hi, φ, st, acc, vs, q, en, ex, kp, wo, hDv, racc, hg⟩
    obtain ⟨w1, w2, w3⟩ := wk (D :: fo) φ H st ex kp q wo
    by_cases hlt : i < items.length
    · obtain ⟨d, hd⟩ := get_lt hlt
      have hdrop : items.drop i = d :: items.drop (i + 1) := by
        rw [List.drop_eq_getElem_cons hlt]
        congr 1
        exact Option.some.inj ((List.getElem?_eq_getElem hlt).symm.trans hd)
      rw [hdrop] at hg
      have hne : lcL ws (lcTurn ifs elt tg ρ) (d :: items.drop (i + 1)) st = (lcTurn ifs elt tg ρ d st).bind fun p => if watchOk ws p.2 = true then (lcL ws (lcTurn ifs elt tg ρ) (items.drop (i + 1)) p.2).bind fun q => .ok (consO p.1 q.1, q.2) else .bad := by
        rw [lcL]
      rw [hne] at hg
      cases et : lcTurn ifs elt tg ρ d st with
      | bad => rw [et] at hg; exact False.elim hg
      | exc c fs sx => exact (nex _ _ _ _ _ et).elim
      | ok p =>
        rw [et] at hg
        simp only [Rs.bind_ok] at hg
        by_cases hw : watchOk ws p.2 = true
        · rw [if_pos hw] at hg
          obtain ⟨ρ', es, b, st3, ei, hb⟩ := lcTurn_inv et
          refine .inr ⟨w1 i hlt, fun H' => items.length - (i + 1) = items.length - (i + 1) ∧ i + 1 ≤ items.length ∧ ∃ φ st acc vs, Sok K (D :: fo) φ H' st ∧ EnvOk K (D :: fo) φ H' ρ σ ∧ (∃ t, φ = φ1 ++ t) ∧ Keeps (fo ++ φ1) H1 (D :: fo ++ φ) H' ∧ watchOk ws st = true ∧ H' D = some (.lst vs) ∧
      RepL K (D :: fo ++ φ) H' acc vs ∧ Go K (xwOf XT K W σ fo) fo φ (er D H') ((lcL ws (lcTurn ifs elt tg ρ) (items.drop (i + 1)) st).bind fun q => lcEnd (acc ++ q.1, q.2))
        (fun w st' φ' H' => ∀ xs vs p, w = .d (.lst xs) → H' p = none → RepL K (fo ++ φ') H' xs vs → Q (.ref p) (upd H' p (.lst vs))), fun H' hN => ⟨_, by omega, hN⟩, fun x H' hy => ?_⟩
          obtain ⟨sm, rx⟩ := w3 i d x H' hd hy
          have sm' : Step φ H φ H' := Step.same sm
          have qn := q.same sm
          have en2 : EnvOk K (D :: fo) φ H' (wipeE ρ tg.slots) (wipe σ tg.slots) := (en.step sm').wiped _
          refine gTg_ok es en2 (hz := hz) rx fun σ2 en3 hwp => ⟨by rw [hwp, wipe_idem], ?_⟩
          refine ⟨D :: fo, φ, ρ', st, qn, en3, ?_⟩
          rw [ei]
          intro φ3 H3 s3 q3
          have s03 : Step φ H φ3 H3 := sm'.trans s3
          have hDφ : D ∉ φ := fun z => q.dj D z List.mem_cons_self
          have hD3 : H3 D = some (.lst vs) := (s03.keep D _ hDφ hDv).1
          have ex3 : ∃ t, φ3 = φ1 ++ t := by
            obtain ⟨t, e1⟩ := ex
            obtain ⟨u, e2⟩ := s03.ext
            exact ⟨t ++ u, by rw [e2, e1, List.append_assoc]⟩
          have kp3 : Keeps (fo ++ φ1) H1 (D :: fo ++ φ3) H3 := kp.trans (s03.keeps (fo := D :: fo))
          rcases hb with ⟨rfl, rfl⟩ | ⟨rfl, y, st4, ee, rfl⟩
          · refine iteF ⟨rfl, hlt, φ3, st3, acc, vs, q3, en.step s03, ex3, kp3, hw, hD3, RepL.keep (s03.keeps (fo := D :: fo)) racc, ?_⟩
            refine Go.at_ (φ := φ) (H := er D H) ?_ s03.er
            have : ((lcL ws (lcTurn ifs elt tg ρ) (items.drop (i + 1)) st3).bind fun q => Rs.ok (consO none q.1, q.2)) = lcL ws (lcTurn ifs elt tg ρ) (items.drop (i + 1)) st3 := by
              cases lcL ws (lcTurn ifs elt tg ρ) (items.drop (i + 1)) st3 <;> rfl
            dsimp only at hg
            rw [this] at hg
            exact hg
          · refine iteT ⟨D :: fo, φ3, ρ', st3, q3, en3.step s3, ?_⟩
            rw [ee]
            intro φ4 H4 s4 q4 v rv
            have s04 : Step φ H φ4 H4 := s03.trans s4
            have hD4 : H4 D = some (.lst vs) := (s04.keep D _ hDφ hDv).1
            have ex4 : ∃ t, φ4 = φ1 ++ t := by
              obtain ⟨t, e1⟩ := ex
              obtain ⟨u, e2⟩ := s04.ext
              exact ⟨t ++ u, by rw [e2, e1, List.append_assoc]⟩
            have kp4 : Keeps (fo ++ φ1) H1 (D :: fo ++ φ4) (upd H4 D (.lst (vs ++ [v]))) := (kp.trans (s04.keeps (fo := D :: fo))).trans change_keeps
            dsimp only at hg hw
            have hg2 : Go K (xwOf XT K W σ fo) fo φ (er D H) ((lcL ws (lcTurn ifs elt tg ρ) (items.drop (i + 1)) st4).bind fun q => lcEnd ((acc ++ [y]) ++ q.1, q.2)) (fun w st' φ' H' => ∀ xs vs p, w = .d (.lst xs) → H' p = none → RepL K (fo ++ φ') H' xs vs → Q (.ref p) (upd H' p (.lst vs))) := by
              cases el : lcL ws (lcTurn ifs elt tg ρ) (items.drop (i + 1)) st4 with
              | bad => rw [el] at hg; exact hg
              | exc c fs sx => exact (lcL_exc nex _ _ _ _ _ el).elim
              | ok r =>
                rw [el] at hg
                simp only [Rs.bind_ok, consO, List.append_assoc, List.singleton_append] at hg ⊢
                exact hg
            refine ⟨vs, hD4, ?_, rfl, hlt, φ4, st4, acc ++ [y], vs ++ [v], q4.change, (en.step s04).keeps change_keeps, ex4, kp4, hw, upd_same, ?_, ?_⟩
            · rw [← racc.length, ← lim_eq]
              cases el : lcL ws (lcTurn ifs elt tg ρ) (items.drop (i + 1)) st4 with
              | bad => rw [el] at hg2; exact False.elim hg2
              | exc c fs sx => exact (lcL_exc nex _ _ _ _ _ el).elim
              | ok r =>
                rw [el] at hg2
                simp only [Rs.bind_ok] at hg2
                unfold lcEnd at hg2
                split at hg2
                · rename_i hl
                  simp only [List.length_append, List.length_singleton] at hl
                  omega
                · exact False.elim hg2
            · exact RepL.keep change_keeps ((RepL.keep (s04.keeps (fo := D :: fo)) racc).append (.cons rv .nil))
            · rw [er_upd]
              exact Go.at_ hg2 s04.er
        · rw [if_neg hw] at hg
          exact False.elim hg
    · have ei : i = items.length := by omega
      subst ei
      refine .inl ⟨w2, ?_⟩
      rw [List.drop_length] at hg
      have e0 : lcL ws (lcTurn ifs elt tg ρ) [] st = .ok ([], st) := by rw [lcL]
      rw [e0] at hg
      simp only [Rs.bind_ok, List.append_nil] at hg
      unfold lcEnd at hg
      split at hg
      · have := (Go.run hg (q.back hDf)) acc vs D rfl er_at (RepL.keep back_keeps racc)
        rw [upd_er hDv] at this
        exact this
      · exact False.elim hg
/-! #### the block's context -/
theorem CxOk.blk (c : CxOk XT T Γ N X W sc) (s : Shared) (H : Hp) (C : Addr) (cl : List (Str × Addr)) (fp : List Addr) (scope : Scope) : CxOk XT T Γ N (X.blk s H scope (compEnvC scope cl C X.env) fp) W0 (relS scope sc) := by
  refine ⟨c.n, c.nd, ?_, c.calm, c.units, c.room, takesB0, c.tn, c.glob, c.blt, c.xc, c.fn, c.fnN⟩
  show relS scope X.env.scope = _
  rw [c.scope]
theorem own_slots {cell : Str → Bool} : ∀ {is : List Nat} {es : List Expr}, chkTgs N (isTg sc cell) is es = true → ((es.zip is).map fun p => ((match p.1 with | .Name x _ => x | _ => ("" : Str)), p.2)).map (·.2) = is
  | [], [], _ => rfl
  | i :: is, e :: es, h => by
    cases e with
    | Name x p =>
      unfold chkTgs at h
      simp only [Bool.and_eq_true] at h
      show i :: _ = i :: is
      congr 1
      exact own_slots h.2
    | _ => unfold chkTgs at h; cases h
  | [], _ :: _, h => by unfold chkTgs at h; cases h
  | _ :: _, [], h => by unfold chkTgs at h; cases h
theorem ownOf_slots {cell : Str → Bool} {tg : Tg} {t : Expr} (h : chkTg N (isTg sc cell) tg t = true) : (ownOf tg t).map (·.2) = tg.slots := by
  cases tg with
  | one i =>
    cases t with
    | Name x p => rfl
    | _ => unfold chkTg at h; cases h
  | many is =>
    cases t with
    | Tuple es k p =>
      unfold chkTg at h
      exact own_slots h
    | _ => unfold chkTg at h; cases h
  | nst i is =>
    unfold chkTg at h
    split at h
    · rename_i e; cases e
    · rename_i e; cases e
    · rename_i e
      cases e
      simp only [Bool.and_eq_true] at h
      show i :: _ = i :: is
      congr 1
      exact own_slots h.2
    · cases h
theorem pts_E {ifs : Exs} {cs : List Expr} (h : ∀ e x, ifs = .cons e .nil → cs = [x] → PT X x (tT XT X.KF W (evT Γ e))) (hn : (ifs = .nil ∧ cs = []) ∨ (∃ e x, ifs = .cons e .nil ∧ cs = [x]) ∨ ∃ e e2 r, ifs = .cons e (.cons e2 r)) : ∃ tt, PTs X cs tt ∧ ∀ σ H Q, tT XT X.KF W (evIfs Γ ifs) σ H Q → tt σ H Q := by
  rcases hn with ⟨rfl, rfl⟩ | ⟨e, x, rfl, rfl⟩ | ⟨e, e2, r, rfl⟩
  · refine ⟨_, pts_nil, fun σ H Q h => ?_⟩
    obtain ⟨fo, φ, ρ, st, hs, he, h⟩ := h
    unfold evIfs at h
    exact Go.run h hs
  · refine ⟨_, pts_one (h e x rfl rfl), fun σ H Q h => ?_⟩
    obtain ⟨fo, φ, ρ, st, hs, he, h⟩ := h
    refine ⟨fo, φ, ρ, st, hs, he, ?_⟩
    unfold evIfs at h
    exact h
  · refine ⟨fun _ _ _ => False, ⟨fun _ _ _ _ _ _ q => q.elim⟩, fun σ H Q h => ?_⟩
    obtain ⟨fo, φ, ρ, st, hs, he, h⟩ := h
    unfold evIfs at h
    exact False.elim h
end
end PB

set_option Elab.async false
set_option linter.all false
set_option maxRecDepth 100000
set_option maxHeartbeats 4000000
set_option backward.match.sparseCases false
/-! Expressions keep their meaning. -/
namespace PB
open PySem PySem.Spec PyProof.Rows L2
section
variable {XT : Xt} {T : Tb} {Γ : Gam} {N : List Str}
def isZ : Itx → Bool
  | .zip _ _ => true
  | _ => false
theorem pe_lcF {X : Cx} {W : WX} {sc : Scope} {elt : Ex} {tg : Tg} {it : Itx} {ifs : Exs} {x t i : Expr} {cs : List Expr} {scope : Scope} {pos : Pos} (c : CxOk XT T Γ N X W sc) (hz : isZ it = true → ∀ i, tg ≠ .one i) (hi : PI X t i (tI XT X.KF W (isZ it) (evI Γ it))) (hb : blkC N sc scope (ownOf tg t) = true) (hp : plainE i = true)
    (ht : chkTg N (isTg (relS scope sc) fun x => scope.names.lookup x == some .cell) tg t = true)
    (hif : ∀ (X' : Cx), CxOk XT T Γ N X' W0 (relS scope sc) → ∃ tt, PTs X' cs tt ∧ ∀ σ H Q, tT XT X'.KF W0 (evIfs Γ ifs) σ H Q → tt σ H Q)
    (he : ∀ (X' : Cx), CxOk XT T Γ N X' W0 (relS scope sc) → PE X' x (tW XT X'.KF W0 (evE Γ elt))) :
    PE X (.ListComp x [⟨t, i, cs, 0⟩] scope pos) (tF XT X.KF W (evE Γ (.lc elt tg it ifs))) := by
  have hg : ∀ (s : Shared) (H : Hp) (C : Addr) (cl : List (Str × Addr)) (fp : List Addr), PG (X.blk s H scope (compEnvC scope cl C X.env) fp) t (gTg X.KF tg) := fun s H C cl fp =>
    pg_tg (X := X.blk s H scope (compEnvC scope cl C X.env) fp) (N := N) (sc := relS scope sc) (cell := fun x => scope.names.lookup x == some .cell) c.n c.nd (c.blk s H C cl fp scope).scope (fun x h => h) c.calm ht
  have hif' : ∀ (s : Shared) (H : Hp) (C : Addr) (cl : List (Str × Addr)) (fp : List Addr), PTs (X.blk s H scope (compEnvC scope cl C X.env) fp) cs (tT XT X.KF W0 (evIfs Γ ifs)) := fun s H C cl fp => by
    obtain ⟨tt, h1, h2⟩ := hif (X.blk s H scope (compEnvC scope cl C X.env) fp) (c.blk s H C cl fp scope)
    exact ⟨fun pins s σ H Q I q => h1.run pins s σ H Q I (h2 σ H Q q)⟩
  have he' : ∀ (s : Shared) (H : Hp) (C : Addr) (cl : List (Str × Addr)) (fp : List Addr), PE (X.blk s H scope (compEnvC scope cl C X.env) fp) x (tW XT X.KF W0 (evE Γ elt)) := fun s H C cl fp => he _ (c.blk s H C cl fp scope)
  have ok : BlkOk X.N X.env.scope scope (ownOf tg t) := by
    rw [c.n, c.scope]
    exact blkOk_by hb
  refine PE.weak (pe_lc c.calm c.nd hi ok hg hif' he' (plainE_set hp _)) fun σ H Q h => ?_
  rw [ownOf_slots ht]
  refine lc_read (z := isZ it) (it := evI Γ it) (ifs := evIfs Γ ifs) (elt := evE Γ elt) hz ?_
  obtain ⟨fo, φ, ρ, st, hs, he, h⟩ := h
  refine ⟨fo, φ, ρ, st, hs, he, ?_⟩
  unfold evE at h
  exact h

/-- a comprehension that changes no object -/
theorem tF_lcz {K : KF} {W : WX} {elt : Ex} {tg : Tg} {it : Itx} {ifs : Exs} {σ : L2.St} {H : Hp} {Q : VK} (h : tF XT K W (evE Γ (.lcz elt tg it ifs)) σ H Q) : tF XT K W (evE Γ (.lc elt tg it ifs)) σ H Q := by
  obtain ⟨fo, φ, ρ, st, hs, he, h⟩ := h
  refine ⟨fo, [], frzE st ρ, [], hs.frz, he.frz hs, ?_⟩
  unfold evE at h ⊢
  cases e1 : evI Γ it (frzE st ρ) [] with
  | bad => rw [e1] at h; exact False.elim h
  | exc c fs sx => rw [e1] at h; exact False.elim h
  | ok p =>
    rw [e1] at h
    simp only [noExc, Rs.bind_ok] at h ⊢
    cases e2 : lcL p.1.2 (lcTurn (evIfs Γ ifs) (evE Γ elt) tg (frzE st ρ)) p.1.1 p.2 with
    | bad => rw [e2] at h; exact False.elim h
    | exc c fs sx => exact (lcL_exc (fun d st c fs sx e => lcTurn_exc e) _ _ _ _ _ e2).elim
    | ok r =>
      rw [e2] at h
      simp only [Rs.bind_ok] at h ⊢
      unfold lczW at h
      split at h
      · rename_i ok
        simp only [Rs.bind_ok] at h
        unfold lcEnd at h ⊢
        dsimp only at h
        split at h
        · rename_i len
          rw [if_pos len]
          intro φ2 H2 s2 q2 xs vs p e hp rl
          cases e
          have sm : Same H H2 := fun a o g => (s2.keep a o List.not_mem_nil g).1
          exact h φ H2 (Step.same sm) (hs.same sm) _ vs p rfl hp (rl.keyO (hs.noTup sm) ok)
        · exact False.elim h
      · exact False.elim h
/-! #### what the checker has seen -/
section
variable {sc : Scope} {pe : Expr}
theorem chk_v {i : Nat} (h : chkE T N sc (.v i) pe = true) : ∃ x p, pe = .Name x p ∧ N[i]? = some x ∧ isVis sc x = true := by
  unfold chkE at h
  split at h <;> try (rename_i z; cases z)
  · simp only [Bool.and_eq_true, decide_eq_true_eq] at h
    exact ⟨_, _, rfl, h.1, h.2⟩
  · cases h
theorem chk_non (h : chkE T N sc .non pe = true) : ∃ k p, pe = .Constant .none k p := by
  unfold chkE at h
  split at h <;> try (rename_i z; cases z)
  · exact ⟨_, _, rfl⟩
  · cases h
theorem chk_bl {b : Bool} (h : chkE T N sc (.bl b) pe = true) : ∃ k p, pe = .Constant (.bool b) k p := by
  unfold chkE at h
  split at h <;> try (rename_i z; cases z)
  · simp only [beq_iff_eq] at h
    subst h
    exact ⟨_, _, rfl⟩
  · cases h
theorem chk_int {b : Int} (h : chkE T N sc (.int b) pe = true) : ∃ k p, pe = .Constant (.int b) k p := by
  unfold chkE at h
  split at h <;> try (rename_i z; cases z)
  · simp only [beq_iff_eq] at h
    subst h
    exact ⟨_, _, rfl⟩
  · cases h
theorem chk_str {s : List Nat} (h : chkE T N sc (.str s) pe = true) : ∃ k p, pe = .Constant (.str (toS s)) k p ∧ okS s := by
  unfold chkE at h
  split at h <;> try (rename_i z; cases z)
  · simp only [Bool.and_eq_true, decide_eq_true_eq, List.all_eq_true] at h
    obtain ⟨⟨h1, h2⟩, h3⟩ := h
    subst h1
    exact ⟨_, _, rfl, h2, h3⟩
  · cases h
theorem chk_g {k : Nat} (h : chkE T N sc (.g k) pe = true) : ∃ x p, pe = .Name x p ∧ T.gls[k]? = some x ∧ isGl sc x = true := by
  unfold chkE at h
  split at h <;> try (rename_i z; cases z)
  · simp only [Bool.and_eq_true, decide_eq_true_eq] at h
    exact ⟨_, _, rfl, h.1, h.2⟩
  · cases h
theorem chk_bin {o : Bop} {a b : Ex} (h : chkE T N sc (.bin o a b) pe = true) : ∃ x y p, pe = .BinOp x (pyBop o) y p ∧ chkE T N sc a x = true ∧ chkE T N sc b y = true := by
  unfold chkE at h
  split at h <;> try (rename_i z; cases z)
  · simp only [Bool.and_eq_true] at h
    obtain ⟨⟨h1, h2⟩, h3⟩ := h
    cases bopB_eq h1
    exact ⟨_, _, _, rfl, h2, h3⟩
  · cases h
theorem chk_neg {a : Ex} (h : chkE T N sc (.neg a) pe = true) : ∃ x p, pe = .UnaryOp .USub x p ∧ chkE T N sc a x = true := by
  unfold chkE at h
  split at h <;> try (rename_i z; cases z)
  · exact ⟨_, _, rfl, h⟩
  · cases h
theorem chk_not {a : Ex} (h : chkE T N sc (.not a) pe = true) : ∃ x p, pe = .UnaryOp .Not x p ∧ chkE T N sc a x = true := by
  unfold chkE at h
  split at h <;> try (rename_i z; cases z)
  · exact ⟨_, _, rfl, h⟩
  · cases h
theorem chk_and {es : Exs} (h : chkE T N sc (.and es) pe = true) : ∃ xs p, pe = .BoolOp .And xs p ∧ chkEs T N sc es xs = true ∧ es.isNil = false := by
  unfold chkE at h
  split at h <;> try (rename_i z; cases z)
  · simp only [Bool.and_eq_true, Bool.not_eq_true'] at h
    exact ⟨_, _, rfl, h.1, h.2⟩
  · cases h
theorem chk_or {es : Exs} (h : chkE T N sc (.or es) pe = true) : ∃ xs p, pe = .BoolOp .Or xs p ∧ chkEs T N sc es xs = true ∧ es.isNil = false := by
  unfold chkE at h
  split at h <;> try (rename_i z; cases z)
  · simp only [Bool.and_eq_true, Bool.not_eq_true'] at h
    exact ⟨_, _, rfl, h.1, h.2⟩
  · cases h
theorem chk_cmp {o : Cop} {a b : Ex} (h : chkE T N sc (.cmp o a b) pe = true) : ∃ x y p, pe = .Compare x [pyCop o] [y] p ∧ chkE T N sc a x = true ∧ chkE T N sc b y = true ∧ plainE y = true := by
  unfold chkE at h
  split at h <;> try (rename_i z; cases z)
  · simp only [Bool.and_eq_true] at h
    obtain ⟨⟨⟨h1, h2⟩, h3⟩, h4⟩ := h
    cases copB_eq h1
    exact ⟨_, _, _, rfl, h2, h3, h4⟩
  · cases h
theorem chk_cmp2 {o o' : Cop} {a b c : Ex} (h : chkE T N sc (.cmp2 o o' a b c) pe = true) : ∃ x y z p, pe = .Compare x [pyCop o, pyCop o'] [y, z] p ∧ chkE T N sc a x = true ∧ chkE T N sc b y = true ∧ chkE T N sc c z = true ∧ plainE z = true := by
  unfold chkE at h
  split at h <;> try (rename_i z; cases z)
  · simp only [Bool.and_eq_true] at h
    obtain ⟨⟨⟨⟨⟨h1, h2⟩, h3⟩, h4⟩, h5⟩, h6⟩ := h
    cases copB_eq h1
    cases copB_eq h2
    exact ⟨_, _, _, _, rfl, h3, h4, h5, h6⟩
  · cases h
theorem chk_call0 {f : Nat} (h : chkE T N sc (.call0 f) pe = true) : ∃ x p q, pe = .Call (.Name x p) [] [] q ∧ T.fns[f]? = some (x, 0) ∧ isGl sc x = true ∧ (T.nn = true → f ∈ T.cln) := by
  unfold chkE at h
  split at h <;> try (rename_i z; cases z)
  · simp only [Bool.and_eq_true, Bool.or_eq_true, Bool.not_eq_true', decide_eq_true_eq] at h
    exact ⟨_, _, _, rfl, h.1.1, h.1.2, fun z => h.2.elim (fun y => by rw [z] at y; cases y) id⟩
  · cases h
theorem chk_call {f : Nat} {es : Exs} (h : chkE T N sc (.call f es) pe = true) : ∃ x p xs q, pe = .Call (.Name x p) xs [] q ∧ T.fns[f]? = some (x, es.len) ∧ isGl sc x = true ∧ chkEs T N sc es xs = true ∧ es.isNil = false ∧ (T.nn = true → f ∈ T.cln) := by
  unfold chkE at h
  split at h <;> try (rename_i z; cases z)
  · simp only [Bool.and_eq_true, Bool.or_eq_true, Bool.not_eq_true', decide_eq_true_eq] at h
    obtain ⟨⟨⟨⟨h1, h2⟩, h3⟩, h4⟩, h5⟩ := h
    exact ⟨_, _, _, _, rfl, h1, h2, h3, h4, fun z => h5.elim (fun y => by rw [z] at y; cases y) id⟩
  · cases h
theorem chk_p1 {p : P1} {a : Ex} (h : chkE T N sc (.p1 p a) pe = true) : ∃ p1 y q, pe = .Call (.Name (Str.ofString (pyP1 p)) p1) [y] [] q ∧ isGl sc (Str.ofString (pyP1 p)) = true ∧ chkE T N sc a y = true ∧ plainE y = true := by
  unfold chkE at h
  split at h <;> try (rename_i z; cases z)
  · simp only [Bool.and_eq_true, decide_eq_true_eq] at h
    obtain ⟨⟨⟨h1, h2⟩, h3⟩, h4⟩ := h
    subst h1
    exact ⟨_, _, _, rfl, h2, h3, h4⟩
  · cases h
theorem chk_lens {a : Ex} (h : chkE T N sc (.lens a) pe = true) : ∃ p1 p2 y q1 q, pe = .Call (.Name "len" p1) [.Call (.Name "set" p2) [y] [] q1] [] q ∧ isGl sc "len" = true ∧ isGl sc "set" = true ∧ chkE T N sc a y = true ∧ plainE y = true := by
  unfold chkE at h
  split at h <;> try (rename_i z; cases z)
  · simp only [Bool.and_eq_true, decide_eq_true_eq] at h
    obtain ⟨⟨⟨⟨⟨h1, h2⟩, h3⟩, h4⟩, h5⟩, h6⟩ := h
    subst h1; subst h3
    exact ⟨_, _, _, _, _, rfl, h2, h4, h5, h6⟩
  · cases h
theorem chk_ssort {a : Ex} (h : chkE T N sc (.ssort a) pe = true) : ∃ p1 p2 y q1 q, pe = .Call (.Name "sorted" p1) [.Call (.Name "set" p2) [y] [] q1] [] q ∧ isGl sc "sorted" = true ∧ isGl sc "set" = true ∧ chkE T N sc a y = true ∧ plainE y = true := by
  unfold chkE at h
  split at h <;> try (rename_i z; cases z)
  · simp only [Bool.and_eq_true, decide_eq_true_eq] at h
    obtain ⟨⟨⟨⟨⟨h1, h2⟩, h3⟩, h4⟩, h5⟩, h6⟩ := h
    subst h1; subst h3
    exact ⟨_, _, _, _, _, rfl, h2, h4, h5, h6⟩
  · cases h
theorem chk_lrng {a : Ex} (h : chkE T N sc (.lrng a) pe = true) : ∃ p1 p2 y q1 q, pe = .Call (.Name "list" p1) [.Call (.Name "range" p2) [y] [] q1] [] q ∧ isGl sc "list" = true ∧ isGl sc "range" = true ∧ chkE T N sc a y = true ∧ plainE y = true := by
  unfold chkE at h
  split at h <;> try (rename_i z; cases z)
  · simp only [Bool.and_eq_true, decide_eq_true_eq] at h
    obtain ⟨⟨⟨⟨⟨h1, h2⟩, h3⟩, h4⟩, h5⟩, h6⟩ := h
    subst h1; subst h3
    exact ⟨_, _, _, _, _, rfl, h2, h4, h5, h6⟩
  · cases h
theorem chk_popi {i : Nat} {e : Ex} (h : chkE T N sc (.popi i e) pe = true) : ∃ x px ap y cp, pe = .Call (.Attribute (.Name x px) "pop" ap) [y] [] cp ∧ (ap.endLine == cp.line) = true ∧ N[i]? = some x ∧ isVis sc x = true ∧ chkE T N sc e y = true ∧ plainE y = true := by
  unfold chkE at h
  split at h <;> try (rename_i z; cases z)
  · simp only [Bool.and_eq_true, decide_eq_true_eq] at h
    obtain ⟨⟨⟨⟨⟨h1, h2⟩, h3⟩, h4⟩, h5⟩, h6⟩ := h
    subst h1
    exact ⟨_, _, _, _, _, rfl, h2, h3, h4, h5, h6⟩
  · cases h
theorem chk_find {a i : Ex} {c : Nat} (h : chkE T N sc (.find a c i) pe = true) : ∃ x ap k p y cp, pe = .Call (.Attribute x "find" ap) [.Constant (.str (toS [c])) k p, y] [] cp ∧ (ap.endLine == cp.line) = true ∧ chkE T N sc a x = true ∧ chkE T N sc i y = true ∧ plainE x = true ∧ plainE y = true := by
  unfold chkE at h
  split at h <;> try (rename_i z; cases z)
  · simp only [Bool.and_eq_true, decide_eq_true_eq] at h
    obtain ⟨⟨⟨⟨⟨⟨h1, h2⟩, h3⟩, h4⟩, h5⟩, h6⟩, h7⟩ := h
    subst h1 h2
    exact ⟨_, _, _, _, _, _, rfl, h3, h4, h5, h6, h7⟩
  · cases h
theorem chk_isi {t : Ty} {a : Ex} (h : chkE T N sc (.isi a t) pe = true) : ∃ p1 y p2 q, pe = .Call (.Name "isinstance" p1) [y, .Name (Str.ofString (pyTy t)) p2] [] q ∧ isGl sc "isinstance" = true ∧ isGl sc (Str.ofString (pyTy t)) = true ∧ chkE T N sc a y = true ∧ plainE y = true := by
  unfold chkE at h
  split at h <;> try (rename_i z; cases z)
  · simp only [Bool.and_eq_true, decide_eq_true_eq] at h
    obtain ⟨⟨⟨⟨⟨h1, h2⟩, h3⟩, h4⟩, h5⟩, h6⟩ := h
    subst h1 h3
    exact ⟨_, _, _, _, rfl, h2, h4, h5, h6⟩
  · cases h
theorem chk_m1 {m : M1} {a b : Ex} (h : chkE T N sc (.m1 m a b) pe = true) : ∃ x ap y cp, pe = .Call (.Attribute x (Str.ofString (pyM1 m)) ap) [y] [] cp ∧ (ap.endLine == cp.line) = true ∧ chkE T N sc a x = true ∧ chkE T N sc b y = true ∧ plainE x = true ∧ plainE y = true := by
  unfold chkE at h
  split at h <;> try (rename_i z; cases z)
  · simp only [Bool.and_eq_true, decide_eq_true_eq] at h
    obtain ⟨⟨⟨⟨⟨h1, h2⟩, h3⟩, h4⟩, h5⟩, h6⟩ := h
    subst h1
    exact ⟨_, _, _, _, rfl, h2, h3, h4, h5, h6⟩
  · cases h
theorem chk_isi2 {t u : Ty} {a : Ex} (h : chkE T N sc (.isi2 a t u) pe = true) : ∃ p1 y p2 p3 k p4 q, pe = .Call (.Name "isinstance" p1) [y, .Tuple [.Name (Str.ofString (pyTy t)) p2, .Name (Str.ofString (pyTy u)) p3] k p4] [] q ∧ isGl sc "isinstance" = true ∧ isGl sc (Str.ofString (pyTy t)) = true ∧ isGl sc (Str.ofString (pyTy u)) = true ∧ chkE T N sc a y = true ∧ plainE y = true := by
  unfold chkE at h
  split at h <;> try (rename_i z; cases z)
  · simp only [Bool.and_eq_true, decide_eq_true_eq] at h
    obtain ⟨⟨⟨⟨⟨⟨⟨h1, h2⟩, h3⟩, h4⟩, h5⟩, h6⟩, h7⟩, h8⟩ := h
    subst h1 h3 h5
    exact ⟨_, _, _, _, _, _, _, rfl, h2, h4, h6, h7, h8⟩
  · cases h
theorem chk_b2 {o : B2} {a b : Ex} (h : chkE T N sc (.b2 o a b) pe = true) : ∃ p1 y z q, pe = .Call (.Name (Str.ofString (pyB2 o)) p1) [y, z] [] q ∧ isGl sc (Str.ofString (pyB2 o)) = true ∧ chkE T N sc a y = true ∧ plainE y = true ∧ chkE T N sc b z = true ∧ plainE z = true := by
  unfold chkE at h
  split at h <;> try (rename_i z; cases z)
  · simp only [Bool.and_eq_true, decide_eq_true_eq] at h
    obtain ⟨⟨⟨⟨⟨h1, h2⟩, h3⟩, h4⟩, h5⟩, h6⟩ := h
    subst h1
    exact ⟨_, _, _, _, rfl, h2, h3, h4, h5, h6⟩
  · cases h
theorem chk_rev {a : Ex} (h : chkE T N sc (.rev a) pe = true) : ∃ x k p1 p2 p3 p, pe = .Subscript x (.Slice none none (some (.UnaryOp .USub (.Constant (.int 1) k p1) p2)) p3) p ∧ chkE T N sc a x = true := by
  unfold chkE at h
  split at h <;> try (rename_i z; cases z)
  · exact ⟨_, _, _, _, _, _, rfl, h⟩
  · cases h
theorem chk_ix {a i : Ex} (h : chkE T N sc (.ix a i) pe = true) : ∃ x y p, pe = .Subscript x y p ∧ chkE T N sc a x = true ∧ chkE T N sc i y = true ∧ plainE y = true := by
  unfold chkE at h
  split at h <;> try (rename_i z; cases z)
  · simp only [Bool.and_eq_true] at h
    exact ⟨_, _, _, rfl, h.1.1, h.1.2, h.2⟩
  · cases h
theorem chk_sl {a : Ex} {lo hi : Exo} (h : chkE T N sc (.sl a lo hi) pe = true) : ∃ x l u p2 p, pe = .Subscript x (.Slice l u none p2) p ∧ chkE T N sc a x = true ∧ chkO T N sc lo l = true ∧ chkO T N sc hi u = true := by
  unfold chkE at h
  split at h <;> try (rename_i z; cases z)
  · simp only [Bool.and_eq_true] at h
    exact ⟨_, _, _, _, _, rfl, h.1.1, h.1.2, h.2⟩
  · cases h
theorem chk_tup {es : Exs} (h : chkE T N sc (.tup es) pe = true) : ∃ xs k p, pe = .Tuple xs k p ∧ chkEs T N sc es xs = true := by
  unfold chkE at h
  split at h <;> try (rename_i z; cases z)
  · exact ⟨_, _, _, rfl, h⟩
  · cases h
theorem chk_lst {es : Exs} (h : chkE T N sc (.lst es) pe = true) : ∃ xs p, pe = .List xs p ∧ chkEs T N sc es xs = true := by
  unfold chkE at h
  split at h <;> try (rename_i z; cases z)
  · exact ⟨_, _, rfl, h⟩
  · cases h
set_option backward.match.sparseCases true in
def tupIt (it : Itx) (t : Expr) : Bool := match it with | .enm _ => isTuple t | .zip _ _ => isTuple t | _ => true
theorem chk_lc {elt : Ex} {tg : Tg} {it : Itx} {ifs : Exs} (h : chkE T N sc (.lc elt tg it ifs) pe = true) : ∃ x t i cs scope p, pe = .ListComp x [⟨t, i, cs, 0⟩] scope p ∧ chkI T N sc it i = true ∧ tupIt it t = true ∧ blkC N sc scope (ownOf tg t) = true ∧ plainE i = true ∧
    chkTg N (isTg (relS scope sc) fun x => scope.names.lookup x == some .cell) tg t = true ∧ chkEs T N (relS scope sc) ifs cs = true ∧ chkE T N (relS scope sc) elt x = true := by
  unfold chkE at h
  split at h <;> try (rename_i z; cases z)
  · simp only [Bool.and_eq_true] at h
    obtain ⟨⟨⟨⟨⟨⟨h1, h2⟩, h3⟩, h4⟩, h5⟩, h6⟩, h7⟩ := h
    exact ⟨_, _, _, _, _, _, rfl, h1, h2, h3, h4, h5, h6, h7⟩
  · cases h
theorem chk_lcz {elt : Ex} {tg : Tg} {it : Itx} {ifs : Exs} (h : chkE T N sc (.lcz elt tg it ifs) pe = true) : ∃ x t i cs scope p, pe = .ListComp x [⟨t, i, cs, 0⟩] scope p ∧ chkI T N sc it i = true ∧ tupIt it t = true ∧ blkC N sc scope (ownOf tg t) = true ∧ plainE i = true ∧
    chkTg N (isTg (relS scope sc) fun x => scope.names.lookup x == some .cell) tg t = true ∧ chkEs T N (relS scope sc) ifs cs = true ∧ chkE T N (relS scope sc) elt x = true := by
  unfold chkE at h
  split at h <;> try (rename_i z; cases z)
  · simp only [Bool.and_eq_true] at h
    obtain ⟨⟨⟨⟨⟨⟨h1, h2⟩, h3⟩, h4⟩, h5⟩, h6⟩, h7⟩ := h
    exact ⟨_, _, _, _, _, _, rfl, h1, h2, h3, h4, h5, h6, h7⟩
  · cases h
theorem chk_dnew (h : chkE T N sc .dnew pe = true) : ∃ p, pe = .Dict [] [] p := by
  unfold chkE at h
  split at h <;> try (rename_i z; cases z)
  · exact ⟨_, rfl⟩
  · cases h
theorem chk_dict {a : Ex} (h : chkE T N sc (.dict a) pe = true) : ∃ p1 y q, pe = .Call (.Name "dict" p1) [y] [] q ∧ isGl sc "dict" = true ∧ chkE T N sc a y = true ∧ plainE y = true := by
  unfold chkE at h
  split at h <;> try (rename_i z; cases z)
  · simp only [Bool.and_eq_true, decide_eq_true_eq] at h
    obtain ⟨⟨⟨rfl, h2⟩, h3⟩, h4⟩ := h
    exact ⟨_, _, _, rfl, h2, h3, h4⟩
  · cases h
theorem chk_dix {a i : Ex} (h : chkE T N sc (.dix a i) pe = true) : ∃ x y p, pe = .Subscript x y p ∧ chkE T N sc a x = true ∧ chkE T N sc i y = true ∧ plainE y = true := by
  unfold chkE at h
  split at h <;> try (rename_i z; cases z)
  · simp only [Bool.and_eq_true] at h
    exact ⟨_, _, _, rfl, h.1.1, h.1.2, h.2⟩
  · cases h
theorem chk_dget {a k d : Ex} (h : chkE T N sc (.dget a k d) pe = true) : ∃ x ap y z cp, pe = .Call (.Attribute x "get" ap) [y, z] [] cp ∧ (ap.endLine == cp.line) = true ∧ chkE T N sc a x = true ∧ chkE T N sc k y = true ∧ chkE T N sc d z = true ∧ plainE x = true ∧ plainE y = true ∧ plainE z = true := by
  unfold chkE at h
  split at h <;> try (rename_i z; cases z)
  · simp only [Bool.and_eq_true, decide_eq_true_eq] at h
    obtain ⟨⟨⟨⟨⟨⟨⟨rfl, h2⟩, h3⟩, h4⟩, h5⟩, h6⟩, h7⟩, h8⟩ := h
    exact ⟨_, _, _, _, _, rfl, h2, h3, h4, h5, h6, h7, h8⟩
  · cases h
theorem chk_din {neg : Bool} {k a : Ex} (h : chkE T N sc (.din neg k a) pe = true) : ∃ x y p, pe = .Compare x [pyDin neg] [y] p ∧ chkE T N sc k x = true ∧ chkE T N sc a y = true ∧ plainE y = true := by
  unfold chkE at h
  split at h <;> try (rename_i z; cases z)
  · simp only [Bool.and_eq_true] at h
    obtain ⟨⟨⟨h1, h2⟩, h3⟩, h4⟩ := h
    rw [dinB_eq h1]
    exact ⟨_, _, _, rfl, h2, h3, h4⟩
  · cases h
theorem chk_pd {p : PD} {a : Ex} (h : chkE T N sc (.pd p a) pe = true) : ∃ p1 y q, pe = .Call (.Name (Str.ofString (pyP1 p.p1)) p1) [y] [] q ∧ isGl sc (Str.ofString (pyP1 p.p1)) = true ∧ chkE T N sc a y = true ∧ plainE y = true := by
  unfold chkE at h
  split at h <;> try (rename_i z; cases z)
  · simp only [Bool.and_eq_true, decide_eq_true_eq] at h
    obtain ⟨⟨⟨rfl, h2⟩, h3⟩, h4⟩ := h
    exact ⟨_, _, _, rfl, h2, h3, h4⟩
  · cases h
theorem zTg {it : Itx} {t : Expr} {tg : Tg} {ok : Str → Bool} (h1 : tupIt it t = true) (h2 : chkTg N ok tg t = true) (hz : isZ it = true) : ∀ i, tg ≠ .one i := by
  cases it with
  | zip a b =>
    cases tg with
    | many is => exact fun i e => by cases e
    | nst j is => exact fun i e => by cases e
    | one i =>
      cases t <;> first | (cases h1; done) | (cases h2; done)
  | _ => cases hz
theorem chk_cons {e : Ex} {es : Exs} {xs : List Expr} (h : chkEs T N sc (.cons e es) xs = true) : ∃ y ys, xs = y :: ys ∧ chkE T N sc e y = true ∧ plainE y = true ∧ chkEs T N sc es ys = true := by
  cases xs with
  | nil => unfold chkEs at h; cases h
  | cons y ys =>
    unfold chkEs at h
    simp only [Bool.and_eq_true] at h
    exact ⟨y, ys, rfl, h.1.1, h.1.2, h.2⟩
theorem chk_nil {xs : List Expr} (h : chkEs T N sc .nil xs = true) : xs = [] := by
  cases xs with
  | nil => rfl
  | cons y ys => unfold chkEs at h; cases h
end

mutual
theorem peS : ∀ (e : Ex) {X : Cx} {W : WX} {sc : Scope} (c : CxOk XT T Γ N X W sc) (pe : Expr), chkE T N sc e pe = true → PE X pe (tW XT X.KF W (evE Γ e))
  | .v i, X, W, sc, c, pe, h => by
    obtain ⟨x, p, rfl, h1, h2⟩ := chk_v h
    exact pe_v c h1 h2
  | .non, X, W, sc, c, pe, h => by
    obtain ⟨k, p, rfl⟩ := chk_non h
    exact pe_cst (d := .non) pe_non (fun _ _ => by unfold evE; rfl) fun _ _ => .non
  | .bl b, X, W, sc, c, pe, h => by
    obtain ⟨k, p, rfl⟩ := chk_bl h
    exact pe_cst (d := .bl b) pe_bl (fun _ _ => by unfold evE; rfl) fun _ _ => .bl b
  | .int b, X, W, sc, c, pe, h => by
    obtain ⟨k, p, rfl⟩ := chk_int h
    exact pe_cst (d := .int b) pe_int (fun _ _ => by unfold evE; rfl) fun _ _ => .int b
  | .str s, X, W, sc, c, pe, h => by
    obtain ⟨k, p, rfl, ho⟩ := chk_str h
    exact pe_cst (d := .str s) pe_str (fun _ _ => by unfold evE; rfl) fun _ _ => .str s ho
  | .g k, X, W, sc, c, pe, h => by
    obtain ⟨x, p, rfl, h1, h2⟩ := chk_g h
    exact pe_gl c h1 h2
  | .bin o a b, X, W, sc, c, pe, h => by
    obtain ⟨x, y, p, rfl, h1, h2⟩ := chk_bin h
    exact pe_bin (peS a c x h1) (peS b c y h2)
  | .neg a, X, W, sc, c, pe, h => by
    obtain ⟨x, p, rfl, h1⟩ := chk_neg h
    exact pe_neg (peS a c x h1)
  | .not a, X, W, sc, c, pe, h => by
    obtain ⟨x, p, rfl, h1⟩ := chk_not h
    exact pe_nott (peS a c x h1)
  | .and es, X, W, sc, c, pe, h => by
    obtain ⟨xs, p, rfl, h1, h2⟩ := chk_and h
    have := andS es c xs p h1 h2
    exact PE.weak this fun σ H Q h => by
      obtain ⟨fo, φ, ρ, st, hs, he, h⟩ := h
      exact ⟨fo, φ, ρ, st, hs, he, by unfold evE at h; exact h⟩
  | .or es, X, W, sc, c, pe, h => by
    obtain ⟨xs, p, rfl, h1, h2⟩ := chk_or h
    have := orS es c xs p h1 h2
    exact PE.weak this fun σ H Q h => by
      obtain ⟨fo, φ, ρ, st, hs, he, h⟩ := h
      exact ⟨fo, φ, ρ, st, hs, he, by unfold evE at h; exact h⟩
  | .cmp o a b, X, W, sc, c, pe, h => by
    obtain ⟨x, y, p, rfl, h1, h2, h3⟩ := chk_cmp h
    exact pe_cmpE c.units (peS a c x h1) (peS b c y h2) h3
  | .cmp2 o o' a b d, X, W, sc, c, pe, h => by
    obtain ⟨x, y, z, p, rfl, h1, h2, h3, h4⟩ := chk_cmp2 h
    exact pe_cmp2E c.units (peS a c x h1) (peS b c y h2) (peS d c z h3) h4
  | .call f es, X, W, sc, c, pe, h => by
    obtain ⟨x, p, xs, q, rfl, h1, h2, h3, h4, h5⟩ := chk_call h
    have ha := paS es c xs h3
    cases es with
    | nil => cases h4
    | cons e es =>
      obtain ⟨y, ys, rfl, k1, k2, k3⟩ := chk_cons h3
      exact pe_callE c h1 h5 h2 ha (plainE_star k2 _ _) (no_star k3)
  | .call0 f, X, W, sc, c, pe, h => by
    obtain ⟨x, p, q, rfl, h1, h2, h5⟩ := chk_call0 h
    exact pe_call0E c h1 h5 h2
  | .p1 p a, X, W, sc, c, pe, h => by
    obtain ⟨p1, y, q, rfl, h1, h2, h3⟩ := chk_p1 h
    exact pe_p1E c h1 (peS a c y h2) h3
  | .lens a, X, W, sc, c, pe, h => by
    obtain ⟨p1, p2, y, q1, q, rfl, h1, h2, h3, h4⟩ := chk_lens h
    exact pe_lensE c h1 h2 (peS a c y h3) h4
  | .ssort a, X, W, sc, c, pe, h => by
    obtain ⟨p1, p2, y, q1, q, rfl, h1, h2, h3, h4⟩ := chk_ssort h
    exact pe_ssortE c h1 h2 (peS a c y h3) h4
  | .find a c i, X, W, sc, cx, pe, h => by
    obtain ⟨x, ap, k, p, y, cp, rfl, h1, h2, h3, h4, h5⟩ := chk_find h
    exact pe_findE (peS a cx x h2) (peS i cx y h3) h4 h5 h1
  | .popi i e, X, W, sc, cx, pe, h => by
    obtain ⟨x, px, ap, y, cp, rfl, h1, h2, h3, h4, h5⟩ := chk_popi h
    exact pe_popiE cx h2 h3 (peS e cx y h4) h5 h1
  | .lrng a, X, W, sc, c, pe, h => by
    obtain ⟨p1, p2, y, q1, q, rfl, h1, h2, h3, h4⟩ := chk_lrng h
    exact PE.weak (pe_lrngF c h1 h2 (peS a c y h3) h4) fun σ H Q h => tW_tF h
  | .isi a t, X, W, sc, c, pe, h => by
    obtain ⟨p1, y, p2, q, rfl, h1, h2, h3, h4⟩ := chk_isi h
    exact pe_isiE c h1 h2 (peS a c y h3) h4
  | .isi2 a t u, X, W, sc, c, pe, h => by
    obtain ⟨p1, y, p2, p3, k, p4, q, rfl, h1, h2, h3, h4, h5⟩ := chk_isi2 h
    exact pe_isi2E c h1 h2 h3 (peS a c y h4) h5
  | .m1 m a b, X, W, sc, c, pe, h => by
    obtain ⟨x, ap, y, cp, rfl, h1, h2, h3, h4, h5⟩ := chk_m1 h
    cases m with
    | join => exact m1_join (peS a c x h2) (peS b c y h3) h4 h5 h1
    | zfill => exact m1_zfill (peS a c x h2) (peS b c y h3) h4 h5 h1
    | split => exact m1_split (peS a c x h2) (peS b c y h3) h4 h5 h1
  | .b2 o a b, X, W, sc, c, pe, h => by
    obtain ⟨p1, y, z, q, rfl, h1, h2, h3, h4, h5⟩ := chk_b2 h
    exact pe_b2E c h1 (peS a c y h2) h3 (peS b c z h4) h5
  | .rev a, X, W, sc, c, pe, h => by
    obtain ⟨x, k, p1, p2, p3, p, rfl, h1⟩ := chk_rev h
    exact pe_revE (peS a c x h1)
  | .ix a i, X, W, sc, c, pe, h => by
    obtain ⟨x, y, p, rfl, h1, h2, h3⟩ := chk_ix h
    exact pe_ixE (peS a c x h1) (peS i c y h2) h3
  | .sl a lo hi, X, W, sc, c, pe, h => by
    obtain ⟨x, l, u, p2, p, rfl, h1, h2, h3⟩ := chk_sl h
    exact pe_slE (peS a c x h1) (poS lo c l h2) (poS hi c u h3)
  | .tup es, X, W, sc, c, pe, h => by
    obtain ⟨xs, k, p, rfl, h1⟩ := chk_tup h
    exact pe_tupE (paS es c xs h1)
  | .lst es, X, W, sc, c, pe, h => by
    obtain ⟨xs, p, rfl, h1⟩ := chk_lst h
    exact PE.weak (pe_lstF (paS es c xs h1)) fun σ H Q h => tW_tF h
  | .lc elt tg it ifs, X, W, sc, c, pe, h => by
    obtain ⟨x, t, i, cs, scope, p, rfl, h1, h2, h3, h4, h5, h6, h7⟩ := chk_lc h
    exact PE.weak (pe_lcF c (zTg h2 h5) (piS it c i t h2 h1) h3 h4 h5 (fun X' c' => ifS ifs c' cs h6) fun X' c' => peS elt c' x h7) fun σ H Q h => tW_tF h
  | .lcz elt tg it ifs, X, W, sc, c, pe, h => by
    obtain ⟨x, t, i, cs, scope, p, rfl, h1, h2, h3, h4, h5, h6, h7⟩ := chk_lcz h
    exact PE.weak (pe_lcF c (zTg h2 h5) (piS it c i t h2 h1) h3 h4 h5 (fun X' c' => ifS ifs c' cs h6) fun X' c' => peS elt c' x h7) fun σ H Q h => tF_lcz (tW_tF h)
  | .dnew, X, W, sc, c, pe, h => by
    obtain ⟨p, rfl⟩ := chk_dnew h
    exact pe_dnewE
  | .dict a, X, W, sc, c, pe, h => by
    obtain ⟨p1, y, q, rfl, h1, h2, h3⟩ := chk_dict h
    exact pe_dictE c h1 (peS a c y h2) h3
  | .dix a k, X, W, sc, c, pe, h => by
    obtain ⟨x, y, p, rfl, h1, h2, h3⟩ := chk_dix h
    exact pe_dixE c.units (peS a c x h1) (peS k c y h2) h3
  | .dget a k d, X, W, sc, c, pe, h => by
    obtain ⟨x, ap, y, z, cp, rfl, h1, h2, h3, h4, h5, h6, h7⟩ := chk_dget h
    exact pe_dgetE c.units (peS a c x h2) (peS k c y h3) (peS d c z h4) h5 h6 h7 h1
  | .pd p a, X, W, sc, c, pe, h => by
    obtain ⟨p1, y, q, rfl, h1, h2, h3⟩ := chk_pd h
    exact pe_pdE c h1 (peS a c y h2) h3
  | .din neg k a, X, W, sc, c, pe, h => by
    obtain ⟨x, y, p, rfl, h1, h2, h3⟩ := chk_din h
    exact PE.weak (pe_cmp (pc_dinE c.units (peS k c x h1) (peS a c y h2)) (plainE_mark h3 _)) fun σ H Q h => tDInN_of h
theorem ptS : ∀ (e : Ex) {X : Cx} {W : WX} {sc : Scope} (c : CxOk XT T Γ N X W sc) (pe : Expr), chkE T N sc e pe = true → PT X pe (tT XT X.KF W (evT Γ e))
  | .not a, X, W, sc, c, pe, h => by
    obtain ⟨x, p, rfl, h1⟩ := chk_not h
    exact pt_nott (ptS a c x h1)
  | .and es, X, W, sc, c, pe, h => by
    obtain ⟨xs, p, rfl, h1, h2⟩ := chk_and h
    exact PT.weak (PW.pt (andT es c xs p h1 h2)) fun σ H Q h => by
      obtain ⟨fo, φ, ρ, st, hs, he, h⟩ := h
      exact ⟨fo, φ, ρ, st, hs, he, by unfold evT evE at h; exact h⟩
  | .or es, X, W, sc, c, pe, h => by
    obtain ⟨xs, p, rfl, h1, h2⟩ := chk_or h
    exact PT.weak (PW.pt (orT es c xs p h1 h2)) fun σ H Q h => by
      obtain ⟨fo, φ, ρ, st, hs, he, h⟩ := h
      exact ⟨fo, φ, ρ, st, hs, he, by unfold evT evE at h; exact h⟩
  | .cmp o a b, X, W, sc, c, pe, h => by
    obtain ⟨x, y, p, rfl, h1, h2, h3⟩ := chk_cmp h
    exact pt_cmpE c.units (peS a c x h1) (peS b c y h2) h3
  | .cmp2 o o' a b d, X, W, sc, c, pe, h => by
    obtain ⟨x, y, z, p, rfl, h1, h2, h3, h4⟩ := chk_cmp2 h
    exact pt_cmp2E c.units (peS a c x h1) (peS b c y h2) (peS d c z h3) h4
  | .v i, X, W, sc, c, pe, h => by
    obtain ⟨x, p, rfl, h1, h2⟩ := chk_v h
    exact pt_of (pe_v c h1 h2) fun _ => rfl
  | .non, X, W, sc, c, pe, h => by
    obtain ⟨k, p, rfl⟩ := chk_non h
    exact pt_of (pe_cst (d := .non) pe_non (fun _ _ => by unfold evE; rfl) fun _ _ => .non) fun _ => rfl
  | .bl b, X, W, sc, c, pe, h => by
    obtain ⟨k, p, rfl⟩ := chk_bl h
    exact pt_of (pe_cst (d := .bl b) pe_bl (fun _ _ => by unfold evE; rfl) fun _ _ => .bl b) fun _ => rfl
  | .int b, X, W, sc, c, pe, h => by
    obtain ⟨k, p, rfl⟩ := chk_int h
    exact pt_of (pe_cst (d := .int b) pe_int (fun _ _ => by unfold evE; rfl) fun _ _ => .int b) fun _ => rfl
  | .str s, X, W, sc, c, pe, h => by
    obtain ⟨k, p, rfl, ho⟩ := chk_str h
    exact pt_of (pe_cst (d := .str s) pe_str (fun _ _ => by unfold evE; rfl) fun _ _ => .str s ho) fun _ => rfl
  | .g k, X, W, sc, c, pe, h => by
    obtain ⟨x, p, rfl, h1, h2⟩ := chk_g h
    exact pt_of (pe_gl c h1 h2) fun _ => rfl
  | .bin o a b, X, W, sc, c, pe, h => by
    obtain ⟨x, y, p, rfl, h1, h2⟩ := chk_bin h
    exact pt_of (pe_bin (peS a c x h1) (peS b c y h2)) fun _ => rfl
  | .neg a, X, W, sc, c, pe, h => by
    obtain ⟨x, p, rfl, h1⟩ := chk_neg h
    exact pt_of (pe_neg (peS a c x h1)) fun _ => rfl
  | .call f es, X, W, sc, c, pe, h => by
    obtain ⟨x, p, xs, q, rfl, h1, h2, h3, h4, h5⟩ := chk_call h
    have ha := paS es c xs h3
    cases es with
    | nil => cases h4
    | cons e es =>
      obtain ⟨y, ys, rfl, k1, k2, k3⟩ := chk_cons h3
      exact pt_of (pe_callE c h1 h5 h2 ha (plainE_star k2 _ _) (no_star k3)) fun _ => rfl
  | .call0 f, X, W, sc, c, pe, h => by
    obtain ⟨x, p, q, rfl, h1, h2, h5⟩ := chk_call0 h
    exact pt_of (pe_call0E c h1 h5 h2) fun _ => rfl
  | .p1 p a, X, W, sc, c, pe, h => by
    obtain ⟨p1, y, q, rfl, h1, h2, h3⟩ := chk_p1 h
    exact pt_of (pe_p1E c h1 (peS a c y h2) h3) fun _ => rfl
  | .lens a, X, W, sc, c, pe, h => by
    obtain ⟨p1, p2, y, q1, q, rfl, h1, h2, h3, h4⟩ := chk_lens h
    exact pt_of (pe_lensE c h1 h2 (peS a c y h3) h4) fun _ => rfl
  | .ssort a, X, W, sc, c, pe, h => by
    obtain ⟨p1, p2, y, q1, q, rfl, h1, h2, h3, h4⟩ := chk_ssort h
    exact pt_of (pe_ssortE c h1 h2 (peS a c y h3) h4) fun _ => rfl
  | .find a c i, X, W, sc, cx, pe, h => by
    obtain ⟨x, ap, k, p, y, cp, rfl, h1, h2, h3, h4, h5⟩ := chk_find h
    exact pt_of (pe_findE (peS a cx x h2) (peS i cx y h3) h4 h5 h1) fun _ => rfl
  | .popi i e, X, W, sc, cx, pe, h => by
    obtain ⟨x, px, ap, y, cp, rfl, h1, h2, h3, h4, h5⟩ := chk_popi h
    exact pt_of (pe_popiE cx h2 h3 (peS e cx y h4) h5 h1) fun _ => rfl
  | .lrng a, X, W, sc, c, pe, h => by
    obtain ⟨p1, p2, y, q1, q, rfl, h1, h2, h3, h4⟩ := chk_lrng h
    exact pt_of (PE.weak (pe_lrngF c h1 h2 (peS a c y h3) h4) fun σ H Q h => tW_tF h) fun _ => rfl
  | .isi a t, X, W, sc, c, pe, h => by
    obtain ⟨p1, y, p2, q, rfl, h1, h2, h3, h4⟩ := chk_isi h
    exact pt_of (pe_isiE c h1 h2 (peS a c y h3) h4) fun _ => rfl
  | .isi2 a t u, X, W, sc, c, pe, h => by
    obtain ⟨p1, y, p2, p3, k, p4, q, rfl, h1, h2, h3, h4, h5⟩ := chk_isi2 h
    exact pt_of (pe_isi2E c h1 h2 h3 (peS a c y h4) h5) fun _ => rfl
  | .m1 m a b, X, W, sc, c, pe, h => by
    obtain ⟨x, ap, y, cp, rfl, h1, h2, h3, h4, h5⟩ := chk_m1 h
    cases m with
    | join => exact pt_of (m1_join (peS a c x h2) (peS b c y h3) h4 h5 h1) fun _ => rfl
    | zfill => exact pt_of (m1_zfill (peS a c x h2) (peS b c y h3) h4 h5 h1) fun _ => rfl
    | split => exact pt_of (m1_split (peS a c x h2) (peS b c y h3) h4 h5 h1) fun _ => rfl
  | .b2 o a b, X, W, sc, c, pe, h => by
    obtain ⟨p1, y, z, q, rfl, h1, h2, h3, h4, h5⟩ := chk_b2 h
    exact pt_of (pe_b2E c h1 (peS a c y h2) h3 (peS b c z h4) h5) fun _ => rfl
  | .rev a, X, W, sc, c, pe, h => by
    obtain ⟨x, k, p1, p2, p3, p, rfl, h1⟩ := chk_rev h
    exact pt_of (pe_revE (peS a c x h1)) fun _ => rfl
  | .ix a i, X, W, sc, c, pe, h => by
    obtain ⟨x, y, p, rfl, h1, h2, h3⟩ := chk_ix h
    exact pt_of (pe_ixE (peS a c x h1) (peS i c y h2) h3) fun _ => rfl
  | .sl a lo hi, X, W, sc, c, pe, h => by
    obtain ⟨x, l, u, p2, p, rfl, h1, h2, h3⟩ := chk_sl h
    exact pt_of (pe_slE (peS a c x h1) (poS lo c l h2) (poS hi c u h3)) fun _ => rfl
  | .tup es, X, W, sc, c, pe, h => by
    obtain ⟨xs, k, p, rfl, h1⟩ := chk_tup h
    exact pt_of (pe_tupE (paS es c xs h1)) fun _ => rfl
  | .lst es, X, W, sc, c, pe, h => by
    obtain ⟨xs, p, rfl, h1⟩ := chk_lst h
    exact pt_of (PE.weak (pe_lstF (paS es c xs h1)) fun σ H Q h => tW_tF h) fun _ => rfl
  | .lc elt tg it ifs, X, W, sc, c, pe, h => by
    obtain ⟨x, t, i, cs, scope, p, rfl, h1, h2, h3, h4, h5, h6, h7⟩ := chk_lc h
    exact pt_of (PE.weak (pe_lcF c (zTg h2 h5) (piS it c i t h2 h1) h3 h4 h5 (fun X' c' => ifS ifs c' cs h6) fun X' c' => peS elt c' x h7) fun σ H Q h => tW_tF h) fun _ => rfl
  | .lcz elt tg it ifs, X, W, sc, c, pe, h => by
    obtain ⟨x, t, i, cs, scope, p, rfl, h1, h2, h3, h4, h5, h6, h7⟩ := chk_lcz h
    exact pt_of (PE.weak (pe_lcF c (zTg h2 h5) (piS it c i t h2 h1) h3 h4 h5 (fun X' c' => ifS ifs c' cs h6) fun X' c' => peS elt c' x h7) fun σ H Q h => tF_lcz (tW_tF h)) fun _ => rfl
  | .dnew, X, W, sc, c, pe, h => by
    obtain ⟨p, rfl⟩ := chk_dnew h
    exact pt_of (pe_dnewE) fun _ => rfl
  | .dict a, X, W, sc, c, pe, h => by
    obtain ⟨p1, y, q, rfl, h1, h2, h3⟩ := chk_dict h
    exact pt_of (pe_dictE c h1 (peS a c y h2) h3) fun _ => rfl
  | .dix a k, X, W, sc, c, pe, h => by
    obtain ⟨x, y, p, rfl, h1, h2, h3⟩ := chk_dix h
    exact pt_of (pe_dixE c.units (peS a c x h1) (peS k c y h2) h3) fun _ => rfl
  | .dget a k d, X, W, sc, c, pe, h => by
    obtain ⟨x, ap, y, z, cp, rfl, h1, h2, h3, h4, h5, h6, h7⟩ := chk_dget h
    exact pt_of (pe_dgetE c.units (peS a c x h2) (peS k c y h3) (peS d c z h4) h5 h6 h7 h1) fun _ => rfl
  | .pd p a, X, W, sc, c, pe, h => by
    obtain ⟨p1, y, q, rfl, h1, h2, h3⟩ := chk_pd h
    exact pt_of (pe_pdE c h1 (peS a c y h2) h3) fun _ => rfl
  | .din neg k a, X, W, sc, c, pe, h => by
    obtain ⟨x, y, p, rfl, h1, h2, h3⟩ := chk_din h
    exact PT.weak (pt_cmp (pc_dinE c.units (peS k c x h1) (peS a c y h2)) (plainE_mark h3 _)) fun σ H Q h => tDInN_of (tW_of_tT blM_din h)
theorem andS : ∀ (es : Exs) {X : Cx} {W : WX} {sc : Scope} (c : CxOk XT T Γ N X W sc) (xs : List Expr) (p : Pos), chkEs T N sc es xs = true → es.isNil = false → PE X (.BoolOp .And xs p) (tW XT X.KF W (evAnd Γ es))
  | .nil, X, W, sc, c, xs, p, h, hn => by cases hn
  | .cons e .nil, X, W, sc, c, xs, p, h, hn => by
    obtain ⟨y, ys, rfl, k1, k2, k3⟩ := chk_cons h
    cases chk_nil k3
    rw [evAnd_one]
    exact pe_one (peS e c y k1)
  | .cons e (.cons e2 r), X, W, sc, c, xs, p, h, hn => by
    obtain ⟨y, ys, rfl, k1, k2, k3⟩ := chk_cons h
    have := andS (.cons e2 r) c ys p k3 rfl
    obtain ⟨y2, ys, rfl, _⟩ := chk_cons k3
    exact pe_andE (peS e c y k1) this
theorem orS : ∀ (es : Exs) {X : Cx} {W : WX} {sc : Scope} (c : CxOk XT T Γ N X W sc) (xs : List Expr) (p : Pos), chkEs T N sc es xs = true → es.isNil = false → PE X (.BoolOp .Or xs p) (tW XT X.KF W (evOr Γ es))
  | .nil, X, W, sc, c, xs, p, h, hn => by cases hn
  | .cons e .nil, X, W, sc, c, xs, p, h, hn => by
    obtain ⟨y, ys, rfl, k1, k2, k3⟩ := chk_cons h
    cases chk_nil k3
    rw [evOr_one]
    exact pe_one (peS e c y k1)
  | .cons e (.cons e2 r), X, W, sc, c, xs, p, h, hn => by
    obtain ⟨y, ys, rfl, k1, k2, k3⟩ := chk_cons h
    have := orS (.cons e2 r) c ys p k3 rfl
    obtain ⟨y2, ys, rfl, _⟩ := chk_cons k3
    exact pe_orE (peS e c y k1) this
theorem andT : ∀ (es : Exs) {X : Cx} {W : WX} {sc : Scope} (c : CxOk XT T Γ N X W sc) (xs : List Expr) (p : Pos), chkEs T N sc es xs = true → es.isNil = false → PW X (.BoolOp .And xs p) (tT XT X.KF W (evTAnd Γ es))
  | .nil, X, W, sc, c, xs, p, h, hn => by cases hn
  | .cons e .nil, X, W, sc, c, xs, p, h, hn => by
    obtain ⟨y, ys, rfl, k1, k2, k3⟩ := chk_cons h
    cases chk_nil k3
    have e1 : evTAnd Γ (.cons e .nil) = evT Γ e := by funext ρ st; unfold evTAnd evT; rw [evAnd_one]
    rw [e1]
    exact pw_one (ptS e c y k1)
  | .cons e (.cons e2 r), X, W, sc, c, xs, p, h, hn => by
    obtain ⟨y, ys, rfl, k1, k2, k3⟩ := chk_cons h
    have := andT (.cons e2 r) c ys p k3 rfl
    obtain ⟨y2, ys, rfl, _⟩ := chk_cons k3
    exact pw_andE (ptS e c y k1) this
theorem orT : ∀ (es : Exs) {X : Cx} {W : WX} {sc : Scope} (c : CxOk XT T Γ N X W sc) (xs : List Expr) (p : Pos), chkEs T N sc es xs = true → es.isNil = false → PW X (.BoolOp .Or xs p) (tT XT X.KF W (evTOr Γ es))
  | .nil, X, W, sc, c, xs, p, h, hn => by cases hn
  | .cons e .nil, X, W, sc, c, xs, p, h, hn => by
    obtain ⟨y, ys, rfl, k1, k2, k3⟩ := chk_cons h
    cases chk_nil k3
    have e1 : evTOr Γ (.cons e .nil) = evT Γ e := by funext ρ st; unfold evTOr evT; rw [evOr_one]
    rw [e1]
    exact pw_one (ptS e c y k1)
  | .cons e (.cons e2 r), X, W, sc, c, xs, p, h, hn => by
    obtain ⟨y, ys, rfl, k1, k2, k3⟩ := chk_cons h
    have := orT (.cons e2 r) c ys p k3 rfl
    obtain ⟨y2, ys, rfl, _⟩ := chk_cons k3
    exact pw_orE (ptS e c y k1) this
theorem ifS : ∀ (es : Exs) {X : Cx} {W : WX} {sc : Scope} (c : CxOk XT T Γ N X W sc) (cs : List Expr), chkEs T N sc es cs = true → ∃ tt, PTs X cs tt ∧ ∀ σ H Q, tT XT X.KF W (evIfs Γ es) σ H Q → tt σ H Q
  | .nil, X, W, sc, c, cs, h => by
    cases chk_nil h
    exact pts_E (fun e x e1 => by cases e1) (.inl ⟨rfl, rfl⟩)
  | .cons e .nil, X, W, sc, c, cs, h => by
    obtain ⟨y, ys, rfl, k1, k2, k3⟩ := chk_cons h
    cases chk_nil k3
    have := ptS e c y k1
    exact pts_E (fun e' x e1 e2 => by cases e1; cases e2; exact this) (.inr (.inl ⟨e, y, rfl, rfl⟩))
  | .cons e (.cons e2 r), X, W, sc, c, cs, h => pts_E (fun e' x e1 => by cases e1) (.inr (.inr ⟨e, e2, r, rfl⟩))
theorem paS : ∀ (es : Exs) {X : Cx} {W : WX} {sc : Scope} (c : CxOk XT T Γ N X W sc) (xs : List Expr), chkEs T N sc es xs = true → PA X xs (tL XT X.KF W (evEs Γ es))
  | .nil, X, W, sc, c, xs, h => by
    cases chk_nil h
    exact pa_nilE
  | .cons e es, X, W, sc, c, xs, h => by
    obtain ⟨y, ys, rfl, k1, k2, k3⟩ := chk_cons h
    exact pa_consE (peS e c y k1) (paS es c ys k3) k2
theorem poS : ∀ (o : Exo) {X : Cx} {W : WX} {sc : Scope} (c : CxOk XT T Γ N X W sc) (x : Option Expr), chkO T N sc o x = true → PO X x (tO XT X.KF W (evO Γ o))
  | .no, X, W, sc, c, x, h => by
    cases x with
    | none => exact po_no
    | some y => unfold chkO at h; cases h
  | .yes e, X, W, sc, c, x, h => by
    cases x with
    | none => unfold chkO at h; cases h
    | some y =>
      unfold chkO at h
      exact po_yes (peS e c y h)
theorem piS : ∀ (it : Itx) {X : Cx} {W : WX} {sc : Scope} (c : CxOk XT T Γ N X W sc) (x t : Expr), tupIt it t = true → chkI T N sc it x = true → PI X t x (tI XT X.KF W (isZ it) (evI Γ it))
  | .seq e, X, W, sc, c, x, t, ht, h => by
    unfold chkI at h
    exact pi_seq (peS e c x h)
  | .rng1 e, X, W, sc, c, x, t, ht, h => by
    unfold chkI at h
    split at h <;> try (rename_i z; cases z)
    · simp only [Bool.and_eq_true, decide_eq_true_eq] at h
      obtain ⟨⟨⟨h1, h2⟩, h3⟩, h4⟩ := h
      subst h1
      exact pi_rng1 c h2 (peS e c _ h3) h4
    · cases h
  | .rng2 a b, X, W, sc, c, x, t, ht, h => by
    unfold chkI at h
    split at h <;> try (rename_i z; cases z)
    · simp only [Bool.and_eq_true, decide_eq_true_eq] at h
      obtain ⟨⟨⟨⟨⟨h1, h2⟩, h3⟩, h4⟩, h5⟩, h6⟩ := h
      subst h1
      exact pi_rng2 c h2 (peS a c _ h3) h4 (peS b c _ h5) h6
    · cases h
  | .enm e, X, W, sc, c, x, t, ht, h => by
    unfold chkI at h
    split at h <;> try (rename_i z; cases z)
    · simp only [Bool.and_eq_true, decide_eq_true_eq] at h
      obtain ⟨⟨⟨h1, h2⟩, h3⟩, h4⟩ := h
      subst h1
      cases t with
      | Tuple es k p => exact pi_enm c h2 (peS e c _ h3) h4
      | _ => cases ht
    · cases h
  | .zip a b, X, W, sc, c, x, t, ht, h => by
    unfold chkI at h
    split at h <;> try (rename_i z; cases z)
    · simp only [Bool.and_eq_true, decide_eq_true_eq] at h
      obtain ⟨⟨⟨⟨⟨h1, h2⟩, h3⟩, h4⟩, h5⟩, h6⟩ := h
      subst h1
      cases t with
      | Tuple es k p => exact pi_zipE c h2 (peS a c _ h3) h4 (peS b c _ h5) h6
      | _ => cases ht
    · cases h
end
theorem lcS (elt : Ex) (tg : Tg) (it : Itx) (ifs : Exs) {X : Cx} {W : WX} {sc : Scope} (c : CxOk XT T Γ N X W sc) (pe : Expr) (h : chkE T N sc (.lc elt tg it ifs) pe = true) : PE X pe (tF XT X.KF W (evE Γ (.lc elt tg it ifs))) := by
  obtain ⟨x, t, i, cs, scope, p, rfl, h1, h2, h3, h4, h5, h6, h7⟩ := chk_lc h
  exact pe_lcF c (zTg h2 h5) (piS it c i t h2 h1) h3 h4 h5 (fun X' c' => ifS ifs c' cs h6) fun X' c' => peS elt c' x h7
end
end PB

set_option Elab.async false
set_option linter.all false
set_option maxRecDepth 100000
set_option maxHeartbeats 4000000
set_option backward.match.sparseCases false
/-! Statements keep their meaning. -/
namespace PB
open PySem PySem.Spec PyProof.Rows L2

def isLC : Expr → Bool
  | .ListComp _ _ _ _ => true
  | .SetComp _ _ _ _ => true
  | .DictComp _ _ _ _ _ => true
  | _ => false
/-- a comprehension's list goes straight to the name -/
def swB (sc : Scope) (x : Str) (px : Pos) : Expr → Bool
  | .ListComp _ _ scope pos => (match sc.names.lookup x with | some .local => true | _ => false) && (px.line == pos.line) && !(scope.names.any fun (n, k) => n == x && (k == .local || k == .cell))
  | _ => false
def freshE : Ex → Bool
  | .lst _ => true
  | .lc _ _ _ _ => true
  | .lcz _ _ _ _ => true
  | .lrng _ => true
  | _ => false
/-- what makes a new list -/
def freshX : Ex → Bool
  | .p1 .list _ => true
  | .bin .add _ _ => true
  | e => freshE e
/-- what makes a new dict -/
def freshD : Ex → Bool
  | .dnew => true
  | .dict _ => true
  | _ => false
set_option backward.match.sparseCases true
/-- what is asked of the exception at the name n -/
def chkX (T : Tb) (sc : Scope) (n : Str) : Xe → Expr → Bool
  | .isi none, .Call (.Name x _) [.Name y _, .Name z _] [] _ => decide (x = "isinstance") && isGl sc x && decide (y = n) && decide (z = "ValueError") && isGl sc z
  | .isi (some k), .Call (.Name x _) [.Name y _, .Name z _] [] _ => decide (x = "isinstance") && isGl sc x && decide (y = n) && decide ((T.xcs[k]?).map Prod.fst = some z) && isGl sc z
  | .not a, .UnaryOp .Not e _ => chkX T sc n a e
  | .and a b, .BoolOp .And [e, f] _ => chkX T sc n a e && chkX T sc n b f
  | .or a b, .BoolOp .Or [e, f] _ => chkX T sc n a e && chkX T sc n b f
  | _, _ => false
/-- what a suite tells; c: the class of its clause -/
def chkV (T : Tb) (sc : Scope) (n : Str) (c : Nat) : Xv → Expr → Bool
  | .b x, e => chkX T sc n x e
  | .fld j, .Attribute (.Name y _) f _ => decide (y = n) && decide (c ≠ 0) && decide (c ∈ T.xfs) && decide ((T.xcs[c]?).bind (fun p => p.2[j]?) = some f) && (match T.xcs[c]? with | some p => decide p.2.Nodup | none => false)
  | .str s, .Constant (.str x) _ _ => decide (x = toS s) && decide (s.length ≤ lim) && s.all (fun c => decide (c < 1114112))
  | .non, .Constant .none _ _ => true
  | _, _ => false
set_option backward.match.sparseCases false
def chkXs (T : Tb) (sc : Scope) (n : Str) (c : Nat) : List Xv → List Expr → Bool
  | [], [] => true
  | x :: xs, e :: es => chkV T sc n c x e && plainE e && chkXs T sc n c xs es
  | _, _ => false
/-- .. the value that the suite stores -/
def chkXS (T : Tb) (sc : Scope) (n : Str) (c : Nat) : Xs → Expr → Bool
  | .one x, e => chkV T sc n c x e && !isLC e
  | .many xs, .Tuple es _ _ => chkXs T sc n c xs es
  | .sel s t x, .Subscript (.Tuple [.Constant (.str s') _ _, .Constant (.str t') _ _] _ _) (.Call (.Name y _) [e] [] _) _ => decide (s' = toS s) && decide (t' = toS t) && decide (s.length ≤ lim) && s.all (fun c => decide (c < 1114112)) && decide (t.length ≤ lim) && t.all (fun c => decide (c < 1114112)) && decide (y = "int") && isGl sc y && chkX T sc n x e && plainE e
  | _, _ => false
/-- a value that asks nothing of the exception -/
def cstV : Xv → Bool
  | .str _ => true
  | .non => true
  | _ => false
/-- a target is a cell -/
def cellT (sc : Scope) (ts : List Expr) : Bool := ts.any fun t => match t with
  | .Name x _ => (match sc.names.lookup x with | some .cell => true | _ => false)
  | _ => false
theorem swapped_cell {env : PySem.Env} {ts vs : List Expr} {k k2 : _} {p p2 : Pos} (h : cellT env.scope ts = true) : swappedStores [.Tuple ts k p] (.Tuple vs k2 p2) env = pure none := by
  unfold swappedStores
  dsimp only
  split
  · rfl
  · split
    · rfl
    · rw [if_pos]
      rw [Bool.or_eq_true]
      left
      rw [bne_iff_ne]
      intro z
      rw [List.filterMap_length_eq_length] at z
      unfold cellT at h
      obtain ⟨t, ht, hx⟩ := List.any_eq_true.mp h
      have z2 := z t ht
      cases t with
      | Name x px =>
        dsimp only at hx z2
        have e : env.kindOf x = some .cell := by
          show env.scope.names.lookup x = _
          split at hx
          · assumption
          · cases hx
        rw [e] at z2
        simp at z2
      | _ => cases hx
def isName : Expr → Bool
  | .Name z _ => !(z == ("__debug__" : Str))
  | _ => false
def isLoc (sc : Scope) (x : Str) : Bool := match sc.names.lookup x with
  | some .local => true
  | _ => false
/-- a call without arguments may be walked, too -/
def walkE : Expr → Bool
  | .Call _ [] _ _ => true
  | e => plainE e
theorem walkE_set {e : Expr} (h : walkE e = true) (env : PySem.Env) (x : Value) : foldedSetIterable e env x = pure x := by
  cases e <;> first | rfl | (unfold walkE at h; exact plainE_set h env x)
mutual
/-- bodies of a try: no name is set ahead of what may raise -/
def simS : Sm → Bool
  | .expr _ => true
  | .set _ (.call _ _) => true
  | .unp _ (.call _ _) => true
  | .ife _ a b => simSs a && simSs b
  | _ => false
def simSs : Sms → Bool
  | .nil => true
  | .cons s r => simS s && (match r with | .nil => true | _ => false)
end
set_option backward.match.sparseCases true
mutual
def chkS (T : Tb) (N : List Str) (sc : Scope) : Sm → Stmt → Bool
  | .set i e, .Assign [.Name x px] y _ => decide (N[i]? = some x) && isTg sc (fun _ => true) x && chkE T N sc e y
  | .setL i e, .Assign [.Name x px] y _ => decide (N[i]? = some x) && isTg sc (fun _ => true) x && chkE T N sc e y && (freshX e || freshD e)
  | .unp is e, .Assign [.Tuple ts k p] y _ => chkTgs N (isTg sc fun _ => true) is ts && chkE T N sc e y && (!isTuple y || cellT sc ts)
  | .ret e, .Return (some y) _ => chkE T N sc e y
  | .ife c a b, .If y u v _ => chkE T N sc c y && chkSs T N sc a u && chkSs T N sc b v
  | .forS tg it b, .For t y u [] _ => chkI T N sc it y && tupIt it t && walkE y && chkTg N (isTg sc fun _ => true) tg t && chkSs T N sc b u
  | .whl c b, .While y u [] _ => chkE T N sc c y && chkSs T N sc b u
  | .app i e, .Expr (.Call (.Attribute (.Name x px) n ap) [y] [] cp) _ => decide (n = "append") && (ap.endLine == cp.line) && decide (N[i]? = some x) && isVis sc x && chkE T N sc e y && plainE y
  | .ext i e, .Expr (.Call (.Attribute (.Name x px) n ap) [y] [] cp) _ => decide (n = "extend") && (ap.endLine == cp.line) && decide (N[i]? = some x) && isVis sc x && chkE T N sc e y && plainE y
  | .put i k e, .Assign [.Subscript (.Name x _) y _] z _ => decide (N[i]? = some x) && isVis sc x && chkE T N sc k y && chkE T N sc e z && !isLC z && plainE y
  | .popd i k, .Expr (.Call (.Attribute (.Name x px) n ap) [y] [] cp) _ => decide (n = "pop") && (ap.endLine == cp.line) && decide (N[i]? = some x) && isVis sc x && chkE T N sc k y && plainE y
  | .expr e, .Expr y _ => chkE T N sc e y && !isLC y
  | .brk, .Break _ => true
  | .cnt, .Continue _ => true
  | .pass, .Pass _ => true
  | .never, _ => true
  | .tryN c b, .Try u [.ExceptHandler (some (.Name x _)) none (_ :: _) _] [] [] _ => decide (T.xcs[c]? = some (x, [])) && isGl sc x && simSs b && !T.nn && chkSs T N sc b u
  | .tryX c b i j xs, .Try u [.ExceptHandler (some (.Name x _)) (some n) [.Assign [.Name y _] e _] _] [] [] _ => decide ((T.xcs[c]?).map Prod.fst = some x) && isGl sc x && decide (N[i]? = some n) && (match sc.names.lookup n with | some .local => true | _ => false) && isVis sc n &&
      decide (N[j]? = some y) && isTg sc (fun _ => true) y && simSs b && chkSs T N sc b u && chkXS T sc n c xs e && !T.nn
  | .tryV c b j v, .Try u [.ExceptHandler (some (.Name x _)) none [.Assign [.Name y _] e _] _] [] [] _ => decide ((T.xcs[c]?).map Prod.fst = some x) && isGl sc x && decide (N[j]? = some y) && isTg sc (fun _ => true) y && simSs b && chkSs T N sc b u && chkV T sc y c v e && cstV v && !T.nn
  | .raiF c es, .Raise (some (.Call (.Name x _) xs [] _)) none _ => decide (c ∈ T.xfs) && decide ((T.xcs[c]?).map (fun p => (p.1, p.2.length)) = some (x, es.len)) && isGl sc x && chkEs T N sc es xs && !es.isNil && !T.nn && decide (es.len ≤ 1000)
  | .par i j a b, .Assign [.Tuple [.Name x px, .Name y py] _ _] (.Tuple [u, v] _ _) _ => decide (N[i]? = some x) && decide (N[j]? = some y) && decide (i ≠ j) && isLoc sc x && isLoc sc y && decide (x ≠ y) && (px.line == py.line) && chkE T N sc a u && chkE T N sc b v && isName u && plainE v
  | .tryR c k b, .Try u [.ExceptHandler (some (.Name x _)) none [.Raise (some (.Call (.Name y _) [.Constant (.str m) _ _] [] _)) (some (.Constant .none _ _)) _] _] [] [] _ =>
      !T.nn && decide (T.xcs[c]? = some (x, [])) && isGl sc x && decide (T.xcs[k]? = some (y, [])) && isGl sc y && simSs b && chkSs { T with nn := true } N sc b u
  | .rai c, .Raise (some (.Call (.Name x _) [.Constant (.str m) _ _] [] _)) none _ => decide (T.xcs[c]? = some (x, [])) && isGl sc x
  | _, _ => false
def chkSs (T : Tb) (N : List Str) (sc : Scope) : Sms → List Stmt → Bool
  | .nil, [] => true
  | .cons s r, x :: xs => chkS T N sc s x && chkSs T N sc r xs
  | _, _ => false
end
set_option backward.match.sparseCases false

/-- what is wanted behind a statement -/
def FlP (K : KF) (fo : List Addr) (D : Ends) (p : Fl × Ev) (φ : List Addr) (H : Hp) : Prop := ∀ σ, EnvOk K fo φ H p.2 σ → match p.1 with
  | .nx => D.nx σ H
  | .bk => D.bk σ H
  | .ct => D.ct σ H
  | .rt w => ∀ v, RepW K fo φ H w v → D.rt v H
/-- the wish about exceptions, whatever the slots -/
abbrev WEE (E : XK) : WX := fun cls d _ H => E cls d H
def tS (XT : Xt) (K : KF) (E : XK) (m : Ev → Sr → Rs Sx) : TS := fun D σ H => ∃ fo φ ρ st, Sok K fo φ H st ∧ EnvOk K fo φ H ρ σ ∧
  Go K (xwOf XT K (WEE E) σ fo) fo φ H (m ρ st) (fun p _ φ' H' => FlP K fo D p φ' H')

/-- a fresh list's reading, that it is a list is known -/
def tG (XT : Xt) (K : KF) (W : WX) (m : Ev → Sr → Rs (Wv × Sr)) : TE := fun σ H Q => ∃ fo φ ρ st, Sok K fo φ H st ∧ EnvOk K fo φ H ρ σ ∧
  Go K (xwOf XT K W σ fo) fo φ H (m ρ st) (fun w st' φ' H' => ∃ xs, w = .d (.lst xs) ∧ ∀ vs p, H' p = none → RepL K (fo ++ φ') H' xs vs → Q (.ref p) (upd H' p (.lst vs)))
def OpSG (K : KF) (f : Dt → Dt → Option Dt) (r : R2) : Prop := ∀ (av : List Addr) (H : Hp) (x y : Dt) (zs : List Dt) (v u : V) (Q : VK), (∀ a ∈ av, ∃ o, H a = some o) → VRep K av H x v → VRep K av H y u → f x y = some (.lst zs) →
  (∀ vs p, H p = none → RepL K av H zs vs → Q (.ref p) (upd H p (.lst vs))) → r v u H Q
def UnSG (K : KF) (f : Dt → Option Dt) (r : V → Hp → VK → Prop) : Prop := ∀ (av : List Addr) (H : Hp) (x : Dt) (zs : List Dt) (v : V) (Q : VK), (∀ a ∈ av, ∃ o, H a = some o) → VRep K av H x v → f x = some (.lst zs) →
  (∀ vs p, H p = none → RepL K av H zs vs → Q (.ref p) (upd H p (.lst vs))) → r v H Q
section
variable {XT : Xt} {K : KF} {W : WX} {σ : L2.St} {H : Hp} {Q : VK} {m : Ev → Sr → Rs (Wv × Sr)} {m' : Ev → Sr → Rs (Wv × Sr)}
theorem tG_tF (h : tG XT K W m σ H Q) : tF XT K W m σ H Q := by
  obtain ⟨fo, φ, ρ, st, hs, he, h⟩ := h
  refine ⟨fo, φ, ρ, st, hs, he, h.imp fun w st1 φ1 H1 s1 q1 h1 xs' vs p e' hp r => ?_⟩
  obtain ⟨xs, e, h1⟩ := h1
  subst e
  cases e'
  exact h1 vs p hp r
theorem tG_op1 {f : Dt → Option Dt} {r : V → Hp → VK → Prop} (hr : UnSG K f r) (h : tG XT K W (fun ρ st => (m ρ st).bind (op1 f)) σ H Q) : tW XT K W m σ H (fun x H1 => r x H1 Q) := by
  obtain ⟨fo, φ, ρ, st, hs, he, h⟩ := h
  refine ⟨fo, φ, ρ, st, hs, he, (Go.of_bind h).imp fun w st1 φ1 H1 s1 q1 h1 v rv => ?_⟩
  unfold op1 at h1
  simp only at h1
  cases e1 : viewW st1 w with
  | none => rw [e1] at h1; exact h1.elim
  | some x =>
    rw [e1] at h1
    cases e2 : f x with
    | none => simp only [Option.bind_some, e2] at h1; exact h1.elim
    | some z =>
      simp only [Option.bind_some, e2] at h1
      obtain ⟨zs, ez, h3⟩ := Go.run h1 q1
      cases ez
      exact hr (fo ++ φ1) H1 x zs v Q q1.trk (view_of q1 rv e1) e2 fun vs p hp r => h3 vs p hp r
theorem tG_op2 {f : Dt → Dt → Option Dt} {r : R2} (hr : OpSG K f r) (h : tG XT K W (fun ρ st => (m ρ st).bind fun p => (m' ρ p.2).bind fun q => op2 f p.1 q) σ H Q) : tOp r (tW XT K W m) (tW XT K W m') σ H Q := by
  obtain ⟨fo, φ, ρ, st, hs, he, h⟩ := h
  refine ⟨fo, φ, ρ, st, hs, he, (Go.of_bind h).imp fun w st1 φ1 H1 s1 q1 h1 v rv => ?_⟩
  refine ⟨fo, φ1, ρ, st1, q1, he.step s1, (Go.of_bind h1).imp fun w2 st2 φ2 H2 s2 q2 h2 v2 rv2 => ?_⟩
  unfold op2 at h2
  simp only at h2
  cases e1 : viewW st2 w with
  | none => rw [e1] at h2; exact h2.elim
  | some x =>
    cases e2 : viewW st2 w2 with
    | none => simp only [e1, e2, Option.bind_some] at h2; exact h2.elim
    | some y =>
      cases e3 : f x y with
      | none => simp only [e1, e2, e3, Option.bind_some] at h2; exact h2.elim
      | some z =>
        simp only [e1, e2, e3, Option.bind_some] at h2
        obtain ⟨zs, ez, h3⟩ := Go.run h2 q2
        cases ez
        exact hr (fo ++ φ2) H2 x y zs v v2 Q q2.trk (view_of q2 (rv.step s2) e1) (view_of q2 rv2 e2) e3 fun vs p hp r => h3 vs p hp r
theorem opsG_add : OpSG K (bopD .add) (rBop K .add) := by
  intro av H x y zs v u Q ht hx hy e q
  unfold bopD at e
  split at e <;> try (cases e; done)
  · split at e <;> cases e
  · split at e <;> cases e
  · split at e
    · rename_i hl
      cases e
      obtain ⟨a, vs, rfl, ha, ra⟩ := vlst hx
      obtain ⟨b, us, rfl, hb, rb⟩ := vlst hy
      exact .inr (.inr (.inr ⟨a, b, vs, us, rfl, rfl, ha, hb, by rw [← ra.length, ← rb.length, ← lim_eq]; exact hl, fun p hp => q _ p hp (ra.append rb)⟩))
    · cases e
  all_goals (rename_i h1; cases h1)
theorem unsG_list : UnSG K (p1D .list) (fun v H Q => rP1 K .list [v] H Q) := by
  intro av H x zs v Q ht hx e q
  cases x with
  | lst xs =>
    cases e
    obtain ⟨a, vs, rfl, ha, ra⟩ := vlst hx
    exact ⟨a, vs, rfl, .inl (.inl ha), fun l hl => q _ l hl ra⟩
  | tup xs =>
    cases e
    obtain ⟨a, vs, rfl, ha, ra⟩ := vtup hx
    exact ⟨a, vs, rfl, .inr ha, fun l hl => q _ l hl ra⟩
  | _ => cases e
end
section
variable {XT : Xt} {T : Tb} {Γ : Gam} {N : List Str} {X : Cx} {E : XK} {sc : Scope} {K : KF} {σ : L2.St} {H : Hp}
theorem PS.weak {s : Stmt} {t t' : TS} (h : PS X s t) (f : ∀ D σ H, t' D σ H → t D σ H) : PS X s t' := ⟨fun pins s σ H D I q => h.run pins s σ H D I (f D σ H q)⟩
theorem PSs.weak {s : List Stmt} {t t' : TS} (h : PSs X s t) (f : ∀ D σ H, t' D σ H → t D σ H) : PSs X s t' := ⟨fun pins s σ H D I q => h.run pins s σ H D I (f D σ H q)⟩
structure SxOk (XT : Xt) (T : Tb) (Γ : Gam) (N : List Str) (X : Cx) (E : XK) (sc : Scope) : Prop where
  cx : CxOk XT T Γ N X (WEE E) sc
  kind : sc.kind = .function
  fn : ∀ x, X.fn x = true
  own : PassesOwn (model X.prog X.w) X.A X.env X.xe
  stk : X.stack = X.env :: X.outer
  frm : X.env.frame = some X.env.locals
  ownAt : ∀ hd : Option Value, PassesOwnAt (model X.prog X.w) (X.A.mark hd) X.A X.env X.xe
theorem swaps_no {e : Expr} (h : isLC e = false) (t : Option Expr) (l : Nat) (env : PySem.Env) : swapsWith e t l env = pure false := by
  cases e <;> first | rfl | cases h
theorem swaps_lc {sc : Scope} {x : Str} {px : Pos} {e : Expr} {l : Nat} {env : PySem.Env} (hs : env.scope = sc) (h : swB sc x px e = false) (h0 : (∃ a b c d, e = .ListComp a b c d) ∨ isLC e = false) : swapsWith e (some (.Name x px)) l env = pure false := by
  cases e with
  | ListComp elt gs scope pos =>
    unfold swB at h
    unfold swapsWith
    subst hs
    show pure (_ && _ && _ && _) = pure false
    congr 1
    have hk : env.kindOf x = env.scope.names.lookup x := rfl
    rw [hk]
    cases hl : env.scope.names.lookup x with
    | none => simp
    | some k =>
      rw [hl] at h
      cases k with
      | «local» =>
        simp only [Bool.true_and] at h
        simp only [beq_self_eq_true, Bool.and_true, Expr.pos]
        rw [Bool.and_assoc, h, Bool.and_false]
      | _ => simp
  | SetComp a b c d => rcases h0 with ⟨_, _, _, _, z⟩ | z <;> cases z
  | DictComp a b c d f => rcases h0 with ⟨_, _, _, _, z⟩ | z <;> cases z
  | _ => rfl
/-! #### names stored -/
theorem chk_isLC {e : Ex} {y : Expr} (h : chkE T N sc e y = true) : (∃ a b c d, y = .ListComp a b c d) ∨ isLC y = false := by
  cases y with
  | ListComp a b c d => exact .inl ⟨a, b, c, d, rfl⟩
  | SetComp a b c d =>
    exfalso
    unfold chkE at h
    split at h <;> rename_i z <;> first | (cases z; done) | skip
    all_goals (first | cases h | (rename_i z2; cases z2))
  | DictComp a b c d f =>
    exfalso
    unfold chkE at h
    split at h <;> rename_i z <;> first | (cases z; done) | skip
    all_goals (first | cases h | (rename_i z2; cases z2))
  | _ => exact .inr rfl
theorem swB_inv {x : Str} {px pos : Pos} {elt : Expr} {gs : List Comprehension} {scope : Scope} {l : Nat} {env : PySem.Env} (hs : env.scope = sc) (hk : sc.kind = .function) (h : swB sc x px (.ListComp elt gs scope pos) = true) :
    env.scope.names.lookup x = some .local ∧ swapsWith (.ListComp elt gs scope pos) (some (.Name x px)) l env = pure true := by
  unfold swB at h
  simp only [Bool.and_eq_true] at h
  obtain ⟨⟨h1, h2⟩, h3⟩ := h
  subst hs
  have h1' : env.scope.names.lookup x = some .local := by
    split at h1
    · assumption
    · cases h1
  exact ⟨h1', sw_true hk h1' h2 (by simpa using h3)⟩
/-- name = [..] straight to the name -/
theorem ps_setLcF {W : WX} {i0 : Nat} {y : Str} {py spos : Pos} {elt : Ex} {tg : Tg} {it : Itx} {ifs : Exs} {x t i : Expr} {cs : List Expr} {scope : Scope} {pos : Pos} (c : CxOk XT T Γ N X W sc) (hN : N[i0]? = some y) (hyl : X.env.scope.names.lookup y = some .local)
    (hsw : swapsWith (.ListComp x [⟨t, i, cs, 0⟩] scope pos) (some (.Name y py)) spos.line X.env = pure true) (hz : isZ it = true → ∀ i, tg ≠ .one i) (hi : PI X t i (tI XT X.KF W (isZ it) (evI Γ it))) (hb : blkC N sc scope (ownOf tg t) = true) (hp : plainE i = true)
    (ht : chkTg N (isTg (relS scope sc) fun x => scope.names.lookup x == some .cell) tg t = true)
    (hif : ∀ (X' : Cx), CxOk XT T Γ N X' W0 (relS scope sc) → ∃ tt, PTs X' cs tt ∧ ∀ σ H Q, tT XT X'.KF W0 (evIfs Γ ifs) σ H Q → tt σ H Q)
    (he : ∀ (X' : Cx), CxOk XT T Γ N X' W0 (relS scope sc) → PE X' x (tW XT X'.KF W0 (evE Γ elt))) :
    PS X (.Assign [.Name y py] (.ListComp x [⟨t, i, cs, 0⟩] scope pos) spos) (tAsg (tF XT X.KF W (evE Γ (.lc elt tg it ifs))) (gName i0)) := by
  have hg : ∀ (s : Shared) (H : Hp) (C : Addr) (cl : List (Str × Addr)) (fp : List Addr), PG (X.blk s H scope (compEnvC scope cl C X.env) fp) t (gTg X.KF tg) := fun s H C cl fp =>
    pg_tg (X := X.blk s H scope (compEnvC scope cl C X.env) fp) (N := N) (sc := relS scope sc) (cell := fun x => scope.names.lookup x == some .cell) c.n c.nd (c.blk s H C cl fp scope).scope (fun x h => h) c.calm ht
  have hif' : ∀ (s : Shared) (H : Hp) (C : Addr) (cl : List (Str × Addr)) (fp : List Addr), PTs (X.blk s H scope (compEnvC scope cl C X.env) fp) cs (tT XT X.KF W0 (evIfs Γ ifs)) := fun s H C cl fp => by
    obtain ⟨tt, h1, h2⟩ := hif (X.blk s H scope (compEnvC scope cl C X.env) fp) (c.blk s H C cl fp scope)
    exact ⟨fun pins s σ H Q I q => h1.run pins s σ H Q I (h2 σ H Q q)⟩
  have he' : ∀ (s : Shared) (H : Hp) (C : Addr) (cl : List (Str × Addr)) (fp : List Addr), PE (X.blk s H scope (compEnvC scope cl C X.env) fp) x (tW XT X.KF W0 (evE Γ elt)) := fun s H C cl fp => he _ (c.blk s H C cl fp scope)
  have ok : BlkOk X.N X.env.scope scope (ownOf tg t) := by
    rw [c.n, c.scope]
    exact blkOk_by hb
  refine PS.weak (ps_setLc (i := i0) c.calm c.nd (by rw [c.n]; exact hN) hyl hsw hi ok hg hif' he' (plainE_set hp _)) fun D σ H h => ?_
  show tLc _ _ _ _ _ σ H _
  rw [ownOf_slots ht]
  refine lc_read (z := isZ it) (it := evI Γ it) (ifs := evIfs Γ ifs) (elt := evE Γ elt) hz ?_
  obtain ⟨fo, φ, ρ, st, hs, he, h⟩ := h
  refine ⟨fo, φ, ρ, st, hs, he, ?_⟩
  unfold evE at h
  exact h
theorem lczS (elt : Ex) (tg : Tg) (it : Itx) (ifs : Exs) {X : Cx} {W : WX} {sc : Scope} (c : CxOk XT T Γ N X W sc) (pe : Expr) (h : chkE T N sc (.lcz elt tg it ifs) pe = true) : PE X pe (tF XT X.KF W (evE Γ (.lcz elt tg it ifs))) := by
  obtain ⟨x, t, i, cs, scope, p, rfl, h1, h2, h3, h4, h5, h6, h7⟩ := chk_lcz h
  exact PE.weak (pe_lcF c (zTg h2 h5) (piS it c i t h2 h1) h3 h4 h5 (fun X' c' => ifS ifs c' cs h6) fun X' c' => peS elt c' x h7) fun σ H Q h => tF_lcz h
theorem ps_fresh {i : Nat} {e : Ex} {x : Str} {px pos : Pos} {y : Expr} (c : SxOk XT T Γ N X E sc) (hN : N[i]? = some x) (hx : isTg sc (fun _ => true) x = true) (hy : chkE T N sc e y = true) (hf : freshE e = true) :
    PS X (.Assign [.Name x px] y pos) (tAsg (tF XT X.KF (WEE E) (evE Γ e)) (gName i)) := by
  obtain ⟨l1, l2⟩ := isTg_loc hx
  have hN' : X.N[i]? = some x := by rw [c.cx.n]; exact hN
  have hl : Loc X.env.scope x := by rw [c.cx.scope]; exact l1
  cases e with
  | lst es =>
    obtain ⟨xs, p, rfl, h1⟩ := chk_lst hy
    exact ps_set (i := i) c.cx.nd hN' hl (pe_lstF (paS es c.cx xs h1)) rfl (.inl (c.fn x))
  | lrng a =>
    obtain ⟨p1, p2, z, q1, q, rfl, h1, h2, h3, h4⟩ := chk_lrng hy
    exact ps_set (i := i) c.cx.nd hN' hl (pe_lrngF c.cx h1 h2 (peS a c.cx z h3) h4) rfl (.inl (c.fn x))
  | lc elt tg it ifs =>
    have hPE := lcS elt tg it ifs c.cx y hy
    obtain ⟨x', t, i', cs, scope, p, rfl, h1, h2, h3, h4, h5, h6, h7⟩ := chk_lc hy
    cases hsw : swB sc x px (.ListComp x' [⟨t, i', cs, 0⟩] scope p) with
    | false => exact ps_set (i := i) c.cx.nd hN' hl hPE (swaps_lc c.cx.scope hsw (.inl ⟨_, _, _, _, rfl⟩)) (.inl (c.fn x))
    | true =>
      obtain ⟨k1, k2⟩ := swB_inv (l := pos.line) (env := X.env) c.cx.scope c.kind hsw
      exact ps_setLcF c.cx hN k1 k2 (zTg h2 h5) (piS it c.cx i' t h2 h1) h3 h4 h5 (fun X' c' => ifS ifs c' cs h6) fun X' c' => peS elt c' x' h7
  | lcz elt tg it ifs =>
    have hPE := lczS elt tg it ifs c.cx y hy
    obtain ⟨x', t, i', cs, scope, p, rfl, h1, h2, h3, h4, h5, h6, h7⟩ := chk_lcz hy
    cases hsw : swB sc x px (.ListComp x' [⟨t, i', cs, 0⟩] scope p) with
    | false => exact ps_set (i := i) c.cx.nd hN' hl hPE (swaps_lc c.cx.scope hsw (.inl ⟨_, _, _, _, rfl⟩)) (.inl (c.fn x))
    | true =>
      obtain ⟨k1, k2⟩ := swB_inv (l := pos.line) (env := X.env) c.cx.scope c.kind hsw
      exact PS.weak (ps_setLcF c.cx hN k1 k2 (zTg h2 h5) (piS it c.cx i' t h2 h1) h3 h4 h5 (fun X' c' => ifS ifs c' cs h6) fun X' c' => peS elt c' x' h7) fun D σ H h => tF_lcz h
  | _ => cases hf
theorem ps_any {i : Nat} {e : Ex} {x : Str} {px pos : Pos} {y : Expr} (c : SxOk XT T Γ N X E sc) (hN : N[i]? = some x) (hx : isTg sc (fun _ => true) x = true) (hy : chkE T N sc e y = true) :
    PS X (.Assign [.Name x px] y pos) (tAsg (tW XT X.KF (WEE E) (evE Γ e)) (gName i)) := by
  cases hf : freshE e with
  | true => exact PS.weak (ps_fresh c hN hx hy hf) fun D σ H h => tW_tF h
  | false =>
    obtain ⟨l1, l2⟩ := isTg_loc hx
    have hN' : X.N[i]? = some x := by rw [c.cx.n]; exact hN
    have hl : Loc X.env.scope x := by rw [c.cx.scope]; exact l1
    have hLC : isLC y = false := by
      rcases chk_isLC hy with ⟨a, b, d, f, rfl⟩ | h
      · exfalso
        unfold chkE at hy
        split at hy <;> rename_i z <;> first | (cases z; done) | skip
        all_goals (first | (cases hy; done) | (rename_i z2; cases z2; done) | (cases hf; done) | skip)
      · exact h
    exact ps_set (i := i) c.cx.nd hN' hl (peS e c.cx y hy) (swaps_no hLC _ _ _) (.inl (c.fn x))
theorem pe_listG {W : WX} {a : Ex} {y : Expr} {pn pos : Pos} (c : CxOk XT T Γ N X W sc) (hg : isGl sc (Str.ofString (pyP1 .list)) = true) (ha : PE X y (tW XT X.KF W (evE Γ a))) (hy : plainE y = true) :
    PE X (.Call (.Name (Str.ofString (pyP1 .list)) pn) [y] [] pos) (tG XT X.KF W (evE Γ (.p1 .list a))) := by
  have hb := boot_p1 .list
  have hc := call_p1 (X := X) c.calm c.units .list
  have hm := c.blt _ (mem_p1 .list)
  refine PE.weak (pe_callTy hc (c.gl hg) hm hb (pa_one ha hy) (ne_p1 .list) (isGl_gl hg).2 (plainE_star hy _ _) rfl) fun σ H Q h => ?_
  refine tG_op1 unsG_list ?_
  obtain ⟨fo, φ, ρ, st, hs, he, h⟩ := h
  unfold evE at h
  exact ⟨fo, φ, ρ, st, hs, he, h⟩
theorem pe_addG {W : WX} {a b : Ex} {x y : Expr} {pos : Pos} (ha : PE X x (tW XT X.KF W (evE Γ a))) (hb : PE X y (tW XT X.KF W (evE Γ b))) : PE X (.BinOp x (pyBop .add) y pos) (tG XT X.KF W (evE Γ (.bin .add a b))) := by
  refine PE.weak (pe_op (op_bop .add) ha hb) fun σ H Q h => ?_
  refine tG_op2 opsG_add ?_
  obtain ⟨fo, φ, ρ, st, hs, he, h⟩ := h
  unfold evE at h
  exact ⟨fo, φ, ρ, st, hs, he, h⟩
theorem ps_freshX {i : Nat} {e : Ex} {x : Str} {px pos : Pos} {y : Expr} (c : SxOk XT T Γ N X E sc) (hN : N[i]? = some x) (hx : isTg sc (fun _ => true) x = true) (hy : chkE T N sc e y = true) (hf : freshX e = true) :
    PS X (.Assign [.Name x px] y pos) (tAsg (tG XT X.KF (WEE E) (evE Γ e)) (gName i)) := by
  cases hf0 : freshE e with
  | true => exact PS.weak (ps_fresh c hN hx hy hf0) fun D σ H h => tG_tF h
  | false =>
    obtain ⟨l1, l2⟩ := isTg_loc hx
    have hN' : X.N[i]? = some x := by rw [c.cx.n]; exact hN
    have hl : Loc X.env.scope x := by rw [c.cx.scope]; exact l1
    unfold freshX at hf
    split at hf
    · obtain ⟨p1, z, q, rfl, h1, h2, h3⟩ := chk_p1 hy
      exact ps_set (i := i) c.cx.nd hN' hl (pe_listG c.cx h1 (peS _ c.cx z h2) h3) rfl (.inl (c.fn x))
    · obtain ⟨u, v, p, rfl, h1, h2⟩ := chk_bin hy
      exact ps_set (i := i) c.cx.nd hN' hl (pe_addG (peS _ c.cx u h1) (peS _ c.cx v h2)) rfl (.inl (c.fn x))
    · rw [hf0] at hf; cases hf
theorem ps_freshD {i : Nat} {e : Ex} {x : Str} {px pos : Pos} {y : Expr} (c : SxOk XT T Γ N X E sc) (hN : N[i]? = some x) (hx : isTg sc (fun _ => true) x = true) (hy : chkE T N sc e y = true) (hf : freshD e = true) :
    PS X (.Assign [.Name x px] y pos) (tAsg (tFD XT X.KF (WEE E) (evE Γ e)) (gName i)) := by
  obtain ⟨l1, l2⟩ := isTg_loc hx
  have hN' : X.N[i]? = some x := by rw [c.cx.n]; exact hN
  have hl : Loc X.env.scope x := by rw [c.cx.scope]; exact l1
  cases e with
  | dnew =>
    obtain ⟨p, rfl⟩ := chk_dnew hy
    exact ps_set (i := i) c.cx.nd hN' hl pe_dnewF rfl (.inl (c.fn x))
  | dict a =>
    obtain ⟨p1, z, q, rfl, h1, h2, h3⟩ := chk_dict hy
    exact ps_set (i := i) c.cx.nd hN' hl (pe_dictF c.cx h1 (peS a c.cx z h2) h3) rfl (.inl (c.fn x))
  | _ => cases hf
theorem dcM_fresh {e : Ex} (hf : freshD e = true) : ∀ ρ st q, evE Γ e ρ st = .ok q → ∃ kvs, q.1 = .dc kvs := by
  cases e with
  | dnew => intro ρ st q h; unfold evE at h; cases h; exact ⟨_, rfl⟩
  | dict a => exact dcM_dict
  | _ => cases hf
end
end PB

set_option Elab.async false
set_option linter.all false
set_option maxRecDepth 100000
set_option maxHeartbeats 4000000
set_option backward.match.sparseCases false
/-! Statements keep their meaning: the theorem. -/
namespace PB
open PySem PySem.Spec PyProof.Rows L2
def rExtendF : V → List V → Hp → VK → Prop := fun x vs H Q => ∃ l b xs zs, x = .ref l ∧ vs = [.ref b] ∧ H l = some (.lst xs) ∧ Rd H b (.lst zs) ∧ xs.length + zs.length ≤ sizeLine ∧ Q .non (upd H l (.lst (xs ++ zs)))
theorem mt_extendF {X : Cx} : MtM X "list.extend" rExtendF := by
  intro pins s σ H x vs v us Q I rx rv h
  obtain ⟨l, b, xs, zs, rfl, rfl, hH, hB, hz, q⟩ := h
  cases rx
  obtain ⟨u, rfl, ru⟩ := rv.one
  cases ru
  obtain ⟨z, its, n, r, hl, e⟩ := I.lstM hH
  obtain ⟨z2, its2, n2, r2, e2⟩ := Rd.ok hB I.hok
  have hl2 : zs.length = its2.length := r2.length
  have hl1 : xs.length = its.length := r.length
  have hsz : its.toArray.size + its2.toArray.size ≤ sizeLine := by rw [List.size_toArray, List.size_toArray]; omega
  have hlong : ¬ (!its.toArray.isEmpty && Builtin.List.listTooLong (its.toArray.size + its2.toArray.size)) = true := by
    rw [notLongL hsz, Bool.and_false]
    exact Bool.false_ne_true
  refine call_meets F.slot_list_extend ⟨_, e, rfl⟩ F.entry_list_extend (F.args_list_extend_2 _ _)
    (AutoSeq1.list_extend_list_list_0 l its.toArray n b its2.toArray n2 hlong (by simp only [List.size_toArray] at hsz ⊢; omega) (by simp only [List.size_toArray] at hsz ⊢; omega)) ⟨e, e2, ?_⟩
  refine ⟨.non, _, I.lset (its' := its ++ its2) hH e (by simp) (r.append r2) ?_, rfl, q⟩
  rw [List.length_append]
  omega
/-- (a, b, ..) = a tuple or a list of that length -/
def gTL (K : PySem.W.Frag) (n : Nat) (t : TGs) : TG := fun v σ H Q => gTup K n t v σ H Q ∨ gLst K n t v σ H Q
theorem pg_tl {X : Cx} {es : List Expr} {k : Nat} {t : TGs} {n : Nat} {pos : Pos} (hc : X.calm = true) (h : PGs X es t) (hn : (assignEach es X.env).length = n) (hst : (assignEach es X.env).findIdx? (·.1) = none) : PG X (.Tuple es k pos) (gTL X.K n t) := by
  refine ⟨fun pins s σ H v u Q I r hw => ?_⟩
  rcases hw with hw | hw
  · exact (pg_tup hc h hn hst).run pins s σ H v u Q I r hw
  · exact (pg_lst hc h hn hst).run pins s σ H v u Q I r hw
theorem swaps_tup {y : Expr} {ts : List Expr} {k : Nat} {p : Pos} {l : Nat} {env : PySem.Env} : swapsWith y (some (.Tuple ts k p)) l env = pure false := by
  cases y <;> rfl
section
variable {XT : Xt} {T : Tb} {Γ : Gam} {N : List Str} {X : Cx} {E : XK} {sc : Scope} {K : KF} {σ : L2.St} {H H1 : Hp} {fo φ : List Addr} {st : Sr}
theorem get_push {α : Type} (xs : List α) (x : α) {n : Nat} {y : α} (h : (xs ++ [x])[n]? = some y) : xs[n]? = some y ∨ (n = xs.length ∧ y = x) := by
  rw [List.getElem?_append] at h
  split at h
  · exact .inl h
  · rename_i hn
    right
    have : n - xs.length = 0 := by
      have := (List.getElem?_eq_some_iff.mp h).1
      simp at this
      omega
    rw [this] at h
    simp at h
    exact ⟨by omega, h.symm⟩
/-- a new list is laid into the store -/
theorem Sok.pushL {p : Addr} {xs : List Dt} {vs : List V} (s : Sok K fo φ H st) (hp : H p = none) (r : RepL K (fo ++ φ) H xs vs) :
    Step φ H (φ ++ [p]) (upd H p (.lst vs)) ∧ Sok K fo (φ ++ [p]) (upd H p (.lst vs)) (st ++ [.lst xs]) ∧ (φ ++ [p])[st.length]? = some p := by
  have hpn := s.fresh hp
  rw [List.mem_append, not_or] at hpn
  have stp : Step φ H (φ ++ [p]) (upd H p (.lst vs)) := ⟨⟨[p], rfl⟩, fun a o n e => by
    have ha : a ≠ p := ne_of_none e hp
    exact ⟨by rw [upd_ne ha]; exact e, by simp [n, ha]⟩⟩
  refine ⟨stp, ⟨by simp [s.len], ?_, fun a ha => ?_, fun a ha => ?_, fun n a ys e1 e2 => ?_, fun n a kvs e1 e2 => ?_⟩, ?_⟩
  · rw [List.nodup_append]
    refine ⟨s.nd, by simp, fun a ha b hb => ?_⟩
    have : b = p := by simpa using hb
    rw [this]
    exact fun e => hpn.2 (by rw [← e]; exact ha)
  · obtain ⟨o, e⟩ := s.ft a ha
    exact ⟨o, by rw [upd_ne (ne_of_none e hp)]; exact e⟩
  · rcases List.mem_append.mp ha with ha | ha
    · exact s.dj a ha
    · have : a = p := by simpa using ha
      rw [this]; exact hpn.1
  · rcases get_push _ _ e2 with e2 | ⟨rfl, e5⟩
    · have hn : n < φ.length := by rw [s.len]; exact (List.getElem?_eq_some_iff.mp e2).1
      rw [List.getElem?_append_left hn] at e1
      obtain ⟨us, e3, q⟩ := s.ob n a ys e1 e2
      exact ⟨us, by rw [upd_ne (ne_of_none e3 hp)]; exact e3, RepL.keep stp.keeps q⟩
    · cases e5
      rw [← s.len] at e1
      simp at e1
      subst e1
      exact ⟨vs, upd_same, RepL.keep stp.keeps r⟩
  · rcases get_push _ _ e2 with e2 | ⟨rfl, e5⟩
    · have hn : n < φ.length := by rw [s.len]; exact (List.getElem?_eq_some_iff.mp e2).1
      rw [List.getElem?_append_left hn] at e1
      obtain ⟨us, ep, e3, q⟩ := s.od n a kvs e1 e2
      exact ⟨us, ep, by rw [upd_ne (ne_of_none e3 hp)]; exact e3, q.keep stp.keeps⟩
    · cases e5
  · rw [← s.len]; simp
/-- a new dict is laid into the store -/
theorem Sok.pushD {p : Addr} {kvs : List (Dt × Dt)} {zs : List (NK × Addr × V)} {ep : Nat} (s : Sok K fo φ H st) (hp : H p = none) (r : KvR K (fo ++ φ) H kvs zs) :
    Step φ H (φ ++ [p]) (upd H p (DO K.P K.w p zs ep)) ∧ Sok K fo (φ ++ [p]) (upd H p (DO K.P K.w p zs ep)) (st ++ [.dic kvs]) ∧ (φ ++ [p])[st.length]? = some p := by
  have hpn := s.fresh hp
  rw [List.mem_append, not_or] at hpn
  have stp : Step φ H (φ ++ [p]) (upd H p (DO K.P K.w p zs ep)) := ⟨⟨[p], rfl⟩, fun a o n e => by
    have ha : a ≠ p := ne_of_none e hp
    exact ⟨by rw [upd_ne ha]; exact e, by simp [n, ha]⟩⟩
  refine ⟨stp, ⟨by simp [s.len], ?_, fun a ha => ?_, fun a ha => ?_, fun n a ys e1 e2 => ?_, fun n a ks e1 e2 => ?_⟩, ?_⟩
  · rw [List.nodup_append]
    refine ⟨s.nd, by simp, fun a ha b hb => ?_⟩
    have : b = p := by simpa using hb
    rw [this]
    exact fun e => hpn.2 (by rw [← e]; exact ha)
  · obtain ⟨o, e⟩ := s.ft a ha
    exact ⟨o, by rw [upd_ne (ne_of_none e hp)]; exact e⟩
  · rcases List.mem_append.mp ha with ha | ha
    · exact s.dj a ha
    · have : a = p := by simpa using ha
      rw [this]; exact hpn.1
  · rcases get_push _ _ e2 with e2 | ⟨rfl, e5⟩
    · have hn : n < φ.length := by rw [s.len]; exact (List.getElem?_eq_some_iff.mp e2).1
      rw [List.getElem?_append_left hn] at e1
      obtain ⟨us, e3, q⟩ := s.ob n a ys e1 e2
      exact ⟨us, by rw [upd_ne (ne_of_none e3 hp)]; exact e3, RepL.keep stp.keeps q⟩
    · cases e5
  · rcases get_push _ _ e2 with e2 | ⟨rfl, e5⟩
    · have hn : n < φ.length := by rw [s.len]; exact (List.getElem?_eq_some_iff.mp e2).1
      rw [List.getElem?_append_left hn] at e1
      obtain ⟨us, ep', e3, q⟩ := s.od n a ks e1 e2
      exact ⟨us, ep', by rw [upd_ne (ne_of_none e3 hp)]; exact e3, q.keep stp.keeps⟩
    · cases e5
      rw [← s.len] at e1
      simp at e1
      subst e1
      exact ⟨zs, ep, upd_same, r.keep stp.keeps⟩
  · rw [← s.len]; simp
/-- a dict of the store changes -/
theorem Sok.setD {n : Nat} {a : Addr} {kvs : List (Dt × Dt)} {zs : List (NK × Addr × V)} {ep : Nat} (s : Sok K fo φ H st) (ha : φ[n]? = some a) (r : KvR K (fo ++ φ) H kvs zs) :
    Step φ H φ (upd H a (DO K.P K.w a zs ep)) ∧ Sok K fo φ (upd H a (DO K.P K.w a zs ep)) (st.set n (.dic kvs)) := by
  have hm : a ∈ φ := List.mem_of_getElem? ha
  have stp : Step φ H φ (upd H a (DO K.P K.w a zs ep)) := ⟨⟨[], by simp⟩, fun b o hn e => by
    have hb : b ≠ a := fun z => hn (by rw [z]; exact hm)
    exact ⟨by rw [upd_ne hb]; exact e, hn⟩⟩
  have hl : n < st.length := by rw [← s.len]; exact (List.getElem?_eq_some_iff.mp ha).1
  refine ⟨stp, ⟨by simp [s.len], s.nd, fun b hb => ?_, s.dj, fun m b ys e1 e2 => ?_, fun m b ks e1 e2 => ?_⟩⟩
  · obtain ⟨o, e⟩ := s.ft b hb
    have hne : b ≠ a := fun z => s.dj a hm (by rw [← z]; exact hb)
    exact ⟨o, by rw [upd_ne hne]; exact e⟩
  · by_cases hmn : n = m
    · subst hmn
      rw [List.getElem?_set_self hl] at e2
      cases e2
    · rw [List.getElem?_set_ne hmn] at e2
      obtain ⟨us, e3, q⟩ := s.ob m b ys e1 e2
      exact ⟨us, by rw [upd_ne (s.apart ha e1 hmn)]; exact e3, RepL.keep stp.keeps q⟩
  · by_cases hmn : n = m
    · subst hmn
      rw [ha] at e1
      cases e1
      rw [List.getElem?_set_self hl] at e2
      cases e2
      exact ⟨zs, ep, upd_same, r.keep stp.keeps⟩
    · rw [List.getElem?_set_ne hmn] at e2
      obtain ⟨us, ep', e3, q⟩ := s.od m b ks e1 e2
      exact ⟨us, ep', by rw [upd_ne (s.apart ha e1 hmn)]; exact e3, q.keep stp.keeps⟩
theorem s_set {i : Nat} {e : Ex} {D : Ends} (h : tS XT K E (exS Γ (.set i e)) D σ H) : tAsg (tW XT K (WEE E) (evE Γ e)) (gName i) D σ H := by
  obtain ⟨fo, φ, ρ, st, hs, he, h⟩ := h
  unfold exS at h
  refine ⟨fo, φ, ρ, st, hs, he, (Go.of_bind h).imp fun w st1 φ1 H1 s1 q1 h1 v rv => ?_⟩
  exact (Go.run h1 q1) _ ((he.step s1).set rv)
theorem ndM_fresh {e : Ex} (hf : freshX e = true) : ∀ ρ st q, evE Γ e ρ st = .ok q → ∀ kvs, q.1 ≠ .dc kvs := by
  intro ρ st q h kvs
  have lcE : ∀ {r : List Dt × Sr}, lcEnd r = .ok q → q.1 ≠ .dc kvs := fun {r} h => by
    unfold lcEnd at h
    split at h
    · cases h; intro z; cases z
    · cases h
  cases e with
  | lst es =>
    unfold evE at h
    obtain ⟨p, _, h⟩ := bind_ok_inv h
    unfold mkLst at h
    split at h
    · cases e : mapD p.1 with
      | none => rw [e] at h; cases h
      | some xs => rw [e] at h; cases h; intro z; cases z
    · cases h
  | lc a b c d =>
    unfold evE at h
    obtain ⟨p, _, h⟩ := bind_ok_inv h
    obtain ⟨r, _, h⟩ := bind_ok_inv h
    exact lcE h
  | lcz a b c d =>
    unfold evE at h
    obtain ⟨p, _, h⟩ := bind_ok_inv h
    obtain ⟨r, _, h⟩ := bind_ok_inv h
    obtain ⟨r, _, h⟩ := bind_ok_inv h
    exact lcE h
  | lrng a =>
    unfold evE at h
    obtain ⟨r, _, h⟩ := bind_ok_inv h
    unfold lrngW at h
    split at h
    · split at h
      · cases h; intro z; cases z
      · cases h
    · cases h
  | p1 p a =>
    unfold evE at h
    obtain ⟨r, _, h⟩ := bind_ok_inv h
    unfold op1 at h
    cases e1 : viewW r.2 r.1 with
    | none => rw [e1] at h; cases h
    | some x =>
      cases e2 : p1D p x with
      | none => simp only [e1, e2, Option.bind_some, Option.map_none] at h; cases h
      | some y => simp only [e1, e2, Option.bind_some, Option.map_some, Rs.ofO_some] at h; cases h; intro z; cases z
  | bin o a b =>
    unfold evE at h
    obtain ⟨r, _, h⟩ := bind_ok_inv h
    obtain ⟨r2, _, h⟩ := bind_ok_inv h
    rcases op2_cases (bopD o) r.1 r2 with e | ⟨_, _, z, _, _, _, e⟩
    · rw [e] at h; cases h
    · rw [e] at h; cases h; intro z; cases z
  | _ => cases hf
theorem s_setL {i : Nat} {e : Ex} {D : Ends} (hf : freshX e = true) (h : tS XT K E (exS Γ (.setL i e)) D σ H) : tAsg (tG XT K (WEE E) (evE Γ e)) (gName i) D σ H := by
  obtain ⟨fo, φ, ρ, st, hs, he, h⟩ := h
  refine ⟨fo, φ, ρ, st, hs, he, ?_⟩
  unfold exS at h
  cases e1 : evE Γ e ρ st with
  | bad => rw [e1] at h; exact False.elim h
  | exc c fs sx => rw [e1] at h; exact h
  | ok p =>
    have nd := ndM_fresh hf ρ st p e1
    rw [e1] at h
    obtain ⟨w, st1⟩ := p
    simp only [Rs.bind_ok] at h
    intro φ1 H1 s1 q1
    unfold layL at h
    dsimp only at h nd
    split at h
    · rename_i xs
      refine ⟨xs, rfl, fun vs p hp r => ?_⟩
      obtain ⟨a1, a2, a3⟩ := q1.pushL hp r
      have h2 : Go K (xwOf XT K (WEE E) σ fo) fo φ H (.ok ((Fl.nx, ρ.set i (some (.ob st1.length))), st1 ++ [.lst xs])) (fun p _ φ' H' => FlP K fo D p φ' H') := h
      exact h2 _ _ (s1.trans a1) a2 _ (((he.step s1).step a1).set ⟨p, a3, rfl⟩)
    · exact (nd _ rfl).elim
    · exact False.elim h
theorem s_setD {i : Nat} {e : Ex} {D : Ends} (hf : freshD e = true) (h : tS XT K E (exS Γ (.setL i e)) D σ H) : tAsg (tFD XT K (WEE E) (evE Γ e)) (gName i) D σ H := by
  obtain ⟨fo, φ, ρ, st, hs, he, h⟩ := h
  refine ⟨fo, φ, ρ, st, hs, he, ?_⟩
  unfold exS at h
  cases e1 : evE Γ e ρ st with
  | bad => rw [e1] at h; exact False.elim h
  | exc c fs sx => rw [e1] at h; exact h
  | ok p =>
    obtain ⟨kvs, ek⟩ := dcM_fresh hf ρ st p e1
    rw [e1] at h
    obtain ⟨w, st1⟩ := p
    cases (show w = .dc kvs from ek)
    simp only [Rs.bind_ok] at h
    intro φ1 H1 s1 q1
    refine ⟨kvs, rfl, fun xs p ep hp r => ?_⟩
    obtain ⟨a1, a2, a3⟩ := q1.pushD (ep := ep) hp r
    have h2 : Go K (xwOf XT K (WEE E) σ fo) fo φ H (.ok ((Fl.nx, ρ.set i (some (.ob st1.length))), st1 ++ [.dic kvs])) (fun p _ φ' H' => FlP K fo D p φ' H') := h
    exact h2 _ _ (s1.trans a1) a2 _ (((he.step s1).step a1).set ⟨p, a3, rfl⟩)
theorem obN_inv {o : Option (Option Wv)} {st : Sr} {n : Nat} (h : obW o = some n) : obN o st = .ok (n, st) := by unfold obN; rw [h]; rfl
theorem s_put {i : Nat} {k e : Ex} {D : Ends} (h : tS XT K E (exS Γ (.put i k e)) D σ H) : sDPutN K (tVar i) (tW XT K (WEE E) (evE Γ k)) (tW XT K (WEE E) (evE Γ e)) D σ H := by
  obtain ⟨fo, φ, ρ, st, hs, he, h⟩ := h
  unfold exS at h
  refine ⟨fo, φ, ρ, st, hs, he, (Go.of_bind h).imp fun w st1 φ1 H1 s1 q1 h1 v rv => ?_⟩
  cases e1 : obW ρ[i]? with
  | none => unfold obN at h1; rw [e1] at h1; exact False.elim h1
  | some n =>
    rw [obN_inv e1] at h1
    simp only [Rs.bind_ok] at h1
    obtain ⟨v0, e2, a, ea, rfl⟩ := (he.step s1).at_ i _ (obW_inv e1)
    refine ⟨.ref a, e2, fo, φ1, ρ, st1, q1, he.step s1, (Go.of_bind h1).imp fun w2 st2 φ2 H2 s2 q2 h2 v2 rv2 => ⟨a, rfl, ?_⟩⟩
    unfold putW at h2
    dsimp only at h2
    split at h2
    · rename_i y kd kvs g1 g2
      split at h2
      · rename_i hc
        obtain ⟨xs, ep, d1, d2⟩ := q2.od n a kvs (s2.get ea) g2
        have rk := view_of q2 rv2 g1
        obtain ⟨b, rfl⟩ := key_ref hc.1 rk
        have rk' := key_rep hc.1 rk
        have ry : Rep K (fo ++ φ2) H2 y v := rv.step s2
        refine ⟨_, kvs, xs, ep, kd, b, rfl, d1, d2, hc.1, rk', by rw [← lim_eq]; omega, fun ep' => ?_⟩
        obtain ⟨b1, b2⟩ := q2.setD (ep := ep') (s2.get ea) (d2.put hc.1 rk' ry)
        exact h2 _ _ b1 b2 σ (((he.step s1).step s2).step b1)
      · exact False.elim h2
    · exact False.elim h2
theorem s_popd {i : Nat} {k : Ex} {D : Ends} (h : tS XT K E (exS Γ (.popd i k)) D σ H) : tDrop (tDPopN K (tVar i) (tW XT K (WEE E) (evE Γ k))) D σ H := by
  obtain ⟨fo, φ, ρ, st, hs, he, h⟩ := h
  unfold exS at h
  cases e1 : obW ρ[i]? with
  | none => unfold obN at h; rw [e1] at h; exact False.elim h
  | some n =>
    rw [obN_inv e1] at h
    simp only [Rs.bind_ok] at h
    obtain ⟨v0, e2, a, ea, rfl⟩ := he.at_ i _ (obW_inv e1)
    unfold seenD at h
    cases e3 : st[n]? with
    | none => rw [e3] at h; exact False.elim h
    | some o =>
      cases o with
      | lst xs => rw [e3] at h; exact False.elim h
      | dic kvs0 =>
        rw [e3] at h
        simp only [Rs.bind_ok] at h
        obtain ⟨xs0, ep0, d0, r0⟩ := hs.od n a kvs0 ea e3
        refine ⟨.ref a, e2, a, rfl, ⟨_, kvs0, xs0, ep0, d0, r0⟩, fo, φ, ρ, st, hs, he, (Go.of_bind h).imp fun w2 st2 φ2 H2 s2 q2 h2 v2 rv2 => ?_⟩
        unfold popW at h2
        dsimp only at h2
        split at h2
        · rename_i kd kvs g1 g2
          split at h2
          · rename_i hc
            obtain ⟨xs, ep, d1, d2⟩ := q2.od n a kvs (s2.get ea) g2
            have rk := view_of q2 rv2 g1
            obtain ⟨b, rfl⟩ := key_ref hc.1 rk
            have rk' := key_rep hc.1 rk
            rcases d2.get hc.1 with ⟨z1, _⟩ | ⟨z, zv, z1, z2, z3⟩
            · rw [z1] at hc; exact absurd hc.2.1 (by simp)
            · refine ⟨_, kvs, xs, ep, kd, b, zv, rfl, d1, d2, hc.1, rk', by rw [← lim_eq]; exact hc.2.2, z2, fun ep' => ?_⟩
              obtain ⟨b1, b2⟩ := q2.setD (ep := ep') (s2.get ea) (d2.drop hc.1)
              exact h2 _ _ b1 b2 σ ((he.step s2).step b1)
          · exact False.elim h2
        · exact False.elim h2
theorem s_unp {is : List Nat} {e : Ex} {D : Ends} (h : tS XT K E (exS Γ (.unp is e)) D σ H) : tAsg (tW XT K (WEE E) (evE Γ e)) (gTL K is.length (gMany is)) D σ H := by
  obtain ⟨fo, φ, ρ, st, hs, he, h⟩ := h
  unfold exS at h
  refine ⟨fo, φ, ρ, st, hs, he, (Go.of_bind h).imp fun w st1 φ1 H1 s1 q1 h1 v rv => ?_⟩
  unfold unpW at h1
  dsimp only at h1
  split at h1
  · rename_i xs
    cases e1 : setMany is xs ρ with
    | none => rw [e1] at h1; exact False.elim h1
    | some ρ' =>
      rw [e1] at h1
      obtain ⟨a, vs, rfl, r, rr⟩ := Rep.sqT rv
      refine .inl ⟨a, vs, rfl, r, by rw [← rr.length]; exact gMany_len e1, ?_⟩
      exact gMany_ok (all := is) e1 (fun i hi => hi) (he.step s1) rr fun σ' he' _ => (Go.run h1 q1) σ' he'
  · rename_i xs
    cases e1 : setMany is xs ρ with
    | none => rw [e1] at h1; exact False.elim h1
    | some ρ' =>
      rw [e1] at h1
      obtain ⟨a, vs, rfl, r, rr⟩ : ∃ a vs, v = V.ref a ∧ Rd H1 a (.lst vs) ∧ RepL _ _ H1 xs vs := by
        cases (show Rep _ _ H1 (.lst xs) v from rv) with
        | lst h r e => exact ⟨_, _, rfl, r, e⟩
      refine .inr ⟨a, vs, rfl, .inl r, by rw [← rr.length]; exact gMany_len e1, ?_⟩
      exact gMany_ok (all := is) e1 (fun i hi => hi) (he.step s1) rr fun σ' he' _ => (Go.run h1 q1) σ' he'
  · exact False.elim h1
theorem s_ret {e : Ex} {D : Ends} (h : tS XT K E (exS Γ (.ret e)) D σ H) : tRet (tW XT K (WEE E) (evE Γ e)) D σ H := by
  obtain ⟨fo, φ, ρ, st, hs, he, h⟩ := h
  unfold exS at h
  refine ⟨fo, φ, ρ, st, hs, he, (Go.of_bind h).imp fun w st1 φ1 H1 s1 q1 h1 v rv => ?_⟩
  exact (Go.run h1 q1) σ (he.step s1) v rv
theorem s_expr {e : Ex} {D : Ends} (h : tS XT K E (exS Γ (.expr e)) D σ H) : tDrop (tW XT K (WEE E) (evE Γ e)) D σ H := by
  obtain ⟨fo, φ, ρ, st, hs, he, h⟩ := h
  unfold exS at h
  refine ⟨fo, φ, ρ, st, hs, he, (Go.of_bind h).imp fun w st1 φ1 H1 s1 q1 h1 v rv => ?_⟩
  exact (Go.run h1 q1) σ (he.step s1)
theorem s_ife {c : Ex} {a b : Sms} {D : Ends} (h : tS XT K E (exS Γ (.ife c a b)) D σ H) : tIfS (tT XT K (WEE E) (evT Γ c)) (tS XT K E (exSs Γ a)) (tS XT K E (exSs Γ b)) D σ H := by
  obtain ⟨fo, φ, ρ, st, hs, he, h⟩ := h
  unfold exS at h
  refine ⟨fo, φ, ρ, st, hs, he, (Go.of_bind h).imp fun k st1 φ1 H1 s1 q1 h1 => ?_⟩
  cases k with
  | true => exact ⟨fo, φ1, ρ, st1, q1, he.step s1, h1⟩
  | false => exact ⟨fo, φ1, ρ, st1, q1, he.step s1, h1⟩
theorem s_app {i : Nat} {e : Ex} {D : Ends} (h : tS XT K E (exS Γ (.app i e)) D σ H) : tDrop (tBM K "list" rAppend (tVar i) (tCons (tW XT K (WEE E) (evE Γ e)) tNil)) D σ H := by
  obtain ⟨fo, φ, ρ, st, hs, he, h⟩ := h
  unfold exS at h
  cases e1 : obW ρ[i]? with
  | none => rw [e1] at h; exact False.elim h
  | some n =>
    rw [e1] at h
    simp only [Option.map_some, Rs.ofO_some, Rs.bind_ok] at h
    obtain ⟨v, e2, a, ea, rfl⟩ := he.at_ i _ (obW_inv e1)
    refine ⟨.ref a, e2, ?_⟩
    unfold seenW at h
    cases e3 : st[n]? with
    | none => rw [e3] at h; exact False.elim h
    | some o =>
      cases o with
      | dic kvs0 => rw [e3] at h; exact False.elim h
      | lst xs0 =>
        rw [e3] at h
        simp only [Rs.bind_ok] at h
        obtain ⟨vs0, h0, r0⟩ := hs.ob n a xs0 ea e3
        refine ⟨.inl ⟨rfl, vs0, .inl (.inl h0)⟩, ?_⟩
        refine ⟨fo, φ, ρ, st, hs, he, (Go.of_bind h).imp fun w st1 φ1 H1 s1 q1 h1 v rv => ?_⟩
        unfold appW at h1
        dsimp only at h1
        split at h1
        · rename_i y xs e4
          split at h1
          · rename_i hl
            obtain ⟨vs, h5, r5⟩ := q1.ob n a xs (s1.get ea) e4
            refine ⟨a, vs, v, rfl, rfl, h5, by rw [← r5.length, ← lim_eq]; exact hl, ?_⟩
            obtain ⟨b1, b2⟩ := q1.setL (s1.get ea) (r5.append (.cons rv .nil))
            exact h1 _ _ b1 b2 σ ((he.step s1).step b1)
          · exact False.elim h1
        · exact False.elim h1
theorem s_ext {i : Nat} {e : Ex} {D : Ends} (h : tS XT K E (exS Γ (.ext i e)) D σ H) : tDrop (tBM K "list" rExtendF (tVar i) (tCons (tW XT K (WEE E) (evE Γ e)) tNil)) D σ H := by
  obtain ⟨fo, φ, ρ, st, hs, he, h⟩ := h
  unfold exS at h
  cases e1 : obW ρ[i]? with
  | none => rw [e1] at h; exact False.elim h
  | some n =>
    rw [e1] at h
    simp only [Option.map_some, Rs.ofO_some, Rs.bind_ok] at h
    obtain ⟨v, e2, a, ea, rfl⟩ := he.at_ i _ (obW_inv e1)
    refine ⟨.ref a, e2, ?_⟩
    unfold seenW at h
    cases e3 : st[n]? with
    | none => rw [e3] at h; exact False.elim h
    | some o =>
      cases o with
      | dic kvs0 => rw [e3] at h; exact False.elim h
      | lst xs0 =>
        rw [e3] at h
        simp only [Rs.bind_ok] at h
        obtain ⟨vs0, h0, r0⟩ := hs.ob n a xs0 ea e3
        refine ⟨.inl ⟨rfl, vs0, .inl (.inl h0)⟩, ?_⟩
        refine ⟨fo, φ, ρ, st, hs, he, (Go.of_bind h).imp fun w st1 φ1 H1 s1 q1 h1 v rv => ?_⟩
        unfold extW at h1
        dsimp only at h1
        split at h1
        · rename_i ys xs e4
          split at h1
          · rename_i hl
            obtain ⟨vs, h5, r5⟩ := q1.ob n a xs (s1.get ea) e4
            obtain ⟨b, us, rfl, hb, rr⟩ : ∃ b us, v = V.ref b ∧ Rd H1 b (.lst us) ∧ RepL _ _ H1 ys us := by
              cases (show Rep _ _ H1 (.lst ys) v from rv) with
              | lst h r e => exact ⟨_, _, rfl, r, e⟩
            refine ⟨a, b, vs, us, rfl, rfl, h5, hb, by rw [← r5.length, ← rr.length, ← lim_eq]; exact hl, ?_⟩
            obtain ⟨b1, b2⟩ := q1.setL (s1.get ea) (r5.append rr)
            exact h1 _ _ b1 b2 σ ((he.step s1).step b1)
          · exact False.elim h1
        · exact False.elim h1
theorem s_seq {s : Sm} {r : Sms} {D : Ends} (h : tS XT K E (exSs Γ (.cons s r)) D σ H) : tSeq (tS XT K E (exS Γ s)) (tS XT K E (exSs Γ r)) D σ H := by
  obtain ⟨fo, φ, ρ, st, hs, he, h⟩ := h
  unfold exSs at h
  refine ⟨fo, φ, ρ, st, hs, he, (Go.of_bind h).imp fun p st1 φ1 H1 s1 q1 h1 => ?_⟩
  obtain ⟨fl, ρ'⟩ := p
  intro σ' he'
  cases fl with
  | nx => exact ⟨fo, φ1, ρ', st1, q1, he', h1⟩
  | rt w => exact (Go.run (a := (Fl.rt w, ρ')) (st := st1) h1 q1) σ' he'
  | bk => exact (Go.run (a := (Fl.bk, ρ')) (st := st1) h1 q1) σ' he'
  | ct => exact (Go.run (a := (Fl.ct, ρ')) (st := st1) h1 q1) σ' he'
theorem s_nil {D : Ends} (h : tS XT K E (exSs Γ .nil) D σ H) : tNext D σ H := by
  obtain ⟨fo, φ, ρ, st, hs, he, h⟩ := h
  unfold exSs at h
  exact (Go.run h hs) σ he
theorem s_for {tg : Tg} {it : Itx} {b : Sms} {D : Ends} (hz : isZ it = true → ∀ i, tg ≠ .one i) (h : tS XT K E (exS Γ (.forS tg it b)) D σ H) : tFor (tI XT K (WEE E) (isZ it) (evI Γ it)) (gTg K tg) (tS XT K E (exSs Γ b)) D σ H := by
  obtain ⟨fo, φ, ρ, st, hs, he, h⟩ := h
  unfold exS at h
  refine ⟨fo, φ, ρ, st, hs, he, (Go.of_bind h).imp fun p st1 φ1 H1 s1 q1 h1 J wk wo => ?_⟩
  obtain ⟨items, ws⟩ := p
  dsimp only at h1 wo
  refine ⟨fun i m σ H => m = items.length - i ∧ i ≤ items.length ∧ ∃ φ ρ st, Sok K fo φ H st ∧ EnvOk K fo φ H ρ σ ∧ (∃ t, φ = φ1 ++ t) ∧ Keeps (fo ++ φ1) H1 (fo ++ φ) H ∧ watchOk ws st = true ∧
      Go K (xwOf XT K (WEE E) σ fo) fo φ H (exFor (exSs Γ b) tg ws (items.drop i) ρ st) (fun p _ φ' H' => FlP K fo D p φ' H'),
    ⟨items.length, by simp, Nat.zero_le _, φ1, ρ, st1, q1, he.step s1, ⟨[], by simp⟩, .refl, wo, by rw [List.drop_zero]; exact h1⟩, ?_⟩
  rintro i m σ H ⟨rfl, hi, φ, ρ, st, q, en, ex, kp, wo, hg⟩
  obtain ⟨w1, w2, w3⟩ := wk fo φ H st ex kp q wo
  by_cases hlt : i < items.length
  · obtain ⟨d, hd⟩ := get_lt hlt
    have hdrop : items.drop i = d :: items.drop (i + 1) := by
      rw [List.drop_eq_getElem_cons hlt]
      congr 1
      exact Option.some.inj ((List.getElem?_eq_getElem hlt).symm.trans hd)
    rw [hdrop] at hg
    unfold exFor at hg
    cases es : setTg tg d ρ with
    | none => rw [es] at hg; exact False.elim hg
    | some ρ' =>
      rw [es] at hg
      dsimp only at hg
      refine .inr ⟨w1 i hlt, fun σ' H' => items.length - (i + 1) = items.length - (i + 1) ∧ i + 1 ≤ items.length ∧ ∃ φ ρ st, Sok K fo φ H' st ∧ EnvOk K fo φ H' ρ σ' ∧ (∃ t, φ = φ1 ++ t) ∧ Keeps (fo ++ φ1) H1 (fo ++ φ) H' ∧ watchOk ws st = true ∧
        Go K (xwOf XT K (WEE E) σ' fo) fo φ H' (exFor (exSs Γ b) tg ws (items.drop (i + 1)) ρ st) (fun p _ φ' H' => FlP K fo D p φ' H'), fun σ' H' hN => ⟨_, by omega, hN⟩, fun x H' hy => ?_⟩
      obtain ⟨sm, rx⟩ := w3 i d x H' hd hy
      have sm' : Step φ H φ H' := Step.same sm
      refine gTg_ok es (en.step sm') (hz := hz) rx fun σ2 en3 _ => ?_
      refine ⟨fo, φ, ρ', st, q.same sm, en3, (Go.of_bind (Go.at_ hg sm')).imp fun p st3 φ3 H3 s3 q3 h3 => ?_⟩
      obtain ⟨fl, ρ3⟩ := p
      have s03 : Step φ H φ3 H3 := sm'.trans s3
      have ex3 : ∃ t, φ3 = φ1 ++ t := by
        obtain ⟨t, e1⟩ := ex
        obtain ⟨u, e2⟩ := s03.ext
        exact ⟨t ++ u, by rw [e2, e1, List.append_assoc]⟩
      have kp3 : Keeps (fo ++ φ1) H1 (fo ++ φ3) H3 := kp.trans (s03.keeps (fo := fo))
      intro σ3 he3
      dsimp only at h3
      cases fl with
      | nx =>
        dsimp only at h3
        split at h3
        · rename_i hw
          exact ⟨rfl, hlt, φ3, ρ3, st3, q3, he3, ex3, kp3, hw, h3⟩
        · exact False.elim h3
      | ct =>
        dsimp only at h3
        split at h3
        · rename_i hw
          exact ⟨rfl, hlt, φ3, ρ3, st3, q3, he3, ex3, kp3, hw, h3⟩
        · exact False.elim h3
      | bk => exact (Go.run (a := (Fl.nx, ρ3)) (st := st3) h3 q3) σ3 he3
      | rt w => exact (Go.run (a := (Fl.rt w, ρ3)) (st := st3) h3 q3) σ3 he3
  · have ei : i = items.length := by omega
    subst ei
    rw [List.drop_length] at hg
    unfold exFor at hg
    exact .inl ⟨w2, (Go.run hg q) σ en⟩
theorem s_whl {c : Ex} {b : Sms} {D : Ends} (h : tS XT K E (exS Γ (.whl c b)) D σ H) : tWhile (tT XT K (WEE E) (evT Γ c)) (tS XT K E (exSs Γ b)) D σ H := by
  obtain ⟨fo, φ, ρ, st, hs, he, h⟩ := h
  unfold exS at h
  refine ⟨fun m σ H => ∃ φ ρ st, Sok K fo φ H st ∧ EnvOk K fo φ H ρ σ ∧ Go K (xwOf XT K (WEE E) σ fo) fo φ H (exWhl (evT Γ c) (exSs Γ b) m ρ st) (fun p _ φ' H' => FlP K fo D p φ' H'), ⟨turns, φ, ρ, st, hs, he, h⟩, ?_⟩
  rintro m σ H ⟨φ, ρ, st, q, en, hg⟩
  cases m with
  | zero => exact False.elim hg
  | succ m =>
    unfold exWhl at hg
    refine ⟨fo, φ, ρ, st, q, en, (Go.of_bind hg).imp fun k st1 φ1 H1 s1 q1 h1 => ?_⟩
    cases k with
    | false => exact (Go.run (a := (Fl.nx, ρ)) (st := st1) h1 q1) σ (en.step s1)
    | true =>
      refine ⟨fun σ H => ∃ φ ρ st, Sok K fo φ H st ∧ EnvOk K fo φ H ρ σ ∧ Go K (xwOf XT K (WEE E) σ fo) fo φ H (exWhl (evT Γ c) (exSs Γ b) m ρ st) (fun p _ φ' H' => FlP K fo D p φ' H'), fun σ' H' hN => ⟨m, Nat.lt_succ_self m, hN⟩, ?_⟩
      have h1 : Go K (xwOf XT K (WEE E) σ fo) fo φ1 H1 ((exSs Γ b ρ st1).bind fun p => match p.1.1 with
        | .nx => exWhl (evT Γ c) (exSs Γ b) m p.1.2 p.2
        | .ct => exWhl (evT Γ c) (exSs Γ b) m p.1.2 p.2
        | .bk => .ok ((.nx, p.1.2), p.2)
        | .rt w => .ok ((.rt w, p.1.2), p.2)) (fun p _ φ' H' => FlP K fo D p φ' H') := h1
      refine ⟨fo, φ1, ρ, st1, q1, en.step s1, (Go.of_bind h1).imp fun p st3 φ3 H3 s3 q3 h3 => ?_⟩
      obtain ⟨fl, ρ3⟩ := p
      intro σ3 he3
      dsimp only at h3
      cases fl with
      | nx => exact ⟨φ3, ρ3, st3, q3, he3, h3⟩
      | ct => exact ⟨φ3, ρ3, st3, q3, he3, h3⟩
      | bk => exact (Go.run (a := (Fl.nx, ρ3)) (st := st3) h3 q3) σ3 he3
      | rt w => exact (Go.run (a := (Fl.rt w, ρ3)) (st := st3) h3 q3) σ3 he3

/-! #### a try whose suite tells of the exception's classes -/
def tSW (XT : Xt) (K : KF) (W : WX) (m : Ev → Sr → Rs Sx) : TS := fun D σ H => ∃ fo φ ρ st, Sok K fo φ H st ∧ EnvOk K fo φ H ρ σ ∧
  Go K (xwOf XT K W σ fo) fo φ H (m ρ st) (fun p _ φ' H' => FlP K fo D p φ' H')
section
variable {W : WX}
theorem w_expr {e : Ex} {D : Ends} (h : tSW XT K W (exS Γ (.expr e)) D σ H) : tDrop (tW XT K W (evE Γ e)) D σ H := by
  obtain ⟨fo, φ, ρ, st, hs, he, h⟩ := h
  unfold exS at h
  refine ⟨fo, φ, ρ, st, hs, he, (Go.of_bind h).imp fun w st1 φ1 H1 s1 q1 h1 v rv => ?_⟩
  exact (Go.run h1 q1) σ (he.step s1)
theorem w_set {i : Nat} {e : Ex} {D : Ends} (h : tSW XT K W (exS Γ (.set i e)) D σ H) : tAsg (tW XT K W (evE Γ e)) (gName i) D σ H := by
  obtain ⟨fo, φ, ρ, st, hs, he, h⟩ := h
  unfold exS at h
  refine ⟨fo, φ, ρ, st, hs, he, (Go.of_bind h).imp fun w st1 φ1 H1 s1 q1 h1 v rv => ?_⟩
  exact (Go.run h1 q1) _ ((he.step s1).set rv)
theorem w_ife {c : Ex} {a b : Sms} {D : Ends} (h : tSW XT K W (exS Γ (.ife c a b)) D σ H) : tIfS (tT XT K W (evT Γ c)) (tSW XT K W (exSs Γ a)) (tSW XT K W (exSs Γ b)) D σ H := by
  obtain ⟨fo, φ, ρ, st, hs, he, h⟩ := h
  unfold exS at h
  refine ⟨fo, φ, ρ, st, hs, he, (Go.of_bind h).imp fun k st1 φ1 H1 s1 q1 h1 => ?_⟩
  cases k with
  | true => exact ⟨fo, φ1, ρ, st1, q1, he.step s1, h1⟩
  | false => exact ⟨fo, φ1, ρ, st1, q1, he.step s1, h1⟩
theorem w_one {s : Sm} {D : Ends} (h : tSW XT K W (exSs Γ (.cons s .nil)) D σ H) : tSW XT K W (exS Γ s) D σ H := by
  obtain ⟨fo, φ, ρ, st, hs, he, h⟩ := h
  refine ⟨fo, φ, ρ, st, hs, he, ?_⟩
  unfold exSs at h
  refine (Go.of_bind h).imp fun p st1 φ1 H1 s1 q1 h1 => ?_
  obtain ⟨fl, ρ'⟩ := p
  cases fl with
  | nx =>
    unfold exSs at h1
    exact Go.run (a := (Fl.nx, ρ')) (st := st1) h1 q1
  | rt w => exact Go.run (a := (Fl.rt w, ρ')) (st := st1) h1 q1
  | bk => exact Go.run (a := (Fl.bk, ρ')) (st := st1) h1 q1
  | ct => exact Go.run (a := (Fl.ct, ρ')) (st := st1) h1 q1
theorem w_nil {D : Ends} (h : tSW XT K W (exSs Γ .nil) D σ H) : tNext D σ H := by
  obtain ⟨fo, φ, ρ, st, hs, he, h⟩ := h
  unfold exSs at h
  exact (Go.run h hs) σ he
end
section
variable {W : WX}
theorem w_unp {is : List Nat} {e : Ex} {D : Ends} (h : tSW XT K W (exS Γ (.unp is e)) D σ H) : tAsg (tW XT K W (evE Γ e)) (gTL K is.length (gMany is)) D σ H := by
  obtain ⟨fo, φ, ρ, st, hs, he, h⟩ := h
  unfold exS at h
  refine ⟨fo, φ, ρ, st, hs, he, (Go.of_bind h).imp fun w st1 φ1 H1 s1 q1 h1 v rv => ?_⟩
  unfold unpW at h1
  dsimp only at h1
  split at h1
  · rename_i xs
    cases e1 : setMany is xs ρ with
    | none => rw [e1] at h1; exact False.elim h1
    | some ρ' =>
      rw [e1] at h1
      obtain ⟨a, vs, rfl, r, rr⟩ := Rep.sqT rv
      refine .inl ⟨a, vs, rfl, r, by rw [← rr.length]; exact gMany_len e1, ?_⟩
      exact gMany_ok (all := is) e1 (fun i hi => hi) (he.step s1) rr fun σ' he' _ => (Go.run h1 q1) σ' he'
  · rename_i xs
    cases e1 : setMany is xs ρ with
    | none => rw [e1] at h1; exact False.elim h1
    | some ρ' =>
      rw [e1] at h1
      obtain ⟨a, vs, rfl, r, rr⟩ : ∃ a vs, v = V.ref a ∧ Rd H1 a (.lst vs) ∧ RepL _ _ H1 xs vs := by
        cases (show Rep _ _ H1 (.lst xs) v from rv) with
        | lst h r e => exact ⟨_, _, rfl, r, e⟩
      refine .inr ⟨a, vs, rfl, .inl r, by rw [← rr.length]; exact gMany_len e1, ?_⟩
      exact gMany_ok (all := is) e1 (fun i hi => hi) (he.step s1) rr fun σ' he' _ => (Go.run h1 q1) σ' he'
  · exact False.elim h1
theorem ps_unpW {is : List Nat} {e : Ex} {ts : List Expr} {k : Nat} {p pos : Pos} {y : Expr} (c : CxOk XT T Γ N X W sc) (fn : ∀ x, X.fn x = true) (ht : chkTgs N (isTg sc fun _ => true) is ts = true) (hy : chkE T N sc e y = true) (h1 : (!isTuple y || cellT sc ts) = true) :
    PS X (.Assign [.Tuple ts k p] y pos) (tAsg (tW XT X.KF W (evE Γ e)) (gTL X.KF is.length (gMany is))) := by
  obtain ⟨k1, k2, k3⟩ := pgs_many (cell := fun _ => true) c.n c.nd c.scope (fun x _ => fn x) ht
  refine ps_asg (peS e c y hy) (pg_tl c.calm k1 k2 k3) (by show swapsWith y (some (.Tuple ts k p)) pos.line X.env = pure false; exact swaps_tup) ?_ rfl
  rcases Bool.or_eq_true_iff.mp h1 with h1 | h1
  · cases y <;> first | rfl | cases h1
  · have hc : cellT X.env.scope ts = true := by rw [c.scope]; exact h1
    cases y <;> first | rfl | exact swapped_cell hc
end
mutual
theorem psW : ∀ (s : Sm) {X : Cx} {W : WX} {sc : Scope} (c : CxOk XT T Γ N X W sc) (fn : ∀ x, X.fn x = true) (ps : Stmt), simS s = true → chkS T N sc s ps = true → PS X ps (tSW XT X.KF W (exS Γ s))
  | .expr e, X, W, sc, c, fn, ps, _, h => by
    unfold chkS at h
    split at h <;> try (rename_i z; cases z)
    · simp only [Bool.and_eq_true, Bool.not_eq_true'] at h
      exact PS.weak (ps_expr (peS e c _ h.1) (swaps_no h.2 _ _ _)) fun D σ H h => w_expr h
    · cases h
  | .set i e, X, W, sc, c, fn, ps, hs, h => by
    cases e with
    | call f es =>
      unfold chkS at h
      split at h <;> try (rename_i z; cases z)
      · simp only [Bool.and_eq_true, decide_eq_true_eq] at h
        obtain ⟨l1, l2⟩ := isTg_loc h.1.2
        obtain ⟨x', p, xs, q, e, _⟩ := chk_call h.2
        subst e
        have hLC : isLC (.Call (.Name x' p) xs [] q) = false := rfl
        exact PS.weak (ps_set (i := i) c.nd (by rw [c.n]; exact h.1.1) (by rw [c.scope]; exact l1) (peS _ c _ h.2) (swaps_no hLC _ _ _) (.inl (fn _))) fun D σ H h => w_set h
      · cases h
    | _ => simp [simS] at hs
  | .ife d a b, X, W, sc, c, fn, ps, hs, h => by
    unfold chkS at h
    unfold simS at hs
    split at h <;> try (rename_i z; cases z)
    · simp only [Bool.and_eq_true] at h hs
      exact PS.weak (ps_if (ptS d c _ h.1.1) (pssW a c fn _ hs.1 h.1.2) (pssW b c fn _ hs.2 h.2)) fun D σ H h => w_ife h
    · cases h
  | .setL _ _, X, W, sc, c, fn, ps, hs, h => by simp [simS] at hs
  | .unp is e, X, W, sc, c, fn, ps, hs, h => by
    unfold chkS at h
    split at h <;> try (rename_i z; cases z)
    · simp only [Bool.and_eq_true] at h
      exact PS.weak (ps_unpW c fn h.1.1 h.1.2 h.2) fun D σ H h => w_unp h
    · cases h
  | .ret _, X, W, sc, c, fn, ps, hs, h => by simp [simS] at hs
  | .forS _ _ _, X, W, sc, c, fn, ps, hs, h => by simp [simS] at hs
  | .whl _ _, X, W, sc, c, fn, ps, hs, h => by simp [simS] at hs
  | .app _ _, X, W, sc, c, fn, ps, hs, h => by simp [simS] at hs
  | .ext _ _, X, W, sc, c, fn, ps, hs, h => by simp [simS] at hs
  | .put _ _ _, X, W, sc, c, fn, ps, hs, h => by simp [simS] at hs
  | .upd _ _, X, W, sc, c, fn, ps, hs, h => by simp [simS] at hs
  | .popd _ _, X, W, sc, c, fn, ps, hs, h => by simp [simS] at hs
  | .brk, X, W, sc, c, fn, ps, hs, h => by simp [simS] at hs
  | .cnt, X, W, sc, c, fn, ps, hs, h => by simp [simS] at hs
  | .pass, X, W, sc, c, fn, ps, hs, h => by simp [simS] at hs
  | .never, X, W, sc, c, fn, ps, hs, h => by simp [simS] at hs
  | .rai _, X, W, sc, c, fn, ps, hs, h => by simp [simS] at hs
  | .raiF _ _, X, W, sc, c, fn, ps, hs, h => by simp [simS] at hs
  | .par _ _ _ _, X, W, sc, c, fn, ps, hs, h => by simp [simS] at hs
  | .tryV _ _ _ _, X, W, sc, c, fn, ps, hs, h => by simp [simS] at hs
  | .tryN _ _, X, W, sc, c, fn, ps, hs, h => by simp [simS] at hs
  | .tryX _ _ _ _ _, X, W, sc, c, fn, ps, hs, h => by simp [simS] at hs
  | .tryR _ _ _, X, W, sc, c, fn, ps, hs, h => by simp [simS] at hs
  | .quo _, X, W, sc, c, fn, ps, hs, h => by simp [simS] at hs
theorem pssW : ∀ (s : Sms) {X : Cx} {W : WX} {sc : Scope} (c : CxOk XT T Γ N X W sc) (fn : ∀ x, X.fn x = true) (ps : List Stmt), simSs s = true → chkSs T N sc s ps = true → PSs X ps (tSW XT X.KF W (exSs Γ s))
  | .nil, X, W, sc, c, fn, ps, _, h => by
    cases ps with
    | nil => exact PSs.weak pss_nil fun D σ H h => w_nil h
    | cons _ _ => unfold chkSs at h; cases h
  | .cons s .nil, X, W, sc, c, fn, ps, hs, h => by
    unfold simSs at hs
    simp only [Bool.and_eq_true] at hs
    cases ps with
    | nil => unfold chkSs at h; cases h
    | cons p ps =>
      unfold chkSs at h
      simp only [Bool.and_eq_true] at h
      cases ps with
      | nil => exact PSs.weak (pss_one (psW s c fn p hs.1 h.1)) fun D σ H h => w_one h
      | cons _ _ => have h2 := h.2; unfold chkSs at h2; cases h2
  | .cons s (.cons _ _), X, W, sc, c, fn, ps, hs, h => by simp [simSs] at hs
end
theorem kit_of {k c : Nat} {C D : Addr} (h : PySem.W.kitCls K (.ref C) (.ref D) = some (subB k c)) (h2 : C = D → subB k c = true) : PySem.W.kitOne K (.ref C) (.ref D) = some (subB k c) := by
  unfold PySem.W.kitOne
  split
  · rename_i e
    rw [h2 (Value.ref.inj (beq_iff_eq.mp e))]
  · exact h
theorem boot_ve : bootBuiltins ("ValueError" : Str) = some (.type "ValueError") := by decide +kernel
theorem ld_class {W : WX} {x : Str} {C : Addr} {pos : Pos} (c : CxOk XT T Γ N X W sc) (hg : isGl sc x = true) (hm : X.mg x = some (.ref C)) {a : Addr} {pn : List (Addr × Obj)} : PE (X.suite a pn) (.Name x pos) (tC (.ref C)) :=
  ⟨fun pins s σ H Q I h => ld_glob I (c.gl hg) hm ⟨.ref C, H, I, rfl, h⟩ (isGl_gl hg).2⟩
/-- the caught exception's dict, as the suite finds it -/
def XH (XT : Xt) (k : Nat) (d : Option Addr) (vs : List V) (H : Hp) : Prop := vs.length = (XT.flds k).length ∧ ((vs = [] ∧ d = none) ∨ ∃ dd, d = some dd ∧ H dd = some (.xd ((XT.flds k).zip vs)))
theorem XH.is {k : Nat} {d : Option Addr} {vs : List V} (h : XH XT k d vs H) : d = none ∨ ∃ dd fs, d = some dd ∧ H dd = some (.xd fs) := by
  rcases h.2 with ⟨_, e⟩ | ⟨dd, e1, e2⟩
  · exact .inl e
  · exact .inr ⟨dd, _, e1, e2⟩
theorem pe_isX {W : WX} {i : Nat} {n z : Str} {C a : Addr} {d : Option Addr} {oe : Obj} {pn : List (Addr × Obj)} {cv : V} {u : Value} {b : Bool} {k : Nat} {evs : List V} {p1 p2 p3 p4 : Pos} (c : CxOk XT T Γ N X W sc) (hi : N[i]? = some n) (hv : isVis sc n = true) (x8 : L2.ExcC X.KF C) (hz : Zc (.ref C) d oe) (hf : ∃ vs, oe.data = .fields vs) (hg : isGl sc "isinstance" = true)
    (hT : PE (X.suite a ((a, oe) :: pn)) (.Name z p3) (tC cv)) (hcv : ∀ u', RelV cv u' → u' = u) (hk : PySem.W.kitOne X.KF (.ref C) u = some b) :
    PE (X.suite a ((a, oe) :: pn)) (.Call (.Name "isinstance" p1) [.Name n p2, .Name z p3] [] p4) (fun σ H Q => σ[i]? = some (some (.ref a)) ∧ XH XT k d evs H ∧ Q (.bl b) H) := by
  obtain ⟨v1, v2, v3⟩ := isVis_vis hv
  have hV : PE (X.suite a ((a, oe) :: pn)) (.Name n p2) (tVar i) := pe_var (i := i) (by show X.N[i]? = _; rw [c.n]; exact hi) (by show Vis X.env.scope n; rw [c.scope]; exact v1) v2 v3
  exact PE.weak (pe_callB (X := X.suite a ((a, oe) :: pn)) (call_isEF x8 hz hf) (c.gl hg) (c.blt "isinstance" (by decide)) boot_isi (pa_cons hV (pa_cons hT pa_nil rfl) rfl) (by decide +kernel) (isGl_gl hg).2 rfl rfl) fun σ H Q h => ⟨.ref a, h.1, h.2.1.is, cv, u, b, rfl, hcv, hk, h.2.2⟩
theorem chkX_isi {n : Str} {o : Option Nat} {e : Expr} (h : chkX T sc n (.isi o) e = true) : ∃ p1 p2 z p3 p4, e = .Call (.Name "isinstance" p1) [.Name n p2, .Name z p3] [] p4 ∧ isGl sc "isinstance" = true ∧ isGl sc z = true ∧ ((o = none ∧ z = "ValueError") ∨ ∃ k fl, o = some k ∧ T.xcs[k]? = some (z, fl)) := by
  unfold chkX at h
  split at h <;> rename_i z1 <;> first | (cases z1; done) | skip
  · cases z1
    simp only [Bool.and_eq_true, decide_eq_true_eq] at h
    obtain ⟨⟨⟨⟨rfl, h2⟩, rfl⟩, rfl⟩, h5⟩ := h
    exact ⟨_, _, _, _, _, rfl, h2, h5, .inl ⟨rfl, rfl⟩⟩
  · cases z1
    simp only [Bool.and_eq_true, decide_eq_true_eq] at h
    obtain ⟨⟨⟨⟨rfl, h2⟩, rfl⟩, h4⟩, h5⟩ := h
    obtain ⟨⟨z0, fl⟩, e1, e2⟩ := Option.map_eq_some_iff.mp h4
    have e2 : z0 = _ := e2
    subst e2
    exact ⟨_, _, _, _, _, rfl, h2, h5, .inr ⟨_, fl, rfl, e1⟩⟩
  · cases h
theorem chkX_not {n : Str} {y : Xe} {e : Expr} (h : chkX T sc n (.not y) e = true) : ∃ f p, e = .UnaryOp .Not f p ∧ chkX T sc n y f = true := by
  unfold chkX at h
  split at h <;> rename_i z1 <;> first | (cases z1; done) | skip
  · cases z1
    exact ⟨_, _, rfl, h⟩
  · cases h
theorem chkX_and {n : Str} {y z : Xe} {e : Expr} (h : chkX T sc n (.and y z) e = true) : ∃ f g p, e = .BoolOp .And [f, g] p ∧ chkX T sc n y f = true ∧ chkX T sc n z g = true := by
  unfold chkX at h
  split at h <;> rename_i z1 <;> first | (cases z1; done) | skip
  · cases z1
    simp only [Bool.and_eq_true] at h
    exact ⟨_, _, _, rfl, h.1, h.2⟩
  · cases h
theorem chkX_or {n : Str} {y z : Xe} {e : Expr} (h : chkX T sc n (.or y z) e = true) : ∃ f g p, e = .BoolOp .Or [f, g] p ∧ chkX T sc n y f = true ∧ chkX T sc n z g = true := by
  unfold chkX at h
  split at h <;> rename_i z1 <;> first | (cases z1; done) | skip
  · cases z1
    simp only [Bool.and_eq_true] at h
    exact ⟨_, _, _, rfl, h.1, h.2⟩
  · cases h
section
variable {W : WX} {k i : Nat} {n : Str} {C a : Addr} {d : Option Addr} {oe : Obj} {pn : List (Addr × Obj)} {evs : List V}
theorem pe_xe (c : CxOk XT T Γ N X W sc) (hi : N[i]? = some n) (hv : isVis sc n = true) (x1 : XT.cls k = some (.ref C)) (x8 : XsOk XT X.KF k C) (hz : Zc (.ref C) d oe) (hf : ∃ vs, oe.data = .fields vs) :
    ∀ (x : Xe) (e : Expr), chkX T sc n x e = true → PE (X.suite a ((a, oe) :: pn)) e (fun σ H Q => σ[i]? = some (some (.ref a)) ∧ XH XT k d evs H ∧ Q (.bl (xeB k x)) H)
  | .isi o, e, h => by
    obtain ⟨p1, p2, z, p3, p4, rfl, g1, g2, hq⟩ := chkX_isi h
    rcases hq with ⟨rfl, rfl⟩ | ⟨k', fl, rfl, hq⟩
    · exact pe_isX c hi hv x8.1 hz hf g1 (pe_bltn (X := X.suite a ((a, oe) :: pn)) (v := .ty "ValueError") (c.gl g2) (c.blt "ValueError" (by decide)) boot_ve rfl (by decide +kernel) (isGl_gl g2).2) (fun u' r => r) x8.2.1
    · obtain ⟨D, y1, y3, y6, y8⟩ := c.xc.2.2.1 _ _ _ hq
      refine pe_isX c hi hv x8.1 hz hf g1 (ld_class c g2 y3) (fun u' r => r) (kit_of (k := k) (c := k') (x8.2.2 k' D y1) fun e => ?_)
      subst e
      have q1 := x8.2.2 k' C y1
      have q2 := y8.2.2 k' C y1
      rw [q1] at q2
      rw [Option.some.inj q2]
      unfold subB
      simp
  | .not y, e, h => by
    obtain ⟨f, p, rfl, h⟩ := chkX_not h
    exact PE.weak (pe_not (pe_xe c hi hv x1 x8 hz hf y f h)) fun σ H Q q => ⟨q.1, q.2.1, _, rfl, q.2.2⟩
  | .and y z, e, h => by
    obtain ⟨f, g, p, rfl, h1, h2⟩ := chkX_and h
    refine PE.weak (pe_and (pe_xe c hi hv x1 x8 hz hf y f h1) (pe_one (pe_xe c hi hv x1 x8 hz hf z g h2))) fun σ H Q q => ⟨q.1, q.2.1, _, rfl, ?_⟩
    have q2 := q.2.2
    unfold xeB at q2
    cases e : xeB k y with
    | true => rw [e, Bool.true_and] at q2; exact ⟨q.1, q.2.1, q2⟩
    | false => rw [e, Bool.false_and] at q2; exact q2
  | .or y z, e, h => by
    obtain ⟨f, g, p, rfl, h1, h2⟩ := chkX_or h
    refine PE.weak (pe_or (pe_xe c hi hv x1 x8 hz hf y f h1) (pe_one (pe_xe c hi hv x1 x8 hz hf z g h2))) fun σ H Q q => ⟨q.1, q.2.1, _, rfl, ?_⟩
    have q2 := q.2.2
    unfold xeB at q2
    cases e : xeB k y with
    | false => rw [e, Bool.false_or] at q2; exact ⟨q.1, q.2.1, q2⟩
    | true => rw [e, Bool.true_or] at q2; exact q2
/-- what shows a suite's answer -/
def xvV (k : Nat) (evs : List V) : Xv → Option V
  | .b x => some (.bl (xeB k x))
  | .fld j => evs[j]?
  | .str s => some (.str (toS s))
  | .non => some .non
  | .sel _ _ _ => none
def xvsV (k : Nat) (evs : List V) : List Xv → Option (List V)
  | [] => some []
  | x :: xs => (xvV k evs x).bind fun v => (xvsV k evs xs).map (v :: ·)
theorem zip_lookup : ∀ {fl : List Str} {vs : List V} {j : Nat} {f : Str} {v : V}, fl.Nodup → fl[j]? = some f → vs[j]? = some v → (fl.zip vs).lookup f = some v
  | [], _, _, _, _, _, h, _ => by simp at h
  | _ :: _, [], _, _, _, _, _, h => by simp at h
  | g :: fl, u :: vs, 0, f, v, _, h1, h2 => by
    simp at h1 h2
    subst h1
    subst h2
    simp [List.lookup]
  | g :: fl, u :: vs, j + 1, f, v, nd, h1, h2 => by
    have nd := List.nodup_cons.mp nd
    have h1' : fl[j]? = some f := by simpa using h1
    have ne : (f == g) = false := by
      have : f ∈ fl := List.mem_of_getElem? h1'
      exact beq_eq_false_iff_ne.mpr fun z => nd.1 (by rw [← z]; exact this)
    rw [List.zip_cons_cons, List.lookup_cons, ne]
    exact zip_lookup nd.2 h1' (by simpa using h2)
theorem chkV_b {c : Nat} {x : Xe} {e : Expr} : chkV T sc n c (.b x) e = chkX T sc n x e := by unfold chkV; rfl
theorem chkV_fld {c j : Nat} {e : Expr} (h : chkV T sc n c (.fld j) e = true) : ∃ p f p2, e = .Attribute (.Name n p) f p2 ∧ c ≠ 0 ∧ c ∈ T.xfs ∧ (T.xcs[c]?).bind (fun p => p.2[j]?) = some f ∧ (match T.xcs[c]? with | some p => decide p.2.Nodup | none => false) = true := by
  cases e with
  | Attribute o f p2 =>
    cases o with
    | Name y p =>
      unfold chkV at h
      simp only [Bool.and_eq_true, decide_eq_true_eq] at h
      obtain ⟨⟨⟨⟨rfl, h0⟩, h2⟩, h3⟩, h4⟩ := h
      exact ⟨p, f, p2, rfl, h0, h2, h3, h4⟩
    | _ => unfold chkV at h; cases h
  | _ => unfold chkV at h; cases h
theorem chkV_str {c : Nat} {s : List Nat} {e : Expr} (h : chkV T sc n c (.str s) e = true) : ∃ k p, e = .Constant (.str (toS s)) k p ∧ okS s := by
  cases e with
  | Constant v k p =>
    cases v with
    | str x =>
      unfold chkV at h
      simp only [Bool.and_eq_true, decide_eq_true_eq, List.all_eq_true] at h
      obtain ⟨⟨rfl, h2⟩, h3⟩ := h
      exact ⟨k, p, rfl, h2, h3⟩
    | _ => unfold chkV at h; cases h
  | _ => unfold chkV at h; cases h
theorem chkV_non {c : Nat} {e : Expr} (h : chkV T sc n c .non e = true) : ∃ k p, e = .Constant .none k p := by
  cases e with
  | Constant v k p =>
    cases v with
    | none => exact ⟨k, p, rfl⟩
    | _ => unfold chkV at h; cases h
  | _ => unfold chkV at h; cases h
theorem pe_xv {kc : Nat} {x : Xv} {e : Expr} (c : CxOk XT T Γ N X W sc) (hi : N[i]? = some n) (hv : isVis sc n = true) (x1 : XT.cls k = some (.ref C)) (x8 : XsOk XT X.KF k C) (sk : subB k kc = true) (hz : Zc (.ref C) d oe) (hf : ∃ vs, oe.data = .fields vs) (h : chkV T sc n kc x e = true) :
    PE (X.suite a ((a, oe) :: pn)) e (fun σ H Q => σ[i]? = some (some (.ref a)) ∧ XH XT k d evs H ∧ ∃ v, xvV k evs x = some v ∧ Q v H) := by
  cases x with
  | b x =>
    rw [chkV_b] at h
    refine PE.weak (pe_xe (evs := evs) c hi hv x1 x8 hz hf x e h) fun σ H Q q => ⟨q.1, q.2.1, ?_⟩
    obtain ⟨_, _, v, ev, q⟩ := q
    cases ev
    exact q
  | fld j =>
    obtain ⟨p, f, p2, rfl, h0, h2, h3, h4⟩ := chkV_fld h
    have ek : k = kc := by
      unfold subB at sk
      rcases Bool.or_eq_true_iff.mp sk with q | q
      · exact absurd (beq_iff_eq.mp q) h0
      · exact beq_iff_eq.mp q
    subst ek
    obtain ⟨⟨z0, fl⟩, e1, e2⟩ := Option.bind_eq_some_iff.mp h3
    obtain ⟨C', fI, fd, ps, y1, y2, y3, y4, y5, y6, y7, y8⟩ := c.xc.2.2.2 _ _ _ h2 e1
    rw [x1] at y1
    cases y1
    rw [e1] at h4
    have nd : fl.Nodup := of_decide_eq_true h4
    have e2 : fl[j]? = some f := e2
    obtain ⟨v1, v2, v3⟩ := isVis_vis hv
    have hV : ∀ p, PE (X.suite a ((a, oe) :: pn)) (.Name n p) (tVar i) := fun p => pe_var (i := i) (by show X.N[i]? = _; rw [c.n]; exact hi) (by show Vis X.env.scope n; rw [c.scope]; exact v1) v2 v3
    refine PE.weak (pe_xf (X := X) (C := C) ⟨x8.1.hg, x8.1.hk, x8.1.hs, x8.1.hd⟩ (y5 f (List.mem_of_getElem? e2)) hz hf (hV _) rfl) fun σ H Q q => ?_
    obtain ⟨q1, ⟨q2, q3⟩, v, q4, q5⟩ := q
    have q4 : evs[j]? = some v := q4
    refine ⟨.ref a, q1, rfl, rfl, ?_⟩
    rcases q3 with ⟨q3, _⟩ | ⟨dd, q3, q6⟩
    · rw [q3] at q4; simp at q4
    · exact ⟨dd, _, v, q3, q6, by rw [y2]; exact zip_lookup nd e2 q4, q5⟩
  | str s =>
    obtain ⟨_, _, rfl, _⟩ := chkV_str h
    refine PE.weak (pe_str (X := X.suite a ((a, oe) :: pn))) fun σ H Q q => ?_
    obtain ⟨_, _, v, ev, q⟩ := q
    cases ev
    exact q
  | non =>
    obtain ⟨_, _, rfl⟩ := chkV_non h
    refine PE.weak (pe_non (X := X.suite a ((a, oe) :: pn))) fun σ H Q q => ?_
    obtain ⟨_, _, v, ev, q⟩ := q
    cases ev
    exact q
  | sel _ _ _ => cases e <;> (unfold chkV at h; cases h)
theorem pa_xs {kc : Nat} (c : CxOk XT T Γ N X W sc) (hi : N[i]? = some n) (hv : isVis sc n = true) (x1 : XT.cls k = some (.ref C)) (x8 : XsOk XT X.KF k C) (sk : subB k kc = true) (hz : Zc (.ref C) d oe) (hf : ∃ vs, oe.data = .fields vs) :
    ∀ (xs : List Xv) (es : List Expr), chkXs T sc n kc xs es = true → PA (X.suite a ((a, oe) :: pn)) es (fun σ H Q => σ[i]? = some (some (.ref a)) ∧ XH XT k d evs H ∧ ∃ vs, xvsV k evs xs = some vs ∧ Q vs H)
  | [], [], h => ⟨fun p pins s σ H Q I q => by
      obtain ⟨_, _, vs, ev, q⟩ := q
      cases ev
      exact pa_nil.run p pins s σ H Q I q⟩
  | x :: xs, e :: es, h => by
    unfold chkXs at h
    simp only [Bool.and_eq_true] at h
    have h1 := pe_xv (a := a) (pn := pn) (evs := evs) c hi hv x1 x8 sk hz hf h.1.1
    have h2 := pa_xs c hi hv x1 x8 sk hz hf xs es h.2
    refine ⟨fun p pins s σ H Q I q => (pa_cons h1 h2 (plainE_star h.1.2 _ _)).run p pins s σ H Q I ?_⟩
    obtain ⟨q1, q2, vs, ev, q3⟩ := q
    unfold xvsV at ev
    obtain ⟨v, e1, e2⟩ := Option.bind_eq_some_iff.mp ev
    obtain ⟨us, e3, rfl⟩ := Option.map_eq_some_iff.mp e2
    exact ⟨q1, q2, v, e1, q1, q2, us, e3, q3⟩
  | [], _ :: _, h => by unfold chkXs at h; cases h
  | _ :: _, [], h => by unfold chkXs at h; cases h
theorem rep_xv {kc : Nat} {x : Xv} {e : Expr} {av : List Addr} {fs : List Dt} {dt : Dt} (h : chkV T sc n kc x e = true) (r : RepL K av H fs evs) (ed : xvD k fs x = some dt) : ∃ v, xvV k evs x = some v ∧ Rep K av H dt v := by
  cases x with
  | b x => cases ed; exact ⟨_, rfl, .bl _⟩
  | fld j =>
    have ed : (if k = 0 then none else fs[j]?) = some dt := ed
    split at ed
    · cases ed
    · obtain ⟨v, e1, r1⟩ := r.get ed
      exact ⟨v, e1, r1⟩
  | str s =>
    cases ed
    obtain ⟨_, _, _, ok⟩ := chkV_str h
    exact ⟨_, rfl, .str s ok⟩
  | non => cases ed; exact ⟨_, rfl, .non⟩
  | sel _ _ _ => cases e <;> (unfold chkV at h; cases h)
theorem rep_xvs {kc : Nat} {av : List Addr} {fs : List Dt} (r : RepL K av H fs evs) : ∀ {xs : List Xv} {es : List Expr} {ds : List Dt}, chkXs T sc n kc xs es = true → xvsD k fs xs = some ds → ∃ vs, xvsV k evs xs = some vs ∧ RepL K av H ds vs
  | [], _, ds, h, ed => by cases ed; exact ⟨[], rfl, .nil⟩
  | x :: xs, [], ds, h, ed => by unfold chkXs at h; cases h
  | x :: xs, e :: es, ds, h, ed => by
    unfold chkXs at h
    simp only [Bool.and_eq_true] at h
    unfold xvsD at ed
    obtain ⟨y, e1, e2⟩ := Option.bind_eq_some_iff.mp ed
    obtain ⟨ys, e3, rfl⟩ := Option.map_eq_some_iff.mp e2
    obtain ⟨v, f1, r1⟩ := rep_xv h.1.1 r e1
    obtain ⟨vs, f2, r2⟩ := rep_xvs r h.2 e3
    exact ⟨v :: vs, by unfold xvsV; rw [f1, f2]; rfl, .cons r1 r2⟩
end
section
variable {k : Nat} {C a : Addr} {d : Option Addr} {oe : Obj} {pn : List (Addr × Obj)} {evs : List V} {n : Str} {i : Nat} {W : WX}
theorem boot_int : bootBuiltins ("int" : Str) = some (.type "int") := by decide +kernel
theorem XH.at_new {vs : List V} {H : Hp} {p : Addr} {o : HO} (h : XH XT k d vs H) (hp : H p = none) : XH XT k d vs (upd H p o) := by
  refine ⟨h.1, h.2.imp id fun ⟨dd, e1, e2⟩ => ⟨dd, e1, ?_⟩⟩
  rw [upd_ne (fun z => by rw [z, hp] at e2; cases e2)]
  exact e2
/-- ("..", "..")[int(..)] -/
theorem pe_selX {x : Xe} {e : Expr} {s t : List Nat} {k1 k2 k3 : _} {p1 p2 p3 p4 p5 p6 : Pos} (c : CxOk XT T Γ N X W sc) (hi : N[i]? = some n) (hv : isVis sc n = true) (x1 : XT.cls k = some (.ref C)) (x8 : XsOk XT X.KF k C) (hz : Zc (.ref C) d oe) (hf : ∃ vs, oe.data = .fields vs)
    (hg : isGl sc ("int" : Str) = true) (h : chkX T sc n x e = true) (hy : plainE e = true) :
    PE (X.suite a ((a, oe) :: pn)) (.Subscript (.Tuple [.Constant (.str (toS s)) k1 p1, .Constant (.str (toS t)) k2 p2] k3 p3) (.Call (.Name "int" p4) [e] [] p5) p6)
      (fun σ H Q => σ[i]? = some (some (.ref a)) ∧ XH XT k d evs H ∧ NewT H [.str (toS s), .str (toS t)] fun _ H' => Q (.str (if xeB k x = true then toS t else toS s)) H') := by
  have hT := pe_tupF (k := k3) (pos := p3) (pa_cons (pe_str (X := X.suite a ((a, oe) :: pn)) (x := toS s) (j := k1) (pos := p1)) (pa_cons (pe_str (X := X.suite a ((a, oe) :: pn)) (x := toS t) (j := k2) (pos := p2)) pa_nil rfl) rfl)
  have hE := pe_xe (a := a) (pn := pn) (evs := evs) c hi hv x1 x8 hz hf x e h
  have hI : PE (X.suite a ((a, oe) :: pn)) (.Call (.Name "int" p4) [e] [] p5) _ := pe_callTy (X := X.suite a ((a, oe) :: pn)) call_int1 (c.gl hg) (c.blt "int" (by decide)) boot_int (pa_cons hE pa_nil (plainE_star hy _ _)) (by decide) (isGl_gl hg).2 (plainE_star hy _ _) rfl
  refine PE.weak (pe_ix ix_seq hT hI (fun _ _ => rfl)) fun σ H Q q => ?_
  obtain ⟨q1, q2, q3⟩ := q
  refine ⟨by show 2 ≤ sizeLine; rw [sizeLine_eq]; decide, fun p o hp ho => ⟨q1, q2.at_new hp, .inr ⟨_, rfl, ?_⟩⟩⟩
  refine .inr (.inl ⟨p, _, (if xeB k x = true then 1 else 0), _, rfl, rfl, .inl (.inr ⟨o, upd_same⟩), ?_, q3 p o hp ho⟩)
  cases xeB k x <;> rfl
end
/-- the suite's reading -/
def tsX (XT : Xt) (K : KF) (kc i j : Nat) (xs : Xs) (a : Addr) (cls : Value) (d : Option Addr) : TS := fun D σ H => ∃ k C evs, cls = .ref C ∧ XT.cls k = some (.ref C) ∧ XsOk XT K k C ∧ subB k kc = true ∧ σ[i]? = some (some (.ref a)) ∧ XH XT k d evs H ∧
  match xs with
  | .one x => ∃ v, xvV k evs x = some v ∧ D.nx (σ.set j (some v)) H
  | .many xs => ∃ vs, xvsV k evs xs = some vs ∧ vs.length ≤ sizeLine ∧ NewT H vs fun v H' => D.nx (σ.set j (some v)) H'
  | .sel s t x => NewT H [.str (toS s), .str (toS t)] fun _ H' => D.nx (σ.set j (some (.str (if xeB k x = true then toS t else toS s)))) H'
theorem ps_suiteX {kc i j : Nat} {xs : Xs} {n y : Str} {a : Addr} {oe : Obj} {cls : Value} {d : Option Addr} {pn : List (Addr × Obj)} {e : Expr} {p1 p3 : Pos} (c : SxOk XT T Γ N X E sc) (hi : N[i]? = some n) (hv : isVis sc n = true) (hj : N[j]? = some y) (hy : isTg sc (fun _ => true) y = true)
    (hx : chkXS T sc n kc xs e = true) (hz : Zc cls d oe) (hf : ∃ vs, oe.data = .fields vs) : PSs (X.suite a ((a, oe) :: pn)) [.Assign [.Name y p1] e p3] (tsX XT X.KF kc i j xs a cls d) := by
  refine ⟨fun pins s σ H D I q => ?_⟩
  obtain ⟨k', C, evs, rfl, x1, x8, sk, q1, qx, q3⟩ := q
  obtain ⟨l1, l2⟩ := isTg_loc hy
  cases xs with
  | one x =>
    unfold chkXS at hx
    simp only [Bool.and_eq_true, Bool.not_eq_true'] at hx
    have hE := pe_xv (a := a) (pn := pn) (evs := evs) c.cx hi hv x1 x8 sk hz hf hx.1
    exact (pss_one (ps_set (X := X.suite a ((a, oe) :: pn)) (i := j) (pos' := p1) (pos := p3) c.cx.nd (by show X.N[j]? = _; rw [c.cx.n]; exact hj) (by show Loc X.env.scope y; rw [c.cx.scope]; exact l1) hE (swaps_no hx.2 _ _ _) (.inl (c.fn y)))).run pins s σ H D I ⟨q1, qx, q3⟩
  | many xs =>
    unfold chkXS at hx
    split at hx <;> rename_i z1 <;> first | (cases z1; done) | skip
    · cases z1
      obtain ⟨vs, q4, q5, q6⟩ := q3
      rename_i es0 k0 p0
      have hE := pe_tupF (k := k0) (pos := p0) (pa_xs (a := a) (pn := pn) (evs := evs) c.cx hi hv x1 x8 sk hz hf xs _ hx)
      exact (pss_one (ps_set (X := X.suite a ((a, oe) :: pn)) (i := j) (pos' := p1) (pos := p3) c.cx.nd (by show X.N[j]? = _; rw [c.cx.n]; exact hj) (by show Loc X.env.scope y; rw [c.cx.scope]; exact l1) hE rfl (.inl (c.fn y)))).run pins s σ H D I ⟨q1, qx, vs, q4, q5, q6⟩
    · cases hx
  | sel s' t' x =>
    unfold chkXS at hx
    split at hx <;> rename_i z1 <;> first | (cases z1; done) | skip
    · cases z1
      simp only [Bool.and_eq_true, decide_eq_true_eq] at hx
      obtain ⟨⟨⟨⟨⟨⟨⟨⟨⟨rfl, rfl⟩, _⟩, _⟩, _⟩, _⟩, rfl⟩, hg⟩, h7⟩, h8⟩ := hx
      rename_i k1 p1' k2 p2' k3 p3' p4 e0 p5 p6 _ _ _ _
      have hE := pe_selX (a := a) (pn := pn) (evs := evs) (s := s') (t := t') (k1 := k1) (p1 := p1') (k2 := k2) (p2 := p2') (k3 := k3) (p3 := p3') (p4 := p4) (p5 := p5) (p6 := p6) c.cx hi hv x1 x8 hz hf hg h7 h8
      exact (pss_one (ps_set (X := X.suite a ((a, oe) :: pn)) (i := j) (pos' := p1) (pos := p3) c.cx.nd (by show X.N[j]? = _; rw [c.cx.n]; exact hj) (by show Loc X.env.scope y; rw [c.cx.scope]; exact l1) hE rfl (.inl (c.fn y)))).run pins s σ H D I ⟨q1, qx, q3⟩
    · cases hx
theorem EnvOk.wipeAt {i : Nat} {ρ : Ev} {σ2 : L2.St} (h : EnvOk K fo φ H ρ σ) (hl : σ2.length = σ.length) (ha : ∀ m, m ≠ i → σ2[m]? = σ[m]?) : EnvOk K fo φ H (ρ.set i none) σ2 := by
  refine ⟨by rw [List.length_set, h.len, hl], fun m w e => ?_⟩
  by_cases hm : m = i
  · subst hm
    rw [List.getElem?_set] at e
    simp only [if_true] at e
    split at e <;> cases e
  · rw [List.getElem?_set_ne (Ne.symm hm)] at e
    obtain ⟨v, e1, r⟩ := h.at_ m w e
    exact ⟨v, by rw [ha m hm]; exact e1, r⟩
theorem repL_bls : ∀ (bs : List Bool) {av : List Addr}, RepL K av H (bs.map Dt.bl) (bs.map V.bl)
  | [], _ => .nil
  | b :: bs, _ => .cons (.bl b) (repL_bls bs)
theorem s_tryX {c i j : Nat} {xs : Xs} {b : Sms} {D : Ends} {C : Addr} {n : Str} {e : Expr} (hx : chkXS T sc n c xs e = true) (hxc : ∀ (k : Nat) (C : Value), XT.cls k = some C → ∃ A, C = .ref A ∧ XsOk XT K k A) (x1 : XT.cls c = some (.ref C)) (x6 : PySem.W.subIn K (.ref C) (.type "BaseException") = some true)
    (h : tS XT K E (exS Γ (.tryX c b i j xs)) D σ H) : tSW XT K (wAs K (.ref C) i (tsX XT K c i j xs) (WEE E) D) (exSs Γ b) D σ H := by
  obtain ⟨fo, φ, ρ, st, hs, he, h⟩ := h
  refine ⟨fo, φ, ρ, st, hs, he, ?_⟩
  unfold exS at h
  cases e : exSs Γ b ρ st with
  | ok p => rw [e] at h; exact h
  | bad => rw [e] at h; exact h
  | exc k' fs sx =>
    rw [e] at h
    unfold tryW at h
    dsimp only at h
    split at h
    case isFalse => exact h.elim
    rename_i hh
    obtain ⟨g1, g3, g4⟩ := hh
    intro φ' H' s' q' cls d xr
    obtain ⟨e1, e2, e3⟩ := xr
    obtain ⟨A, rfl, x8⟩ := hxc k' cls e1
    have hex : PySem.W.exmOne K (.ref A) (.ref C) = some true := by
      unfold PySem.W.exmOne
      rw [x6]
      have := x8.2.2 c C x1
      rw [g1] at this
      simpa using this
    obtain ⟨evs, xh, rl⟩ : ∃ evs, XH XT k' d evs H' ∧ RepL K (fo ++ φ') H' fs evs := by
      rcases e3 with ⟨rfl, rfl⟩ | ⟨e4, dd, vs, rfl, e5, e6, e7⟩
      · exact ⟨[], ⟨by rw [← e2]; rfl, .inl ⟨rfl, rfl⟩⟩, .nil⟩
      · exact ⟨vs, ⟨by rw [← e7.length, e2], .inr ⟨dd, rfl, e6⟩⟩, e7⟩
    have hi0 : i < σ.length := by rw [← he.len]; exact g4
    refine ⟨true, hex, fun _ a ha => ⟨k', A, evs, rfl, e1, x8, g1, by simp [hi0], xh, ?_⟩, fun z => by cases z⟩
    have fin : ∀ {dt : Dt} {v : V} {H2 : Hp}, xsD k' fs xs = some dt → Same H' H2 → Rep K (fo ++ φ') H2 dt v → ((wAs K (.ref C) i (tsX XT K c i j xs) (WEE E) D = wAs K (.ref C) i (tsX XT K c i j xs) (WEE E) D) → D.nx ((((σ.set i (some (.ref a))).set j (some v))).set i none) H2) := fun {dt v H2} ed sm rt _ => by
      rw [ed] at h
      have en : EnvOk K fo φ' H2 (ρ.set j (some (.d dt))) (σ.set j (some v)) := ((he.step s').step (Step.same sm)).set rt
      refine h φ' _ (s'.trans (Step.same sm)) (q'.same sm) _ (en.wipeAt (by simp) fun m hm => ?_)
      rw [List.getElem?_set_ne (Ne.symm hm)]
      by_cases hmj : m = j
      · subst hmj
        simp [List.getElem?_set]
      · rw [List.getElem?_set_ne (Ne.symm hmj), List.getElem?_set_ne (Ne.symm hm), List.getElem?_set_ne (Ne.symm hmj)]
    cases xs with
    | one x =>
      unfold chkXS at hx
      simp only [Bool.and_eq_true, Bool.not_eq_true'] at hx
      cases ed : xvD k' fs x with
      | none =>
        have : xsD k' fs (.one x) = none := ed
        rw [this] at h; exact h.elim
      | some dt =>
        obtain ⟨v, f1, r1⟩ := rep_xv hx.1 rl ed
        exact ⟨v, f1, fin ed (fun _ _ z => z) r1 rfl⟩
    | sel s0 t0 x =>
      unfold chkXS at hx
      split at hx <;> rename_i z1 <;> first | (cases z1; done) | skip
      · cases z1
        simp only [Bool.and_eq_true, decide_eq_true_eq, List.all_eq_true] at hx
        obtain ⟨⟨⟨⟨⟨⟨⟨⟨⟨_, _⟩, o1⟩, o3⟩, o2⟩, o4⟩, _⟩, _⟩, _⟩, _⟩ := hx
        refine fun t ot ht hot => fin (dt := .str (if xeB k' x = true then t0 else s0)) rfl (same_new ht) ?_ rfl
        cases xeB k' x
        · exact .str s0 ⟨o1, o3⟩
        · exact .str t0 ⟨o2, o4⟩
      · cases hx
    | many xs =>
      unfold chkXS at hx
      split at hx <;> rename_i z1 <;> first | (cases z1; done) | skip
      · cases z1
        cases ed : xsD k' fs (.many xs) with
        | none => rw [ed] at h; exact h.elim
        | some dt =>
          have ed0 := ed
          have ed : (if xs.length ≤ lim then (xvsD k' fs xs).map .tup else none) = some dt := ed
          split at ed
          case isFalse => cases ed
          rename_i hl
          obtain ⟨ds, ed1, rfl⟩ := Option.map_eq_some_iff.mp ed
          obtain ⟨vs, f1, r1⟩ := rep_xvs rl hx ed1
          have lv : vs.length = xs.length := by
            clear ed0 ed fin h
            have : ∀ (xs : List Xv) (vs : List V), xvsV k' evs xs = some vs → vs.length = xs.length := by
              intro xs
              induction xs with
              | nil => intro vs h; cases h; rfl
              | cons x xs ih =>
                intro vs h
                unfold xvsV at h
                obtain ⟨v, _, h2⟩ := Option.bind_eq_some_iff.mp h
                obtain ⟨us, h3, rfl⟩ := Option.map_eq_some_iff.mp h2
                simp [ih us h3]
            exact this xs vs f1
          refine ⟨vs, f1, by rw [lv, ← lim_eq]; exact hl, fun t ot ht hot => ?_⟩
          have sm : Same H' (upd H' t (.frz ot (.tup vs))) := same_new ht
          exact fin ed0 sm (rep_newF (K := K) q'.trk ht hot r1) rfl
      · cases hx
/-- a suite that sets a constant -/
def tsV (j : Nat) (v : V) : TS := fun D σ H => D.nx (σ.set j (some v)) H
def cvV : Xv → V
  | .str s => .str (toS s)
  | _ => .non
theorem ps_suiteV {j : Nat} {x : Xv} {y n : Str} {kc : Nat} {a : Addr} {oe : Obj} {pn : List (Addr × Obj)} {e : Expr} {p1 p3 : Pos} (c : SxOk XT T Γ N X E sc) (hj : N[j]? = some y) (hy : isTg sc (fun _ => true) y = true) (hx : chkV T sc n kc x e = true) (hc : cstV x = true) :
    PSs (X.suite a ((a, oe) :: pn)) [.Assign [.Name y p1] e p3] (tsV j (cvV x)) := by
  obtain ⟨l1, l2⟩ := isTg_loc hy
  have fin : ∀ {v : V} {e : Expr}, isLC e = false → PE (X.suite a ((a, oe) :: pn)) e (tC v) → PSs (X.suite a ((a, oe) :: pn)) [.Assign [.Name y p1] e p3] (tsV j v) := fun {v e} hl hE => by
    exact ⟨fun pins s σ H D I q => (pss_one (ps_set (X := X.suite a ((a, oe) :: pn)) (i := j) (pos' := p1) (pos := p3) c.cx.nd (by show X.N[j]? = _; rw [c.cx.n]; exact hj) (by show Loc X.env.scope y; rw [c.cx.scope]; exact l1) hE (swaps_no hl _ _ _) (.inl (c.fn y)))).run pins s σ H D I q⟩
  cases x with
  | str s =>
    obtain ⟨_, _, rfl, _⟩ := chkV_str hx
    exact fin rfl (pe_str (X := X.suite a ((a, oe) :: pn)))
  | non =>
    obtain ⟨_, _, rfl⟩ := chkV_non hx
    exact fin rfl (pe_non (X := X.suite a ((a, oe) :: pn)))
  | _ => cases hc
theorem s_tryV {c j : Nat} {x : Xv} {b : Sms} {D : Ends} {C : Addr} {n : Str} {e : Expr} (hx : chkV T sc n c x e = true) (hc : cstV x = true) (hxc : ∀ (k : Nat) (C : Value), XT.cls k = some C → ∃ A, C = .ref A ∧ XsOk XT K k A) (x1 : XT.cls c = some (.ref C)) (x6 : PySem.W.subIn K (.ref C) (.type "BaseException") = some true)
    (h : tS XT K E (exS Γ (.tryV c b j x)) D σ H) : tSW XT K (wOnly K (.ref C) (fun _ _ _ => tsV j (cvV x)) (WEE E) D) (exSs Γ b) D σ H := by
  obtain ⟨fo, φ, ρ, st, hs, he, h⟩ := h
  refine ⟨fo, φ, ρ, st, hs, he, ?_⟩
  unfold exS at h
  cases e : exSs Γ b ρ st with
  | ok p => rw [e] at h; exact h
  | bad => rw [e] at h; exact h
  | exc k' fs sx =>
    rw [e] at h
    unfold tryVW at h
    dsimp only at h
    split at h
    case isFalse => exact h.elim
    rename_i g1
    intro φ' H' s' q' cls d xr
    obtain ⟨e1, e2, e3⟩ := xr
    obtain ⟨A, rfl, x8⟩ := hxc k' cls e1
    have hex : PySem.W.exmOne K (.ref A) (.ref C) = some true := by
      unfold PySem.W.exmOne
      rw [x6]
      have := x8.2.2 c C x1
      rw [g1] at this
      simpa using this
    refine ⟨true, hex, fun _ a ha => ?_, fun z => by cases z⟩
    cases x with
    | str s =>
      have rv : Rep K (fo ++ φ') H' (.str s) (.str (toS s)) := by
        obtain ⟨v, e1, r1⟩ := rep_xv (k := k') hx (RepL.nil (K := K) (av := fo ++ φ') (H := H')) (show xvD k' [] (.str s) = some (.str s) from rfl)
        cases e1
        exact r1
      exact h φ' _ s' q' _ ((he.step s').set rv)
    | non => exact h φ' _ s' q' _ ((he.step s').set (show RepW K fo φ' H' (.d .non) .non from .non))
    | _ => cases hc
theorem RepL.rev : ∀ {av : List Addr} {xs : List Dt} {vs : List V}, RepL K av H xs vs → RepL K av H xs.reverse vs.reverse
  | _, _, _, .nil => .nil
  | _, _, _, .cons h r => by
    rw [List.reverse_cons, List.reverse_cons]
    exact (RepL.rev r).append (.cons h .nil)
theorem mapD_len : ∀ {ws : List Wv} {ds : List Dt}, mapD ws = some ds → ds.length = ws.length
  | [], ds, h => by cases h; rfl
  | .d x :: ws, ds, h => by
    unfold mapD at h
    obtain ⟨r, h1, rfl⟩ := Option.map_eq_some_iff.mp h
    simp [mapD_len h1]
  | .ob _ :: _, ds, h => by unfold mapD at h; cases h
  | .dc _ :: _, ds, h => by unfold mapD at h; cases h
theorem s_raiF {c : Nat} {es : Exs} {D : Ends} {C : Addr} {fl : List Str} (x1 : XT.cls c = some (.ref C)) (x2 : XT.flds c = fl) (hl : es.len = fl.length) (hm : fl.length ≤ 1000) (h : tS XT K E (exS Γ (.raiF c es)) D σ H) :
    tMkF C fl (tL XT K (WEE E) (evEs Γ es)) σ H fun cls d H' => E cls d H' := by
  obtain ⟨fo, φ, ρ, st, hs, he, h⟩ := h
  unfold exS at h
  have el := fun p => @evEs_len Γ es ρ st p
  refine ⟨fo, φ, ρ, st, hs, he, ?_⟩
  have h2 := Go.of_bind h
  cases ee : evEs Γ es ρ st with
  | bad => rw [ee] at h2; exact h2
  | exc k fs sx => rw [ee] at h2; exact h2
  | ok p =>
    obtain ⟨ws, st1⟩ := p
    have el := el _ ee
    rw [ee] at h2
    intro φ1 H1 s1 q1 vs rvs
    have h3 := h2 φ1 H1 s1 q1
    unfold raiW at h3
    cases em : mapD ws with
    | none => simp only [em] at h3; exact h3.elim
    | some ds =>
      simp only [em] at h3
      split at h3
      · exact h3.elim
      · rename_i hne
        have rl := mapD_rep rvs em
        have lds : ds.length = fl.length := by rw [mapD_len em, ← hl]; exact el
        refine ⟨by rw [← rl.length, lds], hm, fun dx hd => ?_⟩
        have sm : Same H1 (upd H1 dx (.xd (fl.zip vs.reverse))) := same_new hd
        have fr := q1.fresh hd
        refine h3 φ1 _ (Step.same sm) (q1.same sm) (.ref C) (some dx) ⟨x1, by rw [List.length_reverse, lds, x2], .inr ⟨by simpa using hne, dx, vs.reverse, rfl, fr, by rw [x2]; exact upd_same, ?_⟩⟩
        exact RepL.keep (Step.same (φ := φ1) sm).keeps rl.rev
theorem swapped_two {X : Cx} {x y : Str} {px py pt : Pos} {kt k2 : _} {u v : Expr} {pt2 : Pos} (kx : X.env.scope.names.lookup x = some .local) (ky : X.env.scope.names.lookup y = some .local) (hne : x ≠ y) (hl : (px.line == py.line) = true) (hu : isName u = true) (hv : plainE v = true) (hk : X.env.scope.kind = .function) :
    swappedStores [.Tuple [.Name x px, .Name y py] kt pt] (.Tuple [u, v] k2 pt2) X.env = pure (some [x, y]) := by
  have kx : X.env.kindOf x = some .local := kx
  have ky : X.env.kindOf y = some .local := ky
  have hl' : py.line = px.line := by simpa using (beq_iff_eq.mp hl).symm
  have kb : X.env.blockKind = .function := by unfold Env.blockKind; rw [hk]; rfl
  cases u with
  | Name z pz =>
    have hz : (z == ("__debug__" : Str)) = false := by simpa [isName] using hu
    have e3 : ∀ a b, foldedForSure 8 (.Name a b) = false := by intro a b; rfl
    have e4 : constantsAlone 8 (.Name z pz) = false := hz
    have e2 : ([x, y].eraseDups.length) = 2 := by simp [List.eraseDups_cons, Ne.symm hne, hne]
    unfold swappedStores
    have px0 : Expr.pos (.Name x px) = px := rfl
    have q1 : (X.env.kindOf x == some NameKind.local) = true := by rw [kx]; rfl
    have q2 : (X.env.kindOf y == some NameKind.local) = true := by rw [ky]; rfl
    have q3 : (X.env.blockKind != .function) = false := by rw [kb]; rfl
    cases v <;> first | cases hv; done | simp [List.filterMap_cons, px0, kx, ky, hl', kb, e2, e3, e4]
  | _ => cases hu
theorem s_par {i j : Nat} {a b : Ex} {D : Ends} (h : tS XT K E (exS Γ (.par i j a b)) D σ H) : tPar i j (tCons (tW XT K (WEE E) (evE Γ a)) (tCons (tW XT K (WEE E) (evE Γ b)) tNil)) D σ H := by
  obtain ⟨fo, φ, ρ, st, hs, he, h⟩ := h
  unfold exS at h
  refine ⟨fo, φ, ρ, st, hs, he, (Go.of_bind h).imp fun w st1 φ1 H1 s1 q1 h1 v rv => ?_⟩
  refine ⟨fo, φ1, ρ, st1, q1, he.step s1, (Go.of_bind h1).imp fun w2 st2 φ2 H2 s2 q2 h2 v2 rv2 => ?_⟩
  refine ⟨v, v2, rfl, ?_⟩
  exact (Go.run h2 q2) _ ((((he.step s1).step s2).set (rv.step s2)).set rv2)
theorem ps_unpE {is : List Nat} {e : Ex} {ts : List Expr} {k : Nat} {p pos : Pos} {y : Expr} (c : SxOk XT T Γ N X E sc) (ht : chkTgs N (isTg sc fun _ => true) is ts = true) (hy : chkE T N sc e y = true) (h1 : (!isTuple y || cellT sc ts) = true) :
    PS X (.Assign [.Tuple ts k p] y pos) (tAsg (tW XT X.KF (WEE E) (evE Γ e)) (gTL X.KF is.length (gMany is))) := by
  obtain ⟨k1, k2, k3⟩ := pgs_many (cell := fun _ => true) c.cx.n c.cx.nd c.cx.scope (fun x _ => c.fn x) ht
  refine ps_asg (peS e c.cx y hy) (pg_tl c.cx.calm k1 k2 k3) (by show swapsWith y (some (.Tuple ts k p)) pos.line X.env = pure false; exact swaps_tup) ?_ rfl
  rcases Bool.or_eq_true_iff.mp h1 with h1 | h1
  · cases y <;> first | rfl | cases h1
  · have hc : cellT X.env.scope ts = true := by rw [c.cx.scope]; exact h1
    cases y <;> first | rfl | exact swapped_cell hc
theorem takesL {nn : Bool} (h : TakesB nn X W) (e : nn = false) : L2.Takes X W := by subst e; exact h
section
variable {W : WX} {C : Addr}
/-- an exception of the program's own made in a suite -/
theorem pmk5_own {x m : Str} {j : Nat} {p p2 pos : Pos} {bm : List Value} {Bn newId initId : String} (F : ExcBaseFacts Bn newId initId bm) (q : PySem.W.excIn X.KF C bm newId = true) (gC : X.mg x = some (.ref C)) (kC : PySem.W.keepIn X.KF (.ref C) = true) (r : Raises X (.ref C)) (hg : Gl X x)
    (hdb : (x == ("__debug__" : Str)) = false) : L2H.PMk5 X (.Call (.Name x p) [.Constant (.str m) j p2] [] pos) (fun _ H Q => Q (.ref C) none H) := by
  intro pins s σ H Q I fin
  refine wpAny_Call_Name_kw (ld_glob I hg gC ?_ hdb)
  have args : PA X [.Constant (.str m) j p2] (tCons (tC (.str m)) tNil) := pa_cons pe_str pa_nil
  refine PySem.W.callWith_K (h₀ := X.base) I.ok.mod.kin kC (thn (args.run pos pins s σ H (fun vs H1 => vs = [V.str m] ∧ H = H1) I ⟨rfl, rfl⟩) fun us s1 hh => ?_)
  obtain ⟨vs, H1, J, r1, e1, e2⟩ := hh
  subst e1
  subst e2
  refine ⟨J.kIn, ?_⟩
  cases r1 with
  | cons ru rn =>
    rename_i u us'
    cases rn
    show wpAny _ _ (call (.ref C) [u]) _ _ _
    obtain ⟨bm', N', nm, qn, bs, hdct, sn, sub, ab, col, dd, k0, k1, k2, k3, k5, mN, hC, hN, hni, TT⟩ := exc_obj J.kIn q
    refine wpAny_call_exc_subT F TT hC hN hni (fun h' e hm => ?_) (by show 1 ≤ sizeLine; rw [sizeLine_eq]; omega)
    exact L2H.mk_of5 J hm r fin (J.hok.gone hm.new)
theorem ps_raiB {nn : Bool} {x m : Str} {j : Nat} {p p2 p3 pos : Pos} {bm : List Value} {Bn newId initId : String} (hc : X.calm = true) (tk : TakesB nn X W) (F : ExcBaseFacts Bn newId initId bm) (q : PySem.W.excIn X.KF C bm newId = true) (gC : X.mg x = some (.ref C)) (kC : PySem.W.keepIn X.KF (.ref C) = true) (r : Raises X (.ref C)) (hg : Gl X x)
    (hdb : (x == ("__debug__" : Str)) = false) : PS X (.Raise (some (.Call (.Name x p) [.Constant (.str m) j p2] [] p3)) none pos) (fun _ σ H => W (.ref C) none σ H) := by
  cases nn with
  | true => exact L2N.ps_raise hc tk (L2N.pmk_own F q gC kC r hg hdb)
  | false => exact L2.ps_raise hc tk (L2.pmk_own F q gC kC r hg hdb)
theorem s_tryR {c k : Nat} {b : Sms} {D : Ends} {C C2 : Addr} (hxc : ∀ (k : Nat) (C : Value), XT.cls k = some C → ∃ A, C = .ref A ∧ XsOk XT K k A) (x1 : XT.cls c = some (.ref C)) (x2 : XT.flds c = []) (x6 : PySem.W.subIn K (.ref C) (.type "BaseException") = some true)
    (y1 : XT.cls k = some (.ref C2)) (y2 : XT.flds k = []) (h : tS XT K E (exS Γ (.tryR c k b)) D σ H) : tSW XT K (wOnly K (.ref C) (fun _ _ _ _ _ H' => E (.ref C2) none H') (WEE E) D) (exSs Γ b) D σ H := by
  obtain ⟨fo, φ, ρ, st, hs, he, h⟩ := h
  refine ⟨fo, φ, ρ, st, hs, he, ?_⟩
  unfold exS at h
  cases e : exSs Γ b ρ st with
  | ok p => rw [e] at h; exact h
  | bad => rw [e] at h; exact h
  | exc k' fs sx =>
    rw [e] at h
    unfold tryRW at h
    dsimp only at h
    split at h
    case isFalse => exact h.elim
    rename_i hh
    obtain ⟨g1, rfl⟩ := hh
    intro φ' H' s' q' cls d xr
    obtain ⟨e1, e2, e3⟩ := xr
    have hfl : XT.flds k' = [] := List.length_eq_zero_iff.mp e2.symm
    obtain ⟨A, rfl, x8⟩ := hxc k' cls e1
    have hex : PySem.W.exmOne K (.ref A) (.ref C) = some true := by
      unfold PySem.W.exmOne
      rw [x6]
      have := x8.2.2 c C x1
      rw [g1] at this
      simpa using this
    exact ⟨true, hex, fun _ a ha => h φ' H' s' q' (.ref C2) none ⟨y1, by rw [y2]; rfl, .inl ⟨rfl, rfl⟩⟩, fun z => by cases z⟩
end
mutual
theorem psS : ∀ (s : Sm) {X : Cx} {E : XK} {sc : Scope} (c : SxOk XT T Γ N X E sc) (ps : Stmt), chkS T N sc s ps = true → PS X ps (tS XT X.KF E (exS Γ s))
  | .set i e, X, E, sc, c, ps, h => by
    unfold chkS at h
    split at h <;> try (rename_i z; cases z)
    · simp only [Bool.and_eq_true, decide_eq_true_eq] at h
      exact PS.weak (ps_any c h.1.1 h.1.2 h.2) fun D σ H h => s_set h
    · cases h
  | .setL i e, X, E, sc, c, ps, h => by
    unfold chkS at h
    split at h <;> try (rename_i z; cases z)
    · simp only [Bool.and_eq_true, decide_eq_true_eq] at h
      rcases Bool.or_eq_true_iff.mp h.2 with hf | hf
      · exact PS.weak (ps_freshX c h.1.1.1 h.1.1.2 h.1.2 hf) fun D σ H h => s_setL hf h
      · exact PS.weak (ps_freshD c h.1.1.1 h.1.1.2 h.1.2 hf) fun D σ H h => s_setD hf h
    · cases h
  | .unp is e, X, E, sc, c, ps, h => by
    unfold chkS at h
    split at h <;> try (rename_i z; cases z)
    · simp only [Bool.and_eq_true] at h
      exact PS.weak (ps_unpE c h.1.1 h.1.2 h.2) fun D σ H h => s_unp h
    · cases h
  | .ret e, X, E, sc, c, ps, h => by
    unfold chkS at h
    split at h <;> try (rename_i z; cases z)
    · exact PS.weak (ps_ret (peS e c.cx _ h)) fun D σ H h => s_ret h
    · cases h
  | .ife d a b, X, E, sc, c, ps, h => by
    unfold chkS at h
    split at h <;> try (rename_i z; cases z)
    · simp only [Bool.and_eq_true] at h
      exact PS.weak (ps_if (ptS d c.cx _ h.1.1) (pssS a c _ h.1.2) (pssS b c _ h.2)) fun D σ H h => s_ife h
    · cases h
  | .forS tg it b, X, E, sc, c, ps, h => by
    unfold chkS at h
    split at h <;> try (rename_i z; cases z)
    · simp only [Bool.and_eq_true] at h
      obtain ⟨⟨⟨⟨h1, h2⟩, h3⟩, h4⟩, h5⟩ := h
      exact PS.weak (ps_for c.own c.cx.calm (piS it c.cx _ _ h2 h1) (pg_tg (cell := fun _ => true) c.cx.n c.cx.nd c.cx.scope (fun x _ => c.fn x) c.cx.calm h4) (pssS b c _ h5) (walkE_set h3 _)) fun D σ H h => s_for (zTg h2 h4) h
    · cases h
  | .whl d b, X, E, sc, c, ps, h => by
    unfold chkS at h
    split at h <;> try (rename_i z; cases z)
    · simp only [Bool.and_eq_true] at h
      exact PS.weak (ps_while c.own (ptS d c.cx _ h.1) (pssS b c _ h.2)) fun D σ H h => s_whl h
    · cases h
  | .app i e, X, E, sc, c, ps, h => by
    unfold chkS at h
    split at h <;> try (rename_i z; cases z)
    · simp only [Bool.and_eq_true, decide_eq_true_eq] at h
      obtain ⟨⟨⟨⟨⟨h1, h2⟩, h3⟩, h4⟩, h5⟩, h6⟩ := h
      subst h1
      obtain ⟨v1, v2, v3⟩ := isVis_vis h4
      have hv := fun pp : Pos => pe_var (X := X) (pos := pp) (i := i) (by rw [c.cx.n]; exact h3) (by rw [c.cx.scope]; exact v1) v2 v3
      refine PS.weak (ps_expr (pe_bm PySem.F.plainAttrs_list PySem.F.slot_list_append PySem.F.type_list_append mt_append (hv _) (pa_one (peS e c.cx _ h5) h6) rfl ?_ h2 (plainE_star h6 _ _) rfl) rfl) fun D σ H h => s_app h
      rw [plainE_star h6]
      rfl
    · cases h
  | .ext i e, X, E, sc, c, ps, h => by
    unfold chkS at h
    split at h <;> try (rename_i z; cases z)
    · simp only [Bool.and_eq_true, decide_eq_true_eq] at h
      obtain ⟨⟨⟨⟨⟨h1, h2⟩, h3⟩, h4⟩, h5⟩, h6⟩ := h
      subst h1
      obtain ⟨v1, v2, v3⟩ := isVis_vis h4
      have hv := fun pp : Pos => pe_var (X := X) (pos := pp) (i := i) (by rw [c.cx.n]; exact h3) (by rw [c.cx.scope]; exact v1) v2 v3
      refine PS.weak (ps_expr (pe_bm PySem.F.plainAttrs_list PySem.F.slot_list_extend PySem.F.type_list_extend mt_extendF (hv _) (pa_one (peS e c.cx _ h5) h6) rfl ?_ h2 (plainE_star h6 _ _) rfl) rfl) fun D σ H h => s_ext h
      rw [plainE_star h6]
      rfl
    · cases h
  | .put i k e, X, E, sc, c, ps, h => by
    unfold chkS at h
    split at h <;> try (rename_i z; cases z)
    · simp only [Bool.and_eq_true, Bool.not_eq_true', decide_eq_true_eq] at h
      obtain ⟨⟨⟨⟨⟨h1, h2⟩, h3⟩, h4⟩, h5⟩, h6⟩ := h
      obtain ⟨v1, v2, v3⟩ := isVis_vis h2
      have hv := fun pp : Pos => pe_var (X := X) (pos := pp) (i := i) (by rw [c.cx.n]; exact h1) (by rw [c.cx.scope]; exact v1) v2 v3
      exact PS.weak (ps_dputN c.cx.units (hv _) (peS k c.cx _ h3) (peS e c.cx _ h4) (swaps_no h5 _ _ _)) fun D σ H h => s_put h
    · cases h
  | .popd i k, X, E, sc, c, ps, h => by
    unfold chkS at h
    split at h <;> try (rename_i z; cases z)
    · simp only [Bool.and_eq_true, decide_eq_true_eq] at h
      obtain ⟨⟨⟨⟨⟨h1, h2⟩, h3⟩, h4⟩, h5⟩, h6⟩ := h
      subst h1
      obtain ⟨v1, v2, v3⟩ := isVis_vis h4
      have hv := fun pp : Pos => pe_var (X := X) (pos := pp) (i := i) (by rw [c.cx.n]; exact h3) (by rw [c.cx.scope]; exact v1) v2 v3
      have e1 := fun env => plainE_star h6 [] env
      refine PS.weak (ps_expr (pe_dpopN c.cx.units (hv _) (peS k c.cx _ h5) ⟨rfl, by rw [e1]; rfl, h2, by rw [e1]; rfl⟩) rfl) fun D σ H h => s_popd h
    · cases h
  | .upd i e, X, E, sc, c, ps, h => by
    unfold chkS at h
    cases h
  | .expr e, X, E, sc, c, ps, h => by
    unfold chkS at h
    split at h <;> try (rename_i z; cases z)
    · simp only [Bool.and_eq_true, Bool.not_eq_true'] at h
      exact PS.weak (ps_expr (peS e c.cx _ h.1) (swaps_no h.2 _ _ _)) fun D σ H h => s_expr h
    · cases h
  | .brk, X, E, sc, c, ps, h => by
    unfold chkS at h
    split at h <;> try (rename_i z; cases z)
    · refine PS.weak ps_break fun D σ H h => ?_
      obtain ⟨fo, φ, ρ, st, hs, he, h⟩ := h
      unfold exS at h
      exact (Go.run h hs) σ he
    · cases h
  | .cnt, X, E, sc, c, ps, h => by
    unfold chkS at h
    split at h <;> try (rename_i z; cases z)
    · refine PS.weak ps_continue fun D σ H h => ?_
      obtain ⟨fo, φ, ρ, st, hs, he, h⟩ := h
      unfold exS at h
      exact (Go.run h hs) σ he
    · cases h
  | .pass, X, E, sc, c, ps, h => by
    unfold chkS at h
    split at h <;> try (rename_i z; cases z)
    · refine PS.weak ps_pass fun D σ H h => ?_
      obtain ⟨fo, φ, ρ, st, hs, he, h⟩ := h
      unfold exS at h
      exact (Go.run h hs) σ he
    · cases h
  | .tryN k b, X, E, sc, c, ps, h => by
    unfold chkS at h
    split at h <;> try (rename_i z; cases z)
    · simp only [Bool.and_eq_true, Bool.not_eq_true', decide_eq_true_eq] at h
      obtain ⟨⟨⟨⟨h1, h2⟩, h3⟩, h4⟩, hch⟩ := h
      obtain ⟨C, x1, x2, x3, x4, x5, x6, x7, x8⟩ := c.cx.xc.1 _ _ h1
      obtain ⟨g1, g2⟩ := isGl_gl h2
      have en : XT.nn = false := c.cx.tn.symm.trans h4
      refine PS.weak (ps_try_only (c := .ref C) (Wout := WEE E) (tb := fun W => tSW XT X.KF (fun _ _ _ _ => False) (exSs Γ b)) (ts := fun _ _ _ _ _ _ => False) c.stk c.frm ⟨by show X.env.scope.names.lookup _ = _; rw [c.cx.scope]; exact g1, g2, .inl x3⟩ (takesL c.cx.takes en) (fun W pn xe tk po => ?_) (fun a oe cls d pn _ _ => ⟨fun pins s σ H D I q => q.elim⟩)) fun D σ H h => ?_
      · exact pssW b (X := X.tr pn xe) ⟨c.cx.n, c.cx.nd, c.cx.scope, c.cx.calm, c.cx.units, c.cx.room, takesB0, c.cx.tn, c.cx.glob, c.cx.blt, c.cx.xc, c.cx.fn, c.cx.fnN⟩ c.fn _ h3 hch
      · obtain ⟨fo, φ, ρ, st, hs, he, h⟩ := h
        refine ⟨fo, φ, ρ, st, hs, he, ?_⟩
        unfold exS at h
        cases e : exSs Γ b ρ st with
        | ok p => rw [e] at h; exact h
        | exc c fs sx => rw [e] at h; exact False.elim h
        | bad => rw [e] at h; exact False.elim h
    · cases h
  | .tryR k k2 b, X, E, sc, c, ps, h => by
    unfold chkS at h
    split at h <;> try (rename_i z; cases z)
    · simp only [Bool.and_eq_true, Bool.not_eq_true', decide_eq_true_eq] at h
      obtain ⟨⟨⟨⟨⟨⟨h0, h1⟩, h2⟩, h3⟩, h4⟩, h5⟩, h6⟩ := h
      obtain ⟨C, x1, x2, x3, x4, x5, x6, x7, x8⟩ := c.cx.xc.1 _ _ h1
      obtain ⟨C2, y1, y2, y3, y4, y5, y6, y7, y8⟩ := c.cx.xc.1 _ _ h3
      obtain ⟨g1, g2⟩ := isGl_gl h2
      obtain ⟨g3, g4⟩ := isGl_gl h4
      have en : XT.nn = false := c.cx.tn.symm.trans h0
      have cxN : ∀ (W : WX) (pn : List (Addr × Obj)) (xe : Value → Shared → Prop), L2N.Takes (X.tr pn xe) W → CxOk { XT with nn := true } { T with nn := true } Γ N (X.tr pn xe) W sc := fun W pn xe tk =>
        ⟨c.cx.n, c.cx.nd, c.cx.scope, c.cx.calm, c.cx.units, c.cx.room, tk, rfl, c.cx.glob, c.cx.blt, c.cx.xc, fun f x n hf hcl => c.cx.fnN h0 f x n hf (hcl rfl), fun z => by cases z⟩
      refine PS.weak (L2H.ps_try_onlyX (c := .ref C) (Wout := WEE E) (tb := fun W => tSW XT X.KF W (exSs Γ b)) (ts := fun _ _ _ _ _ H' => E (.ref C2) none H') c.stk c.frm ⟨by show X.env.scope.names.lookup _ = _; rw [c.cx.scope]; exact g1, g2, .inl x3⟩ c.ownAt (takesL c.cx.takes en)
        (fun W pn xe tk _ _ => pssW b (cxN W pn xe tk) c.fn _ h5 h6) (fun a oe cls d pn hz hf tkS hot => ?_)) fun D σ H h => s_tryR (k := k2) c.cx.xc.2.1 x1 x2 x6 y1 y2 h
      exact pss_one (PS.weak (L2H.ps_raiseHN hot tkS (pmk5_own (X := L2H.suiteX X a ((a, oe) :: pn)) PySem.F.excBase_ValueError y4 y3 y5 (raises_own y6 y7) (by show X.env.scope.names.lookup _ = _; rw [c.cx.scope]; exact g3) g4)) fun D σ H q => q)
    · cases h
  | .tryX k b i j xs, X, E, sc, c, ps, h => by
    unfold chkS at h
    split at h <;> try (rename_i z; cases z)
    · rename_i x _ n y _ e _ _ _
      simp only [Bool.and_eq_true, decide_eq_true_eq] at h
      obtain ⟨⟨⟨⟨⟨⟨⟨⟨⟨⟨h1, h2⟩, h3⟩, h4⟩, h5⟩, h6⟩, h7⟩, h8⟩, h9⟩, h10⟩, h11⟩ := h
      have en : XT.nn = false := c.cx.tn.symm.trans (by simpa using h11)
      obtain ⟨⟨x0, fl⟩, h1', ex0⟩ := Option.map_eq_some_iff.mp h1
      have ex0 : x0 = x := ex0
      subst ex0
      obtain ⟨C, x1, x3, x6, x8⟩ := c.cx.xc.2.2.1 _ _ _ h1'
      obtain ⟨g1, g2⟩ := isGl_gl h2
      have hln : X.env.kindOf n = some .local := by
        show X.env.scope.names.lookup n = _
        rw [c.cx.scope]
        split at h4
        · assumption
        · cases h4
      refine PS.weak (ps_try_as (c := .ref C) (i := i) (Wout := WEE E) (tb := fun W => tSW XT X.KF W (exSs Γ b)) (ts := tsX XT X.KF k i j xs) c.stk c.frm c.cx.nd (by rw [c.cx.n]; exact h3) hln ⟨by show X.env.scope.names.lookup _ = _; rw [c.cx.scope]; exact g1, g2, .inl x3⟩ (takesL c.cx.takes en) (fun W pn xe tk po => ?_) (fun a oe cls d pn hz hf => ps_suiteX c h3 h5 h6 h7 h10 hz hf)) fun D σ H h => s_tryX h10 c.cx.xc.2.1 x1 x6 h
      exact pssW b (X := X.tr pn xe) ⟨c.cx.n, c.cx.nd, c.cx.scope, c.cx.calm, c.cx.units, c.cx.room, (by rw [en]; exact tk), c.cx.tn, c.cx.glob, c.cx.blt, c.cx.xc, c.cx.fn, c.cx.fnN⟩ c.fn _ h8 h9
    · cases h
  | .tryV k b j xv, X, E, sc, c, ps, h => by
    unfold chkS at h
    split at h <;> try (rename_i z; cases z)
    · rename_i x _ y _ e _ _ _
      simp only [Bool.and_eq_true, decide_eq_true_eq] at h
      obtain ⟨⟨⟨⟨⟨⟨⟨⟨h1, h2⟩, h3⟩, h4⟩, h5⟩, h6⟩, h7⟩, h8⟩, h9⟩ := h
      have en : XT.nn = false := c.cx.tn.symm.trans (by simpa using h9)
      obtain ⟨⟨x0, fl⟩, h1', ex0⟩ := Option.map_eq_some_iff.mp h1
      have ex0 : x0 = x := ex0
      subst ex0
      obtain ⟨C, x1, x3, x6, x8⟩ := c.cx.xc.2.2.1 _ _ _ h1'
      obtain ⟨g1, g2⟩ := isGl_gl h2
      refine PS.weak (ps_try_only (c := .ref C) (Wout := WEE E) (tb := fun W => tSW XT X.KF W (exSs Γ b)) (ts := fun _ _ _ => tsV j (cvV xv)) c.stk c.frm ⟨by show X.env.scope.names.lookup _ = _; rw [c.cx.scope]; exact g1, g2, .inl x3⟩ (takesL c.cx.takes en) (fun W pn xe tk po => ?_) (fun a oe cls d pn _ _ => ps_suiteV c h3 h4 h7 h8)) fun D σ H h => s_tryV h7 h8 c.cx.xc.2.1 x1 x6 h
      exact pssW b (X := X.tr pn xe) ⟨c.cx.n, c.cx.nd, c.cx.scope, c.cx.calm, c.cx.units, c.cx.room, (by rw [en]; exact tk), c.cx.tn, c.cx.glob, c.cx.blt, c.cx.xc, c.cx.fn, c.cx.fnN⟩ c.fn _ h5 h6
    · cases h
  | .raiF k es, X, E, sc, c, ps, h => by
    unfold chkS at h
    split at h <;> try (rename_i z; cases z)
    · rename_i x _ xs _ _
      simp only [Bool.and_eq_true, decide_eq_true_eq] at h
      obtain ⟨⟨⟨⟨⟨⟨h1, h2⟩, h3⟩, h4⟩, h5⟩, h6⟩, h7⟩ := h
      have en : XT.nn = false := c.cx.tn.symm.trans (by simpa using h6)
      obtain ⟨⟨x0, fl⟩, e1, e2⟩ := Option.map_eq_some_iff.mp h2
      simp only [Prod.mk.injEq] at e2
      obtain ⟨rfl, e2⟩ := e2
      obtain ⟨g1, g2⟩ := isGl_gl h3
      cases es with
      | nil => simp [Exs.isNil] at h5
      | cons e es =>
        cases xs with
        | nil => unfold chkEs at h4; cases h4
        | cons y ys =>
          have h4' := h4
          unfold chkEs at h4'
          simp only [Bool.and_eq_true] at h4'
          obtain ⟨C, y1, y2, M⟩ := pmk_fl (X := X) (XT := XT) (p := _) (pos := _) (c.cx.xc.2.2.2 _ _ _ h1 e1) c.cx.room (by show X.env.scope.names.lookup _ = _; rw [c.cx.scope]; exact g1) (paS (.cons e es) c.cx _ h4) g2 (plainE_star h4'.1.2 _ _) (no_star h4'.2)
          exact PS.weak (L2.ps_raise c.cx.calm (takesL c.cx.takes en) M) fun D σ H h => s_raiF y1 y2 e2.symm (by rw [e2]; exact h7) h
    · cases h
  | .par i j a b, X, E, sc, c, ps, h => by
    unfold chkS at h
    split at h <;> try (rename_i z; cases z)
    · rename_i x px y py kt pt u v k2 p2 pos
      simp only [Bool.and_eq_true, decide_eq_true_eq] at h
      obtain ⟨⟨⟨⟨⟨⟨⟨⟨⟨⟨h1, h2⟩, h3⟩, h4⟩, h5⟩, h6⟩, h7⟩, h8⟩, h9⟩, h10⟩, h11⟩ := h
      have loc : ∀ {z : Str}, isLoc sc z = true → X.env.scope.names.lookup z = some .local := fun {z} hz => by
        unfold isLoc at hz
        rw [c.cx.scope]
        split at hz
        · assumption
        · cases hz
      have hu : plainE u = true := by
        cases u <;> first | rfl | cases h10
      refine PS.weak (ps_par (i := i) (j := j) c.cx.calm c.cx.nd (by rw [c.cx.n]; exact h1) (by rw [c.cx.n]; exact h2) h3 (loc h4) (loc h5) (pa_cons (peS a c.cx u h8) (pa_one (peS b c.cx v h9) h11) (plainE_star hu _ _)) (swapped_two (loc h4) (loc h5) h6 h7 h10 h11 (by rw [c.cx.scope]; exact c.kind))) fun D σ H h => s_par h
    · cases h
  | .rai k, X, E, sc, c, ps, h => by
    unfold chkS at h
    split at h <;> try (rename_i z; cases z)
    · simp only [Bool.and_eq_true, decide_eq_true_eq] at h
      obtain ⟨C, x1, x2, x3, x4, x5, x6, x7, x8⟩ := c.cx.xc.1 _ _ h.1
      obtain ⟨g1, g2⟩ := isGl_gl h.2
      refine PS.weak (ps_raiB c.cx.calm c.cx.takes PySem.F.excBase_ValueError x4 x3 x5 (raises_own x6 x7) (by show X.env.scope.names.lookup _ = _; rw [c.cx.scope]; exact g1) g2) fun D σ H h => ?_
      obtain ⟨fo, φ, ρ, st, hs, he, h⟩ := h
      unfold exS at h
      exact h φ H .refl hs (.ref C) none ⟨x1, by rw [x2]; rfl, .inl ⟨rfl, rfl⟩⟩
    · cases h
  | .never, X, E, sc, c, ps, h => PS.weak ps_never fun D σ H h => by
      obtain ⟨fo, φ, ρ, st, hs, he, h⟩ := h
      unfold exS at h
      exact h
  | .quo i, X, E, sc, c, ps, h => by
    unfold chkS at h
    cases h
theorem pssS : ∀ (s : Sms) {X : Cx} {E : XK} {sc : Scope} (c : SxOk XT T Γ N X E sc) (ps : List Stmt), chkSs T N sc s ps = true → PSs X ps (tS XT X.KF E (exSs Γ s))
  | .nil, X, E, sc, c, ps, h => by
    cases ps with
    | nil => exact PSs.weak pss_nil fun D σ H h => s_nil h
    | cons _ _ => unfold chkSs at h; cases h
  | .cons s r, X, E, sc, c, ps, h => by
    cases ps with
    | nil => unfold chkSs at h; cases h
    | cons p ps =>
      unfold chkSs at h
      simp only [Bool.and_eq_true] at h
      exact PSs.weak (pss_cons (psS s c p h.1) (pssS r c ps h.2)) fun D σ H h => s_seq h
end
end
end PB

set_option Elab.async false
set_option linter.all false
set_option maxRecDepth 100000
set_option maxHeartbeats 4000000
set_option backward.match.sparseCases false
/-! Defs keep their meaning; the law's end. -/
namespace PB
open PySem PySem.Spec PyProof.Rows L2
/-! #### the def that quotes -/
theorem sub_join (c : Nat) (z : List Nat) : ∀ s : List Nat, joinL z (splitC c s) = subC c z s
  | [] => rfl
  | x :: xs => by
    have ih := sub_join c z xs
    rw [splitC, subC]
    by_cases h : x = c
    · rw [if_pos h, if_pos h]
      cases e : splitC c xs with
      | nil =>
        exfalso
        cases xs with
        | nil => simp [splitC] at e
        | cons y ys =>
          rw [splitC] at e
          split at e
          · cases e
          · split at e <;> cases e
      | cons p ps =>
        rw [e] at ih
        rw [joinL, ih]
        rfl
    · rw [if_neg h, if_neg h]
      cases e : splitC c xs with
      | nil =>
        rw [e] at ih
        rw [← ih]
        rfl
      | cons p ps =>
        rw [e] at ih
        show joinL z ((x :: p) :: ps) = [x] ++ subC c z xs
        rw [← ih]
        cases ps with
        | nil => rfl
        | cons q r => rw [joinL, joinL]; simp
theorem repl_toS (s z : List Nat) (c : Nat) : Txt.replace (toS s) (toS [c]) (toS z) = toS (subC c z s) := by
  have h := StrLaws.replace_one (toS s) (toS z) c
  have e0 : (⟨#[c]⟩ : Str) = toS [c] := rfl
  rw [e0, split_toS] at h
  rw [h]
  have h2 := join_codes (toS z) ((splitC c s).map toS)
  rw [List.map_map] at h2
  have e2 : ((fun q : Str => q.cps.toList) ∘ toS) = id := by funext q; simp [toS]
  rw [e2, List.map_id, toS_cps, sub_join] at h2
  have : ∀ x : Str, x = toS x.cps.toList := fun x => by cases x; simp [toS]
  rw [this (Str.join (toS z) ((splitC c s).map toS)), h2]
theorem subC_len (c : Nat) (z : List Nat) (hz : z.length ≤ 2) : ∀ s : List Nat, (subC c z s).length ≤ 2 * s.length
  | [] => by simp [subC]
  | x :: xs => by
    have := subC_len c z hz xs
    rw [subC, List.length_append, List.length_cons]
    split
    · omega
    · simp; omega
theorem subC_mem (c : Nat) (z : List Nat) : ∀ (s : List Nat) (x : Nat), x ∈ subC c z s → x ∈ z ∨ x ∈ s
  | [], x, h => by simp [subC] at h
  | y :: ys, x, h => by
    rw [subC] at h
    rcases List.mem_append.mp h with h | h
    · split at h
      · exact .inl h
      · exact .inr (by rw [List.mem_singleton.mp h]; exact List.mem_cons_self)
    · rcases subC_mem c z ys x h with h | h
      · exact .inl h
      · exact .inr (List.mem_cons_of_mem _ h)
set_option backward.match.sparseCases true in
def quoSt (sc : Scope) : List Stmt → Bool
  | [.Assign [.Name x _] (.Call (.Attribute (.Call (.Attribute (.Name t _) r1 a1) [.Constant (.str y1) _ _, .Constant (.str z1) _ _] [] c1) r2 a2) [.Constant (.str y2) _ _, .Constant (.str z2) _ _] [] c2) _,
     .Return (some (.BinOp (.BinOp (.Constant (.str q1) _ _) .Add (.Name x2 _) _) .Add (.Constant (.str q2) _ _) _)) _] =>
    decide (x = "inner") && decide (t = "text") && decide (x2 = "inner") && decide (r1 = "replace") && decide (r2 = "replace") && decide (y1 = toS [92]) && decide (z1 = toS [92, 92]) && decide (y2 = toS [34]) && decide (z2 = toS [92, 34]) && decide (q1 = toS [34]) && decide (q2 = toS [34]) &&
      (a1.endLine == c1.line) && (a2.endLine == c2.line) && isVis sc "text" && isVis sc "inner" && isTg sc (fun _ => true) "inner" && sc.names.all (fun y => match y.2 with | .cell => false | _ => true)
  | _ => false
section
variable {X : Cx}
theorem pst_set {i : Nat} {x : Str} {e : Expr} {te : TE} {pos' pos : Pos} (hN : X.N.Nodup) (hi : X.N[i]? = some x) (hx : Loc X.env.scope x) (he : PET X e te) (hs : swapsWith e (some (.Name x pos')) pos.line X.env = pure false := by rfl) (hf : X.fn x = true) :
    PST X (.Assign [.Name x pos'] e pos) (tAsg te (gName i)) := fun pins s σ H D h0 I h =>
  wpAny_Assign_Name (thn (he pins s σ H _ h0 I h) fun v s1 ⟨y, H1, I1, r1, q1⟩ => store_ok I1 hN hi hx r1 (fun s2 I2 => ⟨_, H1, I2, q1⟩) (.inl hf)) hs
end
/-- a def of the text, as the top has left it, and its own form -/
def DefIs (K : PySem.W.Frag) (mg : Str → Option Value) (T : Tb) (tab : List Fn) (f : Nat) (x : Str) (np : Nat) (a : Addr) (fd : FuncData) (ps : List Str) : Prop :=
  ∃ (st : Stmt) (qual : Str) (N : List Str) (F : Fn), Fun K x qual st a fd ∧ FnScope N ps (defScope st) ∧ mg x = some (.ref a) ∧ (∀ us : List Value, us.length = ps.length → bindArgs fd ⟨us, []⟩ = pure (ps.zip us)) ∧ ps.length = np ∧ tab[f]? = some F ∧ F.np = np ∧ F.ns = N.length ∧
    (chkSs T N (defScope st) F.body (defBody st) = true ∨ (F.body = .cons (.quo 0) .nil ∧ N = ([("text" : Str), ("inner" : Str)]) ∧ np = 1 ∧ quoSt (defScope st) (defBody st) = true))
section
variable {XT : Xt} {T : Tb} {P : Program} {w : World} {K : KF} {mg : Str → Option Value} {base : Heap} {tab : List Fn} {gl : List Dt}
theorem start_ok {av : List Addr} {H : Hp} {ws : List Wv} {vs : List V} (n : Nat) (r : Paired (RepW K av [] H) ws vs) : EnvOk K av [] H (ws.map some ++ List.replicate n none) (vs.map some ++ List.replicate n none) := by
  have hl := Paired.length r
  refine ⟨by simp [hl], fun i w e => ?_⟩
  rw [List.getElem?_append] at e
  split at e
  · rename_i hi
    rw [List.length_map] at hi
    rw [List.getElem?_map] at e
    obtain ⟨x, hx⟩ := get_lt hi
    rw [hx] at e
    cases e
    obtain ⟨v, hv, rv⟩ := paired_get r hx
    refine ⟨v, ?_, rv⟩
    rw [List.getElem?_append_left (by rw [List.length_map, ← hl]; exact hi), List.getElem?_map, hv]
    rfl
  · have := List.mem_of_getElem? e
    rw [List.mem_replicate] at this
    cases this.2
theorem RepL.fewer {av av' : List Addr} {H : Hp} {xs : List Dt} {vs : List V} (h : ∀ a ∈ av', a ∈ av) (r : RepL K av H xs vs) : RepL K av' H xs vs := RepL.keep (Keeps.fewer h) r
theorem Rep.fewer {av av' : List Addr} {H : Hp} {x : Dt} {v : V} (h : ∀ a ∈ av', a ∈ av) (r : Rep K av H x v) : Rep K av' H x v := Rep.keep (Keeps.fewer h) r
theorem frz_noOb {st : Sr} : ∀ {ws : List Wv}, ws.any isOb = false → ws.map (frzW st) = ws
  | [], _ => rfl
  | w :: ws, h => by
    rw [List.any_cons, Bool.or_eq_false_iff] at h
    rw [List.map_cons, frz_noOb h.2]
    cases w with
    | d x => rfl
    | dc k => rfl
    | ob n => cases h.1
/-- what a callee is handed: the places that stay, what its answer is to the caller -/
theorem noOb_rep {fo φ : List Addr} {H : Hp} : ∀ {ws : List Wv} {vs : List V}, ws.any isOb = false → Paired (RepW K fo φ H) ws vs → Paired (RepW K (fo ++ φ) [] H) ws vs
  | _, _, _, .nil => .nil
  | w :: ws, v :: vs, h, .cons r t => by
    rw [List.any_cons, Bool.or_eq_false_iff] at h
    refine .cons ?_ (noOb_rep h.2 t)
    cases w with
    | d x =>
      show Rep K ((fo ++ φ) ++ []) H x v
      rw [List.append_nil]; exact r
    | dc kvs =>
      show ∃ a, v = .ref a ∧ a ∉ (fo ++ φ) ++ [] ∧ DicR K ((fo ++ φ) ++ []) H kvs a
      rw [List.append_nil]; exact r
    | ob n => cases h.1
theorem frz_args {fo φ : List Addr} {H : Hp} {st : Sr} {ws : List Wv} {vs : List V} (hs : Sok K fo φ H st) (r : Paired (RepW K fo φ H) ws vs) : ∃ fo0, (ws.any isOb = false → fo0 = fo ++ φ) ∧ Sok K fo0 [] H [] ∧ Paired (RepW K fo0 [] H) (ws.map (frzW st)) vs ∧
    ∀ φ2 H2, Same H H2 → (∀ d v, (ws.any isOb = true → keyOk d = true) → Rep K (fo0 ++ φ2) H2 d v → Rep K (fo ++ φ) H2 d v) ∧ (∀ ds us, (ws.any isOb = true → keyOks ds = true) → RepL K (fo0 ++ φ2) H2 ds us → RepL K (fo ++ φ) H2 ds us) ∧
      ∀ a fs, a ∉ fo0 ++ φ2 → H2 a = some (.xd fs) → a ∉ fo ++ φ := by
  cases hob : ws.any isOb with
  | false =>
    refine ⟨fo ++ φ, fun _ => rfl, ⟨rfl, List.nodup_nil, hs.trk, fun a ha => (List.not_mem_nil ha).elim, fun n a xs e => by simp at e, fun n a xs e => by simp at e⟩, ?_, fun φ2 H2 sm => ?_⟩
    · rw [frz_noOb hob]
      exact noOb_rep hob r
    · have sub : ∀ a ∈ fo ++ φ, a ∈ (fo ++ φ) ++ φ2 := fun a ha => List.mem_append_left _ ha
      exact ⟨fun d v _ h => Rep.fewer sub h, fun ds us _ h => RepL.fewer sub h, fun a fs h _ z => h (sub a z)⟩
  | true =>
    refine ⟨fo, (fun z => by cases z), hs.frz, ?_, fun φ2 H2 sm => ?_⟩
    · clear hob
      induction r with
      | nil => exact .nil
      | @cons w v ws vs h r ih => exact .cons (h.frz hs) ih
    · refine ⟨fun d v k h => h.keyO (hs.noTup sm) (k rfl), fun ds us k h => h.keyO (hs.noTup sm) (k rfl), fun a fs h x z => ?_⟩
      rcases List.mem_append.mp z with z | z
      · exact h (List.mem_append_left _ z)
      · obtain ⟨n, e⟩ := List.getElem?_of_mem z
        have hn : n < st.length := by rw [← hs.len]; exact (List.getElem?_eq_some_iff.mp e).1
        cases q : st[n] with
        | lst xs =>
          obtain ⟨us, h1, _⟩ := hs.ob n a xs e (by rw [List.getElem?_eq_getElem hn, q])
          rw [sm a _ h1] at x; cases x
        | dic kvs =>
          obtain ⟨us, ep, h1, _⟩ := hs.od n a kvs e (by rw [List.getElem?_eq_getElem hn, q])
          rw [sm a _ h1] at x; cases x
theorem paired_len2 {α β : Type} {R : α → β → Prop} {xs : List α} {ys : List β} (h : Paired R xs ys) : xs.length = ys.length := Paired.length h
theorem sp_len {np : Nat} {ps : List Str} (hp : ps.length = np) {call : List Wv → Sr → Rs (Wv × Sr)} : ∀ vs H Q E, spF XT K np call vs H Q E → vs.length = ps.length := fun vs H Q E h => by
  obtain ⟨fo, φ, st, ws, _, r, hl, _⟩ := h
  rw [hp, ← hl]
  exact (Paired.length r).symm
/-- a def's body, read by the own meaning, keeps the def's promise -/
theorem body_read {n f np : Nat} {F : Fn} {N : List Str} {vs : List V} {H : Hp} {Q : VK} {E : XK} (hF : tab[f]? = some F) (hnp : F.np = np) (hns : F.ns = N.length)
    (h : spF XT K np (callW (runV tab gl (n + 1)) f) vs H Q E) : tS XT K E (exSs ⟨callW (runV tab gl n), gl⟩ F.body) { nx := fun _ H' => Q .non H', rt := Q } (L2.start N vs) H := by
  obtain ⟨fo, φ, st, ws, hs, r, hl, h⟩ := h
  obtain ⟨fo0, feq, hs0, r0, back0⟩ := frz_args hs r
  have hlen : (ws.map (frzW st)).length = np := by rw [List.length_map]; exact hl
  have lv : (ws.map (frzW st)).length = vs.length := Paired.length r0
  unfold callW at h
  cases er : runV tab gl (n + 1) f (ws.map (frzW st)) with
  | bad => rw [er] at h; exact False.elim h
  | _ =>
    have hrun : runV tab gl (n + 1) f (ws.map (frzW st)) = (exSs ⟨callW (runV tab gl n), gl⟩ F.body (startE F.ns (ws.map (frzW st))) []).bind endD := by
      rw [runV, hF] at er ⊢
      simp only at er ⊢
      split
      · rfl
      · rename_i hn
        rw [if_neg hn] at er
        cases er
    clear er
    rw [hrun] at h
    have he0 : EnvOk K fo0 [] H (startE F.ns (ws.map (frzW st))) (L2.start N vs) := by
      unfold startE L2.start
      rw [hns, lv]
      exact start_ok _ r0
    have back : ∀ {φ2 : List Addr} {H2 : Hp}, Step [] H φ2 H2 → Same H H2 := fun s a o e => (s.keep a o (by simp) e).1
    refine ⟨fo0, [], startE F.ns (ws.map (frzW st)), [], hs0, he0, ?_⟩
    cases ex : exSs ⟨callW (runV tab gl n), gl⟩ F.body (startE F.ns (ws.map (frzW st))) [] with
    | bad => rw [ex] at h; exact False.elim h
    | exc c fs sx =>
      rw [ex] at h
      simp only [Rs.bind_exc] at h
      split at h
      · exact False.elim h
      · rename_i hk
        intro φ2 H2 s2 q2 cls d hx
        have sm := back s2
        obtain ⟨_, b2, b3⟩ := back0 φ2 H2 sm
        refine h φ H2 (Step.same sm) (hs.same sm) cls d ?_
        obtain ⟨x1, x2, x3⟩ := hx
        refine ⟨x1, x2, ?_⟩
        rcases x3 with x3 | ⟨y0, a, us, y1, y2, y3, y4⟩
        · exact .inl x3
        · refine .inr ⟨y0, a, us, y1, b3 a _ y2 y3, y3, b2 _ _ (fun z => ?_) y4⟩
          cases k : keyOks fs with
          | true => rfl
          | false => exact (hk ⟨z, k⟩).elim
    | ok p =>
      obtain ⟨⟨fl, ρ'⟩, st'⟩ := p
      rw [ex] at h
      simp only [Rs.bind_ok] at h
      intro φ2 H2 s2 q2 σ' he'
      have sm := back s2
      obtain ⟨b1, b2, _⟩ := back0 φ2 H2 sm
      have fin : ∀ d v, endD ((fl, ρ'), st') = .ok d → Rep K (fo0 ++ φ2) H2 d v → Q v H2 := fun d v e2 rv => by
        rw [e2] at h
        simp only at h
        split at h
        · exact False.elim h
        · rename_i hk
          refine h φ H2 (Step.same sm) (hs.same sm) v (b1 d v (fun z => ?_) rv)
          cases k : keyOk d with
          | true => rfl
          | false => exact (hk ⟨z, k⟩).elim
      cases fl with
      | nx => exact fin .non .non rfl .non
      | bk => exact False.elim h
      | ct => exact False.elim h
      | rt w =>
        intro v rv
        cases w with
        | d x => exact fin x v rfl rv
        | dc kvs => exact False.elim h
        | ob m =>
          obtain ⟨a, ea, rfl⟩ := rv
          cases e3 : st'[m]? with
          | none =>
            have : endD ((Fl.rt (.ob m), ρ'), st') = .bad := by unfold endD; simp only [e3]
            rw [this] at h; exact False.elim h
          | some o =>
            cases o with
            | dic kvs =>
              have : endD ((Fl.rt (.ob m), ρ'), st') = .bad := by unfold endD; simp only [e3]
              rw [this] at h; exact False.elim h
            | lst xs =>
              obtain ⟨us, h3, r3⟩ := q2.ob m a xs ea e3
              have : endD ((Fl.rt (.ob m), ρ'), st') = .ok (.lst xs) := by unfold endD; simp only [e3]
              rw [this] at h
              simp only at h
              split at h
              · exact False.elim h
              · rename_i hk
                have nob : ws.any isOb = false := by
                  cases z : ws.any isOb with
                  | false => rfl
                  | true => exact (hk ⟨z, rfl⟩).elim
                have na : a ∉ fo ++ φ := by
                  rw [← feq nob]
                  exact q2.dj a (List.mem_of_getElem? ea)
                exact h φ H2 (Step.same sm) (hs.same sm) (.ref a) (.lst na (.inl h3) (b2 _ _ (fun z => by rw [nob] at z; cases z) r3))
theorem quo_ok {CX : CXT} {n f np : Nat} {x qual : Str} {st : Stmt} {a : Addr} {fd : FuncData} {N ps : List Str} {F : Fn} (hf : Fun K x qual st a fd) (S : FnScope N ps (defScope st)) (hp : ps.length = np) (ht : tab[f]? = some F) (hnp : F.np = np) (hns : F.ns = N.length)
    (hc : F.body = .cons (.quo 0) .nil ∧ N = ([("text" : Str), ("inner" : Str)]) ∧ np = 1 ∧ quoSt (defScope st) (defBody st) = true) : FnOk P w K mg base CX (n + 1) a fd ps (spF XT K np (callW (runV tab gl (n + 1)) f)) := by
  obtain ⟨hb, hN, h1, hq⟩ := hc
  obtain ⟨⟨oc, od, kV, doc, pm, an, cdv, ct, osl, rfl, lk, hcd⟩, kp⟩ := hf
  have hps : 1 ≤ ps.length := by omega
  unfold quoSt at hq
  split at hq
  · rename_i x1 _ t1 _ r1 a1 y1 _ _ z1 _ _ c1 r2 a2 y2 _ _ z2 _ _ c2 _ q1 _ _ x2 _ _ q2 _ _ _ _ hbody
    simp only [Bool.and_eq_true, decide_eq_true_eq, List.all_eq_true] at hq
    obtain ⟨⟨⟨⟨⟨⟨⟨⟨⟨⟨⟨⟨⟨⟨⟨⟨rfl, rfl⟩, rfl⟩, rfl⟩, rfl⟩, rfl⟩, rfl⟩, rfl⟩, rfl⟩, rfl⟩, rfl⟩, l1⟩, l2⟩, v1⟩, v2⟩, g1⟩, nc⟩ := hq
    obtain ⟨w1, w2, w3⟩ := isVis_vis v1
    obtain ⟨u1, u2, u3⟩ := isVis_vis v2
    obtain ⟨k1, _⟩ := isTg_loc g1
    refine fn_ofT lk hcd S (fun y hy e => ?_) hps (sp_len hp) fun A outer s H vs Q E hr hsp => ?_
    · have := nc y hy
      rw [e] at this
      cases this
    · have hread := body_read ht hnp hns hsp
      rw [hb] at hread
      generalize hX : cxOf CX P w K mg base N qual (defScope st) a cdv A outer s H E = X
      have XN : X.N = N := by rw [← hX]; rfl
      have Xsc : X.env.scope = defScope st := by rw [← hX]; rfl
      have Xfn : ∀ y, X.fn y = true := fun y => by rw [← hX]; rfl
      have hv0 : ∀ p : Pos, PE X (.Name "text" p) (tVar 0) := fun p => pe_var (i := 0) (x := "text") (by rw [XN, hN]; rfl) (by rw [Xsc]; exact w1) w2 w3
      have hv1 : ∀ p : Pos, PE X (.Name "inner" p) (tVar 1) := fun p => pe_var (i := 1) (x := "inner") (by rw [XN, hN]; rfl) (by rw [Xsc]; exact u1) u2 u3
      rw [hbody]
      refine ⟨_, psst_cons (pst_set (X := X) (i := 1) (x := "inner") (by rw [XN]; exact S.nd) (by rw [XN, hN]; rfl) (by rw [Xsc]; exact k1) (CwR.pet_replT (CwR.pet_replC (hv0 _) (by decide +kernel) rfl rfl l1) (by decide +kernel) rfl rfl l2) rfl (Xfn _)) (CwR.psst_one (CwR.pst_ret (X := X) (CwR.pet_op op_add_str (CwR.pet_op op_add_str (CwR.PET.of pe_str) (CwR.PET.of (hv1 _))) (CwR.PET.of pe_str)))), ?_⟩
      obtain ⟨fo, φ, ρ, st0, hs, he, h⟩ := hread
      have hx : exSs ⟨callW (runV tab gl n), gl⟩ (.cons (.quo 0) .nil) ρ st0 = quoW ρ[0]? ρ st0 := by
        unfold exSs exS quoW
        split
        · split <;> rfl
        · rfl
      rw [hx] at h
      unfold quoW at h
      split at h
      · rename_i s0 e0
        split at h
        · rename_i hl
          obtain ⟨v, ev, rv⟩ := he.at_ 0 _ e0
          obtain ⟨rfl, ho⟩ := vstr (Rep.view rv)
          have n1 := subC_len 92 [92, 92] (by decide) s0
          have n2 := subC_len 34 [92, 34] (by decide) (subC 92 [92, 92] s0)
          have hslen : 2 ≤ (L2.start N vs).length := by rw [← he.len]; have := (List.getElem?_eq_some_iff.mp e0).1; rw [he.len]; unfold L2.start; rw [hN]; simp; omega
          refine ⟨_, ev, toS s0, rfl, by rw [toS_len, toS_len]; show s0.length + (s0.length + 1) * 2 ≤ 16777216; omega, ?_⟩
          rw [repl_toS]
          refine ⟨_, rfl, by rw [toS_len, toS_len]; show (subC 92 [92, 92] s0).length + ((subC 92 [92, 92] s0).length + 1) * 2 ≤ 16777216; omega, ?_⟩
          rw [repl_toS]
          refine ⟨.str (toS (subC 34 [92, 34] (subC 92 [92, 92] s0))), by rw [List.getElem?_set_self (by omega)], _, _, rfl, rfl, ?_, _, _, rfl, rfl, ?_, ?_⟩
          · rw [toS_len, toS_len, sizeLine_eq]
            show 1 + _ ≤ _
            omega
          · rw [toS_append, toS_len, toS_len, sizeLine_eq, List.length_append]
            show 1 + _ + 1 ≤ _
            omega
          · rw [toS_append, toS_append]
            refine (Go.run h hs) _ he _ (show Rep K (fo ++ φ) H (.str (quoL s0)) _ from .str _ ⟨?_, fun c hc => ?_⟩)
            · unfold quoL
              rw [List.length_cons, List.length_append]
              show _ + 1 + 1 ≤ 16777216
              omega
            · unfold quoL at hc
              rcases List.mem_cons.mp hc with rfl | hc
              · decide
              · rcases List.mem_append.mp hc with hc | hc
                · rcases subC_mem _ _ _ _ hc with hc | hc
                  · simp only [List.mem_cons, List.not_mem_nil, or_false] at hc
                    rcases hc with rfl | rfl <;> decide
                  · rcases subC_mem _ _ _ _ hc with hc | hc
                    · simp only [List.mem_cons, List.not_mem_nil, or_false] at hc
                      rcases hc with rfl | rfl <;> decide
                    · exact ho.2 c hc
                · rw [List.mem_singleton.mp hc]; decide
        · exact False.elim h
      · exact False.elim h
  · cases hq
theorem takesB_of {nn : Bool} {N : List Str} {qual : Str} {sc : Scope} {a : Addr} {cdv : Value} {A : Around} {outer : List Env} {s : Shared} {H : Hp} {E : XK} : TakesB nn (cxOf (CXB nn P w) P w K mg base N qual sc a cdv A outer s H E) (WEE E) := by
  cases nn with
  | true => exact L2N.takes_of rfl rfl rfl rfl
  | false => exact L2.takes_of rfl rfl rfl rfl
theorem fn_ok (hP : K.P = P) (hw : K.w = w) (tn : T.nn = XT.nn) (FN : T.nn = false → ∀ (n f : Nat) (x : Str) (np : Nat), T.fns[f]? = some (x, np) → f ∈ T.cln → ∃ a fd ps, FnOk P w K mg base (L2N.CX P w) (n + 2) a fd ps (spF XT K np (callW (runV tab gl n) f)) ∧ mg x = some (.ref a) ∧ PySem.W.keepIn K (.ref a) = true ∧ Binds K fd ps [] ∧ ps.length = np) (D : ∀ f x np, T.fns[f]? = some (x, np) → (T.nn = true → f ∈ T.cln) → ∃ a fd ps, DefIs K mg T tab f x np a fd ps) (G : ∀ (k : Nat) (x : Str), T.gls[k]? = some x → ∃ (d : Dt) (v : V) (u : Value), gl[k]? = some d ∧ mg x = some u ∧ RelV v u ∧ ∀ av H, Rep K av H d v)
    (B : ∀ x ∈ bltNames, mg (Str.ofString x) = none) (XX : (∀ (c : Nat) (x : Str), T.xcs[c]? = some (x, []) → XcOk XT K mg c x) ∧ (∀ (k : Nat) (C : Value), XT.cls k = some C → ∃ A, C = .ref A ∧ XsOk XT K k A) ∧ (∀ (c : Nat) (x : Str) (fl : List Str), T.xcs[c]? = some (x, fl) → XnOk XT K mg c x) ∧
    ∀ (c : Nat) (x : Str) (fl : List Str), c ∈ T.xfs → T.xcs[c]? = some (x, fl) → XfOk XT K mg c x fl) : ∀ (n f : Nat) (x : Str) (np : Nat) (a : Addr) (fd : FuncData) (ps : List Str), DefIs K mg T tab f x np a fd ps →
    FnOk P w K mg base (CXB XT.nn P w) (n + 2) a fd ps (spF XT K np (callW (runV tab gl n) f)) := by
  obtain ⟨Kf, P0, w0⟩ := K
  have hP : P0 = P := hP
  have hw : w0 = w := hw
  subst P0
  subst w0
  intro n
  induction n with
  | zero =>
    intro f x np a fd ps ⟨st, qual, N, F, hf, S, hm, hb, hp, _⟩
    refine ⟨sp_len hp, fun A outer s H args us vs Q E _ _ _ _ hsp => ?_⟩
    exfalso
    obtain ⟨fo, φ, st, ws, hs, r, hl, h⟩ := hsp
    unfold callW at h
    rw [show runV tab gl 0 f (ws.map (frzW st)) = .bad from rfl] at h
    exact h
  | succ n ih =>
    intro f x np a fd ps ⟨st, qual, N, F, hf, S, hm, hb, hp, ht, hnp, hns, hc⟩
    rcases hc with hc | hc
    case inr => exact (quo_ok hf S hp ht hnp hns hc).mono (by omega)
    obtain ⟨oc, od, kV, doc, pm, an, cdv, ct, osl, rfl, lk, hcd⟩ := hf.ex
    refine fn_of (k := n + 2) lk hcd S (sp_len hp) (fun A outer s H vs Q E hr hsp => ?_)
    have cx : CxOk XT T ⟨callW (runV tab gl n), gl⟩ N (cxOf (CXB XT.nn P w) P w Kf mg base N qual (defScope st) a cdv A outer s H E) (WEE E) (defScope st) := by
      refine ⟨rfl, S.nd, rfl, rfl, ?_, hr.mono (by omega), takesB_of (K := ⟨Kf, P, w⟩), tn, G, B, XX, fun f' x' n' h' hcl => ?_, fun z f' x' n' h' hcl => ?_⟩
      · have := hr.un
        show (A.deeper _).units + 65 < cLine
        omega
      · obtain ⟨a', fd', ps', hd⟩ := D f' x' n' h' hcl
        have h1 := ih f' x' n' a' fd' ps' hd
        obtain ⟨_, _, _, _, k1, _, k3, k4, k5, _⟩ := hd
        exact ⟨n + 2, a', fd', ps', h1, hr, k3, k1.kp, .all k4, k5⟩
      · obtain ⟨a', fd', ps', k1, k2, k3, k4, k5⟩ := FN z n f' x' n' h' hcl
        exact ⟨n + 2, a', fd', ps', k1, hr, k2, k3, k4, k5⟩
    have sx : SxOk XT T ⟨callW (runV tab gl n), gl⟩ N (cxOf (CXB XT.nn P w) P w Kf mg base N qual (defScope st) a cdv A outer s H E) E (defScope st) := ⟨cx, S.kind, fun _ => rfl, passes_of rfl, rfl, rfl, fun hd => L2H.passesAt_of rfl hd⟩
    exact ⟨_, pssS F.body sx (defBody st) hc, body_read ht hnp hns hsp⟩
end
section
variable {T : Tb} {K : PySem.W.Frag} {mg : Str → Option Value} {tab : List Fn} {gl : List Dt}
/-- the defs that raise no exception with a context -/
def AllCln (K : PySem.W.Frag) (mg : Str → Option Value) (T : Tb) (tab : List Fn) : List Nat → Prop
  | [] => True
  | f :: r => (∀ x np, T.fns[f]? = some (x, np) → ∃ a fd ps, DefIs K mg T tab f x np a fd ps) ∧ AllCln K mg T tab r
theorem AllCln.get : ∀ {L : List Nat}, AllCln K mg T tab L → ∀ f x np, T.fns[f]? = some (x, np) → f ∈ L → ∃ a fd ps, DefIs K mg T tab f x np a fd ps
  | [], _, f, x, np, _, h => by cases h
  | g :: r, a, f, x, np, e, h => by
    rcases List.mem_cons.mp h with rfl | h
    · exact a.1 x np e
    · exact AllCln.get a.2 f x np e h
def AllDefs (K : PySem.W.Frag) (mg : Str → Option Value) (T : Tb) (tab : List Fn) : Nat → List (Str × Nat) → Prop
  | _, [] => True
  | i, (x, np) :: r => (∃ a fd ps, DefIs K mg T tab i x np a fd ps) ∧ AllDefs K mg T tab (i + 1) r
theorem AllDefs.get0 : ∀ {L : List (Str × Nat)} {i : Nat}, AllDefs K mg T tab i L → ∀ (f : Nat) (x : Str) (np : Nat), L[f]? = some (x, np) → ∃ a fd ps, DefIs K mg T tab (i + f) x np a fd ps
  | [], _, _, f, x, np, e => by simp at e
  | (y, m) :: r, i, h, 0, x, np, e => by
    simp at e
    obtain ⟨rfl, rfl⟩ := e
    exact h.1
  | (y, m) :: r, i, h, f + 1, x, np, e => by
    have := AllDefs.get0 h.2 f x np (by simpa using e)
    rw [show i + (f + 1) = i + 1 + f by omega]
    exact this
theorem AllDefs.get {L : List (Str × Nat)} (h : AllDefs K mg T tab 0 L) : ∀ (f : Nat) (x : Str) (np : Nat), L[f]? = some (x, np) → ∃ a fd ps, DefIs K mg T tab f x np a fd ps := fun f x np e => by
  have := AllDefs.get0 h f x np e
  rwa [Nat.zero_add] at this
def AllGl (K : PySem.W.Frag) (mg : Str → Option Value) (gl : List Dt) : Nat → List Str → Prop
  | _, [] => True
  | i, x :: r => (∃ (d : Dt) (v : V) (u : Value), gl[i]? = some d ∧ mg x = some u ∧ RelV v u ∧ ∀ P w av H, Rep ⟨K, P, w⟩ av H d v) ∧ AllGl K mg gl (i + 1) r
theorem AllGl.get0 : ∀ {L : List Str} {i : Nat}, AllGl K mg gl i L → ∀ (k : Nat) (x : Str), L[k]? = some x → ∃ (d : Dt) (v : V) (u : Value), gl[i + k]? = some d ∧ mg x = some u ∧ RelV v u ∧ ∀ P w av H, Rep ⟨K, P, w⟩ av H d v
  | [], _, _, f, x, e => by simp at e
  | y :: r, i, h, 0, x, e => by
    simp at e
    subst e
    exact h.1
  | y :: r, i, h, f + 1, x, e => by
    have := AllGl.get0 h.2 f x (by simpa using e)
    rw [show i + (f + 1) = i + 1 + f by omega]
    exact this
theorem AllGl.get {L : List Str} (h : AllGl K mg gl 0 L) : ∀ (k : Nat) (x : Str), L[k]? = some x → ∃ (d : Dt) (v : V) (u : Value), gl[k]? = some d ∧ mg x = some u ∧ RelV v u ∧ ∀ P w av H, Rep ⟨K, P, w⟩ av H d v := fun k x e => by
  have := AllGl.get0 h k x e
  rwa [Nat.zero_add] at this
def AllBlt (mg : Str → Option Value) : List String → Prop
  | [] => True
  | x :: r => mg (Str.ofString x) = none ∧ AllBlt mg r
theorem AllBlt.get : ∀ {L : List String}, AllBlt mg L → ∀ x ∈ L, mg (Str.ofString x) = none
  | y :: r, h, x, hx => by
    rcases List.mem_cons.mp hx with rfl | hx
    · exact h.1
    · exact AllBlt.get h.2 x hx
theorem rep_lit {K : KF} {s : List Nat} {x : Str} {av : List Addr} {H : Hp} (h : x = toS s) (ho : (decide (s.length ≤ lim) && s.all fun c => decide (c < 1114112)) = true) : Rep K av H (.str s) (.str x) := by
  subst h
  simp only [Bool.and_eq_true, decide_eq_true_eq, List.all_eq_true] at ho
  exact .str s ho
end
def AllXc (XT : Xt) (K : PySem.W.Frag) (mg : Str → Option Value) : Nat → List (Str × List Str) → Prop
  | _, [] => True
  | i, (x, fl) :: r => (XnOk XT K mg i x ∧ (fl = [] → XcOk XT K mg i x)) ∧ AllXc XT K mg (i + 1) r
theorem AllXc.get0 {XT : Xt} {K : PySem.W.Frag} {mg : Str → Option Value} : ∀ {L : List (Str × List Str)} {i : Nat}, AllXc XT K mg i L → ∀ (c : Nat) (x : Str) (fl : List Str), L[c]? = some (x, fl) → XnOk XT K mg (i + c) x ∧ (fl = [] → XcOk XT K mg (i + c) x)
  | [], _, _, c, x, fl, e => by simp at e
  | (y, f) :: r, i, h, 0, x, fl, e => by
    simp at e
    obtain ⟨rfl, rfl⟩ := e
    exact h.1
  | (y, f) :: r, i, h, c + 1, x, fl, e => by
    have := AllXc.get0 (i := i + 1) h.2 c x fl (by simpa using e)
    rw [show i + (c + 1) = i + 1 + c by omega]
    exact this
theorem AllXc.get {XT : Xt} {K : PySem.W.Frag} {mg : Str → Option Value} {L : List (Str × List Str)} (h : AllXc XT K mg 0 L) : ∀ (c : Nat) (x : Str) (fl : List Str), L[c]? = some (x, fl) → XnOk XT K mg c x ∧ (fl = [] → XcOk XT K mg c x) := fun c x fl e => by
  have := AllXc.get0 h c x fl e
  rwa [Nat.zero_add] at this
def AllXf (XT : Xt) (K : PySem.W.Frag) (mg : Str → Option Value) (L : List (Str × List Str)) : List Nat → Prop
  | [] => True
  | c :: r => (∀ x fl, L[c]? = some (x, fl) → XfOk XT K mg c x fl) ∧ AllXf XT K mg L r
theorem AllXf.get {XT : Xt} {K : PySem.W.Frag} {mg : Str → Option Value} {L : List (Str × List Str)} : ∀ {cs : List Nat}, AllXf XT K mg L cs → ∀ (c : Nat) (x : Str) (fl : List Str), c ∈ cs → L[c]? = some (x, fl) → XfOk XT K mg c x fl
  | [], _, c, x, fl, h, _ => by cases h
  | d :: r, a, c, x, fl, h, e => by
    rcases List.mem_cons.mp h with rfl | h
    · exact a.1 x fl e
    · exact AllXf.get a.2 c x fl h e
theorem kit_sub {K : PySem.W.Frag} {C D : Addr} {b : Bool} (h1 : PySem.W.subIn K (.ref D) (.type "BaseException") = some true) (h2 : PySem.W.hasDictIn K D = true) (h3 : PySem.W.typeIn K (.ref D) = some (.type "type")) (h4 : PySem.W.subIn K (.ref C) (.ref D) = some b) : PySem.W.kitCls K (.ref C) (.ref D) = some b := by
  have h := PySem.W.exm_ref (cls := .ref C) h1 h2 h3 h4
  unfold PySem.W.exmOne at h
  rw [h1] at h
  simpa using h
theorem kit_ve {K : PySem.W.Frag} {C : Addr} (h : PySem.W.subIn K (.ref C) (.type "ValueError") = some true) : PySem.W.kitOne K (.ref C) (.type "ValueError") = some true := by
  have h0 : PySem.W.kitMeta "ValueError" = true := by decide +kernel
  unfold PySem.W.kitOne
  split
  · rfl
  · show (if PySem.W.kitMeta "ValueError" = true then PySem.W.subIn K (.ref C) (.type "ValueError") else none) = some true
    rw [if_pos h0]; exact h
/-- the class at C beside the others -/
def AllKit (K : PySem.W.Frag) (c : Nat) (C : Addr) : Nat → List (Str × List Str) → Prop
  | _, [] => True
  | i, (y, _) :: r => (∀ D, PySem.W.nsIn K mainGlobals y = some (some (.ref D)) → PySem.W.kitCls K (.ref C) (.ref D) = some (subB c i)) ∧ AllKit K c C (i + 1) r
theorem AllKit.get0 {K : PySem.W.Frag} {c : Nat} {C D : Addr} : ∀ {L : List (Str × List Str)} {i : Nat}, AllKit K c C i L → ∀ (k : Nat) (x : Str) (fl : List Str), L[k]? = some (x, fl) → PySem.W.nsIn K mainGlobals x = some (some (.ref D)) → PySem.W.kitCls K (.ref C) (.ref D) = some (subB c (i + k))
  | [], _, _, k, x, fl, e, _ => by simp at e
  | (y, f) :: r, i, h, 0, x, fl, e, hd => by
    simp at e
    obtain ⟨rfl, rfl⟩ := e
    exact h.1 D hd
  | (y, f) :: r, i, h, k + 1, x, fl, e, hd => by
    have := AllKit.get0 (i := i + 1) h.2 k x fl (by simpa using e) hd
    rw [show i + (k + 1) = i + 1 + k by omega]
    exact this
theorem xtK_inv {K : PySem.W.Frag} {L : List (Str × List Str)} {k : Nat} {C : Value} (e1 : (xtK K L).cls k = some C) : ∃ x fl, L[k]? = some (x, fl) ∧ PySem.W.nsIn K mainGlobals x = some (some C) := by
  have e1' : (match L[k]? with | some p => (PySem.W.nsIn K mainGlobals p.1).join | none => none) = some C := e1
  cases h : L[k]? with
  | none => rw [h] at e1'; cases e1'
  | some p =>
    rw [h] at e1'
    obtain ⟨x, q⟩ := p
    dsimp only at e1'
    refine ⟨x, q, rfl, ?_⟩
    cases hn : PySem.W.nsIn K mainGlobals x with
    | none => rw [hn] at e1'; cases e1'
    | some o =>
      rw [hn] at e1'
      cases o with
      | none => cases e1'
      | some v => cases e1'; rfl
theorem AllKit.get {K : PySem.W.Frag} {c : Nat} {C : Addr} {L : List (Str × List Str)} (h : AllKit K c C 0 L) (k : Nat) (D : Addr) (e1 : (xtK K L).cls k = some (.ref D)) : PySem.W.kitCls K (.ref C) (.ref D) = some (subB c k) := by
  obtain ⟨x, fl, h1, h2⟩ := xtK_inv e1
  have := AllKit.get0 h k x fl h1 h2
  rwa [Nat.zero_add] at this
theorem xtK_cls {K : PySem.W.Frag} {L : List (Str × List Str)} {c : Nat} {x : Str} {fl : List Str} {C : Addr} (hc : L[c]? = some (x, fl)) (n : PySem.W.nsIn K mainGlobals x = some (some (.ref C))) : (xtK K L).cls c = some (.ref C) ∧ (xtK K L).flds c = fl := by
  constructor
  · show (match L[c]? with | some p => (PySem.W.nsIn K mainGlobals p.1).join | none => none) = _
    rw [hc]
    show (PySem.W.nsIn K mainGlobals x).join = _
    rw [n]; rfl
  · show (match L[c]? with | some p => p.2 | none => []) = _
    rw [hc]
theorem xcOk_mk {K : PySem.W.Frag} {mg : Str → Option Value} {h : Heap} {L : List (Str × List Str)} {c : Nat} {x : Str} {C : Addr} (X : K.In h) (G : h.Ns mainGlobals mg) (hc : L[c]? = some (x, [])) (n : PySem.W.nsIn K mainGlobals x = some (some (.ref C))) (h1 : PySem.W.excIn K C bmVE "ValueError.__new__" = true)
    (h2 : PySem.W.keepIn K (.ref C) = true) (h3 : PySem.W.subIn K (.ref C) (.type "BaseException") = some true) (h4 : PySem.W.typeIn K (.ref C) = some (.type "type")) (h5 : L2.ExcC K C) (h6 : PySem.W.kitOne K (.ref C) (.type "ValueError") = some true) (h7 : AllKit K c C 0 L) : XnOk (xtK K L) K mg c x ∧ (([] : List Str) = [] → XcOk (xtK K L) K mg c x) :=
  ⟨⟨C, (xtK_cls hc n).1, PySem.W.mg_of X G n, h3, h5, h6, fun k D e1 => h7.get k D e1⟩, fun _ => ⟨C, (xtK_cls hc n).1, (xtK_cls hc n).2, PySem.W.mg_of X G n, h1, h2, h3, h4, h5, h6, fun k D e1 => h7.get k D e1⟩⟩
theorem xnOk_mk {K : PySem.W.Frag} {mg : Str → Option Value} {h : Heap} {L : List (Str × List Str)} {c : Nat} {x y : Str} {fl : List Str} {C : Addr} (X : K.In h) (G : h.Ns mainGlobals mg) (hc : L[c]? = some (x, y :: fl)) (n : PySem.W.nsIn K mainGlobals x = some (some (.ref C)))
    (h3 : PySem.W.subIn K (.ref C) (.type "BaseException") = some true) (h5 : L2.ExcC K C) (h6 : PySem.W.kitOne K (.ref C) (.type "ValueError") = some true) (h7 : AllKit K c C 0 L) : XnOk (xtK K L) K mg c x ∧ ((y :: fl) = [] → XcOk (xtK K L) K mg c x) :=
  ⟨⟨C, (xtK_cls hc n).1, PySem.W.mg_of X G n, h3, h5, h6, fun k D e1 => h7.get k D e1⟩, fun z => by cases z⟩
theorem xfOk_mk {K : PySem.W.Frag} {mg : Str → Option Value} {h : Heap} {L : List (Str × List Str)} {c : Nat} {x : Str} {fl ps : List Str} {C fI : Addr} {fd : FuncData} (X : K.In h) (G : h.Ns mainGlobals mg) (hc : L[c]? = some (x, fl)) (n : PySem.W.nsIn K mainGlobals x = some (some (.ref C)))
    (h1 : L2.OexC K C) (h2 : ∀ f ∈ fl, PySem.W.findIn K (.ref C) f = some none) (h3 : PySem.W.findIn K (.ref C) "__init__" = some (some (.ref fI))) (h4 : PySem.W.typeIn K (.ref fI) = some (.type "function")) (h5 : IniIs K fI fd ps fl isVis) :
    ∀ y fl', L[c]? = some (y, fl') → XfOk (xtK K L) K mg c y fl' := fun y fl' e => by
  rw [hc] at e
  cases e
  exact ⟨C, fI, fd, ps, (xtK_cls hc n).1, (xtK_cls hc n).2, PySem.W.mg_of X G n, h1, h2, h3, h4, h5⟩
theorem noF_one {K : PySem.W.Frag} {C : Addr} {f : Str} (h : PySem.W.findIn K (.ref C) f = some none) : ∀ g ∈ [f], PySem.W.findIn K (.ref C) g = some none := fun g hg => by
  rw [List.mem_singleton.mp hg]; exact h
theorem noF_two {K : PySem.W.Frag} {C : Addr} {f f2 : Str} (h : PySem.W.findIn K (.ref C) f = some none) (h2 : PySem.W.findIn K (.ref C) f2 = some none) : ∀ g ∈ [f, f2], PySem.W.findIn K (.ref C) g = some none := fun g hg => by
  rcases List.mem_cons.mp hg with rfl | hg
  · exact h
  · rw [List.mem_singleton.mp hg]; exact h2
/-- the walk: from the law's own meaning to the row -/
theorem walk_law {l : PySem.W.OpenLaw} {q : Program} {loose : List Str} {XP : (Str → Option Value) → Heap → Prop} {YP : World → Heap → Prop} {d : DefRec} {K : Params → PySem.W.Frag} (T : Tb) (tab : List Fn) (gl : List Dt) (n fL : Nat)
    (hnn : T.nn = false) (hn : l.most = some 63) (hdf : d.params.defaults = []) (hr : Room (n + 2) callerA) (hY : ∀ (w : World) (h : Heap), YP w h → (K w.params).In h)
    (F : ∀ (w : World) (mg : Str → Option Value) (fa : Addr) (h : Heap), (K w.params).In h → h.Ns mainGlobals mg → mg d.name = some (.ref fa) →
      (∀ f x np, T.fns[f]? = some (x, np) → ∃ a fd ps, DefIs (K w.params) mg T tab f x np a fd ps) ∧ (∃ fd, DefIs (K w.params) mg T tab fL d.name 1 fa fd ["script"]) ∧
      (∀ (k : Nat) (x : Str), T.gls[k]? = some x → ∃ (d : Dt) (v : V) (u : Value), gl[k]? = some d ∧ mg x = some u ∧ RelV v u ∧ ∀ P w' av H, Rep ⟨K w.params, P, w'⟩ av H d v) ∧
      (∀ x ∈ bltNames, mg (Str.ofString x) = none) ∧ (∀ (c : Nat) (x : Str) (fl : List Str), T.xcs[c]? = some (x, fl) → XnOk (xtK (K w.params) T.xcs) (K w.params) mg c x ∧ (fl = [] → XcOk (xtK (K w.params) T.xcs) (K w.params) mg c x)) ∧
      AllXf (xtK (K w.params) T.xcs) (K w.params) mg T.xcs T.xfs ∧ AllCln (K w.params) mg { T with nn := true } tab T.cln)
    (hlaw : ∀ ns : List Int, ns.length ≤ 63 → runP tab gl n fL [.scr ns] = .ok (.bl true)) :
    PySem.W.WalkO q loose XP YP l.row.toRowW d [] (fun f vs => PySem.call f vs) := by
  refine L2.walk_of (n := 63) (k := n + 2) (x := "script") (CX := fun w => L2.CX l.prog w) (sp := fun w => spF (xtK (K w.params) T.xcs) ⟨K w.params, l.prog, w⟩ 1 (callW (runV tab gl n) fL)) hn (by decide) hdf hr hY (fun w mg fa h KX Gm hm => ?_) (fun w H a ns hl hO hS => ?_) ?_
  · obtain ⟨D, ⟨fd, hd⟩, G0, B, XX, XF, CL⟩ := F w mg fa h KX Gm hm
    have G : ∀ (k : Nat) (x : Str), T.gls[k]? = some x → ∃ (d : Dt) (v : V) (u : Value), gl[k]? = some d ∧ mg x = some u ∧ RelV v u ∧ ∀ av H, Rep ⟨K w.params, l.prog, w⟩ av H d v := fun k x e => let ⟨d, v, u, a1, a2, a3, a4⟩ := G0 k x e; ⟨d, v, u, a1, a2, a3, a4 _ _⟩
    have XX' : (∀ (c : Nat) (x : Str), T.xcs[c]? = some (x, []) → XcOk (xtK (K w.params) T.xcs) (K w.params) mg c x) ∧ (∀ (k : Nat) (C : Value), (xtK (K w.params) T.xcs).cls k = some C → ∃ A, C = .ref A ∧ XsOk (xtK (K w.params) T.xcs) (K w.params) k A) ∧
        (∀ (c : Nat) (x : Str) (fl : List Str), T.xcs[c]? = some (x, fl) → XnOk (xtK (K w.params) T.xcs) (K w.params) mg c x) ∧ ∀ (c : Nat) (x : Str) (fl : List Str), c ∈ T.xfs → T.xcs[c]? = some (x, fl) → XfOk (xtK (K w.params) T.xcs) (K w.params) mg c x fl := ⟨fun c x e => (XX c x [] e).2 rfl, fun k C e1 => by
      obtain ⟨x, fl, h1, h2⟩ := xtK_inv e1
      obtain ⟨A, y1, _, _, y8⟩ := (XX k x fl h1).1
      rw [e1] at y1
      cases y1
      exact ⟨A, rfl, y8⟩, fun c x fl e => (XX c x fl e).1, fun c x fl hcs e => XF.get c x fl hcs e⟩
    refine ⟨fd, fun s u => ?_, fun base _ _ => fn_ok (K := ⟨K w.params, l.prog, w⟩) (XT := xtK (K w.params) T.xcs) rfl rfl hnn (fun _ m f x np e hcl => ?_) (fun f x np e _ => D f x np e) G B XX' n fL d.name 1 fa fd ["script"] hd⟩
    rotate_left
    · obtain ⟨a', fd', ps', hd'⟩ := CL.get f x np e hcl
      have N := fn_ok (K := ⟨K w.params, l.prog, w⟩) (P := l.prog) (w := w) (base := base) (XT := { xtK (K w.params) T.xcs with nn := true }) (T := { T with nn := true }) rfl rfl rfl (fun z => by cases z) (fun f x np e h => CL.get f x np e (h rfl)) G B XX' m f x np a' fd' ps' hd'
      obtain ⟨_, _, _, _, k1, _, k3, k4, k5, _⟩ := hd'
      exact ⟨a', fd', ps', N, k3, k1.kp, .all k4, k5⟩
    obtain ⟨_, _, _, _, _, _, _, k4, _⟩ := hd
    exact .of_eq (k4 [u] rfl)
  · have rs : Rep ⟨K w.params, l.prog, w⟩ ([] ++ []) H (.scr ns) (.ref a) := .scr (by
      rcases hS with h | h
      · exact .inl ⟨by simp, h⟩
      · exact .inr h)
    refine ⟨[], [], [], [.d (.scr ns)], ⟨rfl, List.nodup_nil, fun a ha => (List.not_mem_nil ha).elim, fun a ha => (List.not_mem_nil ha).elim, fun n a xs e => by simp at e, fun n a xs e => by simp at e⟩, .cons rs .nil, rfl, ?_⟩
    have : callW (runV tab gl n) fL [.d (.scr ns)] [] = .ok (.d (.bl true), []) := by
      have := hlaw ns hl
      unfold runP at this
      unfold callW
      rw [show [Wv.d (.scr ns)].map (frzW []) = [Dt.scr ns].map Wv.d from rfl, this]
      rfl
    rw [this]
    intro φ' H' _ _ v rv
    cases (show Rep ⟨K w.params, l.prog, w⟩ ([] ++ φ') H' (.bl true) v from rv)
    rfl
  · intro w H s e s' z
    obtain ⟨_, _, _, _, _, _, _, _, _, _, _, _, z⟩ := z
    exact z
end PB

set_option Elab.async false
set_option linter.all false
set_option maxRecDepth 100000
set_option maxHeartbeats 4000000
set_option backward.match.sparseCases false
/-! Reckoning with the own meaning. -/
namespace PB
open PySem
section
variable {Γ : Gam} {ρ : Ev} {st : Sr}
def lookW : Option (Option Wv) → Sr → Rs (Wv × Sr)
  | some (some w), st => .ok (w, st)
  | _, _ => .bad
@[simp] theorem lookW_some (w : Wv) : lookW (some (some w)) st = .ok (w, st) := rfl
@[simp] theorem evE_v (i : Nat) : evE Γ (.v i) ρ st = lookW ρ[i]? st := by
  rw [evE]
  rcases ρ[i]? with _ | (_ | w) <;> rfl
@[simp] theorem evE_non : evE Γ .non ρ st = .ok (.d .non, st) := by rw [evE]
@[simp] theorem evE_bl (b : Bool) : evE Γ (.bl b) ρ st = .ok (.d (.bl b), st) := by rw [evE]
@[simp] theorem evE_int (i : Int) : evE Γ (.int i) ρ st = .ok (.d (.int i), st) := by rw [evE]
@[simp] theorem evE_str (s : List Nat) : evE Γ (.str s) ρ st = .ok (.d (.str s), st) := by rw [evE]
def globW : Option Dt → Sr → Rs (Wv × Sr)
  | some x, st => .ok (.d x, st)
  | none, _ => .bad
@[simp] theorem globW_some (x : Dt) : globW (some x) st = .ok (.d x, st) := rfl
@[simp] theorem evE_g (k : Nat) : evE Γ (.g k) ρ st = globW Γ.glob[k]? st := by
  rw [evE]
  rcases Γ.glob[k]? with _ | w <;> rfl
@[simp] theorem evE_bin (o : Bop) (a b : Ex) : evE Γ (.bin o a b) ρ st = (evE Γ a ρ st).bind fun p => (evE Γ b ρ p.2).bind fun q => op2 (bopD o) p.1 q := by rw [evE]
@[simp] theorem evE_neg (a : Ex) : evE Γ (.neg a) ρ st = (evE Γ a ρ st).bind (op1 negD) := by rw [evE]
@[simp] theorem evE_not (a : Ex) : evE Γ (.not a) ρ st = (evE Γ a ρ st).bind (op1 notD) := by rw [evE]
@[simp] theorem evE_and (es : Exs) : evE Γ (.and es) ρ st = evAnd Γ es ρ st := by rw [evE]
@[simp] theorem evE_or (es : Exs) : evE Γ (.or es) ρ st = evOr Γ es ρ st := by rw [evE]
@[simp] theorem evAnd1 (e : Ex) : evAnd Γ (.cons e .nil) ρ st = evE Γ e ρ st := by rw [evAnd_one]
@[simp] theorem evOr1 (e : Ex) : evOr Γ (.cons e .nil) ρ st = evE Γ e ρ st := by rw [evOr_one]
@[simp] theorem evAnd2 (e e2 : Ex) (r : Exs) : evAnd Γ (.cons e (.cons e2 r)) ρ st = (evE Γ e ρ st).bind fun p => (truW p).bind fun t => if t = true then evAnd Γ (.cons e2 r) ρ p.2 else .ok p := evAnd_more e e2 r ρ st
@[simp] theorem evOr2 (e e2 : Ex) (r : Exs) : evOr Γ (.cons e (.cons e2 r)) ρ st = (evE Γ e ρ st).bind fun p => (truW p).bind fun t => if t = true then .ok p else evOr Γ (.cons e2 r) ρ p.2 := evOr_more e e2 r ρ st
@[simp] theorem evE_cmp (o : Cop) (a b : Ex) : evE Γ (.cmp o a b) ρ st = (evE Γ a ρ st).bind fun p => (evE Γ b ρ p.2).bind fun q => op2 (fun x y => blO (copD o x y)) p.1 q := by rw [evE]
@[simp] theorem evE_cmp2 (o o' : Cop) (a b c : Ex) : evE Γ (.cmp2 o o' a b c) ρ st = (evE Γ a ρ st).bind fun p => (evE Γ b ρ p.2).bind fun q => (op2 (fun x y => blO (copD o x y)) p.1 q).bind fun k =>
      (truW k).bind fun t => if t = true then (evE Γ c ρ k.2).bind fun r => op2 (fun x y => blO (copD o' x y)) q.1 r else .ok k := by rw [evE]
@[simp] theorem evE_call0 (f : Nat) : evE Γ (.call0 f) ρ st = noExc (Γ.call f [] st) := by rw [evE]
@[simp] theorem evE_call (f : Nat) (es : Exs) : evE Γ (.call f es) ρ st = (evEs Γ es ρ st).bind fun p => Γ.call f p.1 p.2 := by rw [evE]
@[simp] theorem evE_p1 (p : P1) (a : Ex) : evE Γ (.p1 p a) ρ st = (evE Γ a ρ st).bind (op1 (p1D p)) := by rw [evE]
@[simp] theorem evE_lens (a : Ex) : evE Γ (.lens a) ρ st = (evE Γ a ρ st).bind (op1 lensD) := by rw [evE]
@[simp] theorem evE_ssort (a : Ex) : evE Γ (.ssort a) ρ st = (evE Γ a ρ st).bind (op1 ssortD) := by rw [evE]
@[simp] theorem evE_find (a : Ex) (c : Nat) (i : Ex) : evE Γ (.find a c i) ρ st = (evE Γ a ρ st).bind fun p => (Rs.ofO ((strW p.1).map fun s => (s, p.2))).bind fun s => (evE Γ i ρ s.2).bind fun q => op1 (findS c s.1) q := by rw [evE]
@[simp] theorem evE_popi (i : Nat) (e : Ex) : evE Γ (.popi i e) ρ st = (Rs.ofO ((obW ρ[i]?).map fun n => (n, st))).bind fun n => (seenW n.1 n.2).bind fun u => (evE Γ e ρ u.2).bind fun p => popiW n.1 p := by rw [evE]
@[simp] theorem evE_lrng (a : Ex) : evE Γ (.lrng a) ρ st = (evE Γ a ρ st).bind lrngW := by rw [evE]
@[simp] theorem evE_isi (a : Ex) (t : Ty) : evE Γ (.isi a t) ρ st = (evE Γ a ρ st).bind (op1 (fun x => some (.bl (isiD t x)))) := by rw [evE]
@[simp] theorem evE_isi2 (a : Ex) (t u : Ty) : evE Γ (.isi2 a t u) ρ st = (evE Γ a ρ st).bind (op1 (fun x => some (.bl (isiD t x || isiD u x)))) := by rw [evE]
@[simp] theorem evE_m1 (m : M1) (a b : Ex) : evE Γ (.m1 m a b) ρ st = (evE Γ a ρ st).bind fun p => (Rs.ofO ((strW p.1).map fun s => (s, p.2))).bind fun s => (evE Γ b ρ s.2).bind (op1 (m1S m s.1)) := by rw [evE]
@[simp] theorem evE_b2 (o : B2) (a b : Ex) : evE Γ (.b2 o a b) ρ st = (evE Γ a ρ st).bind fun p => (evE Γ b ρ p.2).bind fun q => op2 (b2D o) p.1 q := by rw [evE]
@[simp] theorem evE_rev (a : Ex) : evE Γ (.rev a) ρ st = (evE Γ a ρ st).bind (op1 revD) := by rw [evE]
@[simp] theorem evE_ix (a i : Ex) : evE Γ (.ix a i) ρ st = (evE Γ a ρ st).bind fun p => (evE Γ i ρ p.2).bind fun q => op2 ixD p.1 q := by rw [evE]
@[simp] theorem evE_sl (a : Ex) (lo hi : Exo) : evE Γ (.sl a lo hi) ρ st = (evE Γ a ρ st).bind fun p => (evO Γ lo ρ p.2).bind fun l => (evO Γ hi ρ l.2).bind fun h => op1 (fun x => slD x l.1 h.1) (p.1, h.2) := by rw [evE]
@[simp] theorem evE_tup (es : Exs) : evE Γ (.tup es) ρ st = (evEs Γ es ρ st).bind mkTup := by rw [evE]
@[simp] theorem evE_lst (es : Exs) : evE Γ (.lst es) ρ st = (evEs Γ es ρ st).bind mkLst := by rw [evE]
@[simp] theorem evE_lc (elt : Ex) (tg : Tg) (it : Itx) (ifs : Exs) : evE Γ (.lc elt tg it ifs) ρ st = (evI Γ it ρ st).bind fun p => (lcL p.1.2 (lcTurn (evIfs Γ ifs) (evE Γ elt) tg ρ) p.1.1 p.2).bind lcEnd := by rw [evE]
@[simp] theorem evEs_nil : evEs Γ .nil ρ st = .ok ([], st) := by rw [evEs]
@[simp] theorem evEs_cons (e : Ex) (es : Exs) : evEs Γ (.cons e es) ρ st = (evE Γ e ρ st).bind fun p => (evEs Γ es ρ p.2).bind fun q => .ok (p.1 :: q.1, q.2) := by rw [evEs]
@[simp] theorem evIfs_nil : evIfs Γ .nil ρ st = .ok (true, st) := by rw [evIfs]
@[simp] theorem evIfs_one (e : Ex) : evIfs Γ (.cons e .nil) ρ st = (evE Γ e ρ st).bind fun p => (truW p).bind fun t => .ok (t, p.2) := by rw [evIfs]; rfl
@[simp] theorem evO_no : evO Γ .no ρ st = .ok (none, st) := by rw [evO]
@[simp] theorem evO_yes (e : Ex) : evO Γ (.yes e) ρ st = (evE Γ e ρ st).bind fun p => Rs.ofO ((intW p.1).map fun i => (some i, p.2)) := by rw [evO]
@[simp] theorem evI_seq (e : Ex) : evI Γ (.seq e) ρ st = (evE Γ e ρ st).bind fun p => Rs.ofO (itSeq p) := by rw [evI]
@[simp] theorem evI_rng1 (e : Ex) : evI Γ (.rng1 e) ρ st = (evE Γ e ρ st).bind fun p => Rs.ofO ((intW p.1).bind fun i => itRng p.2 0 i) := by rw [evI]
@[simp] theorem evI_rng2 (a b : Ex) : evI Γ (.rng2 a b) ρ st = (evE Γ a ρ st).bind fun p => (evE Γ b ρ p.2).bind fun q => Rs.ofO ((intW p.1).bind fun i => (intW q.1).bind fun j => itRng q.2 i j) := by rw [evI]
@[simp] theorem evI_enm (e : Ex) : evI Γ (.enm e) ρ st = (evE Γ e ρ st).bind fun p => Rs.ofO (itEnm p) := by rw [evI]
@[simp] theorem evI_zip (a b : Ex) : evI Γ (.zip a b) ρ st = (evE Γ a ρ st).bind fun p => (evE Γ b ρ p.2).bind fun q => Rs.ofO (itZip p.1 q) := by rw [evI]
@[simp] theorem evT_eq (e : Ex) : evT Γ e ρ st = (evE Γ e ρ st).bind fun p => (truW p).bind fun t => .ok (t, p.2) := rfl
@[simp] theorem exSs_nil : exSs Γ .nil ρ st = .ok ((.nx, ρ), st) := by rw [exSs]
/-- on behind a statement -/
def thenS (r : Ev → Sr → Rs Sx) (p : Sx) : Rs Sx := match p.1.1 with
    | .nx => r p.1.2 p.2
    | .rt w => .ok ((.rt w, p.1.2), p.2)
    | .bk => .ok ((.bk, p.1.2), p.2)
    | .ct => .ok ((.ct, p.1.2), p.2)
@[simp] theorem thenS_nx {r : Ev → Sr → Rs Sx} : thenS r ((.nx, ρ), st) = r ρ st := rfl
@[simp] theorem thenS_rt {r : Ev → Sr → Rs Sx} (w : Wv) : thenS r ((.rt w, ρ), st) = .ok ((.rt w, ρ), st) := rfl
@[simp] theorem thenS_bk {r : Ev → Sr → Rs Sx} : thenS r ((.bk, ρ), st) = .ok ((.bk, ρ), st) := rfl
@[simp] theorem thenS_ct {r : Ev → Sr → Rs Sx} : thenS r ((.ct, ρ), st) = .ok ((.ct, ρ), st) := rfl
@[simp] theorem exSs_cons (s : Sm) (r : Sms) : exSs Γ (.cons s r) ρ st = (exS Γ s ρ st).bind (thenS (exSs Γ r)) := by
  rw [exSs]; unfold thenS; rfl
@[simp] theorem exS_set (i : Nat) (e : Ex) : exS Γ (.set i e) ρ st = (evE Γ e ρ st).bind fun p => .ok ((.nx, ρ.set i (some p.1)), p.2) := by rw [exS]
@[simp] theorem exS_setL (i : Nat) (e : Ex) : exS Γ (.setL i e) ρ st = (evE Γ e ρ st).bind (layL i ρ) := by rw [exS]
@[simp] theorem exS_unp (is : List Nat) (e : Ex) : exS Γ (.unp is e) ρ st = (evE Γ e ρ st).bind (unpW is ρ) := by rw [exS]
@[simp] theorem exS_ret (e : Ex) : exS Γ (.ret e) ρ st = (evE Γ e ρ st).bind fun p => .ok ((.rt p.1, ρ), p.2) := by rw [exS]
@[simp] theorem exS_ife (c : Ex) (a b : Sms) : exS Γ (.ife c a b) ρ st = (evT Γ c ρ st).bind fun p => if p.1 = true then exSs Γ a ρ p.2 else exSs Γ b ρ p.2 := by rw [exS]
@[simp] theorem exS_for (tg : Tg) (it : Itx) (b : Sms) : exS Γ (.forS tg it b) ρ st = (evI Γ it ρ st).bind fun p => exFor (exSs Γ b) tg p.1.2 p.1.1 ρ p.2 := by rw [exS]
@[simp] theorem exS_whl (c : Ex) (b : Sms) : exS Γ (.whl c b) ρ st = exWhl (evT Γ c) (exSs Γ b) turns ρ st := by rw [exS]
@[simp] theorem exS_app (i : Nat) (e : Ex) : exS Γ (.app i e) ρ st = (Rs.ofO ((obW ρ[i]?).map fun n => (n, st))).bind fun n => (seenW n.1 n.2).bind fun u => (evE Γ e ρ u.2).bind (appW n.1 ρ) := by rw [exS]
@[simp] theorem exS_ext (i : Nat) (e : Ex) : exS Γ (.ext i e) ρ st = (Rs.ofO ((obW ρ[i]?).map fun n => (n, st))).bind fun n => (seenW n.1 n.2).bind fun u => (evE Γ e ρ u.2).bind (extW n.1 ρ) := by rw [exS]
@[simp] theorem exS_expr (e : Ex) : exS Γ (.expr e) ρ st = (evE Γ e ρ st).bind fun p => .ok ((.nx, ρ), p.2) := by rw [exS]
@[simp] theorem exS_tryR (c k : Nat) (b : Sms) : exS Γ (.tryR c k b) ρ st = tryRW c k (exSs Γ b ρ st) := by rw [exS]
@[simp] theorem exS_quo (i : Nat) : exS Γ (.quo i) ρ st = quoW ρ[i]? ρ st := by rw [exS]
@[simp] theorem exS_raiF (c : Nat) (es : Exs) : exS Γ (.raiF c es) ρ st = (evEs Γ es ρ st).bind fun p => raiW c p := by rw [exS]
@[simp] theorem exS_tryV (c : Nat) (b : Sms) (j : Nat) (x : Xv) : exS Γ (.tryV c b j x) ρ st = tryVW c j x ρ (exSs Γ b ρ st) := by rw [exS]
@[simp] theorem exS_par (i j : Nat) (a b : Ex) : exS Γ (.par i j a b) ρ st = (evE Γ a ρ st).bind fun p => (evE Γ b ρ p.2).bind fun q => .ok ((.nx, (ρ.set i (some p.1)).set j (some q.1)), q.2) := by rw [exS]
@[simp] theorem exS_rai (c : Nat) : exS Γ (.rai c) ρ st = .exc c [] st := by rw [exS]
@[simp] theorem exS_tryX (c : Nat) (b : Sms) (i j : Nat) (xs : Xs) : exS Γ (.tryX c b i j xs) ρ st = tryW c i j xs ρ (exSs Γ b ρ st) := by rw [exS]
@[simp] theorem exS_tryN (c : Nat) (b : Sms) : exS Γ (.tryN c b) ρ st = noExc (exSs Γ b ρ st) := by rw [exS]
@[simp] theorem exS_brk : exS Γ .brk ρ st = .ok ((.bk, ρ), st) := by rw [exS]
@[simp] theorem exS_cnt : exS Γ .cnt ρ st = .ok ((.ct, ρ), st) := by rw [exS]
@[simp] theorem exS_pass : exS Γ .pass ρ st = .ok ((.nx, ρ), st) := by rw [exS]
/-! #### pieces -/
@[simp] theorem op1_d (f : Dt → Option Dt) (x : Dt) : op1 f (.d x, st) = Rs.ofO ((f x).map fun z => (.d z, st)) := rfl
@[simp] theorem op2_d (f : Dt → Dt → Option Dt) (x y : Dt) : op2 f (.d x) (.d y, st) = Rs.ofO ((f x y).map fun z => (.d z, st)) := rfl
@[simp] theorem truW_d (x : Dt) : truW (.d x, st) = .ok (truthD x) := rfl
@[simp] theorem intW_i (i : Int) : intW (.d (.int i)) = some i := rfl
@[simp] theorem strW_s (s : List Nat) : strW (.d (.str s)) = some s := rfl
@[simp] theorem dataW_d (x : Dt) : dataW (.d x) = some x := rfl
@[simp] theorem blO_some (b : Bool) : blO (some b) = some (.bl b) := rfl
@[simp] theorem negD_i (i : Int) : negD (.int i) = some (.int (-i)) := rfl
@[simp] theorem notD_x (x : Dt) : notD x = some (.bl (!truthD x)) := rfl
@[simp] theorem truthD_bl (b : Bool) : truthD (.bl b) = b := rfl
@[simp] theorem mapD_nil : mapD [] = some [] := rfl
@[simp] theorem mapD_cons (x : Dt) (r : List Wv) : mapD (.d x :: r) = (mapD r).map (x :: ·) := rfl
theorem mkTup_ok {ws : List Wv} {xs : List Dt} (h : mapD ws = some xs) (hl : ws.length ≤ lim) : mkTup (ws, st) = .ok (.d (.tup xs), st) := by
  unfold mkTup
  simp only [h]
  rw [if_pos hl]
  rfl
theorem mkLst_ok {ws : List Wv} {xs : List Dt} (h : mapD ws = some xs) (hl : ws.length ≤ lim) : mkLst (ws, st) = .ok (.d (.lst xs), st) := by
  unfold mkLst
  simp only [h]
  rw [if_pos hl]
  rfl
theorem lim16 : lim = 16777216 := by unfold lim; exact (Nat.add_zero _).symm.trans (Nat.add_zero _)
@[simp] theorem mkTup0 : mkTup ([], st) = .ok (.d (.tup []), st) := rfl
@[simp] theorem mkTup1 (a : Dt) : mkTup ([.d a], st) = .ok (.d (.tup [a]), st) := mkTup_ok rfl (by simp [lim16])
@[simp] theorem mkTup2 (a b : Dt) : mkTup ([.d a, .d b], st) = .ok (.d (.tup [a, b]), st) := mkTup_ok rfl (by simp [lim16])
@[simp] theorem mkTup3 (a b c : Dt) : mkTup ([.d a, .d b, .d c], st) = .ok (.d (.tup [a, b, c]), st) := mkTup_ok rfl (by simp [lim16])
@[simp] theorem mkTup4 (a b c d : Dt) : mkTup ([.d a, .d b, .d c, .d d], st) = .ok (.d (.tup [a, b, c, d]), st) := mkTup_ok rfl (by simp [lim16])
@[simp] theorem mkLst0 : mkLst ([], st) = .ok (.d (.lst []), st) := rfl
@[simp] theorem mkLst1 (a : Dt) : mkLst ([.d a], st) = .ok (.d (.lst [a]), st) := mkLst_ok rfl (by simp [lim16])
@[simp] theorem mkLst2 (a b : Dt) : mkLst ([.d a, .d b], st) = .ok (.d (.lst [a, b]), st) := mkLst_ok rfl (by simp [lim16])
@[simp] theorem mkLst3 (a b c : Dt) : mkLst ([.d a, .d b, .d c], st) = .ok (.d (.lst [a, b, c]), st) := mkLst_ok rfl (by simp [lim16])
/-- a call's value -/
def valD (st : Sr) : Rs Dt → Rs (Wv × Sr)
  | .ok d => .ok (.d d, st)
  | .exc c fs _ => .exc c fs st
  | .bad => .bad
@[simp] theorem valD_ok (d : Dt) : valD st (.ok d) = .ok (.d d, st) := rfl
@[simp] theorem valD_exc (c : Nat) (fs : List Dt) (s : Sr) : valD st (.exc c fs s) = .exc c fs st := rfl
theorem frz_ds : ∀ ds : List Dt, (ds.map Wv.d).map (frzW st) = ds.map Wv.d
  | [] => rfl
  | d :: ds => by rw [List.map_cons, List.map_cons, frz_ds ds]; rfl
theorem any_ds : ∀ ds : List Dt, (ds.map Wv.d).any isOb = false
  | [] => rfl
  | d :: ds => by rw [List.map_cons, List.any_cons, any_ds ds]; rfl
theorem callW_ds {tab : List Fn} {gl : List Dt} {n f : Nat} (ds : List Dt) : callW (runV tab gl n) f (ds.map Wv.d) st = valD st (runP tab gl n f ds) := by
  unfold callW valD runP
  rw [frz_ds, any_ds]
  cases runV tab gl n f (ds.map Wv.d) <;> rfl
@[simp] theorem callW_0 {tab : List Fn} {gl : List Dt} {n f : Nat} : callW (runV tab gl n) f [] st = valD st (runP tab gl n f []) := callW_ds []
@[simp] theorem callW_1 {tab : List Fn} {gl : List Dt} {n f : Nat} (a : Dt) : callW (runV tab gl n) f [.d a] st = valD st (runP tab gl n f [a]) := callW_ds [a]
@[simp] theorem callW_2 {tab : List Fn} {gl : List Dt} {n f : Nat} (a b : Dt) : callW (runV tab gl n) f [.d a, .d b] st = valD st (runP tab gl n f [a, b]) := callW_ds [a, b]
@[simp] theorem callW_3 {tab : List Fn} {gl : List Dt} {n f : Nat} (a b c : Dt) : callW (runV tab gl n) f [.d a, .d b, .d c] st = valD st (runP tab gl n f [a, b, c]) := callW_ds [a, b, c]
@[simp] theorem callW_4 {tab : List Fn} {gl : List Dt} {n f : Nat} (a b c d : Dt) : callW (runV tab gl n) f [.d a, .d b, .d c, .d d] st = valD st (runP tab gl n f [a, b, c, d]) := callW_ds [a, b, c, d]
@[simp] theorem endD_nx : endD ((.nx, ρ), st) = .ok .non := rfl
@[simp] theorem endD_rt (x : Dt) : endD ((.rt (.d x), ρ), st) = .ok x := rfl
/-! #### operators -/
@[simp] theorem add_ii (i j : Int) : bopD .add (.int i) (.int j) = some (.int (i + j)) := rfl
@[simp] theorem sub_ii (i j : Int) : bopD .sub (.int i) (.int j) = some (.int (i - j)) := rfl
theorem mul_ii {i j : Int} (h : smallI i ∨ smallI j) : bopD .mul (.int i) (.int j) = some (.int (i * j)) := if_pos h
theorem mod_ii {i j : Int} (h : 0 < j) : bopD .mod (.int i) (.int j) = some (.int (i % j)) := if_pos h
theorem fdiv_ii {i j : Int} (h : 0 < j ∧ j < 1073741824) : bopD .fdiv (.int i) (.int j) = some (.int (i / j)) := if_pos h
theorem add_ss {a b : List Nat} (h : a.length + b.length ≤ lim) : bopD .add (.str a) (.str b) = some (.str (a ++ b)) := if_pos h
theorem add_tt {a b : List Dt} (h : a.length + b.length ≤ lim) : bopD .add (.tup a) (.tup b) = some (.tup (a ++ b)) := if_pos h
theorem add_ll {a b : List Dt} (h : a.length + b.length ≤ lim) : bopD .add (.lst a) (.lst b) = some (.lst (a ++ b)) := if_pos h
theorem mul_si {a : List Nat} {j : Int} (h : a.length * j.toNat ≤ lim ∧ -(2 ^ 62) < j ∧ j < 2 ^ 62) : bopD .mul (.str a) (.int j) = some (.str (List.replicate j.toNat a).flatten) := if_pos h
@[simp] theorem lt_ii (i j : Int) : copD .lt (.int i) (.int j) = some (decide (i < j)) := rfl
@[simp] theorem le_ii (i j : Int) : copD .le (.int i) (.int j) = some (decide (i ≤ j)) := rfl
@[simp] theorem gt_ii (i j : Int) : copD .gt (.int i) (.int j) = some (decide (j < i)) := rfl
@[simp] theorem ge_ii (i j : Int) : copD .ge (.int i) (.int j) = some (decide (j ≤ i)) := rfl
@[simp] theorem is_bb (a b : Bool) : copD .is (.bl a) (.bl b) = some (a == b) := rfl
@[simp] theorem isnot_bb (a b : Bool) : copD .isnot (.bl a) (.bl b) = some (!(a == b)) := rfl
@[simp] theorem min_ii (i j : Int) : b2D .min (.int i) (.int j) = some (.int (if j < i then j else i)) := rfl
@[simp] theorem max_ii (i j : Int) : b2D .max (.int i) (.int j) = some (.int (if j > i then j else i)) := rfl
theorem eq_dd {a b : Dt} (h : depD a ≤ 64 ∨ depD b ≤ 64) : copD .eq a b = some (eqD a b) := if_pos h
theorem ne_dd {a b : Dt} (h : depD a ≤ 64 ∨ depD b ≤ 64) : copD .ne a b = some (!eqD a b) := if_pos h
@[simp] theorem eq_ii (i j : Int) : copD .eq (.int i) (.int j) = some (decide (i = j)) := by
  rw [eq_dd (.inl (by simp [depD]))]; simp [eqD, Bool.beq_eq_decide_eq]
@[simp] theorem ne_ii (i j : Int) : copD .ne (.int i) (.int j) = some (!decide (i = j)) := by
  rw [ne_dd (.inl (by simp [depD]))]; simp [eqD, Bool.beq_eq_decide_eq]
@[simp] theorem eq_ss (i j : List Nat) : copD .eq (.str i) (.str j) = some (decide (i = j)) := by
  rw [eq_dd (.inl (by simp [depD]))]; simp [eqD, Bool.beq_eq_decide_eq]
@[simp] theorem ne_ss (i j : List Nat) : copD .ne (.str i) (.str j) = some (!decide (i = j)) := by
  rw [ne_dd (.inl (by simp [depD]))]; simp [eqD, Bool.beq_eq_decide_eq]
@[simp] theorem in_cs (c : Nat) (s : List Nat) : copD .inn (.str [c]) (.str s) = some (decide (c ∈ s)) := rfl
@[simp] theorem notin_cs (c : Nat) (s : List Nat) : copD .notin (.str [c]) (.str s) = some (!decide (c ∈ s)) := rfl
@[simp] theorem len_s (s : List Nat) : p1D .len (.str s) = some (.int s.length) := rfl
@[simp] theorem len_t (s : List Dt) : p1D .len (.tup s) = some (.int s.length) := rfl
@[simp] theorem len_l (s : List Dt) : p1D .len (.lst s) = some (.int s.length) := rfl
@[simp] theorem len_c (s : List Int) : p1D .len (.scr s) = some (.int s.length) := rfl
@[simp] theorem tuple_l (s : List Dt) : p1D .tuple (.lst s) = some (.tup s) := rfl
@[simp] theorem tuple_t (s : List Dt) : p1D .tuple (.tup s) = some (.tup s) := rfl
@[simp] theorem list_l (s : List Dt) : p1D .list (.lst s) = some (.lst s) := rfl
@[simp] theorem list_t (s : List Dt) : p1D .list (.tup s) = some (.lst s) := rfl
@[simp] theorem int_b (b : Bool) : p1D .int (.bl b) = some (.int (if b then 1 else 0)) := rfl
@[simp] theorem int_i (i : Int) : p1D .int (.int i) = some (.int i) := rfl
theorem allBl_map {α : Type} (f : α → Bool) : ∀ xs : List α, allBl (xs.map fun x => Dt.bl (f x)) = some (xs.map f)
  | [] => rfl
  | x :: xs => by
    show (allBl (xs.map fun x => Dt.bl (f x))).map (f x :: ·) = _
    rw [allBl_map f xs]; rfl
theorem all_map {α : Type} (f : α → Bool) (xs : List α) : p1D .all (.lst (xs.map fun x => Dt.bl (f x))) = some (.bl (xs.all f)) := by
  show (allBl _).map _ = _
  rw [allBl_map]
  simp [List.all_map]
theorem any_map {α : Type} (f : α → Bool) (xs : List α) : p1D .any (.lst (xs.map fun x => Dt.bl (f x))) = some (.bl (xs.any f)) := by
  show (allBl _).map _ = _
  rw [allBl_map]
  simp [List.any_map]
/-! #### walks -/
@[simp] theorem itSeq_t (xs : List Dt) : itSeq (.d (.tup xs), st) = some ((xs, []), st) := rfl
@[simp] theorem itSeq_l (xs : List Dt) : itSeq (.d (.lst xs), st) = some ((xs, []), st) := rfl
@[simp] theorem itSeq_s (s : List Nat) : itSeq (.d (.str s), st) = some ((s.map fun c => .str [c], []), st) := rfl
@[simp] theorem itEnm_l (xs : List Dt) : itEnm (.d (.lst xs), st) = some ((enumL 0 xs, []), st) := rfl
@[simp] theorem watch_nil : watchOk [] st = true := rfl
@[simp] theorem wipe_one (i : Nat) : wipeE ρ [i] = ρ.set i none := rfl
@[simp] theorem slots_one (i : Nat) : (Tg.one i).slots = [i] := rfl
@[simp] theorem slots_many (is : List Nat) : (Tg.many is).slots = is := rfl
@[simp] theorem setTg_one (i : Nat) (x : Dt) : setTg (.one i) x ρ = some (ρ.set i (some (.d x))) := rfl
/-- a comprehension whose turns give f, without tests -/
theorem lcL_map (f : Dt → Sr → Rs (Option Dt × Sr)) (g : Dt → Dt) (h : ∀ x, f x st = .ok (some (g x), st)) : ∀ xs : List Dt, lcL [] f xs st = .ok (xs.map g, st)
  | [] => rfl
  | x :: xs => by
    rw [lcL, h x]
    simp only [Rs.bind_ok, watch_nil, if_true, lcL_map f g h xs, consO, List.map_cons]
theorem lcL_map' {α : Type} (f : Dt → Sr → Rs (Option Dt × Sr)) (e : α → Dt) (g : α → Dt) : ∀ (xs : List α), (∀ x ∈ xs, f (e x) st = .ok (some (g x), st)) → lcL [] f (xs.map e) st = .ok (xs.map g, st)
  | [], _ => rfl
  | x :: xs, h => by
    rw [List.map_cons, lcL, h x List.mem_cons_self]
    simp only [Rs.bind_ok, watch_nil, if_true, lcL_map' f e g xs fun y hy => h y (List.mem_cons_of_mem _ hy), consO, List.map_cons]
/-- .. with a test -/
theorem lcL_filter' {α : Type} (f : Dt → Sr → Rs (Option Dt × Sr)) (e : α → Dt) (t : α → Bool) (g : α → Dt) : ∀ (xs : List α), (∀ x ∈ xs, f (e x) st = .ok (if t x then some (g x) else none, st)) → lcL [] f (xs.map e) st = .ok ((xs.filter t).map g, st)
  | [], _ => rfl
  | x :: xs, h => by
    rw [List.map_cons, lcL, h x List.mem_cons_self]
    simp only [Rs.bind_ok, watch_nil, if_true, lcL_filter' f e t g xs fun y hy => h y (List.mem_cons_of_mem _ hy), List.filter_cons]
    cases t x <;> rfl
@[simp] theorem lcEnd_ok {xs : List Dt} (h : xs.length ≤ lim) : lcEnd (xs, st) = .ok (.d (.lst xs), st) := if_pos h
theorem noExc_ok {α : Type} (a : α) : noExc (.ok a : Rs α) = .ok a := rfl
theorem lcTurn_one {ifs : Ev → Sr → Rs (Bool × Sr)} {elt : Ev → Sr → Rs (Wv × Sr)} {i : Nat} {x y : Dt} (h1 : ifs (ρ.set i (some (.d x))) st = .ok (true, st)) (h2 : elt (ρ.set i (some (.d x))) st = .ok (.d y, st)) :
    lcTurn ifs elt (.one i) ρ x st = .ok (some y, st) := by
  simp [lcTurn, h1, h2, noExc]
/-- with a test whose answer is t -/
theorem lcTurn_if {ifs : Ev → Sr → Rs (Bool × Sr)} {elt : Ev → Sr → Rs (Wv × Sr)} {i : Nat} {x y : Dt} {t : Bool} (h1 : ifs (ρ.set i (some (.d x))) st = .ok (t, st)) (h2 : t = true → elt (ρ.set i (some (.d x))) st = .ok (.d y, st)) :
    lcTurn ifs elt (.one i) ρ x st = .ok (if t then some y else none, st) := by
  cases t with
  | true => simp [lcTurn, h1, h2 rfl, noExc]
  | false => simp [lcTurn, h1, noExc]
/-- a for's turns keep what they have, and go on -/
theorem exFor_nil {body : Ev → Sr → Rs Sx} {tg : Tg} {ws : List (Nat × List Dt)} : exFor body tg ws [] ρ st = .ok ((.nx, ρ), st) := rfl
theorem exFor_cons {body : Ev → Sr → Rs Sx} {tg : Tg} {ws : List (Nat × List Dt)} {x : Dt} {xs : List Dt} {ρ1 ρ2 : Ev} {st2 : Sr} (h1 : setTg tg x ρ = some ρ1) (h2 : body ρ1 st = .ok ((.nx, ρ2), st2)) (h3 : watchOk ws st2 = true) :
    exFor body tg ws (x :: xs) ρ st = exFor body tg ws xs ρ2 st2 := by
  rw [exFor, h1]
  simp [h2, h3]
/-- an invariant of a for whose turns all go on -/
theorem exFor_inv {body : Ev → Sr → Rs Sx} {tg : Tg} (I : Nat → Ev → Prop) : ∀ (xs : List Dt) (k : Nat) (ρ : Ev), I k ρ → (∀ j x ρ, xs[j]? = some x → I (k + j) ρ → ∃ ρ1 ρ2, setTg tg x ρ = some ρ1 ∧ body ρ1 st = .ok ((.nx, ρ2), st) ∧ I (k + j + 1) ρ2) →
    ∃ ρ', exFor body tg [] xs ρ st = .ok ((.nx, ρ'), st) ∧ I (k + xs.length) ρ'
  | [], k, ρ, h, _ => ⟨ρ, rfl, h⟩
  | x :: xs, k, ρ, h, hs => by
    obtain ⟨ρ1, ρ2, h1, h2, h3⟩ := hs 0 x ρ rfl h
    obtain ⟨ρ', h4, h5⟩ := exFor_inv I xs (k + 1) ρ2 h3 fun j y ρ hj hI => by
      have := hs (j + 1) y ρ hj (by rwa [show k + (j + 1) = k + 1 + j by omega])
      rwa [show k + (j + 1) + 1 = k + 1 + j + 1 by omega] at this
    refine ⟨ρ', ?_, ?_⟩
    · rw [exFor_cons h1 h2 rfl]; exact h4
    · rw [List.length_cons, show k + (xs.length + 1) = k + 1 + xs.length by omega]; exact h5
end
theorem exFor_mem {body : Ev → Sr → Rs Sx} {tg : Tg} {st : Sr} (I : Ev → Prop) : ∀ (xs : List Dt) (ρ : Ev), I ρ → (∀ x ∈ xs, ∀ ρ, I ρ → ∃ ρ1 ρ2, setTg tg x ρ = some ρ1 ∧ body ρ1 st = .ok ((.nx, ρ2), st) ∧ I ρ2) →
    ∃ ρ', exFor body tg [] xs ρ st = .ok ((.nx, ρ'), st) ∧ I ρ'
  | [], ρ, h, _ => ⟨ρ, rfl, h⟩
  | x :: xs, ρ, h, hs => by
    obtain ⟨ρ1, ρ2, h1, h2, h3⟩ := hs x List.mem_cons_self ρ h
    obtain ⟨ρ', h4, h5⟩ := exFor_mem I xs ρ2 h3 fun y hy => hs y (List.mem_cons_of_mem _ hy)
    exact ⟨ρ', by rw [exFor_cons h1 h2 rfl]; exact h4, h5⟩
theorem ixP_in {n : Nat} {i : Int} (h0 : 0 ≤ i) (h1 : i < n) : ixP n i = some i.toNat := by simp [ixP, h0, h1]
theorem ixL_in {α : Type} {xs : List α} {i : Int} (h0 : 0 ≤ i) (h1 : i < xs.length) : ∃ x ∈ xs, ixL xs i = some x := by
  have h2 : i.toNat < xs.length := by omega
  refine ⟨xs[i.toNat], List.getElem_mem h2, ?_⟩
  simp [ixL, ixP_in h0 h1, h2]
theorem ix_s {s : List Nat} {i : Int} (h0 : 0 ≤ i) (h1 : i < s.length) : ∃ c ∈ s, ixD (.str s) (.int i) = some (.str [c]) := by
  obtain ⟨c, h, e⟩ := ixL_in h0 h1
  exact ⟨c, h, by simp [ixD, e]⟩
theorem ix_t {s : List Dt} {i : Int} (h0 : 0 ≤ i) (h1 : i < s.length) : ∃ c ∈ s, ixD (.tup s) (.int i) = some c := ixL_in h0 h1
theorem rangeL_at (lo : Int) : ∀ (n j : Nat) (x : Dt), (rangeL lo n)[j]? = some x → x = .int (lo + j) ∧ j < n
  | 0, j, x, h => by simp [rangeL] at h
  | n + 1, 0, x, h => by simp [rangeL] at h; simp [h]
  | n + 1, j + 1, x, h => by
    have := rangeL_at (lo + 1) n j x (by simpa [rangeL] using h)
    refine ⟨by rw [this.1]; congr 1; omega, by omega⟩
theorem itRng_ok {st : Sr} {i j : Int} (h : i < 1073741824 ∧ -1073741824 < i ∧ j < 1073741824 ∧ -1073741824 < j) : itRng st i j = some ((rangeL i (j - i).toNat, []), st) := if_pos h
theorem cutL_len {α : Type} (xs : List α) (lo hi : Option Int) : (cutL xs lo hi).length ≤ xs.length := by
  unfold cutL
  simp only [List.length_take, List.length_drop]
  omega
@[simp] theorem sl_s (s : List Nat) (lo hi : Option Int) : slD (.str s) lo hi = some (.str (cutL s lo hi)) := rfl
@[simp] theorem sl_t (s : List Dt) (lo hi : Option Int) : slD (.tup s) lo hi = some (.tup (cutL s lo hi)) := rfl
@[simp] theorem sl_l (s : List Dt) (lo hi : Option Int) : slD (.lst s) lo hi = some (.lst (cutL s lo hi)) := rfl
theorem cut_hi {α : Type} (xs : List α) (k : Nat) : cutL xs none (some (k : Int)) = xs.take k := by
  unfold cutL slP
  have h : ¬ (k : Int) < 0 := by omega
  simp [h]
theorem mkTup6 {st : Sr} (a b c d e f : Dt) : mkTup ([.d a, .d b, .d c, .d d, .d e, .d f], st) = .ok (.d (.tup [a, b, c, d, e, f]), st) := mkTup_ok rfl (by simp [lim16])
theorem mkLst5 {st : Sr} (a b c d e : Dt) : mkLst ([.d a, .d b, .d c, .d d, .d e], st) = .ok (.d (.lst [a, b, c, d, e]), st) := mkLst_ok rfl (by simp [lim16])
theorem lcL_cons {f : Dt → Sr → Rs (Option Dt × Sr)} {x y : Dt} {xs ys : List Dt} {st : Sr} (h : f x st = .ok (some y, st)) (h2 : lcL [] f xs st = .ok (ys, st)) : lcL [] f (x :: xs) st = .ok (y :: ys, st) := by
  rw [lcL, h]
  simp [h2, consO]
theorem beq_nil (xs : List Dt) : eqD (.lst xs) (.lst []) = xs.isEmpty := by cases xs <;> simp [eqD, eqDs]
end PB
namespace PB
open PySem
theorem in_it (i : Int) (xs : List Dt) : copD .inn (.int i) (.tup xs) = some (xs.any fun z => eqD z (.int i)) := by simp [copD, depD]
theorem in_st (a : List Nat) (xs : List Dt) : copD .inn (.str a) (.tup xs) = some (xs.any fun z => eqD z (.str a)) := by cases a <;> simp [copD, depD]
@[simp] theorem eqD_ii (i j : Int) : eqD (.int i) (.int j) = decide (i = j) := by simp [eqD, Bool.beq_eq_decide_eq]
@[simp] theorem eqD_ss (i j : List Nat) : eqD (.str i) (.str j) = decide (i = j) := by simp [eqD, Bool.beq_eq_decide_eq]
@[simp] theorem unp3 {ρ : Ev} {st : Sr} (i j k : Nat) (a b c : Dt) : unpW [i, j, k] ρ (.d (.tup [a, b, c]), st) = .ok ((.nx, ((ρ.set i (some (.d a))).set j (some (.d b))).set k (some (.d c))), st) := rfl
@[simp] theorem unp2 {ρ : Ev} {st : Sr} (i j : Nat) (a b : Dt) : unpW [i, j] ρ (.d (.tup [a, b]), st) = .ok ((.nx, ((ρ.set i (some (.d a))).set j (some (.d b)))), st) := rfl
theorem str_i {i : Int} (h : i.natAbs < 18446744073709551616) : ∃ s, p1D .str (.int i) = some (.str s) := ⟨_, if_pos h⟩
end PB
namespace PB
open PySem
theorem range0_at {n j : Nat} {x : Dt} (h : (rangeL 0 n)[j]? = some x) : x = .int j ∧ j < n := by
  have := rangeL_at 0 n j x h
  rwa [Int.zero_add] at this
end PB
namespace PB
open PySem
theorem lcL_ex {st : Sr} {f : Dt → Sr → Rs (Option Dt × Sr)} (P : Dt → Prop) : ∀ xs : List Dt, (∀ x ∈ xs, ∃ y, f x st = .ok (some y, st) ∧ P y) → ∃ ys, lcL [] f xs st = .ok (ys, st) ∧ ys.length = xs.length ∧ ∀ y ∈ ys, P y
  | [], _ => ⟨[], rfl, rfl, by simp⟩
  | x :: xs, h => by
    obtain ⟨y, h1, h2⟩ := h x List.mem_cons_self
    obtain ⟨ys, h3, h4, h5⟩ := lcL_ex P xs fun z hz => h z (List.mem_cons_of_mem _ hz)
    refine ⟨y :: ys, lcL_cons h1 h3, by simp [h4], ?_⟩
    intro z hz
    rcases List.mem_cons.mp hz with rfl | hz
    · exact h2
    · exact h5 z hz
theorem range0_mem {n : Nat} {x : Dt} (h : x ∈ rangeL 0 n) : ∃ j : Nat, x = .int j ∧ j < n := by
  obtain ⟨j, hj, e⟩ := List.getElem_of_mem h
  exact ⟨j, range0_at (by rw [List.getElem?_eq_getElem hj, e])⟩
theorem map_of_ex {α β : Type} {e : α → β} {P : α → Prop} : ∀ ys : List β, (∀ y ∈ ys, ∃ a, y = e a ∧ P a) → ∃ as : List α, ys = as.map e ∧ ∀ a ∈ as, P a
  | [], _ => ⟨[], rfl, by simp⟩
  | y :: ys, h => by
    obtain ⟨a, h1, h2⟩ := h y List.mem_cons_self
    obtain ⟨as, h3, h4⟩ := map_of_ex ys fun z hz => h z (List.mem_cons_of_mem _ hz)
    refine ⟨a :: as, by rw [h1, h3]; rfl, ?_⟩
    intro z hz
    rcases List.mem_cons.mp hz with rfl | hz
    · exact h2
    · exact h4 z hz
theorem allStr_map {α : Type} (f : α → List Nat) : ∀ xs : List α, allStr (xs.map fun x => .str (f x)) = some (xs.map f)
  | [] => rfl
  | x :: xs => by
    show (allStr (xs.map fun x => .str (f x))).map (f x :: ·) = _
    rw [allStr_map f xs]; rfl
theorem joinL_one : ∀ cs : List Nat, joinL [] (cs.map fun c => [c]) = cs
  | [] => rfl
  | [c] => rfl
  | c :: d :: r => by
    have := joinL_one (d :: r)
    simp only [List.map_cons] at this ⊢
    rw [joinL, this]
    rfl
theorem sumLen_one : ∀ cs : List Nat, sumLen (cs.map fun c => [c]) = cs.length
  | [] => rfl
  | c :: r => by
    simp only [List.map_cons, sumLen, List.length_cons, List.length_nil, sumLen_one r]
    omega
theorem join_one {cs : List Nat} (h : cs.length ≤ 16777216) : m1S .join [] (.lst (cs.map fun c => .str [c])) = some (.str cs) := by
  have e : allStr (cs.map fun c => .str [c]) = some (cs.map fun c => [c]) := allStr_map (fun c => [c]) cs
  simp only [m1S, e, Option.bind_some, sumLen_one, joinL_one, List.length_nil, Nat.mul_zero, Nat.add_zero]
  exact if_pos (by rw [lim16]; exact h)
end PB
namespace PB
open PySem
theorem bind_strW {β : Type} (s : List Nat) (st : Sr) (f : List Nat × Sr → Rs β) : (Rs.ofO ((strW (.d (.str s))).map fun s => (s, st))).bind f = f (s, st) := rfl
theorem op1_ok {f : Dt → Option Dt} {x z : Dt} {st : Sr} (h : f x = some z) : op1 f (.d x, st) = .ok (.d z, st) := by rw [op1_d, h]; rfl
theorem evE_m1_ok {Γ : Gam} {ρ : Ev} {st st1 st2 : Sr} {m : M1} {a b : Ex} {s : List Nat} {x z : Dt} (h1 : evE Γ a ρ st = .ok (.d (.str s), st1)) (h2 : evE Γ b ρ st1 = .ok (.d x, st2)) (h3 : m1S m s x = some z) : evE Γ (.m1 m a b) ρ st = .ok (.d z, st2) := by
  rw [evE_m1, h1, Rs.bind_ok]
  generalize m1S m = f at h3 ⊢
  rw [bind_strW]
  dsimp only
  rw [h2, Rs.bind_ok, op1_ok h3]
theorem evE_lc_ok {Γ : Gam} {ρ : Ev} {st st1 : Sr} {elt : Ex} {tg : Tg} {it : Itx} {ifs : Exs} {xs ys : List Dt} (h1 : evI Γ it ρ st = .ok ((xs, []), st1)) (h2 : lcL [] (lcTurn (evIfs Γ ifs) (evE Γ elt) tg ρ) xs st1 = .ok (ys, st1)) (h3 : ys.length ≤ 16777216) :
    evE Γ (.lc elt tg it ifs) ρ st = .ok (.d (.lst ys), st1) := by
  rw [evE_lc, h1, Rs.bind_ok]
  show (lcL [] (lcTurn (evIfs Γ ifs) (evE Γ elt) tg ρ) xs st1).bind lcEnd = _
  rw [h2, Rs.bind_ok, lcEnd_ok (by rw [lim16]; exact h3)]
theorem bind_intW {β : Type} (i : Int) (f : Int → Option β) : (intW (.d (.int i))).bind f = f i := rfl
theorem evI_rng_ok {Γ : Gam} {ρ : Ev} {st st1 : Sr} {e : Ex} {m : Nat} (h1 : evE Γ e ρ st = .ok (.d (.int m), st1)) (h2 : m < 1073741824) : evI Γ (.rng1 e) ρ st = .ok ((rangeL 0 m, []), st1) := by
  have hr : itRng st1 0 (m : Int) = some ((rangeL 0 m, []), st1) := by
    rw [itRng_ok ⟨by decide, by decide, by omega, by omega⟩, Int.sub_zero, Int.toNat_natCast]
  rw [evI_rng1, h1, Rs.bind_ok]
  revert hr
  generalize itRng = f
  intro hr
  dsimp only
  rw [bind_intW, hr, Rs.ofO_some]
end PB
namespace PB
open PySem
/-- an invariant of a for whose turns change objects too -/
theorem exFor_invS {body : Ev → Sr → Rs Sx} {tg : Tg} (I : Nat → Ev → Sr → Prop) : ∀ (xs : List Dt) (k : Nat) (ρ : Ev) (st : Sr), I k ρ st → (∀ j x ρ st, xs[j]? = some x → I (k + j) ρ st → ∃ ρ1 ρ2 st2, setTg tg x ρ = some ρ1 ∧ body ρ1 st = .ok ((.nx, ρ2), st2) ∧ I (k + j + 1) ρ2 st2) →
    ∃ ρ' st', exFor body tg [] xs ρ st = .ok ((.nx, ρ'), st') ∧ I (k + xs.length) ρ' st'
  | [], k, ρ, st, h, _ => ⟨ρ, st, rfl, h⟩
  | x :: xs, k, ρ, st, h, hs => by
    obtain ⟨ρ1, ρ2, st2, h1, h2, h3⟩ := hs 0 x ρ st rfl h
    obtain ⟨ρ', st', h4, h5⟩ := exFor_invS I xs (k + 1) ρ2 st2 h3 fun j y ρ st hj hI => by
      have := hs (j + 1) y ρ st hj (by rwa [show k + (j + 1) = k + 1 + j by omega])
      rwa [show k + (j + 1) + 1 = k + 1 + j + 1 by omega] at this
    refine ⟨ρ', st', ?_, ?_⟩
    · rw [exFor_cons h1 h2 rfl]; exact h4
    · rw [List.length_cons, show k + (xs.length + 1) = k + 1 + xs.length by omega]; exact h5
theorem exS_for_ok {Γ : Gam} {ρ ρ' : Ev} {st st1 st' : Sr} {tg : Tg} {it : Itx} {b : Sms} {xs : List Dt} (h1 : evI Γ it ρ st = .ok ((xs, []), st1)) (h2 : exFor (exSs Γ b) tg [] xs ρ st1 = .ok ((.nx, ρ'), st')) : exS Γ (.forS tg it b) ρ st = .ok ((.nx, ρ'), st') := by
  rw [exS_for, h1, Rs.bind_ok, h2]
@[simp] theorem view0 (vs : List Dt) : viewW [.lst vs] (.ob 0) = some (.lst vs) := rfl
theorem op1_v {f : Dt → Option Dt} {w : Wv} {st : Sr} {x : Dt} (h : viewW st w = some x) : op1 f (w, st) = Rs.ofO ((f x).map fun z => (.d z, st)) := by
  unfold op1; rw [h]; rfl
theorem op2_v {f : Dt → Dt → Option Dt} {w u : Wv} {st : Sr} {x y : Dt} (h : viewW st w = some x) (h2 : viewW st u = some y) : op2 f w (u, st) = Rs.ofO ((f x y).map fun z => (.d z, st)) := by
  unfold op2; rw [h, h2]; rfl
theorem notin_lst {a : Dt} {xs : List Dt} (h : depD a ≤ 64 ∨ depDs xs ≤ 64) : copD .notin a (.lst xs) = some (!xs.any fun z => eqD z a) := by
  cases a with
  | str s => cases s <;> simp [copD, h]
  | _ => simp [copD, h]
theorem app0 {Γ : Gam} {ρ : Ev} {vs : List Dt} {i : Nat} {e : Ex} {y : Dt} (h1 : ρ[i]? = some (some (.ob 0))) (h2 : evE Γ e ρ [.lst vs] = .ok (.d y, [.lst vs])) (h3 : vs.length < 16777216) : exS Γ (.app i e) ρ [.lst vs] = .ok ((.nx, ρ), [.lst (vs ++ [y])]) := by
  rw [exS_app, h1]
  show (evE Γ e ρ [.lst vs]).bind (appW 0 ρ) = _
  rw [h2, Rs.bind_ok]
  unfold appW
  exact if_pos (by rw [lim16]; exact h3)
end PB
namespace PB
open PySem
theorem exWhl_stop {c : Ev → Sr → Rs (Bool × Sr)} {body : Ev → Sr → Rs Sx} {N : Nat} {ρ : Ev} {st st' : Sr} (h : c ρ st = .ok (false, st')) : exWhl c body (N + 1) ρ st = .ok ((.nx, ρ), st') := by
  rw [exWhl, h]; rfl
theorem exWhl_go {c : Ev → Sr → Rs (Bool × Sr)} {body : Ev → Sr → Rs Sx} {N : Nat} {ρ ρ2 : Ev} {st st' st2 : Sr} (h : c ρ st = .ok (true, st')) (hb : body ρ st' = .ok ((.nx, ρ2), st2)) : exWhl c body (N + 1) ρ st = exWhl c body N ρ2 st2 := by
  rw [exWhl, h]
  show (body ρ st').bind _ = _
  rw [hb]; rfl
theorem turns_3 : turns = 999997 + 1 + 1 + 1 := by unfold turns; omega
/-- a for that may break: I ahead of each turn, J at the end -/
theorem exFor_invB {body : Ev → Sr → Rs Sx} {tg : Tg} {st : Sr} (I : Ev → Prop) (J : Ev → Prop) (hIJ : ∀ ρ, I ρ → J ρ) : ∀ (xs : List Dt) (ρ : Ev), I ρ → (∀ x ∈ xs, ∀ ρ, I ρ → ∃ ρ1 ρ2, setTg tg x ρ = some ρ1 ∧ ((body ρ1 st = .ok ((.nx, ρ2), st) ∧ I ρ2) ∨ (body ρ1 st = .ok ((.bk, ρ2), st) ∧ J ρ2))) →
    ∃ ρ', exFor body tg [] xs ρ st = .ok ((.nx, ρ'), st) ∧ J ρ'
  | [], ρ, h, _ => ⟨ρ, rfl, hIJ ρ h⟩
  | x :: xs, ρ, h, hs => by
    obtain ⟨ρ1, ρ2, h1, ⟨h2, h3⟩ | ⟨h2, h3⟩⟩ := hs x List.mem_cons_self ρ h
    · obtain ⟨ρ', h4, h5⟩ := exFor_invB I J hIJ xs ρ2 h3 fun y hy => hs y (List.mem_cons_of_mem _ hy)
      exact ⟨ρ', by rw [exFor_cons h1 h2 rfl]; exact h4, h5⟩
    · exact ⟨ρ2, by rw [exFor, h1]; simp [h2], h3⟩
/-- a for that tells the first item that a test finds, or goes through -/
theorem exFor_find {body : Ev → Sr → Rs Sx} {tg : Tg} {st : Sr} {ws : List (Nat × List Dt)} (hw : watchOk ws st = true) (I : Ev → Prop) (t : Dt → Bool) : ∀ (xs : List Dt) (ρ : Ev), I ρ → (∀ x ∈ xs, ∀ ρ, I ρ → ∃ ρ1 ρ2, setTg tg x ρ = some ρ1 ∧ body ρ1 st = .ok ((if t x then .rt (.d x) else .nx, ρ2), st) ∧ I ρ2) →
    ∃ ρ', I ρ' ∧ ((exFor body tg ws xs ρ st = .ok ((.nx, ρ'), st) ∧ ∀ x ∈ xs, t x = false) ∨ ∃ x ∈ xs, t x = true ∧ exFor body tg ws xs ρ st = .ok ((.rt (.d x), ρ'), st))
  | [], ρ, h, _ => ⟨ρ, h, .inl ⟨rfl, by simp⟩⟩
  | x :: xs, ρ, h, hs => by
    obtain ⟨ρ1, ρ2, h1, h2, h3⟩ := hs x List.mem_cons_self ρ h
    cases ht : t x with
    | true =>
      refine ⟨ρ2, h3, .inr ⟨x, List.mem_cons_self, ht, ?_⟩⟩
      rw [ht] at h2
      rw [exFor, h1]; simp [h2]
    | false =>
      rw [ht] at h2
      obtain ⟨ρ', h4, h5⟩ := exFor_find hw I t xs ρ2 h3 fun y hy => hs y (List.mem_cons_of_mem _ hy)
      refine ⟨ρ', h4, ?_⟩
      have e : exFor body tg ws (x :: xs) ρ st = exFor body tg ws xs ρ2 st := exFor_cons h1 h2 hw
      rcases h5 with ⟨h5, h6⟩ | ⟨y, hy, h6, h7⟩
      · refine .inl ⟨by rw [e]; exact h5, ?_⟩
        intro z hz
        rcases List.mem_cons.mp hz with rfl | hz
        · exact ht
        · exact h6 z hz
      · exact .inr ⟨y, List.mem_cons_of_mem _ hy, h6, by rw [e]; exact h7⟩
end PB
namespace PB
open PySem
theorem op2_ok {f : Dt → Dt → Option Dt} {x y z : Dt} {st : Sr} (h : f x y = some z) : op2 f (.d x) (.d y, st) = .ok (.d z, st) := by rw [op2_d, h]; rfl
theorem evE_b2_ok {Γ : Gam} {ρ : Ev} {st st1 st2 : Sr} {o : B2} {a b : Ex} {x y z : Dt} (h1 : evE Γ a ρ st = .ok (.d x, st1)) (h2 : evE Γ b ρ st1 = .ok (.d y, st2)) (h3 : b2D o x y = some z) : evE Γ (.b2 o a b) ρ st = .ok (.d z, st2) := by
  rw [evE_b2, h1, Rs.bind_ok]
  dsimp only
  rw [h2, Rs.bind_ok, op2_ok h3]
theorem evE_bin_ok {Γ : Gam} {ρ : Ev} {st st1 st2 : Sr} {o : Bop} {a b : Ex} {x y z : Dt} (h1 : evE Γ a ρ st = .ok (.d x, st1)) (h2 : evE Γ b ρ st1 = .ok (.d y, st2)) (h3 : bopD o x y = some z) : evE Γ (.bin o a b) ρ st = .ok (.d z, st2) := by
  rw [evE_bin, h1, Rs.bind_ok]
  dsimp only
  rw [h2, Rs.bind_ok, op2_ok h3]
theorem evE_cmp_ok {Γ : Gam} {ρ : Ev} {st st1 st2 : Sr} {o : Cop} {a b : Ex} {x y : Dt} {z : Bool} (h1 : evE Γ a ρ st = .ok (.d x, st1)) (h2 : evE Γ b ρ st1 = .ok (.d y, st2)) (h3 : copD o x y = some z) : evE Γ (.cmp o a b) ρ st = .ok (.d (.bl z), st2) := by
  rw [evE_cmp, h1, Rs.bind_ok]
  dsimp only
  rw [h2, Rs.bind_ok]
  exact op2_ok (by simp only [h3]; rfl)
theorem exS_ret_ok {Γ : Gam} {ρ : Ev} {st st1 : Sr} {e : Ex} {w : Wv} (h : evE Γ e ρ st = .ok (w, st1)) : exS Γ (.ret e) ρ st = .ok ((.rt w, ρ), st1) := by rw [exS_ret, h]; rfl
theorem exS_set_ok {Γ : Gam} {ρ : Ev} {st st1 : Sr} {e : Ex} {i : Nat} {w : Wv} (h : evE Γ e ρ st = .ok (w, st1)) : exS Γ (.set i e) ρ st = .ok ((.nx, ρ.set i (some w)), st1) := by rw [exS_set, h]; rfl
/-- a branch that is not taken, or is -/
theorem exS_if_no {Γ : Gam} {ρ : Ev} {st st1 : Sr} {c : Ex} {a : Sms} {x : Dt} (h : evE Γ c ρ st = .ok (.d x, st1)) (hx : truthD x = false) : exS Γ (.ife c a .nil) ρ st = .ok ((.nx, ρ), st1) := by
  rw [exS_ife, evT_eq, h, Rs.bind_ok]
  show ((Rs.ok (truthD x)).bind _).bind _ = _
  rw [hx, Rs.bind_ok, Rs.bind_ok]
  exact exSs_nil (Γ := Γ)
theorem exS_if_yes {Γ : Gam} {ρ : Ev} {st st1 : Sr} {c : Ex} {a b : Sms} {x : Dt} (h : evE Γ c ρ st = .ok (.d x, st1)) (hx : truthD x = true) : exS Γ (.ife c a b) ρ st = exSs Γ a ρ st1 := by
  rw [exS_ife, evT_eq, h, Rs.bind_ok]
  show ((Rs.ok (truthD x)).bind _).bind _ = _
  rw [hx, Rs.bind_ok, Rs.bind_ok]; rfl
theorem exSs_nx {Γ : Gam} {ρ ρ1 : Ev} {st st1 : Sr} {s : Sm} {r : Sms} (h : exS Γ s ρ st = .ok ((.nx, ρ1), st1)) : exSs Γ (.cons s r) ρ st = exSs Γ r ρ1 st1 := by rw [exSs_cons, h, Rs.bind_ok, thenS_nx]
theorem exSs_rt {Γ : Gam} {ρ ρ1 : Ev} {st st1 : Sr} {s : Sm} {r : Sms} {w : Wv} (h : exS Γ s ρ st = .ok ((.rt w, ρ1), st1)) : exSs Γ (.cons s r) ρ st = .ok ((.rt w, ρ1), st1) := by rw [exSs_cons, h, Rs.bind_ok, thenS_rt]
theorem evE_p1_ok {Γ : Gam} {ρ : Ev} {st st1 : Sr} {p : P1} {a : Ex} {x z : Dt} (h1 : evE Γ a ρ st = .ok (.d x, st1)) (h3 : p1D p x = some z) : evE Γ (.p1 p a) ρ st = .ok (.d z, st1) := by
  rw [evE_p1, h1, Rs.bind_ok, op1_ok h3]
theorem exSs_exc {Γ : Gam} {ρ : Ev} {st st1 : Sr} {s : Sm} {r : Sms} {c : Nat} {fs : List Dt} (h : exS Γ s ρ st = .exc c fs st1) : exSs Γ (.cons s r) ρ st = .exc c fs st1 := by rw [exSs_cons, h]; rfl
theorem exS_rai1 {Γ : Gam} {ρ : Ev} {st st1 : Sr} {c : Nat} {e : Ex} {x : Dt} (h : evE Γ e ρ st = .ok (.d x, st1)) : exS Γ (.raiF c (.cons e .nil)) ρ st = .exc c [x] st1 := by
  rw [exS_raiF, evEs_cons, h, Rs.bind_ok, evEs_nil, Rs.bind_ok, Rs.bind_ok]
  unfold raiW
  simp [mapD]
theorem exS_if_any {Γ : Gam} {ρ : Ev} {st st1 : Sr} {c : Ex} {a b : Sms} {x : Dt} (h : evE Γ c ρ st = .ok (.d x, st1)) : exS Γ (.ife c a b) ρ st = if truthD x = true then exSs Γ a ρ st1 else exSs Γ b ρ st1 := by
  rw [exS_ife, evT_eq, h, Rs.bind_ok]
  show ((Rs.ok (truthD x)).bind _).bind _ = _
  rw [Rs.bind_ok, Rs.bind_ok]
end PB

set_option backward.match.sparseCases true
namespace PBX
open PySem PB
def s_abcdefgh_50bd : List Nat := [97, 98, 99, 100, 101, 102, 103, 104, 105, 106, 107, 108, 109, 110, 111, 112, 113, 114, 115, 116, 117, 118, 119, 120, 121, 122]
def s_01234567_50ba : List Nat := [48, 49, 50, 51, 52, 53, 54, 55, 56, 57, 45]
def s_list_f818 : List Nat := [108, 105, 115, 116]
def s_text_a7c7 : List Nat := [116, 101, 120, 116]
def s_abcdefgh_ddbe : List Nat := [97, 98, 99, 100, 101, 102, 103, 104, 105, 106, 107, 108, 109, 110, 111, 112, 113, 114, 115, 116, 117, 118, 119, 120, 121, 122, 48, 49, 50, 51, 52, 53, 54, 55, 56, 57, 45]
def s_a_fd6d : List Nat := [34, 92, 35, 93, 44, 91, 32, 61, 36, 123, 97, 125, 46]
def s_01234567_b361 : List Nat := [32, 33, 34, 35, 36, 38, 39, 40, 41, 42, 43, 44, 45, 46, 47, 48, 49, 50, 51, 52, 53, 54, 55, 56, 57, 58, 59, 60, 61, 62, 63, 64, 65, 66, 67, 68, 69, 70, 71, 72, 73, 74, 75, 76, 77, 78, 79, 80, 81, 82, 83, 84, 85, 86, 87, 88, 89, 90, 91, 92, 93, 94, 95, 96, 97, 98, 99, 100, 101, 102, 103, 104, 105, 106, 107, 108, 109, 110, 111, 112, 113, 114, 115, 116, 117, 118, 119, 120, 121, 122, 123, 124, 125, 126]
def s_truth_2626 : List Nat := [116, 114, 117, 116, 104]
def s_number_1f54 : List Nat := [110, 117, 109, 98, 101, 114]
def s_A_1301 : List Nat := [36, 123, 65, 125]
def s_ab_d64d : List Nat := [36, 123, 97, 46, 46, 98, 125]
def s_ababa_6eb8 : List Nat := [36, 123, 97, 46, 98, 46, 97, 46, 98, 46, 97, 125]
def s_bca_4ade : List Nat := [36, 36, 123, 98, 46, 99, 125, 36, 123, 36, 123, 97, 125, 125]
def s_a_37a3 : List Nat := [36, 123, 97, 125]
def s__eb55 : List Nat := [36, 123, 125, 36, 123]
abbrev c_is_name : Nat := 0
abbrev c_is_path : Nat := 1
abbrev c_reference_at : Nat := 2
abbrev c_pieces_of : Nat := 3
abbrev c_named_in : Nat := 4
abbrev c_refers : Nat := 5
abbrev c__law_cell : Nat := 6
abbrev c__law_mix : Nat := 7
abbrev c__law_perm : Nat := 8
abbrev c__law_same : Nat := 9
abbrev c__law_name : Nat := 10
abbrev c__law_text : Nat := 11
abbrev c__law_days : Nat := 12
abbrev c__law_day : Nat := 13
abbrev c__law_value : Nat := 14
abbrev c__law_begins : Nat := 15
abbrev c__law_pairs : Nat := 16
abbrev c__law_is_name : Nat := 17
abbrev c__law_scan : Nat := 18
abbrev c__law_piece : Nat := 19
abbrev c__law_value_of : Nat := 20
abbrev c__law_named : Nat := 21
abbrev c__law_linked : Nat := 22
abbrev c__law_pairs_of : Nat := 23
abbrev c_law : Nat := 24
abbrev g_LETTERS : Nat := 0
abbrev le0_is_name : Ex :=
    (.or (.cons (.cmp .inn (.v 1) (.g 0)) (.cons (.cmp .inn (.v 1) (.str s_01234567_50ba)) .nil)))
abbrev li0_is_name : Exs :=
    .nil
/-- is_name -/
def b_is_name : Sms :=
    (.cons (.ife (.or (.cons (.not (.isi (.v 0) .str)) (.cons (.not (.cmp2 .le .le (.int 1) (.p1 .len (.v 0)) (.int 8))) (.cons (.cmp .notin (.ix (.v 0) (.int 0)) (.g 0)) .nil)))) (.cons (.ret (.bl false))
    .nil) .nil)
    (.cons (.ret (.p1 .all (.lc (.or (.cons (.cmp .inn (.v 1) (.g 0)) (.cons (.cmp .inn (.v 1) (.str s_01234567_50ba)) .nil))) (.one 1) (.seq (.v 0)) .nil)))
    .nil))
abbrev f_is_name : Fn := ⟨1, 2, b_is_name⟩
abbrev le0_is_path : Ex :=
    (.call 0 (.cons (.v 1) .nil))
abbrev li0_is_path : Exs :=
    .nil
/-- is_path -/
def b_is_path : Sms :=
    (.cons (.ret (.and (.cons (.isi (.v 0) .tuple) (.cons (.cmp2 .le .le (.int 1) (.p1 .len (.v 0)) (.int 4)) (.cons (.p1 .all (.lc (.call 0 (.cons (.v 1) .nil)) (.one 1) (.seq (.v 0)) .nil)) .nil)))))
    .nil)
abbrev f_is_path : Fn := ⟨1, 2, b_is_path⟩
/-- reference_at -/
def b_reference_at : Sms :=
    (.cons (.ife (.cmp .ne (.sl (.v 0) (.yes (.v 1)) (.yes (.bin .add (.v 1) (.int 2)))) (.str [36, 123])) (.cons (.ret .non)
    .nil) .nil)
    (.cons (.set 2 (.find (.v 0) 125 (.v 1)))
    (.cons (.ife (.cmp .lt (.v 2) (.int 0)) (.cons (.ret .non)
    .nil) .nil)
    (.cons (.set 3 (.p1 .tuple (.m1 .split (.sl (.v 0) (.yes (.bin .add (.v 1) (.int 2))) (.yes (.v 2))) (.str [46]))))
    (.cons (.ife (.not (.call 1 (.cons (.v 3) .nil))) (.cons (.ret .non)
    .nil) .nil)
    (.cons (.ret (.tup (.cons (.v 3) (.cons (.bin .add (.v 2) (.int 1)) .nil))))
    .nil))))))
abbrev f_reference_at : Fn := ⟨2, 4, b_reference_at⟩
abbrev wc0_pieces_of : Ex :=
    (.cmp .lt (.v 2) (.p1 .len (.v 0)))
abbrev wb0_pieces_of : Sms :=
    (.cons (.set 3 (.call 2 (.cons (.v 0) (.cons (.v 2) .nil))))
    (.cons (.ife (.cmp .is (.v 3) .non) (.cons (.app 1 (.ix (.v 0) (.v 2)))
    (.cons (.set 2 (.bin .add (.v 2) (.int 1)))
    .nil)) (.cons (.unp [4, 2] (.v 3))
    (.cons (.app 1 (.v 4))
    .nil)))
    .nil))
/-- pieces_of -/
def b_pieces_of : Sms :=
    (.cons (.setL 1 (.lst .nil))
    (.cons (.set 2 (.int 0))
    (.cons (.whl (.cmp .lt (.v 2) (.p1 .len (.v 0))) (.cons (.set 3 (.call 2 (.cons (.v 0) (.cons (.v 2) .nil))))
    (.cons (.ife (.cmp .is (.v 3) .non) (.cons (.app 1 (.ix (.v 0) (.v 2)))
    (.cons (.set 2 (.bin .add (.v 2) (.int 1)))
    .nil)) (.cons (.unp [4, 2] (.v 3))
    (.cons (.app 1 (.v 4))
    .nil)))
    .nil)))
    (.cons (.ret (.v 1))
    .nil))))
abbrev f_pieces_of : Fn := ⟨1, 5, b_pieces_of⟩
abbrev fb0_named_in : Sms :=
    (.cons (.ext 1 (.call 4 (.cons (.v 2) .nil)))
    .nil)
abbrev le0_named_in : Ex :=
    (.v 3)
abbrev li0_named_in : Exs :=
    (.cons (.isi (.v 3) .tuple) .nil)
/-- named_in -/
def b_named_in : Sms :=
    (.cons (.ife (.cmp .eq (.ix (.v 0) (.int 0)) (.str s_text_a7c7)) (.cons (.ret (.lc (.v 3) (.one 3) (.seq (.call 3 (.cons (.ix (.v 0) (.int 1)) .nil))) (.cons (.isi (.v 3) .tuple) .nil)))
    .nil) .nil)
    (.cons (.setL 1 (.lst .nil))
    (.cons (.ife (.cmp .eq (.ix (.v 0) (.int 0)) (.str s_list_f818)) (.cons (.forS (.one 2) (.seq (.ix (.v 0) (.int 1))) (.cons (.ext 1 (.call 4 (.cons (.v 2) .nil)))
    .nil))
    .nil) .nil)
    (.cons (.ret (.v 1))
    .nil))))
abbrev f_named_in : Fn := ⟨1, 4, b_named_in⟩
abbrev fb0_refers : Sms :=
    (.cons (.forS (.one 4) (.seq (.call 4 (.cons (.v 3) .nil))) (.cons (.put 1 (.tup (.cons (.v 2) (.cons (.v 4) .nil))) (.bl true))
    .nil))
    .nil)
abbrev fb1_refers : Sms :=
    (.cons (.put 1 (.tup (.cons (.v 2) (.cons (.v 4) .nil))) (.bl true))
    .nil)
/-- refers -/
def b_refers : Sms :=
    (.cons (.setL 1 .dnew)
    (.cons (.forS (.many [2, 3]) (.seq (.v 0)) (.cons (.forS (.one 4) (.seq (.call 4 (.cons (.v 3) .nil))) (.cons (.put 1 (.tup (.cons (.v 2) (.cons (.v 4) .nil))) (.bl true))
    .nil))
    .nil))
    (.cons (.ret (.p1 .tuple (.pd .sorted (.v 1))))
    .nil)))
abbrev f_refers : Fn := ⟨1, 5, b_refers⟩
/-- _law_cell -/
def b__law_cell : Sms :=
    (.cons (.ife (.cmp .lt (.v 1) (.p1 .len (.v 0))) (.cons (.ret (.ix (.v 0) (.v 1)))
    .nil) .nil)
    (.cons (.ret (.int 0))
    .nil))
abbrev f__law_cell : Fn := ⟨2, 2, b__law_cell⟩
/-- _law_mix -/
def b__law_mix : Sms :=
    (.cons (.set 3 (.bin .mod (.bin .mul (.v 0) (.int 48271)) (.v 1)))
    (.cons (.ret (.bin .mod (.bin .mod (.bin .mul (.v 3) (.bin .add (.v 3) (.int 7))) (.v 1)) (.v 2)))
    .nil))
abbrev f__law_mix : Fn := ⟨3, 4, b__law_mix⟩
abbrev le0__law_perm : Ex :=
    (.popi 2 (.call 7 (.cons (.bin .add (.v 0) (.bin .mul (.int 5) (.v 3))) (.cons (.int 9967) (.cons (.bin .sub (.v 1) (.v 3)) .nil)))))
abbrev li0__law_perm : Exs :=
    .nil
/-- _law_perm -/
def b__law_perm : Sms :=
    (.cons (.setL 2 (.lrng (.v 1)))
    (.cons (.ret (.lc (.popi 2 (.call 7 (.cons (.bin .add (.v 0) (.bin .mul (.int 5) (.v 3))) (.cons (.int 9967) (.cons (.bin .sub (.v 1) (.v 3)) .nil))))) (.one 3) (.rng1 (.v 1)) .nil))
    .nil))
abbrev f__law_perm : Fn := ⟨2, 4, b__law_perm⟩
abbrev le0__law_same : Ex :=
    (.call 9 (.cons (.v 2) (.cons (.v 3) .nil)))
abbrev li0__law_same : Exs :=
    .nil
/-- _law_same -/
def b__law_same : Sms :=
    (.cons (.ife (.isi (.v 1) .tuple) (.cons (.ife (.or (.cons (.not (.isi (.v 0) .tuple)) (.cons (.cmp .ne (.p1 .len (.v 0)) (.p1 .len (.v 1))) .nil))) (.cons (.ret (.bl false))
    .nil) .nil)
    (.cons (.ret (.p1 .all (.lc (.call 9 (.cons (.v 2) (.cons (.v 3) .nil))) (.many [2, 3]) (.zip (.v 0) (.v 1)) .nil)))
    .nil)) .nil)
    (.cons (.ife (.cmp .is (.v 1) .non) (.cons (.ret (.cmp .is (.v 0) .non))
    .nil) .nil)
    (.cons (.ife (.or (.cons (.isi (.v 1) .bool) (.cons (.isi (.v 0) .bool) .nil))) (.cons (.ret (.and (.cons (.isi (.v 1) .bool) (.cons (.isi (.v 0) .bool) (.cons (.cmp .eq (.v 0) (.v 1)) .nil)))))
    .nil) .nil)
    (.cons (.ret (.and (.cons (.isi2 (.v 0) .int .str) (.cons (.cmp .eq (.v 0) (.v 1)) .nil))))
    .nil))))
abbrev f__law_same : Fn := ⟨2, 4, b__law_same⟩
abbrev fb0__law_name : Sms :=
    (.cons (.set 2 (.bin .add (.v 2) (.ix (.v 1) (.call 7 (.cons (.bin .add (.v 0) (.bin .mul (.int 7) (.v 3))) (.cons (.int 9941) (.cons (.int 37) .nil)))))))
    .nil)
/-- _law_name -/
def b__law_name : Sms :=
    (.cons (.set 1 (.str s_abcdefgh_ddbe))
    (.cons (.ife (.cmp .eq (.bin .mod (.v 0) (.int 3)) (.int 0)) (.cons (.ret (.ix (.tup (.cons (.str [97]) (.cons (.str [98]) (.cons (.str [97, 45, 49]) (.cons (.str [97, 98]) .nil))))) (.call 7 (.cons (.v 0) (.cons (.int 9973) (.cons (.int 4) .nil))))))
    .nil) .nil)
    (.cons (.set 2 (.ix (.v 1) (.call 7 (.cons (.v 0) (.cons (.int 9967) (.cons (.int 26) .nil))))))
    (.cons (.forS (.one 3) (.rng1 (.call 7 (.cons (.v 0) (.cons (.int 9949) (.cons (.int 8) .nil))))) (.cons (.set 2 (.bin .add (.v 2) (.ix (.v 1) (.call 7 (.cons (.bin .add (.v 0) (.bin .mul (.int 7) (.v 3))) (.cons (.int 9941) (.cons (.int 37) .nil)))))))
    .nil))
    (.cons (.ret (.v 2))
    .nil)))))
abbrev f__law_name : Fn := ⟨1, 4, b__law_name⟩
abbrev le0__law_text : Ex :=
    (.ix (.v 1) (.call 7 (.cons (.bin .add (.v 0) (.bin .mul (.int 7) (.v 3))) (.cons (.int 9923) (.cons (.p1 .len (.v 1)) .nil)))))
abbrev li0__law_text : Exs :=
    .nil
/-- _law_text -/
def b__law_text : Sms :=
    (.cons (.set 1 (.str s_01234567_b361))
    (.cons (.ife (.cmp .eq (.bin .mod (.v 0) (.int 4)) (.int 0)) (.cons (.set 1 (.str s_a_fd6d))
    .nil) .nil)
    (.cons (.set 2 (.call 7 (.cons (.v 0) (.cons (.int 9931) (.cons (.int 7) .nil)))))
    (.cons (.ife (.cmp .eq (.call 7 (.cons (.v 0) (.cons (.int 9929) (.cons (.int 9) .nil)))) (.int 0)) (.cons (.set 2 (.int 60))
    .nil) .nil)
    (.cons (.ret (.m1 .join (.str []) (.lc (.ix (.v 1) (.call 7 (.cons (.bin .add (.v 0) (.bin .mul (.int 7) (.v 3))) (.cons (.int 9923) (.cons (.p1 .len (.v 1)) .nil))))) (.one 3) (.rng1 (.v 2)) .nil)))
    .nil)))))
abbrev f__law_text : Fn := ⟨1, 4, b__law_text⟩
/-- _law_days -/
def b__law_days : Sms :=
    (.cons (.ife (.cmp .eq (.v 1) (.int 2)) (.cons (.ret (.bin .add (.int 28) (.p1 .int (.and (.cons (.cmp .eq (.bin .mod (.v 0) (.int 4)) (.int 0)) (.cons (.or (.cons (.cmp .gt (.bin .mod (.v 0) (.int 100)) (.int 0)) (.cons (.cmp .eq (.bin .mod (.v 0) (.int 400)) (.int 0)) .nil))) .nil))))))
    .nil) .nil)
    (.cons (.ret (.bin .add (.int 30) (.p1 .int (.cmp .inn (.v 1) (.tup (.cons (.int 1) (.cons (.int 3) (.cons (.int 5) (.cons (.int 7) (.cons (.int 8) (.cons (.int 10) (.cons (.int 12) .nil))))))))))))
    .nil))
abbrev f__law_days : Fn := ⟨2, 2, b__law_days⟩
/-- _law_day -/
def b__law_day : Sms :=
    (.cons (.set 1 (.bin .add (.int 1) (.bin .mod (.call 7 (.cons (.v 0) (.cons (.int 9973) (.cons (.int 9999) .nil)))) (.int 9999))))
    (.cons (.ife (.cmp .eq (.bin .mod (.v 0) (.int 3)) (.int 0)) (.cons (.set 1 (.ix (.tup (.cons (.int 1) (.cons (.int 4) (.cons (.int 100) (.cons (.int 400) (.cons (.int 1900) (.cons (.int 2000) (.cons (.int 2024) (.cons (.int 9999) .nil))))))))) (.call 7 (.cons (.v 0) (.cons (.int 9967) (.cons (.int 8) .nil))))))
    .nil) .nil)
    (.cons (.set 2 (.bin .add (.int 1) (.call 7 (.cons (.v 0) (.cons (.int 9949) (.cons (.int 12) .nil))))))
    (.cons (.ife (.cmp .eq (.bin .mod (.v 0) (.int 2)) (.int 0)) (.cons (.ret (.tup (.cons (.v 1) (.cons (.v 2) (.cons (.call 12 (.cons (.v 1) (.cons (.v 2) .nil))) .nil)))))
    .nil) .nil)
    (.cons (.ret (.tup (.cons (.v 1) (.cons (.v 2) (.cons (.bin .add (.int 1) (.call 7 (.cons (.v 0) (.cons (.int 9941) (.cons (.call 12 (.cons (.v 1) (.cons (.v 2) .nil))) .nil))))) .nil)))))
    .nil)))))
abbrev f__law_day : Fn := ⟨1, 3, b__law_day⟩
abbrev le0__law_value : Ex :=
    (.call 14 (.cons (.bin .add (.bin .add (.v 0) (.bin .mul (.int 17) (.v 4))) (.int 5)) (.cons (.bin .sub (.v 1) (.int 1)) .nil)))
abbrev li0__law_value : Exs :=
    .nil
/-- _law_value -/
def b__law_value : Sms :=
    (.cons (.set 2 (.call 7 (.cons (.v 0) (.cons (.int 9907) (.cons (.bin .add (.int 4) (.bin .mul (.int 2) (.p1 .int (.cmp .gt (.v 1) (.int 0))))) .nil)))))
    (.cons (.ife (.cmp .eq (.v 2) (.int 0)) (.cons (.ife (.cmp .eq (.bin .mod (.v 0) (.int 3)) (.int 0)) (.cons (.ret (.tup (.cons (.str s_number_1f54) (.cons (.bin .sub (.bin .mod (.v 0) (.int 1999999999)) (.int 999999999)) .nil))))
    .nil) .nil)
    (.cons (.ret (.tup (.cons (.str s_number_1f54) (.cons (.bin .sub (.call 7 (.cons (.v 0) (.cons (.int 9901) (.cons (.int 41) .nil)))) (.int 20)) .nil))))
    .nil)) .nil)
    (.cons (.ife (.cmp .eq (.v 2) (.int 1)) (.cons (.ret (.tup (.cons (.str s_truth_2626) (.cons (.cmp .eq (.bin .mod (.v 0) (.int 2)) (.int 0)) .nil))))
    .nil) .nil)
    (.cons (.ife (.cmp .eq (.v 2) (.int 2)) (.cons (.ret (.tup (.cons (.str s_text_a7c7) (.cons (.call 11 (.cons (.v 0) .nil)) .nil))))
    .nil) .nil)
    (.cons (.ife (.cmp .eq (.v 2) (.int 3)) (.cons (.ret (.tup (.cons (.str [100, 97, 121]) (.cons (.call 13 (.cons (.v 0) .nil)) .nil))))
    .nil) .nil)
    (.cons (.set 3 (.call 7 (.cons (.v 0) (.cons (.int 9887) (.cons (.int 4) .nil)))))
    (.cons (.ife (.cmp .eq (.call 7 (.cons (.v 0) (.cons (.int 9883) (.cons (.int 9) .nil)))) (.int 0)) (.cons (.set 3 (.int 6))
    .nil) .nil)
    (.cons (.ret (.tup (.cons (.str s_list_f818) (.cons (.p1 .tuple (.lc (.call 14 (.cons (.bin .add (.bin .add (.v 0) (.bin .mul (.int 17) (.v 4))) (.int 5)) (.cons (.bin .sub (.v 1) (.int 1)) .nil))) (.one 4) (.rng1 (.v 3)) .nil)) .nil))))
    .nil))))))))
abbrev f__law_value : Fn := ⟨2, 5, b__law_value⟩
/-- _law_begins -/
def b__law_begins : Sms :=
    (.cons (.ret (.and (.cons (.cmp .lt (.p1 .len (.v 0)) (.p1 .len (.v 1))) (.cons (.cmp .eq (.v 0) (.sl (.v 1) .no (.yes (.p1 .len (.v 0))))) .nil))))
    .nil)
abbrev f__law_begins : Fn := ⟨2, 2, b__law_begins⟩
abbrev fb0__law_pairs : Sms :=
    (.cons (.set 5 (.bin .add (.v 0) (.bin .mul (.int 43) (.v 4))))
    (.cons (.set 6 (.p1 .tuple (.lc (.ix (.v 2) (.call 7 (.cons (.bin .add (.v 5) (.bin .mul (.int 3) (.v 7))) (.cons (.int 9833) (.cons (.int 4) .nil))))) (.one 7) (.rng1 (.bin .add (.int 1) (.call 7 (.cons (.v 5) (.cons (.int 9829) (.cons (.int 4) .nil)))))) .nil)))
    (.cons (.ife (.not (.lcz (.v 8) (.one 8) (.seq (.v 3)) (.cons (.or (.cons (.cmp .eq (.v 8) (.v 6)) (.cons (.call 15 (.cons (.v 8) (.cons (.v 6) .nil))) (.cons (.call 15 (.cons (.v 6) (.cons (.v 8) .nil))) .nil)))) .nil))) (.cons (.put 3 (.v 6) (.call 14 (.cons (.bin .add (.v 5) (.int 1)) (.cons (.int 2) .nil))))
    .nil) .nil)
    .nil)))
abbrev le0__law_pairs : Ex :=
    (.call 10 (.cons (.bin .add (.v 0) (.bin .mul (.int 29) (.v 4))) .nil))
abbrev li0__law_pairs : Exs :=
    .nil
abbrev le1__law_pairs : Ex :=
    (.ix (.v 2) (.call 7 (.cons (.bin .add (.v 5) (.bin .mul (.int 3) (.v 7))) (.cons (.int 9833) (.cons (.int 4) .nil)))))
abbrev li1__law_pairs : Exs :=
    .nil
abbrev le2__law_pairs : Ex :=
    (.v 8)
abbrev li2__law_pairs : Exs :=
    (.cons (.or (.cons (.cmp .eq (.v 8) (.v 6)) (.cons (.call 15 (.cons (.v 8) (.cons (.v 6) .nil))) (.cons (.call 15 (.cons (.v 6) (.cons (.v 8) .nil))) .nil)))) .nil)
abbrev le3__law_pairs : Ex :=
    (.tup (.cons (.v 6) (.cons (.dix (.v 3) (.v 6)) .nil)))
abbrev li3__law_pairs : Exs :=
    .nil
/-- _law_pairs -/
def b__law_pairs : Sms :=
    (.cons (.set 2 (.lc (.call 10 (.cons (.bin .add (.v 0) (.bin .mul (.int 29) (.v 4))) .nil)) (.one 4) (.rng1 (.int 4)) .nil))
    (.cons (.setL 3 .dnew)
    (.cons (.forS (.one 4) (.rng1 (.v 1)) (.cons (.set 5 (.bin .add (.v 0) (.bin .mul (.int 43) (.v 4))))
    (.cons (.set 6 (.p1 .tuple (.lc (.ix (.v 2) (.call 7 (.cons (.bin .add (.v 5) (.bin .mul (.int 3) (.v 7))) (.cons (.int 9833) (.cons (.int 4) .nil))))) (.one 7) (.rng1 (.bin .add (.int 1) (.call 7 (.cons (.v 5) (.cons (.int 9829) (.cons (.int 4) .nil)))))) .nil)))
    (.cons (.ife (.not (.lcz (.v 8) (.one 8) (.seq (.v 3)) (.cons (.or (.cons (.cmp .eq (.v 8) (.v 6)) (.cons (.call 15 (.cons (.v 8) (.cons (.v 6) .nil))) (.cons (.call 15 (.cons (.v 6) (.cons (.v 8) .nil))) .nil)))) .nil))) (.cons (.put 3 (.v 6) (.call 14 (.cons (.bin .add (.v 5) (.int 1)) (.cons (.int 2) .nil))))
    .nil) .nil)
    .nil))))
    (.cons (.ret (.p1 .tuple (.lc (.tup (.cons (.v 6) (.cons (.dix (.v 3) (.v 6)) .nil))) (.one 6) (.seq (.pd .sorted (.v 3))) .nil)))
    .nil))))
abbrev f__law_pairs : Fn := ⟨2, 9, b__law_pairs⟩
abbrev le0__law_is_name : Ex :=
    (.v 2)
abbrev li0__law_is_name : Exs :=
    (.cons (.cmp .notin (.v 2) (.v 1)) .nil)
/-- _law_is_name -/
def b__law_is_name : Sms :=
    (.cons (.set 1 (.str s_abcdefgh_ddbe))
    (.cons (.ife (.or (.cons (.not (.cmp2 .le .le (.int 1) (.p1 .len (.v 0)) (.int 8))) (.cons (.cmp .inn (.ix (.v 0) (.int 0)) (.str s_01234567_50ba)) .nil))) (.cons (.ret (.bl false))
    .nil) .nil)
    (.cons (.ret (.cmp .eq (.lc (.v 2) (.one 2) (.seq (.v 0)) (.cons (.cmp .notin (.v 2) (.v 1)) .nil)) (.lst .nil)))
    .nil)))
abbrev f__law_is_name : Fn := ⟨1, 3, b__law_is_name⟩
abbrev le0__law_scan : Ex :=
    (.call 17 (.cons (.v 5) .nil))
abbrev li0__law_scan : Exs :=
    .nil
abbrev wc0__law_scan : Ex :=
    (.cmp .lt (.v 2) (.p1 .len (.v 0)))
abbrev wb0__law_scan : Sms :=
    (.cons (.set 3 (.find (.v 0) 125 (.v 2)))
    (.cons (.set 4 (.tup .nil))
    (.cons (.ife (.and (.cons (.cmp .eq (.sl (.v 0) (.yes (.v 2)) (.yes (.bin .add (.v 2) (.int 2)))) (.str [36, 123])) (.cons (.cmp .gt (.v 3) (.int 0)) .nil))) (.cons (.set 4 (.p1 .tuple (.m1 .split (.sl (.v 0) (.yes (.bin .add (.v 2) (.int 2))) (.yes (.v 3))) (.str [46]))))
    .nil) .nil)
    (.cons (.ife (.and (.cons (.cmp2 .lt .lt (.int 0) (.p1 .len (.v 4)) (.int 5)) (.cons (.p1 .all (.lc (.call 17 (.cons (.v 5) .nil)) (.one 5) (.seq (.v 4)) .nil)) .nil))) (.cons (.app 1 (.v 4))
    (.cons (.set 2 (.bin .add (.v 3) (.int 1)))
    .nil)) (.cons (.app 1 (.ix (.v 0) (.v 2)))
    (.cons (.set 2 (.bin .add (.v 2) (.int 1)))
    .nil)))
    .nil))))
/-- _law_scan -/
def b__law_scan : Sms :=
    (.cons (.setL 1 (.lst .nil))
    (.cons (.set 2 (.int 0))
    (.cons (.whl (.cmp .lt (.v 2) (.p1 .len (.v 0))) (.cons (.set 3 (.find (.v 0) 125 (.v 2)))
    (.cons (.set 4 (.tup .nil))
    (.cons (.ife (.and (.cons (.cmp .eq (.sl (.v 0) (.yes (.v 2)) (.yes (.bin .add (.v 2) (.int 2)))) (.str [36, 123])) (.cons (.cmp .gt (.v 3) (.int 0)) .nil))) (.cons (.set 4 (.p1 .tuple (.m1 .split (.sl (.v 0) (.yes (.bin .add (.v 2) (.int 2))) (.yes (.v 3))) (.str [46]))))
    .nil) .nil)
    (.cons (.ife (.and (.cons (.cmp2 .lt .lt (.int 0) (.p1 .len (.v 4)) (.int 5)) (.cons (.p1 .all (.lc (.call 17 (.cons (.v 5) .nil)) (.one 5) (.seq (.v 4)) .nil)) .nil))) (.cons (.app 1 (.v 4))
    (.cons (.set 2 (.bin .add (.v 3) (.int 1)))
    .nil)) (.cons (.app 1 (.ix (.v 0) (.v 2)))
    (.cons (.set 2 (.bin .add (.v 2) (.int 1)))
    .nil)))
    .nil)))))
    (.cons (.ret (.v 1))
    .nil))))
abbrev f__law_scan : Fn := ⟨1, 6, b__law_scan⟩
/-- _law_piece -/
def b__law_piece : Sms :=
    (.cons (.set 2 (.call 7 (.cons (.v 0) (.cons (.int 9811) (.cons (.int 5) .nil)))))
    (.cons (.ife (.cmp .eq (.v 2) (.int 0)) (.cons (.set 3 (.tup (.cons (.str [36]) (.cons (.str [36, 123]) (.cons (.str [125]) (.cons (.str [97]) (.cons (.str [36, 36, 123]) (.cons (.str [36, 123, 97]) (.cons (.str s_A_1301) (.cons (.str s_ab_d64d) (.cons (.str s_ababa_6eb8) (.cons (.str [32]) .nil))))))))))))
    (.cons (.ret (.ix (.v 3) (.call 7 (.cons (.v 0) (.cons (.int 9803) (.cons (.int 10) .nil))))))
    .nil)) .nil)
    (.cons (.ife (.or (.cons (.cmp .eq (.v 2) (.int 1)) (.cons (.not (.v 1)) .nil))) (.cons (.ret (.sl (.str [120, 121, 122]) .no (.yes (.call 7 (.cons (.v 0) (.cons (.int 9791) (.cons (.int 4) .nil)))))))
    .nil) .nil)
    (.cons (.ret (.bin .add (.bin .add (.str [36, 123]) (.m1 .join (.str [46]) (.ix (.v 1) (.call 7 (.cons (.v 0) (.cons (.int 9787) (.cons (.p1 .len (.v 1)) .nil))))))) (.str [125])))
    .nil))))
abbrev f__law_piece : Fn := ⟨2, 4, b__law_piece⟩
abbrev fb0__law_value_of : Sms :=
    (.cons (.set 7 (.call 19 (.cons (.bin .add (.v 0) (.bin .mul (.int 7) (.v 5))) (.cons (.v 1) .nil))))
    (.cons (.ife (.cmp .le (.bin .add (.p1 .len (.v 4)) (.p1 .len (.v 7))) (.int 60)) (.cons (.set 4 (.bin .add (.v 4) (.v 7)))
    .nil) .nil)
    .nil))
abbrev le0__law_value_of : Ex :=
    (.call 20 (.cons (.bin .add (.bin .add (.v 0) (.bin .mul (.int 5) (.v 5))) (.int 1)) (.cons (.v 1) (.cons (.bin .sub (.v 2) (.int 1)) .nil))))
abbrev li0__law_value_of : Exs :=
    .nil
/-- _law_value_of -/
def b__law_value_of : Sms :=
    (.cons (.set 3 (.call 7 (.cons (.v 0) (.cons (.int 9781) (.cons (.int 5) .nil)))))
    (.cons (.ife (.cmp .lt (.v 3) (.int 3)) (.cons (.set 4 (.str []))
    (.cons (.forS (.one 5) (.rng1 (.call 7 (.cons (.v 0) (.cons (.int 9769) (.cons (.int 5) .nil))))) (.cons (.set 7 (.call 19 (.cons (.bin .add (.v 0) (.bin .mul (.int 7) (.v 5))) (.cons (.v 1) .nil))))
    (.cons (.ife (.cmp .le (.bin .add (.p1 .len (.v 4)) (.p1 .len (.v 7))) (.int 60)) (.cons (.set 4 (.bin .add (.v 4) (.v 7)))
    .nil) .nil)
    .nil)))
    (.cons (.ret (.tup (.cons (.str s_text_a7c7) (.cons (.v 4) .nil))))
    .nil))) .nil)
    (.cons (.ife (.and (.cons (.cmp .eq (.v 3) (.int 3)) (.cons (.cmp .gt (.v 2) (.int 0)) .nil))) (.cons (.set 6 (.call 7 (.cons (.v 0) (.cons (.int 9767) (.cons (.int 4) .nil)))))
    (.cons (.ret (.tup (.cons (.str s_list_f818) (.cons (.p1 .tuple (.lc (.call 20 (.cons (.bin .add (.bin .add (.v 0) (.bin .mul (.int 5) (.v 5))) (.int 1)) (.cons (.v 1) (.cons (.bin .sub (.v 2) (.int 1)) .nil)))) (.one 5) (.rng1 (.v 6)) .nil)) .nil))))
    .nil)) .nil)
    (.cons (.ret (.ix (.tup (.cons (.tup (.cons (.str s_number_1f54) (.cons (.neg (.int 5)) .nil))) (.cons (.tup (.cons (.str s_truth_2626) (.cons (.bl true) .nil))) (.cons (.tup (.cons (.str [100, 97, 121]) (.cons (.tup (.cons (.int 2024) (.cons (.int 2) (.cons (.int 29) .nil)))) .nil))) (.cons (.tup (.cons (.str s_number_1f54) (.cons (.int 0) .nil))) .nil))))) (.call 7 (.cons (.v 0) (.cons (.int 9749) (.cons (.int 4) .nil))))))
    .nil))))
abbrev f__law_value_of : Fn := ⟨3, 8, b__law_value_of⟩
abbrev fb0__law_named : Sms :=
    (.cons (.ext 1 (.call 21 (.cons (.v 2) .nil)))
    .nil)
abbrev le0__law_named : Ex :=
    (.v 3)
abbrev li0__law_named : Exs :=
    (.cons (.isi (.v 3) .tuple) .nil)
/-- _law_named -/
def b__law_named : Sms :=
    (.cons (.ife (.cmp .eq (.ix (.v 0) (.int 0)) (.str s_text_a7c7)) (.cons (.ret (.lc (.v 3) (.one 3) (.seq (.call 18 (.cons (.ix (.v 0) (.int 1)) .nil))) (.cons (.isi (.v 3) .tuple) .nil)))
    .nil) .nil)
    (.cons (.setL 1 (.lst .nil))
    (.cons (.ife (.cmp .eq (.ix (.v 0) (.int 0)) (.str s_list_f818)) (.cons (.forS (.one 2) (.seq (.ix (.v 0) (.int 1))) (.cons (.ext 1 (.call 21 (.cons (.v 2) .nil)))
    .nil))
    .nil) .nil)
    (.cons (.ret (.v 1))
    .nil))))
abbrev f__law_named : Fn := ⟨1, 4, b__law_named⟩
abbrev fb0__law_linked : Sms :=
    (.cons (.set 8 (.sl (.v 4) .no (.yes (.v 6))))
    (.cons (.ife (.cmp .eq (.v 2) (.int 1)) (.cons (.set 8 (.v 4))
    .nil) .nil)
    (.cons (.ife (.cmp .eq (.v 2) (.int 2)) (.cons (.set 8 (.bin .add (.v 4) (.lst (.cons (.tup (.cons (.str [122, 122]) (.cons (.str [121]) .nil))) .nil))))
    .nil) .nil)
    (.cons (.app 5 (.tup (.cons (.v 7) (.cons (.call 20 (.cons (.bin .add (.bin .add (.v 0) (.bin .mul (.int 11) (.v 6))) (.int 3)) (.cons (.v 8) (.cons (.int 2) .nil)))) .nil))))
    .nil))))
abbrev le0__law_linked : Ex :=
    (.v 7)
abbrev li0__law_linked : Exs :=
    .nil
abbrev le1__law_linked : Ex :=
    (.ix (.v 3) (.v 6))
abbrev li1__law_linked : Exs :=
    .nil
/-- _law_linked -/
def b__law_linked : Sms :=
    (.cons (.set 3 (.lc (.v 7) (.many [7, 9]) (.seq (.call 16 (.cons (.v 0) (.cons (.v 1) .nil)))) .nil))
    (.cons (.set 4 (.lc (.ix (.v 3) (.v 6)) (.one 6) (.seq (.call 8 (.cons (.bin .add (.v 0) (.int 1)) (.cons (.p1 .len (.v 3)) .nil)))) .nil))
    (.cons (.setL 5 (.lst .nil))
    (.cons (.forS (.many [6, 7]) (.enm (.v 4)) (.cons (.set 8 (.sl (.v 4) .no (.yes (.v 6))))
    (.cons (.ife (.cmp .eq (.v 2) (.int 1)) (.cons (.set 8 (.v 4))
    .nil) .nil)
    (.cons (.ife (.cmp .eq (.v 2) (.int 2)) (.cons (.set 8 (.bin .add (.v 4) (.lst (.cons (.tup (.cons (.str [122, 122]) (.cons (.str [121]) .nil))) .nil))))
    .nil) .nil)
    (.cons (.app 5 (.tup (.cons (.v 7) (.cons (.call 20 (.cons (.bin .add (.bin .add (.v 0) (.bin .mul (.int 11) (.v 6))) (.int 3)) (.cons (.v 8) (.cons (.int 2) .nil)))) .nil))))
    .nil)))))
    (.cons (.ret (.p1 .tuple (.p1 .sorted (.v 5))))
    .nil)))))
abbrev f__law_linked : Fn := ⟨3, 10, b__law_linked⟩
abbrev fb0__law_pairs_of : Sms :=
    (.cons (.ext 1 (.lc (.tup (.cons (.v 2) (.cons (.v 4) .nil))) (.one 4) (.seq (.call 21 (.cons (.v 3) .nil))) .nil))
    .nil)
abbrev le0__law_pairs_of : Ex :=
    (.tup (.cons (.v 2) (.cons (.v 4) .nil)))
abbrev li0__law_pairs_of : Exs :=
    .nil
/-- _law_pairs_of -/
def b__law_pairs_of : Sms :=
    (.cons (.setL 1 (.lst .nil))
    (.cons (.forS (.many [2, 3]) (.seq (.v 0)) (.cons (.ext 1 (.lc (.tup (.cons (.v 2) (.cons (.v 4) .nil))) (.one 4) (.seq (.call 21 (.cons (.v 3) .nil))) .nil))
    .nil))
    (.cons (.ret (.p1 .tuple (.ssort (.v 1))))
    .nil)))
abbrev f__law_pairs_of : Fn := ⟨1, 5, b__law_pairs_of⟩
abbrev fb0_law : Sms :=
    (.cons (.set 4 (.call 7 (.cons (.bin .add (.call 6 (.cons (.v 0) (.cons (.int 3) .nil))) (.v 1)) (.cons (.int 9743) (.cons (.int 9) .nil)))))
    (.cons (.set 5 (.call 22 (.cons (.bin .add (.call 6 (.cons (.v 0) (.cons (.v 1) .nil))) (.v 1)) (.cons (.v 4) (.cons (.call 7 (.cons (.call 6 (.cons (.v 0) (.cons (.int 4) .nil))) (.cons (.int 9739) (.cons (.int 3) .nil)))) .nil)))))
    (.cons (.ife (.not (.call 9 (.cons (.call 5 (.cons (.v 5) .nil)) (.cons (.call 23 (.cons (.v 5) .nil)) .nil)))) (.cons (.ret (.bl false))
    .nil) .nil)
    .nil)))
/-- law -/
def b_law : Sms :=
    (.cons (.forS (.one 1) (.rng1 (.int 3)) (.cons (.set 4 (.call 7 (.cons (.bin .add (.call 6 (.cons (.v 0) (.cons (.int 3) .nil))) (.v 1)) (.cons (.int 9743) (.cons (.int 9) .nil)))))
    (.cons (.set 5 (.call 22 (.cons (.bin .add (.call 6 (.cons (.v 0) (.cons (.v 1) .nil))) (.v 1)) (.cons (.v 4) (.cons (.call 7 (.cons (.call 6 (.cons (.v 0) (.cons (.int 4) .nil))) (.cons (.int 9739) (.cons (.int 3) .nil)))) .nil)))))
    (.cons (.ife (.not (.call 9 (.cons (.call 5 (.cons (.v 5) .nil)) (.cons (.call 23 (.cons (.v 5) .nil)) .nil)))) (.cons (.ret (.bl false))
    .nil) .nil)
    .nil))))
    (.cons (.set 2 (.tup (.cons (.tup (.cons (.str s_text_a7c7) (.cons (.str s_a_37a3) .nil))) (.cons (.tup (.cons (.str s_text_a7c7) (.cons (.str s_a_37a3) .nil))) (.cons (.tup (.cons (.str s_text_a7c7) (.cons (.str s__eb55) .nil))) .nil)))))
    (.cons (.set 3 (.tup (.cons (.tup (.cons (.tup (.cons (.str [97]) .nil)) (.cons (.tup (.cons (.str s_text_a7c7) (.cons (.str s_bca_4ade) .nil))) .nil))) (.cons (.tup (.cons (.tup (.cons (.str [98]) (.cons (.str [99]) .nil))) (.cons (.tup (.cons (.str s_list_f818) (.cons (.v 2) .nil))) .nil))) .nil))))
    (.cons (.ret (.and (.cons (.call 9 (.cons (.call 5 (.cons (.v 3) .nil)) (.cons (.tup (.cons (.tup (.cons (.tup (.cons (.str [97]) .nil)) (.cons (.tup (.cons (.str [97]) .nil)) .nil))) (.cons (.tup (.cons (.tup (.cons (.str [97]) .nil)) (.cons (.tup (.cons (.str [98]) (.cons (.str [99]) .nil))) .nil))) (.cons (.tup (.cons (.tup (.cons (.str [98]) (.cons (.str [99]) .nil))) (.cons (.tup (.cons (.str [97]) .nil)) .nil))) .nil)))) .nil))) (.cons (.cmp .eq (.call 5 (.cons (.tup .nil) .nil)) (.tup .nil)) .nil))))
    .nil))))
abbrev f_law : Fn := ⟨1, 6, b_law⟩
def tab : List Fn := [f_is_name, f_is_path, f_reference_at, f_pieces_of, f_named_in, f_refers, f__law_cell, f__law_mix, f__law_perm, f__law_same, f__law_name, f__law_text, f__law_days, f__law_day, f__law_value, f__law_begins, f__law_pairs, f__law_is_name, f__law_scan, f__law_piece, f__law_value_of, f__law_named, f__law_linked, f__law_pairs_of, f_law]
def gls : List Dt := [(.str s_abcdefgh_50bd)]

abbrev Gm (n : Nat) : Gam := ⟨callW (runV tab gls n), gls⟩
/-! ### calls -/
theorem call1_v {n f : Nat} {ρ : Ev} {st st1 : Sr} {a : Ex} {x : Dt} (h1 : evE (Gm n) a ρ st = .ok (.d x, st1)) : evE (Gm n) (.call f (.cons a .nil)) ρ st = valD st1 (runP tab gls n f [x]) := by
  simp only [evE_call, evEs_cons, evEs_nil, h1, Rs.bind_ok, callW_1]
theorem call2_v {n f : Nat} {ρ : Ev} {st st1 st2 : Sr} {a b : Ex} {x y : Dt} (h1 : evE (Gm n) a ρ st = .ok (.d x, st1)) (h2 : evE (Gm n) b ρ st1 = .ok (.d y, st2)) : evE (Gm n) (.call f (.cons a (.cons b .nil))) ρ st = valD st2 (runP tab gls n f [x, y]) := by
  simp only [evE_call, evEs_cons, evEs_nil, h1, h2, Rs.bind_ok, callW_2]
theorem call3_v {n f : Nat} {ρ : Ev} {st st1 st2 st3 : Sr} {a b c : Ex} {x y z : Dt} (h1 : evE (Gm n) a ρ st = .ok (.d x, st1)) (h2 : evE (Gm n) b ρ st1 = .ok (.d y, st2)) (h3 : evE (Gm n) c ρ st2 = .ok (.d z, st3)) : evE (Gm n) (.call f (.cons a (.cons b (.cons c .nil)))) ρ st = valD st3 (runP tab gls n f [x, y, z]) := by
  simp only [evE_call, evEs_cons, evEs_nil, h1, h2, h3, Rs.bind_ok, callW_3]
def mix (c p m : Int) : Int := (c * 48271 % p) * ((c * 48271 % p) + 7) % p % m
theorem mix_range {c p m : Int} (hm : 0 < m) : 0 ≤ mix c p m ∧ mix c p m < m := ⟨Int.emod_nonneg _ (by omega), Int.emod_lt_of_pos _ hm⟩
theorem run3 (n : Nat) (a b c : Dt) : runP tab gls (n + 1) c__law_mix [a, b, c] = (exSs (Gm n) b__law_mix [some (.d a), some (.d b), some (.d c), none] []).bind endD := rfl
theorem run_mix (n : Nat) (c p m : Int) (hp : 0 < p) (hp2 : p < 2 ^ 63) (hm : 0 < m) : runP tab gls (n + 1) c__law_mix [.int c, .int p, .int m] = .ok (.int (mix c p m)) := by
  have h1 : 0 ≤ c * 48271 % p := Int.emod_nonneg _ (by omega)
  have h2 : c * 48271 % p < p := Int.emod_lt_of_pos _ hp
  have h3 : smallI (c * 48271 % p) := by unfold smallI; omega
  have h4 : smallI 48271 := by decide
  rw [run3]
  simp [b__law_mix, mul_ii, mod_ii, hp, hm, h3, h4, mix]
def cellAt (ns : List Int) (k : Nat) : Int := ns.getD k 0
theorem run2 (n : Nat) (a b : Dt) : runP tab gls (n + 1) c__law_cell [a, b] = (exSs (Gm n) b__law_cell [some (.d a), some (.d b)] []).bind endD := rfl
theorem run_cell (n : Nat) (ns : List Int) (k : Nat) : runP tab gls (n + 1) c__law_cell [.scr ns, .int k] = .ok (.int (cellAt ns k)) := by
  rw [run2]
  by_cases h : k < ns.length
  · simp [b__law_cell, h, ixD, ixL, ixP, cellAt]
  · simp [b__law_cell, h, cellAt]
def okC (c : Nat) : Bool := decide (c ∈ s_abcdefgh_50bd) || decide (c ∈ s_01234567_50ba)
def isNm : List Nat → Bool
  | [] => false
  | c :: r => decide (r.length < 8) && decide (c ∈ s_abcdefgh_50bd) && (c :: r).all okC
def isNameD : Dt → Bool
  | .str s => isNm s
  | _ => false
def isPathD : Dt → Bool
  | .tup xs => decide (1 ≤ xs.length) && decide (xs.length ≤ 4) && xs.all isNameD
  | _ => false
theorem run0 (n : Nat) (a : Dt) : runP tab gls (n + 1) c_is_name [a] = (exSs (Gm n) b_is_name [some (.d a), none] []).bind endD := rfl
theorem run_is_name (n : Nat) (d : Dt) : runP tab gls (n + 1) c_is_name [d] = .ok (.bl (isNameD d)) := by
  rw [run0]
  cases d with
  | str s =>
    cases s with
    | nil => simp [b_is_name, isiD, isNameD, isNm]
    | cons c r =>
      have hlc : ∀ (ifs : Exs) (elt : Ex), ifs = .nil → elt = (.or (.cons (.cmp .inn (.v 1) (.g g_LETTERS)) (.cons (.cmp .inn (.v 1) (.str s_01234567_50ba)) .nil))) → (lcL [] (lcTurn (evIfs (Gm n) ifs) (evE (Gm n) elt) (.one 1) [some (.d (.str (c :: r))), none]) ((c :: r).map fun c => .str [c]) []) = .ok ((c :: r).map (fun c => .bl (okC c)), []) := by
        intro ifs elt h1 h2
        subst h1 h2
        refine lcL_map' _ _ _ _ fun x _ => lcTurn_one (by simp) ?_
        simp [gls, okC]
        by_cases hx : x ∈ s_abcdefgh_50bd <;> simp [hx]
      have h0 : (1 : Int) ≤ (r.length : Int) + 1 := by omega
      by_cases h1 : r.length < 8
      · have hl : ((c :: r).map (fun c => Dt.bl (okC c))).length ≤ lim := by simp [lim16]; omega
        have h3 : ((r.length : Int) + 1 ≤ 8) := by omega
        by_cases h2 : c ∈ s_abcdefgh_50bd
        · simp only [b_is_name, exSs_cons, exS_ife, evT_eq, evE_or, evOr2, evOr1, evE_not, evE_isi, evE_v, evE_cmp2, evE_p1, evE_int, evE_cmp, evE_ix, evE_g, exS_ret, evE_lc, evI_seq]
          simp [isiD, h0, h3, ixD, ixL, ixP, gls, h2, -List.map_cons]
          rw [hlc _ _ rfl rfl]
          simp only [Rs.bind_ok]
          rw [lcEnd_ok hl]
          simp [-List.map_cons]
          rw [all_map]
          simp [isNameD, isNm, h1, h2]
        · simp [b_is_name, isiD, h0, h3, ixD, ixL, ixP, gls, h2, isNameD, isNm]
      · have h3 : ¬ ((r.length : Int) + 1 ≤ 8) := by omega
        simp [b_is_name, isiD, h0, h3, isNameD, isNm, h1]
  | _ => simp [b_is_name, isiD, isNameD]
theorem run1 (n : Nat) (a : Dt) : runP tab gls (n + 1) c_is_path [a] = (exSs (Gm n) b_is_path [some (.d a), none] []).bind endD := rfl
theorem run_is_path (n : Nat) (d : Dt) : runP tab gls (n + 2) c_is_path [d] = .ok (.bl (isPathD d)) := by
  rw [run1]
  cases d with
  | tup xs =>
    by_cases h1 : 1 ≤ xs.length
    · by_cases h2 : xs.length ≤ 4
      · have e1 : (1 : Int) ≤ (xs.length : Int) := by omega
        have e2 : (xs.length : Int) ≤ 4 := by omega
        have hlc : ∀ ifs elt, ifs = Exs.nil → elt = (.call c_is_name (.cons (.v 1) .nil)) → lcL [] (lcTurn (evIfs (Gm (n + 1)) ifs) (evE (Gm (n + 1)) elt) (.one 1) [some (.d (.tup xs)), none]) xs [] = .ok (xs.map (fun c => .bl (isNameD c)), []) := by
          intro ifs elt h1 h2
          subst h1 h2
          refine lcL_map _ _ (fun x => lcTurn_one (by simp) ?_) xs
          simp [run_is_name]
        have hl : (xs.map (fun c => Dt.bl (isNameD c))).length ≤ lim := by simp [lim16]; omega
        simp [b_is_path, isiD, e1, e2]
        rw [hlc _ _ rfl rfl]
        simp only [Rs.bind_ok]
        rw [lcEnd_ok hl]
        simp [all_map, isPathD, h1, h2]
      · have e1 : (1 : Int) ≤ (xs.length : Int) := by omega
        have e2 : ¬ (xs.length : Int) ≤ 4 := by omega
        simp [b_is_path, isiD, e1, e2, isPathD, h2]
    · have e1 : ¬ (1 : Int) ≤ (xs.length : Int) := by omega
      simp [b_is_path, isiD, e1, isPathD, h1]
  | _ => simp [b_is_path, isiD, isPathD]
theorem mem2 (c : Nat) : c ∈ s_abcdefgh_ddbe ↔ c ∈ s_abcdefgh_50bd ∨ c ∈ s_01234567_50ba := by
  rw [show s_abcdefgh_ddbe = s_abcdefgh_50bd ++ s_01234567_50ba from rfl, List.mem_append]
theorem apart (c : Nat) (h : c ∈ s_01234567_50ba) : ¬ c ∈ s_abcdefgh_50bd := by
  have h1 : ∀ c ∈ s_01234567_50ba, ¬ c ∈ s_abcdefgh_50bd := by decide
  exact h1 c h
theorem run4 (n : Nat) (a : Dt) : runP tab gls (n + 1) c__law_name [a] = (exSs (Gm n) b__law_name [some (.d a), none, none, none] []).bind endD := rfl
theorem run_name (n : Nat) (c : Int) : ∃ s, runP tab gls (n + 2) c__law_name [.int c] = .ok (.str s) ∧ isNm s = true := by
  by_cases h0 : c % 3 = 0
  · have ⟨m1, m2⟩ := @mix_range c 9973 4 (by decide)
    obtain ⟨x, hx, ex⟩ := @ix_t [.str [97], .str [98], .str [97, 45, 49], .str [97, 98]] (mix c 9973 4) m1 (by simpa using m2)
    have : ∃ s, x = .str s ∧ isNm s = true := by
      simp at hx
      rcases hx with h | h | h | h <;> exact ⟨_, h, by decide⟩
    obtain ⟨s, rfl, hs⟩ := this
    refine ⟨s, ?_, hs⟩
    rw [run4]
    simp [b__law_name, mod_ii, h0, run_mix, ex]
  · have ⟨m1, m2⟩ := @mix_range c 9967 26 (by decide)
    obtain ⟨x, hx, ex⟩ := @ix_s s_abcdefgh_ddbe (mix c 9967 26) m1 (by simp [s_abcdefgh_ddbe]; omega)
    have hx0 : x ∈ s_abcdefgh_50bd := by
      have : ixL s_abcdefgh_ddbe (mix c 9967 26) = ixL s_abcdefgh_50bd (mix c 9967 26) := by
        simp only [ixL]
        rw [ixP_in m1 (by simp [s_abcdefgh_ddbe]; omega), ixP_in m1 (by simp [s_abcdefgh_50bd]; omega)]
        simp only [Option.bind_some]
        rw [show s_abcdefgh_ddbe = s_abcdefgh_50bd ++ s_01234567_50ba from rfl, List.getElem?_append_left (by simp [s_abcdefgh_50bd]; omega)]
      obtain ⟨y, hy, ey⟩ := @ixL_in _ s_abcdefgh_50bd (mix c 9967 26) m1 (by simp [s_abcdefgh_50bd]; omega)
      simp only [ixD, this, ey, Option.map_some, Option.some.injEq, Dt.str.injEq, List.cons.injEq, and_true] at ex
      exact ex ▸ hy
    have ⟨n1, n2⟩ := @mix_range c 9949 8 (by decide)
    obtain ⟨ρ', hf, w, hw1, hw2, hw3, hw4⟩ := @exFor_inv [] (exSs (Gm (n + 1)) (.cons (.set 2 (.bin .add (.v 2) (.ix (.v 1) (.call c__law_mix (.cons (.bin .add (.v 0) (.bin .mul (.int 7) (.v 3))) (.cons (.int 9941) (.cons (.int 37) .nil)))))))
    .nil)) (.one 3) (fun k ρ => ∃ s z, ρ = [some (.d (.int c)), some (.d (.str s_abcdefgh_ddbe)), some (.d (.str (x :: s))), z] ∧ s.length = k ∧ s.all okC = true) (rangeL 0 (mix c 9949 8).toNat) 0 [some (.d (.int c)), some (.d (.str s_abcdefgh_ddbe)), some (.d (.str [x])), none] ⟨[], none, rfl, rfl, rfl⟩ (by
        rintro j y ρ hj ⟨s, z, rfl, h1, h2⟩
        obtain ⟨rfl, hj2⟩ := rangeL_at _ _ _ _ hj
        have ⟨p1, p2⟩ := @mix_range (c + 7 * (j : Int)) 9941 37 (by decide)
        obtain ⟨u, hu, eu⟩ := @ix_s s_abcdefgh_ddbe (mix (c + 7 * (j : Int)) 9941 37) p1 (by simp [s_abcdefgh_ddbe]; omega)
        refine ⟨_, _, rfl, ?_, s ++ [u], some (.d (.int ((0 : Int) + j))), rfl, by simp; omega, by simp [h2]; simpa [okC, mem2] using hu⟩
        have h7 : smallI 7 := by decide
        have hl : (x :: s).length + [u].length ≤ lim := by simp [lim16]; omega
        simp [run_mix, mul_ii, h7, eu]
        rw [add_ss hl]
        simp)
    refine ⟨x :: w, ?_, ?_⟩
    · have hr : itRng [] 0 (mix c 9949 8) = some ((rangeL 0 (mix c 9949 8).toNat, []), []) := by
        rw [itRng_ok (by omega)]; simp
      rw [run4]
      simp [b__law_name, mod_ii, h0, run_mix, ex, hr]
      rw [hf, hw2]
      simp
    · have : w.length < 8 := by rw [hw3, rangeL_len]; omega
      simp only [isNm, hx0, List.all_cons, hw4, okC]
      simp [this]
/-! ### numbers and days -/
def isNumD (d : Dt) (lo hi : Int) : Bool := match d with
  | .int i => decide (lo ≤ i) && decide (i ≤ hi)
  | _ => false
def daysL : List Int := [31, 28, 31, 30, 31, 30, 31, 31, 30, 31, 30, 31]
def leap (y : Int) : Bool := decide (y % 4 = 0) && (!decide (y % 100 = 0) || decide (y % 400 = 0))
def daysIn (y m : Int) : Int := if m = 2 ∧ leap y = true then 29 else daysL.getD (m - 1).toNat 0
def isDayD : Dt → Bool
  | .tup [.int y, .int m, d] => isNumD (.int y) 1 9999 && isNumD (.int m) 1 12 && isNumD d 1 (daysIn y m)
  | _ => false
theorem isDay_no {y m d : Dt} (h : isNumD y 1 9999 = false ∨ isNumD m 1 12 = false) : isDayD (.tup [y, m, d]) = false := by
  unfold isDayD
  split
  · rename_i e
    cases e
    rcases h with h | h <;> simp [h]
  · rfl
/-! ### the law's days -/
theorem daysIn_range (y m : Int) (h1 : 1 ≤ m) (h2 : m ≤ 12) : 28 ≤ daysIn y m ∧ daysIn y m ≤ 31 := by
  obtain ⟨k, rfl⟩ : ∃ k : Nat, m = (k : Int) + 1 := ⟨(m - 1).toNat, by omega⟩
  have hk : k < 12 := by omega
  unfold daysIn
  split
  · omega
  · rw [show ((k : Int) + 1 - 1).toNat = k by omega]
    match k, hk with
    | 0, _ | 1, _ | 2, _ | 3, _ | 4, _ | 5, _ | 6, _ | 7, _ | 8, _ | 9, _ | 10, _ | 11, _ => simp [daysL]
theorem run_law_days' (n : Nat) (a b : Dt) : runP tab gls (n + 1) c__law_days [a, b] = (exSs (Gm n) b__law_days [some (.d a), some (.d b)] []).bind endD := rfl
theorem run_law_days (n : Nat) (y m : Int) (h1 : 1 ≤ m) (h2 : m ≤ 12) : runP tab gls (n + 1) c__law_days [.int y, .int m] = .ok (.int (daysIn y m)) := by
  rw [run_law_days']
  by_cases h0 : m = 2
  · subst h0
    by_cases h4 : y % 4 = 0
    · by_cases h100 : y % 100 = 0
      · by_cases h400 : y % 400 = 0
        · simp [b__law_days, mod_ii, h4, h100, h400, daysIn, leap]
        · simp [b__law_days, mod_ii, h4, h100, h400, daysIn, leap]; rfl
      · have h5 : 0 < y % 100 := by omega
        simp [b__law_days, mod_ii, h4, h100, h5, daysIn, leap]
    · simp [b__law_days, mod_ii, h4, daysIn, leap]; rfl
  · obtain ⟨k, rfl⟩ : ∃ k : Nat, m = (k : Int) + 1 := ⟨(m - 1).toNat, by omega⟩
    have hk : k < 12 := by omega
    simp only [daysIn, h0, false_and, if_false, show ((k : Int) + 1 - 1).toNat = k by omega]
    match k, hk, h0 with
    | 1, _, h0 => exact absurd rfl h0
    | 0, _, _ | 2, _, _ | 3, _, _ | 4, _, _ | 5, _, _ | 6, _, _ | 7, _, _ | 8, _, _ | 9, _, _ | 10, _, _ | 11, _, _ => simp [b__law_days, mkTup, lim16, in_it, daysL]
theorem run_law_day' (n : Nat) (a : Dt) : runP tab gls (n + 1) c__law_day [a] = (exSs (Gm n) b__law_day [some (.d a), none, none] []).bind endD := rfl
theorem run_law_day (n : Nat) (c : Int) : ∃ y m d : Int, runP tab gls (n + 2) c__law_day [.int c] = .ok (.tup [.int y, .int m, .int d]) ∧ 1 ≤ y ∧ y ≤ 9999 ∧ 1 ≤ m ∧ m ≤ 12 ∧ 1 ≤ d ∧ d ≤ daysIn y m := by
  have ⟨p1, p2⟩ := @mix_range c 9973 9999 (by decide)
  have ⟨q1, q2⟩ := @mix_range c 9967 8 (by decide)
  have ⟨m1, m2⟩ := @mix_range c 9949 12 (by decide)
  have hy : ∃ y : Int, 1 ≤ y ∧ y ≤ 9999 ∧ ∀ r x2, (exSs (Gm (n + 1)) (.cons (.set 1 (.bin .add (.int 1) (.bin .mod (.call c__law_mix (.cons (.v 0) (.cons (.int 9973) (.cons (.int 9999) .nil)))) (.int 9999))))
    (.cons (.ife (.cmp .eq (.bin .mod (.v 0) (.int 3)) (.int 0)) (.cons (.set 1 (.ix (.tup (.cons (.int 1) (.cons (.int 4) (.cons (.int 100) (.cons (.int 400) (.cons (.int 1900) (.cons (.int 2000) (.cons (.int 2024) (.cons (.int 9999) .nil))))))))) (.call c__law_mix (.cons (.v 0) (.cons (.int 9967) (.cons (.int 8) .nil))))))
    .nil) .nil) r)) [some (.d (.int c)), none, x2] []) = exSs (Gm (n + 1)) r [some (.d (.int c)), some (.d (.int y)), x2] [] := by
    by_cases h3 : c % 3 = 0
    · obtain ⟨x, hx, ex⟩ := @ix_t [.int 1, .int 4, .int 100, .int 400, .int 1900, .int 2000, .int 2024, .int 9999] (mix c 9967 8) q1 (by simpa using q2)
      have : ∃ y : Int, x = .int y ∧ 1 ≤ y ∧ y ≤ 9999 := by
        simp at hx
        rcases hx with h | h | h | h | h | h | h | h <;> exact ⟨_, h, by decide, by decide⟩
      obtain ⟨y, rfl, y1, y2⟩ := this
      refine ⟨y, y1, y2, fun r x2 => ?_⟩
      simp [run_mix, mod_ii, h3, mkTup, lim16, ex]
    · refine ⟨1 + mix c 9973 9999 % 9999, by omega, by omega, fun r x2 => ?_⟩
      simp [run_mix, mod_ii, h3]
  obtain ⟨y, y1, y2, hy⟩ := hy
  have ⟨d1, d2⟩ := daysIn_range y (1 + mix c 9949 12) (by omega) (by omega)
  have ⟨e1, e2⟩ := @mix_range c 9941 (daysIn y (1 + mix c 9949 12)) (by omega)
  have hd := run_law_days n y (1 + mix c 9949 12) (by omega) (by omega)
  have hm := run_mix n c 9941 (daysIn y (1 + mix c 9949 12)) (by decide) (by decide) (by omega)
  by_cases h2 : c % 2 = 0
  · refine ⟨y, 1 + mix c 9949 12, daysIn y (1 + mix c 9949 12), ?_, y1, y2, by omega, by omega, by omega, by omega⟩
    rw [run_law_day', b__law_day, hy]
    simp [run_mix, mod_ii, h2, hd]
  · refine ⟨y, 1 + mix c 9949 12, 1 + mix c 9941 (daysIn y (1 + mix c 9949 12)), ?_, y1, y2, by omega, by omega, by omega, by omega⟩
    rw [run_law_day', b__law_day, hy]
    simp [run_mix, mod_ii, h2, hd, hm]
/-! ### values -/
def isBlD : Dt → Bool
  | .bl _ => true
  | _ => false
def isTextD : Dt → Bool
  | .str s => decide (s.length ≤ 60)
  | _ => false
/-- a plain value -/
def plainV (s : List Nat) (c : Dt) : Bool :=
  if s = s_number_1f54 then isNumD c (-999999999) 999999999
  else if s = s_truth_2626 then isBlD c
  else if s = s_text_a7c7 then isTextD c
  else if s = [100, 97, 121] then isDayD c else false
def isValD : Nat → Dt → Bool
  | 0, .tup [.str s, c] => plainV s c
  | k + 1, .tup [.str s, c] => if s = s_list_f818 then (match c with
      | .tup xs => decide (xs.length ≤ 6) && xs.all (isValD k)
      | _ => false) else plainV s c
  | _, _ => false
theorem vsd_no (k : Nat) (a c : Dt) (h : ∀ s, a ≠ .str s) : isValD k (.tup [a, c]) = false := by
  cases k <;> cases a <;> first | rfl | exact absurd rfl (h _)
theorem isVal_plain {k : Nat} {s : List Nat} {c : Dt} (h : s ≠ s_list_f818) : isValD k (.tup [.str s, c]) = plainV s c := by
  cases k with
  | zero => rfl
  | succ k => simp [isValD, h]
theorem isVal_long (k : Nat) (a b c : Dt) (r : List Dt) : isValD k (.tup (a :: b :: c :: r)) = false := by cases k <;> simp [isValD]
theorem isVal_nt (k : Nat) (a : Dt) (h : ∀ xs, a ≠ .tup xs) : isValD k a = false := by
  cases k <;> cases a <;> first | rfl | exact absurd rfl (h _)
theorem isVal_number (k : Nat) {i : Int} (h1 : -999999999 ≤ i) (h2 : i ≤ 999999999) : isValD k (.tup [.str s_number_1f54, .int i]) = true := by
  rw [isVal_plain (by decide)]
  simp [plainV, isNumD, h1, h2]
theorem isVal_truth (k : Nat) (b : Bool) : isValD k (.tup [.str s_truth_2626, .bl b]) = true := by
  rw [isVal_plain (by decide)]
  simp [plainV, isBlD, show ¬ s_truth_2626 = s_number_1f54 by decide]
theorem isVal_text (k : Nat) {s : List Nat} (h : s.length ≤ 60) : isValD k (.tup [.str s_text_a7c7, .str s]) = true := by
  rw [isVal_plain (by decide)]
  simp [plainV, isTextD, show ¬ s_text_a7c7 = s_number_1f54 by decide, show ¬ s_text_a7c7 = s_truth_2626 by decide, h]
theorem isVal_day (k : Nat) {c : Dt} (h : isDayD c = true) : isValD k (.tup [.str [100, 97, 121], c]) = true := by
  rw [isVal_plain (by decide)]
  simp [plainV, show ¬ [100, 97, 121] = s_number_1f54 by decide, show ¬ [100, 97, 121] = s_truth_2626 by decide, show ¬ [100, 97, 121] = s_text_a7c7 by decide, h]
theorem isVal_list {k : Nat} {vs : List Dt} (h1 : vs.length ≤ 6) (h2 : ∀ v ∈ vs, isValD k v = true) : isValD (k + 1) (.tup [.str s_list_f818, .tup vs]) = true := by
  simp [isValD, h1]
  exact h2
/-! ### the law's texts -/
def txC (c : Nat) : Prop := 32 ≤ c ∧ c ≤ 126 ∧ c ≠ 37
def txB (c : Nat) : Bool := decide (32 ≤ c) && (decide (c ≤ 126) && decide (c ≠ 37))
theorem txAll {S : List Nat} (h : S.all txB = true) : ∀ x ∈ S, txC x := by
  intro x hx
  have := List.all_eq_true.mp h x hx
  simpa [txB, txC] using this
theorem run_law_text' (n : Nat) (a : Dt) : runP tab gls (n + 1) c__law_text [a] = (exSs (Gm n) b__law_text [some (.d a), none, none, none] []).bind endD := rfl
theorem law_text_signs (n : Nat) (c : Int) : ∃ S : List Nat, (∀ x ∈ S, txC x) ∧ 0 < S.length ∧ ∀ r x2 x3, exSs (Gm (n + 1)) (.cons (.set 1 (.str s_01234567_b361))
  (.cons (.ife (.cmp .eq (.bin .mod (.v 0) (.int 4)) (.int 0)) (.cons (.set 1 (.str s_a_fd6d)) .nil) .nil) r)) [some (.d (.int c)), none, x2, x3] [] = exSs (Gm (n + 1)) r [some (.d (.int c)), some (.d (.str S)), x2, x3] [] := by
  by_cases h4 : c % 4 = 0
  · exact ⟨s_a_fd6d, txAll (by decide +kernel), by decide +kernel, fun r x2 x3 => by simp [mod_ii, h4]⟩
  · exact ⟨s_01234567_b361, txAll (by decide +kernel), by decide +kernel, fun r x2 x3 => by simp [mod_ii, h4]⟩
theorem law_text_many (n : Nat) (c : Int) (S : List Nat) : ∃ m : Nat, m ≤ 60 ∧ ∀ r x3, exSs (Gm (n + 1)) (.cons (.set 2 (.call c__law_mix (.cons (.v 0) (.cons (.int 9931) (.cons (.int 7) .nil)))))
  (.cons (.ife (.cmp .eq (.call c__law_mix (.cons (.v 0) (.cons (.int 9929) (.cons (.int 9) .nil)))) (.int 0)) (.cons (.set 2 (.int 60)) .nil) .nil) r)) [some (.d (.int c)), some (.d (.str S)), none, x3] [] = exSs (Gm (n + 1)) r [some (.d (.int c)), some (.d (.str S)), some (.d (.int m)), x3] [] := by
  have ⟨q1, q2⟩ := @mix_range c 9931 7 (by decide)
  by_cases h9 : mix c 9929 9 = 0
  · exact ⟨60, by decide, fun r x3 => by simp [run_mix, h9]⟩
  · refine ⟨(mix c 9931 7).toNat, by omega, fun r x3 => ?_⟩
    rw [show (((mix c 9931 7).toNat : Nat) : Int) = mix c 9931 7 by omega]
    simp [run_mix, h9]
theorem run_law_text (n : Nat) (c : Int) : ∃ s, runP tab gls (n + 2) c__law_text [.int c] = .ok (.str s) ∧ s.length ≤ 60 ∧ ∀ x ∈ s, txC x := by
  have s7 : smallI 7 := by decide
  obtain ⟨S, hS1, hS2, hS3⟩ := law_text_signs n c
  obtain ⟨m, hm, hM⟩ := law_text_many n c S
  have e0 : (0 : Int) < S.length := by omega
  obtain ⟨ys, h1, h2, h3⟩ := @lcL_ex [] (lcTurn (evIfs (Gm (n + 1)) .nil) (evE (Gm (n + 1)) (.ix (.v 1) (.call c__law_mix (.cons (.bin .add (.v 0) (.bin .mul (.int 7) (.v 3))) (.cons (.int 9923) (.cons (.p1 .len (.v 1)) .nil)))))) (.one 3) [some (.d (.int c)), some (.d (.str S)), some (.d (.int m)), none]) (fun y => ∃ a, y = .str [a] ∧ txC a) (rangeL 0 m) (by
    intro x hx
    obtain ⟨j, rfl, hj⟩ := range0_mem hx
    have ⟨p1, p2⟩ := @mix_range (c + 7 * (j : Int)) 9923 S.length e0
    obtain ⟨u, hu, eu⟩ := @ix_s S (mix (c + 7 * (j : Int)) 9923 S.length) p1 p2
    have r := run_mix n (c + 7 * (j : Int)) 9923 S.length (by decide) (by decide) e0
    exact ⟨.str [u], lcTurn_one (by simp) (by simp [mul_ii, s7, r, eu]), u, rfl, hS1 u hu⟩)
  obtain ⟨cs, rfl, h4⟩ := map_of_ex ys h3
  rw [rangeL_len, List.length_map] at h2
  refine ⟨cs, ?_, by omega, h4⟩
  rw [run_law_text', b__law_text, hS3, hM, exSs_cons, exS_ret, evE_m1_ok (evE_str _) (evE_lc_ok (evI_rng_ok (m := m) (by simp) (by omega)) h1 (by simp; omega)) (join_one (by omega))]
  simp
/-! ### the law's values -/
theorem run_law_value' (n : Nat) (a b : Dt) : runP tab gls (n + 1) c__law_value [a, b] = (exSs (Gm n) b__law_value [some (.d a), some (.d b), none, none, none] []).bind endD := rfl
theorem lv_num3z (n : Nat) (c d : Int) (hd : ¬ 0 < d) (h : mix c 9907 4 = 0) (h3 : c % 3 = 0) : runP tab gls (n + 2) c__law_value [.int c, .int d] = .ok (.tup [.str s_number_1f54, .int (c % 1999999999 - 999999999)]) := by
  have s2 : smallI 2 := by decide
  rw [run_law_value']
  simp [b__law_value, run_mix, mul_ii, s2, hd, h, mod_ii, h3]
theorem lv_numz (n : Nat) (c d : Int) (hd : ¬ 0 < d) (h : mix c 9907 4 = 0) (h3 : ¬ c % 3 = 0) : runP tab gls (n + 2) c__law_value [.int c, .int d] = .ok (.tup [.str s_number_1f54, .int (mix c 9901 41 - 20)]) := by
  have s2 : smallI 2 := by decide
  rw [run_law_value']
  simp [b__law_value, run_mix, mul_ii, s2, hd, h, mod_ii, h3]
theorem lv_truthz (n : Nat) (c d : Int) (hd : ¬ 0 < d) (h : mix c 9907 4 = 1) : runP tab gls (n + 2) c__law_value [.int c, .int d] = .ok (.tup [.str s_truth_2626, .bl (decide (c % 2 = 0))]) := by
  have s2 : smallI 2 := by decide
  rw [run_law_value']
  simp [b__law_value, run_mix, mul_ii, s2, hd, h, mod_ii]
theorem lv_textz (n : Nat) (c d : Int) (hd : ¬ 0 < d) (h : mix c 9907 4 = 2) : ∃ t, runP tab gls (n + 3) c__law_value [.int c, .int d] = .ok (.tup [.str s_text_a7c7, .str t]) ∧ t.length ≤ 60 ∧ ∀ x ∈ t, txC x := by
  have s2 : smallI 2 := by decide
  obtain ⟨t, hs1, hs2, hs3⟩ := run_law_text n c
  refine ⟨t, ?_, hs2, hs3⟩
  rw [run_law_value']
  simp [b__law_value, run_mix, mul_ii, s2, hd, h, hs1]
theorem lv_dayz (n : Nat) (c d : Int) (hd : ¬ 0 < d) (h : mix c 9907 4 = 3) : ∃ y m e : Int, runP tab gls (n + 3) c__law_value [.int c, .int d] = .ok (.tup [.str [100, 97, 121], .tup [.int y, .int m, .int e]]) ∧ isDayD (.tup [.int y, .int m, .int e]) = true := by
  have s2 : smallI 2 := by decide
  obtain ⟨y, m, e, hr, y1, y2, m1, m2, d1, d2⟩ := run_law_day n c
  refine ⟨y, m, e, ?_, by simp [isDayD, isNumD]; omega⟩
  rw [run_law_value']
  simp [b__law_value, run_mix, mul_ii, s2, hd, h, hr]
theorem lv_num3s (n : Nat) (c d : Int) (hd : 0 < d) (h : mix c 9907 6 = 0) (h3 : c % 3 = 0) : runP tab gls (n + 2) c__law_value [.int c, .int d] = .ok (.tup [.str s_number_1f54, .int (c % 1999999999 - 999999999)]) := by
  have s2 : smallI 2 := by decide
  rw [run_law_value']
  simp [b__law_value, run_mix, mul_ii, s2, hd, h, mod_ii, h3]
theorem lv_nums (n : Nat) (c d : Int) (hd : 0 < d) (h : mix c 9907 6 = 0) (h3 : ¬ c % 3 = 0) : runP tab gls (n + 2) c__law_value [.int c, .int d] = .ok (.tup [.str s_number_1f54, .int (mix c 9901 41 - 20)]) := by
  have s2 : smallI 2 := by decide
  rw [run_law_value']
  simp [b__law_value, run_mix, mul_ii, s2, hd, h, mod_ii, h3]
theorem lv_truths (n : Nat) (c d : Int) (hd : 0 < d) (h : mix c 9907 6 = 1) : runP tab gls (n + 2) c__law_value [.int c, .int d] = .ok (.tup [.str s_truth_2626, .bl (decide (c % 2 = 0))]) := by
  have s2 : smallI 2 := by decide
  rw [run_law_value']
  simp [b__law_value, run_mix, mul_ii, s2, hd, h, mod_ii]
theorem lv_texts (n : Nat) (c d : Int) (hd : 0 < d) (h : mix c 9907 6 = 2) : ∃ t, runP tab gls (n + 3) c__law_value [.int c, .int d] = .ok (.tup [.str s_text_a7c7, .str t]) ∧ t.length ≤ 60 ∧ ∀ x ∈ t, txC x := by
  have s2 : smallI 2 := by decide
  obtain ⟨t, hs1, hs2, hs3⟩ := run_law_text n c
  refine ⟨t, ?_, hs2, hs3⟩
  rw [run_law_value']
  simp [b__law_value, run_mix, mul_ii, s2, hd, h, hs1]
theorem lv_days (n : Nat) (c d : Int) (hd : 0 < d) (h : mix c 9907 6 = 3) : ∃ y m e : Int, runP tab gls (n + 3) c__law_value [.int c, .int d] = .ok (.tup [.str [100, 97, 121], .tup [.int y, .int m, .int e]]) ∧ isDayD (.tup [.int y, .int m, .int e]) = true := by
  have s2 : smallI 2 := by decide
  obtain ⟨y, m, e, hr, y1, y2, m1, m2, d1, d2⟩ := run_law_day n c
  refine ⟨y, m, e, ?_, by simp [isDayD, isNumD]; omega⟩
  rw [run_law_value']
  simp [b__law_value, run_mix, mul_ii, s2, hd, h, hr]
def lvRest : Sms :=
    (.cons (.set 3 (.call c__law_mix (.cons (.v 0) (.cons (.int 9887) (.cons (.int 4) .nil)))))
    (.cons (.ife (.cmp .eq (.call c__law_mix (.cons (.v 0) (.cons (.int 9883) (.cons (.int 9) .nil)))) (.int 0)) (.cons (.set 3 (.int 6))
    .nil) .nil)
    (.cons (.ret (.tup (.cons (.str s_list_f818) (.cons (.p1 .tuple (.lc (.call c__law_value (.cons (.bin .add (.bin .add (.v 0) (.bin .mul (.int 17) (.v 4))) (.int 5)) (.cons (.bin .sub (.v 1) (.int 1)) .nil))) (.one 4) (.rng1 (.v 3)) .nil)) .nil))))
    .nil)))
def lvPre (r : Sms) : Sms :=
    (.cons (.set 2 (.call c__law_mix (.cons (.v 0) (.cons (.int 9907) (.cons (.bin .add (.int 4) (.bin .mul (.int 2) (.p1 .int (.cmp .gt (.v 1) (.int 0))))) .nil)))))
    (.cons (.ife (.cmp .eq (.v 2) (.int 0)) (.cons (.ife (.cmp .eq (.bin .mod (.v 0) (.int 3)) (.int 0)) (.cons (.ret (.tup (.cons (.str s_number_1f54) (.cons (.bin .sub (.bin .mod (.v 0) (.int 1999999999)) (.int 999999999)) .nil))))
    .nil) .nil)
    (.cons (.ret (.tup (.cons (.str s_number_1f54) (.cons (.bin .sub (.call c__law_mix (.cons (.v 0) (.cons (.int 9901) (.cons (.int 41) .nil)))) (.int 20)) .nil))))
    .nil)) .nil)
    (.cons (.ife (.cmp .eq (.v 2) (.int 1)) (.cons (.ret (.tup (.cons (.str s_truth_2626) (.cons (.cmp .eq (.bin .mod (.v 0) (.int 2)) (.int 0)) .nil))))
    .nil) .nil)
    (.cons (.ife (.cmp .eq (.v 2) (.int 2)) (.cons (.ret (.tup (.cons (.str s_text_a7c7) (.cons (.call c__law_text (.cons (.v 0) .nil)) .nil))))
    .nil) .nil)
    (.cons (.ife (.cmp .eq (.v 2) (.int 3)) (.cons (.ret (.tup (.cons (.str [100, 97, 121]) (.cons (.call c__law_day (.cons (.v 0) .nil)) .nil))))
    .nil) .nil) r)))))
theorem lv_list (n k : Nat) (c : Int) (ih : ∀ c : Int, ∃ v, runP tab gls (n + 3) c__law_value [.int c, .int k] = .ok v ∧ isValD k v = true) (h0 : ¬ mix c 9907 6 = 0) (h1 : ¬ mix c 9907 6 = 1) (h2 : ¬ mix c 9907 6 = 2) (h3 : ¬ mix c 9907 6 = 3) :
    ∃ v, runP tab gls (n + 4) c__law_value [.int c, .int ((k + 1 : Nat) : Int)] = .ok v ∧ isValD (k + 1) v = true := by
  have s2 : smallI 2 := by decide
  have s17 : smallI 17 := by decide
  have ek : (0 : Int) < (k : Int) + 1 := by omega
  have ⟨q1, q2⟩ := @mix_range c 9887 4 (by decide)
  rw [show ((k + 1 : Nat) : Int) = (k : Int) + 1 from rfl]
  have hm : ∃ m : Nat, m ≤ 6 ∧ ∀ r x2 x4, exSs (Gm (n + 3)) (.cons (.set 3 (.call c__law_mix (.cons (.v 0) (.cons (.int 9887) (.cons (.int 4) .nil)))))
    (.cons (.ife (.cmp .eq (.call c__law_mix (.cons (.v 0) (.cons (.int 9883) (.cons (.int 9) .nil)))) (.int 0)) (.cons (.set 3 (.int 6)) .nil) .nil) r)) [some (.d (.int c)), some (.d (.int ((k : Int) + 1))), x2, none, x4] [] =
      exSs (Gm (n + 3)) r [some (.d (.int c)), some (.d (.int ((k : Int) + 1))), x2, some (.d (.int m)), x4] [] := by
    by_cases h9 : mix c 9883 9 = 0
    · exact ⟨6, by decide, fun r x2 x4 => by simp [run_mix, h9]⟩
    · refine ⟨(mix c 9887 4).toNat, by omega, fun r x2 x4 => ?_⟩
      rw [show (((mix c 9887 4).toNat : Nat) : Int) = mix c 9887 4 by omega]
      simp [run_mix, h9]
  obtain ⟨m, hm1, hm2⟩ := hm
  obtain ⟨ys, y1, y2, y3⟩ := @lcL_ex [] (lcTurn (evIfs (Gm (n + 3)) .nil) (evE (Gm (n + 3)) (.call c__law_value (.cons (.bin .add (.bin .add (.v 0) (.bin .mul (.int 17) (.v 4))) (.int 5)) (.cons (.bin .sub (.v 1) (.int 1)) .nil)))) (.one 4) [some (.d (.int c)), some (.d (.int ((k : Int) + 1))), some (.d (.int (mix c 9907 6))), some (.d (.int m)), none]) (fun v => isValD k v = true) (rangeL 0 m) (by
    intro x hx
    obtain ⟨j, rfl, hj⟩ := range0_mem hx
    obtain ⟨v, v1, v2⟩ := ih (c + 17 * (j : Int) + 5)
    have e : (k : Int) + 1 - 1 = k := by omega
    exact ⟨v, lcTurn_one (by simp) (by simp [mul_ii, s17, e, v1]), v2⟩)
  rw [rangeL_len] at y2
  have hlc : evE (Gm (n + 3)) (Ex.lc (.call c__law_value (.cons (.bin .add (.bin .add (.v 0) (.bin .mul (.int 17) (.v 4))) (.int 5)) (.cons (.bin .sub (.v 1) (.int 1)) .nil))) (.one 4) (.rng1 (.v 3)) .nil) [some (.d (.int c)), some (.d (.int ((k : Int) + 1))), some (.d (.int (mix c 9907 6))), some (.d (.int m)), none] [] = .ok (.d (.lst ys), []) :=
    evE_lc_ok (evI_rng_ok (m := m) (by simp) (by omega)) y1 (by omega)
  refine ⟨.tup [.str s_list_f818, .tup ys], ?_, isVal_list (by omega) y3⟩
  have hb : b__law_value = lvPre lvRest := rfl
  have hp : exSs (Gm (n + 3)) (lvPre lvRest) [some (.d (.int c)), some (.d (.int ((k : Int) + 1))), none, none, none] [] = exSs (Gm (n + 3)) lvRest [some (.d (.int c)), some (.d (.int ((k : Int) + 1))), some (.d (.int (mix c 9907 6))), none, none] [] := by
    generalize lvRest = r
    simp [lvPre, run_mix, mul_ii, s2, ek, h0, h1, h2, h3]
  rw [run_law_value', hb, hp]
  unfold lvRest
  rw [hm2, exSs_cons, exS_ret, evE_tup, evEs_cons, evE_str, Rs.bind_ok, evEs_cons, evE_p1, hlc]
  simp
theorem run_law_value : ∀ (k n : Nat) (c : Int), ∃ v, runP tab gls (n + k + 3) c__law_value [.int c, .int k] = .ok v ∧ isValD k v = true := by
  intro k
  induction k with
  | zero =>
    intro n c
    have ⟨p1, p2⟩ := @mix_range c 9907 4 (by decide)
    have hd : ¬ (0 : Int) < ((0 : Nat) : Int) := by decide
    by_cases h0 : mix c 9907 4 = 0
    · by_cases h3 : c % 3 = 0
      · exact ⟨_, lv_num3z (n + 1) c _ hd h0 h3, isVal_number _ (by omega) (by omega)⟩
      · have ⟨q1, q2⟩ := @mix_range c 9901 41 (by decide)
        exact ⟨_, lv_numz (n + 1) c _ hd h0 h3, isVal_number _ (by omega) (by omega)⟩
    by_cases h1 : mix c 9907 4 = 1
    · exact ⟨_, lv_truthz (n + 1) c _ hd h1, isVal_truth _ _⟩
    by_cases h2 : mix c 9907 4 = 2
    · obtain ⟨s, hs1, hs2, hs3⟩ := lv_textz n c _ hd h2
      exact ⟨_, hs1, isVal_text _ hs2⟩
    · obtain ⟨y, m, d, hr, h⟩ := lv_dayz n c _ hd (by omega)
      exact ⟨_, hr, isVal_day _ h⟩
  | succ k ih =>
    intro n c
    have ⟨p1, p2⟩ := @mix_range c 9907 6 (by decide)
    have s2 : smallI 2 := by decide
    have s17 : smallI 17 := by decide
    have hd : (0 : Int) < ((k + 1 : Nat) : Int) := by omega
    have ek : (0 : Int) < (k : Int) + 1 := by omega
    by_cases h0 : mix c 9907 6 = 0
    · by_cases h3 : c % 3 = 0
      · exact ⟨_, lv_num3s (n + (k + 1) + 1) c _ hd h0 h3, isVal_number _ (by omega) (by omega)⟩
      · have ⟨q1, q2⟩ := @mix_range c 9901 41 (by decide)
        exact ⟨_, lv_nums (n + (k + 1) + 1) c _ hd h0 h3, isVal_number _ (by omega) (by omega)⟩
    by_cases h1 : mix c 9907 6 = 1
    · exact ⟨_, lv_truths (n + (k + 1) + 1) c _ hd h1, isVal_truth _ _⟩
    by_cases h2 : mix c 9907 6 = 2
    · obtain ⟨s, hs1, hs2, hs3⟩ := lv_texts (n + (k + 1)) c _ hd h2
      exact ⟨_, hs1, isVal_text _ hs2⟩
    by_cases h3 : mix c 9907 6 = 3
    · obtain ⟨y, m, d, hr, h⟩ := lv_days (n + (k + 1)) c _ hd h3
      exact ⟨_, hr, isVal_day _ h⟩
    · exact lv_list (n + k) k c (fun c => by have := ih n c; rwa [show n + k + 3 = n + k + 2 + 1 from rfl] at this) h0 h1 h2 h3
/-- what a value looks like -/
theorem isVal_inv {k : Nat} {v : Dt} (h : isValD k v = true) : ∃ s c, v = .tup [.str s, c] ∧ (s = s_number_1f54 → ∃ i, c = .int i) ∧ (s = s_list_f818 → ∃ xs j, k = j + 1 ∧ c = .tup xs ∧ xs.length ≤ 6 ∧ ∀ x ∈ xs, isValD j x = true) := by
  cases v with
  | tup xs =>
    match xs, h with
    | [a, c], h =>
      cases a with
      | str s =>
        refine ⟨s, c, rfl, ?_, ?_⟩
        · rintro rfl
          rw [isVal_plain (by decide)] at h
          cases c <;> simp [plainV, isNumD] at h
          exact ⟨_, rfl⟩
        · rintro rfl
          cases k with
          | zero =>
            simp [isValD, plainV, show ¬ s_list_f818 = s_number_1f54 by decide, show ¬ s_list_f818 = s_truth_2626 by decide, show ¬ s_list_f818 = s_text_a7c7 by decide, show ¬ s_list_f818 = [100, 97, 121] by decide] at h
          | succ j =>
            cases c with
            | tup ys =>
              simp [isValD] at h
              exact ⟨ys, j, rfl, rfl, h.1, h.2⟩
            | _ => simp [isValD] at h
      | _ => cases k <;> simp [isValD] at h
    | [], h => cases k <;> simp [isValD] at h
    | [a], h => cases k <;> simp [isValD] at h
    | a :: b :: c :: r, h => rw [isVal_long] at h; cases h
  | _ => cases k <;> simp [isValD] at h
theorem isVal_mono : ∀ {k : Nat} {v : Dt}, isValD k v = true → isValD (k + 1) v = true := by
  intro k
  induction k with
  | zero =>
    intro v h
    obtain ⟨s, c, rfl, h1, h2⟩ := isVal_inv h
    by_cases hs : s = s_list_f818
    · obtain ⟨xs, j, e, _⟩ := h2 hs
      cases e
    · rwa [isVal_plain hs, ← isVal_plain (k := 0) hs]
  | succ k ih =>
    intro v h
    obtain ⟨s, c, rfl, h1, h2⟩ := isVal_inv h
    by_cases hs : s = s_list_f818
    · obtain ⟨xs, j, e, rfl, h3, h4⟩ := h2 hs
      cases e
      subst hs
      exact isVal_list h3 fun x hx => ih (h4 x hx)
    · rwa [isVal_plain hs, ← isVal_plain (k := k + 1) hs]
/-! ### settings -/
theorem exFor_all {body : Ev → Sr → Rs Sx} {tg : Tg} {st : Sr} {ws : List (Nat × List Dt)} (hw : watchOk ws st = true) (I : Ev → Prop) (t : Dt → Bool) (w : Wv) : ∀ (xs : List Dt) (ρ : Ev), I ρ → (∀ x ∈ xs, ∀ ρ, I ρ → ∃ ρ1 ρ2, setTg tg x ρ = some ρ1 ∧ body ρ1 st = .ok ((if t x then .nx else .rt w, ρ2), st) ∧ I ρ2) →
    ∃ ρ', I ρ' ∧ exFor body tg ws xs ρ st = .ok ((if xs.all t then .nx else .rt w, ρ'), st)
  | [], ρ, h, _ => ⟨ρ, h, rfl⟩
  | x :: xs, ρ, h, hs => by
    obtain ⟨ρ1, ρ2, h1, h2, h3⟩ := hs x List.mem_cons_self ρ h
    cases ht : t x with
    | false =>
      refine ⟨ρ2, h3, ?_⟩
      rw [ht] at h2
      rw [exFor, h1]; simp [h2, ht]
    | true =>
      rw [ht] at h2
      obtain ⟨ρ', h4, h5⟩ := exFor_all hw I t w xs ρ2 h3 fun y hy => hs y (List.mem_cons_of_mem _ hy)
      refine ⟨ρ', h4, ?_⟩
      have e : exFor body tg ws (x :: xs) ρ st = exFor body tg ws xs ρ2 st := exFor_cons h1 h2 hw
      rw [e, h5]
      simp [ht]
theorem exS_for_any {Γ : Gam} {ρ : Ev} {st st1 : Sr} {tg : Tg} {it : Itx} {b : Sms} {xs : List Dt} {ws : List (Nat × List Dt)} {r : Rs Sx} (h1 : evI Γ it ρ st = .ok ((xs, ws), st1)) (h2 : exFor (exSs Γ b) tg ws xs ρ st1 = r) : exS Γ (.forS tg it b) ρ st = r := by
  rw [exS_for, h1, Rs.bind_ok]
  exact h2
theorem call1_ok {n f : Nat} {ρ : Ev} {st st1 : Sr} {e : Ex} {x z : Dt} (h : evE (Gm n) e ρ st = .ok (.d x, st1)) (hr : runP tab gls n f [x] = .ok z) : evE (Gm n) (.call f (.cons e .nil)) ρ st = .ok (.d z, st1) := by
  rw [evE_call, evEs_cons, h]
  simp [hr]
def pth (xs : List (List Nat)) : Dt := .tup (xs.map Dt.str)
def beg (xs ys : List (List Nat)) : Bool := decide (xs.length < ys.length) && decide (ys.take xs.length = xs)
theorem eqDs_str : ∀ xs ys : List (List Nat), eqDs (xs.map Dt.str) (ys.map Dt.str) = decide (xs = ys)
  | [], [] => rfl
  | [], _ :: _ => rfl
  | _ :: _, [] => rfl
  | x :: xs, y :: ys => by
    simp only [List.map_cons, eqDs, eqDs_str xs ys, eqD_ss, List.cons.injEq]
    by_cases h : x = y <;> simp [h]
theorem eqD_pth (xs ys : List (List Nat)) : eqD (pth xs) (pth ys) = decide (xs = ys) := by
  rw [pth, pth, eqD, eqDs_str]
theorem dep_strs : ∀ xs : List (List Nat), depDs (xs.map Dt.str) = 0
  | [] => rfl
  | x :: xs => by simp [depDs, depD, dep_strs xs]
theorem dep_pth (xs : List (List Nat)) : depD (pth xs) = 1 := by simp [pth, depD, dep_strs]
theorem alike_strs : ∀ xs ys : List (List Nat), alikeDs (xs.map Dt.str) (ys.map Dt.str) = true
  | [], _ => by simp [alikeDs]
  | x :: xs, [] => by simp [alikeDs]
  | x :: xs, y :: ys => by simp [alikeDs, alikeD, alike_strs xs ys]
theorem lt_pth (xs ys : List (List Nat)) : copD .lt (pth xs) (pth ys) = some (ltB (pth xs) (pth ys)) := by
  have h : ordD (pth xs) (pth ys) (ltB (pth xs) (pth ys)) = some (ltB (pth xs) (pth ys)) := if_pos ⟨by rw [pth, pth, alikeD]; exact alike_strs xs ys, .inl (by rw [dep_pth]; omega)⟩
  exact h
theorem le_pth (xs ys : List (List Nat)) : copD .le (pth xs) (pth ys) = some (!ltB (pth ys) (pth xs)) := by
  have h : ordD (pth xs) (pth ys) (!ltB (pth ys) (pth xs)) = some (!ltB (pth ys) (pth xs)) := if_pos ⟨by rw [pth, pth, alikeD]; exact alike_strs xs ys, .inl (by rw [dep_pth]; omega)⟩
  exact h
theorem len_pth (xs : List (List Nat)) : p1D .len (pth xs) = some (.int xs.length) := by simp [pth, p1D]
theorem sl_pth (xs : List (List Nat)) (k : Nat) : slD (pth xs) none (some (k : Int)) = some (pth (xs.take k)) := by
  rw [pth, sl_t, cut_hi, pth, List.map_take]
theorem eq_pth (xs ys : List (List Nat)) : copD .eq (pth xs) (pth ys) = some (decide (xs = ys)) := by
  rw [eq_dd (.inl (by rw [dep_pth]; omega)), eqD_pth]
theorem run_lbeg' (n : Nat) (a b : Dt) : runP tab gls (n + 1) c__law_begins [a, b] = (exSs (Gm n) b__law_begins [some (.d a), some (.d b)] []).bind endD := rfl
theorem run_lbeg (n : Nat) (xs ys : List (List Nat)) : runP tab gls (n + 1) c__law_begins [pth xs, pth ys] = .ok (.bl (beg xs ys)) := by
  rw [run_lbeg']
  by_cases h : xs.length < ys.length
  · have h' : (xs.length : Int) < ys.length := by omega
    simp [b__law_begins, len_pth, h', sl_pth, eq_pth, beg, h, eq_comm]
  · have h' : ¬ (xs.length : Int) < ys.length := by omega
    simp [b__law_begins, len_pth, h', beg, h]
/-! ### the order of paths -/
theorem sgn_irrefl (a : Int ⊕ List Nat) : signLt a a = false := by
  cases a with
  | inl i => exact decide_eq_false (Int.lt_irrefl i)
  | inr s => exact decide_eq_false (List.lt_irrefl s)
theorem sgn_trans {a b c : Int ⊕ List Nat} (h : signLt a b = true) (h2 : signLt b c = true) : signLt a c = true := by
  cases a with
  | inl i =>
    cases b with
    | inl j =>
      cases c with
      | inl k => exact decide_eq_true (Int.lt_trans (of_decide_eq_true h) (of_decide_eq_true h2))
      | inr _ => rfl
    | inr t =>
      cases c with
      | inl k => cases h2
      | inr _ => rfl
  | inr s =>
    cases b with
    | inl j => cases h
    | inr t =>
      cases c with
      | inl k => cases h2
      | inr u => exact decide_eq_true (List.lt_trans (of_decide_eq_true h) (of_decide_eq_true h2))
theorem sgn_tri {a b : Int ⊕ List Nat} (h : signLt a b = false) (h2 : signLt b a = false) : a = b := by
  cases a with
  | inl i =>
    cases b with
    | inl j =>
      have := of_decide_eq_false h
      have := of_decide_eq_false h2
      congr 1; omega
    | inr t => cases h
  | inr s =>
    cases b with
    | inl j => cases h2
    | inr t => rw [List.le_antisymm (List.not_lt.mp (of_decide_eq_false h2)) (List.not_lt.mp (of_decide_eq_false h))]
theorem row_irrefl : ∀ a : List (Int ⊕ List Nat), rowLt a a = false
  | [] => rfl
  | x :: r => by unfold rowLt; rw [sgn_irrefl, row_irrefl r]; rfl
theorem row_trans : ∀ {a b c : List (Int ⊕ List Nat)}, rowLt a b = true → rowLt b c = true → rowLt a c = true
  | [], [], _, h, _ => by cases h
  | [], _ :: _, [], _, h2 => by cases h2
  | [], _ :: _, _ :: _, _, _ => rfl
  | _ :: _, [], _, h, _ => by cases h
  | _ :: _, _ :: _, [], _, h2 => by cases h2
  | x :: r, y :: t, z :: u, h, h2 => by
    unfold rowLt at h h2 ⊢
    simp only [Bool.or_eq_true, Bool.and_eq_true, Bool.not_eq_true'] at h h2 ⊢
    rcases h with h | ⟨h, h'⟩
    · rcases h2 with h2 | ⟨h2, h2'⟩
      · exact .inl (sgn_trans h h2)
      · cases q : signLt y z with
        | true => exact .inl (sgn_trans h q)
        | false => rw [← sgn_tri q h2]; exact .inl h
    · rcases h2 with h2 | ⟨h2, h2'⟩
      · cases q : signLt x y with
        | true => exact .inl (sgn_trans q h2)
        | false => rw [sgn_tri q h]; exact .inl h2
      · cases q : signLt x y with
        | true =>
          cases q2 : signLt y z with
          | true => exact .inl (sgn_trans q q2)
          | false => rw [← sgn_tri q2 h2]; exact .inl q
        | false =>
          have e := sgn_tri q h
          subst e
          exact .inr ⟨h2, row_trans h' h2'⟩
theorem row_tri : ∀ {a b : List (Int ⊕ List Nat)}, rowLt a b = false → rowLt b a = false → a = b
  | [], [], _, _ => rfl
  | [], _ :: _, h, _ => by cases h
  | _ :: _, [], _, h => by cases h
  | x :: r, y :: t, h, h2 => by
    unfold rowLt at h h2
    simp only [Bool.or_eq_false_iff, Bool.and_eq_false_iff, Bool.not_eq_false'] at h h2
    have e := sgn_tri h.1 h2.1
    subst e
    rcases h.2 with q | q
    · rw [sgn_irrefl] at q; cases q
    · rcases h2.2 with q2 | q2
      · rw [sgn_irrefl] at q2; cases q2
      · rw [row_tri q q2]
theorem key_pth_inj : ∀ {xs ys : List (List Nat)}, keyDs (xs.map Dt.str) = keyDs (ys.map Dt.str) → xs = ys
  | [], [], _ => rfl
  | [], y :: ys, h => by simp [keyDs] at h
  | x :: xs, [], h => by simp [keyDs] at h
  | x :: xs, y :: ys, h => by
    simp only [List.map_cons, keyDs, keyD, List.cons_append, List.nil_append, List.cons.injEq, Sum.inr.injEq, true_and] at h
    rw [h.1, key_pth_inj h.2]
def ltP (xs ys : List (List Nat)) : Bool := ltB (pth xs) (pth ys)
theorem ltP_irrefl (a : List (List Nat)) : ltP a a = false := row_irrefl _
theorem ltP_trans {a b c : List (List Nat)} (h : ltP a b = true) (h2 : ltP b c = true) : ltP a c = true := row_trans h h2
theorem ltP_tri {a b : List (List Nat)} (h : ltP a b = false) (h2 : ltP b a = false) : a = b := by
  have := row_tri h h2
  simp only [pth, keyD] at this
  exact key_pth_inj this
theorem ltP_asymm {a b : List (List Nat)} (h : ltP a b = true) : ltP b a = false := by
  cases q : ltP b a with
  | false => rfl
  | true => have := ltP_trans h q; rw [ltP_irrefl] at this; cases this
/-- sorted paths, by a key of one's own -/
def sortP {α : Type} (f : α → List (List Nat)) (l : List α) : List α := l.mergeSort fun a b => !ltP (f b) (f a)
theorem sortP_perm {α : Type} (f : α → List (List Nat)) (l : List α) : (sortP f l).Perm l := List.mergeSort_perm ..
theorem sortP_pair {α : Type} (f : α → List (List Nat)) (l : List α) : (sortP f l).Pairwise fun a b => ltP (f b) (f a) = false := by
  have h := List.pairwise_mergeSort (le := fun a b => !ltP (f b) (f a)) (fun a b c h1 h2 => ?_) (fun a b => ?_) l
  · exact h.imp fun h => by simpa using h
  · simp only [Bool.not_eq_true'] at h1 h2 ⊢
    cases q : ltP (f c) (f a) with
    | false => rfl
    | true =>
      cases q2 : ltP (f a) (f b) with
      | true => rw [ltP_trans q q2] at h2; cases h2
      | false => rw [ltP_tri q2 h1] at q; rw [h2] at q; cases q
  · cases q : ltP (f b) (f a) with
    | false => rfl
    | true => simp [ltP_asymm q]
theorem sortD_pth (ps : List (List (List Nat))) : sortD (ps.map pth) = (sortP id ps).map pth := by
  exact (List.map_mergeSort (r := fun a b => !ltP (id b) (id a)) (s := fun a b => !ltB b a) (f := pth) (l := ps) (fun a _ b _ => rfl)).symm
theorem sortP_map {α : Type} (f : α → List (List Nat)) (l : List α) : (sortP f l).map f = sortP id (l.map f) := by
  exact List.map_mergeSort (r := fun a b => !ltP (f b) (f a)) (s := fun a b => !ltP (id b) (id a)) (f := f) (l := l) (fun a _ b _ => rfl)
theorem alike_pth (xs ys : List (List Nat)) : alikeD (pth xs) (pth ys) = true := alike_strs xs ys
theorem sortable_pth {ps : List (List (List Nat))} (h : ∀ p ∈ ps, p ≠ []) : sortableD (ps.map pth) = true := by
  unfold sortableD
  simp only [Bool.and_eq_true, List.all_eq_true, decide_eq_true_eq, Bool.or_eq_true]
  refine ⟨⟨fun x hx y hy => ?_, .inl fun x hx => ?_⟩, ?_⟩
  · obtain ⟨p, _, rfl⟩ := List.mem_map.mp hx
    obtain ⟨q, _, rfl⟩ := List.mem_map.mp hy
    exact alike_pth p q
  · obtain ⟨p, hp, rfl⟩ := List.mem_map.mp hx
    cases p with
    | nil => exact (h _ hp rfl).elim
    | cons a r => rfl
  · have : ∀ ps : List (List (List Nat)), depDs (ps.map pth) ≤ 1 := by
      intro ps
      induction ps with
      | nil => simp [depDs]
      | cons p ps ih => simp only [List.map_cons, depDs, dep_pth]; omega
    exact Nat.le_trans (this ps) (by omega)
theorem key_pth (xs : List (List Nat)) : keyB (pth xs) = true := by
  have : ∀ xs : List (List Nat), keyOks (xs.map Dt.str) = true := by
    intro xs
    induction xs with
    | nil => rfl
    | cons x xs ih => simp only [List.map_cons, keyOks, keyOk, ih, Bool.and_self]
  unfold keyB
  rw [dep_pth]
  simp [pth, isTupD, keyOk, this]
/-! ### dicts by the own meaning -/
theorem evE_dnew {Γ : Gam} {ρ : Ev} {st : Sr} : evE Γ .dnew ρ st = .ok (.dc [], st) := by rw [evE]
theorem evE_dix_ok {Γ : Gam} {ρ : Ev} {st st1 st2 : Sr} {a k : Ex} {w : Wv} {kd z : Dt} {kvs : List (Dt × Dt)} (h1 : evE Γ a ρ st = .ok (w, st1)) (h2 : evE Γ k ρ st1 = .ok (.d kd, st2)) (h3 : viewK st2 w = some kvs) (hk : keyB kd = true) (hg : getK kvs kd = some z) : evE Γ (.dix a k) ρ st = .ok (.d z, st2) := by
  rw [evE, h1, Rs.bind_ok, h2, Rs.bind_ok]
  unfold dixW keyAt
  dsimp only
  rw [h3, Option.bind_some, show viewW st2 (.d kd) = some kd from rfl, Option.bind_some, if_pos hk, Option.bind_some, hg]
  rfl
theorem evE_din_ok {Γ : Gam} {ρ : Ev} {st st1 st2 : Sr} {neg : Bool} {a k : Ex} {w : Wv} {kd : Dt} {kvs : List (Dt × Dt)} (h1 : evE Γ k ρ st = .ok (.d kd, st1)) (h2 : evE Γ a ρ st1 = .ok (w, st2)) (h3 : viewK st2 w = some kvs) (hk : keyB kd = true) :
    evE Γ (.din neg k a) ρ st = .ok (.d (.bl (if neg = true then !(getK kvs kd).isSome else (getK kvs kd).isSome)), st2) := by
  rw [evE, h1, Rs.bind_ok, h2, Rs.bind_ok]
  unfold dinW keyAt
  dsimp only
  rw [h3, Option.bind_some, show viewW st2 (.d kd) = some kd from rfl, Option.bind_some, if_pos hk]
  rfl
theorem evE_dget_ok {Γ : Gam} {ρ : Ev} {st st1 st2 st3 : Sr} {a k d : Ex} {w : Wv} {kd x : Dt} {kvs kvs0 : List (Dt × Dt)} (h1 : evE Γ a ρ st = .ok (w, st1)) (h0 : viewK st1 w = some kvs0) (h2 : evE Γ k ρ st1 = .ok (.d kd, st2)) (h4 : evE Γ d ρ st2 = .ok (.d x, st3)) (h3 : viewK st3 w = some kvs) (hk : keyB kd = true) :
    evE Γ (.dget a k d) ρ st = .ok (.d ((getK kvs kd).getD x), st3) := by
  rw [evE, h1, Rs.bind_ok]
  unfold seenK
  dsimp only
  rw [h0, Option.map_some, Rs.ofO_some, Rs.bind_ok, h2, Rs.bind_ok, h4, Rs.bind_ok]
  unfold dgetW keyAt
  dsimp only
  rw [h3, Option.bind_some, show viewW st3 (.d kd) = some kd from rfl, Option.bind_some, show dataW (.d x) = some x from rfl, Option.bind_some, if_pos hk]
  rfl
theorem evE_sorted_ok {Γ : Gam} {ρ : Ev} {st st1 : Sr} {a : Ex} {w : Wv} {kvs : List (Dt × Dt)} (h1 : evE Γ a ρ st = .ok (w, st1)) (h2 : viewK st1 w = some kvs) (hl : kvs.length ≤ 1000000) (hs : sortableD (kvs.map Prod.fst) = true) : evE Γ (.pd .sorted a) ρ st = .ok (.d (.lst (sortD (kvs.map Prod.fst))), st1) := by
  rw [evE, h1, Rs.bind_ok]
  unfold pdW pdD
  dsimp only
  rw [h2, Option.bind_some, if_pos hl, if_pos hs]
  rfl
theorem exS_put_ok {Γ : Gam} {ρ : Ev} {st st1 st2 : Sr} {i n : Nat} {k e : Ex} {kd y : Dt} {kvs : List (Dt × Dt)} (h1 : evE Γ e ρ st = .ok (.d y, st1)) (hi : ρ[i]? = some (some (.ob n))) (h2 : evE Γ k ρ st1 = .ok (.d kd, st2)) (h3 : st2[n]? = some (.dic kvs)) (hk : keyB kd = true) (hl : kvs.length < 16777216) :
    exS Γ (.put i k e) ρ st = .ok ((.nx, ρ), st2.set n (.dic (putK kvs kd y))) := by
  rw [exS, h1, Rs.bind_ok]
  unfold obN
  rw [hi]
  show Rs.bind (Rs.ofO (Option.map _ (some n))) _ = _
  rw [Option.map_some, Rs.ofO_some, Rs.bind_ok, h2, Rs.bind_ok]
  unfold putW
  dsimp only
  rw [show viewW st2 (.d kd) = some kd from rfl, h3]
  exact if_pos ⟨hk, by rw [lim16]; exact hl⟩
theorem exS_setD {Γ : Gam} {ρ : Ev} {st : Sr} {i : Nat} : exS Γ (.setL i .dnew) ρ st = .ok ((.nx, ρ.set i (some (.ob st.length))), st ++ [.dic []]) := by rw [exS_setL, evE_dnew]; rfl
theorem evE_lcz_ok {Γ : Gam} {ρ : Ev} {st : Sr} {elt : Ex} {tg : Tg} {it : Itx} {ifs : Exs} {xs ys : List Dt} (h1 : evI Γ it (frzE st ρ) [] = .ok ((xs, []), [])) (h2 : lcL [] (lcTurn (evIfs Γ ifs) (evE Γ elt) tg (frzE st ρ)) xs [] = .ok (ys, [])) (hk : keyOks ys = true) (hl : ys.length ≤ 16777216) :
    evE Γ (.lcz elt tg it ifs) ρ st = .ok (.d (.lst ys), st) := by
  rw [evE, h1, noExc_ok, Rs.bind_ok]
  dsimp only
  rw [h2, Rs.bind_ok]
  unfold lczW
  rw [if_pos hk, Rs.bind_ok]
  exact lcEnd_ok (by rw [lim16]; exact hl)
theorem frz_at {ρ : Ev} {st : Sr} {i : Nat} {o : Option Wv} (h : ρ[i]? = some o) : (frzE st ρ)[i]? = some (o.map (frzW st)) := by
  unfold frzE
  rw [List.getElem?_map, h]
  rfl
/-- a dict of paths, by entries of one's own -/
def kvsOf {α : Type} (p : α → List (List Nat)) (v : α → Dt) (es : List α) : List (Dt × Dt) := es.map fun a => (pth (p a), v a)
theorem kvs_keys {α : Type} (p : α → List (List Nat)) (v : α → Dt) (es : List α) : (kvsOf p v es).map Prod.fst = (es.map p).map pth := by
  unfold kvsOf
  rw [List.map_map, List.map_map]
  rfl
theorem kvs_len {α : Type} (p : α → List (List Nat)) (v : α → Dt) (es : List α) : (kvsOf p v es).length = es.length := by unfold kvsOf; rw [List.length_map]
theorem getK_of {α : Type} {p : α → List (List Nat)} {v : α → Dt} : ∀ {es : List α} {a : α}, es.Pairwise (fun a b => p a ≠ p b) → a ∈ es → getK (kvsOf p v es) (pth (p a)) = some (v a)
  | e :: es, a, h, ha => by
    obtain ⟨h1, h2⟩ := List.pairwise_cons.mp h
    unfold getK kvsOf
    rw [List.map_cons, List.find?_cons]
    dsimp only
    rw [eqD_pth]
    rcases List.mem_cons.mp ha with rfl | ha
    · rw [decide_eq_true rfl]; rfl
    · rw [decide_eq_false (h1 a ha)]
      exact getK_of h2 ha
theorem getK_no {α : Type} {p : α → List (List Nat)} {v : α → Dt} {q : List (List Nat)} : ∀ {es : List α}, (∀ a ∈ es, p a ≠ q) → getK (kvsOf p v es) (pth q) = none
  | [], _ => rfl
  | e :: es, h => by
    unfold getK kvsOf
    rw [List.map_cons, List.find?_cons]
    dsimp only
    rw [eqD_pth, decide_eq_false (h e List.mem_cons_self)]
    exact getK_no (v := v) fun a ha => h a (List.mem_cons_of_mem _ ha)
theorem putK_new {α : Type} {p : α → List (List Nat)} {v : α → Dt} {q : List (List Nat)} {es : List α} {z : Dt} (h : ∀ a ∈ es, p a ≠ q) : putK (kvsOf p v es) (pth q) z = kvsOf p v es ++ [(pth q, z)] := by
  unfold putK
  rw [getK_no h]
  rfl
/-- one is the other, or one is a beginning of the other -/
def clash (a b : List (List Nat)) : Bool := decide (a = b) || beg a b || beg b a
theorem keyOks_pths : ∀ ps : List (List (List Nat)), keyOks (ps.map pth) = true
  | [] => rfl
  | p :: ps => by
    rw [List.map_cons, keyOks, keyOks_pths ps, (show keyOk (pth p) = true from ?_)]
    · rfl
    · have := key_pth p
      unfold keyB at this
      simp only [Bool.and_eq_true] at this
      exact this.1.2
abbrev clEx (f j q : Nat) : Ex := .lcz (.v j) (.one j) (.seq (.v f)) (.cons (.or (.cons (.cmp .eq (.v j) (.v q)) (.cons (.call c__law_begins (.cons (.v j) (.cons (.v q) .nil))) (.cons (.call c__law_begins (.cons (.v q) (.cons (.v j) .nil))) .nil)))) .nil)
theorem clash_list {α : Type} {p : α → List (List Nat)} {v : α → Dt} {es : List α} {n f j q k : Nat} {ρ : Ev} {st : Sr} {path : List (List Nat)} (hf : ρ[f]? = some (some (.ob k))) (hs : st[k]? = some (.dic (kvsOf p v es))) (hq : ρ[q]? = some (some (.d (pth path)))) (hj : j < ρ.length) (hjq : j ≠ q) (hl : es.length ≤ 1000) :
    evE (Gm (n + 1)) (clEx f j q) ρ st = .ok (.d (.lst (((es.filter fun a => clash (p a) path).map p).map pth)), st) := by
  have f1 := frz_at (st := st) hf
  have q1 := frz_at (st := st) hq
  have lj : j < (frzE st ρ).length := by unfold frzE; rw [List.length_map]; exact hj
  rw [List.map_map]
  refine evE_lcz_ok (xs := es.map fun a => pth (p a)) ?_ (lcL_filter' _ (fun a => pth (p a)) (fun a => clash (p a) path) (fun a => pth (p a)) es fun a ha => ?_) ?_ ?_
  · rw [evI_seq, evE_v, f1]
    simp only [Option.map_some, frzW, hs, lookW_some, Rs.bind_ok]
    show Rs.ofO (some (((kvsOf p v es).map Prod.fst, []), [])) = _
    rw [kvs_keys, List.map_map]
    rfl
  · refine lcTurn_if ?_ fun _ => by simp [lj]
    have g1 : ((frzE st ρ).set j (some (.d (pth (p a)))))[j]? = some (some (.d (pth (p a)))) := by rw [List.getElem?_set_self lj]
    have g2 : ((frzE st ρ).set j (some (.d (pth (p a)))))[q]? = some (some (.d (pth path))) := by rw [List.getElem?_set_ne hjq, q1]; rfl
    have e1 := run_lbeg n (p a) path
    have e2 := run_lbeg n path (p a)
    simp only [evIfs_one, evE_or, evOr2, evOr1, evE_cmp, evE_v, g1, g2, lookW_some, Rs.bind_ok, op2_d, eq_pth, blO_some, Option.map_some, Rs.ofO_some, truW_d, truthD_bl, evE_call, evEs_cons, evEs_nil, callW_2, e1, e2, valD_ok]
    unfold clash
    cases decide (p a = path) <;> cases beg (p a) path <;> simp
  · rw [← List.map_map]
    exact keyOks_pths _
  · rw [List.length_map]
    have := List.length_filter_le (fun a => clash (p a) path) es
    omega
/-! ### paths that are drawn -/
def okP (ps : List (List Nat)) : Prop := ps ≠ [] ∧ ps.length ≤ 4 ∧ ∀ s ∈ ps, isNm s = true
theorem okP_path {ps : List (List Nat)} (h : okP ps) : isPathD (pth ps) = true := by
  obtain ⟨h1, h2, h3⟩ := h
  have l : 1 ≤ ps.length := List.length_pos_iff.mpr h1
  have a : (ps.map Dt.str).all isNameD = true := by
    rw [List.all_map]
    exact List.all_eq_true.mpr h3
  simp [pth, isPathD, l, h2, a]
theorem bin_d {Γ : Gam} {ρ : Ev} {st : Sr} {o : Bop} {a b : Ex} {x y z : Dt} (h1 : evE Γ a ρ st = .ok (.d x, st)) (h2 : evE Γ b ρ st = .ok (.d y, st)) (h3 : bopD o x y = some z) : evE Γ (.bin o a b) ρ st = .ok (.d z, st) := evE_bin_ok h1 h2 h3
theorem v_d {Γ : Gam} {ρ : Ev} {st : Sr} {i : Nat} {w : Wv} (h : ρ[i]? = some (some w)) : evE Γ (.v i) ρ st = .ok (w, st) := by rw [evE_v, h]; rfl
theorem int_d {Γ : Gam} {ρ : Ev} {st : Sr} {i : Int} : evE Γ (.int i) ρ st = .ok (.d (.int i), st) := by rw [evE]
theorem mix_d {n : Nat} {ρ : Ev} {st : Sr} {a : Ex} {c p m : Int} (h : evE (Gm (n + 1)) a ρ st = .ok (.d (.int c), st)) (hp : 0 < p) (hp2 : p < 2 ^ 63) (hm : 0 < m) : evE (Gm (n + 1)) (.call c__law_mix (.cons a (.cons (.int p) (.cons (.int m) .nil)))) ρ st = .ok (.d (.int (mix c p m)), st) := by
  rw [call3_v h int_d int_d, run_mix n c p m hp hp2 hm]
  rfl
theorem addm_d {Γ : Gam} {ρ : Ev} {st : Sr} {i j : Nat} {a b k : Int} (h1 : ρ[i]? = some (some (.d (.int a)))) (h2 : ρ[j]? = some (some (.d (.int b)))) (hk : smallI k) : evE Γ (.bin .add (.v i) (.bin .mul (.int k) (.v j))) ρ st = .ok (.d (.int (a + k * b)), st) :=
  bin_d (v_d h1) (bin_d int_d (v_d h2) (mul_ii (.inl hk))) rfl
abbrev paEx (pl sd j : Nat) (p p2 : Int) : Ex := .p1 .tuple (.lc (.ix (.v pl) (.call c__law_mix (.cons (.bin .add (.v sd) (.bin .mul (.int 3) (.v j))) (.cons (.int p) (.cons (.int 4) .nil))))) (.one j) (.rng1 (.bin .add (.int 1) (.call c__law_mix (.cons (.v sd) (.cons (.int p2) (.cons (.int 4) .nil)))))) .nil)
theorem path_val {n pl sd j : Nat} {p p2 S : Int} {ρ : Ev} {st : Sr} {N : List (List Nat)} (hN : N.length = 4) (hn : ∀ s ∈ N, isNm s = true) (h2 : ρ[pl]? = some (some (.d (.lst (N.map .str))))) (h5 : ρ[sd]? = some (some (.d (.int S)))) (hj : j < ρ.length) (j1 : j ≠ pl) (j2 : j ≠ sd) (a1 : 0 < p) (a2 : p < 2 ^ 63) (b1 : 0 < p2) (b2 : p2 < 2 ^ 63) :
    ∃ ps, evE (Gm (n + 1)) (paEx pl sd j p p2) ρ st = .ok (.d (pth ps), st) ∧ okP ps := by
  obtain ⟨m1, m2⟩ := @mix_range S p2 4 (by decide)
  obtain ⟨m, hm⟩ : ∃ m : Nat, 1 + mix S p2 4 = (m : Int) := ⟨(1 + mix S p2 4).toNat, by omega⟩
  obtain ⟨ys, hy, hl, hP⟩ := lcL_ex (st := st) (f := lcTurn (evIfs (Gm (n + 1)) .nil) (evE (Gm (n + 1)) (.ix (.v pl) (.call c__law_mix (.cons (.bin .add (.v sd) (.bin .mul (.int 3) (.v j))) (.cons (.int p) (.cons (.int 4) .nil)))))) (.one j) ρ) (fun d => ∃ s, d = .str s ∧ isNm s = true) (rangeL 0 m) (fun x hx => by
    obtain ⟨i, rfl, hi⟩ := range0_mem hx
    have g1 : (ρ.set j (some (.d (.int i))))[j]? = some (some (.d (.int i))) := List.getElem?_set_self hj
    have g2 : (ρ.set j (some (.d (.int i))))[pl]? = _ := (List.getElem?_set_ne j1).trans h2
    have g3 : (ρ.set j (some (.d (.int i))))[sd]? = _ := (List.getElem?_set_ne j2).trans h5
    obtain ⟨q1, q2⟩ := @mix_range (S + 3 * i) p 4 (by decide)
    obtain ⟨y, hy, ey⟩ := @ixL_in _ (N.map Dt.str) (mix (S + 3 * i) p 4) q1 (by rw [List.length_map, hN]; exact q2)
    obtain ⟨s, hs, rfl⟩ := List.mem_map.mp hy
    refine ⟨.str s, lcTurn_one (by simp) ?_, s, rfl, hn s hs⟩
    rw [evE_ix, v_d g2, Rs.bind_ok, mix_d (addm_d g3 g1 (by decide)) a1 a2 (by decide), Rs.bind_ok]
    exact op2_ok ey)
  obtain ⟨ps, rfl, hps⟩ := map_of_ex (e := Dt.str) (P := fun s => isNm s = true) ys hP
  rw [rangeL_len, List.length_map] at hl
  refine ⟨ps, ?_, fun e => ?_, by omega, hps⟩
  · refine evE_p1_ok (x := .lst (ps.map Dt.str)) ?_ rfl
    refine evE_lc_ok (evI_rng_ok (m := m) ?_ (by omega)) hy (by rw [List.length_map]; omega)
    rw [← hm]
    exact bin_d int_d (mix_d (v_d h5) b1 b2 (by decide)) rfl
  · subst e
    simp at hl
    omega
/-- four names -/
theorem pool_val {n c k : Nat} {C : Int} {ρ : Ev} {st : Sr} (h0 : ρ[c]? = some (some (.d (.int C)))) (hk : k < ρ.length) (hne : k ≠ c) :
    ∃ N : List (List Nat), evE (Gm (n + 2)) (.lc (.call c__law_name (.cons (.bin .add (.v c) (.bin .mul (.int 29) (.v k))) .nil)) (.one k) (.rng1 (.int 4)) .nil) ρ st = .ok (.d (.lst (N.map .str)), st) ∧ N.length = 4 ∧ ∀ s ∈ N, isNm s = true := by
  obtain ⟨ys, hy, hl, hP⟩ := lcL_ex (st := st) (f := lcTurn (evIfs (Gm (n + 2)) .nil) (evE (Gm (n + 2)) (.call c__law_name (.cons (.bin .add (.v c) (.bin .mul (.int 29) (.v k))) .nil))) (.one k) ρ) (fun d => ∃ s, d = .str s ∧ isNm s = true) (rangeL 0 4) (fun x hx => by
    obtain ⟨i, rfl, hi⟩ := range0_mem hx
    have g1 : (ρ.set k (some (.d (.int i))))[k]? = some (some (.d (.int i))) := List.getElem?_set_self hk
    have g2 : (ρ.set k (some (.d (.int i))))[c]? = _ := (List.getElem?_set_ne hne).trans h0
    obtain ⟨s, hs, nm⟩ := run_name n (C + 29 * i)
    refine ⟨.str s, lcTurn_one (by simp) ?_, s, rfl, nm⟩
    rw [call1_v (addm_d g2 g1 (by decide)), hs]
    rfl)
  obtain ⟨N, rfl, hN⟩ := map_of_ex (e := Dt.str) (P := fun s => isNm s = true) ys hP
  rw [rangeL_len, List.length_map] at hl
  exact ⟨N, evE_lc_ok (evI_rng_ok (m := 4) int_d (by decide)) hy (by rw [List.length_map]; omega), hl, hN⟩
/-! ### dicts of pairs -/
abbrev Sg := List (List Nat) × Dt
def Sg.toD (p : Sg) : Dt := .tup [pth p.1, p.2]
theorem pairsD_of {α : Type} (p : α → List (List Nat)) (v : α → Dt) : ∀ es : List α, pairsD (es.map fun a => .tup [pth (p a), v a]) = some (kvsOf p v es)
  | [] => rfl
  | a :: es => by
    rw [List.map_cons]
    unfold pairsD
    rw [pairsD_of p v es, key_pth]
    rfl
theorem mergeK_of {α : Type} {p : α → List (List Nat)} {v : α → Dt} : ∀ {es : List α} {acc : List α}, (acc ++ es).Pairwise (fun a b => p a ≠ p b) → mergeK (kvsOf p v acc) (kvsOf p v es) = kvsOf p v (acc ++ es)
  | [], acc, _ => by rw [List.append_nil]; rfl
  | a :: es, acc, h => by
    have h1 : ∀ b ∈ acc, p b ≠ p a := fun b hb => (List.pairwise_append.mp h).2.2 b hb a List.mem_cons_self
    have e : mergeK (kvsOf p v acc) (kvsOf p v (a :: es)) = mergeK (putK (kvsOf p v acc) (pth (p a)) (v a)) (kvsOf p v es) := rfl
    rw [e, putK_new h1]
    have := @mergeK_of α p v es (acc ++ [a]) (by rwa [List.append_assoc])
    rw [List.append_assoc] at this
    rw [← show kvsOf p v (acc ++ [a]) = kvsOf p v acc ++ [(pth (p a), v a)] from by unfold kvsOf; rw [List.map_append]; rfl]
    exact this
theorem dict_of {Γ : Gam} {ρ : Ev} {st : Sr} {α : Type} {p : α → List (List Nat)} {v : α → Dt} {es : List α} {e : Ex} {b : Bool} (he : evE Γ e ρ st = .ok (.d (if b then .tup (es.map fun a => .tup [pth (p a), v a]) else .lst (es.map fun a => .tup [pth (p a), v a])), st)) (hl : es.length ≤ 1000) (hp : es.Pairwise fun a b => p a ≠ p b) :
    evE Γ (.dict e) ρ st = .ok (.dc (kvsOf p v es), st) := by
  have hm := @mergeK_of α p v es [] (by simpa using hp)
  rw [List.nil_append] at hm
  have hm : mergeK [] (kvsOf p v es) = kvsOf p v es := hm
  rw [evE, he, Rs.bind_ok]
  have hd : dictD (if b then .tup (es.map fun a => .tup [pth (p a), v a]) else .lst (es.map fun a => .tup [pth (p a), v a])) = some (kvsOf p v es) := by
    cases b <;> exact (if_pos (by rw [List.length_map]; omega)).trans (pairsD_of p v es)
  unfold dictW
  dsimp only
  rw [show viewW st (.d (if b then .tup (es.map fun a => .tup [pth (p a), v a]) else .lst (es.map fun a => .tup [pth (p a), v a]))) = some _ from rfl, Option.bind_some, hd, Option.map_some, hm]
  rfl
theorem din_dc {Γ : Gam} {ρ : Ev} {st : Sr} {neg : Bool} {a k : Ex} {q : List (List Nat)} {kvs : List (Dt × Dt)} (h1 : evE Γ k ρ st = .ok (.d (pth q), st)) (h2 : evE Γ a ρ st = .ok (.dc kvs, st)) :
    evE Γ (.din neg k a) ρ st = .ok (.d (.bl (if neg = true then !(getK kvs (pth q)).isSome else (getK kvs (pth q)).isSome)), st) := evE_din_ok h1 h2 rfl (key_pth q)
theorem getK_isSome {α : Type} {p : α → List (List Nat)} {v : α → Dt} (es : List α) (q : List (List Nat)) : (getK (kvsOf p v es) (pth q)).isSome = es.any fun a => decide (p a = q) := by
  induction es with
  | nil => rfl
  | cons a es ih =>
    unfold getK kvsOf at ih ⊢
    rw [List.map_cons, List.find?_cons, List.any_cons]
    dsimp only
    rw [eqD_pth]
    by_cases h : p a = q
    · rw [decide_eq_true h]; rfl
    · rw [decide_eq_false h]; exact ih
/-! ### dicts that are drawn, and small helps -/
theorem clash_ne {a b : List (List Nat)} (h : clash a b = false) : a ≠ b := fun e => by
  subst e
  unfold clash at h
  rw [decide_eq_true rfl] at h
  cases h
theorem sort_val {α : Type} {p : α → List (List Nat)} {v : α → Dt} {es : List α} {n f j k : Nat} {ρ : Ev} {st : Sr} (hf : ρ[f]? = some (some (.ob k))) (hs : st[k]? = some (.dic (kvsOf p v es))) (hj : j < ρ.length) (hne : j ≠ f) (hl : es.length ≤ 1000) (hp : ∀ a ∈ es, p a ≠ []) :
    evE (Gm n) (.pd .sorted (.v f)) ρ st = .ok (.d (.lst (((sortP p es).map p).map pth)), st) := by
  rw [evE_sorted_ok (kvs := kvsOf p v es) (v_d hf) (by unfold viewK; dsimp only; rw [hs]) (by rw [kvs_len]; omega) (by rw [kvs_keys]; exact sortable_pth fun q hq => by obtain ⟨a, ha, rfl⟩ := List.mem_map.mp hq; exact hp a ha), kvs_keys, sortD_pth, sortP_map]
theorem apart_ne {α : Type} {p : α → List (List Nat)} {es : List α} (h : es.Pairwise fun a b => clash (p a) (p b) = false) : es.Pairwise fun a b => p a ≠ p b := h.imp fun h => clash_ne h
theorem setTg_s (s : Sg) (i j : Nat) (ρ : Ev) : setTg (.many [i, j]) s.toD ρ = some ((ρ.set i (some (.d (pth s.1)))).set j (some (.d s.2))) := rfl
theorem setL_ok {Γ : Gam} {ρ : Ev} {st : Sr} {i : Nat} {e : Ex} {ys : List Dt} (h : evE Γ e ρ st = .ok (.d (.lst ys), st)) : exS Γ (.setL i e) ρ st = .ok ((.nx, ρ.set i (some (.ob st.length))), st ++ [.lst ys]) := by
  rw [exS_setL, h]
  rfl
theorem cmp_d {Γ : Gam} {ρ : Ev} {st : Sr} {o : Cop} {a b : Ex} {x y : Dt} {t : Bool} (h1 : evE Γ a ρ st = .ok (.d x, st)) (h2 : evE Γ b ρ st = .ok (.d y, st)) (h3 : copD o x y = some t) : evE Γ (.cmp o a b) ρ st = .ok (.d (.bl t), st) := evE_cmp_ok h1 h2 h3
theorem and_yes {Γ : Gam} {ρ : Ev} {st : Sr} {a b : Ex} {r : Exs} (h : evE Γ a ρ st = .ok (.d (.bl true), st)) : evAnd Γ (.cons a (.cons b r)) ρ st = evAnd Γ (.cons b r) ρ st := by rw [evAnd2, h]; rfl
theorem and_no {Γ : Gam} {ρ : Ev} {st : Sr} {a b : Ex} {r : Exs} (h : evE Γ a ρ st = .ok (.d (.bl false), st)) : evAnd Γ (.cons a (.cons b r)) ρ st = .ok (.d (.bl false), st) := by rw [evAnd2, h]; rfl
theorem and2_d {Γ : Gam} {ρ : Ev} {st : Sr} {a b : Ex} {s t : Bool} (h1 : evE Γ a ρ st = .ok (.d (.bl s), st)) (h2 : evE Γ b ρ st = .ok (.d (.bl t), st)) : evE Γ (.and (.cons a (.cons b .nil))) ρ st = .ok (.d (.bl (s && t)), st) := by
  cases s with
  | true => rw [evE_and, and_yes h1, evAnd1, h2]; rfl
  | false => rw [evE_and, and_no h1]; rfl
theorem not_d {Γ : Gam} {ρ : Ev} {st : Sr} {a : Ex} {b : Bool} (h : evE Γ a ρ st = .ok (.d (.bl b), st)) : evE Γ (.not a) ρ st = .ok (.d (.bl (!b)), st) := by rw [evE_not, h]; rfl
theorem tup2_d {Γ : Gam} {ρ : Ev} {st : Sr} {a b : Ex} {x y : Dt} (h1 : evE Γ a ρ st = .ok (.d x, st)) (h2 : evE Γ b ρ st = .ok (.d y, st)) : evE Γ (.tup (.cons a (.cons b .nil))) ρ st = .ok (.d (.tup [x, y]), st) := by
  rw [evE_tup, evEs_cons, h1, Rs.bind_ok, evEs_cons, h2]
  simp
theorem or2_d {Γ : Gam} {ρ : Ev} {st : Sr} {a b : Ex} {s t : Bool} (h1 : evE Γ a ρ st = .ok (.d (.bl s), st)) (h2 : evE Γ b ρ st = .ok (.d (.bl t), st)) : evE Γ (.or (.cons a (.cons b .nil))) ρ st = .ok (.d (.bl (s || t)), st) := by
  cases s with
  | true => rw [evE_or, evOr2, h1]; rfl
  | false => rw [evE_or, evOr2, h1]; exact (evOr1 ..).trans h2
theorem hnx {Γ : Gam} {a : Sm} {ρ : Ev} {st st' : Sr} (h : exS Γ a ρ st = .ok ((.nx, ρ), st')) : exSs Γ (.cons a .nil) ρ st = .ok ((.nx, ρ), st') := by rw [exSs_nx h, exSs_nil]
theorem and2_no {Γ : Gam} {ρ : Ev} {st : Sr} {a b : Ex} (h1 : evE Γ a ρ st = .ok (.d (.bl false), st)) : evE Γ (.and (.cons a (.cons b .nil))) ρ st = .ok (.d (.bl false), st) := by rw [evE_and, and_no h1]
theorem key_app_inj : ∀ {xs ys : List (List Nat)} {u v : List (Int ⊕ List Nat)}, keyDs (xs.map Dt.str) ++ u = keyDs (ys.map Dt.str) ++ v → xs = ys ∧ u = v
  | [], [], u, v, h => by simpa [keyDs] using h
  | [], y :: ys, u, v, h => by simp [keyDs] at h
  | x :: xs, [], u, v, h => by simp [keyDs] at h
  | x :: xs, y :: ys, u, v, h => by
    simp only [List.map_cons, keyDs, keyD, List.cons_append, List.nil_append, List.cons.injEq, Sum.inr.injEq, true_and] at h
    obtain ⟨e1, e2⟩ := key_app_inj h.2
    exact ⟨by rw [h.1, e1], e2⟩
theorem row_app : ∀ {xs ys : List (List Nat)} {u v : List (Int ⊕ List Nat)}, rowLt (keyDs (xs.map Dt.str) ++ u) (keyDs (ys.map Dt.str) ++ v) = true → rowLt (keyDs (xs.map Dt.str)) (keyDs (ys.map Dt.str)) = true ∨ (xs = ys ∧ rowLt u v = true)
  | [], [], u, v, h => by
    refine .inr ⟨rfl, ?_⟩
    simpa [keyDs, rowLt, signLt] using h
  | [], y :: ys, u, v, h => .inl (by simp [keyDs, rowLt, signLt])
  | x :: xs, [], u, v, h => by simp [keyDs, rowLt, signLt] at h
  | x :: xs, y :: ys, u, v, h => by
    simp only [List.map_cons, keyDs, keyD, List.cons_append, List.nil_append, rowLt, sgn_irrefl, Bool.false_or, Bool.not_false, Bool.true_and, Bool.or_eq_true, Bool.and_eq_true, Bool.not_eq_true'] at h ⊢
    rcases h with h | ⟨h1, h2⟩
    · exact .inl (.inl h)
    · rcases row_app h2 with h3 | ⟨h3, h4⟩
      · exact .inl (.inr ⟨h1, h3⟩)
      · cases q : signLt (.inr x) (.inr y) with
        | true => exact .inl (.inl rfl)
        | false =>
          have e := sgn_tri q h1
          cases e
          exact .inr ⟨by rw [h3], h4⟩
theorem exS_if_no2 {Γ : Gam} {ρ : Ev} {st st1 : Sr} {c : Ex} {a b : Sms} {x : Dt} (h : evE Γ c ρ st = .ok (.d x, st1)) (hx : truthD x = false) : exS Γ (.ife c a b) ρ st = exSs Γ b ρ st1 := by
  rw [exS_ife, evT_eq, h, Rs.bind_ok]
  show ((Rs.ok (truthD x)).bind _).bind _ = _
  rw [hx, Rs.bind_ok, Rs.bind_ok]
  rfl
theorem cell_v {n i : Nat} {ρ : Ev} {st : Sr} {ns : List Int} {e : Ex} {k : Nat} (h : ρ[i]? = some (some (.d (.scr ns)))) (he : evE (Gm (n + 1)) e ρ st = .ok (.d (.int k), st)) : evE (Gm (n + 1)) (.call c__law_cell (.cons (.v i) (.cons e .nil))) ρ st = .ok (.d (.int (cellAt ns k)), st) := by
  rw [call2_v (v_d h) he, run_cell]
  rfl
theorem rng_i {Γ : Gam} {ρ : Ev} {st : Sr} {i : Int} {m : Nat} (h : i = (m : Int)) (hm : m < 1000) : evI Γ (.rng1 (.int i)) ρ st = .ok ((rangeL 0 m, []), st) := by
  subst h
  exact evI_rng_ok (m := m) int_d (by omega)
theorem ne_nil : copD .ne (.tup []) (.tup []) = some false := rfl
theorem clash_sym (a b : List (List Nat)) : clash a b = clash b a := by
  unfold clash
  rw [show decide (a = b) = decide (b = a) from by by_cases h : a = b <;> simp [h, eq_comm]]
  cases decide (b = a) <;> cases beg a b <;> cases beg b a <;> rfl
/-! ### sameness -/
mutual
def plainT : Dt → Bool
  | .tup xs => decide (xs.length ≤ 1000) && plainTs xs
  | .str _ => true
  | .int _ => true
  | .bl _ => true
  | .non => true
  | _ => false
def plainTs : List Dt → Bool
  | [] => true
  | x :: xs => plainT x && plainTs xs
end
theorem plainTs_mem : ∀ {xs : List Dt}, plainTs xs = true → ∀ x ∈ xs, plainT x = true
  | y :: xs, h, x, hx => by
    rw [plainTs, Bool.and_eq_true] at h
    rcases List.mem_cons.mp hx with rfl | hx
    · exact h.1
    · exact plainTs_mem h.2 x hx
theorem dep_mem : ∀ {xs : List Dt} {x : Dt}, x ∈ xs → depD x ≤ depDs xs
  | y :: xs, x, h => by
    simp only [depDs]
    rcases List.mem_cons.mp h with rfl | h
    · omega
    · have := dep_mem h; omega
theorem zip_self : ∀ xs : List Dt, zipL xs xs = xs.map fun x => .tup [x, x]
  | [] => rfl
  | x :: xs => by rw [zipL, zip_self xs]; rfl
theorem is_non (x : Dt) : copD .is x .non = some (isNonD x) := by cases x <;> rfl
/-! ### valid values are plain -/
theorem isDay_inv {c : Dt} (h : isDayD c = true) : ∃ y m d : Int, c = .tup [.int y, .int m, .int d] ∧ 1 ≤ y ∧ y ≤ 9999 ∧ 1 ≤ m ∧ m ≤ 12 ∧ 1 ≤ d ∧ d ≤ daysIn y m := by
  unfold isDayD at h
  split at h
  · rename_i y m d
    cases d with
    | int d =>
      simp only [isNumD, Bool.and_eq_true, decide_eq_true_eq] at h
      exact ⟨y, m, d, rfl, h.1.1.1, h.1.1.2, h.1.2.1, h.1.2.2, h.2.1, h.2.2⟩
    | _ => simp [isNumD] at h
  · cases h
theorem plain_inv {s : List Nat} {c : Dt} (h : plainV s c = true) : (s = s_number_1f54 ∧ ∃ i : Int, c = .int i ∧ -999999999 ≤ i ∧ i ≤ 999999999) ∨ (s = s_truth_2626 ∧ ∃ b, c = .bl b) ∨ (s = s_text_a7c7 ∧ ∃ t, c = .str t ∧ t.length ≤ 60) ∨ (s = [100, 97, 121] ∧ isDayD c = true) := by
  unfold plainV at h
  split at h
  · rename_i e
    left
    cases c <;> simp [isNumD] at h
    exact ⟨e, _, rfl, h⟩
  split at h
  · rename_i e
    cases c <;> simp [isBlD] at h
    exact .inr (.inl ⟨e, _, rfl⟩)
  split at h
  · rename_i e
    cases c <;> simp [isTextD] at h
    exact .inr (.inr (.inl ⟨e, _, rfl, h⟩))
  split at h
  · rename_i e
    exact .inr (.inr (.inr ⟨e, h⟩))
  · cases h
theorem plainTs_of : ∀ {xs : List Dt}, (∀ x ∈ xs, plainT x = true) → plainTs xs = true
  | [], _ => rfl
  | x :: xs, h => by rw [plainTs, h x List.mem_cons_self, plainTs_of fun y hy => h y (List.mem_cons_of_mem _ hy)]; rfl
theorem depDs_of : ∀ {xs : List Dt} {n : Nat}, (∀ x ∈ xs, depD x ≤ n) → depDs xs ≤ n
  | [], _, _ => by simp [depDs]
  | x :: xs, n, h => by
    have a := h x List.mem_cons_self
    have b := depDs_of fun y hy => h y (List.mem_cons_of_mem _ hy)
    simp only [depDs]
    omega
theorem plainV_pd {s : List Nat} {c : Dt} (h : plainV s c = true) : plainT c = true ∧ depD c ≤ 1 := by
  rcases plain_inv h with ⟨_, i, rfl, _⟩ | ⟨_, b, rfl⟩ | ⟨_, t, rfl, _⟩ | ⟨_, hd⟩
  · simp [plainT, depD]
  · simp [plainT, depD]
  · simp [plainT, depD]
  · obtain ⟨y, m, d, rfl, _⟩ := isDay_inv hd
    simp [plainT, plainTs, depD, depDs]
theorem val_pd : ∀ {k : Nat} {v : Dt}, isValD k v = true → plainT v = true ∧ depD v ≤ 2 * k + 2 := by
  intro k
  induction k with
  | zero =>
    intro v h
    obtain ⟨s, c, rfl, _, h2⟩ := isVal_inv h
    have hs : s ≠ s_list_f818 := by
      intro e
      obtain ⟨xs, j, e, _⟩ := h2 e
      cases e
    rw [isVal_plain hs] at h
    have := plainV_pd h
    simp only [plainT, plainTs, this.1, depD, depDs]
    refine ⟨by simp, ?_⟩
    omega
  | succ k ih =>
    intro v h
    obtain ⟨s, c, rfl, _, h2⟩ := isVal_inv h
    by_cases hs : s = s_list_f818
    · obtain ⟨xs, j, e, rfl, hl, h4⟩ := h2 hs
      cases e
      have a := plainTs_of fun x hx => (ih (h4 x hx)).1
      have b := depDs_of fun x hx => (ih (h4 x hx)).2
      have hl2 : xs.length ≤ 1000 := by omega
      simp only [plainT, plainTs, a, depD, depDs, hl2]
      refine ⟨by simp, ?_⟩
      omega
    · rw [isVal_plain hs] at h
      have := plainV_pd h
      simp only [plainT, plainTs, this.1, depD, depDs]
      refine ⟨by simp, ?_⟩
      omega
/-! ### numbers as texts -/
def numN (n : Nat) : List Nat := (Nat.toDigits 10 n).map Char.toNat
def numS (i : Int) : List Nat := if 0 ≤ i then numN i.toNat else 45 :: numN (-i).toNat
theorem digitChar_nat {d : Nat} (h : d < 10) : (Nat.digitChar d).toNat = 48 + d := by
  have : ∀ d, d < 10 → (Nat.digitChar d).toNat = 48 + d := by decide
  exact this d h
theorem numN_lt {n : Nat} (h : n < 10) : numN n = [48 + n] := by
  rw [numN, Nat.toDigits_of_lt_base h, List.map_cons, digitChar_nat h]; rfl
theorem numN_ge {n : Nat} (h : 10 ≤ n) : numN n = numN (n / 10) ++ [48 + n % 10] := by
  rw [numN, Nat.toDigits_of_base_le (by omega) h, List.map_append, List.map_cons, digitChar_nat (by omega)]; rfl
theorem numN_dig : ∀ n : Nat, ∀ c ∈ numN n, 48 ≤ c ∧ c ≤ 57 := by
  intro n
  induction n using Nat.strongRecOn with
  | ind n ih =>
    by_cases h : n < 10
    · rw [numN_lt h]; intro c hc; rw [List.mem_singleton.mp hc]; omega
    · rw [numN_ge (by omega)]
      intro c hc
      rcases List.mem_append.mp hc with hc | hc
      · exact ih (n / 10) (by omega) c hc
      · rw [List.mem_singleton.mp hc]; omega
theorem digV_snoc (s : List Nat) (c : Nat) : digV (s ++ [c]) = digV s * 10 + (c - 48) := by
  unfold digV; rw [List.foldl_append]; rfl
theorem numN_val : ∀ n : Nat, digV (numN n) = n := by
  intro n
  induction n using Nat.strongRecOn with
  | ind n ih =>
    by_cases h : n < 10
    · rw [numN_lt h]; show 0 * 10 + (48 + n - 48) = n; omega
    · rw [numN_ge (by omega), digV_snoc, ih (n / 10) (by omega)]; omega
theorem numN_len : ∀ (k n : Nat), n < 10 ^ (k + 1) → 1 ≤ (numN n).length ∧ (numN n).length ≤ k + 1 := by
  intro k
  induction k with
  | zero => intro n h; rw [numN_lt (by simpa using h)]; simp
  | succ k ih =>
    intro n h
    by_cases h10 : n < 10
    · rw [numN_lt h10]; simp
    · have := ih (n / 10) (by rw [Nat.div_lt_iff_lt_mul (by omega)]; rw [Nat.pow_succ] at h; exact h)
      rw [numN_ge (by omega), List.length_append]
      simp only [List.length_cons, List.length_nil]
      omega
theorem S2_num (i : Int) : S2 (toString i) = numS i := by
  have e : toString i = i.repr := rfl
  rw [e, Int.repr_eq_if, numS]
  split
  · rw [Nat.repr_eq_ofList_toDigits]; simp [S2, numN]
  · rw [Nat.repr_eq_ofList_toDigits]; simp [S2, numN]
theorem run_same' (n : Nat) (a b : Dt) : runP tab gls (n + 1) c__law_same [a, b] = (exSs (Gm n) b__law_same [some (.d a), some (.d b), none, none] []).bind endD := rfl
theorem run_same : ∀ (d n : Nat) (v : Dt), depD v ≤ d → plainT v = true → runP tab gls (n + d + 1) c__law_same [v, v] = .ok (.bl true) := by
  intro d
  induction d with
  | zero =>
    intro n v hd hp
    rw [run_same']
    cases v with
    | tup xs => simp [depD] at hd
    | str s => simp [b__law_same, isiD, is_non, isNonD]
    | int i => simp [b__law_same, isiD, is_non, isNonD]
    | bl b => simp [b__law_same, isiD, eq_dd, depD, eqD, is_non, isNonD]
    | non => simp [b__law_same, isiD, is_non, isNonD]
    | _ => simp [plainT] at hp
  | succ d ih =>
    intro n v hd hp
    cases v with
    | tup xs =>
      rw [plainT, Bool.and_eq_true, decide_eq_true_eq] at hp
      obtain ⟨hlen, hp⟩ := hp
      have hlc : evE (Gm (n + (d + 1))) (.lc (.call c__law_same (.cons (.v 2) (.cons (.v 3) .nil))) (.many [2, 3]) (.zip (.v 0) (.v 1)) .nil) [some (.d (.tup xs)), some (.d (.tup xs)), none, none] [] = .ok (.d (.lst (xs.map fun _ => .bl true)), []) := by
        refine evE_lc_ok (xs := zipL xs xs) (by rw [evI_zip]; rfl) ?_ (by rw [List.length_map]; omega)
        rw [zip_self]
        refine lcL_map' _ _ _ _ fun x hx => ?_
        have hx1 := ih n x (by have := dep_mem hx; simp only [depD] at hd; omega) (plainTs_mem hp x hx)
        rw [show n + d + 1 = n + (d + 1) by omega] at hx1
        unfold lcTurn
        simp only [Tg.slots, setTg, setMany, wipeE, List.set, Rs.ofO_some, Rs.bind_ok, evIfs_nil, if_true]
        simp [hx1, noExc]
      rw [run_same']
      unfold b__law_same
      have C1 : evE (Gm (n + (d + 1))) (.or (.cons (.not (.isi (.v 0) .tuple)) (.cons (.cmp .ne (.p1 .len (.v 0)) (.p1 .len (.v 1))) .nil))) [some (.d (.tup xs)), some (.d (.tup xs)), none, none] [] = .ok (.d (.bl false), []) := by simp [isiD]
      rw [exSs_rt ((exS_if_yes (x := .bl true) (st1 := []) (by simp [isiD]) rfl).trans ((exSs_nx (exS_if_no C1 rfl)).trans (exSs_rt (exS_ret_ok (evE_p1_ok (z := .bl true) hlc (by rw [all_map (fun _ => true)]; simp))))))]
      rfl
    | str s => rw [run_same']; simp [b__law_same, isiD, is_non, isNonD]
    | int i => rw [run_same']; simp [b__law_same, isiD, is_non, isNonD]
    | bl b => rw [run_same']; simp [b__law_same, isiD, eq_dd, depD, eqD, is_non, isNonD]
    | non => rw [run_same']; simp [b__law_same, isiD, is_non, isNonD]
    | _ => simp [plainT] at hp

/-! ### sorted pairs of a path and a value -/
theorem row_asym {a b : List (Int ⊕ List Nat)} (h : rowLt a b = true) : rowLt b a = false := by
  cases q : rowLt b a with
  | false => rfl
  | true =>
    have := row_trans h q
    rw [row_irrefl] at this
    cases this
theorem row_app_ne {xs ys : List (List Nat)} {u v : List (Int ⊕ List Nat)} (h : xs ≠ ys) : rowLt (keyDs (xs.map Dt.str) ++ u) (keyDs (ys.map Dt.str) ++ v) = rowLt (keyDs (xs.map Dt.str)) (keyDs (ys.map Dt.str)) := by
  cases q : rowLt (keyDs (xs.map Dt.str) ++ u) (keyDs (ys.map Dt.str) ++ v) with
  | true =>
    rcases row_app q with e | ⟨e, _⟩
    · exact e.symm
    · exact absurd e h
  | false =>
    cases q2 : rowLt (keyDs (ys.map Dt.str) ++ v) (keyDs (xs.map Dt.str) ++ u) with
    | true =>
      rcases row_app q2 with e | ⟨e, _⟩
      · rw [row_asym e]
      · exact absurd e.symm h
    | false => exact absurd (key_app_inj (row_tri q q2)).1 h
theorem ltB_sg {a b : Sg} (h : a.1 ≠ b.1) : ltB a.toD b.toD = ltP a.1 b.1 := by
  unfold ltP ltB
  simp only [Sg.toD, pth, keyD, keyDs, rowLt, sgn_irrefl, Bool.false_or, Bool.not_false, Bool.true_and]
  exact row_app_ne h
theorem pair_of {α : Type} {R : α → α → Prop} (hs : ∀ a b, R a b → R b a) : ∀ {l : List α}, l.Pairwise R → ∀ a ∈ l, ∀ b ∈ l, a = b ∨ R a b
  | [], _, a, ha, _, _ => by cases ha
  | x :: l, h, a, ha, b, hb => by
    obtain ⟨h1, h2⟩ := List.pairwise_cons.mp h
    rcases List.mem_cons.mp ha with ea | ha2
    · rcases List.mem_cons.mp hb with eb | hb2
      · exact .inl (ea.trans eb.symm)
      · rw [ea]; exact .inr (h1 b hb2)
    · rcases List.mem_cons.mp hb with eb | hb2
      · rw [eb]; exact .inr (hs _ _ (h1 a ha2))
      · exact pair_of hs h2 a ha2 b hb2
theorem sgs_sortable {T : List Sg} (hv : ∀ t ∈ T, isValD 3 t.2 = true) (hp : T.Pairwise fun a b => a.1 ≠ b.1) : sortableF (T.map Sg.toD) = true := by
  unfold sortableF
  simp only [Bool.and_eq_true, List.all_eq_true, decide_eq_true_eq]
  refine ⟨⟨⟨fun x hx => ?_, fun x hx y hy => ?_⟩, ?_⟩, ?_⟩
  · obtain ⟨t, _, rfl⟩ := List.mem_map.mp hx; rfl
  · obtain ⟨t, _, rfl⟩ := List.mem_map.mp hx
    obtain ⟨u, _, rfl⟩ := List.mem_map.mp hy
    exact alike_pth t.1 u.1
  · have : ∀ T : List Sg, T.Pairwise (fun a b => a.1 ≠ b.1) → farD (T.map Sg.toD) = true := by
      intro T
      induction T with
      | nil => intro _; rfl
      | cons t T ih =>
        intro h
        obtain ⟨h1, h2⟩ := List.pairwise_cons.mp h
        rw [List.map_cons, farD, ih h2, Bool.and_true, List.all_eq_true]
        intro y hy
        obtain ⟨u, hu, rfl⟩ := List.mem_map.mp hy
        show (!eqD (pth t.1) (pth u.1) && !eqD (pth u.1) (pth t.1)) = true
        rw [eqD_pth, eqD_pth, decide_eq_false (h1 u hu), decide_eq_false (fun e => h1 u hu e.symm)]
        rfl
    exact this T hp
  · have : depDs (T.map Sg.toD) ≤ 10 := by
      refine depDs_of fun x hx => ?_
      obtain ⟨t, ht, rfl⟩ := List.mem_map.mp hx
      have := (val_pd (hv t ht)).2
      simp only [Sg.toD, depD, depDs, dep_pth]
      omega
    omega
/-- sorted tells them by their paths -/
theorem sorted_sg {T : List Sg} (hv : ∀ t ∈ T, isValD 3 t.2 = true) (hp : T.Pairwise fun a b => a.1 ≠ b.1) : p1D .sorted (.lst (T.map Sg.toD)) = some (.lst ((sortP Prod.fst T).map Sg.toD)) := by
  have hF : sortF (T.map Sg.toD) = (sortP Prod.fst T).map Sg.toD := (List.map_mergeSort (r := fun a b : Sg => !ltP b.1 a.1) (s := fun a b => !ltB (headD b) (headD a)) (f := Sg.toD) (l := T) (fun a _ b _ => rfl)).symm
  have hD : sortD (T.map Sg.toD) = (sortP Prod.fst T).map Sg.toD := (List.map_mergeSort (r := fun a b : Sg => !ltP b.1 a.1) (s := fun a b => !ltB b a) (f := Sg.toD) (l := T) (fun a ha b hb => by
    rcases pair_of (R := fun a b : Sg => a.1 ≠ b.1) (fun _ _ h e => h e.symm) hp a ha b hb with rfl | h
    · rw [ltP_irrefl]
      show _ = (!rowLt _ _)
      rw [row_irrefl]
    · rw [ltB_sg (fun e => h e.symm)])).symm
  by_cases hd : sortableD (T.map Sg.toD) = true
  · rw [← hD]
    exact if_pos hd
  · rw [← hF]
    exact (if_neg hd).trans (if_pos (sgs_sortable hv hp))
theorem sortP_idem {α : Type} (f : α → List (List Nat)) {l : List α} (h : l.Pairwise fun a b => ltP (f b) (f a) = false) : sortP f l = l :=
  List.mergeSort_of_pairwise (h.imp fun h => by rw [h]; rfl)
theorem sgs_plain {T : List Sg} (hv : ∀ t ∈ T, isValD 3 t.2 = true) (hl : T.length ≤ 1000) (h4 : ∀ t ∈ T, t.1.length ≤ 5) : plainT (.tup (T.map Sg.toD)) = true ∧ depD (.tup (T.map Sg.toD)) ≤ 10 := by
  have hpp : ∀ q : List (List Nat), q.length ≤ 5 → plainT (pth q) = true := fun q hq => by
    unfold pth
    rw [plainT, List.length_map, decide_eq_true (by omega), Bool.true_and]
    refine plainTs_of fun x hx => ?_
    obtain ⟨s, _, rfl⟩ := List.mem_map.mp hx
    rfl
  refine ⟨?_, ?_⟩
  · rw [plainT, List.length_map, decide_eq_true hl, Bool.true_and]
    refine plainTs_of fun x hx => ?_
    obtain ⟨t, ht, rfl⟩ := List.mem_map.mp hx
    unfold Sg.toD
    rw [plainT, plainTs, plainTs, plainTs, hpp _ (h4 t ht), (val_pd (hv t ht)).1]
    rfl
  · have : depDs (T.map Sg.toD) ≤ 9 := by
      refine depDs_of fun x hx => ?_
      obtain ⟨t, ht, rfl⟩ := List.mem_map.mp hx
      have := (val_pd (hv t ht)).2
      simp only [Sg.toD, depD, depDs, dep_pth]
      omega
    simp only [depD]; omega
theorem sgs_key {T : List Sg} (hk : ∀ t ∈ T, keyOk t.2 = true) : keyOks (T.map Sg.toD) = true := by
  induction T with
  | nil => rfl
  | cons t T ih =>
    rw [List.map_cons, keyOks, ih fun u hu => hk u (List.mem_cons_of_mem _ hu), Bool.and_true]
    have hp := key_pth t.1
    unfold keyB at hp
    simp only [Bool.and_eq_true] at hp
    unfold Sg.toD
    rw [keyOk, keyOks, keyOks, keyOks, hk t List.mem_cons_self, hp.1.2]
    rfl
mutual
theorem plain_key : ∀ v : Dt, plainT v = true → keyOk v = true
  | .tup xs, h => by rw [plainT, Bool.and_eq_true] at h; rw [keyOk]; exact plain_keys xs h.2
  | .str _, _ => rfl
  | .int _, _ => rfl
  | .bl _, _ => rfl
  | .non, _ => rfl
  | .lst _, h => by simp [plainT] at h
  | .scr _, h => by simp [plainT] at h
theorem plain_keys : ∀ xs : List Dt, plainTs xs = true → keyOks xs = true
  | [], _ => rfl
  | x :: xs, h => by rw [plainTs, Bool.and_eq_true] at h; rw [keyOks, plain_key x h.1, plain_keys xs h.2]; rfl
end
theorem val_key {k : Nat} {v : Dt} (h : isValD k v = true) : keyOk v = true := plain_key v (val_pd h).1
/-! ### settings that are drawn -/
abbrev kvS (es : List Sg) : List (Dt × Dt) := kvsOf Prod.fst Prod.snd es
def apartS (es : List Sg) : Prop := es.Pairwise fun a b => clash a.1 b.1 = false
theorem run_law_pairs' (n : Nat) (a b : Dt) : runP tab gls (n + 1) c__law_pairs [a, b] = (exSs (Gm n) b__law_pairs [some (.d a), some (.d b), none, none, none, none, none, none, none] []).bind endD := rfl
theorem pairs_step (n : Nat) (C : Int) (N : List (List Nat)) (hN : N.length = 4) (hn : ∀ s ∈ N, isNm s = true) (x1 x5 x6 x7 x8 : Option Wv) (k : Nat) (es : List Sg) (ok : ∀ w ∈ es, okP w.1 ∧ isValD 2 w.2 = true) (ap : apartS es) (hl : es.length ≤ 100) :
    ∃ y5 y6 es', exSs (Gm (n + 5)) fb0__law_pairs [some (.d (.int C)), x1, some (.d (.lst (N.map .str))), some (.ob 0), some (.d (.int k)), x5, x6, x7, x8] [.dic (kvS es)] =
      .ok ((.nx, [some (.d (.int C)), x1, some (.d (.lst (N.map .str))), some (.ob 0), some (.d (.int k)), y5, y6, x7, x8]), [.dic (kvS es')]) ∧ (∀ w ∈ es', okP w.1 ∧ isValD 2 w.2 = true) ∧ apartS es' ∧ es'.length ≤ es.length + 1 := by
  obtain ⟨ps, hp, okp⟩ := @path_val (n + 4) 2 5 7 9833 9829 (C + 43 * k) [some (.d (.int C)), x1, some (.d (.lst (N.map .str))), some (.ob 0), some (.d (.int k)), some (.d (.int (C + 43 * k))), x6, x7, x8] [.dic (kvS es)] N hN hn rfl rfl (by simp) (by decide) (by decide) (by decide) (by decide) (by decide) (by decide)
  have hc := @clash_list Sg Prod.fst Prod.snd es (n + 4) 3 8 6 0 [some (.d (.int C)), x1, some (.d (.lst (N.map .str))), some (.ob 0), some (.d (.int k)), some (.d (.int (C + 43 * k))), some (.d (pth ps)), x7, x8] [.dic (kvS es)] ps rfl rfl rfl (by simp) (by decide) (by omega)
  unfold fb0__law_pairs
  rw [exSs_nx (exS_set_ok (addm_d (i := 0) (j := 4) rfl rfl (by decide)))]
  dsimp only [List.set]
  rw [exSs_nx (exS_set_ok hp)]
  dsimp only [List.set]
  have hnot : evE (Gm (n + 5)) (.not (clEx 3 8 6)) [some (.d (.int C)), x1, some (.d (.lst (N.map .str))), some (.ob 0), some (.d (.int k)), some (.d (.int (C + 43 * k))), some (.d (pth ps)), x7, x8] [.dic (kvS es)] = .ok (.d (.bl (!truthD (.lst (((es.filter fun a => clash a.1 ps).map Prod.fst).map pth)))), [.dic (kvS es)]) := by
    rw [evE_not, hc]
    rfl
  cases hf : es.filter fun a => clash a.1 ps with
  | cons a r =>
    rw [hf] at hnot
    rw [exSs_nx (exS_if_no hnot (by rfl))]
    rw [exSs_nil]
    exact ⟨_, _, es, rfl, ok, ap, by omega⟩
  | nil =>
    rw [hf] at hnot
    obtain ⟨v, hv, v1⟩ := run_law_value 2 n (C + 43 * k + 1)
    have hv : runP tab gls (n + 5) c__law_value [.int (C + 43 * k + 1), .int 2] = .ok v := hv
    have ne : ∀ a ∈ es, clash a.1 ps = false := fun a ha => by
      cases q : clash a.1 ps with
      | false => rfl
      | true =>
        have : a ∈ es.filter fun a => clash a.1 ps := List.mem_filter.mpr ⟨ha, q⟩
        rw [hf] at this
        cases this
    have e1 : evE (Gm (n + 5)) (.call c__law_value (.cons (.bin .add (.v 5) (.int 1)) (.cons (.int 2) .nil))) [some (.d (.int C)), x1, some (.d (.lst (N.map .str))), some (.ob 0), some (.d (.int k)), some (.d (.int (C + 43 * k))), some (.d (pth ps)), x7, x8] [.dic (kvS es)] = .ok (.d v, [.dic (kvS es)]) := by
      rw [call2_v (bin_d (v_d rfl) int_d rfl) int_d, hv]
      rfl
    have hkl : (kvS es).length < 16777216 := by rw [kvs_len]; omega
    rw [exSs_nx ((exS_if_yes hnot (by rfl)).trans (exSs_nx (exS_put_ok (n := 0) (kd := pth ps) (y := v) (kvs := kvS es) e1 rfl (v_d rfl) rfl (key_pth _) hkl)))]
    rw [putK_new fun a ha => clash_ne (ne a ha)]
    rw [← show kvS (es ++ [(ps, v)]) = kvS es ++ [(pth ps, v)] from by unfold kvS kvsOf; rw [List.map_append]; rfl]
    rw [exSs_nil]
    refine ⟨_, _, es ++ [(ps, v)], rfl, fun w hw => ?_, ?_, by simp⟩
    · rcases List.mem_append.mp hw with hw | hw
      · exact ok w hw
      · rw [List.mem_singleton.mp hw]
        exact ⟨okp, v1⟩
    · refine List.pairwise_append.mpr ⟨ap, List.pairwise_singleton _ _, fun a ha b hb => ?_⟩
      rw [List.mem_singleton.mp hb]
      exact ne a ha
/-- settings: rising, apart, of values -/
structure SetsOk (S : List Sg) : Prop where
  p : ∀ s ∈ S, okP s.1
  v : ∀ s ∈ S, isValD 3 s.2 = true
  so : S.Pairwise fun a b => ltP b.1 a.1 = false
  cl : apartS S
theorem SetsOk.ne {S : List Sg} (h : SetsOk S) : S.Pairwise fun a b => a.1 ≠ b.1 := h.cl.imp fun h => clash_ne h
theorem SetsOk.idem {S : List Sg} (h : SetsOk S) : sortP Prod.fst S = S := sortP_idem _ h.so
theorem setsOk_sort {es : List Sg} (ok : ∀ w ∈ es, okP w.1 ∧ isValD 3 w.2 = true) (ap : apartS es) : SetsOk (sortP Prod.fst es) :=
  ⟨fun s hs => (ok s ((sortP_perm Prod.fst es).mem_iff.mp hs)).1, fun s hs => (ok s ((sortP_perm Prod.fst es).mem_iff.mp hs)).2, sortP_pair Prod.fst es, ap.perm (sortP_perm Prod.fst es).symm (fun {a b} h => by rw [clash_sym]; exact h)⟩
theorem run_law_pairs (n : Nat) (C : Int) (m : Nat) (hm : m ≤ 50) : ∃ S : List Sg, runP tab gls (n + 6) c__law_pairs [.int C, .int m] = .ok (.tup (S.map Sg.toD)) ∧ SetsOk S ∧ S.length ≤ m := by
  rw [show n + 6 = n + 5 + 1 by omega, run_law_pairs']
  obtain ⟨N, hN, n1, n2⟩ := @pool_val (n + 3) 0 4 C [some (.d (.int C)), some (.d (.int m)), none, none, none, none, none, none, none] [] rfl (by simp) (by decide)
  unfold b__law_pairs
  rw [exSs_nx (exS_set_ok hN)]
  dsimp only [List.set]
  rw [exSs_nx exS_setD]
  dsimp only [List.set, List.length_nil, List.nil_append]
  obtain ⟨ρ', st', h1, x4, x5, x6, es, rfl, rfl, ok, ap, hl⟩ := exFor_invS (body := exSs (Gm (n + 5)) fb0__law_pairs) (tg := .one 4) (fun k ρ st => ∃ x4 x5 x6 es, ρ = [some (.d (.int C)), some (.d (.int m)), some (.d (.lst (N.map .str))), some (.ob 0), x4, x5, x6, none, none] ∧ st = [.dic (kvS es)] ∧ (∀ w ∈ es, okP w.1 ∧ isValD 2 w.2 = true) ∧ apartS es ∧ es.length ≤ k)
    (rangeL 0 m) 0 [some (.d (.int C)), some (.d (.int m)), some (.d (.lst (N.map .str))), some (.ob 0), none, none, none, none, none] [.dic []] ⟨none, none, none, [], rfl, rfl, by simp, List.Pairwise.nil, Nat.le_refl _⟩ (by
      rintro j y ρ st hj ⟨x4, x5, x6, es, rfl, rfl, ok, ap, hl⟩
      obtain ⟨rfl, hj2⟩ := rangeL_at _ _ _ _ hj
      obtain ⟨y5, y6, es', hb, ok', ap', hl'⟩ := pairs_step n C N n1 n2 (some (.d (.int m))) x5 x6 none none j es ok ap (by omega)
      refine ⟨_, [some (.d (.int C)), some (.d (.int m)), some (.d (.lst (N.map .str))), some (.ob 0), some (.d (.int j)), y5, y6, none, none], [.dic (kvS es')], rfl, ?_, some (.d (.int j)), y5, y6, es', rfl, rfl, ok', ap', by omega⟩
      rw [show (0 : Int) + (j : Int) = (j : Int) by omega]
      exact hb)
  rw [exSs_nx (exS_for_ok (evI_rng_ok (m := m) (v_d rfl) (by omega)) h1)]
  rw [rangeL_len] at hl
  refine ⟨sortP Prod.fst es, ?_, setsOk_sort (fun w hw => ⟨(ok w hw).1, isVal_mono (ok w hw).2⟩) ap, by rw [(sortP_perm Prod.fst es).length_eq]; omega⟩
  have hp : ∀ a ∈ es, a.1 ≠ [] := fun a ha => (ok a ha).1.1
  have hs := @sort_val Sg Prod.fst Prod.snd es (n + 5) 3 6 0 [some (.d (.int C)), some (.d (.int m)), some (.d (.lst (N.map .str))), some (.ob 0), x4, x5, x6, none, none] [.dic (kvS es)] rfl rfl (by simp) (by decide) (by omega) hp
  have hz := @lcL_map' [.dic (kvS es)] Sg (lcTurn (evIfs (Gm (n + 5)) .nil) (evE (Gm (n + 5)) (.tup (.cons (.v 6) (.cons (.dix (.v 3) (.v 6)) .nil)))) (.one 6) [some (.d (.int C)), some (.d (.int m)), some (.d (.lst (N.map .str))), some (.ob 0), x4, x5, x6, none, none]) (fun w => pth w.1) Sg.toD (sortP Prod.fst es) (fun w hw => by
    have hw' : w ∈ es := (sortP_perm Prod.fst es).mem_iff.mp hw
    refine lcTurn_one (by simp) (tup2_d (v_d rfl) ?_)
    exact evE_dix_ok (kvs := kvS es) (w := .ob 0) (v_d rfl) (v_d rfl) rfl (key_pth _) (getK_of (apart_ne ap) hw'))
  have hlen : ((sortP Prod.fst es).map Sg.toD).length ≤ 16777216 := by rw [List.length_map, (sortP_perm Prod.fst es).length_eq]; omega
  have e1 : evE (Gm (n + 5)) (.p1 .tuple (.lc (.tup (.cons (.v 6) (.cons (.dix (.v 3) (.v 6)) .nil))) (.one 6) (.seq (.pd .sorted (.v 3))) .nil)) [some (.d (.int C)), some (.d (.int m)), some (.d (.lst (N.map .str))), some (.ob 0), x4, x5, x6, none, none] [.dic (kvS es)] = .ok (.d (.tup ((sortP Prod.fst es).map Sg.toD)), [.dic (kvS es)]) := by
    refine evE_p1_ok (x := .lst ((sortP Prod.fst es).map Sg.toD)) (evE_lc_ok (xs := (sortP Prod.fst es).map fun w => pth w.1) ?_ hz hlen) rfl
    rw [evI_seq, hs, List.map_map]
    rfl
  rw [exSs_rt (exS_ret_ok e1)]
  rfl
/-! ### references in texts -/
abbrev Pa := List (List Nat)
def refNs (t : List Nat) : Pa := splitC 46 ((t.drop 2).takeWhile fun c => decide (c ≠ 125))
def refEnd (t : List Nat) : Nat := 2 + ((t.drop 2).takeWhile fun c => decide (c ≠ 125)).length + 1
def isRef (t : List Nat) : Bool := decide (t.take 2 = [36, 123]) && (decide (125 ∈ t.drop 2) && isPathD (pth (refNs t)))
/-- what a text is made of: signs, and paths -/
def scanF : Nat → List Nat → List (Nat ⊕ Pa)
  | 0, _ => []
  | _ + 1, [] => []
  | n + 1, c :: r => if isRef (c :: r) = true then .inr (refNs (c :: r)) :: scanF n ((c :: r).drop (refEnd (c :: r))) else .inl c :: scanF n r
def scanL (t : List Nat) : List (Nat ⊕ Pa) := scanF t.length t
theorem scanF_same : ∀ (n m : Nat) (t : List Nat), t.length ≤ n → t.length ≤ m → scanF n t = scanF m t
  | 0, 0, _, _, _ => rfl
  | 0, m + 1, t, h, _ => by
    have : t = [] := List.length_eq_zero_iff.mp (by omega)
    subst this; rfl
  | n + 1, 0, t, _, h => by
    have : t = [] := List.length_eq_zero_iff.mp (by omega)
    subst this; rfl
  | n + 1, m + 1, [], _, _ => rfl
  | n + 1, m + 1, c :: r, h1, h2 => by
    unfold scanF
    rw [List.length_cons] at h1 h2
    have l : ((c :: r).drop (refEnd (c :: r))).length ≤ r.length := by
      rw [List.length_drop, List.length_cons]
      unfold refEnd
      omega
    rw [scanF_same n m r (by omega) (by omega), scanF_same n m _ (Nat.le_trans l (by omega)) (Nat.le_trans l (by omega))]
theorem scan_nil : scanL [] = [] := rfl
theorem scan_cons (c : Nat) (r : List Nat) : scanL (c :: r) = if isRef (c :: r) = true then .inr (refNs (c :: r)) :: scanL ((c :: r).drop (refEnd (c :: r))) else .inl c :: scanL r := by
  unfold scanL
  rw [List.length_cons, scanF]
  have l : ((c :: r).drop (refEnd (c :: r))).length ≤ r.length := by
    rw [List.length_drop, List.length_cons]
    unfold refEnd
    omega
  rw [scanF_same r.length _ _ l (Nat.le_refl _)]
def pcD : Nat ⊕ Pa → Dt
  | .inl c => .str [c]
  | .inr p => pth p
def refO : Nat ⊕ Pa → Option Pa
  | .inl _ => none
  | .inr p => some p
/-- the paths that references in a text name -/
def refsT (t : List Nat) : List Pa := (scanL t).filterMap refO
theorem refs_nil : refsT [] = [] := rfl
theorem refs_cons (c : Nat) (r : List Nat) : refsT (c :: r) = if isRef (c :: r) = true then refNs (c :: r) :: refsT ((c :: r).drop (refEnd (c :: r))) else refsT r := by
  unfold refsT
  rw [scan_cons]
  by_cases h : isRef (c :: r) = true
  · rw [if_pos h, if_pos h]; rfl
  · rw [if_neg h, if_neg h]; rfl
theorem scan_len (t : List Nat) : (scanL t).length ≤ t.length := by
  suffices h : ∀ n t, (scanF n t).length ≤ n from h _ _
  intro n
  induction n with
  | zero => intro t; simp [scanF]
  | succ n ih =>
    intro t
    cases t with
    | nil => simp [scanF]
    | cons c r =>
      rw [scanF]
      split
      · rw [List.length_cons]; have := ih ((c :: r).drop (refEnd (c :: r))); omega
      · rw [List.length_cons]; have := ih r; omega
theorem refs_len (t : List Nat) : (refsT t).length ≤ t.length := Nat.le_trans (List.length_filterMap_le _ _) (scan_len t)
/-- what stands ahead of the end of a reference -/
theorem ref_inv {t : List Nat} (h : isRef t = true) : t.take 2 = [36, 123] ∧ 125 ∈ t.drop 2 ∧ isPathD (pth (refNs t)) = true := by
  unfold isRef at h
  simp only [Bool.and_eq_true, decide_eq_true_eq] at h
  exact ⟨h.1, h.2.1, h.2.2⟩
theorem okP_of {p : Pa} (h : isPathD (pth p) = true) : okP p := by
  simp only [pth, isPathD, Bool.and_eq_true, decide_eq_true_eq, List.all_eq_true, List.length_map] at h
  refine ⟨fun e => by subst e; simp at h, h.1.2, fun s hs => ?_⟩
  exact h.2 (.str s) (List.mem_map_of_mem hs)
theorem refs_ok : ∀ t : List Nat, ∀ p ∈ refsT t, okP p := by
  suffices h : ∀ n t, t.length ≤ n → ∀ p ∈ refsT t, okP p from fun t => h _ t (Nat.le_refl _)
  intro n
  induction n with
  | zero => intro t h p hp; rw [List.length_eq_zero_iff.mp (by omega : t.length = 0)] at hp; simp [refs_nil] at hp
  | succ n ih =>
    intro t h p hp
    cases t with
    | nil => simp [refs_nil] at hp
    | cons c r =>
      rw [List.length_cons] at h
      rw [refs_cons] at hp
      split at hp
      · rename_i hr
        rcases List.mem_cons.mp hp with rfl | hp
        · exact okP_of (ref_inv hr).2.2
        · refine ih _ ?_ p hp
          rw [List.length_drop, List.length_cons]
          unfold refEnd
          omega
      · exact ih r (by omega) p hp
/-! #### values -/
def txtRefs : Dt → List Pa
  | .tup [.str s, .str t] => if s = s_text_a7c7 then refsT t else []
  | _ => []
def lstOf : Dt → List Dt
  | .tup [.str s, .tup xs] => if s = s_list_f818 then xs else []
  | _ => []
def nmV : Nat → Dt → List Pa
  | 0, v => txtRefs v
  | k + 1, v => txtRefs v ++ (lstOf v).flatMap (nmV k)
def ppD (x : Pa × Pa) : Dt := .tup [pth x.1, pth x.2]
theorem eqD_pp (x y : Pa × Pa) : eqD (ppD x) (ppD y) = decide (x = y) := by
  show (eqD (pth x.1) (pth y.1) && (eqD (pth x.2) (pth y.2) && true)) = _
  rw [eqD_pth, eqD_pth, Bool.and_true]
  obtain ⟨a, b⟩ := x
  obtain ⟨c, d⟩ := y
  by_cases h1 : a = c <;> by_cases h2 : b = d <;> simp [h1, h2]
theorem key_pp (x : Pa × Pa) : keyB (ppD x) = true := by
  have h1 := key_pth x.1
  have h2 := key_pth x.2
  unfold keyB at h1 h2 ⊢
  simp only [Bool.and_eq_true, decide_eq_true_eq] at h1 h2
  simp only [ppD, isTupD, keyOk, keyOks, depD, depDs, dep_pth, h1.1.2, h2.1.2]
  decide
theorem dep_pp (x : Pa × Pa) : depD (ppD x) = 2 := by simp [ppD, depD, depDs, dep_pth]
theorem alike_pp (x y : Pa × Pa) : alikeD (ppD x) (ppD y) = true := by
  show (alikeD (pth x.1) (pth y.1) && (alikeD (pth x.2) (pth y.2) && true)) = true
  rw [alike_pth, alike_pth]; rfl
def ltPP (x y : Pa × Pa) : Bool := ltB (ppD x) (ppD y)
theorem ppD_inj {x y : Pa × Pa} (h : keyD (ppD x) = keyD (ppD y)) : x = y := by
  obtain ⟨a, b⟩ := x
  obtain ⟨c, d⟩ := y
  simp only [ppD, pth, keyD, keyDs, List.cons_append, List.nil_append, List.cons.injEq, true_and] at h
  obtain ⟨e1, e2⟩ := key_app_inj h
  simp only [List.cons.injEq, true_and] at e2
  obtain ⟨e3, _⟩ := key_app_inj e2
  rw [e1, e3]
theorem ltPP_irrefl (a : Pa × Pa) : ltPP a a = false := row_irrefl _
theorem ltPP_trans {a b c : Pa × Pa} (h : ltPP a b = true) (h2 : ltPP b c = true) : ltPP a c = true := row_trans h h2
theorem ltPP_tri {a b : Pa × Pa} (h : ltPP a b = false) (h2 : ltPP b a = false) : a = b := ppD_inj (row_tri h h2)
theorem ltPP_asymm {a b : Pa × Pa} (h : ltPP a b = true) : ltPP b a = false := row_asym h
def sortPP (l : List (Pa × Pa)) : List (Pa × Pa) := l.mergeSort fun a b => !ltPP b a
theorem sortPP_perm (l : List (Pa × Pa)) : (sortPP l).Perm l := List.mergeSort_perm ..
theorem sortPP_pair (l : List (Pa × Pa)) : (sortPP l).Pairwise fun a b => ltPP b a = false := by
  have h := List.pairwise_mergeSort (le := fun a b => !ltPP b a) (fun a b c h1 h2 => ?_) (fun a b => ?_) l
  · exact h.imp fun h => by simpa using h
  · simp only [Bool.not_eq_true'] at h1 h2 ⊢
    cases q : ltPP c a with
    | false => rfl
    | true =>
      cases q2 : ltPP a b with
      | true => rw [ltPP_trans q q2] at h2; cases h2
      | false => rw [ltPP_tri q2 h1] at q; rw [h2] at q; cases q
  · cases q : ltPP b a with
    | false => rfl
    | true => simp [ltPP_asymm q]
theorem sortD_pp (l : List (Pa × Pa)) : sortD (l.map ppD) = (sortPP l).map ppD := by
  exact (List.map_mergeSort (r := fun a b => !ltPP b a) (s := fun a b => !ltB b a) (f := ppD) (l := l) (fun a _ b _ => rfl)).symm
/-- rising rows without doubles are the same if they have the same -/
theorem rising_eq : ∀ {l m : List (Pa × Pa)}, l.Pairwise (fun a b => ltPP b a = false) → m.Pairwise (fun a b => ltPP b a = false) → l.Perm m → l = m
  | [], m, _, _, h => (List.Perm.nil_eq h)
  | a :: l, [], _, _, h => by have := h.length_eq; simp at this
  | a :: l, b :: m, h1, h2, h => by
    obtain ⟨p1, q1⟩ := List.pairwise_cons.mp h1
    obtain ⟨p2, q2⟩ := List.pairwise_cons.mp h2
    have e : a = b := by
      rcases List.mem_cons.mp (h.mem_iff.mp List.mem_cons_self) with e | e
      · exact e
      · rcases List.mem_cons.mp (h.mem_iff.mpr List.mem_cons_self) with e2 | e2
        · exact e2.symm
        · exact (ltPP_tri (p1 b e2) (p2 a e)).symm.symm.symm.symm |> fun z => by rw [ltPP_tri (p2 a e) (p1 b e2)]
    subst e
    rw [rising_eq q1 q2 (List.Perm.cons_inv h)]
/-- unlike ones, the first ones -/
def insN (L : List (Pa × Pa)) (x : Pa × Pa) : List (Pa × Pa) := if x ∈ L then L else L ++ [x]
def firstN (L : List (Pa × Pa)) : List (Pa × Pa) := L.foldl insN []
theorem insN_nd {L : List (Pa × Pa)} {x : Pa × Pa} (h : L.Nodup) : (insN L x).Nodup := by
  unfold insN
  split
  · exact h
  · rename_i hx
    refine List.nodup_append.mpr ⟨h, by simp, fun a ha b hb e => ?_⟩
    rw [List.mem_singleton] at hb
    subst hb e
    exact hx ha
theorem insN_mem {L : List (Pa × Pa)} {x y : Pa × Pa} : y ∈ insN L x ↔ y ∈ L ∨ y = x := by
  unfold insN
  split
  · rename_i h
    exact ⟨.inl, fun z => z.elim id fun e => by rw [e]; exact h⟩
  · rw [List.mem_append, List.mem_singleton]
theorem foldN : ∀ (M L : List (Pa × Pa)), L.Nodup → (M.foldl insN L).Nodup ∧ ∀ y, y ∈ M.foldl insN L ↔ y ∈ L ∨ y ∈ M
  | [], L, h => ⟨h, fun y => by simp⟩
  | x :: M, L, h => by
    obtain ⟨h1, h2⟩ := foldN M (insN L x) (insN_nd h)
    refine ⟨h1, fun y => ?_⟩
    rw [List.foldl_cons, h2 y, insN_mem, List.mem_cons, or_assoc]
theorem firstN_nd (L : List (Pa × Pa)) : (firstN L).Nodup := (foldN L [] List.nodup_nil).1
theorem firstN_mem {L : List (Pa × Pa)} {y : Pa × Pa} : y ∈ firstN L ↔ y ∈ L := by
  have := (foldN L [] List.nodup_nil).2 y
  simpa [firstN] using this
/-- unlike ones, the last ones -/
def nubN : List (Pa × Pa) → List (Pa × Pa)
  | [] => []
  | x :: xs => if x ∈ xs then nubN xs else x :: nubN xs
theorem nub_pp : ∀ l : List (Pa × Pa), nubD (l.map ppD) = (nubN l).map ppD
  | [] => rfl
  | x :: xs => by
    rw [List.map_cons, nubD, nubN, nub_pp xs]
    have : ((xs.map ppD).any fun z => eqD (ppD x) z) = decide (x ∈ xs) := by
      rw [List.any_map]
      induction xs with
      | nil => rfl
      | cons y ys ih =>
        rw [List.any_cons]
        show (eqD (ppD x) (ppD y) || ys.any ((fun z => eqD (ppD x) z) ∘ ppD)) = _
        rw [ih, eqD_pp]
        simp [List.mem_cons]
    rw [this]
    by_cases h : x ∈ xs <;> simp [h]
theorem nubN_mem : ∀ {l : List (Pa × Pa)} {x : Pa × Pa}, x ∈ nubN l ↔ x ∈ l
  | [], x => Iff.rfl
  | y :: ys, x => by
    unfold nubN
    split
    · rename_i h
      rw [nubN_mem, List.mem_cons]
      exact ⟨.inr, fun z => z.elim (fun e => by rw [e]; exact h) id⟩
    · rw [List.mem_cons, nubN_mem, List.mem_cons]
theorem nubN_nodup : ∀ l : List (Pa × Pa), (nubN l).Nodup
  | [] => List.nodup_nil
  | y :: ys => by
    unfold nubN
    split
    · exact nubN_nodup ys
    · rename_i h
      exact List.nodup_cons.mpr ⟨fun z => h (nubN_mem.mp z), nubN_nodup ys⟩
theorem sort_first_nub {L M : List (Pa × Pa)} (h : ∀ x, x ∈ L ↔ x ∈ M) : sortPP (firstN L) = sortPP (nubN M) := by
  refine rising_eq (sortPP_pair _) (sortPP_pair _) ?_
  refine (sortPP_perm _).trans (List.Perm.trans ?_ (sortPP_perm _).symm)
  rw [List.perm_ext_iff_of_nodup (firstN_nd L) (nubN_nodup M)]
  intro x
  rw [firstN_mem, nubN_mem, h x]
/-- each setting with each path that it refers to -/
def pairsS (S : List Sg) : List (Pa × Pa) := S.flatMap fun s => (nmV 2 s.2).map fun o => (s.1, o)
/-! ### references: what is run -/
theorem cut_ab {α : Type} (xs : List α) (a b : Nat) (h : a ≤ b) : cutL xs (some (a : Int)) (some (b : Int)) = (xs.drop a).take (b - a) := by
  unfold cutL slP
  have h1 : ¬ (a : Int) < 0 := by omega
  have h2 : ¬ (b : Int) < 0 := by omega
  simp only [h1, h2, if_false, Int.toNat_natCast]
  by_cases ha : a ≤ xs.length
  · rw [Nat.min_eq_left ha]
    by_cases hb : b ≤ xs.length
    · rw [Nat.min_eq_left hb]
    · rw [Nat.min_eq_right (by omega), List.take_of_length_le (by rw [List.length_drop]; omega), List.take_of_length_le (by rw [List.length_drop]; omega)]
  · have e : min a xs.length = xs.length := Nat.min_eq_right (by omega)
    rw [e, List.drop_of_length_le (Nat.le_refl _), List.drop_of_length_le (by omega)]
    simp
theorem findG_eq (c : Nat) : ∀ (l : List Nat) (k : Nat), findG c k l = if c ∈ l then ((k + (l.takeWhile fun x => decide (x ≠ c)).length : Nat) : Int) else -1
  | [], k => rfl
  | x :: xs, k => by
    rw [findG]
    by_cases h : x = c
    · subst h
      simp
    · rw [if_neg h, findG_eq c xs (k + 1)]
      have h' : ¬ c = x := fun e => h e.symm
      by_cases hm : c ∈ xs
      · simp [hm, h, h']; omega
      · simp [hm, h, h']
theorem find_d {Γ : Gam} {ρ : Ev} {st : Sr} {a i : Ex} {c p : Nat} {t : List Nat} (h1 : evE Γ a ρ st = .ok (.d (.str t), st)) (h2 : evE Γ i ρ st = .ok (.d (.int (p : Nat)), st)) : evE Γ (.find a c i) ρ st = .ok (.d (.int (findG c p (t.drop p))), st) := by
  rw [evE_find, h1, Rs.bind_ok, bind_strW]
  dsimp only
  rw [h2, Rs.bind_ok]
  refine op1_ok ?_
  unfold findS
  dsimp only
  rw [if_pos (by omega), Int.toNat_natCast]
theorem slyy_d {Γ : Gam} {ρ : Ev} {st : Sr} {a lo hi : Ex} {x z : Dt} {i j : Int} (h1 : evE Γ a ρ st = .ok (.d x, st)) (h2 : evE Γ lo ρ st = .ok (.d (.int i), st)) (h3 : evE Γ hi ρ st = .ok (.d (.int j), st)) (h4 : slD x (some i) (some j) = some z) : evE Γ (.sl a (.yes lo) (.yes hi)) ρ st = .ok (.d z, st) := by
  rw [evE_sl, h1, Rs.bind_ok, evO_yes, h2]
  simp only [Rs.bind_ok, intW_i, Option.map_some, Rs.ofO_some]
  rw [evO_yes, h3]
  simp only [Rs.bind_ok, intW_i, Option.map_some, Rs.ofO_some]
  exact op1_ok h4
theorem str_d {Γ : Gam} {ρ : Ev} {st : Sr} {s : List Nat} : evE Γ (.str s) ρ st = .ok (.d (.str s), st) := by rw [evE]
theorem non_d {Γ : Gam} {ρ : Ev} {st : Sr} : evE Γ .non ρ st = .ok (.d .non, st) := by rw [evE]
theorem take_tw (l : List Nat) (p : Nat → Bool) : l.take (l.takeWhile p).length = l.takeWhile p := by
  induction l with
  | nil => rfl
  | cons x xs ih =>
    rw [List.takeWhile_cons]
    cases p x with
    | true => simp [ih]
    | false => simp
theorem ref_head {t : List Nat} (h : t.take 2 = [36, 123]) : t = 36 :: 123 :: t.drop 2 := by
  have := List.take_append_drop 2 t
  rw [h] at this
  exact this.symm
theorem run_ref' (n : Nat) (a b : Dt) : runP tab gls (n + 1) c_reference_at [a, b] = (exSs (Gm n) b_reference_at [some (.d a), some (.d b), none, none] []).bind endD := rfl
theorem ref_find {t : List Nat} {p : Nat} (h : (t.drop p).take 2 = [36, 123]) : findG 125 p (t.drop p) = if 125 ∈ (t.drop p).drop 2 then ((p + refEnd (t.drop p) - 1 : Nat) : Int) else -1 := by
  rw [findG_eq]
  generalize t.drop p = u at h ⊢
  have hm : 125 ∈ u ↔ 125 ∈ u.drop 2 := by
    have e := ref_head h
    constructor
    · intro z
      rw [e] at z
      simpa using z
    · intro z; exact List.mem_of_mem_drop z
  have e : (u.takeWhile fun x => decide (x ≠ 125)) = 36 :: 123 :: ((u.drop 2).takeWhile fun x => decide (x ≠ 125)) := by
    have e := ref_head h
    generalize u.drop 2 = v at e ⊢
    subst e
    rfl
  by_cases hd : 125 ∈ u.drop 2
  · rw [if_pos hd, if_pos (hm.mpr hd)]
    unfold refEnd
    rw [e, List.length_cons, List.length_cons]
    omega
  · rw [if_neg hd, if_neg fun z => hd (hm.mp z)]
theorem run_ref (n : Nat) (t : List Nat) (p : Nat) (ht : t.length ≤ 1000) : runP tab gls (n + 3) c_reference_at [.str t, .int (p : Nat)] = .ok (if isRef (t.drop p) = true then .tup [pth (refNs (t.drop p)), .int ((p + refEnd (t.drop p) : Nat) : Int)] else .non) := by
  rw [run_ref']
  unfold b_reference_at
  have hsl : evE (Gm (n + 2)) (.sl (.v 0) (.yes (.v 1)) (.yes (.bin .add (.v 1) (.int 2)))) [some (.d (.str t)), some (.d (.int (p : Nat))), none, none] [] = .ok (.d (.str ((t.drop p).take 2)), []) := by
    refine slyy_d (v_d rfl) (v_d rfl) (bin_d (v_d rfl) int_d rfl) ?_
    rw [sl_s, show ((p : Nat) : Int) + 2 = ((p + 2 : Nat) : Int) by omega, cut_ab _ _ _ (by omega), show p + 2 - p = 2 by omega]
  by_cases h1 : (t.drop p).take 2 = [36, 123]
  · rw [exSs_nx (exS_if_no (cmp_d hsl str_d (ne_ss _ _)) (by rw [h1]; decide))]
    rw [exSs_nx (exS_set_ok (find_d (v_d rfl) (v_d rfl)))]
    dsimp only [List.set]
    rw [ref_find h1]
    by_cases h2 : 125 ∈ (t.drop p).drop 2
    · rw [if_pos h2]
      have he : p + 2 ≤ p + refEnd (t.drop p) - 1 := by unfold refEnd; omega
      rw [exSs_nx (exS_if_no (cmp_d (v_d rfl) int_d (lt_ii _ _)) (by simp <;> omega))]
      have hcut : cutL t (some ((p + 2 : Nat) : Int)) (some ((p + refEnd (t.drop p) - 1 : Nat) : Int)) = ((t.drop p).drop 2).takeWhile fun c => decide (c ≠ 125) := by
        rw [cut_ab _ _ _ he, List.drop_drop]
        have : p + refEnd (List.drop p t) - 1 - (p + 2) = (((t.drop p).drop 2).takeWhile fun c => decide (c ≠ 125)).length := by unfold refEnd; omega
        rw [this, List.drop_drop, take_tw]
      have hsp : evE (Gm (n + 2)) (.p1 .tuple (.m1 .split (.sl (.v 0) (.yes (.bin .add (.v 1) (.int 2))) (.yes (.v 2))) (.str [46]))) [some (.d (.str t)), some (.d (.int (p : Nat))), some (.d (.int ((p + refEnd (t.drop p) - 1 : Nat) : Int))), none] [] = .ok (.d (pth (refNs (t.drop p))), []) := by
        refine evE_p1_ok (x := .lst ((refNs (t.drop p)).map Dt.str)) (evE_m1_ok (s := ((t.drop p).drop 2).takeWhile fun c => decide (c ≠ 125)) (slyy_d (v_d rfl) (bin_d (v_d rfl) int_d rfl) (v_d rfl) ?_) str_d ?_) rfl
        · rw [sl_s, ← hcut]
          rfl
        · refine if_pos ?_
          have := (List.takeWhile_sublist (fun c => decide (c ≠ 125)) (l := (t.drop p).drop 2)).length_le
          rw [List.length_drop, List.length_drop] at this
          omega
      rw [exSs_nx (exS_set_ok hsp)]
      dsimp only [List.set]
      have hc : evE (Gm (n + 2)) (.call c_is_path (.cons (.v 3) .nil)) [some (.d (.str t)), some (.d (.int (p : Nat))), some (.d (.int ((p + refEnd (t.drop p) - 1 : Nat) : Int))), some (.d (pth (refNs (t.drop p))))] [] = .ok (.d (.bl (isPathD (pth (refNs (t.drop p))))), []) := by
        rw [call1_v (v_d rfl), run_is_path]; rfl
      cases h3 : isPathD (pth (refNs (t.drop p))) with
      | false =>
        rw [h3] at hc
        rw [exSs_rt ((exS_if_yes (not_d hc) rfl).trans (exSs_rt (exS_ret_ok non_d)))]
        have : isRef (t.drop p) = false := by unfold isRef; rw [h3]; simp
        rw [this]; rfl
      | true =>
        rw [h3] at hc
        rw [exSs_nx (exS_if_no (not_d hc) rfl), exSs_rt (exS_ret_ok (tup2_d (v_d rfl) (bin_d (v_d rfl) int_d rfl)))]
        have : isRef (t.drop p) = true := by unfold isRef; rw [h3, decide_eq_true h1, decide_eq_true h2]; rfl
        rw [this, if_pos rfl, show ((p + refEnd (t.drop p) - 1 : Nat) : Int) + 1 = ((p + refEnd (t.drop p) : Nat) : Int) by omega]
        rfl
    · rw [if_neg h2]
      rw [exSs_rt ((exS_if_yes (cmp_d (v_d rfl) int_d (lt_ii _ _)) (by rfl)).trans (exSs_rt (exS_ret_ok non_d)))]
      have : isRef (t.drop p) = false := by unfold isRef; rw [decide_eq_false h2]; simp
      rw [this]; rfl
  · rw [exSs_rt ((exS_if_yes (cmp_d hsl str_d (ne_ss _ _)) (by rw [decide_eq_false h1]; rfl)).trans (exSs_rt (exS_ret_ok non_d)))]
    have : isRef (t.drop p) = false := by unfold isRef; rw [decide_eq_false h1]; rfl
    rw [this]; rfl
/-! #### a text's pieces -/
theorem run_pieces' (n : Nat) (a : Dt) : runP tab gls (n + 1) c_pieces_of [a] = (exSs (Gm n) b_pieces_of [some (.d a), none, none, none, none] []).bind endD := rfl
theorem hnx3 {Γ : Gam} {a : Sm} {ρ ρ' : Ev} {st st' : Sr} (h : exS Γ a ρ st = .ok ((.nx, ρ'), st')) : exSs Γ (.cons a .nil) ρ st = .ok ((.nx, ρ'), st') := by rw [exSs_nx h, exSs_nil]
theorem appD {Γ : Gam} {ρ : Ev} {vs : List Dt} {i : Nat} {e : Ex} {y : Dt} (h1 : ρ[i]? = some (some (.ob 0))) (h2 : evE Γ e ρ [.lst vs] = .ok (.d y, [.lst vs])) (h3 : vs.length < 16777216) : exS Γ (.app i e) ρ [.lst vs] = .ok ((.nx, ρ), [.lst (vs ++ [y])]) := app0 h1 h2 h3
theorem drop_at {t : List Nat} {p : Nat} (h : p < t.length) : ∃ c, t.drop p = c :: t.drop (p + 1) ∧ ixD (.str t) (.int (p : Nat)) = some (.str [c]) := by
  refine ⟨t[p], (List.drop_eq_getElem_cons h), ?_⟩
  simp [ixD, ixL, ixP, h]
theorem pieces_whl (n : Nat) (t : List Nat) (ht : t.length ≤ 1000) : ∀ (m p N : Nat) (acc : List Dt) (x3 x4 : Option Wv), t.length - p ≤ m → m < N → acc.length ≤ p →
    ∃ y2 y3 y4, exWhl (evT (Gm (n + 3)) wc0_pieces_of) (exSs (Gm (n + 3)) wb0_pieces_of) N [some (.d (.str t)), some (.ob 0), some (.d (.int (p : Nat))), x3, x4] [.lst acc] = .ok ((.nx, [some (.d (.str t)), some (.ob 0), y2, y3, y4]), [.lst (acc ++ (scanL (t.drop p)).map pcD)])
  | m, p, 0, acc, x3, x4, h1, h2, h3 => by omega
  | m, p, N + 1, acc, x3, x4, h1, h2, h3 => by
    have hc : evT (Gm (n + 3)) wc0_pieces_of [some (.d (.str t)), some (.ob 0), some (.d (.int (p : Nat))), x3, x4] [.lst acc] = .ok (decide ((p : Int) < (t.length : Int)), [.lst acc]) := by
      rw [evT_eq, cmp_d (v_d rfl) (evE_p1_ok (v_d rfl) (len_s t)) (lt_ii _ _)]
      rfl
    by_cases hp : p < t.length
    · rw [decide_eq_true (by omega)] at hc
      obtain ⟨c, e1, e2⟩ := drop_at hp
      have hr : evE (Gm (n + 3)) (.call c_reference_at (.cons (.v 0) (.cons (.v 2) .nil))) [some (.d (.str t)), some (.ob 0), some (.d (.int (p : Nat))), x3, x4] [.lst acc] = .ok (.d (if isRef (t.drop p) = true then .tup [pth (refNs (t.drop p)), .int ((p + refEnd (t.drop p) : Nat) : Int)] else .non), [.lst acc]) := by
        rw [call2_v (v_d rfl) (v_d rfl), run_ref n t p ht]; rfl
      by_cases hR : isRef (t.drop p) = true
      · rw [if_pos hR] at hr
        have hb : exSs (Gm (n + 3)) wb0_pieces_of [some (.d (.str t)), some (.ob 0), some (.d (.int (p : Nat))), x3, x4] [.lst acc] = .ok ((.nx, [some (.d (.str t)), some (.ob 0), some (.d (.int ((p + refEnd (t.drop p) : Nat) : Int))), some (.d (.tup [pth (refNs (t.drop p)), .int ((p + refEnd (t.drop p) : Nat) : Int)])), some (.d (pth (refNs (t.drop p))))]), [.lst (acc ++ [pth (refNs (t.drop p))])]) := by
          unfold wb0_pieces_of
          rw [exSs_nx (exS_set_ok hr)]
          dsimp only [List.set]
          refine hnx3 ?_
          rw [exS_if_no2 (x := .bl false) (evE_cmp_ok (v_d rfl) non_d rfl) rfl]
          have hu : exS (Gm (n + 3)) (.unp [4, 2] (.v 3)) [some (.d (.str t)), some (.ob 0), some (.d (.int (p : Nat))), some (.d (.tup [pth (refNs (t.drop p)), .int ((p + refEnd (t.drop p) : Nat) : Int)])), x4] [.lst acc] = .ok ((.nx, [some (.d (.str t)), some (.ob 0), some (.d (.int ((p + refEnd (t.drop p) : Nat) : Int))), some (.d (.tup [pth (refNs (t.drop p)), .int ((p + refEnd (t.drop p) : Nat) : Int)])), some (.d (pth (refNs (t.drop p))))]), [.lst acc]) := by
            rw [exS_unp, v_d rfl, Rs.bind_ok, unp2]; rfl
          rw [exSs_nx hu]
          exact hnx (app0 rfl (v_d rfl) (by omega))
        rw [exWhl_go hc hb]
        have hre : 1 ≤ refEnd (t.drop p) := by unfold refEnd; omega
        obtain ⟨y2, y3, y4, e3⟩ := pieces_whl n t ht (m - 1) (p + refEnd (t.drop p)) N (acc ++ [pth (refNs (t.drop p))]) (some (.d (.tup [pth (refNs (t.drop p)), .int ((p + refEnd (t.drop p) : Nat) : Int)]))) (some (.d (pth (refNs (t.drop p))))) (by omega) (by omega) (by rw [List.length_append, List.length_singleton]; omega)
        refine ⟨y2, y3, y4, e3.trans ?_⟩
        rw [e1, scan_cons, ← e1, if_pos hR, List.map_cons, ← List.drop_drop, List.append_assoc]
        rfl
      · rw [if_neg hR] at hr
        have hb : exSs (Gm (n + 3)) wb0_pieces_of [some (.d (.str t)), some (.ob 0), some (.d (.int (p : Nat))), x3, x4] [.lst acc] = .ok ((.nx, [some (.d (.str t)), some (.ob 0), some (.d (.int ((p + 1 : Nat) : Int))), some (.d .non), x4]), [.lst (acc ++ [.str [c]])]) := by
          unfold wb0_pieces_of
          rw [exSs_nx (exS_set_ok hr)]
          dsimp only [List.set]
          refine hnx3 ?_
          rw [exS_if_yes (x := .bl true) (evE_cmp_ok (v_d rfl) non_d rfl) rfl]
          have hix : evE (Gm (n + 3)) (.ix (.v 0) (.v 2)) [some (.d (.str t)), some (.ob 0), some (.d (.int (p : Nat))), some (.d .non), x4] [.lst acc] = .ok (.d (.str [c]), [.lst acc]) := by
            rw [evE_ix, v_d rfl, Rs.bind_ok, v_d rfl, Rs.bind_ok]
            exact op2_ok e2
          rw [exSs_nx (app0 rfl hix (by omega))]
          have hs := exS_set_ok (i := 2) (bin_d (Γ := Gm (n + 3)) (ρ := [some (.d (.str t)), some (.ob 0), some (.d (.int (p : Nat))), some (.d .non), x4]) (st := [.lst (acc ++ [.str [c]])]) (o := .add) (a := .v 2) (b := .int 1) (v_d rfl) int_d rfl)
          rw [exSs_nx hs, exSs_nil]
          rfl
        rw [exWhl_go hc hb]
        obtain ⟨y2, y3, y4, e3⟩ := pieces_whl n t ht (m - 1) (p + 1) N (acc ++ [.str [c]]) (some (.d .non)) x4 (by omega) (by omega) (by rw [List.length_append, List.length_singleton]; omega)
        refine ⟨y2, y3, y4, e3.trans ?_⟩
        rw [e1, scan_cons, ← e1, if_neg hR, List.map_cons, List.append_assoc]
        rfl
    · rw [decide_eq_false (by omega)] at hc
      refine ⟨some (.d (.int (p : Nat))), x3, x4, (exWhl_stop hc).trans ?_⟩
      rw [List.drop_of_length_le (by omega), scan_nil]
      simp
theorem turns_m {m : Nat} (h : m < 1000000) : m < turns := h
theorem run_pieces (n : Nat) (t : List Nat) (ht : t.length ≤ 1000) : runP tab gls (n + 4) c_pieces_of [.str t] = .ok (.lst ((scanL t).map pcD)) := by
  rw [run_pieces']
  unfold b_pieces_of
  rw [exSs_nx (setL_ok (ys := []) (by rw [evE_lst, evEs_nil]; rfl))]
  dsimp only [List.set, List.length_nil, List.nil_append]
  rw [exSs_nx (exS_set_ok int_d)]
  dsimp only [List.set]
  obtain ⟨y2, y3, y4, e⟩ := pieces_whl n t ht t.length 0 turns [] none none (by omega) (turns_m (by omega)) (by simp)
  have e' : exS (Gm (n + 3)) (.whl wc0_pieces_of wb0_pieces_of) [some (.d (.str t)), some (.ob 0), some (.d (.int 0)), none, none] [.lst []] = .ok ((.nx, [some (.d (.str t)), some (.ob 0), y2, y3, y4]), [.lst ((scanL t).map pcD)]) := by
    rw [exS_whl]; exact e
  rw [exSs_nx e', exSs_rt (exS_ret_ok (v_d rfl))]
  rfl
/-! ### what a value names -/
theorem ext0 {Γ : Gam} {ρ : Ev} {vs ys : List Dt} {i : Nat} {e : Ex} (h1 : ρ[i]? = some (some (.ob 0))) (h2 : evE Γ e ρ [.lst vs] = .ok (.d (.lst ys), [.lst vs])) (h3 : vs.length + ys.length ≤ 16777216) : exS Γ (.ext i e) ρ [.lst vs] = .ok ((.nx, ρ), [.lst (vs ++ ys)]) := by
  rw [exS_ext, h1]
  show (evE Γ e ρ [.lst vs]).bind (extW 0 ρ) = _
  rw [h2, Rs.bind_ok]
  unfold extW
  exact if_pos (by rw [lim16]; exact h3)
theorem nmV_text (k : Nat) (t : List Nat) : nmV k (.tup [.str s_text_a7c7, .str t]) = refsT t := by
  cases k with
  | zero =>
    show (if s_text_a7c7 = s_text_a7c7 then refsT t else []) = _
    rw [if_pos rfl]
  | succ k =>
    show (if s_text_a7c7 = s_text_a7c7 then refsT t else []) ++ _ = _
    rw [if_pos rfl]
    show refsT t ++ [] = _
    rw [List.append_nil]
theorem nmV_list (k : Nat) (xs : List Dt) : nmV (k + 1) (.tup [.str s_list_f818, .tup xs]) = xs.flatMap (nmV k) := by
  show [] ++ (if s_list_f818 = s_list_f818 then xs else []).flatMap (nmV k) = _
  rw [if_pos rfl, List.nil_append]
theorem nmV_no (k : Nat) {s : List Nat} (c : Dt) (h1 : s ≠ s_text_a7c7) (h2 : s ≠ s_list_f818) : nmV k (.tup [.str s, c]) = [] := by
  have e1 : txtRefs (.tup [.str s, c]) = [] := by cases c <;> first | rfl | exact if_neg h1
  have e2 : lstOf (.tup [.str s, c]) = [] := by cases c <;> first | rfl | exact if_neg h2
  cases k with
  | zero => exact e1
  | succ k => rw [nmV, e1, e2]; rfl
/-- the shapes of a value -/
theorem val_cases {k : Nat} {v : Dt} (h : isValD k v = true) : (∃ t, v = .tup [.str s_text_a7c7, .str t] ∧ t.length ≤ 60) ∨ (∃ j xs, k = j + 1 ∧ v = .tup [.str s_list_f818, .tup xs] ∧ xs.length ≤ 6 ∧ ∀ x ∈ xs, isValD j x = true) ∨ ∃ s c, v = .tup [.str s, c] ∧ s ≠ s_text_a7c7 ∧ s ≠ s_list_f818 := by
  obtain ⟨s, c, rfl, h1, h2⟩ := isVal_inv h
  by_cases hs : s = s_list_f818
  · obtain ⟨xs, j, e1, e2, e3, e4⟩ := h2 hs
    subst hs e1 e2
    exact .inr (.inl ⟨j, xs, rfl, rfl, e3, e4⟩)
  · rw [isVal_plain hs] at h
    rcases plain_inv h with ⟨e, _⟩ | ⟨e, _⟩ | ⟨e, t, rfl, ht⟩ | ⟨e, _⟩
    · exact .inr (.inr ⟨s, c, rfl, by rw [e]; decide, hs⟩)
    · exact .inr (.inr ⟨s, c, rfl, by rw [e]; decide, hs⟩)
    · subst e; exact .inl ⟨t, rfl, ht⟩
    · exact .inr (.inr ⟨s, c, rfl, by rw [e]; decide, hs⟩)
theorem flat_len {α β : Type} (f : α → List β) (m : Nat) : ∀ (xs : List α), (∀ x ∈ xs, (f x).length ≤ m) → (xs.flatMap f).length ≤ xs.length * m
  | [], _ => by simp
  | x :: xs, h => by
    have a := h x List.mem_cons_self
    have b := flat_len f m xs fun y hy => h y (List.mem_cons_of_mem _ hy)
    rw [List.flatMap_cons, List.length_append, List.length_cons, Nat.succ_mul]
    omega
theorem nmV_len : ∀ (k : Nat) (v : Dt), isValD k v = true → (nmV k v).length ≤ 60 * 6 ^ k := by
  intro k
  induction k with
  | zero =>
    intro v h
    rcases val_cases h with ⟨t, rfl, ht⟩ | ⟨j, xs, e, _⟩ | ⟨s, c, rfl, h1, h2⟩
    · rw [nmV_text]; have := refs_len t; simp; omega
    · cases e
    · rw [nmV_no _ _ h1 h2]; simp
  | succ k ih =>
    intro v h
    have p : 1 ≤ 6 ^ (k + 1) := Nat.pow_pos (by omega)
    rcases val_cases h with ⟨t, rfl, ht⟩ | ⟨j, xs, e, rfl, h3, h4⟩ | ⟨s, c, rfl, h1, h2⟩
    · rw [nmV_text]; have := refs_len t; omega
    · cases e
      rw [nmV_list]
      have a := flat_len (nmV k) (60 * 6 ^ k) xs fun x hx => ih x (h4 x hx)
      have b : xs.length * (60 * 6 ^ k) ≤ 6 * (60 * 6 ^ k) := Nat.mul_le_mul_right _ h3
      rw [Nat.pow_succ]
      omega
    · rw [nmV_no _ _ h1 h2]; simp
theorem isi_pc (x : Nat ⊕ Pa) : isiD .tuple (pcD x) = (refO x).isSome := by cases x <;> rfl
theorem filter_refs : ∀ l : List (Nat ⊕ Pa), (l.filter fun x => (refO x).isSome).map pcD = (l.filterMap refO).map pth
  | [] => rfl
  | .inl c :: l => filter_refs l
  | .inr p :: l => by
    show pcD (.inr p) :: (l.filter fun x => (refO x).isSome).map pcD = pth p :: (l.filterMap refO).map pth
    rw [filter_refs l]
    rfl
theorem isi_d {Γ : Gam} {ρ : Ev} {st : Sr} {a : Ex} {t : Ty} {x : Dt} (h : evE Γ a ρ st = .ok (.d x, st)) : evE Γ (.isi a t) ρ st = .ok (.d (.bl (isiD t x)), st) := by
  rw [evE_isi, h, Rs.bind_ok]
  exact op1_ok rfl
theorem pick_refs {Γ : Gam} {ρ : Ev} {st : Sr} {j : Nat} {l : List (Nat ⊕ Pa)} (hj : j < ρ.length) : lcL [] (lcTurn (evIfs Γ (.cons (.isi (.v j) .tuple) .nil)) (evE Γ (.v j)) (.one j) ρ) (l.map pcD) st = .ok ((l.filterMap refO).map pth, st) := by
  rw [← filter_refs]
  refine lcL_filter' _ pcD (fun x => (refO x).isSome) pcD l fun x _ => ?_
  have g : (ρ.set j (some (.d (pcD x))))[j]? = some (some (.d (pcD x))) := List.getElem?_set_self hj
  refine lcTurn_if ?_ fun _ => v_d g
  rw [evIfs_one, isi_d (v_d g), Rs.bind_ok, truW_d, Rs.bind_ok, truthD_bl, isi_pc]
theorem ix_d {Γ : Gam} {ρ : Ev} {st : Sr} {a i : Ex} {x y z : Dt} (h1 : evE Γ a ρ st = .ok (.d x, st)) (h2 : evE Γ i ρ st = .ok (.d y, st)) (h3 : ixD x y = some z) : evE Γ (.ix a i) ρ st = .ok (.d z, st) := by
  rw [evE_ix, h1, Rs.bind_ok, h2, Rs.bind_ok]
  exact op2_ok h3
theorem run_named' (n : Nat) (a : Dt) : runP tab gls (n + 1) c_named_in [a] = (exSs (Gm n) b_named_in [some (.d a), none, none, none] []).bind endD := rfl
theorem run_named : ∀ (k n : Nat) (v : Dt), k ≤ 3 → isValD k v = true → runP tab gls (n + k + 5) c_named_in [v] = .ok (.lst ((nmV k v).map pth)) := by
  intro k
  induction k with
  | zero =>
    intro n v _ h
    rw [run_named']
    unfold b_named_in
    rcases val_cases h with ⟨t, rfl, ht⟩ | ⟨j, xs, e, _⟩ | ⟨s, c, rfl, h1, h2⟩
    · have e1 : evE (Gm (n + 0 + 4)) (.lc (.v 3) (.one 3) (.seq (.call c_pieces_of (.cons (.ix (.v 0) (.int 1)) .nil))) (.cons (.isi (.v 3) .tuple) .nil)) [some (.d (.tup [.str s_text_a7c7, .str t])), none, none, none] [] = .ok (.d (.lst ((refsT t).map pth)), []) := by
        refine evE_lc_ok (xs := (scanL t).map pcD) ?_ (pick_refs (by simp)) ?_
        · rw [evI_seq, call1_v (ix_d (z := .str t) (v_d rfl) int_d rfl), run_pieces n t (by omega)]
          rfl
        · rw [List.length_map]; have := refs_len t; omega
      rw [exSs_rt ((exS_if_yes (cmp_d (ix_d (z := .str s_text_a7c7) (v_d rfl) int_d rfl) str_d (eq_ss _ _)) (by simp)).trans (exSs_rt (exS_ret_ok e1))), nmV_text]
      rfl
    · cases e
    · rw [exSs_nx (exS_if_no (cmp_d (ix_d (z := .str s) (v_d rfl) int_d rfl) str_d (eq_ss _ _)) (by simpa using h1))]
      rw [exSs_nx (setL_ok (ys := []) (by rw [evE_lst, evEs_nil]; rfl))]
      dsimp only [List.set, List.length_nil, List.nil_append]
      rw [exSs_nx (exS_if_no (cmp_d (ix_d (z := .str s) (v_d rfl) int_d rfl) str_d (eq_ss _ _)) (by simpa using h2)), exSs_rt (exS_ret_ok (v_d rfl)), nmV_no _ _ h1 h2]
      rfl
  | succ k ih =>
    intro n v hk h
    rw [run_named']
    unfold b_named_in
    rcases val_cases h with ⟨t, rfl, ht⟩ | ⟨j, xs, e, rfl, h3, h4⟩ | ⟨s, c, rfl, h1, h2⟩
    · have e1 : evE (Gm (n + (k + 1) + 4)) (.lc (.v 3) (.one 3) (.seq (.call c_pieces_of (.cons (.ix (.v 0) (.int 1)) .nil))) (.cons (.isi (.v 3) .tuple) .nil)) [some (.d (.tup [.str s_text_a7c7, .str t])), none, none, none] [] = .ok (.d (.lst ((refsT t).map pth)), []) := by
        refine evE_lc_ok (xs := (scanL t).map pcD) ?_ (pick_refs (by simp)) ?_
        · rw [evI_seq, call1_v (ix_d (z := .str t) (v_d rfl) int_d rfl), run_pieces (n + (k + 1)) t (by omega)]
          rfl
        · rw [List.length_map]; have := refs_len t; omega
      rw [exSs_rt ((exS_if_yes (cmp_d (ix_d (z := .str s_text_a7c7) (v_d rfl) int_d rfl) str_d (eq_ss _ _)) (by simp)).trans (exSs_rt (exS_ret_ok e1))), nmV_text]
      rfl
    · cases e
      rw [exSs_nx (exS_if_no (cmp_d (ix_d (z := .str s_list_f818) (v_d rfl) int_d rfl) str_d (eq_ss _ _)) (by decide))]
      rw [exSs_nx (setL_ok (ys := []) (by rw [evE_lst, evEs_nil]; rfl))]
      dsimp only [List.set, List.length_nil, List.nil_append]
      have key : ∀ (ys : List Dt) (acc : List Dt) (x2 : Option Wv), (∀ y ∈ ys, isValD k y = true) → acc.length + ys.length * (60 * 6 ^ k) ≤ 1000000 → ∃ y2, exFor (exSs (Gm (n + (k + 1) + 4)) fb0_named_in) (.one 2) [] ys [some (.d (.tup [.str s_list_f818, .tup xs])), some (.ob 0), x2, none] [.lst acc] = .ok ((.nx, [some (.d (.tup [.str s_list_f818, .tup xs])), some (.ob 0), y2, none]), [.lst (acc ++ (ys.flatMap (nmV k)).map pth)]) := by
        intro ys
        induction ys with
        | nil => intro acc x2 _ _; exact ⟨x2, by simp [exFor]⟩
        | cons y ys ihy =>
          intro acc x2 hv hl
          have vy := hv y List.mem_cons_self
          have ly := nmV_len k y vy
          rw [List.length_cons, Nat.succ_mul] at hl
          have hr := ih (n) y (by omega) vy
          obtain ⟨y2, e⟩ := ihy (acc ++ (nmV k y).map pth) (some (.d y)) (fun z hz => hv z (List.mem_cons_of_mem _ hz)) (by rw [List.length_append, List.length_map]; omega)
          refine ⟨y2, ?_⟩
          have hb : exSs (Gm (n + (k + 1) + 4)) fb0_named_in [some (.d (.tup [.str s_list_f818, .tup xs])), some (.ob 0), some (.d y), none] [.lst acc] = .ok ((.nx, [some (.d (.tup [.str s_list_f818, .tup xs])), some (.ob 0), some (.d y), none]), [.lst (acc ++ (nmV k y).map pth)]) := by
            unfold fb0_named_in
            refine hnx (ext0 rfl ?_ (by rw [List.length_map]; omega))
            rw [call1_v (v_d rfl), show n + (k + 1) + 4 = n + k + 5 by omega, hr]
            rfl
          rw [exFor_cons (by rfl) hb rfl, e, List.flatMap_cons, List.map_append, List.append_assoc]
      have hp : xs.length * (60 * 6 ^ k) ≤ 6 * (60 * 6 ^ 2) := Nat.mul_le_mul h3 (Nat.mul_le_mul_left _ (Nat.pow_le_pow_right (by omega) (by omega)))
      obtain ⟨y2, e⟩ := key xs [] none h4 (by simp at hp ⊢; omega)
      have hf : exS (Gm (n + (k + 1) + 4)) (.forS (.one 2) (.seq (.ix (.v 0) (.int 1))) fb0_named_in) [some (.d (.tup [.str s_list_f818, .tup xs])), some (.ob 0), none, none] [.lst []] = .ok ((.nx, [some (.d (.tup [.str s_list_f818, .tup xs])), some (.ob 0), y2, none]), [.lst ([] ++ (xs.flatMap (nmV k)).map pth)]) := by
        refine exS_for_ok (xs := xs) ?_ e
        rw [evI_seq, ix_d (z := .tup xs) (v_d rfl) int_d rfl]
        rfl
      rw [exSs_nx ((exS_if_yes (cmp_d (ix_d (z := .str s_list_f818) (v_d rfl) int_d rfl) str_d (eq_ss _ _)) (by simp)).trans (hnx3 hf)), exSs_rt (exS_ret_ok (v_d rfl)), nmV_list]
      rfl
    · rw [exSs_nx (exS_if_no (cmp_d (ix_d (z := .str s) (v_d rfl) int_d rfl) str_d (eq_ss _ _)) (by simpa using h1))]
      rw [exSs_nx (setL_ok (ys := []) (by rw [evE_lst, evEs_nil]; rfl))]
      dsimp only [List.set, List.length_nil, List.nil_append]
      rw [exSs_nx (exS_if_no (cmp_d (ix_d (z := .str s) (v_d rfl) int_d rfl) str_d (eq_ss _ _)) (by simpa using h2)), exSs_rt (exS_ret_ok (v_d rfl)), nmV_no _ _ h1 h2]
      rfl
/-! #### refers -/
def kvN (L : List (Pa × Pa)) : List (Dt × Dt) := L.map fun x => (ppD x, .bl true)
theorem getN (L : List (Pa × Pa)) (x : Pa × Pa) : getK (kvN L) (ppD x) = if x ∈ L then some (.bl true) else none := by
  induction L with
  | nil => rfl
  | cons y L ih =>
    unfold getK kvN at ih ⊢
    rw [List.map_cons, List.find?_cons]
    dsimp only
    rw [eqD_pp]
    by_cases h : y = x
    · rw [decide_eq_true h, if_pos (by simp [h])]; rfl
    · rw [decide_eq_false h]
      simp only
      rw [ih]
      have h' : ¬ x = y := fun e => h e.symm
      simp [h']
theorem putN (L : List (Pa × Pa)) (x : Pa × Pa) : putK (kvN L) (ppD x) (.bl true) = kvN (insN L x) := by
  unfold putK insN
  rw [getN]
  by_cases h : x ∈ L
  · rw [if_pos h, if_pos h]
    simp only [Option.isSome_some, if_true]
    unfold kvN
    rw [List.map_map]
    refine List.map_congr_left fun y _ => ?_
    simp
  · rw [if_neg h, if_neg h]
    simp [kvN]
theorem foldN_len : ∀ (M L : List (Pa × Pa)), (M.foldl insN L).length ≤ L.length + M.length
  | [], L => by simp
  | x :: M, L => by
    have := foldN_len M (insN L x)
    have h : (insN L x).length ≤ L.length + 1 := by unfold insN; split <;> simp
    rw [List.foldl_cons, List.length_cons]
    omega
theorem sortable_pp (L : List (Pa × Pa)) : sortableD (L.map ppD) = true := by
  unfold sortableD
  simp only [Bool.and_eq_true, List.all_eq_true, decide_eq_true_eq, Bool.or_eq_true]
  refine ⟨⟨fun x hx y hy => ?_, .inl fun x hx => ?_⟩, ?_⟩
  · obtain ⟨p, _, rfl⟩ := List.mem_map.mp hx
    obtain ⟨q, _, rfl⟩ := List.mem_map.mp hy
    exact alike_pp p q
  · obtain ⟨p, hp, rfl⟩ := List.mem_map.mp hx
    rfl
  · have : depDs (L.map ppD) ≤ 2 := depDs_of fun x hx => by
      obtain ⟨p, hp, rfl⟩ := List.mem_map.mp hx
      rw [dep_pp]
      omega
    omega
theorem pairs_len (S : List Sg) (hv : ∀ s ∈ S, isValD 2 s.2 = true) : (pairsS S).length ≤ S.length * 2160 :=
  flat_len _ 2160 S fun s hs => by rw [List.length_map]; exact nmV_len 2 s.2 (hv s hs)
theorem run_refers' (n : Nat) (a : Dt) : runP tab gls (n + 1) c_refers [a] = (exSs (Gm n) b_refers [some (.d a), none, none, none, none] []).bind endD := rfl
theorem refers_in (n : Nat) (A P V : Dt) (p : Pa) (hP : P = pth p) : ∀ (os : List Pa) (L : List (Pa × Pa)) (x4 : Option Wv), L.length + os.length ≤ 1000000 → ∃ y4, exFor (exSs (Gm n) fb1_refers) (.one 4) [] (os.map pth) [some (.d A), some (.ob 0), some (.d P), some (.d V), x4] [.dic (kvN L)] =
    .ok ((.nx, [some (.d A), some (.ob 0), some (.d P), some (.d V), y4]), [.dic (kvN ((os.map fun o => (p, o)).foldl insN L))])
  | [], L, x4, _ => ⟨x4, rfl⟩
  | o :: os, L, x4, hl => by
    rw [List.length_cons] at hl
    have h : (insN L (p, o)).length ≤ L.length + 1 := by unfold insN; split <;> simp
    obtain ⟨y4, e⟩ := refers_in n A P V p hP os (insN L (p, o)) (some (.d (pth o))) (by omega)
    refine ⟨y4, ?_⟩
    have hb : exSs (Gm n) fb1_refers [some (.d A), some (.ob 0), some (.d P), some (.d V), some (.d (pth o))] [.dic (kvN L)] = .ok ((.nx, [some (.d A), some (.ob 0), some (.d P), some (.d V), some (.d (pth o))]), [.dic (kvN (insN L (p, o)))]) := by
      unfold fb1_refers
      have := exS_put_ok (Γ := Gm n) (ρ := [some (.d A), some (.ob 0), some (.d P), some (.d V), some (.d (pth o))]) (st := [.dic (kvN L)]) (i := 1) (n := 0) (k := .tup (.cons (.v 2) (.cons (.v 4) .nil))) (e := .bl true) (kd := ppD (p, o)) (y := .bl true) (kvs := kvN L) (st1 := [.dic (kvN L)]) (st2 := [.dic (kvN L)]) (by rw [evE]) rfl (by rw [tup2_d (v_d rfl) (v_d rfl), hP]; rfl) rfl (key_pp _) (by unfold kvN; rw [List.length_map]; omega)
      rw [putN] at this
      exact hnx this
    rw [List.map_cons, exFor_cons (by rfl) hb rfl, e]
    rfl
theorem refers_out (n : Nat) (A : Dt) : ∀ (S : List Sg) (L : List (Pa × Pa)) (x2 x3 x4 : Option Wv), (∀ s ∈ S, isValD 2 s.2 = true) → L.length + S.length * 2160 ≤ 1000000 → ∃ y2 y3 y4, exFor (exSs (Gm (n + 7)) fb0_refers) (.many [2, 3]) [] (S.map Sg.toD) [some (.d A), some (.ob 0), x2, x3, x4] [.dic (kvN L)] =
    .ok ((.nx, [some (.d A), some (.ob 0), y2, y3, y4]), [.dic (kvN ((pairsS S).foldl insN L))])
  | [], L, x2, x3, x4, _, _ => ⟨x2, x3, x4, rfl⟩
  | s :: S, L, x2, x3, x4, hv, hl => by
    rw [List.length_cons] at hl
    have vs := hv s List.mem_cons_self
    have ln := nmV_len 2 s.2 vs
    have l2 := foldN_len ((nmV 2 s.2).map fun o => (s.1, o)) L
    rw [List.length_map] at l2
    obtain ⟨z4, e1⟩ := refers_in (n + 7) A (pth s.1) s.2 s.1 rfl (nmV 2 s.2) L x4 (by omega)
    obtain ⟨y2, y3, y4, e2⟩ := refers_out n A S (((nmV 2 s.2).map fun o => (s.1, o)).foldl insN L) (some (.d (pth s.1))) (some (.d s.2)) z4 (fun t ht => hv t (List.mem_cons_of_mem _ ht)) (by omega)
    refine ⟨y2, y3, y4, ?_⟩
    have hb : exSs (Gm (n + 7)) fb0_refers [some (.d A), some (.ob 0), some (.d (pth s.1)), some (.d s.2), x4] [.dic (kvN L)] = .ok ((.nx, [some (.d A), some (.ob 0), some (.d (pth s.1)), some (.d s.2), z4]), [.dic (kvN (((nmV 2 s.2).map fun o => (s.1, o)).foldl insN L))]) := by
      unfold fb0_refers
      refine hnx3 (exS_for_ok (xs := (nmV 2 s.2).map pth) ?_ e1)
      rw [evI_seq, call1_v (v_d rfl), show n + 7 = n + 2 + 5 by omega, run_named 2 n s.2 (by omega) vs]
      rfl
    rw [List.map_cons, exFor_cons (setTg_s s 2 3 _) hb rfl]
    refine e2.trans ?_
    unfold pairsS
    rw [List.flatMap_cons, List.foldl_append]
def refersD (S : List Sg) : Dt := .tup ((sortPP (firstN (pairsS S))).map ppD)
theorem run_refers (n : Nat) (S : List Sg) (hv : ∀ s ∈ S, isValD 2 s.2 = true) (hl : S.length ≤ 100) : runP tab gls (n + 8) c_refers [.tup (S.map Sg.toD)] = .ok (refersD S) := by
  rw [run_refers']
  unfold b_refers
  rw [exSs_nx exS_setD]
  dsimp only [List.set, List.length_nil, List.nil_append]
  obtain ⟨y2, y3, y4, e⟩ := refers_out n (.tup (S.map Sg.toD)) S [] none none none hv (by simp; omega)
  have hf : exS (Gm (n + 7)) (.forS (.many [2, 3]) (.seq (.v 0)) fb0_refers) [some (.d (.tup (S.map Sg.toD))), some (.ob 0), none, none, none] [.dic []] = .ok ((.nx, [some (.d (.tup (S.map Sg.toD))), some (.ob 0), y2, y3, y4]), [.dic (kvN (firstN (pairsS S)))]) := by
    refine exS_for_ok (xs := S.map Sg.toD) ?_ e
    rw [evI_seq, v_d rfl]
    rfl
  rw [exSs_nx hf]
  have l1 := foldN_len (pairsS S) []
  have l2 := pairs_len S hv
  have ek : (kvN (firstN (pairsS S))).map Prod.fst = (firstN (pairsS S)).map ppD := by unfold kvN; rw [List.map_map]; rfl
  have e1 : evE (Gm (n + 7)) (.pd .sorted (.v 1)) [some (.d (.tup (S.map Sg.toD))), some (.ob 0), y2, y3, y4] [.dic (kvN (firstN (pairsS S)))] = .ok (.d (.lst ((sortPP (firstN (pairsS S))).map ppD)), [.dic (kvN (firstN (pairsS S)))]) := by
    rw [evE_sorted_ok (kvs := kvN (firstN (pairsS S))) (v_d rfl) rfl (by unfold kvN firstN; rw [List.length_map]; simp at l1; omega) (by rw [ek]; exact sortable_pp _), ek, sortD_pp]
  rw [exSs_rt (exS_ret_ok (evE_p1_ok e1 rfl))]
  rfl
/-! ### the law's own scan -/
theorem run_lname' (n : Nat) (a : Dt) : runP tab gls (n + 1) c__law_is_name [a] = (exSs (Gm n) b__law_is_name [some (.d a), none, none] []).bind endD := rfl
theorem strange_d {Γ : Gam} (s : List Nat) : evE Γ (.cmp .eq (.lc (.v 2) (.one 2) (.seq (.v 0)) (.cons (.cmp .notin (.v 2) (.v 1)) .nil)) (.lst .nil)) [some (.d (.str s)), some (.d (.str s_abcdefgh_ddbe)), none] [] = if s.length ≤ 16777216 then .ok (.d (.bl (s.all okC)), []) else evE Γ (.cmp .eq (.lc (.v 2) (.one 2) (.seq (.v 0)) (.cons (.cmp .notin (.v 2) (.v 1)) .nil)) (.lst .nil)) [some (.d (.str s)), some (.d (.str s_abcdefgh_ddbe)), none] [] := by
  by_cases hl : s.length ≤ 16777216
  · rw [if_pos hl]
    have h1 : lcL [] (lcTurn (evIfs Γ (.cons (.cmp .notin (.v 2) (.v 1)) .nil)) (evE Γ (.v 2)) (.one 2) [some (.d (.str s)), some (.d (.str s_abcdefgh_ddbe)), none]) (s.map fun c => .str [c]) [] = .ok ((s.filter fun c => !decide (c ∈ s_abcdefgh_ddbe)).map (fun c => .str [c]), []) := by
      refine lcL_filter' _ (fun c => .str [c]) (fun c => !decide (c ∈ s_abcdefgh_ddbe)) (fun c => .str [c]) s fun c _ => ?_
      refine lcTurn_if ?_ fun _ => v_d rfl
      rw [evIfs_one, cmp_d (v_d rfl) (v_d rfl) (notin_cs _ _)]
      rfl
    have h2 : evE Γ (.lc (.v 2) (.one 2) (.seq (.v 0)) (.cons (.cmp .notin (.v 2) (.v 1)) .nil)) [some (.d (.str s)), some (.d (.str s_abcdefgh_ddbe)), none] [] = .ok (.d (.lst ((s.filter fun c => !decide (c ∈ s_abcdefgh_ddbe)).map (fun c => .str [c]))), []) := by
      refine evE_lc_ok (xs := s.map fun c => .str [c]) (by rw [evI_seq, v_d rfl]; rfl) h1 ?_
      rw [List.length_map]
      have := List.length_filter_le (fun c => !decide (c ∈ s_abcdefgh_ddbe)) s
      omega
    rw [cmp_d h2 (y := .lst []) (by rw [evE_lst, evEs_nil]; rfl) (eq_dd (.inr (by simp [depD, depDs]))), beq_nil]
    congr 4
    have : (s.filter fun c => !decide (c ∈ s_abcdefgh_ddbe)).isEmpty = s.all okC := by
      rw [Bool.eq_iff_iff, List.isEmpty_iff, List.filter_eq_nil_iff, List.all_eq_true]
      constructor
      · intro h c hc
        have := h c hc
        have m : c ∈ s_abcdefgh_ddbe := by simpa using this
        rcases (mem2 c).mp m with z | z <;> simp [okC, z]
      · intro h c hc
        have := h c hc
        simp only [okC, Bool.or_eq_true, decide_eq_true_eq] at this
        simp [(mem2 c).mpr this]
    rw [← this]
    cases s.filter fun c => !decide (c ∈ s_abcdefgh_ddbe) <;> rfl
  · rw [if_neg hl]
theorem run_lname (n : Nat) (s : List Nat) : runP tab gls (n + 1) c__law_is_name [.str s] = .ok (.bl (isNm s)) := by
  rw [run_lname']
  cases s with
  | nil => simp [b__law_is_name, isNm]
  | cons c r =>
    have h0 : (1 : Int) ≤ (r.length : Int) + 1 := by omega
    by_cases h1 : r.length < 8
    · have h3 : ((r.length : Int) + 1 ≤ 8) := by omega
      have hs := strange_d (Γ := Gm n) (c :: r)
      rw [if_pos (by rw [List.length_cons]; omega)] at hs
      unfold b__law_is_name
      rw [exSs_nx (exS_set_ok str_d)]
      dsimp only [List.set]
      have hc : evE (Gm n) (.or (.cons (.not (.cmp2 .le .le (.int 1) (.p1 .len (.v 0)) (.int 8))) (.cons (.cmp .inn (.ix (.v 0) (.int 0)) (.str s_01234567_50ba)) .nil))) [some (.d (.str (c :: r))), some (.d (.str s_abcdefgh_ddbe)), none] [] = .ok (.d (.bl (decide (c ∈ s_01234567_50ba))), []) := by
        refine (or2_d (s := false) (t := decide (c ∈ s_01234567_50ba)) ?_ ?_).trans (by rw [Bool.false_or])
        · simp [h0, h3]
        · exact cmp_d (ix_d (z := .str [c]) (v_d rfl) int_d (by simp [ixD, ixL, ixP])) str_d (in_cs _ _)
      by_cases h2 : c ∈ s_01234567_50ba
      · rw [exSs_rt ((exS_if_yes hc (by simp [h2])).trans (exSs_rt (exS_ret_ok (w := .d (.bl false)) (by rw [evE]))))]
        simp [isNm, apart c h2]
      · rw [exSs_nx (exS_if_no hc (by simp [h2])), exSs_rt (exS_ret_ok hs)]
        simp only [Rs.bind_ok, endD_rt, isNm, h1, decide_true, Bool.true_and]
        by_cases h4 : (c :: r).all okC = true
        · have : c ∈ s_abcdefgh_50bd := by
            rw [List.all_cons, Bool.and_eq_true] at h4
            have := h4.1
            simp only [okC, Bool.or_eq_true, decide_eq_true_eq] at this
            exact this.resolve_right h2
          simp [this]
        · rw [Bool.not_eq_true] at h4
          rw [h4, Bool.and_false]
    · have h3 : ¬ ((r.length : Int) + 1 ≤ 8) := by omega
      simp [b__law_is_name, h0, h3, isNm, h1]
theorem names_ok {n : Nat} {ρ : Ev} {st : Sr} (ns : Pa) (h4 : ρ[4]? = some (some (.d (pth ns)))) (hj : 5 < ρ.length) : evE (Gm (n + 1)) (.and (.cons (.cmp2 .lt .lt (.int 0) (.p1 .len (.v 4)) (.int 5)) (.cons (.p1 .all (.lc (.call c__law_is_name (.cons (.v 5) .nil)) (.one 5) (.seq (.v 4)) .nil)) .nil))) ρ st = .ok (.d (.bl (isPathD (pth ns))), st) := by
  have hl : evE (Gm (n + 1)) (.p1 .len (.v 4)) ρ st = .ok (.d (.int (ns.length : Nat)), st) := by
    rw [evE_p1_ok (v_d h4) (len_t (ns.map Dt.str)), List.length_map]
  have hc : evE (Gm (n + 1)) (.cmp2 .lt .lt (.int 0) (.p1 .len (.v 4)) (.int 5)) ρ st = .ok (.d (.bl (decide (0 < ns.length) && decide (ns.length < 5))), st) := by
    rw [evE_cmp2, int_d, Rs.bind_ok, hl]
    simp only [Rs.bind_ok, op2_d, lt_ii, blO_some, Option.map_some, Rs.ofO_some, truW_d, truthD_bl]
    by_cases h0 : 0 < ns.length
    · rw [decide_eq_true (show (0 : Int) < (ns.length : Int) by omega), if_pos rfl, int_d]
      simp only [Rs.bind_ok, op2_d, lt_ii, blO_some, Option.map_some, Rs.ofO_some]
      rw [decide_eq_true h0, Bool.true_and]
      congr 4
      by_cases h5 : ns.length < 5
      · rw [decide_eq_true h5, decide_eq_true (by omega)]
      · rw [decide_eq_false h5, decide_eq_false (by omega)]
    · rw [decide_eq_false (show ¬ (0 : Int) < (ns.length : Int) by omega), decide_eq_false h0, Bool.false_and]
      rfl
  cases hb : (decide (0 < ns.length) && decide (ns.length < 5)) with
  | false =>
    rw [hb] at hc
    rw [and2_no hc]
    congr 4
    have : ¬ (1 ≤ ns.length ∧ ns.length ≤ 4) := by
      intro z
      rw [Bool.and_eq_false_iff, decide_eq_false_iff_not, decide_eq_false_iff_not] at hb
      omega
    simp only [pth, isPathD, List.length_map]
    rw [show (decide (1 ≤ ns.length) && decide (ns.length ≤ 4)) = false from by rw [Bool.and_eq_false_iff, decide_eq_false_iff_not, decide_eq_false_iff_not]; omega]
    rfl
  | true =>
    rw [hb] at hc
    rw [Bool.and_eq_true, decide_eq_true_eq, decide_eq_true_eq] at hb
    have ha : evE (Gm (n + 1)) (.p1 .all (.lc (.call c__law_is_name (.cons (.v 5) .nil)) (.one 5) (.seq (.v 4)) .nil)) ρ st = .ok (.d (.bl (ns.all isNm)), st) := by
      refine evE_p1_ok (x := .lst (ns.map fun s => .bl (isNm s))) (evE_lc_ok (xs := ns.map Dt.str) (by rw [evI_seq, v_d h4]; rfl) (lcL_map' _ _ _ _ fun s _ => lcTurn_one (by simp) ?_) (by rw [List.length_map]; omega)) (all_map isNm ns)
      have g : (ρ.set 5 (some (.d (.str s))))[5]? = some (some (.d (.str s))) := List.getElem?_set_self hj
      rw [call1_v (v_d g), run_lname]
      rfl
    rw [and2_d hc ha]
    congr 4
    simp only [pth, isPathD, List.length_map, List.all_map]
    rw [decide_eq_true (show 1 ≤ ns.length by omega), decide_eq_true (show ns.length ≤ 4 by omega)]
    rfl
theorem run_lscan' (n : Nat) (a : Dt) : runP tab gls (n + 1) c__law_scan [a] = (exSs (Gm n) b__law_scan [some (.d a), none, none, none, none, none] []).bind endD := rfl
/-- what the law takes for names at a place -/
def nsAt (u : List Nat) : Pa := if u.take 2 = [36, 123] ∧ 125 ∈ u.drop 2 then refNs u else []
theorem nsAt_ok (u : List Nat) : isPathD (pth (nsAt u)) = isRef u := by
  unfold nsAt isRef
  by_cases h1 : u.take 2 = [36, 123] <;> by_cases h2 : 125 ∈ u.drop 2 <;> simp [h1, h2] <;> rfl
theorem lscan_head (n : Nat) (t : List Nat) (ht : t.length ≤ 1000) (p : Nat) (acc : List Dt) (x3 x4 x5 : Option Wv) :
    exSs (Gm (n + 3)) wb0__law_scan [some (.d (.str t)), some (.ob 0), some (.d (.int (p : Nat))), x3, x4, x5] [.lst acc] =
    exSs (Gm (n + 3)) (.cons (.ife (.and (.cons (.cmp2 .lt .lt (.int 0) (.p1 .len (.v 4)) (.int 5)) (.cons (.p1 .all (.lc (.call c__law_is_name (.cons (.v 5) .nil)) (.one 5) (.seq (.v 4)) .nil)) .nil))) (.cons (.app 1 (.v 4)) (.cons (.set 2 (.bin .add (.v 3) (.int 1))) .nil)) (.cons (.app 1 (.ix (.v 0) (.v 2))) (.cons (.set 2 (.bin .add (.v 2) (.int 1))) .nil))) .nil)
      [some (.d (.str t)), some (.ob 0), some (.d (.int (p : Nat))), some (.d (.int (findG 125 p (t.drop p)))), some (.d (pth (nsAt (t.drop p)))), x5] [.lst acc] := by
  unfold wb0__law_scan
  rw [exSs_nx (exS_set_ok (find_d (v_d rfl) (v_d rfl)))]
  dsimp only [List.set]
  rw [exSs_nx (exS_set_ok (w := .d (.tup [])) (by rw [evE_tup, evEs_nil]; rfl))]
  dsimp only [List.set]
  have hsl : evE (Gm (n + 3)) (.cmp .eq (.sl (.v 0) (.yes (.v 2)) (.yes (.bin .add (.v 2) (.int 2)))) (.str [36, 123])) [some (.d (.str t)), some (.ob 0), some (.d (.int (p : Nat))), some (.d (.int (findG 125 p (t.drop p)))), some (.d (.tup [])), x5] [.lst acc] = .ok (.d (.bl (decide ((t.drop p).take 2 = [36, 123]))), [.lst acc]) := by
    refine cmp_d (slyy_d (v_d rfl) (v_d rfl) (bin_d (v_d rfl) int_d rfl) ?_) str_d (eq_ss _ _)
    rw [sl_s, show ((p : Nat) : Int) + 2 = ((p + 2 : Nat) : Int) by omega, cut_ab _ _ _ (by omega), show p + 2 - p = 2 by omega]
  have hgt : evE (Gm (n + 3)) (.cmp .gt (.v 3) (.int 0)) [some (.d (.str t)), some (.ob 0), some (.d (.int (p : Nat))), some (.d (.int (findG 125 p (t.drop p)))), some (.d (.tup [])), x5] [.lst acc] = .ok (.d (.bl (decide (0 < findG 125 p (t.drop p)))), [.lst acc]) := cmp_d (v_d rfl) int_d (gt_ii _ _)
  by_cases h1 : (t.drop p).take 2 = [36, 123]
  · rw [decide_eq_true h1] at hsl
    have hf := ref_find h1
    by_cases h2 : 125 ∈ (t.drop p).drop 2
    · rw [if_pos h2] at hf
      have he : p + 2 ≤ p + refEnd (t.drop p) - 1 := by unfold refEnd; omega
      have hcut : cutL t (some ((p + 2 : Nat) : Int)) (some ((p + refEnd (t.drop p) - 1 : Nat) : Int)) = ((t.drop p).drop 2).takeWhile fun c => decide (c ≠ 125) := by
        rw [cut_ab _ _ _ he, List.drop_drop]
        have : p + refEnd (List.drop p t) - 1 - (p + 2) = (((t.drop p).drop 2).takeWhile fun c => decide (c ≠ 125)).length := by unfold refEnd; omega
        rw [this, List.drop_drop, take_tw]
      have hsp : evE (Gm (n + 3)) (.p1 .tuple (.m1 .split (.sl (.v 0) (.yes (.bin .add (.v 2) (.int 2))) (.yes (.v 3))) (.str [46]))) [some (.d (.str t)), some (.ob 0), some (.d (.int (p : Nat))), some (.d (.int (findG 125 p (t.drop p)))), some (.d (.tup [])), x5] [.lst acc] = .ok (.d (pth (refNs (t.drop p))), [.lst acc]) := by
        refine evE_p1_ok (x := .lst ((refNs (t.drop p)).map Dt.str)) (evE_m1_ok (s := ((t.drop p).drop 2).takeWhile fun c => decide (c ≠ 125)) (slyy_d (v_d rfl) (bin_d (v_d rfl) int_d rfl) (v_d rfl) ?_) str_d ?_) rfl
        · rw [sl_s, ← hcut, hf]
          rfl
        · refine if_pos ?_
          have := (List.takeWhile_sublist (fun c => decide (c ≠ 125)) (l := (t.drop p).drop 2)).length_le
          rw [List.length_drop, List.length_drop] at this
          omega
      rw [exSs_nx ((exS_if_yes (and2_d hsl hgt) (by rw [hf, decide_eq_true (by omega)]; rfl)).trans (hnx3 (exS_set_ok hsp)))]
      dsimp only [List.set]
      rw [show nsAt (t.drop p) = refNs (t.drop p) from if_pos ⟨h1, h2⟩]
    · rw [if_neg h2] at hf
      rw [exSs_nx (exS_if_no (and2_d hsl hgt) (by rw [hf]; rfl))]
      rw [show nsAt (t.drop p) = [] from if_neg fun z => h2 z.2]
      rfl
  · rw [decide_eq_false h1] at hsl
    rw [exSs_nx (exS_if_no (and2_no hsl) rfl)]
    rw [show nsAt (t.drop p) = [] from if_neg fun z => h1 z.1]
    rfl
theorem lscan_whl (n : Nat) (t : List Nat) (ht : t.length ≤ 1000) : ∀ (m p N : Nat) (acc : List Dt) (x3 x4 x5 : Option Wv), t.length - p ≤ m → m < N → acc.length ≤ p →
    ∃ y2 y3 y4 y5, exWhl (evT (Gm (n + 3)) wc0__law_scan) (exSs (Gm (n + 3)) wb0__law_scan) N [some (.d (.str t)), some (.ob 0), some (.d (.int (p : Nat))), x3, x4, x5] [.lst acc] = .ok ((.nx, [some (.d (.str t)), some (.ob 0), y2, y3, y4, y5]), [.lst (acc ++ (scanL (t.drop p)).map pcD)])
  | m, p, 0, acc, x3, x4, x5, h1, h2, h3 => by omega
  | m, p, N + 1, acc, x3, x4, x5, h1, h2, h3 => by
    have hc : evT (Gm (n + 3)) wc0__law_scan [some (.d (.str t)), some (.ob 0), some (.d (.int (p : Nat))), x3, x4, x5] [.lst acc] = .ok (decide ((p : Int) < (t.length : Int)), [.lst acc]) := by
      rw [evT_eq, cmp_d (v_d rfl) (evE_p1_ok (v_d rfl) (len_s t)) (lt_ii _ _)]
      rfl
    by_cases hp : p < t.length
    · rw [decide_eq_true (by omega)] at hc
      obtain ⟨c, e1, e2⟩ := drop_at hp
      have hd := lscan_head n t ht p acc x3 x4 x5
      have hn := @names_ok (n + 2) [some (.d (.str t)), some (.ob 0), some (.d (.int (p : Nat))), some (.d (.int (findG 125 p (t.drop p)))), some (.d (pth (nsAt (t.drop p)))), x5] [.lst acc] (nsAt (t.drop p)) rfl (by simp)
      rw [nsAt_ok] at hn
      by_cases hR : isRef (t.drop p) = true
      · rw [hR] at hn
        obtain ⟨i1, i2, _⟩ := ref_inv hR
        have hf := ref_find i1
        rw [if_pos i2] at hf
        have hre : 3 ≤ refEnd (t.drop p) := by unfold refEnd; omega
        have hns : nsAt (t.drop p) = refNs (t.drop p) := if_pos ⟨i1, i2⟩
        have hb : exSs (Gm (n + 3)) wb0__law_scan [some (.d (.str t)), some (.ob 0), some (.d (.int (p : Nat))), x3, x4, x5] [.lst acc] = .ok ((.nx, [some (.d (.str t)), some (.ob 0), some (.d (.int ((p + refEnd (t.drop p) : Nat) : Int))), some (.d (.int (findG 125 p (t.drop p)))), some (.d (pth (nsAt (t.drop p)))), x5]), [.lst (acc ++ [pth (refNs (t.drop p))])]) := by
          rw [hd]
          refine hnx3 ?_
          rw [exS_if_yes hn rfl]
          rw [exSs_nx (app0 rfl (v_d rfl) (by omega))]
          have hs := exS_set_ok (i := 2) (bin_d (Γ := Gm (n + 3)) (ρ := [some (.d (.str t)), some (.ob 0), some (.d (.int (p : Nat))), some (.d (.int (findG 125 p (t.drop p)))), some (.d (pth (nsAt (t.drop p)))), x5]) (st := [.lst (acc ++ [pth (nsAt (t.drop p))])]) (o := .add) (a := .v 3) (b := .int 1) (v_d rfl) int_d rfl)
          rw [exSs_nx hs, exSs_nil, hf, hns]
          dsimp only [List.set]
          rw [show ((p + refEnd (t.drop p) - 1 : Nat) : Int) + 1 = ((p + refEnd (t.drop p) : Nat) : Int) by omega]
        rw [exWhl_go hc hb]
        obtain ⟨y2, y3, y4, y5, e3⟩ := lscan_whl n t ht (m - 1) (p + refEnd (t.drop p)) N (acc ++ [pth (refNs (t.drop p))]) (some (.d (.int (findG 125 p (t.drop p))))) (some (.d (pth (nsAt (t.drop p))))) x5 (by omega) (by omega) (by rw [List.length_append, List.length_singleton]; omega)
        refine ⟨y2, y3, y4, y5, e3.trans ?_⟩
        rw [e1, scan_cons, ← e1, if_pos hR, List.map_cons, ← List.drop_drop, List.append_assoc]
        rfl
      · rw [Bool.not_eq_true] at hR
        rw [hR] at hn
        have hb : exSs (Gm (n + 3)) wb0__law_scan [some (.d (.str t)), some (.ob 0), some (.d (.int (p : Nat))), x3, x4, x5] [.lst acc] = .ok ((.nx, [some (.d (.str t)), some (.ob 0), some (.d (.int ((p + 1 : Nat) : Int))), some (.d (.int (findG 125 p (t.drop p)))), some (.d (pth (nsAt (t.drop p)))), x5]), [.lst (acc ++ [.str [c]])]) := by
          rw [hd]
          refine hnx3 ?_
          rw [exS_if_no2 hn rfl]
          have hix : evE (Gm (n + 3)) (.ix (.v 0) (.v 2)) [some (.d (.str t)), some (.ob 0), some (.d (.int (p : Nat))), some (.d (.int (findG 125 p (t.drop p)))), some (.d (pth (nsAt (t.drop p)))), x5] [.lst acc] = .ok (.d (.str [c]), [.lst acc]) := ix_d (v_d rfl) (v_d rfl) e2
          rw [exSs_nx (app0 rfl hix (by omega))]
          have hs := exS_set_ok (i := 2) (bin_d (Γ := Gm (n + 3)) (ρ := [some (.d (.str t)), some (.ob 0), some (.d (.int (p : Nat))), some (.d (.int (findG 125 p (t.drop p)))), some (.d (pth (nsAt (t.drop p)))), x5]) (st := [.lst (acc ++ [.str [c]])]) (o := .add) (a := .v 2) (b := .int 1) (v_d rfl) int_d rfl)
          rw [exSs_nx hs, exSs_nil]
          rfl
        rw [exWhl_go hc hb]
        obtain ⟨y2, y3, y4, y5, e3⟩ := lscan_whl n t ht (m - 1) (p + 1) N (acc ++ [.str [c]]) (some (.d (.int (findG 125 p (t.drop p))))) (some (.d (pth (nsAt (t.drop p))))) x5 (by omega) (by omega) (by rw [List.length_append, List.length_singleton]; omega)
        refine ⟨y2, y3, y4, y5, e3.trans ?_⟩
        rw [e1, scan_cons, ← e1, if_neg (by rw [hR]; simp), List.map_cons, List.append_assoc]
        rfl
    · rw [decide_eq_false (by omega)] at hc
      refine ⟨some (.d (.int (p : Nat))), x3, x4, x5, (exWhl_stop hc).trans ?_⟩
      rw [List.drop_of_length_le (by omega), scan_nil]
      simp
theorem run_lscan (n : Nat) (t : List Nat) (ht : t.length ≤ 1000) : runP tab gls (n + 4) c__law_scan [.str t] = .ok (.lst ((scanL t).map pcD)) := by
  rw [run_lscan']
  unfold b__law_scan
  rw [exSs_nx (setL_ok (ys := []) (by rw [evE_lst, evEs_nil]; rfl))]
  dsimp only [List.set, List.length_nil, List.nil_append]
  rw [exSs_nx (exS_set_ok int_d)]
  dsimp only [List.set]
  obtain ⟨y2, y3, y4, y5, e⟩ := lscan_whl n t ht t.length 0 turns [] none none none (by omega) (turns_m (by omega)) (by simp)
  have e' : exS (Gm (n + 3)) (.whl wc0__law_scan wb0__law_scan) [some (.d (.str t)), some (.ob 0), some (.d (.int 0)), none, none, none] [.lst []] = .ok ((.nx, [some (.d (.str t)), some (.ob 0), y2, y3, y4, y5]), [.lst ((scanL t).map pcD)]) := by
    rw [exS_whl]; exact e
  rw [exSs_nx e', exSs_rt (exS_ret_ok (v_d rfl))]
  rfl
theorem run_lnamed' (n : Nat) (a : Dt) : runP tab gls (n + 1) c__law_named [a] = (exSs (Gm n) b__law_named [some (.d a), none, none, none] []).bind endD := rfl
theorem run_lnamed : ∀ (k n : Nat) (v : Dt), k ≤ 3 → isValD k v = true → runP tab gls (n + k + 5) c__law_named [v] = .ok (.lst ((nmV k v).map pth)) := by
  intro k
  induction k with
  | zero =>
    intro n v _ h
    rw [run_lnamed']
    unfold b__law_named
    rcases val_cases h with ⟨t, rfl, ht⟩ | ⟨j, xs, e, _⟩ | ⟨s, c, rfl, h1, h2⟩
    · have e1 : evE (Gm (n + 0 + 4)) (.lc (.v 3) (.one 3) (.seq (.call c__law_scan (.cons (.ix (.v 0) (.int 1)) .nil))) (.cons (.isi (.v 3) .tuple) .nil)) [some (.d (.tup [.str s_text_a7c7, .str t])), none, none, none] [] = .ok (.d (.lst ((refsT t).map pth)), []) := by
        refine evE_lc_ok (xs := (scanL t).map pcD) ?_ (pick_refs (by simp)) ?_
        · rw [evI_seq, call1_v (ix_d (z := .str t) (v_d rfl) int_d rfl), run_lscan n t (by omega)]
          rfl
        · rw [List.length_map]; have := refs_len t; omega
      rw [exSs_rt ((exS_if_yes (cmp_d (ix_d (z := .str s_text_a7c7) (v_d rfl) int_d rfl) str_d (eq_ss _ _)) (by simp)).trans (exSs_rt (exS_ret_ok e1))), nmV_text]
      rfl
    · cases e
    · rw [exSs_nx (exS_if_no (cmp_d (ix_d (z := .str s) (v_d rfl) int_d rfl) str_d (eq_ss _ _)) (by simpa using h1))]
      rw [exSs_nx (setL_ok (ys := []) (by rw [evE_lst, evEs_nil]; rfl))]
      dsimp only [List.set, List.length_nil, List.nil_append]
      rw [exSs_nx (exS_if_no (cmp_d (ix_d (z := .str s) (v_d rfl) int_d rfl) str_d (eq_ss _ _)) (by simpa using h2)), exSs_rt (exS_ret_ok (v_d rfl)), nmV_no _ _ h1 h2]
      rfl
  | succ k ih =>
    intro n v hk h
    rw [run_lnamed']
    unfold b__law_named
    rcases val_cases h with ⟨t, rfl, ht⟩ | ⟨j, xs, e, rfl, h3, h4⟩ | ⟨s, c, rfl, h1, h2⟩
    · have e1 : evE (Gm (n + (k + 1) + 4)) (.lc (.v 3) (.one 3) (.seq (.call c__law_scan (.cons (.ix (.v 0) (.int 1)) .nil))) (.cons (.isi (.v 3) .tuple) .nil)) [some (.d (.tup [.str s_text_a7c7, .str t])), none, none, none] [] = .ok (.d (.lst ((refsT t).map pth)), []) := by
        refine evE_lc_ok (xs := (scanL t).map pcD) ?_ (pick_refs (by simp)) ?_
        · rw [evI_seq, call1_v (ix_d (z := .str t) (v_d rfl) int_d rfl), run_lscan (n + (k + 1)) t (by omega)]
          rfl
        · rw [List.length_map]; have := refs_len t; omega
      rw [exSs_rt ((exS_if_yes (cmp_d (ix_d (z := .str s_text_a7c7) (v_d rfl) int_d rfl) str_d (eq_ss _ _)) (by simp)).trans (exSs_rt (exS_ret_ok e1))), nmV_text]
      rfl
    · cases e
      rw [exSs_nx (exS_if_no (cmp_d (ix_d (z := .str s_list_f818) (v_d rfl) int_d rfl) str_d (eq_ss _ _)) (by decide))]
      rw [exSs_nx (setL_ok (ys := []) (by rw [evE_lst, evEs_nil]; rfl))]
      dsimp only [List.set, List.length_nil, List.nil_append]
      have key : ∀ (ys : List Dt) (acc : List Dt) (x2 : Option Wv), (∀ y ∈ ys, isValD k y = true) → acc.length + ys.length * (60 * 6 ^ k) ≤ 1000000 → ∃ y2, exFor (exSs (Gm (n + (k + 1) + 4)) fb0__law_named) (.one 2) [] ys [some (.d (.tup [.str s_list_f818, .tup xs])), some (.ob 0), x2, none] [.lst acc] = .ok ((.nx, [some (.d (.tup [.str s_list_f818, .tup xs])), some (.ob 0), y2, none]), [.lst (acc ++ (ys.flatMap (nmV k)).map pth)]) := by
        intro ys
        induction ys with
        | nil => intro acc x2 _ _; exact ⟨x2, by simp [exFor]⟩
        | cons y ys ihy =>
          intro acc x2 hv hl
          have vy := hv y List.mem_cons_self
          have ly := nmV_len k y vy
          rw [List.length_cons, Nat.succ_mul] at hl
          have hr := ih (n) y (by omega) vy
          obtain ⟨y2, e⟩ := ihy (acc ++ (nmV k y).map pth) (some (.d y)) (fun z hz => hv z (List.mem_cons_of_mem _ hz)) (by rw [List.length_append, List.length_map]; omega)
          refine ⟨y2, ?_⟩
          have hb : exSs (Gm (n + (k + 1) + 4)) fb0__law_named [some (.d (.tup [.str s_list_f818, .tup xs])), some (.ob 0), some (.d y), none] [.lst acc] = .ok ((.nx, [some (.d (.tup [.str s_list_f818, .tup xs])), some (.ob 0), some (.d y), none]), [.lst (acc ++ (nmV k y).map pth)]) := by
            unfold fb0__law_named
            refine hnx (ext0 rfl ?_ (by rw [List.length_map]; omega))
            rw [call1_v (v_d rfl), show n + (k + 1) + 4 = n + k + 5 by omega, hr]
            rfl
          rw [exFor_cons (by rfl) hb rfl, e, List.flatMap_cons, List.map_append, List.append_assoc]
      have hp : xs.length * (60 * 6 ^ k) ≤ 6 * (60 * 6 ^ 2) := Nat.mul_le_mul h3 (Nat.mul_le_mul_left _ (Nat.pow_le_pow_right (by omega) (by omega)))
      obtain ⟨y2, e⟩ := key xs [] none h4 (by simp at hp ⊢; omega)
      have hf : exS (Gm (n + (k + 1) + 4)) (.forS (.one 2) (.seq (.ix (.v 0) (.int 1))) fb0__law_named) [some (.d (.tup [.str s_list_f818, .tup xs])), some (.ob 0), none, none] [.lst []] = .ok ((.nx, [some (.d (.tup [.str s_list_f818, .tup xs])), some (.ob 0), y2, none]), [.lst ([] ++ (xs.flatMap (nmV k)).map pth)]) := by
        refine exS_for_ok (xs := xs) ?_ e
        rw [evI_seq, ix_d (z := .tup xs) (v_d rfl) int_d rfl]
        rfl
      rw [exSs_nx ((exS_if_yes (cmp_d (ix_d (z := .str s_list_f818) (v_d rfl) int_d rfl) str_d (eq_ss _ _)) (by simp)).trans (hnx3 hf)), exSs_rt (exS_ret_ok (v_d rfl)), nmV_list]
      rfl
    · rw [exSs_nx (exS_if_no (cmp_d (ix_d (z := .str s) (v_d rfl) int_d rfl) str_d (eq_ss _ _)) (by simpa using h1))]
      rw [exSs_nx (setL_ok (ys := []) (by rw [evE_lst, evEs_nil]; rfl))]
      dsimp only [List.set, List.length_nil, List.nil_append]
      rw [exSs_nx (exS_if_no (cmp_d (ix_d (z := .str s) (v_d rfl) int_d rfl) str_d (eq_ss _ _)) (by simpa using h2)), exSs_rt (exS_ret_ok (v_d rfl)), nmV_no _ _ h1 h2]
      rfl
theorem ssort_pp {L : List (Pa × Pa)} (hl : (nubN L).length < 76) : ssortD (.lst (L.map ppD)) = some (.lst ((sortPP (nubN L)).map ppD)) := by
  have h1 : (L.map ppD).all (fun x => isTupD x && keyOk x && decide (depD x ≤ 8)) = true := by
    refine List.all_eq_true.mpr fun x hx => ?_
    obtain ⟨p, _, rfl⟩ := List.mem_map.mp hx
    exact key_pp p
  have h2 : (L.map ppD).all (fun x => (L.map ppD).all (alikeD x)) = true := by
    refine List.all_eq_true.mpr fun x hx => List.all_eq_true.mpr fun y hy => ?_
    obtain ⟨p, _, rfl⟩ := List.mem_map.mp hx
    obtain ⟨q, _, rfl⟩ := List.mem_map.mp hy
    exact alike_pp p q
  have h3 : (nubD (L.map ppD)).length < 76 := by rw [nub_pp, List.length_map]; exact hl
  refine (if_pos ⟨h1, h2, h3⟩).trans ?_
  rw [nub_pp, sortD_pp]
theorem run_pairs_of' (n : Nat) (a : Dt) : runP tab gls (n + 1) c__law_pairs_of [a] = (exSs (Gm n) b__law_pairs_of [some (.d a), none, none, none, none] []).bind endD := rfl
theorem pairs_out (n : Nat) (A : Dt) : ∀ (S : List Sg) (L : List (Pa × Pa)) (x2 x3 : Option Wv), (∀ s ∈ S, isValD 2 s.2 = true) → L.length + S.length * 2160 ≤ 1000000 → ∃ y2 y3, exFor (exSs (Gm (n + 7)) fb0__law_pairs_of) (.many [2, 3]) [] (S.map Sg.toD) [some (.d A), some (.ob 0), x2, x3, none] [.lst (L.map ppD)] =
    .ok ((.nx, [some (.d A), some (.ob 0), y2, y3, none]), [.lst ((L ++ pairsS S).map ppD)])
  | [], L, x2, x3, _, _ => ⟨x2, x3, by simp [exFor, pairsS]⟩
  | s :: S, L, x2, x3, hv, hl => by
    rw [List.length_cons] at hl
    have vs := hv s List.mem_cons_self
    have ln := nmV_len 2 s.2 vs
    obtain ⟨y2, y3, e2⟩ := pairs_out n A S (L ++ (nmV 2 s.2).map fun o => (s.1, o)) (some (.d (pth s.1))) (some (.d s.2)) (fun t ht => hv t (List.mem_cons_of_mem _ ht)) (by rw [List.length_append, List.length_map]; omega)
    refine ⟨y2, y3, ?_⟩
    have hlc : evE (Gm (n + 7)) (.lc (.tup (.cons (.v 2) (.cons (.v 4) .nil))) (.one 4) (.seq (.call c__law_named (.cons (.v 3) .nil))) .nil) [some (.d A), some (.ob 0), some (.d (pth s.1)), some (.d s.2), none] [.lst (L.map ppD)] = .ok (.d (.lst (((nmV 2 s.2).map fun o => (s.1, o)).map ppD)), [.lst (L.map ppD)]) := by
      rw [List.map_map]
      refine evE_lc_ok (xs := (nmV 2 s.2).map pth) ?_ (lcL_map' _ pth (ppD ∘ fun o => (s.1, o)) _ fun o _ => lcTurn_one (by simp) (tup2_d (v_d rfl) (v_d rfl))) (by rw [List.length_map]; omega)
      rw [evI_seq, call1_v (v_d rfl), show n + 7 = n + 2 + 5 by omega, run_lnamed 2 n s.2 (by omega) vs]
      rfl
    have hb : exSs (Gm (n + 7)) fb0__law_pairs_of [some (.d A), some (.ob 0), some (.d (pth s.1)), some (.d s.2), none] [.lst (L.map ppD)] = .ok ((.nx, [some (.d A), some (.ob 0), some (.d (pth s.1)), some (.d s.2), none]), [.lst ((L ++ (nmV 2 s.2).map fun o => (s.1, o)).map ppD)]) := by
      unfold fb0__law_pairs_of
      rw [List.map_append]
      exact hnx (ext0 rfl hlc (by rw [List.length_map, List.length_map, List.length_map]; omega))
    rw [List.map_cons, exFor_cons (setTg_s s 2 3 _) hb rfl]
    refine e2.trans ?_
    unfold pairsS
    rw [List.flatMap_cons, List.append_assoc]
theorem run_pairs_of (n : Nat) (S : List Sg) (hv : ∀ s ∈ S, isValD 2 s.2 = true) (hl : S.length ≤ 100) (hf : (nubN (pairsS S)).length < 76) : runP tab gls (n + 8) c__law_pairs_of [.tup (S.map Sg.toD)] = .ok (refersD S) := by
  rw [run_pairs_of']
  unfold b__law_pairs_of
  rw [exSs_nx (setL_ok (ys := []) (by rw [evE_lst, evEs_nil]; rfl))]
  dsimp only [List.set, List.length_nil, List.nil_append]
  obtain ⟨y2, y3, e⟩ := pairs_out n (.tup (S.map Sg.toD)) S [] none none hv (by simp; omega)
  have hfo : exS (Gm (n + 7)) (.forS (.many [2, 3]) (.seq (.v 0)) fb0__law_pairs_of) [some (.d (.tup (S.map Sg.toD))), some (.ob 0), none, none, none] [.lst []] = .ok ((.nx, [some (.d (.tup (S.map Sg.toD))), some (.ob 0), y2, y3, none]), [.lst ((pairsS S).map ppD)]) := by
    refine exS_for_ok (xs := S.map Sg.toD) ?_ e
    rw [evI_seq, v_d rfl]
    rfl
  rw [exSs_nx hfo]
  have e1 : evE (Gm (n + 7)) (.ssort (.v 1)) [some (.d (.tup (S.map Sg.toD))), some (.ob 0), y2, y3, none] [.lst ((pairsS S).map ppD)] = .ok (.d (.lst ((sortPP (nubN (pairsS S))).map ppD)), [.lst ((pairsS S).map ppD)]) := by
    rw [evE_ssort, v_d rfl, Rs.bind_ok, op1_v (view0 _), ssort_pp hf]
    rfl
  rw [exSs_rt (exS_ret_ok (evE_p1_ok e1 rfl))]
  unfold refersD
  rw [sort_first_nub (M := pairsS S) fun x => Iff.rfl]
  rfl
/-! ### how many references a drawn text has -/
def wtR (s : List Pa) : List Pa → Nat
  | [] => 0
  | r :: R => (if r ∈ s then 1 else 2) + wtR s R
theorem wtR_app (s : List Pa) : ∀ R T : List Pa, wtR s (R ++ T) = wtR s R + wtR s T
  | [], T => by simp [wtR]
  | r :: R, T => by rw [List.cons_append, wtR, wtR, wtR_app s R T]; omega
def oddP : List (List Nat) := [[36], [36, 123], [125], [97], [36, 36, 123], [36, 123, 97], [36, 123, 65, 125], [36, 123, 97, 46, 46, 98, 125], [36, 123, 97, 46, 98, 46, 97, 46, 98, 46, 97, 125], [32]]
/-- a piece of a drawn text -/
def Pc (s : List Pa) (q : List Nat) : Prop := q ∈ oddP ∨ (∃ k, q = [120, 121, 122].take k) ∨ ∃ p ∈ s, okP p ∧ q = 36 :: 123 :: (joinL [46] p ++ [125])
theorem isRef_head {c : Nat} {r : List Nat} (h : isRef (c :: r) = true) : c = 36 ∧ r.head? = some 123 := by
  have h1 := (ref_inv h).1
  cases r with
  | nil => simp at h1
  | cons d r => simp at h1; exact ⟨h1.1, by rw [h1.2]; rfl⟩
theorem refs_no {c : Nat} {r : List Nat} (h : isRef (c :: r) = false) : refsT (c :: r) = refsT r := by
  rw [refs_cons, if_neg (by rw [h]; simp)]
theorem refs_skip : ∀ (a r : List Nat), (∀ c ∈ a, c ≠ 36) → refsT (a ++ r) = refsT r
  | [], r, _ => rfl
  | c :: a, r, h => by
    rw [List.cons_append, refs_no, refs_skip a r fun d hd => h d (List.mem_cons_of_mem _ hd)]
    cases q : isRef (c :: (a ++ r)) with
    | false => rfl
    | true => exact absurd (isRef_head q).1 (h c List.mem_cons_self)
theorem pc_kind {s : List Pa} {q : List Nat} (h : Pc s q) : (∃ r, q = 36 :: r) ∨ q = [125] ∨ ∀ c ∈ q, c ≠ 36 ∧ c ≠ 125 ∧ c ≠ 123 := by
  rcases h with h | ⟨k, rfl⟩ | ⟨p, _, _, rfl⟩
  · simp only [oddP, List.mem_cons, List.not_mem_nil, or_false] at h
    rcases h with rfl | rfl | rfl | rfl | rfl | rfl | rfl | rfl | rfl | rfl
    · exact .inl ⟨_, rfl⟩
    · exact .inl ⟨_, rfl⟩
    · exact .inr (.inl rfl)
    · exact .inr (.inr (by decide))
    · exact .inl ⟨_, rfl⟩
    · exact .inl ⟨_, rfl⟩
    · exact .inl ⟨_, rfl⟩
    · exact .inl ⟨_, rfl⟩
    · exact .inl ⟨_, rfl⟩
    · exact .inr (.inr (by decide))
  · refine .inr (.inr fun c hc => ?_)
    have : c ∈ [120, 121, 122] := List.mem_of_mem_take hc
    simp at this
    omega
  · exact .inl ⟨_, rfl⟩
theorem flat_head {s : List Pa} : ∀ qs : List (List Nat), (∀ q ∈ qs, Pc s q) → qs.flatten.head? ≠ some 123
  | [], _ => by simp
  | q :: qs, h => by
    have ih := flat_head qs fun r hr => h r (List.mem_cons_of_mem _ hr)
    rw [List.flatten_cons]
    rcases pc_kind (h q List.mem_cons_self) with ⟨r, rfl⟩ | rfl | hq
    · simp
    · simp
    · cases q with
      | nil => simpa using ih
      | cons c q => have := (hq c List.mem_cons_self).2.2; simpa using this
theorem split_has {c : Nat} : ∀ (w : List Nat) (x : Nat), x ∈ w → x = c ∨ ∃ p ∈ splitC c w, x ∈ p
  | [], x, h => by cases h
  | y :: w, x, h => by
    unfold splitC
    by_cases hy : y = c
    · rw [if_pos hy]
      rcases List.mem_cons.mp h with rfl | h
      · exact .inl hy
      · rcases split_has w x h with e | ⟨p, hp, hx⟩
        · exact .inl e
        · exact .inr ⟨p, List.mem_cons_of_mem _ hp, hx⟩
    · rw [if_neg hy]
      rcases List.mem_cons.mp h with rfl | h
      · cases splitC c w with
        | nil => exact .inr ⟨[x], by simp, by simp⟩
        | cons p ps => exact .inr ⟨x :: p, by simp, by simp⟩
      · rcases split_has w x h with e | ⟨p, hp, hx⟩
        · exact .inl e
        · cases e : splitC c w with
          | nil => rw [e] at hp; cases hp
          | cons p0 ps =>
            rw [e] at hp
            rcases List.mem_cons.mp hp with rfl | hp
            · exact .inr ⟨y :: p, by simp, List.mem_cons_of_mem _ hx⟩
            · exact .inr ⟨p, by simp [hp], hx⟩
theorem nm_all {s : List Nat} (h : isNm s = true) : ∀ c ∈ s, okC c = true := by
  cases s with
  | nil => simp
  | cons c r =>
    simp only [isNm, Bool.and_eq_true, List.all_eq_true] at h
    exact h.2
/-- what stands within a reference -/
theorem ref_signs {t : List Nat} (h : isRef t = true) : ∀ c ∈ (t.drop 2).takeWhile (fun c => decide (c ≠ 125)), c = 46 ∨ okC c = true := fun c hc => by
  have h3 := okP_of (ref_inv h).2.2
  rcases split_has (c := 46) _ c hc with e | ⟨p, hp, hx⟩
  · exact .inl e
  · exact .inr (nm_all (h3.2.2 p hp) c hx)
theorem tw_app {a r : List Nat} (h : ∀ c ∈ a, c ≠ 125) : (a ++ r).takeWhile (fun c => decide (c ≠ 125)) = a ++ r.takeWhile fun c => decide (c ≠ 125) := by
  induction a with
  | nil => rfl
  | cons c a ih =>
    rw [List.cons_append, List.takeWhile_cons, decide_eq_true (h c List.mem_cons_self), if_pos rfl, ih fun d hd => h d (List.mem_cons_of_mem _ hd)]
    rfl
theorem close1 {s : List Pa} : ∀ qs : List (List Nat), (∀ q ∈ qs, Pc s q) → 125 ∈ qs.flatten → 36 ∉ qs.flatten.takeWhile (fun c => decide (c ≠ 125)) →
    ∃ qs' : List (List Nat), qs'.length < qs.length ∧ (∀ q ∈ qs', q ∈ qs) ∧ qs.flatten.drop ((qs.flatten.takeWhile fun c => decide (c ≠ 125)).length + 1) = qs'.flatten
  | [], _, h, _ => by simp at h
  | q :: qs, hq, h, hn => by
    rw [List.flatten_cons] at h hn ⊢
    rcases pc_kind (hq q List.mem_cons_self) with ⟨r, rfl⟩ | rfl | hk
    · exact absurd (by rw [List.cons_append, List.takeWhile_cons]; simp) hn
    · exact ⟨qs, by simp, fun r hr => List.mem_cons_of_mem _ hr, rfl⟩
    · have h125 : ∀ c ∈ q, c ≠ 125 := fun c hc => (hk c hc).2.1
      rw [tw_app h125] at hn ⊢
      have m : 125 ∈ qs.flatten := by
        rcases List.mem_append.mp h with z | z
        · exact absurd rfl (h125 _ z)
        · exact z
      obtain ⟨qs', e1, e2, e3⟩ := close1 qs (fun r hr => hq r (List.mem_cons_of_mem _ hr)) m fun z => hn (List.mem_append_right _ z)
      refine ⟨qs', by rw [List.length_cons]; omega, fun r hr => List.mem_cons_of_mem _ (e2 r hr), ?_⟩
      rw [List.length_append, Nat.add_assoc, ← List.drop_drop, List.drop_left, e3]
theorem open_le {s : List Pa} (qs : List (List Nat)) (hq : ∀ q ∈ qs, Pc s q) (ih : ∀ qs' : List (List Nat), qs'.length ≤ qs.length → (∀ q ∈ qs', Pc s q) → wtR s (refsT qs'.flatten) ≤ qs'.length) (a : List Nat) (ha : ∀ c ∈ a, c ≠ 36 ∧ c ≠ 125) :
    wtR s (refsT (36 :: 123 :: (a ++ qs.flatten))) ≤ qs.length + 1 := by
  cases hr : isRef (36 :: 123 :: (a ++ qs.flatten)) with
  | false =>
    rw [refs_no hr, show 123 :: (a ++ qs.flatten) = (123 :: a) ++ qs.flatten from rfl, refs_skip _ _ (fun c hc => by
      rcases List.mem_cons.mp hc with rfl | hc
      · decide
      · exact (ha c hc).1)]
    have := ih qs (Nat.le_refl _) hq
    omega
  | true =>
    rw [refs_cons, if_pos hr]
    obtain ⟨_, h2, _⟩ := ref_inv hr
    have sg := ref_signs hr
    have hd : (36 :: 123 :: (a ++ qs.flatten)).drop 2 = a ++ qs.flatten := rfl
    rw [hd] at h2 sg
    have h125 : ∀ c ∈ a, c ≠ 125 := fun c hc => (ha c hc).2
    have m : 125 ∈ qs.flatten := by
      rcases List.mem_append.mp h2 with z | z
      · exact absurd rfl (h125 _ z)
      · exact z
    rw [tw_app h125] at sg
    have n36 : 36 ∉ qs.flatten.takeWhile fun c => decide (c ≠ 125) := fun z => by
      rcases sg 36 (List.mem_append_right _ z) with e | e
      · cases e
      · exact absurd e (by decide)
    obtain ⟨qs', e1, e2, e3⟩ := close1 qs hq m n36
    have ed : (36 :: 123 :: (a ++ qs.flatten)).drop (refEnd (36 :: 123 :: (a ++ qs.flatten))) = qs'.flatten := by
      unfold refEnd
      rw [hd, tw_app h125, List.length_append, show 2 + (a.length + (qs.flatten.takeWhile fun c => decide (c ≠ 125)).length) + 1 = 2 + (a.length + ((qs.flatten.takeWhile fun c => decide (c ≠ 125)).length + 1)) by omega, ← List.drop_drop, hd, ← List.drop_drop, List.drop_left, e3]
    rw [ed, wtR]
    have := ih qs' (by omega) fun q hq' => hq q (e2 q hq')
    split <;> omega
theorem split_app {c : Nat} : ∀ (x w : List Nat), c ∉ x → splitC c (x ++ c :: w) = x :: splitC c w
  | [], w, _ => by rw [List.nil_append, splitC, if_pos rfl]
  | a :: x, w, h => by
    have ha : ¬ a = c := fun e => h (by rw [e]; exact List.mem_cons_self)
    rw [List.cons_append, splitC, if_neg ha, split_app x w fun z => h (List.mem_cons_of_mem _ z)]
theorem split_one {c : Nat} : ∀ x : List Nat, c ∉ x → splitC c x = [x]
  | [], _ => rfl
  | a :: x, h => by
    have ha : ¬ a = c := fun e => h (by rw [e]; exact List.mem_cons_self)
    rw [splitC, if_neg ha, split_one x fun z => h (List.mem_cons_of_mem _ z)]
theorem split_join {c : Nat} : ∀ p : Pa, p ≠ [] → (∀ s ∈ p, c ∉ s) → splitC c (joinL [c] p) = p
  | [], h, _ => absurd rfl h
  | [x], _, h => split_one x (h x List.mem_cons_self)
  | x :: y :: r, _, h => by
    rw [joinL, List.append_assoc, List.singleton_append, split_app x _ (h x List.mem_cons_self), split_join (y :: r) (by simp) fun s hs => h s (List.mem_cons_of_mem _ hs)]
theorem join_has {c : Nat} : ∀ (p : Pa) (x : Nat), x ∈ joinL [c] p → x = c ∨ ∃ s ∈ p, x ∈ s
  | [], x, h => by cases h
  | [y], x, h => .inr ⟨y, List.mem_cons_self, h⟩
  | y :: z :: r, x, h => by
    rw [joinL] at h
    rcases List.mem_append.mp h with h | h
    · rcases List.mem_append.mp h with h | h
      · exact .inr ⟨y, List.mem_cons_self, h⟩
      · exact .inl (List.mem_singleton.mp h)
    · rcases join_has (z :: r) x h with e | ⟨s, hs, hx⟩
      · exact .inl e
      · exact .inr ⟨s, List.mem_cons_of_mem _ hs, hx⟩
theorem nm_no {p : Pa} (hp : okP p) {c : Nat} (hc : okC c = false) : ∀ s ∈ p, c ∉ s := fun s hs z => by
  rw [nm_all (hp.2.2 s hs) c z] at hc
  cases hc
theorem ref_path {p : Pa} (hp : okP p) (F : List Nat) : refsT (36 :: 123 :: (joinL [46] p ++ 125 :: F)) = p :: refsT F := by
  have h125 : ∀ c ∈ joinL [46] p, c ≠ 125 := fun c hc e => by
    subst e
    rcases join_has p 125 hc with e | ⟨s, hs, hx⟩
    · cases e
    · exact nm_no hp (by decide) s hs hx
  have tw : (joinL [46] p ++ 125 :: F).takeWhile (fun c => decide (c ≠ 125)) = joinL [46] p := by
    rw [tw_app h125, List.takeWhile_cons]
    simp
  have hd : (36 :: 123 :: (joinL [46] p ++ 125 :: F)).drop 2 = joinL [46] p ++ 125 :: F := rfl
  have ns : refNs (36 :: 123 :: (joinL [46] p ++ 125 :: F)) = p := by
    unfold refNs
    rw [hd, tw]
    exact split_join p hp.1 (nm_no hp (by decide))
  have hr : isRef (36 :: 123 :: (joinL [46] p ++ 125 :: F)) = true := by
    unfold isRef
    rw [ns, okP_path hp, hd, decide_eq_true (show 125 ∈ joinL [46] p ++ 125 :: F from by simp)]
    rfl
  have ed : (36 :: 123 :: (joinL [46] p ++ 125 :: F)).drop (refEnd (36 :: 123 :: (joinL [46] p ++ 125 :: F))) = F := by
    unfold refEnd
    rw [hd, tw, show 2 + (joinL [46] p).length + 1 = 2 + ((joinL [46] p).length + 1) by omega, ← List.drop_drop, hd, ← List.drop_drop, List.drop_left]
    rfl
  rw [refs_cons, if_pos hr, ns, ed]
theorem no_ref {t : List Nat} {c : List Nat} (h : (t.drop 2).takeWhile (fun c => decide (c ≠ 125)) = c) (hc : isPathD (pth (splitC 46 c)) = false) : isRef t = false := by
  unfold isRef refNs
  rw [h, hc, Bool.and_false, Bool.and_false]
theorem wt_le {s : List Pa} : ∀ (n : Nat) (qs : List (List Nat)), qs.length ≤ n → (∀ q ∈ qs, Pc s q) → wtR s (refsT qs.flatten) ≤ qs.length
  | 0, qs, h, _ => by rw [List.length_eq_zero_iff.mp (by omega : qs.length = 0)]; simp [refs_nil, wtR]
  | n + 1, [], _, _ => by simp [refs_nil, wtR]
  | n + 1, q :: qs, h, hq => by
    rw [List.length_cons] at h ⊢
    have hq' : ∀ r ∈ qs, Pc s r := fun r hr => hq r (List.mem_cons_of_mem _ hr)
    have ih : ∀ qs' : List (List Nat), qs'.length ≤ qs.length → (∀ q ∈ qs', Pc s q) → wtR s (refsT qs'.flatten) ≤ qs'.length := fun qs' hl hp => wt_le n qs' (by omega) hp
    have base := ih qs (Nat.le_refl _) hq'
    rw [List.flatten_cons]
    rcases hq q List.mem_cons_self with hm | ⟨k, rfl⟩ | ⟨p, hp, okp, rfl⟩
    · simp only [oddP, List.mem_cons, List.not_mem_nil, or_false] at hm
      have skip : ∀ {a : List Nat}, (∀ c ∈ a, c ≠ 36) → wtR s (refsT (a ++ qs.flatten)) ≤ qs.length + 1 := fun {a} ha => by
        rw [refs_skip a _ ha]; omega
      have bad : ∀ (c a : List Nat), (∀ x ∈ c, x ≠ 36) → (∀ x ∈ c, x ≠ 125) → isPathD (pth (splitC 46 c)) = false → wtR s (refsT (36 :: 123 :: (c ++ 125 :: qs.flatten))) ≤ qs.length + 1 := fun c a h1 h2 h3 => by
        have tw : (c ++ 125 :: qs.flatten).takeWhile (fun c => decide (c ≠ 125)) = c := by
          rw [tw_app h2, List.takeWhile_cons]
          simp
        rw [refs_no (no_ref (t := 36 :: 123 :: (c ++ 125 :: qs.flatten)) tw h3)]
        have := refs_skip (123 :: (c ++ [125])) qs.flatten fun x hx => by
          rcases List.mem_cons.mp hx with rfl | hx
          · decide
          · rcases List.mem_append.mp hx with hx | hx
            · exact h1 x hx
            · rw [List.mem_singleton.mp hx]; decide
        rw [List.cons_append, List.append_assoc] at this
        rw [show 123 :: (c ++ 125 :: qs.flatten) = 123 :: (c ++ ([125] ++ qs.flatten)) from rfl, this]
        omega
      rcases hm with rfl | rfl | rfl | rfl | rfl | rfl | rfl | rfl | rfl | rfl
      · have hr : isRef (36 :: qs.flatten) = false := by
          cases q : isRef (36 :: qs.flatten) with
          | false => rfl
          | true => exact absurd (isRef_head q).2 (flat_head qs hq')
        rw [List.cons_append, List.nil_append, refs_no hr]
        omega
      · exact open_le qs hq' ih [] (by simp)
      · exact skip (by decide)
      · exact skip (by decide)
      · have hr : isRef (36 :: 36 :: 123 :: qs.flatten) = false := by
          cases q : isRef (36 :: 36 :: 123 :: qs.flatten) with
          | false => rfl
          | true => exact absurd (isRef_head q).2 (by simp)
        show wtR s (refsT (36 :: 36 :: 123 :: qs.flatten)) ≤ _
        rw [refs_no hr]
        exact open_le qs hq' ih [] (by simp)
      · exact open_le qs hq' ih [97] (by decide)
      · exact bad [65] [] (by decide) (by decide) (by decide)
      · exact bad [97, 46, 46, 98] [] (by decide) (by decide) (by decide)
      · exact bad [97, 46, 98, 46, 97, 46, 98, 46, 97] [] (by decide) (by decide) (by decide)
      · exact skip (by decide)
    · have : ∀ c ∈ [120, 121, 122].take k, c ≠ 36 := fun c hc => by
        have : c ∈ [120, 121, 122] := List.mem_of_mem_take hc
        simp at this
        omega
      rw [refs_skip _ _ this]
      omega
    · rw [show (36 :: 123 :: (joinL [46] p ++ [125])) ++ qs.flatten = 36 :: 123 :: (joinL [46] p ++ 125 :: qs.flatten) from by simp, ref_path okp, wtR, if_pos hp]
      omega
/-! ### settings that refer to one another are drawn -/
/-- texts in a drawn value at most -/
def nT : Nat → Int → Nat
  | 0, c => if mix c 9781 5 < 3 then 1 else 0
  | d + 1, c => if mix c 9781 5 < 3 then 1 else if mix c 9781 5 = 3 then nT d (c + 1) + nT d (c + 6) + nT d (c + 11) else 0
structure PathsOk (s : List Pa) : Prop where
  ok : ∀ p ∈ s, okP p
  few : s.length ≤ 9
theorem nm_len {s : List Nat} (h : isNm s = true) : s.length ≤ 8 := by
  cases s with
  | nil => simp
  | cons c r =>
    simp only [isNm, Bool.and_eq_true, decide_eq_true_eq] at h
    rw [List.length_cons]; omega
theorem sum_le8 : ∀ {p : Pa}, (∀ s ∈ p, isNm s = true) → sumLen p ≤ 8 * p.length
  | [], _ => Nat.le_refl _
  | x :: p, h => by
    have a := nm_len (h x List.mem_cons_self)
    have b := sum_le8 fun s hs => h s (List.mem_cons_of_mem _ hs)
    rw [sumLen, List.length_cons]; omega
theorem join_le : ∀ p : Pa, (joinL [46] p).length ≤ sumLen p + p.length
  | [] => Nat.le_refl _
  | [x] => by simp [joinL, sumLen]
  | x :: y :: r => by
    have := join_le (y :: r)
    rw [joinL, List.length_append, List.length_append, sumLen]
    simp only [List.length_cons, List.length_nil] at this ⊢
    omega
theorem joinp_d {p : Pa} (hp : okP p) : m1S .join [46] (pth p) = some (.str (joinL [46] p)) := by
  have e : allStr (p.map Dt.str) = some p := by
    have := allStr_map id p
    simpa using this
  have l := sum_le8 hp.2.2
  have := hp.2.1
  unfold pth m1S
  simp only [e, Option.bind_some, List.length_cons, List.length_nil]
  exact if_pos (by rw [lim16]; omega)
theorem run_piece' (n : Nat) (a b : Dt) : runP tab gls (n + 1) c__law_piece [a, b] = (exSs (Gm n) b__law_piece [some (.d a), some (.d b), none, none] []).bind endD := rfl
theorem run_piece (n : Nat) (c : Int) {s : List Pa} (hs : PathsOk s) : ∃ q, runP tab gls (n + 2) c__law_piece [.int c, .lst (s.map pth)] = .ok (.str q) ∧ Pc s q ∧ q.length ≤ 60 := by
  rw [run_piece']
  unfold b__law_piece
  obtain ⟨w1, w2⟩ := @mix_range c 9811 5 (by decide)
  rw [exSs_nx (exS_set_ok (mix_d (v_d rfl) (by decide) (by decide) (by decide)))]
  dsimp only [List.set]
  by_cases h0 : mix c 9811 5 = 0
  · obtain ⟨m1, m2⟩ := @mix_range c 9803 10 (by decide)
    obtain ⟨x, hx, ex⟩ := @ix_t (oddP.map Dt.str) (mix c 9803 10) m1 (by simpa [oddP] using m2)
    obtain ⟨q, hq, rfl⟩ := List.mem_map.mp hx
    refine ⟨q, ?_, .inl hq, ?_⟩
    · have e1 : evE (Gm (n + 1)) (.tup (.cons (.str [36]) (.cons (.str [36, 123]) (.cons (.str [125]) (.cons (.str [97]) (.cons (.str [36, 36, 123]) (.cons (.str [36, 123, 97]) (.cons (.str s_A_1301) (.cons (.str s_ab_d64d) (.cons (.str s_ababa_6eb8) (.cons (.str [32]) .nil))))))))))) [some (.d (.int c)), some (.d (.lst (s.map pth))), some (.d (.int (mix c 9811 5))), none] [] = .ok (.d (.tup (oddP.map Dt.str)), []) := by
        rw [evE_tup]
        simp only [evEs_cons, evE_str, evEs_nil, Rs.bind_ok]
        exact mkTup_ok rfl (by simp [lim16])
      rw [exSs_rt ((exS_if_yes (cmp_d (v_d rfl) int_d (eq_ii _ _)) (by simpa using h0)).trans ((exSs_nx (exS_set_ok e1)).trans (exSs_rt (exS_ret_ok (ix_d (v_d rfl) (mix_d (v_d rfl) (by decide) (by decide) (by decide)) ex)))))]
      rfl
    · have : ∀ q ∈ oddP, q.length ≤ 60 := by decide
      exact this q hq
  · rw [exSs_nx (exS_if_no (cmp_d (v_d rfl) int_d (eq_ii _ _)) (by simpa using h0))]
    have hnv : evE (Gm (n + 1)) (.not (.v 1)) [some (.d (.int c)), some (.d (.lst (s.map pth))), some (.d (.int (mix c 9811 5))), none] [] = .ok (.d (.bl s.isEmpty), []) := by
      rw [evE_not, v_d rfl, Rs.bind_ok, op1_d, notD_x]
      cases s <;> rfl
    have h1e : evE (Gm (n + 1)) (.cmp .eq (.v 2) (.int 1)) [some (.d (.int c)), some (.d (.lst (s.map pth))), some (.d (.int (mix c 9811 5))), none] [] = .ok (.d (.bl (decide (mix c 9811 5 = 1))), []) := cmp_d (v_d rfl) int_d (eq_ii _ _)
    have hor := or2_d h1e hnv
    by_cases h1 : (decide (mix c 9811 5 = 1) || s.isEmpty) = true
    · rw [h1] at hor
      obtain ⟨m1, m2⟩ := @mix_range c 9791 4 (by decide)
      obtain ⟨k, hk⟩ : ∃ k : Nat, mix c 9791 4 = (k : Int) := ⟨(mix c 9791 4).toNat, by omega⟩
      refine ⟨[120, 121, 122].take k, ?_, .inr (.inl ⟨k, rfl⟩), by rw [List.length_take]; simp; omega⟩
      have e1 : evE (Gm (n + 1)) (.sl (.str [120, 121, 122]) .no (.yes (.call c__law_mix (.cons (.v 0) (.cons (.int 9791) (.cons (.int 4) .nil)))))) [some (.d (.int c)), some (.d (.lst (s.map pth))), some (.d (.int (mix c 9811 5))), none] [] = .ok (.d (.str ([120, 121, 122].take k)), []) := by
        rw [evE_sl, str_d, Rs.bind_ok, evO_no, Rs.bind_ok, evO_yes, mix_d (v_d rfl) (by decide) (by decide) (by decide)]
        simp only [Rs.bind_ok, intW_i, Option.map_some, Rs.ofO_some]
        refine op1_ok ?_
        rw [sl_s, hk, cut_hi]
      rw [exSs_rt ((exS_if_yes hor rfl).trans (exSs_rt (exS_ret_ok e1)))]
      rfl
    · rw [Bool.not_eq_true] at h1
      rw [h1] at hor
      rw [Bool.or_eq_false_iff] at h1
      have hne : 0 < s.length := by
        cases s with
        | nil => cases h1.2
        | cons _ _ => simp
      obtain ⟨m1, m2⟩ := @mix_range c 9787 (s.length : Int) (by omega)
      obtain ⟨y, hy, ey⟩ := @ixL_in _ (s.map pth) (mix c 9787 (s.length : Int)) m1 (by rw [List.length_map]; exact m2)
      obtain ⟨p, hp, rfl⟩ := List.mem_map.mp hy
      have okp := hs.ok p hp
      have l := sum_le8 okp.2.2
      have l2 := join_le p
      have l3 := okp.2.1
      refine ⟨36 :: 123 :: (joinL [46] p ++ [125]), ?_, .inr (.inr ⟨p, hp, okp, rfl⟩), by simp; omega⟩
      have hm : evE (Gm (n + 1)) (.call c__law_mix (.cons (.v 0) (.cons (.int 9787) (.cons (.p1 .len (.v 1)) .nil)))) [some (.d (.int c)), some (.d (.lst (s.map pth))), some (.d (.int (mix c 9811 5))), none] [] = .ok (.d (.int (mix c 9787 (s.length : Int))), []) := by
        rw [call3_v (v_d rfl) int_d (evE_p1_ok (v_d rfl) (len_l _)), List.length_map, run_mix n c 9787 _ (by decide) (by decide) (by omega)]
        rfl
      have hj : evE (Gm (n + 1)) (.m1 .join (.str [46]) (.ix (.v 1) (.call c__law_mix (.cons (.v 0) (.cons (.int 9787) (.cons (.p1 .len (.v 1)) .nil)))))) [some (.d (.int c)), some (.d (.lst (s.map pth))), some (.d (.int (mix c 9811 5))), none] [] = .ok (.d (.str (joinL [46] p)), []) := evE_m1_ok str_d (ix_d (v_d rfl) hm ey) (joinp_d okp)
      rw [exSs_nx (exS_if_no hor rfl), exSs_rt (exS_ret_ok (bin_d (bin_d str_d hj (add_ss (by rw [lim16]; simp; omega))) str_d (add_ss (by rw [lim16]; simp; omega))))]
      rfl
/-! #### values -/
theorem lcL_rng {st : Sr} {f : Dt → Sr → Rs (Option Dt × Sr)} (P : Nat → Dt → Prop) : ∀ (n lo : Nat), (∀ j, lo ≤ j → j < lo + n → ∃ y, f (.int (j : Nat)) st = .ok (some y, st) ∧ P j y) → ∃ ys, lcL [] f (rangeL (lo : Nat) n) st = .ok (ys, st) ∧ ys.length = n ∧ ∀ i y, ys[i]? = some y → P (lo + i) y
  | 0, lo, _ => ⟨[], rfl, rfl, by simp⟩
  | n + 1, lo, h => by
    obtain ⟨y, h1, h2⟩ := h lo (Nat.le_refl _) (by omega)
    obtain ⟨ys, h3, h4, h5⟩ := lcL_rng P n (lo + 1) fun j a b => h j (by omega) (by omega)
    refine ⟨y :: ys, ?_, by rw [List.length_cons, h4], fun i z hz => ?_⟩
    · rw [show rangeL ((lo : Nat) : Int) (n + 1) = .int ((lo : Nat) : Int) :: rangeL (((lo + 1 : Nat)) : Int) n from by rw [rangeL]; congr 2]
      exact lcL_cons h1 h3
    · cases i with
      | zero => simp at hz; subst hz; exact h2
      | succ i =>
        have := h5 i z (by simpa using hz)
        rwa [show lo + (i + 1) = lo + 1 + i by omega]
theorem run_vof' (n : Nat) (a b c : Dt) : runP tab gls (n + 1) c__law_value_of [a, b, c] = (exSs (Gm n) b__law_value_of [some (.d a), some (.d b), some (.d c), none, none, none, none, none] []).bind endD := rfl
/-- a text is drawn -/
theorem vof_text (n : Nat) (c : Int) {s : List Pa} (hs : PathsOk s) (D : Dt) (h : mix c 9781 5 < 3) : ∃ t, (exSs (Gm (n + 2)) b__law_value_of [some (.d (.int c)), some (.d (.lst (s.map pth))), some (.d D), none, none, none, none, none] []).bind endD = .ok (.tup [.str s_text_a7c7, .str t]) ∧ t.length ≤ 60 ∧ wtR s (refsT t) ≤ 4 := by
  unfold b__law_value_of
  rw [exSs_nx (exS_set_ok (mix_d (v_d rfl) (by decide) (by decide) (by decide)))]
  dsimp only [List.set]
  obtain ⟨m1, m2⟩ := @mix_range c 9769 5 (by decide)
  obtain ⟨m, hm⟩ : ∃ m : Nat, mix c 9769 5 = (m : Int) := ⟨(mix c 9769 5).toNat, by omega⟩
  obtain ⟨ρ', e1, qs, x5, x7, rfl, hl, hq, h60⟩ := @exFor_inv [] (exSs (Gm (n + 2)) fb0__law_value_of) (.one 5) (fun k ρ => ∃ qs x5 x7, ρ = [some (.d (.int c)), some (.d (.lst (s.map pth))), some (.d D), some (.d (.int (mix c 9781 5))), some (.d (.str qs.flatten)), x5, none, x7] ∧ qs.length ≤ k ∧ (∀ q ∈ qs, Pc s q) ∧ qs.flatten.length ≤ 60) (rangeL 0 m) 0
    [some (.d (.int c)), some (.d (.lst (s.map pth))), some (.d D), some (.d (.int (mix c 9781 5))), some (.d (.str [])), none, none, none] ⟨[], none, none, rfl, Nat.le_refl _, by simp, by simp⟩ (by
      rintro j x ρ hj ⟨qs, x5, x7, rfl, hl, hq, h60⟩
      obtain ⟨rfl, hj2⟩ := range0_at hj
      obtain ⟨q, e, hp, hq60⟩ := run_piece n (c + 7 * (j : Int)) hs
      have ec : evE (Gm (n + 2)) (.call c__law_piece (.cons (.bin .add (.v 0) (.bin .mul (.int 7) (.v 5))) (.cons (.v 1) .nil))) [some (.d (.int c)), some (.d (.lst (s.map pth))), some (.d D), some (.d (.int (mix c 9781 5))), some (.d (.str qs.flatten)), some (.d (.int (j : Nat))), none, x7] [] = .ok (.d (.str q), []) := by
        rw [call2_v (addm_d (i := 0) (j := 5) rfl rfl (by decide)) (v_d rfl), e]
        rfl
      have el : evE (Gm (n + 2)) (.cmp .le (.bin .add (.p1 .len (.v 4)) (.p1 .len (.v 7))) (.int 60)) [some (.d (.int c)), some (.d (.lst (s.map pth))), some (.d D), some (.d (.int (mix c 9781 5))), some (.d (.str qs.flatten)), some (.d (.int (j : Nat))), none, some (.d (.str q))] [] = .ok (.d (.bl (decide (((qs.flatten.length : Nat) : Int) + (q.length : Nat) ≤ 60))), []) :=
        cmp_d (bin_d (evE_p1_ok (v_d rfl) (len_s _)) (evE_p1_ok (v_d rfl) (len_s _)) (add_ii _ _)) int_d (le_ii _ _)
      by_cases h6 : qs.flatten.length + q.length ≤ 60
      · refine ⟨_, [some (.d (.int c)), some (.d (.lst (s.map pth))), some (.d D), some (.d (.int (mix c 9781 5))), some (.d (.str (qs.flatten ++ q))), some (.d (.int (j : Nat))), none, some (.d (.str q))], rfl, ?_, qs ++ [q], _, _, by rw [List.flatten_append]; simp; exact ⟨rfl, rfl⟩, by simp; omega, fun r hr => ?_, by rw [List.flatten_append, List.length_append]; simp; simpa using h6⟩
        · unfold fb0__law_value_of
          dsimp only [List.set]
          rw [exSs_nx (exS_set_ok ec)]
          dsimp only [List.set]
          refine hnx3 ((exS_if_yes el (by rw [decide_eq_true (by omega)]; rfl)).trans (hnx3 (exS_set_ok (bin_d (v_d rfl) (v_d rfl) (add_ss (by rw [lim16]; omega))))))
        · rcases List.mem_append.mp hr with hr | hr
          · exact hq r hr
          · rw [List.mem_singleton.mp hr]; exact hp
      · refine ⟨_, [some (.d (.int c)), some (.d (.lst (s.map pth))), some (.d D), some (.d (.int (mix c 9781 5))), some (.d (.str qs.flatten)), some (.d (.int (j : Nat))), none, some (.d (.str q))], rfl, ?_, qs, _, _, rfl, by omega, hq, h60⟩
        unfold fb0__law_value_of
        dsimp only [List.set]
        rw [exSs_nx (exS_set_ok ec)]
        dsimp only [List.set]
        exact hnx (exS_if_no el (by rw [decide_eq_false (by omega)]; rfl)))
  rw [rangeL_len] at hl
  have hf : exS (Gm (n + 2)) (.forS (.one 5) (.rng1 (.call c__law_mix (.cons (.v 0) (.cons (.int 9769) (.cons (.int 5) .nil))))) fb0__law_value_of) [some (.d (.int c)), some (.d (.lst (s.map pth))), some (.d D), some (.d (.int (mix c 9781 5))), some (.d (.str [])), none, none, none] [] = .ok ((.nx, [some (.d (.int c)), some (.d (.lst (s.map pth))), some (.d D), some (.d (.int (mix c 9781 5))), some (.d (.str qs.flatten)), x5, none, x7]), []) := by
    refine exS_for_ok (evI_rng_ok (m := m) ?_ (by omega)) e1
    rw [← hm]
    exact mix_d (v_d rfl) (by decide) (by decide) (by decide)
  refine ⟨qs.flatten, ?_, h60, ?_⟩
  · rw [exSs_rt ((exS_if_yes (cmp_d (v_d rfl) int_d (lt_ii _ _)) (by rw [decide_eq_true h]; rfl)).trans ((exSs_nx (exS_set_ok str_d)).trans ((exSs_nx hf).trans (exSs_rt (exS_ret_ok (tup2_d str_d (v_d rfl)))))))]
    rfl
  · have := wt_le qs.length qs (Nat.le_refl _) hq
    omega
def cstV4 : List Dt := [.tup [.str s_number_1f54, .int (-5)], .tup [.str s_truth_2626, .bl true], .tup [.str [100, 97, 121], .tup [.int 2024, .int 2, .int 29]], .tup [.str s_number_1f54, .int 0]]
theorem cst_ok (k : Nat) : ∀ v ∈ cstV4, isValD k v = true ∧ nmV k v = [] := by
  intro v hv
  simp only [cstV4, List.mem_cons, List.not_mem_nil, or_false] at hv
  rcases hv with rfl | rfl | rfl | rfl
  · exact ⟨isVal_number k (by decide) (by decide), nmV_no k _ (by decide) (by decide)⟩
  · exact ⟨isVal_truth k true, nmV_no k _ (by decide) (by decide)⟩
  · exact ⟨isVal_day k (by decide), nmV_no k _ (by decide) (by decide)⟩
  · exact ⟨isVal_number k (by decide) (by decide), nmV_no k _ (by decide) (by decide)⟩
/-- a plain value is drawn -/
theorem vof_cst (n : Nat) (c : Int) (s : List Pa) (d : Int) (h : ¬ mix c 9781 5 < 3) (h2 : ¬ (mix c 9781 5 = 3 ∧ 0 < d)) : ∃ v ∈ cstV4, (exSs (Gm (n + 2)) b__law_value_of [some (.d (.int c)), some (.d (.lst (s.map pth))), some (.d (.int d)), none, none, none, none, none] []).bind endD = .ok v := by
  unfold b__law_value_of
  rw [exSs_nx (exS_set_ok (mix_d (v_d rfl) (by decide) (by decide) (by decide)))]
  dsimp only [List.set]
  rw [exSs_nx (exS_if_no (cmp_d (v_d rfl) int_d (lt_ii _ _)) (by rw [decide_eq_false h]; rfl))]
  have ha : evE (Gm (n + 2)) (.and (.cons (.cmp .eq (.v 3) (.int 3)) (.cons (.cmp .gt (.v 2) (.int 0)) .nil))) [some (.d (.int c)), some (.d (.lst (s.map pth))), some (.d (.int d)), some (.d (.int (mix c 9781 5))), none, none, none, none] [] = .ok (.d (.bl (decide (mix c 9781 5 = 3) && decide (0 < d))), []) := and2_d (cmp_d (v_d rfl) int_d (eq_ii _ _)) (cmp_d (v_d rfl) int_d (gt_ii _ _))
  rw [exSs_nx (exS_if_no ha (by rw [truthD_bl, Bool.and_eq_false_iff, decide_eq_false_iff_not, decide_eq_false_iff_not]; omega))]
  obtain ⟨m1, m2⟩ := @mix_range c 9749 4 (by decide)
  obtain ⟨x, hx, ex⟩ := @ix_t cstV4 (mix c 9749 4) m1 (by simpa [cstV4] using m2)
  refine ⟨x, hx, ?_⟩
  have e1 : evE (Gm (n + 2)) (.tup (.cons (.tup (.cons (.str s_number_1f54) (.cons (.neg (.int 5)) .nil))) (.cons (.tup (.cons (.str s_truth_2626) (.cons (.bl true) .nil))) (.cons (.tup (.cons (.str [100, 97, 121]) (.cons (.tup (.cons (.int 2024) (.cons (.int 2) (.cons (.int 29) .nil)))) .nil))) (.cons (.tup (.cons (.str s_number_1f54) (.cons (.int 0) .nil))) .nil))))) [some (.d (.int c)), some (.d (.lst (s.map pth))), some (.d (.int d)), some (.d (.int (mix c 9781 5))), none, none, none, none] [] = .ok (.d (.tup cstV4), []) := by
    simp [cstV4]
  rw [exSs_rt (exS_ret_ok (ix_d e1 (mix_d (v_d rfl) (by decide) (by decide) (by decide)) ex))]
  rfl
theorem wt_flat {s : List Pa} (k : Nat) (f : Nat → Nat) : ∀ vs : List Dt, (∀ i v, vs[i]? = some v → wtR s (nmV k v) ≤ f i) → vs.length ≤ 3 → wtR s (vs.flatMap (nmV k)) ≤ f 0 + f 1 + f 2 := by
  intro vs h hl
  match vs, h, hl with
  | [], _, _ => exact Nat.zero_le _
  | [a], h, _ =>
    have h0 := h 0 a rfl
    simp only [List.flatMap_cons, List.flatMap_nil, List.append_nil]; omega
  | [a, b], h, _ =>
    have h0 := h 0 a rfl
    have h1 := h 1 b rfl
    simp only [List.flatMap_cons, List.flatMap_nil, List.append_nil, wtR_app]; omega
  | [a, b, c], h, _ =>
    have h0 := h 0 a rfl
    have h1 := h 1 b rfl
    have h2 := h 2 c rfl
    simp only [List.flatMap_cons, List.flatMap_nil, List.append_nil, wtR_app]; omega
  | _ :: _ :: _ :: _ :: _, _, hl => simp at hl <;> omega
theorem run_vof {s : List Pa} (hs : PathsOk s) : ∀ (d n : Nat) (c : Int), ∃ v, runP tab gls (n + d + 3) c__law_value_of [.int c, .lst (s.map pth), .int (d : Nat)] = .ok v ∧ isValD d v = true ∧ wtR s (nmV d v) ≤ 4 * nT d c := by
  intro d
  induction d with
  | zero =>
    intro n c
    rw [show n + 0 + 3 = (n + 2) + 1 by omega, run_vof']
    by_cases h : mix c 9781 5 < 3
    · obtain ⟨t, e, h1, h2⟩ := vof_text n c hs (.int (0 : Nat)) h
      exact ⟨_, e, isVal_text 0 h1, by rw [nmV_text, nT, if_pos h]; omega⟩
    · obtain ⟨v, hv, e⟩ := vof_cst n c s (0 : Nat) h (by omega)
      exact ⟨v, e, (cst_ok 0 v hv).1, by rw [(cst_ok 0 v hv).2]; simp [wtR]⟩
  | succ d ih =>
    intro n c
    rw [show n + (d + 1) + 3 = (n + d + 1 + 2) + 1 by omega, run_vof']
    by_cases h : mix c 9781 5 < 3
    · obtain ⟨t, e, h1, h2⟩ := vof_text (n + d + 1) c hs (.int ((d + 1 : Nat) : Int)) h
      exact ⟨_, e, isVal_text _ h1, by rw [nmV_text, nT, if_pos h]; omega⟩
    · by_cases h3 : mix c 9781 5 = 3
      · obtain ⟨m1, m2⟩ := @mix_range c 9767 4 (by decide)
        obtain ⟨m, hm⟩ : ∃ m : Nat, mix c 9767 4 = (m : Int) := ⟨(mix c 9767 4).toNat, by omega⟩
        obtain ⟨vs, e1, e2, e3⟩ := @lcL_rng [] (lcTurn (evIfs (Gm (n + d + 1 + 2)) .nil) (evE (Gm (n + d + 1 + 2)) le0__law_value_of) (.one 5) [some (.d (.int c)), some (.d (.lst (s.map pth))), some (.d (.int ((d + 1 : Nat) : Int))), some (.d (.int (mix c 9781 5))), none, none, some (.d (.int m)), none])
          (fun j v => isValD d v = true ∧ wtR s (nmV d v) ≤ 4 * nT d (c + 5 * (j : Int) + 1)) m 0 (fun j _ hj => by
            obtain ⟨v, ev, v1, v2⟩ := ih n (c + 5 * (j : Int) + 1)
            refine ⟨v, lcTurn_one (by simp) ?_, v1, v2⟩
            have a1 : evE (Gm (n + d + 1 + 2)) (.bin .add (.bin .add (.v 0) (.bin .mul (.int 5) (.v 5))) (.int 1)) [some (.d (.int c)), some (.d (.lst (s.map pth))), some (.d (.int ((d + 1 : Nat) : Int))), some (.d (.int (mix c 9781 5))), none, some (.d (.int (j : Nat))), some (.d (.int m)), none] [] = .ok (.d (.int (c + 5 * (j : Int) + 1)), []) := bin_d (addm_d (i := 0) (j := 5) rfl rfl (by decide)) int_d rfl
            have a2 : evE (Gm (n + d + 1 + 2)) (.bin .sub (.v 2) (.int 1)) [some (.d (.int c)), some (.d (.lst (s.map pth))), some (.d (.int ((d + 1 : Nat) : Int))), some (.d (.int (mix c 9781 5))), none, some (.d (.int (j : Nat))), some (.d (.int m)), none] [] = .ok (.d (.int ((d : Nat) : Int)), []) := by
              rw [bin_d (v_d rfl) int_d (sub_ii _ _), show ((d + 1 : Nat) : Int) - 1 = ((d : Nat) : Int) by omega]
            unfold le0__law_value_of
            dsimp only [List.set]
            rw [call3_v a1 (v_d rfl) a2, show n + d + 1 + 2 = n + d + 3 by omega, ev]
            rfl)
        have ha : evE (Gm (n + d + 1 + 2)) (.and (.cons (.cmp .eq (.v 3) (.int 3)) (.cons (.cmp .gt (.v 2) (.int 0)) .nil))) [some (.d (.int c)), some (.d (.lst (s.map pth))), some (.d (.int ((d + 1 : Nat) : Int))), some (.d (.int (mix c 9781 5))), none, none, none, none] [] = .ok (.d (.bl true), []) := by
          rw [and2_d (cmp_d (v_d rfl) int_d (eq_ii _ _)) (cmp_d (v_d rfl) int_d (gt_ii _ _)), decide_eq_true h3, decide_eq_true (by omega)]
          rfl
        have hl : evE (Gm (n + d + 1 + 2)) (.p1 .tuple (.lc le0__law_value_of (.one 5) (.rng1 (.v 6)) .nil)) [some (.d (.int c)), some (.d (.lst (s.map pth))), some (.d (.int ((d + 1 : Nat) : Int))), some (.d (.int (mix c 9781 5))), none, none, some (.d (.int m)), none] [] = .ok (.d (.tup vs), []) := evE_p1_ok (evE_lc_ok (evI_rng_ok (m := m) (v_d rfl) (by omega)) e1 (by omega)) rfl
        have e6 : ∀ (i : Nat) v, vs[i]? = some v → isValD d v = true ∧ wtR s (nmV d v) ≤ 4 * nT d (c + 5 * (i : Int) + 1) := fun i v hv => by
          have := e3 i v hv
          rwa [Nat.zero_add] at this
        refine ⟨.tup [.str s_list_f818, .tup vs], ?_, isVal_list (by omega) fun v hv => ?_, ?_⟩
        · unfold b__law_value_of
          rw [exSs_nx (exS_set_ok (mix_d (v_d rfl) (by decide) (by decide) (by decide)))]
          dsimp only [List.set]
          rw [exSs_nx (exS_if_no (cmp_d (v_d rfl) int_d (lt_ii _ _)) (by rw [decide_eq_false h]; rfl))]
          have hs6 : exS (Gm (n + d + 1 + 2)) (.set 6 (.call c__law_mix (.cons (.v 0) (.cons (.int 9767) (.cons (.int 4) .nil))))) [some (.d (.int c)), some (.d (.lst (s.map pth))), some (.d (.int ((d + 1 : Nat) : Int))), some (.d (.int (mix c 9781 5))), none, none, none, none] [] = .ok ((.nx, [some (.d (.int c)), some (.d (.lst (s.map pth))), some (.d (.int ((d + 1 : Nat) : Int))), some (.d (.int (mix c 9781 5))), none, none, some (.d (.int m)), none]), []) := by
            rw [exS_set_ok (mix_d (v_d rfl) (by decide) (by decide) (by decide)), hm]
            rfl
          rw [exSs_rt ((exS_if_yes ha rfl).trans ((exSs_nx hs6).trans (exSs_rt (exS_ret_ok (tup2_d str_d hl)))))]
          rfl
        · obtain ⟨i, hi⟩ := List.getElem?_of_mem hv
          exact (e6 i v hi).1
        · rw [nmV_list, nT, if_neg h, if_pos h3]
          have := wt_flat d (fun i => 4 * nT d (c + 5 * (i : Int) + 1)) vs (fun i v hv => (e6 i v hv).2) (by omega)
          rw [show c + 5 * ((0 : Nat) : Int) + 1 = c + 1 by omega, show c + 5 * ((1 : Nat) : Int) + 1 = c + 6 by omega, show c + 5 * ((2 : Nat) : Int) + 1 = c + 11 by omega] at this
          omega
      · obtain ⟨v, hv, e⟩ := vof_cst (n + d + 1) c s ((d + 1 : Nat) : Int) h (fun z => h3 z.1)
        exact ⟨v, e, (cst_ok (d + 1) v hv).1, by rw [(cst_ok (d + 1) v hv).2]; simp [wtR]⟩
/-! ### drawn orders -/
abbrev inD (i : Nat) : Dt := .int (i : Nat)
theorem popi0 {Γ : Gam} {ρ : Ev} {vs : List Dt} {i j : Nat} {e : Ex} (h1 : ρ[i]? = some (some (.ob 0))) (h2 : evE Γ e ρ [.lst vs] = .ok (.d (.int (j : Nat)), [.lst vs])) (hj : j < vs.length) (hl : vs.length ≤ 16777216) : evE Γ (.popi i e) ρ [.lst vs] = .ok (.d vs[j], [.lst (vs.eraseIdx j)]) := by
  rw [evE_popi, h1]
  show (evE Γ e ρ [.lst vs]).bind (popiW 0) = _
  rw [h2, Rs.bind_ok]
  unfold popiW
  dsimp only
  rw [show ([Ob.lst vs] : List Ob)[0]? = some (.lst vs) from rfl]
  dsimp only
  rw [if_pos ⟨by omega, by omega, by rw [lim16]; exact hl⟩, Int.toNat_natCast, List.getElem?_eq_getElem hj]
  rfl
theorem rangeL_inD : ∀ (n lo : Nat), rangeL (lo : Nat) n = (List.range' lo n).map inD
  | 0, lo => rfl
  | n + 1, lo => by
    have := rangeL_inD n (lo + 1)
    rw [rangeL, List.range'_succ, List.map_cons, ← this]
    rfl
theorem at_perm : ∀ (l : List Nat) (j : Nat) (h : j < l.length), (l[j] :: l.eraseIdx j).Perm l
  | x :: l, 0, _ => List.Perm.refl _
  | x :: l, j + 1, h => by
    have ih := at_perm l j (by simpa using h)
    rw [List.getElem_cons_succ, List.eraseIdx_cons_succ]
    exact (List.Perm.swap _ _ _).trans (ih.cons x)
theorem erase_inD : ∀ (l : List Nat) (j : Nat), (l.map inD).eraseIdx j = (l.eraseIdx j).map inD
  | [], j => rfl
  | x :: l, 0 => rfl
  | x :: l, j + 1 => by
    rw [List.map_cons, List.eraseIdx_cons_succ, List.eraseIdx_cons_succ, erase_inD l j]
    rfl
theorem run_perm' (n : Nat) (a b : Dt) : runP tab gls (n + 1) c__law_perm [a, b] = (exSs (Gm n) b__law_perm [some (.d a), some (.d b), none, none] []).bind endD := rfl
theorem perm_go (n : Nat) (c : Int) (m : Nat) (hm : m ≤ 1000) : ∀ (r k : Nat) (l : List Nat), l.length = r → k + r = m →
    ∃ is : List Nat, lcL [] (lcTurn (evIfs (Gm (n + 1)) .nil) (evE (Gm (n + 1)) le0__law_perm) (.one 3) [some (.d (.int c)), some (.d (.int (m : Nat))), some (.ob 0), none]) (rangeL (k : Nat) r) [.lst (l.map inD)] = .ok (is.map inD, [.lst []]) ∧ is.Perm l
  | 0, k, l, h, _ => by
    rw [List.length_eq_zero_iff.mp h]
    exact ⟨[], rfl, List.Perm.refl _⟩
  | r + 1, k, l, h, hk => by
    obtain ⟨m1, m2⟩ := @mix_range (c + 5 * (k : Int)) 9967 ((m : Int) - (k : Int)) (by omega)
    obtain ⟨j, hj⟩ : ∃ j : Nat, mix (c + 5 * (k : Int)) 9967 ((m : Int) - (k : Int)) = (j : Int) := ⟨(mix (c + 5 * (k : Int)) 9967 ((m : Int) - (k : Int))).toNat, by omega⟩
    have hjl : j < l.length := by omega
    obtain ⟨is, e, p⟩ := perm_go n c m hm r (k + 1) (l.eraseIdx j) (by rw [List.length_eraseIdx_of_lt hjl]; omega) (by omega)
    refine ⟨l[j] :: is, ?_, (p.cons _).trans (at_perm l j hjl)⟩
    have he : evE (Gm (n + 1)) (.call c__law_mix (.cons (.bin .add (.v 0) (.bin .mul (.int 5) (.v 3))) (.cons (.int 9967) (.cons (.bin .sub (.v 1) (.v 3)) .nil)))) [some (.d (.int c)), some (.d (.int (m : Nat))), some (.ob 0), some (.d (.int (k : Nat)))] [.lst (l.map inD)] = .ok (.d (.int (j : Nat)), [.lst (l.map inD)]) := by
      rw [call3_v (addm_d (i := 0) (j := 3) rfl rfl (by decide)) int_d (bin_d (v_d rfl) (v_d rfl) (sub_ii _ _)), run_mix n _ 9967 _ (by decide) (by decide) (by omega), hj]
      rfl
    have hp := popi0 (Γ := Gm (n + 1)) (ρ := [some (.d (.int c)), some (.d (.int (m : Nat))), some (.ob 0), some (.d (.int (k : Nat)))]) (i := 2) rfl he (by rw [List.length_map]; exact hjl) (by rw [List.length_map]; omega)
    have ht : lcTurn (evIfs (Gm (n + 1)) .nil) (evE (Gm (n + 1)) le0__law_perm) (.one 3) [some (.d (.int c)), some (.d (.int (m : Nat))), some (.ob 0), none] (.int (k : Nat)) [.lst (l.map inD)] = .ok (some (inD l[j]), [.lst ((l.eraseIdx j).map inD)]) := by
      unfold lcTurn
      simp only [slots_one, wipe_one, List.set, setTg_one, Rs.ofO_some, Rs.bind_ok, evIfs_nil, if_true]
      unfold le0__law_perm
      rw [hp]
      simp only [Rs.bind_ok, dataW_d, Rs.ofO_some, noExc_ok]
      rw [List.getElem_map, erase_inD]
    rw [rangeL, lcL, ht]
    simp only [Rs.bind_ok, watch_nil, if_true]
    rw [show ((k : Nat) : Int) + 1 = ((k + 1 : Nat) : Int) by omega, e]
    rfl
theorem run_perm (n : Nat) (c : Int) (m : Nat) (hm : m ≤ 1000) : ∃ is : List Nat, runP tab gls (n + 2) c__law_perm [.int c, .int (m : Nat)] = .ok (.lst (is.map inD)) ∧ is.Perm (List.range m) := by
  obtain ⟨is, e, p⟩ := perm_go n c m hm m 0 (List.range m) (by simp) (by omega)
  refine ⟨is, ?_, p⟩
  rw [run_perm']
  unfold b__law_perm
  have hl : evE (Gm (n + 1)) (.lrng (.v 1)) [some (.d (.int c)), some (.d (.int (m : Nat))), none, none] [] = .ok (.d (.lst ((List.range m).map inD)), []) := by
    rw [evE_lrng, v_d rfl, Rs.bind_ok]
    unfold lrngW
    dsimp only
    rw [if_pos ⟨by omega, by omega⟩, Int.toNat_natCast, show (0 : Int) = ((0 : Nat) : Int) from rfl, rangeL_inD, List.range_eq_range']
  rw [exSs_nx (setL_ok hl)]
  dsimp only [List.set, List.length_nil, List.nil_append]
  have e2 : evE (Gm (n + 1)) (.lc le0__law_perm (.one 3) (.rng1 (.v 1)) .nil) [some (.d (.int c)), some (.d (.int (m : Nat))), some (.ob 0), none] [.lst ((List.range m).map inD)] = .ok (.d (.lst (is.map inD)), [.lst []]) := by
    rw [evE_lc, evI_rng_ok (m := m) (v_d rfl) (by omega), Rs.bind_ok]
    show (lcL [] _ (rangeL ((0 : Nat) : Int) m) _).bind lcEnd = _
    rw [e, Rs.bind_ok, lcEnd_ok (by rw [lim16, List.length_map, p.length_eq, List.length_range]; omega)]
  rw [exSs_rt (exS_ret_ok e2)]
  rfl
/-! ### a bound of unlike pairs -/
def bnd (n : Nat) : Nat := if n ≤ 2 then 4 * n else (4 * n + 9) / 2
def sumB (C : Int) : Nat → Nat
  | 0 => 0
  | k + 1 => sumB C k + bnd (nT 2 (C + 11 * (k : Int) + 3))
def mixN (r : Nat) : Nat := (r * 48271 % 9781) * ((r * 48271 % 9781) + 7) % 9781 % 5
def nN : Nat → Nat → Nat
  | 0, c => if mixN c < 3 then 1 else 0
  | d + 1, c => if mixN c < 3 then 1 else if mixN c = 3 then nN d (c + 1) + nN d (c + 6) + nN d (c + 11) else 0
def sumN (r : Nat) : Nat := bnd (nN 2 (r + 3)) + bnd (nN 2 (r + 14)) + bnd (nN 2 (r + 25)) + bnd (nN 2 (r + 36)) + bnd (nN 2 (r + 47)) + bnd (nN 2 (r + 58)) + bnd (nN 2 (r + 69)) + bnd (nN 2 (r + 80))
def chkN (lo : Nat) : Nat → Bool
  | 0 => true
  | n + 1 => Nat.ble (sumN (lo + n)) 75 && chkN lo n
theorem chk_at {lo : Nat} : ∀ {n : Nat}, chkN lo n = true → ∀ i, i < n → sumN (lo + i) ≤ 75
  | n + 1, h, i, hi => by
    rw [chkN, Bool.and_eq_true] at h
    by_cases e : i = n
    · subst e; exact Nat.le_of_ble_eq_true h.1
    · exact chk_at h.2 i (by omega)
theorem ck0 : chkN 0 1000 = true := by decide +kernel
theorem ck1 : chkN 1000 1000 = true := by decide +kernel
theorem ck2 : chkN 2000 1000 = true := by decide +kernel
theorem ck3 : chkN 3000 1000 = true := by decide +kernel
theorem ck4 : chkN 4000 1000 = true := by decide +kernel
theorem ck5 : chkN 5000 1000 = true := by decide +kernel
theorem ck6 : chkN 6000 1000 = true := by decide +kernel
theorem ck7 : chkN 7000 1000 = true := by decide +kernel
theorem ck8 : chkN 8000 1000 = true := by decide +kernel
theorem ck9 : chkN 9000 781 = true := by decide +kernel
theorem sumN_le (r : Nat) (h : r < 9781) : sumN r ≤ 75 := by
  rcases Nat.lt_or_ge r 1000 with h0 | h0
  · have := chk_at ck0 r h0; rwa [Nat.zero_add] at this
  rcases Nat.lt_or_ge r 2000 with h1 | h1
  · have := chk_at ck1 (r - 1000) (by omega); rwa [show 1000 + (r - 1000) = r by omega] at this
  rcases Nat.lt_or_ge r 3000 with h2 | h2
  · have := chk_at ck2 (r - 2000) (by omega); rwa [show 2000 + (r - 2000) = r by omega] at this
  rcases Nat.lt_or_ge r 4000 with h3 | h3
  · have := chk_at ck3 (r - 3000) (by omega); rwa [show 3000 + (r - 3000) = r by omega] at this
  rcases Nat.lt_or_ge r 5000 with h4 | h4
  · have := chk_at ck4 (r - 4000) (by omega); rwa [show 4000 + (r - 4000) = r by omega] at this
  rcases Nat.lt_or_ge r 6000 with h5 | h5
  · have := chk_at ck5 (r - 5000) (by omega); rwa [show 5000 + (r - 5000) = r by omega] at this
  rcases Nat.lt_or_ge r 7000 with h6 | h6
  · have := chk_at ck6 (r - 6000) (by omega); rwa [show 6000 + (r - 6000) = r by omega] at this
  rcases Nat.lt_or_ge r 8000 with h7 | h7
  · have := chk_at ck7 (r - 7000) (by omega); rwa [show 7000 + (r - 7000) = r by omega] at this
  rcases Nat.lt_or_ge r 9000 with h8 | h8
  · have := chk_at ck8 (r - 8000) (by omega); rwa [show 8000 + (r - 8000) = r by omega] at this
  · have := chk_at ck9 (r - 9000) (by omega); rwa [show 9000 + (r - 9000) = r by omega] at this
theorem mix_natg (r p m : Nat) : mix (r : Int) (p : Int) (m : Int) = (((r * 48271 % p) * ((r * 48271 % p) + 7) % p % m : Nat) : Int) := by
  simp only [mix, Int.natCast_emod, Int.natCast_mul, Int.natCast_add]
  rfl
theorem mix_nat (r : Nat) : mix (r : Int) 9781 5 = (mixN r : Int) := mix_natg r 9781 5
theorem mix_cong {c c' : Int} (h : c % 9781 = c' % 9781) : mix c 9781 5 = mix c' 9781 5 := by
  unfold mix
  rw [Int.mul_emod c, Int.mul_emod c', h]
theorem nT_nat : ∀ (d r : Nat), nT d (r : Int) = nN d r
  | 0, r => by
    rw [nT, nN, mix_nat]
    by_cases h : mixN r < 3
    · rw [if_pos h, if_pos (by omega)]
    · rw [if_neg h, if_neg (by omega)]
  | d + 1, r => by
    have e1 := nT_nat d (r + 1)
    have e2 := nT_nat d (r + 6)
    have e3 := nT_nat d (r + 11)
    rw [nT, nN, mix_nat, ← e1, ← e2, ← e3]
    by_cases h : mixN r < 3
    · rw [if_pos h, if_pos (by omega)]
    · rw [if_neg h, if_neg (by omega)]
      by_cases h2 : mixN r = 3
      · rw [if_pos h2, if_pos (by omega)]; rfl
      · rw [if_neg h2, if_neg (by omega)]
theorem nT_cong : ∀ (d : Nat) {c c' : Int}, c % 9781 = c' % 9781 → nT d c = nT d c'
  | 0, c, c', h => by rw [nT, nT, mix_cong h]
  | d + 1, c, c', h => by
    rw [nT, nT, mix_cong h, nT_cong d (c := c + 1) (c' := c' + 1) (by omega), nT_cong d (c := c + 6) (c' := c' + 6) (by omega), nT_cong d (c := c + 11) (c' := c' + 11) (by omega)]
theorem sum8 (C : Int) : sumB C 8 ≤ 75 := by
  obtain ⟨r, hr⟩ : ∃ r : Nat, C % 9781 = (r : Int) := ⟨(C % 9781).toNat, by omega⟩
  have key : ∀ k : Nat, nT 2 (C + (k : Int)) = nN 2 (r + k) := fun k => by
    rw [← nT_nat]
    exact nT_cong 2 (by omega)
  have := sumN_le r (by omega)
  unfold sumN at this
  simp only [sumB]
  rw [show C + 11 * ((0 : Nat) : Int) + 3 = C + ((3 : Nat) : Int) by omega, show C + 11 * ((1 : Nat) : Int) + 3 = C + ((14 : Nat) : Int) by omega, show C + 11 * ((2 : Nat) : Int) + 3 = C + ((25 : Nat) : Int) by omega, show C + 11 * ((3 : Nat) : Int) + 3 = C + ((36 : Nat) : Int) by omega,
    show C + 11 * ((4 : Nat) : Int) + 3 = C + ((47 : Nat) : Int) by omega, show C + 11 * ((5 : Nat) : Int) + 3 = C + ((58 : Nat) : Int) by omega, show C + 11 * ((6 : Nat) : Int) + 3 = C + ((69 : Nat) : Int) by omega, show C + 11 * ((7 : Nat) : Int) + 3 = C + ((80 : Nat) : Int) by omega]
  rw [key, key, key, key, key, key, key, key]
  omega
theorem sum_mono (C : Int) {k m : Nat} (h : k ≤ m) : sumB C k ≤ sumB C m := by
  induction m with
  | zero => rw [Nat.le_zero.mp h]; exact Nat.le_refl _
  | succ m ih =>
    by_cases e : k = m + 1
    · rw [e]; exact Nat.le_refl _
    · have := ih (by omega)
      rw [sumB]; omega
/-- unlike ones of a row of references -/
theorem unlike_le {s : List Pa} (hs : s.length ≤ 9) {R : List Pa} {n : Nat} (h : wtR s R ≤ 4 * n) : ∃ ds : List Pa, (∀ r ∈ R, r ∈ ds) ∧ ds.length ≤ bnd n := by
  have key : ∀ R : List Pa, wtR s R = (R.filter fun r => decide (r ∈ s)).length + 2 * (R.filter fun r => !decide (r ∈ s)).length ∧ R.length = (R.filter fun r => decide (r ∈ s)).length + (R.filter fun r => !decide (r ∈ s)).length := by
    intro R
    induction R with
    | nil => exact ⟨rfl, rfl⟩
    | cons r R ih =>
      rw [wtR, List.filter_cons, List.filter_cons, List.length_cons]
      by_cases hr : r ∈ s
      · simp only [hr, decide_true, Bool.not_true, if_true, List.length_cons]
        simp
        omega
      · simp only [hr, decide_false, Bool.not_false, if_true, List.length_cons]
        simp
        omega
  obtain ⟨k1, k2⟩ := key R
  generalize (R.filter fun r => decide (r ∈ s)).length = P at k1 k2
  by_cases hP : P ≤ 9 ∨ n ≤ 2
  · refine ⟨R, fun r hr => hr, ?_⟩
    unfold bnd
    split <;> omega
  · refine ⟨s ++ R.filter fun r => !decide (r ∈ s), fun r hr => ?_, ?_⟩
    · by_cases q : r ∈ s
      · exact List.mem_append_left _ q
      · exact List.mem_append_right _ (List.mem_filter.mpr ⟨hr, by simp [q]⟩)
    · rw [List.length_append]
      unfold bnd
      split <;> omega
/-! ### drawn settings that refer to one another -/
theorem enum_at : ∀ (xs : List Dt) (lo : Int) (j : Nat) (x : Dt), (enumL lo xs)[j]? = some x → ∃ y, xs[j]? = some y ∧ x = .tup [.int (lo + j), y]
  | [], _, j, x, h => by simp [enumL] at h
  | y :: xs, lo, 0, x, h => ⟨y, rfl, by simp [enumL] at h; simp [h]⟩
  | y :: xs, lo, j + 1, x, h => by
    obtain ⟨z, h1, h2⟩ := enum_at xs (lo + 1) j x (by simpa [enumL] using h)
    refine ⟨z, by simpa using h1, ?_⟩
    rw [h2]
    congr 3
    omega
theorem enum_len : ∀ (xs : List Dt) (lo : Int), (enumL lo xs).length = xs.length
  | [], _ => rfl
  | x :: xs, lo => by rw [enumL, List.length_cons, enum_len xs, List.length_cons]
theorem lcTurn_sg2 {ifs : Ev → Sr → Rs (Bool × Sr)} {elt : Ev → Sr → Rs (Wv × Sr)} {ρ : Ev} {st : Sr} {i j : Nat} {y : Dt} (s : Sg) (h1 : ifs (((wipeE ρ [i, j]).set i (some (.d (pth s.1)))).set j (some (.d s.2))) st = .ok (true, st)) (h2 : elt (((wipeE ρ [i, j]).set i (some (.d (pth s.1)))).set j (some (.d s.2))) st = .ok (.d y, st)) :
    lcTurn ifs elt (.many [i, j]) ρ s.toD st = .ok (some y, st) := by
  unfold lcTurn
  rw [slots_many, setTg_s, Rs.ofO_some, Rs.bind_ok, h1, Rs.bind_ok, if_pos rfl, h2, Rs.bind_ok]
  rfl
theorem pick_range (P : List Pa) : (List.range P.length).map (fun i => P.getD i []) = P := by
  apply List.ext_getElem
  · simp
  · intro i h1 h2
    simp [List.getD_eq_getElem?_getD, h2]
theorem pairsS_mem {T : List Sg} {x : Pa × Pa} : x ∈ pairsS T ↔ ∃ s ∈ T, ∃ o ∈ nmV 2 s.2, x = (s.1, o) := by
  unfold pairsS
  rw [List.mem_flatMap]
  constructor
  · rintro ⟨s, hs, h⟩
    obtain ⟨o, ho, rfl⟩ := List.mem_map.mp h
    exact ⟨s, hs, o, ho, rfl⟩
  · rintro ⟨s, hs, o, ho, rfl⟩
    exact ⟨s, hs, List.mem_map_of_mem ho⟩
/-- settings that refer to one another -/
structure LinkOk (T : List Sg) : Prop where
  len : T.length ≤ 8
  p : ∀ s ∈ T, okP s.1
  v : ∀ s ∈ T, isValD 2 s.2 = true
  ne : T.Pairwise fun a b => a.1 ≠ b.1
  so : T.Pairwise fun a b => ltP b.1 a.1 = false
  few : (nubN (pairsS T)).length < 76
def zzP : Pa := [[122, 122], [121]]
theorem zz_ok : okP zzP := ⟨by decide, by decide, by decide⟩
theorem run_linked' (n : Nat) (a b c : Dt) : runP tab gls (n + 1) c__law_linked [a, b, c] = (exSs (Gm n) b__law_linked [some (.d a), some (.d b), some (.d c), none, none, none, none, none, none, none] []).bind endD := rfl
/-- the first statements of a turn: what may be referred to -/
theorem linked_head (n : Nat) (C w : Int) (M P : Dt) (ord : List Pa) (j : Nat) (p : Pa) (x8 : Option Wv) (acc : List Dt) (hok : ∀ p ∈ ord, okP p) (hl : ord.length ≤ 8) : ∃ s, PathsOk s ∧
    exSs (Gm (n + 6)) fb0__law_linked [some (.d (.int C)), some (.d M), some (.d (.int w)), some (.d P), some (.d (.lst (ord.map pth))), some (.ob 0), some (.d (.int (j : Nat))), some (.d (pth p)), x8, none] [.lst acc] =
    exSs (Gm (n + 6)) (.cons (.app 5 (.tup (.cons (.v 7) (.cons (.call c__law_value_of (.cons (.bin .add (.bin .add (.v 0) (.bin .mul (.int 11) (.v 6))) (.int 3)) (.cons (.v 8) (.cons (.int 2) .nil)))) .nil)))) .nil)
      [some (.d (.int C)), some (.d M), some (.d (.int w)), some (.d P), some (.d (.lst (ord.map pth))), some (.ob 0), some (.d (.int (j : Nat))), some (.d (pth p)), some (.d (.lst (s.map pth))), none] [.lst acc] := by
  have e8 : evE (Gm (n + 6)) (.sl (.v 4) .no (.yes (.v 6))) [some (.d (.int C)), some (.d M), some (.d (.int w)), some (.d P), some (.d (.lst (ord.map pth))), some (.ob 0), some (.d (.int (j : Nat))), some (.d (pth p)), x8, none] [.lst acc] = .ok (.d (.lst ((ord.take j).map pth)), [.lst acc]) := by
    rw [evE_sl, v_d rfl, Rs.bind_ok, evO_no, Rs.bind_ok, evO_yes, v_d rfl]
    simp only [Rs.bind_ok, intW_i, Option.map_some, Rs.ofO_some]
    refine op1_ok ?_
    rw [sl_l, cut_hi, List.map_take]
  unfold fb0__law_linked
  rw [exSs_nx (exS_set_ok e8)]
  dsimp only [List.set]
  by_cases h1 : w = 1
  · subst h1
    rw [exSs_nx ((exS_if_yes (cmp_d (v_d rfl) int_d (eq_ii _ _)) (by decide)).trans (hnx3 (exS_set_ok (v_d rfl))))]
    dsimp only [List.set]
    rw [exSs_nx (exS_if_no (cmp_d (v_d rfl) int_d (eq_ii _ _)) (by decide))]
    exact ⟨ord, ⟨hok, by omega⟩, rfl⟩
  · rw [exSs_nx (exS_if_no (cmp_d (v_d rfl) int_d (eq_ii _ _)) (by simpa using h1))]
    by_cases h2 : w = 2
    · subst h2
      have ez : evE (Gm (n + 6)) (.bin .add (.v 4) (.lst (.cons (.tup (.cons (.str [122, 122]) (.cons (.str [121]) .nil))) .nil))) [some (.d (.int C)), some (.d M), some (.d (.int 2)), some (.d P), some (.d (.lst (ord.map pth))), some (.ob 0), some (.d (.int (j : Nat))), some (.d (pth p)), some (.d (.lst ((ord.take j).map pth))), none] [.lst acc] = .ok (.d (.lst ((ord ++ [zzP]).map pth)), [.lst acc]) := by
        refine bin_d (y := .lst [pth zzP]) (v_d rfl) ?_ ?_
        · rw [evE_lst, evEs_cons, tup2_d str_d str_d, Rs.bind_ok, evEs_nil]
          exact mkLst_ok rfl (by simp [lim16])
        · rw [add_ll (by rw [lim16]; simp; omega), List.map_append]
          rfl
      rw [exSs_nx ((exS_if_yes (cmp_d (v_d rfl) int_d (eq_ii _ _)) (by decide)).trans (hnx3 (exS_set_ok ez)))]
      dsimp only [List.set]
      refine ⟨ord ++ [zzP], ⟨fun p hp => ?_, by simp; omega⟩, rfl⟩
      rcases List.mem_append.mp hp with hp | hp
      · exact hok p hp
      · rw [List.mem_singleton.mp hp]; exact zz_ok
    · rw [exSs_nx (exS_if_no (cmp_d (v_d rfl) int_d (eq_ii _ _)) (by simpa using h2))]
      exact ⟨ord.take j, ⟨fun p hp => hok p (List.mem_of_mem_take hp), by rw [List.length_take]; omega⟩, rfl⟩
theorem run_linked (n : Nat) (C : Int) (m : Nat) (hm : m ≤ 8) (w : Int) : ∃ T : List Sg, runP tab gls (n + 7) c__law_linked [.int C, .int (m : Nat), .int w] = .ok (.tup (T.map Sg.toD)) ∧ LinkOk T := by
  obtain ⟨S, eS, okS, lS⟩ := run_law_pairs n C m (by omega)
  obtain ⟨is, ei, pi⟩ := run_perm (n + 4) (C + 1) S.length (by omega)
  obtain ⟨P, hP⟩ : ∃ P : List Pa, P = S.map Prod.fst := ⟨_, rfl⟩
  have lP : P.length = S.length := by rw [hP, List.length_map]
  obtain ⟨ord, hord⟩ : ∃ ord : List Pa, ord = is.map (fun i => P.getD i []) := ⟨_, rfl⟩
  have pord : ord.Perm P := by
    have := pi.map (fun i => P.getD i [])
    rw [← lP, pick_range] at this
    rw [hord]; exact this
  have lord : ord.length ≤ 8 := by rw [pord.length_eq, lP]; omega
  have okord : ∀ p ∈ ord, okP p := fun p hp => by
    have := pord.mem_iff.mp hp
    rw [hP] at this
    obtain ⟨s, hs, rfl⟩ := List.mem_map.mp this
    exact okS.p s hs
  rw [run_linked']
  have e3 : evE (Gm (n + 6)) (.lc (.v 7) (.many [7, 9]) (.seq (.call c__law_pairs (.cons (.v 0) (.cons (.v 1) .nil)))) .nil) [some (.d (.int C)), some (.d (.int (m : Nat))), some (.d (.int w)), none, none, none, none, none, none, none] [] = .ok (.d (.lst (P.map pth)), []) := by
    rw [hP, List.map_map]
    refine evE_lc_ok (xs := S.map Sg.toD) ?_ (lcL_map' _ Sg.toD (pth ∘ Prod.fst) S fun s _ => lcTurn_sg2 s evIfs_nil (v_d rfl)) (by rw [List.length_map]; omega)
    rw [evI_seq, call2_v (v_d rfl) (v_d rfl), eS]
    rfl
  have e4 : evE (Gm (n + 6)) (.lc (.ix (.v 3) (.v 6)) (.one 6) (.seq (.call c__law_perm (.cons (.bin .add (.v 0) (.int 1)) (.cons (.p1 .len (.v 3)) .nil)))) .nil) [some (.d (.int C)), some (.d (.int (m : Nat))), some (.d (.int w)), some (.d (.lst (P.map pth))), none, none, none, none, none, none] [] = .ok (.d (.lst (ord.map pth)), []) := by
    rw [hord, List.map_map]
    refine evE_lc_ok (xs := is.map inD) ?_ (lcL_map' _ inD (pth ∘ fun i => P.getD i []) is fun i hi => lcTurn_one (by simp) ?_) (by rw [List.length_map, pi.length_eq, List.length_range]; omega)
    · rw [evI_seq, call2_v (bin_d (v_d rfl) int_d rfl) (evE_p1_ok (v_d rfl) (len_l _)), List.length_map, lP, show n + 6 = n + 4 + 2 by omega, ei]
      rfl
    · have hi' : i < P.length := by
        have := pi.mem_iff.mp hi
        rw [List.mem_range] at this
        omega
      refine ix_d (v_d rfl) (v_d rfl) ?_
      have hi2 : (i : Int) < (P.length : Int) := by omega
      simp [ixD, ixL, ixP, hi', hi2, List.getD_eq_getElem?_getD]
  unfold b__law_linked
  rw [exSs_nx (exS_set_ok e3)]
  dsimp only [List.set]
  rw [exSs_nx (exS_set_ok e4)]
  dsimp only [List.set]
  rw [exSs_nx (setL_ok (ys := []) (by rw [evE_lst, evEs_nil]; rfl))]
  dsimp only [List.set, List.length_nil, List.nil_append]
  obtain ⟨ρ', st', e5, found, x6, x7, x8, D, rfl, rfl, f1, f2, f3, f4⟩ := exFor_invS (body := exSs (Gm (n + 6)) fb0__law_linked) (tg := .many [6, 7]) (fun k ρ st => ∃ (found : List Sg) (x6 x7 x8 : Option Wv) (D : List (Pa × Pa)), ρ = [some (.d (.int C)), some (.d (.int (m : Nat))), some (.d (.int w)), some (.d (.lst (P.map pth))), some (.d (.lst (ord.map pth))), some (.ob 0), x6, x7, x8, none] ∧ st = [.lst (found.map Sg.toD)] ∧
      found.map Prod.fst = ord.take k ∧ (∀ s ∈ found, isValD 2 s.2 = true) ∧ (∀ x ∈ pairsS found, x ∈ D) ∧ D.length ≤ sumB C k) (enumL 0 (ord.map pth)) 0 [some (.d (.int C)), some (.d (.int (m : Nat))), some (.d (.int w)), some (.d (.lst (P.map pth))), some (.d (.lst (ord.map pth))), some (.ob 0), none, none, none, none] [.lst []]
      ⟨[], none, none, none, [], rfl, rfl, by simp, by simp, by simp [pairsS], Nat.le_refl _⟩ (by
    rintro j x ρ st hj ⟨found, x6, x7, x8, D, rfl, rfl, f1, f2, f3, f4⟩
    obtain ⟨y, hy, rfl⟩ := enum_at _ _ _ _ hj
    rw [List.getElem?_map] at hy
    obtain ⟨p, hp, rfl⟩ := Option.map_eq_some_iff.mp hy
    obtain ⟨s, okp, eh⟩ := linked_head n C w (.int (m : Nat)) (.lst (P.map pth)) ord j p x8 (found.map Sg.toD) okord lord
    obtain ⟨v, ev, v1, v2⟩ := run_vof okp 2 (n + 1) (C + 11 * (j : Int) + 3)
    obtain ⟨ds, d1, d2⟩ := unlike_le okp.few v2
    have hl : found.length ≤ 8 := by
      have := congrArg List.length f1
      rw [List.length_map, List.length_take] at this
      omega
    refine ⟨_, [some (.d (.int C)), some (.d (.int (m : Nat))), some (.d (.int w)), some (.d (.lst (P.map pth))), some (.d (.lst (ord.map pth))), some (.ob 0), some (.d (.int (j : Nat))), some (.d (pth p)), some (.d (.lst (s.map pth))), none], [.lst ((found ++ [(p, v)]).map Sg.toD)], rfl, ?_, found ++ [(p, v)], _, _, _, D ++ ds.map (fun o => (p, o)), rfl, rfl, ?_, ?_, ?_, ?_⟩
    · have ha : evE (Gm (n + 6)) (.tup (.cons (.v 7) (.cons (.call c__law_value_of (.cons (.bin .add (.bin .add (.v 0) (.bin .mul (.int 11) (.v 6))) (.int 3)) (.cons (.v 8) (.cons (.int 2) .nil)))) .nil))) [some (.d (.int C)), some (.d (.int (m : Nat))), some (.d (.int w)), some (.d (.lst (P.map pth))), some (.d (.lst (ord.map pth))), some (.ob 0), some (.d (.int (j : Nat))), some (.d (pth p)), some (.d (.lst (s.map pth))), none] [.lst (found.map Sg.toD)] = .ok (.d (Sg.toD (p, v)), [.lst (found.map Sg.toD)]) := by
        refine tup2_d (v_d rfl) ?_
        rw [call3_v (bin_d (addm_d (i := 0) (j := 6) rfl rfl (by decide)) int_d rfl) (v_d rfl) int_d, show n + 6 = n + 1 + 2 + 3 by omega]
        have ev' : runP tab gls (n + 1 + 2 + 3) c__law_value_of [.int (C + 11 * (j : Int) + 3), .lst (s.map pth), .int 2] = .ok v := ev
        rw [ev']
        rfl
      have hs0 : ((0 : Int) + (j : Int)) = (j : Int) := by omega
      rw [hs0]
      dsimp only [List.set]
      refine eh.trans ?_
      rw [List.map_append]
      exact hnx (app0 rfl ha (by rw [List.length_map]; omega))
    · rw [List.map_append, f1, Nat.zero_add, List.take_succ, hp]
      rfl
    · intro t ht
      rcases List.mem_append.mp ht with ht | ht
      · exact f2 t ht
      · rw [List.mem_singleton.mp ht]; exact v1
    · intro x hx
      obtain ⟨t, ht, o, ho, rfl⟩ := pairsS_mem.mp hx
      rcases List.mem_append.mp ht with ht | ht
      · exact List.mem_append_left _ (f3 _ (pairsS_mem.mpr ⟨t, ht, o, ho, rfl⟩))
      · rw [List.mem_singleton.mp ht] at ho ⊢
        exact List.mem_append_right _ (List.mem_map_of_mem (d1 o ho))
    · rw [List.length_append, List.length_map, Nat.zero_add, sumB]
      rw [Nat.zero_add] at f4
      omega)
  have hf : exS (Gm (n + 6)) (.forS (.many [6, 7]) (.enm (.v 4)) fb0__law_linked) [some (.d (.int C)), some (.d (.int (m : Nat))), some (.d (.int w)), some (.d (.lst (P.map pth))), some (.d (.lst (ord.map pth))), some (.ob 0), none, none, none, none] [.lst []] = .ok ((.nx, [some (.d (.int C)), some (.d (.int (m : Nat))), some (.d (.int w)), some (.d (.lst (P.map pth))), some (.d (.lst (ord.map pth))), some (.ob 0), x6, x7, x8, none]), [.lst (found.map Sg.toD)]) := by
    refine exS_for_ok (xs := enumL 0 (ord.map pth)) ?_ e5
    rw [evI_enm, v_d rfl]
    rfl
  rw [exSs_nx hf]
  rw [enum_len, List.length_map, Nat.zero_add] at f1 f4
  rw [List.take_of_length_le (Nat.le_refl _)] at f1
  have ne : found.Pairwise fun a b => a.1 ≠ b.1 := by
    have h1 : P.Pairwise fun a b => a ≠ b := by rw [hP, List.pairwise_map]; exact okS.ne
    have h2 : ord.Pairwise fun a b => a ≠ b := h1.perm pord.symm fun h e => h e.symm
    rw [← f1, List.pairwise_map] at h2
    exact h2
  have so := sortP_perm Prod.fst found
  have e6 : evE (Gm (n + 6)) (.p1 .sorted (.v 5)) [some (.d (.int C)), some (.d (.int (m : Nat))), some (.d (.int w)), some (.d (.lst (P.map pth))), some (.d (.lst (ord.map pth))), some (.ob 0), x6, x7, x8, none] [.lst (found.map Sg.toD)] = .ok (.d (.lst ((sortP Prod.fst found).map Sg.toD)), [.lst (found.map Sg.toD)]) := by
    rw [evE_p1, v_d rfl, Rs.bind_ok, op1_v (view0 _), sorted_sg (fun t ht => isVal_mono (f2 t ht)) ne]
    rfl
  refine ⟨sortP Prod.fst found, ?_, ?_, ?_, ?_, ?_, sortP_pair _ _, ?_⟩
  · rw [exSs_rt (exS_ret_ok (evE_p1_ok e6 rfl))]
    rfl
  · rw [so.length_eq]
    have := congrArg List.length f1
    rw [List.length_map] at this
    omega
  · intro s hs
    have : s.1 ∈ ord := by rw [← f1]; exact List.mem_map_of_mem (so.mem_iff.mp hs)
    exact okord _ this
  · intro s hs
    exact f2 s (so.mem_iff.mp hs)
  · exact ne.perm so.symm fun h e => h e.symm
  · have a1 : (nubN (pairsS (sortP Prod.fst found))).length ≤ D.length := nodup_len _ _ (nubN_nodup _) fun x hx => by
      obtain ⟨t, ht, o, ho, rfl⟩ := pairsS_mem.mp (nubN_mem.mp hx)
      exact f3 _ (pairsS_mem.mpr ⟨t, so.mem_iff.mp ht, o, ho, rfl⟩)
    have a2 := sum8 C
    have a3 := sum_mono C lord
    omega
/-! ### the law -/
theorem same_v {d n : Nat} {ρ : Ev} {st : Sr} {a b : Ex} {x : Dt} (ha : evE (Gm (n + d + 1)) a ρ st = .ok (.d x, st)) (hb : evE (Gm (n + d + 1)) b ρ st = .ok (.d x, st)) (hd : depD x ≤ d) (hp : plainT x = true) : evE (Gm (n + d + 1)) (.call c__law_same (.cons a (.cons b .nil))) ρ st = .ok (.d (.bl true), st) := by
  rw [call2_v ha hb, run_same d n x hd hp]
  rfl
theorem plain_pth {p : Pa} (h : p.length ≤ 1000) : plainT (pth p) = true := by
  unfold pth
  rw [plainT, List.length_map, decide_eq_true h, Bool.true_and]
  refine plainTs_of fun x hx => ?_
  obtain ⟨s, _, rfl⟩ := List.mem_map.mp hx
  rfl
theorem refers_plain {L : List (Pa × Pa)} (hl : L.length ≤ 1000) (h4 : ∀ x ∈ L, x.1.length ≤ 1000 ∧ x.2.length ≤ 1000) : plainT (.tup (L.map ppD)) = true ∧ depD (.tup (L.map ppD)) ≤ 3 := by
  refine ⟨?_, ?_⟩
  · rw [plainT, List.length_map, decide_eq_true hl, Bool.true_and]
    refine plainTs_of fun x hx => ?_
    obtain ⟨y, hy, rfl⟩ := List.mem_map.mp hx
    obtain ⟨a, b⟩ := h4 y hy
    unfold ppD
    rw [plainT, plainTs, plainTs, plainTs, plain_pth a, plain_pth b]
    rfl
  · have : depDs (L.map ppD) ≤ 2 := depDs_of fun x hx => by
      obtain ⟨p, hp, rfl⟩ := List.mem_map.mp hx
      rw [dep_pp]
      omega
    simp only [depD]; omega
theorem nmV_ok : ∀ (k : Nat) (v : Dt), isValD k v = true → ∀ p ∈ nmV k v, okP p := by
  intro k
  induction k with
  | zero =>
    intro v h p hp
    rcases val_cases h with ⟨t, rfl, ht⟩ | ⟨j, xs, e, _⟩ | ⟨s, c, rfl, h1, h2⟩
    · rw [nmV_text] at hp; exact refs_ok t p hp
    · cases e
    · rw [nmV_no _ _ h1 h2] at hp; cases hp
  | succ k ih =>
    intro v h p hp
    rcases val_cases h with ⟨t, rfl, ht⟩ | ⟨j, xs, e, rfl, h3, h4⟩ | ⟨s, c, rfl, h1, h2⟩
    · rw [nmV_text] at hp; exact refs_ok t p hp
    · cases e
      rw [nmV_list, List.mem_flatMap] at hp
      obtain ⟨x, hx, hp⟩ := hp
      exact ih x (h4 x hx) p hp
    · rw [nmV_no _ _ h1 h2] at hp; cases hp
theorem link_plain {T : List Sg} (h : LinkOk T) : plainT (refersD T) = true ∧ depD (refersD T) ≤ 3 := by
  refine refers_plain ?_ fun x hx => ?_
  · rw [sort_first_nub (M := pairsS T) fun x => Iff.rfl, (sortPP_perm _).length_eq]
    have := h.few
    omega
  · have hm : x ∈ pairsS T := firstN_mem.mp ((sortPP_perm _).mem_iff.mp hx)
    obtain ⟨s, hs, o, ho, rfl⟩ := pairsS_mem.mp hm
    have a := (h.p s hs).2.1
    have b := (nmV_ok 2 s.2 (h.v s hs) o ho).2.1
    dsimp only
    omega
def egS : List Sg := [([[97]], .tup [.str s_text_a7c7, .str s_bca_4ade]), ([[98], [99]], .tup [.str s_list_f818, .tup [.tup [.str s_text_a7c7, .str s_a_37a3], .tup [.str s_text_a7c7, .str s_a_37a3], .tup [.str s_text_a7c7, .str s__eb55]]])]
def egR : List (Pa × Pa) := [([[97]], [[97]]), ([[97]], [[98], [99]]), ([[98], [99]], [[97]])]
theorem eg_val : ∀ s ∈ egS, isValD 2 s.2 = true := by decide
theorem eg_pairs : pairsS egS = [([[97]], [[98], [99]]), ([[97]], [[97]]), ([[98], [99]], [[97]]), ([[98], [99]], [[97]])] := by decide +kernel
theorem eg_rising : egR.Pairwise fun a b => ltPP b a = false := by decide +kernel
theorem eg_refers : refersD egS = .tup (egR.map ppD) := by
  unfold refersD
  congr 2
  refine rising_eq (sortPP_pair _) eg_rising ((sortPP_perm _).trans ?_)
  rw [eg_pairs]
  have : firstN [([[97]], [[98], [99]]), ([[97]], [[97]]), ([[98], [99]], [[97]]), ([[98], [99]], [[97]])] = [([[97]], [[98], [99]]), ([[97]], [[97]]), (([[98], [99]] : Pa), ([[97]] : Pa))] := by decide +kernel
  rw [this]
  exact List.Perm.swap _ _ _
theorem run_law' (n : Nat) (ns : List Int) : runP tab gls (n + 1) c_law [.scr ns] = (exSs (Gm n) b_law [some (.d (.scr ns)), none, none, none, none, none] []).bind endD := rfl
theorem law_turn (n : Nat) (ns : List Int) (k : Nat) (x2 x3 x4 x5 : Option Wv) : ∃ y4 y5, exSs (Gm (n + 12)) fb0_law [some (.d (.scr ns)), some (.d (.int (k : Nat))), x2, x3, x4, x5] [] = .ok ((.nx, [some (.d (.scr ns)), some (.d (.int (k : Nat))), x2, x3, y4, y5]), []) := by
  obtain ⟨m1, m2⟩ := @mix_range (cellAt ns 3 + (k : Int)) 9743 9 (by decide)
  obtain ⟨m, hm⟩ : ∃ m : Nat, mix (cellAt ns 3 + (k : Int)) 9743 9 = (m : Int) := ⟨(mix (cellAt ns 3 + (k : Int)) 9743 9).toNat, by omega⟩
  obtain ⟨T, eT, okT⟩ := run_linked (n + 5) (cellAt ns k + (k : Int)) m (by omega) (mix (cellAt ns 4) 9739 3)
  refine ⟨some (.d (.int (m : Nat))), some (.d (.tup (T.map Sg.toD))), ?_⟩
  have e4 : exS (Gm (n + 12)) (.set 4 (.call c__law_mix (.cons (.bin .add (.call c__law_cell (.cons (.v 0) (.cons (.int 3) .nil))) (.v 1)) (.cons (.int 9743) (.cons (.int 9) .nil))))) [some (.d (.scr ns)), some (.d (.int (k : Nat))), x2, x3, x4, x5] [] = .ok ((.nx, [some (.d (.scr ns)), some (.d (.int (k : Nat))), x2, x3, some (.d (.int (m : Nat))), x5]), []) := by
    have c3 : evE (Gm (n + 12)) (.call c__law_cell (.cons (.v 0) (.cons (.int 3) .nil))) [some (.d (.scr ns)), some (.d (.int (k : Nat))), x2, x3, x4, x5] [] = .ok (.d (.int (cellAt ns 3)), []) := cell_v rfl (k := 3) int_d
    rw [exS_set_ok (mix_d (bin_d c3 (v_d rfl) rfl) (by decide) (by decide) (by decide)), hm]
    rfl
  have e5 : evE (Gm (n + 12)) (.call c__law_linked (.cons (.bin .add (.call c__law_cell (.cons (.v 0) (.cons (.v 1) .nil))) (.v 1)) (.cons (.v 4) (.cons (.call c__law_mix (.cons (.call c__law_cell (.cons (.v 0) (.cons (.int 4) .nil))) (.cons (.int 9739) (.cons (.int 3) .nil)))) .nil)))) [some (.d (.scr ns)), some (.d (.int (k : Nat))), x2, x3, some (.d (.int (m : Nat))), x5] [] = .ok (.d (.tup (T.map Sg.toD)), []) := by
    have c4 : evE (Gm (n + 12)) (.call c__law_cell (.cons (.v 0) (.cons (.int 4) .nil))) [some (.d (.scr ns)), some (.d (.int (k : Nat))), x2, x3, some (.d (.int (m : Nat))), x5] [] = .ok (.d (.int (cellAt ns 4)), []) := cell_v rfl (k := 4) int_d
    rw [call3_v (bin_d (cell_v rfl (v_d rfl)) (v_d rfl) rfl) (v_d rfl) (mix_d c4 (by decide) (by decide) (by decide)), show n + 12 = n + 5 + 7 by omega, eT]
    rfl
  unfold fb0_law
  rw [exSs_nx e4, exSs_nx (exS_set_ok e5)]
  dsimp only [List.set]
  obtain ⟨p1, p2⟩ := link_plain okT
  have hl := okT.len
  have a1 : evE (Gm (n + 12)) (.call c_refers (.cons (.v 5) .nil)) [some (.d (.scr ns)), some (.d (.int (k : Nat))), x2, x3, some (.d (.int (m : Nat))), some (.d (.tup (T.map Sg.toD)))] [] = .ok (.d (refersD T), []) := by
    rw [call1_v (v_d rfl), show n + 12 = n + 4 + 8 by omega, run_refers (n + 4) T okT.v (by omega)]
    rfl
  have a2 : evE (Gm (n + 12)) (.call c__law_pairs_of (.cons (.v 5) .nil)) [some (.d (.scr ns)), some (.d (.int (k : Nat))), x2, x3, some (.d (.int (m : Nat))), some (.d (.tup (T.map Sg.toD)))] [] = .ok (.d (refersD T), []) := by
    rw [call1_v (v_d rfl), show n + 12 = n + 4 + 8 by omega, run_pairs_of (n + 4) T okT.v (by omega) okT.few]
    rfl
  have a3 := same_v (d := 3) (n := n + 8) a1 a2 p2 p1
  exact hnx (exS_if_no (not_d a3) rfl)
theorem law_ok : ∀ ns : List Int, ns.length ≤ 63 → runP tab gls 20 c_law [.scr ns] = .ok (.bl true) := by
  intro ns _
  suffices h : ∀ n, runP tab gls (n + 13) c_law [.scr ns] = .ok (.bl true) from h 7
  intro n
  rw [show n + 13 = n + 12 + 1 by omega, run_law']
  unfold b_law
  obtain ⟨ρ', e1, x1, x4, x5, rfl⟩ := exFor_mem (body := exSs (Gm (n + 12)) fb0_law) (tg := .one 1) (st := []) (fun ρ => ∃ x1 x4 x5, ρ = [some (.d (.scr ns)), x1, none, none, x4, x5]) (rangeL 0 3) [some (.d (.scr ns)), none, none, none, none, none] ⟨none, none, none, rfl⟩ (by
    rintro x hx ρ ⟨x1, x4, x5, rfl⟩
    obtain ⟨k, rfl, hk⟩ := range0_mem hx
    obtain ⟨y4, y5, e⟩ := law_turn n ns k none none x4 x5
    exact ⟨_, _, rfl, e, _, _, _, rfl⟩)
  rw [exSs_nx (exS_for_ok (rng_i (i := 3) (m := 3) rfl (by decide)) e1)]
  have e2 : evE (Gm (n + 12)) (.tup (.cons (.tup (.cons (.str s_text_a7c7) (.cons (.str s_a_37a3) .nil))) (.cons (.tup (.cons (.str s_text_a7c7) (.cons (.str s_a_37a3) .nil))) (.cons (.tup (.cons (.str s_text_a7c7) (.cons (.str s__eb55) .nil))) .nil)))) [some (.d (.scr ns)), x1, none, none, x4, x5] [] = .ok (.d (.tup [.tup [.str s_text_a7c7, .str s_a_37a3], .tup [.str s_text_a7c7, .str s_a_37a3], .tup [.str s_text_a7c7, .str s__eb55]]), []) := by simp
  rw [exSs_nx (exS_set_ok e2)]
  dsimp only [List.set]
  generalize hX : ([.tup [.str s_text_a7c7, .str s_a_37a3], .tup [.str s_text_a7c7, .str s_a_37a3], .tup [.str s_text_a7c7, .str s__eb55]] : List Dt) = X
  have e3 : evE (Gm (n + 12)) (.tup (.cons (.tup (.cons (.tup (.cons (.str [97]) .nil)) (.cons (.tup (.cons (.str s_text_a7c7) (.cons (.str s_bca_4ade) .nil))) .nil))) (.cons (.tup (.cons (.tup (.cons (.str [98]) (.cons (.str [99]) .nil))) (.cons (.tup (.cons (.str s_list_f818) (.cons (.v 2) .nil))) .nil))) .nil))) [some (.d (.scr ns)), x1, some (.d (.tup X)), none, x4, x5] [] = .ok (.d (.tup (egS.map Sg.toD)), []) := by
    subst hX
    simp [egS, Sg.toD, pth]
  rw [exSs_nx (exS_set_ok e3)]
  dsimp only [List.set]
  have r1 : evE (Gm (n + 12)) (.call c_refers (.cons (.v 3) .nil)) [some (.d (.scr ns)), x1, some (.d (.tup X)), some (.d (.tup (egS.map Sg.toD))), x4, x5] [] = .ok (.d (.tup (egR.map ppD)), []) := by
    rw [call1_v (v_d rfl), show n + 12 = n + 4 + 8 by omega, run_refers (n + 4) egS eg_val (by decide), eg_refers]
    rfl
  have r2 : evE (Gm (n + 12)) (.tup (.cons (.tup (.cons (.tup (.cons (.str [97]) .nil)) (.cons (.tup (.cons (.str [97]) .nil)) .nil))) (.cons (.tup (.cons (.tup (.cons (.str [97]) .nil)) (.cons (.tup (.cons (.str [98]) (.cons (.str [99]) .nil))) .nil))) (.cons (.tup (.cons (.tup (.cons (.str [98]) (.cons (.str [99]) .nil))) (.cons (.tup (.cons (.str [97]) .nil)) .nil))) .nil)))) [some (.d (.scr ns)), x1, some (.d (.tup X)), some (.d (.tup (egS.map Sg.toD))), x4, x5] [] = .ok (.d (.tup (egR.map ppD)), []) := by
    simp [egR, ppD, pth]
  obtain ⟨p1, p2⟩ := @refers_plain egR (by decide) (by decide)
  have r3 := same_v (d := 3) (n := n + 8) r1 r2 p2 p1
  have r4 : evE (Gm (n + 12)) (.cmp .eq (.call c_refers (.cons (.tup .nil) .nil)) (.tup .nil)) [some (.d (.scr ns)), x1, some (.d (.tup X)), some (.d (.tup (egS.map Sg.toD))), x4, x5] [] = .ok (.d (.bl true), []) := by
    have h0 : refersD [] = .tup [] := by
      unfold refersD sortPP firstN pairsS
      simp
    refine cmp_d (x := .tup []) (y := .tup []) ?_ (by rw [evE_tup, evEs_nil]; rfl) rfl
    rw [call1_v (x := .tup (([] : List Sg).map Sg.toD)) (by rw [evE_tup, evEs_nil]; rfl), show n + 12 = n + 4 + 8 by omega, run_refers (n + 4) [] (by simp) (by simp), h0]
    rfl
  rw [exSs_rt (exS_ret_ok (and2_d r3 r4))]
  rfl

open PySem.Spec PyProof.Rows L2
abbrev fuel : Nat := 20
def topS (i : Nat) : Stmt := PySem.Challenge.pw_laysheets_k33_references.main.body.getD i (.Pass ⟨0, 0, 0, 0⟩)
def T : Tb := ⟨("is_name", 1) :: ("is_path", 1) :: ("reference_at", 2) :: ("pieces_of", 1) :: ("named_in", 1) :: ("refers", 1) :: ("_law_cell", 2) :: ("_law_mix", 3) :: ("_law_perm", 2) :: ("_law_same", 2) :: ("_law_name", 1) :: ("_law_text", 1) :: ("_law_days", 2) :: ("_law_day", 1) :: ("_law_value", 2) :: ("_law_begins", 2) :: ("_law_pairs", 2) :: ("_law_is_name", 1) :: ("_law_scan", 1) :: ("_law_piece", 2) :: ("_law_value_of", 3) :: ("_law_named", 1) :: ("_law_linked", 3) :: ("_law_pairs_of", 1) :: ("law", 1) :: [], ["LETTERS"], [], false, [], []⟩
theorem sc_is_name : FnScope ["thing", "sign"] ["thing"] (defScope (topS 2)) := ⟨rfl, rfl, rfl, by decide +kernel, rfl, by decide +kernel, by decide +kernel⟩
theorem ck_is_name : chkSs T ["thing", "sign"] (defScope (topS 2)) b_is_name (defBody (topS 2)) = true := by decide +kernel
theorem sc_is_path : FnScope ["thing", "name"] ["thing"] (defScope (topS 3)) := ⟨rfl, rfl, rfl, by decide +kernel, rfl, by decide +kernel, by decide +kernel⟩
theorem ck_is_path : chkSs T ["thing", "name"] (defScope (topS 3)) b_is_path (defBody (topS 3)) = true := by decide +kernel
theorem sc_reference_at : FnScope ["text", "place", "end", "path"] ["text", "place"] (defScope (topS 5)) := ⟨rfl, rfl, rfl, by decide +kernel, rfl, by decide +kernel, by decide +kernel⟩
theorem ck_reference_at : chkSs T ["text", "place", "end", "path"] (defScope (topS 5)) b_reference_at (defBody (topS 5)) = true := by decide +kernel
theorem sc_pieces_of : FnScope ["text", "found", "place", "pair", "path"] ["text"] (defScope (topS 6)) := ⟨rfl, rfl, rfl, by decide +kernel, rfl, by decide +kernel, by decide +kernel⟩
theorem ck_pieces_of : chkSs T ["text", "found", "place", "pair", "path"] (defScope (topS 6)) b_pieces_of (defBody (topS 6)) = true := by decide +kernel
theorem sc_named_in : FnScope ["value", "found", "one", "piece"] ["value"] (defScope (topS 7)) := ⟨rfl, rfl, rfl, by decide +kernel, rfl, by decide +kernel, by decide +kernel⟩
theorem ck_named_in : chkSs T ["value", "found", "one", "piece"] (defScope (topS 7)) b_named_in (defBody (topS 7)) = true := by decide +kernel
theorem sc_refers : FnScope ["settings", "found", "path", "value", "other"] ["settings"] (defScope (topS 8)) := ⟨rfl, rfl, rfl, by decide +kernel, rfl, by decide +kernel, by decide +kernel⟩
theorem ck_refers : chkSs T ["settings", "found", "path", "value", "other"] (defScope (topS 8)) b_refers (defBody (topS 8)) = true := by decide +kernel
theorem sc__law_cell : FnScope ["script", "k"] ["script", "k"] (defScope (topS 10)) := ⟨rfl, rfl, rfl, by decide +kernel, rfl, by decide +kernel, by decide +kernel⟩
theorem ck__law_cell : chkSs T ["script", "k"] (defScope (topS 10)) b__law_cell (defBody (topS 10)) = true := by decide +kernel
theorem sc__law_mix : FnScope ["cell", "prime", "many", "blend"] ["cell", "prime", "many"] (defScope (topS 11)) := ⟨rfl, rfl, rfl, by decide +kernel, rfl, by decide +kernel, by decide +kernel⟩
theorem ck__law_mix : chkSs T ["cell", "prime", "many", "blend"] (defScope (topS 11)) b__law_mix (defBody (topS 11)) = true := by decide +kernel
theorem sc__law_perm : FnScope ["cell", "many", "left", "k"] ["cell", "many"] (defScope (topS 12)) := ⟨rfl, rfl, rfl, by decide +kernel, rfl, by decide +kernel, by decide +kernel⟩
theorem ck__law_perm : chkSs T ["cell", "many", "left", "k"] (defScope (topS 12)) b__law_perm (defBody (topS 12)) = true := by decide +kernel
theorem sc__law_same : FnScope ["found", "due", "one", "other"] ["found", "due"] (defScope (topS 13)) := ⟨rfl, rfl, rfl, by decide +kernel, rfl, by decide +kernel, by decide +kernel⟩
theorem ck__law_same : chkSs T ["found", "due", "one", "other"] (defScope (topS 13)) b__law_same (defBody (topS 13)) = true := by decide +kernel
theorem sc__law_name : FnScope ["cell", "signs", "found", "k"] ["cell"] (defScope (topS 14)) := ⟨rfl, rfl, rfl, by decide +kernel, rfl, by decide +kernel, by decide +kernel⟩
theorem ck__law_name : chkSs T ["cell", "signs", "found", "k"] (defScope (topS 14)) b__law_name (defBody (topS 14)) = true := by decide +kernel
theorem sc__law_text : FnScope ["cell", "signs", "many", "k"] ["cell"] (defScope (topS 15)) := ⟨rfl, rfl, rfl, by decide +kernel, rfl, by decide +kernel, by decide +kernel⟩
theorem ck__law_text : chkSs T ["cell", "signs", "many", "k"] (defScope (topS 15)) b__law_text (defBody (topS 15)) = true := by decide +kernel
theorem sc__law_days : FnScope ["year", "month"] ["year", "month"] (defScope (topS 16)) := ⟨rfl, rfl, rfl, by decide +kernel, rfl, by decide +kernel, by decide +kernel⟩
theorem ck__law_days : chkSs T ["year", "month"] (defScope (topS 16)) b__law_days (defBody (topS 16)) = true := by decide +kernel
theorem sc__law_day : FnScope ["cell", "year", "month"] ["cell"] (defScope (topS 17)) := ⟨rfl, rfl, rfl, by decide +kernel, rfl, by decide +kernel, by decide +kernel⟩
theorem ck__law_day : chkSs T ["cell", "year", "month"] (defScope (topS 17)) b__law_day (defBody (topS 17)) = true := by decide +kernel
theorem sc__law_value : FnScope ["cell", "deep", "kind", "many", "k"] ["cell", "deep"] (defScope (topS 18)) := ⟨rfl, rfl, rfl, by decide +kernel, rfl, by decide +kernel, by decide +kernel⟩
theorem ck__law_value : chkSs T ["cell", "deep", "kind", "many", "k"] (defScope (topS 18)) b__law_value (defBody (topS 18)) = true := by decide +kernel
theorem sc__law_begins : FnScope ["one", "other"] ["one", "other"] (defScope (topS 19)) := ⟨rfl, rfl, rfl, by decide +kernel, rfl, by decide +kernel, by decide +kernel⟩
theorem ck__law_begins : chkSs T ["one", "other"] (defScope (topS 19)) b__law_begins (defBody (topS 19)) = true := by decide +kernel
theorem sc__law_pairs : FnScope ["cell", "many", "pool", "found", "k", "seed", "path", "j", "one"] ["cell", "many"] (defScope (topS 20)) := ⟨rfl, rfl, rfl, by decide +kernel, rfl, by decide +kernel, by decide +kernel⟩
theorem ck__law_pairs : chkSs T ["cell", "many", "pool", "found", "k", "seed", "path", "j", "one"] (defScope (topS 20)) b__law_pairs (defBody (topS 20)) = true := by decide +kernel
theorem sc__law_is_name : FnScope ["name", "signs", "sign"] ["name"] (defScope (topS 21)) := ⟨rfl, rfl, rfl, by decide +kernel, rfl, by decide +kernel, by decide +kernel⟩
theorem ck__law_is_name : chkSs T ["name", "signs", "sign"] (defScope (topS 21)) b__law_is_name (defBody (topS 21)) = true := by decide +kernel
theorem sc__law_scan : FnScope ["text", "found", "place", "end", "names", "name"] ["text"] (defScope (topS 22)) := ⟨rfl, rfl, rfl, by decide +kernel, rfl, by decide +kernel, by decide +kernel⟩
theorem ck__law_scan : chkSs T ["text", "found", "place", "end", "names", "name"] (defScope (topS 22)) b__law_scan (defBody (topS 22)) = true := by decide +kernel
theorem sc__law_piece : FnScope ["cell", "paths", "way", "some"] ["cell", "paths"] (defScope (topS 23)) := ⟨rfl, rfl, rfl, by decide +kernel, rfl, by decide +kernel, by decide +kernel⟩
theorem ck__law_piece : chkSs T ["cell", "paths", "way", "some"] (defScope (topS 23)) b__law_piece (defBody (topS 23)) = true := by decide +kernel
theorem sc__law_value_of : FnScope ["cell", "paths", "deep", "way", "text", "k", "many", "piece"] ["cell", "paths", "deep"] (defScope (topS 24)) := ⟨rfl, rfl, rfl, by decide +kernel, rfl, by decide +kernel, by decide +kernel⟩
theorem ck__law_value_of : chkSs T ["cell", "paths", "deep", "way", "text", "k", "many", "piece"] (defScope (topS 24)) b__law_value_of (defBody (topS 24)) = true := by decide +kernel
theorem sc__law_named : FnScope ["value", "found", "one", "piece"] ["value"] (defScope (topS 25)) := ⟨rfl, rfl, rfl, by decide +kernel, rfl, by decide +kernel, by decide +kernel⟩
theorem ck__law_named : chkSs T ["value", "found", "one", "piece"] (defScope (topS 25)) b__law_named (defBody (topS 25)) = true := by decide +kernel
theorem sc__law_linked : FnScope ["cell", "many", "way", "paths", "order", "found", "k", "path", "some", "value"] ["cell", "many", "way"] (defScope (topS 26)) := ⟨rfl, rfl, rfl, by decide +kernel, rfl, by decide +kernel, by decide +kernel⟩
theorem ck__law_linked : chkSs T ["cell", "many", "way", "paths", "order", "found", "k", "path", "some", "value"] (defScope (topS 26)) b__law_linked (defBody (topS 26)) = true := by decide +kernel
theorem sc__law_pairs_of : FnScope ["settings", "found", "path", "value", "other"] ["settings"] (defScope (topS 27)) := ⟨rfl, rfl, rfl, by decide +kernel, rfl, by decide +kernel, by decide +kernel⟩
theorem ck__law_pairs_of : chkSs T ["settings", "found", "path", "value", "other"] (defScope (topS 27)) b__law_pairs_of (defBody (topS 27)) = true := by decide +kernel
theorem sc_law : FnScope ["script", "k", "texts", "some", "many", "settings"] ["script"] (defScope (topS 28)) := ⟨rfl, rfl, rfl, by decide +kernel, rfl, by decide +kernel, by decide +kernel⟩
theorem ck_law : chkSs T ["script", "k", "texts", "some", "many", "settings"] (defScope (topS 28)) b_law (defBody (topS 28)) = true := by decide +kernel
theorem all_mk {K : PySem.W.Frag} {h : Heap} {mg : Str → Option Value} {fa : Addr} (X : K.In h) (G : h.Ns mainGlobals mg) (hfa : mg "law" = some (.ref fa))
    {a0 : Addr} {od0 an0 : Option Addr} {sl0 : Array (Option Value)} {oc0 kV0 dc0 pm0 cd0 ct0 : Value}
    {a1 : Addr} {od1 an1 : Option Addr} {sl1 : Array (Option Value)} {oc1 kV1 dc1 pm1 cd1 ct1 : Value}
    {a2 : Addr} {od2 an2 : Option Addr} {sl2 : Array (Option Value)} {oc2 kV2 dc2 pm2 cd2 ct2 : Value}
    {a3 : Addr} {od3 an3 : Option Addr} {sl3 : Array (Option Value)} {oc3 kV3 dc3 pm3 cd3 ct3 : Value}
    {a4 : Addr} {od4 an4 : Option Addr} {sl4 : Array (Option Value)} {oc4 kV4 dc4 pm4 cd4 ct4 : Value}
    {a5 : Addr} {od5 an5 : Option Addr} {sl5 : Array (Option Value)} {oc5 kV5 dc5 pm5 cd5 ct5 : Value}
    {a6 : Addr} {od6 an6 : Option Addr} {sl6 : Array (Option Value)} {oc6 kV6 dc6 pm6 cd6 ct6 : Value}
    {a7 : Addr} {od7 an7 : Option Addr} {sl7 : Array (Option Value)} {oc7 kV7 dc7 pm7 cd7 ct7 : Value}
    {a8 : Addr} {od8 an8 : Option Addr} {sl8 : Array (Option Value)} {oc8 kV8 dc8 pm8 cd8 ct8 : Value}
    {a9 : Addr} {od9 an9 : Option Addr} {sl9 : Array (Option Value)} {oc9 kV9 dc9 pm9 cd9 ct9 : Value}
    {a10 : Addr} {od10 an10 : Option Addr} {sl10 : Array (Option Value)} {oc10 kV10 dc10 pm10 cd10 ct10 : Value}
    {a11 : Addr} {od11 an11 : Option Addr} {sl11 : Array (Option Value)} {oc11 kV11 dc11 pm11 cd11 ct11 : Value}
    {a12 : Addr} {od12 an12 : Option Addr} {sl12 : Array (Option Value)} {oc12 kV12 dc12 pm12 cd12 ct12 : Value}
    {a13 : Addr} {od13 an13 : Option Addr} {sl13 : Array (Option Value)} {oc13 kV13 dc13 pm13 cd13 ct13 : Value}
    {a14 : Addr} {od14 an14 : Option Addr} {sl14 : Array (Option Value)} {oc14 kV14 dc14 pm14 cd14 ct14 : Value}
    {a15 : Addr} {od15 an15 : Option Addr} {sl15 : Array (Option Value)} {oc15 kV15 dc15 pm15 cd15 ct15 : Value}
    {a16 : Addr} {od16 an16 : Option Addr} {sl16 : Array (Option Value)} {oc16 kV16 dc16 pm16 cd16 ct16 : Value}
    {a17 : Addr} {od17 an17 : Option Addr} {sl17 : Array (Option Value)} {oc17 kV17 dc17 pm17 cd17 ct17 : Value}
    {a18 : Addr} {od18 an18 : Option Addr} {sl18 : Array (Option Value)} {oc18 kV18 dc18 pm18 cd18 ct18 : Value}
    {a19 : Addr} {od19 an19 : Option Addr} {sl19 : Array (Option Value)} {oc19 kV19 dc19 pm19 cd19 ct19 : Value}
    {a20 : Addr} {od20 an20 : Option Addr} {sl20 : Array (Option Value)} {oc20 kV20 dc20 pm20 cd20 ct20 : Value}
    {a21 : Addr} {od21 an21 : Option Addr} {sl21 : Array (Option Value)} {oc21 kV21 dc21 pm21 cd21 ct21 : Value}
    {a22 : Addr} {od22 an22 : Option Addr} {sl22 : Array (Option Value)} {oc22 kV22 dc22 pm22 cd22 ct22 : Value}
    {a23 : Addr} {od23 an23 : Option Addr} {sl23 : Array (Option Value)} {oc23 kV23 dc23 pm23 cd23 ct23 : Value}
    {a24 : Addr} {od24 an24 : Option Addr} {sl24 : Array (Option Value)} {oc24 kV24 dc24 pm24 cd24 ct24 : Value}
    {gt0 : Tok}
    (n0 : PySem.W.nsIn K mainGlobals "is_name" = some (some (.ref a0))) (l0 : K.lookup a0 = some ⟨oc0, od0, .func (PySem.W.fnOf "is_name" "is_name" (defArgs (topS 2)) (defBody (topS 2)) (defScope (topS 2)) .none kV0 dc0 pm0 an0 cd0 ct0), sl0⟩) (c0 : PySem.W.codeIn K cd0 "is_name" = true) (k0 : PySem.W.keepIn K (.ref a0) = true)
    (n1 : PySem.W.nsIn K mainGlobals "is_path" = some (some (.ref a1))) (l1 : K.lookup a1 = some ⟨oc1, od1, .func (PySem.W.fnOf "is_path" "is_path" (defArgs (topS 3)) (defBody (topS 3)) (defScope (topS 3)) .none kV1 dc1 pm1 an1 cd1 ct1), sl1⟩) (c1 : PySem.W.codeIn K cd1 "is_path" = true) (k1 : PySem.W.keepIn K (.ref a1) = true)
    (n2 : PySem.W.nsIn K mainGlobals "reference_at" = some (some (.ref a2))) (l2 : K.lookup a2 = some ⟨oc2, od2, .func (PySem.W.fnOf "reference_at" "reference_at" (defArgs (topS 5)) (defBody (topS 5)) (defScope (topS 5)) .none kV2 dc2 pm2 an2 cd2 ct2), sl2⟩) (c2 : PySem.W.codeIn K cd2 "reference_at" = true) (k2 : PySem.W.keepIn K (.ref a2) = true)
    (n3 : PySem.W.nsIn K mainGlobals "pieces_of" = some (some (.ref a3))) (l3 : K.lookup a3 = some ⟨oc3, od3, .func (PySem.W.fnOf "pieces_of" "pieces_of" (defArgs (topS 6)) (defBody (topS 6)) (defScope (topS 6)) .none kV3 dc3 pm3 an3 cd3 ct3), sl3⟩) (c3 : PySem.W.codeIn K cd3 "pieces_of" = true) (k3 : PySem.W.keepIn K (.ref a3) = true)
    (n4 : PySem.W.nsIn K mainGlobals "named_in" = some (some (.ref a4))) (l4 : K.lookup a4 = some ⟨oc4, od4, .func (PySem.W.fnOf "named_in" "named_in" (defArgs (topS 7)) (defBody (topS 7)) (defScope (topS 7)) .none kV4 dc4 pm4 an4 cd4 ct4), sl4⟩) (c4 : PySem.W.codeIn K cd4 "named_in" = true) (k4 : PySem.W.keepIn K (.ref a4) = true)
    (n5 : PySem.W.nsIn K mainGlobals "refers" = some (some (.ref a5))) (l5 : K.lookup a5 = some ⟨oc5, od5, .func (PySem.W.fnOf "refers" "refers" (defArgs (topS 8)) (defBody (topS 8)) (defScope (topS 8)) .none kV5 dc5 pm5 an5 cd5 ct5), sl5⟩) (c5 : PySem.W.codeIn K cd5 "refers" = true) (k5 : PySem.W.keepIn K (.ref a5) = true)
    (n6 : PySem.W.nsIn K mainGlobals "_law_cell" = some (some (.ref a6))) (l6 : K.lookup a6 = some ⟨oc6, od6, .func (PySem.W.fnOf "_law_cell" "_law_cell" (defArgs (topS 10)) (defBody (topS 10)) (defScope (topS 10)) .none kV6 dc6 pm6 an6 cd6 ct6), sl6⟩) (c6 : PySem.W.codeIn K cd6 "_law_cell" = true) (k6 : PySem.W.keepIn K (.ref a6) = true)
    (n7 : PySem.W.nsIn K mainGlobals "_law_mix" = some (some (.ref a7))) (l7 : K.lookup a7 = some ⟨oc7, od7, .func (PySem.W.fnOf "_law_mix" "_law_mix" (defArgs (topS 11)) (defBody (topS 11)) (defScope (topS 11)) .none kV7 dc7 pm7 an7 cd7 ct7), sl7⟩) (c7 : PySem.W.codeIn K cd7 "_law_mix" = true) (k7 : PySem.W.keepIn K (.ref a7) = true)
    (n8 : PySem.W.nsIn K mainGlobals "_law_perm" = some (some (.ref a8))) (l8 : K.lookup a8 = some ⟨oc8, od8, .func (PySem.W.fnOf "_law_perm" "_law_perm" (defArgs (topS 12)) (defBody (topS 12)) (defScope (topS 12)) .none kV8 dc8 pm8 an8 cd8 ct8), sl8⟩) (c8 : PySem.W.codeIn K cd8 "_law_perm" = true) (k8 : PySem.W.keepIn K (.ref a8) = true)
    (n9 : PySem.W.nsIn K mainGlobals "_law_same" = some (some (.ref a9))) (l9 : K.lookup a9 = some ⟨oc9, od9, .func (PySem.W.fnOf "_law_same" "_law_same" (defArgs (topS 13)) (defBody (topS 13)) (defScope (topS 13)) .none kV9 dc9 pm9 an9 cd9 ct9), sl9⟩) (c9 : PySem.W.codeIn K cd9 "_law_same" = true) (k9 : PySem.W.keepIn K (.ref a9) = true)
    (n10 : PySem.W.nsIn K mainGlobals "_law_name" = some (some (.ref a10))) (l10 : K.lookup a10 = some ⟨oc10, od10, .func (PySem.W.fnOf "_law_name" "_law_name" (defArgs (topS 14)) (defBody (topS 14)) (defScope (topS 14)) .none kV10 dc10 pm10 an10 cd10 ct10), sl10⟩) (c10 : PySem.W.codeIn K cd10 "_law_name" = true) (k10 : PySem.W.keepIn K (.ref a10) = true)
    (n11 : PySem.W.nsIn K mainGlobals "_law_text" = some (some (.ref a11))) (l11 : K.lookup a11 = some ⟨oc11, od11, .func (PySem.W.fnOf "_law_text" "_law_text" (defArgs (topS 15)) (defBody (topS 15)) (defScope (topS 15)) .none kV11 dc11 pm11 an11 cd11 ct11), sl11⟩) (c11 : PySem.W.codeIn K cd11 "_law_text" = true) (k11 : PySem.W.keepIn K (.ref a11) = true)
    (n12 : PySem.W.nsIn K mainGlobals "_law_days" = some (some (.ref a12))) (l12 : K.lookup a12 = some ⟨oc12, od12, .func (PySem.W.fnOf "_law_days" "_law_days" (defArgs (topS 16)) (defBody (topS 16)) (defScope (topS 16)) .none kV12 dc12 pm12 an12 cd12 ct12), sl12⟩) (c12 : PySem.W.codeIn K cd12 "_law_days" = true) (k12 : PySem.W.keepIn K (.ref a12) = true)
    (n13 : PySem.W.nsIn K mainGlobals "_law_day" = some (some (.ref a13))) (l13 : K.lookup a13 = some ⟨oc13, od13, .func (PySem.W.fnOf "_law_day" "_law_day" (defArgs (topS 17)) (defBody (topS 17)) (defScope (topS 17)) .none kV13 dc13 pm13 an13 cd13 ct13), sl13⟩) (c13 : PySem.W.codeIn K cd13 "_law_day" = true) (k13 : PySem.W.keepIn K (.ref a13) = true)
    (n14 : PySem.W.nsIn K mainGlobals "_law_value" = some (some (.ref a14))) (l14 : K.lookup a14 = some ⟨oc14, od14, .func (PySem.W.fnOf "_law_value" "_law_value" (defArgs (topS 18)) (defBody (topS 18)) (defScope (topS 18)) .none kV14 dc14 pm14 an14 cd14 ct14), sl14⟩) (c14 : PySem.W.codeIn K cd14 "_law_value" = true) (k14 : PySem.W.keepIn K (.ref a14) = true)
    (n15 : PySem.W.nsIn K mainGlobals "_law_begins" = some (some (.ref a15))) (l15 : K.lookup a15 = some ⟨oc15, od15, .func (PySem.W.fnOf "_law_begins" "_law_begins" (defArgs (topS 19)) (defBody (topS 19)) (defScope (topS 19)) .none kV15 dc15 pm15 an15 cd15 ct15), sl15⟩) (c15 : PySem.W.codeIn K cd15 "_law_begins" = true) (k15 : PySem.W.keepIn K (.ref a15) = true)
    (n16 : PySem.W.nsIn K mainGlobals "_law_pairs" = some (some (.ref a16))) (l16 : K.lookup a16 = some ⟨oc16, od16, .func (PySem.W.fnOf "_law_pairs" "_law_pairs" (defArgs (topS 20)) (defBody (topS 20)) (defScope (topS 20)) .none kV16 dc16 pm16 an16 cd16 ct16), sl16⟩) (c16 : PySem.W.codeIn K cd16 "_law_pairs" = true) (k16 : PySem.W.keepIn K (.ref a16) = true)
    (n17 : PySem.W.nsIn K mainGlobals "_law_is_name" = some (some (.ref a17))) (l17 : K.lookup a17 = some ⟨oc17, od17, .func (PySem.W.fnOf "_law_is_name" "_law_is_name" (defArgs (topS 21)) (defBody (topS 21)) (defScope (topS 21)) .none kV17 dc17 pm17 an17 cd17 ct17), sl17⟩) (c17 : PySem.W.codeIn K cd17 "_law_is_name" = true) (k17 : PySem.W.keepIn K (.ref a17) = true)
    (n18 : PySem.W.nsIn K mainGlobals "_law_scan" = some (some (.ref a18))) (l18 : K.lookup a18 = some ⟨oc18, od18, .func (PySem.W.fnOf "_law_scan" "_law_scan" (defArgs (topS 22)) (defBody (topS 22)) (defScope (topS 22)) .none kV18 dc18 pm18 an18 cd18 ct18), sl18⟩) (c18 : PySem.W.codeIn K cd18 "_law_scan" = true) (k18 : PySem.W.keepIn K (.ref a18) = true)
    (n19 : PySem.W.nsIn K mainGlobals "_law_piece" = some (some (.ref a19))) (l19 : K.lookup a19 = some ⟨oc19, od19, .func (PySem.W.fnOf "_law_piece" "_law_piece" (defArgs (topS 23)) (defBody (topS 23)) (defScope (topS 23)) .none kV19 dc19 pm19 an19 cd19 ct19), sl19⟩) (c19 : PySem.W.codeIn K cd19 "_law_piece" = true) (k19 : PySem.W.keepIn K (.ref a19) = true)
    (n20 : PySem.W.nsIn K mainGlobals "_law_value_of" = some (some (.ref a20))) (l20 : K.lookup a20 = some ⟨oc20, od20, .func (PySem.W.fnOf "_law_value_of" "_law_value_of" (defArgs (topS 24)) (defBody (topS 24)) (defScope (topS 24)) .none kV20 dc20 pm20 an20 cd20 ct20), sl20⟩) (c20 : PySem.W.codeIn K cd20 "_law_value_of" = true) (k20 : PySem.W.keepIn K (.ref a20) = true)
    (n21 : PySem.W.nsIn K mainGlobals "_law_named" = some (some (.ref a21))) (l21 : K.lookup a21 = some ⟨oc21, od21, .func (PySem.W.fnOf "_law_named" "_law_named" (defArgs (topS 25)) (defBody (topS 25)) (defScope (topS 25)) .none kV21 dc21 pm21 an21 cd21 ct21), sl21⟩) (c21 : PySem.W.codeIn K cd21 "_law_named" = true) (k21 : PySem.W.keepIn K (.ref a21) = true)
    (n22 : PySem.W.nsIn K mainGlobals "_law_linked" = some (some (.ref a22))) (l22 : K.lookup a22 = some ⟨oc22, od22, .func (PySem.W.fnOf "_law_linked" "_law_linked" (defArgs (topS 26)) (defBody (topS 26)) (defScope (topS 26)) .none kV22 dc22 pm22 an22 cd22 ct22), sl22⟩) (c22 : PySem.W.codeIn K cd22 "_law_linked" = true) (k22 : PySem.W.keepIn K (.ref a22) = true)
    (n23 : PySem.W.nsIn K mainGlobals "_law_pairs_of" = some (some (.ref a23))) (l23 : K.lookup a23 = some ⟨oc23, od23, .func (PySem.W.fnOf "_law_pairs_of" "_law_pairs_of" (defArgs (topS 27)) (defBody (topS 27)) (defScope (topS 27)) .none kV23 dc23 pm23 an23 cd23 ct23), sl23⟩) (c23 : PySem.W.codeIn K cd23 "_law_pairs_of" = true) (k23 : PySem.W.keepIn K (.ref a23) = true)
    (n24 : PySem.W.nsIn K mainGlobals "law" = some (some (.ref a24))) (l24 : K.lookup a24 = some ⟨oc24, od24, .func (PySem.W.fnOf "law" "law" (defArgs (topS 28)) (defBody (topS 28)) (defScope (topS 28)) .none kV24 dc24 pm24 an24 cd24 ct24), sl24⟩) (c24 : PySem.W.codeIn K cd24 "law" = true) (k24 : PySem.W.keepIn K (.ref a24) = true)
    (qg0 : PySem.W.nsIn K mainGlobals "LETTERS" = some (some (.str "abcdefghijklmnopqrstuvwxyz" gt0)))
    (z0 : PySem.W.nsIn K mainGlobals "len" = some none)
    (z1 : PySem.W.nsIn K mainGlobals "all" = some none)
    (z2 : PySem.W.nsIn K mainGlobals "any" = some none)
    (z3 : PySem.W.nsIn K mainGlobals "tuple" = some none)
    (z4 : PySem.W.nsIn K mainGlobals "list" = some none)
    (z5 : PySem.W.nsIn K mainGlobals "str" = some none)
    (z6 : PySem.W.nsIn K mainGlobals "int" = some none)
    (z7 : PySem.W.nsIn K mainGlobals "isinstance" = some none)
    (z8 : PySem.W.nsIn K mainGlobals "bool" = some none)
    (z9 : PySem.W.nsIn K mainGlobals "range" = some none)
    (z10 : PySem.W.nsIn K mainGlobals "enumerate" = some none)
    (z11 : PySem.W.nsIn K mainGlobals "zip" = some none)
    (z12 : PySem.W.nsIn K mainGlobals "sorted" = some none)
    (z13 : PySem.W.nsIn K mainGlobals "dict" = some none)
    (z14 : PySem.W.nsIn K mainGlobals "set" = some none)
    (z15 : PySem.W.nsIn K mainGlobals "min" = some none)
    (z16 : PySem.W.nsIn K mainGlobals "max" = some none)
    (z17 : PySem.W.nsIn K mainGlobals "ValueError" = some none)
    : (∀ f x np, T.fns[f]? = some (x, np) → ∃ a fd ps, DefIs K mg T tab f x np a fd ps) ∧ (∃ fd, DefIs K mg T tab 24 "law" 1 fa fd ["script"]) ∧
      (∀ (k : Nat) (x : Str), T.gls[k]? = some x → ∃ (d : Dt) (v : V) (u : Value), gls[k]? = some d ∧ mg x = some u ∧ RelV v u ∧ ∀ P w av H, Rep ⟨K, P, w⟩ av H d v) ∧
      (∀ x ∈ bltNames, mg (Str.ofString x) = none) ∧ (∀ (c : Nat) (x : Str) (fl : List Str), T.xcs[c]? = some (x, fl) → XnOk (xtK K T.xcs) K mg c x ∧ (fl = [] → XcOk (xtK K T.xcs) K mg c x)) ∧ AllXf (xtK K T.xcs) K mg T.xcs T.xfs ∧ AllCln K mg { T with nn := true } tab T.cln := by
  have D0 : DefIs K mg T tab 0 "is_name" 1 a0 _ ["thing"] := ⟨topS 2, "is_name", _, f_is_name, fun_mk (st := topS 2) l0 c0 k0, sc_is_name, PySem.W.mg_of X G n0, fun us hl => match us, hl with | [_], _ => rfl, rfl, rfl, rfl, rfl, .inl ck_is_name⟩
  have D1 : DefIs K mg T tab 1 "is_path" 1 a1 _ ["thing"] := ⟨topS 3, "is_path", _, f_is_path, fun_mk (st := topS 3) l1 c1 k1, sc_is_path, PySem.W.mg_of X G n1, fun us hl => match us, hl with | [_], _ => rfl, rfl, rfl, rfl, rfl, .inl ck_is_path⟩
  have D2 : DefIs K mg T tab 2 "reference_at" 2 a2 _ ["text", "place"] := ⟨topS 5, "reference_at", _, f_reference_at, fun_mk (st := topS 5) l2 c2 k2, sc_reference_at, PySem.W.mg_of X G n2, fun us hl => match us, hl with | [_, _], _ => rfl, rfl, rfl, rfl, rfl, .inl ck_reference_at⟩
  have D3 : DefIs K mg T tab 3 "pieces_of" 1 a3 _ ["text"] := ⟨topS 6, "pieces_of", _, f_pieces_of, fun_mk (st := topS 6) l3 c3 k3, sc_pieces_of, PySem.W.mg_of X G n3, fun us hl => match us, hl with | [_], _ => rfl, rfl, rfl, rfl, rfl, .inl ck_pieces_of⟩
  have D4 : DefIs K mg T tab 4 "named_in" 1 a4 _ ["value"] := ⟨topS 7, "named_in", _, f_named_in, fun_mk (st := topS 7) l4 c4 k4, sc_named_in, PySem.W.mg_of X G n4, fun us hl => match us, hl with | [_], _ => rfl, rfl, rfl, rfl, rfl, .inl ck_named_in⟩
  have D5 : DefIs K mg T tab 5 "refers" 1 a5 _ ["settings"] := ⟨topS 8, "refers", _, f_refers, fun_mk (st := topS 8) l5 c5 k5, sc_refers, PySem.W.mg_of X G n5, fun us hl => match us, hl with | [_], _ => rfl, rfl, rfl, rfl, rfl, .inl ck_refers⟩
  have D6 : DefIs K mg T tab 6 "_law_cell" 2 a6 _ ["script", "k"] := ⟨topS 10, "_law_cell", _, f__law_cell, fun_mk (st := topS 10) l6 c6 k6, sc__law_cell, PySem.W.mg_of X G n6, fun us hl => match us, hl with | [_, _], _ => rfl, rfl, rfl, rfl, rfl, .inl ck__law_cell⟩
  have D7 : DefIs K mg T tab 7 "_law_mix" 3 a7 _ ["cell", "prime", "many"] := ⟨topS 11, "_law_mix", _, f__law_mix, fun_mk (st := topS 11) l7 c7 k7, sc__law_mix, PySem.W.mg_of X G n7, fun us hl => match us, hl with | [_, _, _], _ => rfl, rfl, rfl, rfl, rfl, .inl ck__law_mix⟩
  have D8 : DefIs K mg T tab 8 "_law_perm" 2 a8 _ ["cell", "many"] := ⟨topS 12, "_law_perm", _, f__law_perm, fun_mk (st := topS 12) l8 c8 k8, sc__law_perm, PySem.W.mg_of X G n8, fun us hl => match us, hl with | [_, _], _ => rfl, rfl, rfl, rfl, rfl, .inl ck__law_perm⟩
  have D9 : DefIs K mg T tab 9 "_law_same" 2 a9 _ ["found", "due"] := ⟨topS 13, "_law_same", _, f__law_same, fun_mk (st := topS 13) l9 c9 k9, sc__law_same, PySem.W.mg_of X G n9, fun us hl => match us, hl with | [_, _], _ => rfl, rfl, rfl, rfl, rfl, .inl ck__law_same⟩
  have D10 : DefIs K mg T tab 10 "_law_name" 1 a10 _ ["cell"] := ⟨topS 14, "_law_name", _, f__law_name, fun_mk (st := topS 14) l10 c10 k10, sc__law_name, PySem.W.mg_of X G n10, fun us hl => match us, hl with | [_], _ => rfl, rfl, rfl, rfl, rfl, .inl ck__law_name⟩
  have D11 : DefIs K mg T tab 11 "_law_text" 1 a11 _ ["cell"] := ⟨topS 15, "_law_text", _, f__law_text, fun_mk (st := topS 15) l11 c11 k11, sc__law_text, PySem.W.mg_of X G n11, fun us hl => match us, hl with | [_], _ => rfl, rfl, rfl, rfl, rfl, .inl ck__law_text⟩
  have D12 : DefIs K mg T tab 12 "_law_days" 2 a12 _ ["year", "month"] := ⟨topS 16, "_law_days", _, f__law_days, fun_mk (st := topS 16) l12 c12 k12, sc__law_days, PySem.W.mg_of X G n12, fun us hl => match us, hl with | [_, _], _ => rfl, rfl, rfl, rfl, rfl, .inl ck__law_days⟩
  have D13 : DefIs K mg T tab 13 "_law_day" 1 a13 _ ["cell"] := ⟨topS 17, "_law_day", _, f__law_day, fun_mk (st := topS 17) l13 c13 k13, sc__law_day, PySem.W.mg_of X G n13, fun us hl => match us, hl with | [_], _ => rfl, rfl, rfl, rfl, rfl, .inl ck__law_day⟩
  have D14 : DefIs K mg T tab 14 "_law_value" 2 a14 _ ["cell", "deep"] := ⟨topS 18, "_law_value", _, f__law_value, fun_mk (st := topS 18) l14 c14 k14, sc__law_value, PySem.W.mg_of X G n14, fun us hl => match us, hl with | [_, _], _ => rfl, rfl, rfl, rfl, rfl, .inl ck__law_value⟩
  have D15 : DefIs K mg T tab 15 "_law_begins" 2 a15 _ ["one", "other"] := ⟨topS 19, "_law_begins", _, f__law_begins, fun_mk (st := topS 19) l15 c15 k15, sc__law_begins, PySem.W.mg_of X G n15, fun us hl => match us, hl with | [_, _], _ => rfl, rfl, rfl, rfl, rfl, .inl ck__law_begins⟩
  have D16 : DefIs K mg T tab 16 "_law_pairs" 2 a16 _ ["cell", "many"] := ⟨topS 20, "_law_pairs", _, f__law_pairs, fun_mk (st := topS 20) l16 c16 k16, sc__law_pairs, PySem.W.mg_of X G n16, fun us hl => match us, hl with | [_, _], _ => rfl, rfl, rfl, rfl, rfl, .inl ck__law_pairs⟩
  have D17 : DefIs K mg T tab 17 "_law_is_name" 1 a17 _ ["name"] := ⟨topS 21, "_law_is_name", _, f__law_is_name, fun_mk (st := topS 21) l17 c17 k17, sc__law_is_name, PySem.W.mg_of X G n17, fun us hl => match us, hl with | [_], _ => rfl, rfl, rfl, rfl, rfl, .inl ck__law_is_name⟩
  have D18 : DefIs K mg T tab 18 "_law_scan" 1 a18 _ ["text"] := ⟨topS 22, "_law_scan", _, f__law_scan, fun_mk (st := topS 22) l18 c18 k18, sc__law_scan, PySem.W.mg_of X G n18, fun us hl => match us, hl with | [_], _ => rfl, rfl, rfl, rfl, rfl, .inl ck__law_scan⟩
  have D19 : DefIs K mg T tab 19 "_law_piece" 2 a19 _ ["cell", "paths"] := ⟨topS 23, "_law_piece", _, f__law_piece, fun_mk (st := topS 23) l19 c19 k19, sc__law_piece, PySem.W.mg_of X G n19, fun us hl => match us, hl with | [_, _], _ => rfl, rfl, rfl, rfl, rfl, .inl ck__law_piece⟩
  have D20 : DefIs K mg T tab 20 "_law_value_of" 3 a20 _ ["cell", "paths", "deep"] := ⟨topS 24, "_law_value_of", _, f__law_value_of, fun_mk (st := topS 24) l20 c20 k20, sc__law_value_of, PySem.W.mg_of X G n20, fun us hl => match us, hl with | [_, _, _], _ => rfl, rfl, rfl, rfl, rfl, .inl ck__law_value_of⟩
  have D21 : DefIs K mg T tab 21 "_law_named" 1 a21 _ ["value"] := ⟨topS 25, "_law_named", _, f__law_named, fun_mk (st := topS 25) l21 c21 k21, sc__law_named, PySem.W.mg_of X G n21, fun us hl => match us, hl with | [_], _ => rfl, rfl, rfl, rfl, rfl, .inl ck__law_named⟩
  have D22 : DefIs K mg T tab 22 "_law_linked" 3 a22 _ ["cell", "many", "way"] := ⟨topS 26, "_law_linked", _, f__law_linked, fun_mk (st := topS 26) l22 c22 k22, sc__law_linked, PySem.W.mg_of X G n22, fun us hl => match us, hl with | [_, _, _], _ => rfl, rfl, rfl, rfl, rfl, .inl ck__law_linked⟩
  have D23 : DefIs K mg T tab 23 "_law_pairs_of" 1 a23 _ ["settings"] := ⟨topS 27, "_law_pairs_of", _, f__law_pairs_of, fun_mk (st := topS 27) l23 c23 k23, sc__law_pairs_of, PySem.W.mg_of X G n23, fun us hl => match us, hl with | [_], _ => rfl, rfl, rfl, rfl, rfl, .inl ck__law_pairs_of⟩
  have D24 : DefIs K mg T tab 24 "law" 1 a24 _ ["script"] := ⟨topS 28, "law", _, f_law, fun_mk (st := topS 28) l24 c24 k24, sc_law, PySem.W.mg_of X G n24, fun us hl => match us, hl with | [_], _ => rfl, rfl, rfl, rfl, rfl, .inl ck_law⟩
  have e := hfa.symm.trans (PySem.W.mg_of X G n24)
  cases e
  refine ⟨AllDefs.get (L := T.fns) ⟨⟨_, _, _, D0⟩, ⟨_, _, _, D1⟩, ⟨_, _, _, D2⟩, ⟨_, _, _, D3⟩, ⟨_, _, _, D4⟩, ⟨_, _, _, D5⟩, ⟨_, _, _, D6⟩, ⟨_, _, _, D7⟩, ⟨_, _, _, D8⟩, ⟨_, _, _, D9⟩, ⟨_, _, _, D10⟩, ⟨_, _, _, D11⟩, ⟨_, _, _, D12⟩, ⟨_, _, _, D13⟩, ⟨_, _, _, D14⟩, ⟨_, _, _, D15⟩, ⟨_, _, _, D16⟩, ⟨_, _, _, D17⟩, ⟨_, _, _, D18⟩, ⟨_, _, _, D19⟩, ⟨_, _, _, D20⟩, ⟨_, _, _, D21⟩, ⟨_, _, _, D22⟩, ⟨_, _, _, D23⟩, ⟨_, _, _, D24⟩, trivial⟩, ⟨_, D24⟩, AllGl.get (L := T.gls) ⟨?_, trivial⟩, AllBlt.get (L := bltNames) ⟨PySem.W.mg_none_of X G z0, PySem.W.mg_none_of X G z1, PySem.W.mg_none_of X G z2, PySem.W.mg_none_of X G z3, PySem.W.mg_none_of X G z4, PySem.W.mg_none_of X G z5, PySem.W.mg_none_of X G z6, PySem.W.mg_none_of X G z7, PySem.W.mg_none_of X G z8, PySem.W.mg_none_of X G z9, PySem.W.mg_none_of X G z10, PySem.W.mg_none_of X G z11, PySem.W.mg_none_of X G z12, PySem.W.mg_none_of X G z13, PySem.W.mg_none_of X G z14, PySem.W.mg_none_of X G z15, PySem.W.mg_none_of X G z16, PySem.W.mg_none_of X G z17, trivial⟩, AllXc.get (L := T.xcs) trivial, trivial, trivial⟩
  · exact ⟨_, .str "abcdefghijklmnopqrstuvwxyz", _, rfl, PySem.W.mg_of X G qg0, ⟨_, rfl⟩, fun _ _ av H => rep_lit (by decide +kernel) (by decide +kernel)⟩

end PBX

set_option maxRecDepth 100000 in
set_option maxHeartbeats 0 in
theorem PySem.Challenge.cw_laysheets_k33_references_holds : PySem.Challenge.rw_laysheets_k33_references.Holds := by
  w_on; o_law; k_head; (case hw => w_witness2)
  k_fill
  refine PB.walk_law (l := PySem.Challenge.rw_laysheets_k33_references) PBX.T PBX.tab PBX.gls PBX.fuel 24 rfl rfl rfl ⟨rfl, by decide, by decide⟩ (fun w h Y => PySem.W.kIn_of Y) ?F PBX.law_ok
  case F =>
    intro w mg fa h KX G hmg
    refine' PBX.all_mk KX G hmg ?n0 ?l0 ?c0 ?k0 ?n1 ?l1 ?c1 ?k1 ?n2 ?l2 ?c2 ?k2 ?n3 ?l3 ?c3 ?k3 ?n4 ?l4 ?c4 ?k4 ?n5 ?l5 ?c5 ?k5 ?n6 ?l6 ?c6 ?k6 ?n7 ?l7 ?c7 ?k7 ?n8 ?l8 ?c8 ?k8 ?n9 ?l9 ?c9 ?k9 ?n10 ?l10 ?c10 ?k10 ?n11 ?l11 ?c11 ?k11 ?n12 ?l12 ?c12 ?k12 ?n13 ?l13 ?c13 ?k13 ?n14 ?l14 ?c14 ?k14 ?n15 ?l15 ?c15 ?k15 ?n16 ?l16 ?c16 ?k16 ?n17 ?l17 ?c17 ?k17 ?n18 ?l18 ?c18 ?k18 ?n19 ?l19 ?c19 ?k19 ?n20 ?l20 ?c20 ?k20 ?n21 ?l21 ?c21 ?k21 ?n22 ?l22 ?c22 ?k22 ?n23 ?l23 ?c23 ?k23 ?n24 ?l24 ?c24 ?k24 ?qg0 ?z0 ?z1 ?z2 ?z3 ?z4 ?z5 ?z6 ?z7 ?z8 ?z9 ?z10 ?z11 ?z12 ?z13 ?z14 ?z15 ?z16 ?z17
    (case n0 => k_is); (case l0 => k_is); (case c0 => k_is); (case k0 => k_is); (case n1 => k_is); (case l1 => k_is); (case c1 => k_is); (case k1 => k_is)
    (case n2 => k_is); (case l2 => k_is); (case c2 => k_is); (case k2 => k_is); (case n3 => k_is); (case l3 => k_is); (case c3 => k_is); (case k3 => k_is)
    (case n4 => k_is); (case l4 => k_is); (case c4 => k_is); (case k4 => k_is); (case n5 => k_is); (case l5 => k_is); (case c5 => k_is); (case k5 => k_is)
    (case n6 => k_is); (case l6 => k_is); (case c6 => k_is); (case k6 => k_is); (case n7 => k_is); (case l7 => k_is); (case c7 => k_is); (case k7 => k_is)
    (case n8 => k_is); (case l8 => k_is); (case c8 => k_is); (case k8 => k_is); (case n9 => k_is); (case l9 => k_is); (case c9 => k_is); (case k9 => k_is)
    (case n10 => k_is); (case l10 => k_is); (case c10 => k_is); (case k10 => k_is); (case n11 => k_is); (case l11 => k_is); (case c11 => k_is); (case k11 => k_is)
    (case n12 => k_is); (case l12 => k_is); (case c12 => k_is); (case k12 => k_is); (case n13 => k_is); (case l13 => k_is); (case c13 => k_is); (case k13 => k_is)
    (case n14 => k_is); (case l14 => k_is); (case c14 => k_is); (case k14 => k_is); (case n15 => k_is); (case l15 => k_is); (case c15 => k_is); (case k15 => k_is)
    (case n16 => k_is); (case l16 => k_is); (case c16 => k_is); (case k16 => k_is); (case n17 => k_is); (case l17 => k_is); (case c17 => k_is); (case k17 => k_is)
    (case n18 => k_is); (case l18 => k_is); (case c18 => k_is); (case k18 => k_is); (case n19 => k_is); (case l19 => k_is); (case c19 => k_is); (case k19 => k_is)
    (case n20 => k_is); (case l20 => k_is); (case c20 => k_is); (case k20 => k_is); (case n21 => k_is); (case l21 => k_is); (case c21 => k_is); (case k21 => k_is)
    (case n22 => k_is); (case l22 => k_is); (case c22 => k_is); (case k22 => k_is); (case n23 => k_is); (case l23 => k_is); (case c23 => k_is); (case k23 => k_is)
    (case n24 => k_is); (case l24 => k_is); (case c24 => k_is); (case k24 => k_is); (case qg0 => k_is); (case z0 => k_is); (case z1 => k_is); (case z2 => k_is)
    (case z3 => k_is); (case z4 => k_is); (case z5 => k_is); (case z6 => k_is); (case z7 => k_is); (case z8 => k_is); (case z9 => k_is); (case z10 => k_is)
    (case z11 => k_is); (case z12 => k_is); (case z13 => k_is); (case z14 => k_is); (case z15 => k_is); (case z16 => k_is); (case z17 => k_is)
