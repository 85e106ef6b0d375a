import PyProof.Rows.All
import HandS.ForMost
import HandS.Text
import HandS.StrMore
import HandS.StrSplit
import HandS.ForExc
import HandS.TupAny
import HandS.TupMul
import HandS.Flow
import HandS.CallSlots
import HandS.Defaults
import HandS.HotCalls
import HandS.ExcCtx
import HandS.Iter
import HandS.Comp
import HandS.TryMany
import HandS.Style
import HandS.IsInst
import HandS.RaiseMore
import HandS.SortInts
import HandS.More
import KE.KDictPairs
import HandS.SortOrd
import HandS.SortRule
import KE.KRevSl
import HandS.DictTup
import HandS.SetTxt0
import HandS.Set
import HandS.Strs
import HandS.ForSpec
import KE.KExcIs
import HandS.Ends
import HandS.HeadEnd
import HandS.HeadHook1
import HandS.HeadHook2
import HandS.Head2
import PySem.Challenge.RW_spanbooks_k01_errors_that_keep_values_or
section
set_option Elab.async false
set_option linter.all false
set_option maxRecDepth 100000
set_option maxHeartbeats 4000000
/-! PyA: plain data, a small language over it, its interpreter. -/
namespace Py
open PySem
open L2 (Key kV)

/-- plain data; loc: a cell of the lasting store -/
inductive D where
  | non | bl (b : Bool) | int (i : Int) | str (x : Str)
  | tup (xs : List D) | lst (xs : List D) | dct (kvs : List (Key × D))
  /-- a tuple of which less is known -/
  | tupU (xs : List D)
  | fn (f : Nat) | exc (c : Nat) (d : D)
  | loc (k : Nat)
  deriving Inhabited

/-- a cell of a store -/
inductive Cell where
  | lst (xs : List D) | dct (kvs : List (Key × D)) | frz (d : D)
  deriving Inhabited

/-- S: what lasts; T: the frame's own cells -/
structure Sto where
  S : List Cell
  T : List Cell

/-- a name holds a value, or a cell of the frame -/
inductive Slot where
  | val (d : D) | tmp (k : Nat)
  /-- the error that a suite has in hand -/
  | exc (c : Nat) (d : D)
  deriving Inhabited
abbrev Vars := List (Option Slot)

inductive Res (α : Type) where
  | ok (a : α)
  | exn (c : Nat) (d : D) (Z : Sto)
  | bad
def Res.bind {α β : Type} : Res α → (α → Res β) → Res β
  | .ok a, f => f a
  | .exn c d Z, _ => .exn c d Z
  | .bad, _ => .bad
def Res.opt {α : Type} : Option α → Res α
  | some a => .ok a
  | none => .bad
instance : Monad Res where
  pure := .ok
  bind := Res.bind

theorem Res.ok_bind {α β : Type} (a : α) (f : α → Res β) : ((.ok a : Res α) >>= f) = f a := rfl
theorem Res.assoc {α β γ : Type} (m : Res α) (f : α → Res β) (g : β → Res γ) : ((m >>= f) >>= g) = m >>= fun a => f a >>= g := by
  cases m <;> rfl
theorem Res.opt_some {α : Type} (a : α) : Res.opt (some a) = .ok a := rfl
theorem Res.opt_none {α : Type} : (Res.opt none : Res α) = .bad := rfl
theorem Res.bad_bind {α β : Type} (f : α → Res β) : ((.bad : Res α) >>= f) = .bad := rfl
theorem Res.exn_bind {α β : Type} (c : Nat) (d : D) (Z : Sto) (f : α → Res β) : ((.exn c d Z : Res α) >>= f) = .exn c d Z := rfl

/-! ### operations -/
def lineN : Nat := 16777216
def lenOk {α : Type} (xs : List α) : Bool := decide (xs.length ≤ lineN)

def keyD : D → Option Key
  | .int i => some (.inl i)
  | .str x => some (.inr x)
  | _ => none
def dK : Key → D
  | .inl i => .int i
  | .inr x => .str x

/-- what is seen at a value: through a cell -/
def Cell.see : Cell → D
  | .lst xs => .lst xs
  | .dct kvs => .dct kvs
  | .frz d => d
/-- an operand: a value, or a frame's cell by its name -/
inductive Ov where
  | v (d : D) | t (k : Nat)
def Sto.see (Z : Sto) : Ov → Option D
  | .v (.loc k) => (Z.S[k]?).map Cell.see
  | .v d => some d
  | .t k => (Z.T[k]?).map Cell.see
/-- a frame's cell is handed out: it changes no more -/
def Sto.fix (Z : Sto) (k : Nat) : Res (D × Sto) :=
  match Z.T[k]? with
  | some c => .ok (c.see, { Z with T := Z.T.set k (.frz c.see) })
  | none => .bad

def truthD : D → Option Bool
  | .non => some false
  | .bl b => some b
  | .int i => some (i != 0)
  | .str x => if x.length ≤ lineN then some (x.length != 0) else none
  | .tup xs => some (!xs.isEmpty)
  | .lst xs => some (!xs.isEmpty)
  | .dct xs => some (!xs.isEmpty)
  | _ => none

def Sto.tru (Z : Sto) (x : Ov) : Option Bool := (Z.see x).bind truthD

mutual
def D.py : D → Option PyData
  | .non => some .none
  | .bl b => some (.bool b)
  | .int i => some (.int i)
  | .str x => some (.str x)
  | .tup xs => (pyAll xs).map .tuple
  | .lst xs => (pyAll xs).map .list
  | .tupU xs => (pyAll xs).map .tuple
  | _ => none
def pyAll : List D → Option (List PyData)
  | [] => some []
  | x :: xs => match x.py, pyAll xs with
    | some y, some ys => some (y :: ys)
    | _, _ => none
end
/-- the value of ==, where it is told -/
def eqD (a b : D) : Option Bool := match a.py, b.py with
  | some x, some y => if SeqAt.shaped x && SeqAt.shaped y then some (PyData.eqv x y) else none
  | _, _ => none
def flatD : D → Bool
  | .non | .bl _ | .int _ | .str _ => true
  | _ => false

inductive Bop where
  | add | sub | mul | fdiv | mod | pow
  deriving DecidableEq
inductive Cop where
  | eq | ne | lt | le | gt | ge | isn | notn | in_ | notin
  deriving DecidableEq

def binD : Bop → D → D → Option D
  | .add, .int i, .int j => some (.int (i + j))
  | .add, .str x, .str y => if x.length + y.length ≤ lineN then some (.str (x ++ y)) else none
  | .add, .lst x, .lst y => if x.length + y.length ≤ lineN then some (.lst (x ++ y)) else none
  | .add, .tup x, .tup y => if x.length + y.length ≤ lineN then some (.tup (x ++ y)) else none
  | .sub, .int i, .int j => some (.int (i - j))
  | .mul, .int i, .int j => if (-(2 ^ 64) < i ∧ i < 2 ^ 64) ∨ (-(2 ^ 64) < j ∧ j < 2 ^ 64) then some (.int (i * j)) else none
  | .mul, .lst x, .int j => if 0 ≤ j ∧ j < 2 ^ 62 ∧ x.length * j.toNat ≤ lineN then some (.lst (List.replicate j.toNat x).flatten) else none
  | .mul, .tup x, .int j => if 2 ≤ j ∧ j ≤ 1000 ∧ x.length ≤ 1000 ∧ x.length ≠ 0 then some (.tupU (List.replicate j.toNat x).flatten) else none
  | .fdiv, .int i, .int j => if 0 < j ∧ j < 1073741824 then some (.int (i / j)) else none
  | .mod, .int i, .int j => if 0 < j then some (.int (i % j)) else none
  | .pow, .int i, .int j => if 0 ≤ j ∧ j ≤ 1000000 ∧ i.natAbs < 2 ^ 64 then some (.int (i ^ j.toNat)) else none
  | _, _, _ => none

/-- < of names, of numbers, of rows of both, element by element -/
def ltS (x y : Str) : Bool := decide (x.cps.toList < y.cps.toList)

/-- items of a thing that is walked -/
def itemsD : D → Option (List D)
  | .tup xs => some xs
  | .lst xs => some xs
  | .str x => some (x.cps.toList.map fun c => .str ⟨#[c]⟩)
  | _ => none

def lstD : D → Option (List D)
  | .lst xs => some xs
  | _ => none
/-- what enumerate walks from k on -/
def enumD (k : Int) : D → Option (List D)
  | .lst xs => if k = 0 then some xs else none
  | _ => none

def lookK (kvs : List (Key × D)) (k : Key) : Option D := (kvs.find? fun kv => decide (kv.1 = k)).map (·.2)
def putD (kvs : List (Key × D)) (k : Key) (v : D) : List (Key × D) :=
  if (kvs.any fun kv => decide (kv.1 = k)) then kvs.map fun kv => if kv.1 = k then (kv.1, v) else kv else kvs ++ [(k, v)]

/-- == of flat values -/
def eqF : D → D → Bool
  | .non, .non => true
  | .bl a, .bl b => a == b
  | .bl a, .int b => (if a then 1 else 0) == b
  | .int a, .bl b => a == (if b then 1 else 0)
  | .int a, .int b => a == b
  | .str a, .str b => a == b
  | _, _ => false
def inSeq (x : D) (xs : List D) : Option Bool :=
  if flatD x && xs.all flatD then some (xs.any fun y => eqF y x) else none
def isNon : D → Bool
  | .non => true
  | _ => false

def cmpD : Cop → D → D → Option Bool
  | .eq, a, b => eqD a b
  | .ne, a, b => (eqD a b).map (!·)
  | .lt, .int i, .int j => some (decide (i < j))
  | .le, .int i, .int j => some (decide (i ≤ j))
  | .gt, .int i, .int j => some (decide (j < i))
  | .ge, .int i, .int j => some (decide (j ≤ i))
  | .lt, .str x, .str y => some (ltS x y)
  | .in_, x, .tup ys => inSeq x ys
  | .in_, x, .lst ys => inSeq x ys
  | .in_, .str x, .str y => some (!(Builtin.Str.occurrences y x 0 y.length 1).isEmpty)
  | .in_, x, .dct kvs => (keyD x).map fun k => (lookK kvs k).isSome
  | .notin, x, .tup ys => (inSeq x ys).map (!·)
  | .notin, x, .lst ys => (inSeq x ys).map (!·)
  | .notin, .str x, .str y => some (!(!(Builtin.Str.occurrences y x 0 y.length 1).isEmpty))
  | .notin, x, .dct kvs => (keyD x).map fun k => !(lookK kvs k).isSome
  | .isn, x, .non => some (isNon x)
  | .notn, x, .non => some (!isNon x)
  | _, _, _ => none

/-! ### the language -/
inductive Tg where
  | name (i : Nat) | tup (ts : List Tg)
inductive Blt where
  | len | abs | int_ | str_ | repr | sum | all | any | sorted | tuple | list | dict | sortedSet | ord | isinst (T : String)
  deriving DecidableEq
inductive Bi where
  | sorted | tuple | list | dict
  deriving DecidableEq
inductive Mth where
  | get | join | upper | find | split | startswith
  deriving DecidableEq

mutual
inductive E where
  | const (d : D) | name (i : Nat) | fname (i : Nat)
  | bin (op : Bop) (a b : O) | cmp (op : Cop) (a b : O) | chain (op op2 : Cop) (a b c : E)
  | not (a : O) | neg (a : E) | and (a b : E) | or (a b : E) | ite (c : O) (a b : E)
  | tup (es : Es) | lst (es : Es) | newS (ks : List Key) (es : Es)
  | idx (a : O) (i : E) | slice (a : O) (lo hi : Eo) | rev (a : O)
  | call (f : Nat) (es ks : Es) (perm : List Nat) | callv (a : E) (es : Es)
  | exf (i : Nat) (cs : List Nat)
  /-- an error made; whether it is of some classes; its field -/
  | mkx (c : Nat) (e : E) | isx (a : O) (cs : List Nat) | att (a : E) (cs : List Nat)
  | blt (b : Blt) (os : Os) | bi (b : Bi) (it : It) | meth (m : Mth) (a : O) (os : Os)
  | lc (own : List Nat) (elt : E) (tg : Tg) (it : It) (cond : Oo)
inductive O where
  | e (a : E) | t (i : Nat)
  /-- of these the truth alone is told -/
  | tand (a b : O) | tor (a b : O) | tnot (a : O) | tite (c a b : O)
inductive Es where
  | nil | cons (a : E) (r : Es)
inductive Os where
  | nil | cons (a : O) (r : Os)
inductive Eo where
  | none | some (a : E)
inductive Oo where
  | none | some (a : O)
inductive It where
  | seq (a : E) | range1 (a : E) | range2 (a b : E) | enum (a : E) (k : Int) | zip (a b : E) | items (a : O)
end

inductive Rhs where
  | lst (es : Es) | dct (ks : List Key) (es : Es) | list (o : O) | dict (o : O)
mutual
inductive Sm where
  | asg (t : Tg) (e : E) | mk (i : Nat) (r : Rhs) | par (ps : List (Nat × (E ⊕ Rhs)))
  | tapp (i : Nat) (e : E) | tset (i : Nat) (k v : E) | sset (a k v : E)
  | expr (e : E) | ite (c : O) (a b : Sms) | for_ (t : Tg) (it : It) (b : Sms) | while_ (c : O) (b : Sms)
  | tryE (ret : Bool) (e : E) (i : Nat) (cs : List Nat) (b : Sms)
  | ret (e : E) | brk | cont | pass | raise (c : Nat) (e : E)
  /-- a try whose body sets no name; its clauses, some named, end by return -/
  | tryM (b : Sms) (l : Cls)
inductive Sms where
  | nil | cons (a : Sm) (r : Sms)
inductive Cls where
  | nil | cons (cs : List Nat) (i : Option Nat) (b : Sms) (r : Cls)
end

/-! ### the interpreter -/
abbrev Orc := Nat → List D → List Cell → Res (D × List Cell)

def wipeE (η : Vars) : List Nat → Vars
  | [] => η
  | v :: vs => (wipeE η vs).set v none
mutual
def Tg.put : Tg → D → Vars → Option Vars
  | .name i, d, η => if i < η.length then some (η.set i (some (.val d))) else none
  | .tup ts, .tup ds, η => putAll ts ds η
  | .tup ts, .tupU ds, η => putAll ts ds η
  | .tup _, _, _ => none
def putAll : List Tg → List D → Vars → Option Vars
  | [], [], η => some η
  | t :: ts, d :: ds, η => match t.put d η with
    | some η' => putAll ts ds η'
    | none => none
  | _, _, _ => none
end

def sliceL {α : Type} (xs : List α) (lo hi : Option Int) : List α := (xs.drop (HT.sIx xs.length 0 lo)).take (HT.sIx xs.length xs.length hi - HT.sIx xs.length 0 lo)
def sliceD : D → Option Int → Option Int → Option D
  | .lst xs, lo, hi => some (.lst (sliceL xs lo hi))
  | .tup xs, lo, hi => some (.tup (sliceL xs lo hi))
  | .str x, lo, hi => if x.length ≤ lineN then some (.str (L2.cutS x lo hi)) else none
  | _, _, _ => none
def revD : D → Option D
  | .lst xs => some (.lst xs.reverse)
  | .tup xs => some (.tup xs.reverse)
  | .str x => if x.length ≤ lineN then some (.str ⟨x.cps.toList.reverse.toArray⟩) else none
  | _ => none
def isSeq : D → Bool
  | .lst _ => true
  | .tup _ => true
  | _ => false
/-- of lists and tuples -/
def revQ (d : D) : Option D := if isSeq d = true then revD d else none
def idxD : D → D → Option D
  | .lst xs, .int i => L2.atI xs i
  | .tup xs, .int i => L2.atI xs i
  | .str x, .int i => if x.length ≤ lineN then (L2.atI x.cps.toList i).map fun c => .str ⟨#[c]⟩ else none
  | .dct kvs, k => (keyD k).bind (lookK kvs)
  | _, _ => none

def intsD : List D → Option (List Int)
  | [] => some []
  | .int i :: r => (intsD r).map (i :: ·)
  | _ => none
def boolsD : List D → Option (List Bool)
  | [] => some []
  | .bl b :: r => (boolsD r).map (b :: ·)
  | _ => none
def strsD : List D → Option (List Str)
  | [] => some []
  | .str x :: r => (strsD r).map (x :: ·)
  | _ => none
/-- an order of numbers, of texts, of tuples of such: none where it is not told -/
def ordD : D → D → Option Ordering
  | .int i, .int j => some (compare i j)
  | .str x, .str y => some (if ltS x y then .lt else if ltS y x then .gt else .eq)
  | _, _ => none
def ordT : List D → List D → Option Ordering
  | [], [] => some .eq
  | [], _ :: _ => some .lt
  | _ :: _, [] => some .gt
  | x :: xs, y :: ys => match ordD x y with
    | some .eq => ordT xs ys
    | r => r
/-- the name of a value's type -/
def tyD : D → Option String
  | .non => some "NoneType"
  | .bl _ => some "bool"
  | .int _ => some "int"
  | .str _ => some "str"
  | .tup _ => some "tuple"
  | .lst _ => some "list"
  | .dct _ => some "dict"
  | _ => none
def isInst (T : String) (d : D) : Option Bool :=
  if T = "int" ∨ T = "bool" ∨ T = "str" ∨ T = "tuple" ∨ T = "list" ∨ T = "dict" then (tyD d).map fun t => decide (t = T) || (decide (T = "int") && decide (t = "bool")) else none

def pairsD : List D → Option (List (Key × D))
  | [] => some []
  | .tup [k, v] :: r => match keyD k, pairsD r with
    | some k, some r => some ((k, v) :: r)
    | _, _ => none
  | _ => none
def mergeD (kvs more : List (Key × D)) : List (Key × D) := more.foldl (fun acc kv => putD acc kv.1 kv.2) kvs
def dictOf : D → Option (List (Key × D))
  | .lst xs => (pairsD xs).map (mergeD [])
  | .tup xs => (pairsD xs).map (mergeD [])
  | .dct kvs => some kvs
  | _ => none
def listOf : D → Option (List D)
  | .lst xs => some xs
  | .tup xs => some xs
  | .dct kvs => some (kvs.map fun kv => dK kv.1)
  | _ => none

/-- sorting: by insertion, equal ones in their order -/
def insB {α : Type} (lt : α → α → Bool) (y : α) : List α → List α
  | [] => [y]
  | x :: r => if lt y x = true then y :: x :: r else x :: insB lt y r
def isort {α : Type} (lt : α → α → Bool) (l : List α) : List α := l.foldl (fun acc y => insB lt y acc) []
/-- what a thing is sorted by -/
def keysD : D → List Key
  | .int i => [.inl i]
  | .str x => [.inr x]
  | .tup xs => xs.filterMap keyD
  | .tupU xs => xs.filterMap keyD
  | _ => []
def ltK : Key → Key → Bool
  | .inl i, .inl j => decide (i < j)
  | .inr x, .inr y => ltS x y
  | .inl _, .inr _ => true
  | .inr _, .inl _ => false
def ltKs : List Key → List Key → Bool
  | [], [] => false
  | [], _ :: _ => true
  | _ :: _, [] => false
  | a :: r, b :: t => if a = b then ltKs r t else ltK a b
def ltD (a b : D) : Bool := ltKs (keysD a) (keysD b)
def isInt : D → Bool
  | .int _ => true
  | _ => false
def isStr : D → Bool
  | .str _ => true
  | _ => false
/-- a tuple of numbers and texts, the first as told -/
def isRow (n : Nat) (sig : List Bool) : D → Bool
  | .tup xs => xs.all (fun d => (keyD d).isSome) && decide (xs.map isStr = sig)
  | .tupU xs => xs.all (fun d => (keyD d).isSome) && decide (xs.map isStr = sig)
  | _ => false
def sigOf : List D → List Bool
  | .tup xs :: _ => xs.map isStr
  | .tupU xs :: _ => xs.map isStr
  | _ => []
def sortOk (ds : List D) : Bool := ds.all isInt || ds.all isStr || (!(sigOf ds).isEmpty && ds.all (isRow 0 (sigOf ds)))
def sortKeys (ds : List D) : Option (List D) := if sortOk ds then some (isort ltD ds) else none

def lenD : D → Option D
  | .str x => if x.length ≤ lineN then some (.int x.length) else none
  | .tup xs => some (.int xs.length)
  | .lst xs => some (.int xs.length)
  | .dct xs => some (.int xs.length)
  | _ => none
def absD : D → Option D
  | .int i => some (.int (if i < 0 then -i else i))
  | _ => none
def intD : D → Option D
  | .int i => some (.int i)
  | .bl b => some (.int (if b then 1 else 0))
  | _ => none
def strD : D → Option D
  | .int i => if i.natAbs.log2 < 1920 then some (.str (toString i)) else none
  | .str x => some (.str x)
  | _ => none
def reprD (d : D) : Option D := (d.py).bind fun p => if p.showable && decide (p.shown.length ≤ lineN) && decide (p.depth ≤ 60) then some (.str p.shown) else none
def sumD : D → Option D
  | .lst xs => (intsD xs).map fun ns => .int ns.sum
  | _ => none
def allD : D → Option D
  | .lst xs => (boolsD xs).map fun bs => .bl (bs.all id)
  | _ => none
def anyD : D → Option D
  | .lst xs => (boolsD xs).map fun bs => .bl (bs.any id)
  | _ => none
def sortedD : D → Option D
  | .lst xs => (sortKeys xs).map .lst
  | .tup xs => (sortKeys xs).map .lst
  | _ => none
/-- the texts met, each once, the last first -/
def oncS (acc : List Str) (k : Str) : List Str := if k ∈ acc then acc else k :: acc
def onces (xs : List Str) : List Str := xs.foldl oncS []
/-- a list of texts, sorted, each once -/
def sortedSetD : D → Option D
  | .lst xs => (strsD xs).bind fun zs => if zs.length ≤ 1000 then some (.lst (isort ltD ((onces zs).map .str))) else none
  | _ => none
def tupleD : D → Option D
  | .lst xs => some (.tup xs)
  | .tup xs => some (.tup xs)
  | _ => none
def ordD1 : D → Option D
  | .str x => if x.length = 1 then some (.int ((x.cps.getD 0 0 : Nat) : Int)) else none
  | _ => none
/-- a built-in of one seen value -/
def blt1 : Blt → D → Option D
  | .len => lenD
  | .abs => absD
  | .int_ => intD
  | .str_ => strD
  | .repr => reprD
  | .sum => sumD
  | .all => allD
  | .any => anyD
  | .sorted => sortedD
  | .tuple => tupleD
  | .list => fun d => (listOf d).map .lst
  | .dict => fun d => (dictOf d).map .dct
  | .ord => ordD1
  | .isinst T => fun d => (isInst T d).map .bl
  | .sortedSet => sortedSetD
def bltD (b : Blt) : List D → Option D
  | [d] => blt1 b d
  | _ => none
def biD : Bi → List D → Option D
  | .sorted, xs => (sortKeys xs).map .lst
  | _, _ => none
/-- whose method it is -/
def mOk : Mth → D → Bool
  | .get, .dct _ => true
  | .get, _ => false
  | _, .str _ => true
  | _, _ => false
/-- no list, no dict -/
def stillD : D → Bool
  | .lst _ => false
  | .dct _ => false
  | _ => true
def getD2 : D → List D → Option D
  | .dct kvs, [k, x] => if stillD x then (keyD k).map fun k => (lookK kvs k).getD x else none
  | _, _ => none
def joinD : D → List D → Option D
  | .str a, [.lst ys] => (strsD ys).bind fun zs => if (zs.map (·.length)).sum + zs.length * a.length ≤ lineN then some (.str (Txt.join a zs)) else none
  | _, _ => none
def upperD : D → List D → Option D
  | .str a, [] => if a.length ≤ 5592405 then some (.str (Txt.upper a)) else none
  | _, _ => none
def findD : D → List D → Option D
  | .str a, [.str b] => some (.int (Txt.find a b))
  | .str a, [.str b, .int i] => some (.int (Txt.find3 a b i))
  | _, _ => none
def splitD : D → List D → Option D
  | .str a, [.str b] => if b.length ≠ 0 ∧ a.length + 2 ≤ lineN then some (.lst ((Txt.split a b).map .str)) else none
  | .str a, [.str b, .int k] => if b.length ≠ 0 ∧ -(2 ^ 63) ≤ k ∧ k < 2 ^ 63 ∧ a.length + 2 ≤ lineN then some (.lst ((Txt.splitMax a b k).map .str)) else none
  | _, _ => none
def startsD : D → List D → Option D
  | .str a, [.str b] => some (.bl (Txt.startswith a b))
  | _, _ => none
def methD : Mth → D → List D → Option D
  | .get => getD2
  | .join => joinD
  | .upper => upperD
  | .find => findD
  | .split => splitD
  | .startswith => startsD

/-- an error does not leave a comprehension -/
def Res.nox {α : Type} : Res α → Res α
  | .ok a => .ok a
  | _ => .bad
/-- a comprehension's turns -/
def lcGo (put : D → Option Vars) (test : Vars → Sto → Res (Bool × Sto)) (elt : Vars → Sto → Res (D × Sto)) : List D → List D → Sto → Res (D × Sto)
  | [], acc, Z => .ok (.lst acc, Z)
  | x :: xs, acc, Z => match put x with
    | none => .bad
    | some η' => do
      let (keep, Z) ← (test η' Z).nox
      if keep then
        let (y, Z) ← (elt η' Z).nox
        if acc.length < lineN then lcGo put test elt xs (acc ++ [y]) Z else .bad
      else lcGo put test elt xs acc Z

/-- the arguments in the parameters' order -/
def permD {α : Type} (perm : List Nat) (ds : List α) : List α := if perm.isEmpty then ds else perm.filterMap fun i => ds[i]?

section
variable (C : Orc)
mutual
def ev : E → Vars → Sto → Res (D × Sto)
  | .const d, _, Z => .ok (d, Z)
  | .name i, η, Z => match η[i]? with
    | some (some (.val d)) => .ok (d, Z)
    | _ => .bad
  | .fname i, η, Z => match η[i]? with
    | some (some (.val d)) => .ok (d, Z)
    | some (some (.tmp k)) => Z.fix k
    | _ => .bad
  | .bin op a b, η, Z => do
    let (x, Z) ← evO a η Z
    let (y, Z) ← evO b η Z
    let x ← .opt (Z.see x)
    let y ← .opt (Z.see y)
    let r ← .opt (binD op x y)
    .ok (r, Z)
  | .cmp op a b, η, Z => do
    let (x, Z) ← evO a η Z
    let (y, Z) ← evO b η Z
    let x ← .opt (Z.see x)
    let y ← .opt (Z.see y)
    let r ← .opt (cmpD op x y)
    .ok (.bl r, Z)
  | .chain op op2 a b c, η, Z => do
    let (x, Z) ← ev a η Z
    let (y, Z) ← ev b η Z
    let r ← .opt (cmpD op x y)
    if r then
      let (z, Z) ← ev c η Z
      let r ← .opt (cmpD op2 y z)
      .ok (.bl r, Z)
    else .ok (.bl false, Z)
  | .not a, η, Z => do
    let (x, Z) ← evO a η Z
    let b ← .opt (Z.tru x)
    .ok (.bl (!b), Z)
  | .neg a, η, Z => do
    let (x, Z) ← ev a η Z
    match x with
    | .int i => .ok (.int (-i), Z)
    | _ => .bad
  | .and a b, η, Z => do
    let (x, Z) ← ev a η Z
    let t ← .opt (Z.tru (.v x))
    if t then ev b η Z else .ok (x, Z)
  | .or a b, η, Z => do
    let (x, Z) ← ev a η Z
    let t ← .opt (Z.tru (.v x))
    if t then .ok (x, Z) else ev b η Z
  | .ite c a b, η, Z => do
    let (x, Z) ← evO c η Z
    let t ← .opt (Z.tru x)
    if t then ev a η Z else ev b η Z
  | .tup es, η, Z => do
    let (ds, Z) ← evs es η Z
    if lenOk ds then .ok (.tup ds, Z) else .bad
  | .lst es, η, Z => do
    let (ds, Z) ← evs es η Z
    if lenOk ds then .ok (.lst ds, Z) else .bad
  | .newS ks es, η, Z => do
    let (ds, Z) ← evs es η Z
    if ks.length = ds.length ∧ ks.length ≤ 15 then .ok (.loc Z.S.length, { Z with S := Z.S ++ [.dct (mergeD [] (ks.zip ds))] }) else .bad
  | .idx a i, η, Z => do
    let (x, Z) ← evO a η Z
    let (y, Z) ← ev i η Z
    let x ← .opt (Z.see x)
    let r ← .opt (idxD x y)
    .ok (r, Z)
  | .slice a lo hi, η, Z => do
    let (x, Z) ← evO a η Z
    let (i, Z) ← evEo lo η Z
    let (j, Z) ← evEo hi η Z
    let x ← .opt (Z.see x)
    let r ← .opt (sliceD x i j)
    .ok (r, Z)
  | .rev a, η, Z => do
    let (x, Z) ← evO a η Z
    let x ← .opt (Z.see x)
    let r ← .opt (revQ x)
    .ok (r, Z)
  | .call f es ks perm, η, Z => do
    let (ds, Z) ← evs es η Z
    let (ks, Z) ← evs ks η Z
    match C f (permD perm (ds ++ ks)) Z.S with
    | .ok (d, S) => .ok (d, { Z with S := S })
    | .exn c d Z' => .exn c d { Z with S := Z'.S }
    | .bad => .bad
  | .callv a es, η, Z => do
    let (x, Z) ← ev a η Z
    let (ds, Z) ← evs es η Z
    match x with
    | .fn f => match C f ds Z.S with
      | .ok (d, S) => .ok (d, { Z with S := S })
      | .exn c d Z' => .exn c d { Z with S := Z'.S }
      | .bad => .bad
    | _ => .bad
  | .exf i cs, η, Z => match η[i]? with
    | some (some (.exc c d)) => if cs.contains c then .ok (d, Z) else .bad
    | _ => .bad
  | .mkx c e, η, Z => do
    let (d, Z) ← ev e η Z
    .ok (.exc c d, Z)
  | .isx a cs, η, Z => do
    let (x, Z) ← evO a η Z
    let x ← .opt (Z.see x)
    match x with
    | .exc c _ => .ok (.bl (cs.contains c), Z)
    | _ => .bad
  | .att a cs, η, Z => do
    let (x, Z) ← ev a η Z
    match x with
    | .exc c d => if cs.contains c then .ok (d, Z) else .bad
    | _ => .bad
  | .blt b os, η, Z => do
    let (xs, Z) ← evOs os η Z
    let ds ← .opt (xs.mapM Z.see)
    let r ← .opt (bltD b ds)
    .ok (r, Z)
  | .bi b it, η, Z => do
    let (xs, Z) ← evIt it η Z
    let r ← .opt (biD b xs)
    .ok (r, Z)
  | .meth m a os, η, Z => do
    let (x, Z) ← evO a η Z
    let x0 ← .opt (Z.see x)
    if mOk m x0 then do
      let (xs, Z) ← evOs os η Z
      let x ← .opt (Z.see x)
      let ds ← .opt (xs.mapM Z.see)
      let r ← .opt (methD m x ds)
      .ok (r, Z)
    else .bad
  | .lc own elt tg it cond, η, Z => do
    let (items, Z) ← evIt it η Z
    lcGo (fun x => tg.put x (wipeE η own)) (fun η' Z => evOo cond η' Z) (fun η' Z => ev elt η' Z) items [] Z
def evO : O → Vars → Sto → Res (Ov × Sto)
  | .e a, η, Z => do
    let (d, Z) ← ev a η Z
    .ok (.v d, Z)
  | .t i, η, Z => match η[i]? with
    | some (some (.val d)) => .ok (.v d, Z)
    | some (some (.tmp k)) => .ok (.t k, Z)
    | _ => .bad
  | .tand a b, η, Z => do
    let (x, Z) ← evO a η Z
    let t ← .opt (Z.tru x)
    if t then do
      let (y, Z) ← evO b η Z
      let u ← .opt (Z.tru y)
      .ok (.v (.bl u), Z)
    else .ok (.v (.bl false), Z)
  | .tor a b, η, Z => do
    let (x, Z) ← evO a η Z
    let t ← .opt (Z.tru x)
    if t then .ok (.v (.bl true), Z) else do
      let (y, Z) ← evO b η Z
      let u ← .opt (Z.tru y)
      .ok (.v (.bl u), Z)
  | .tnot a, η, Z => do
    let (x, Z) ← evO a η Z
    let t ← .opt (Z.tru x)
    .ok (.v (.bl (!t)), Z)
  | .tite c a b, η, Z => do
    let (x, Z) ← evO c η Z
    let t ← .opt (Z.tru x)
    if t then do
      let (y, Z) ← evO a η Z
      let u ← .opt (Z.tru y)
      .ok (.v (.bl u), Z)
    else do
      let (y, Z) ← evO b η Z
      let u ← .opt (Z.tru y)
      .ok (.v (.bl u), Z)
def evs : Es → Vars → Sto → Res (List D × Sto)
  | .nil, _, Z => .ok ([], Z)
  | .cons a r, η, Z => do
    let (x, Z) ← ev a η Z
    let (xs, Z) ← evs r η Z
    .ok (x :: xs, Z)
def evOs : Os → Vars → Sto → Res (List Ov × Sto)
  | .nil, _, Z => .ok ([], Z)
  | .cons a r, η, Z => do
    let (x, Z) ← evO a η Z
    let (xs, Z) ← evOs r η Z
    .ok (x :: xs, Z)
def evEo : Eo → Vars → Sto → Res (Option Int × Sto)
  | .none, _, Z => .ok (none, Z)
  | .some a, η, Z => do
    let (x, Z) ← ev a η Z
    match x with
    | .int i => .ok (some i, Z)
    | _ => .bad
def evOo : Oo → Vars → Sto → Res (Bool × Sto)
  | .none, _, Z => .ok (true, Z)
  | .some a, η, Z => do
    let (x, Z) ← evO a η Z
    let b ← .opt (Z.tru x)
    .ok (b, Z)
def evIt : It → Vars → Sto → Res (List D × Sto)
  | .seq a, η, Z => do
    let (x, Z) ← ev a η Z
    let xs ← .opt (itemsD x)
    .ok (xs, Z)
  | .range1 a, η, Z => do
    let (x, Z) ← ev a η Z
    match x with
    | .int n => if n < 2 ^ 62 ∧ -(2 ^ 62) ≤ n then .ok ((List.range n.toNat).map fun k => .int (k : Nat), Z) else .bad
    | _ => .bad
  | .range2 a b, η, Z => do
    let (x, Z) ← ev a η Z
    let (y, Z) ← ev b η Z
    match x, y with
    | .int m, .int n => if n < 2 ^ 62 ∧ -(2 ^ 62) ≤ n ∧ m < 2 ^ 62 ∧ -(2 ^ 62) ≤ m then .ok ((List.range (n - m).toNat).map fun k => .int (m + (k : Nat)), Z) else .bad
    | _, _ => .bad
  | .enum a k, η, Z => do
    let (x, Z) ← ev a η Z
    let xs ← .opt (enumD k x)
    .ok (xs.mapIdx fun i d => .tupU [.int (k + (i : Nat)), d], Z)
  | .zip a b, η, Z => do
    let (x, Z) ← ev a η Z
    let (y, Z) ← ev b η Z
    let xs ← .opt (lstD x)
    let ys ← .opt (lstD y)
    .ok ((xs.zip ys).map fun p => .tupU [p.1, p.2], Z)
  | .items a, η, Z => do
    let (x, Z) ← evO a η Z
    match Z.see x with
    | some (.dct kvs) => .ok (kvs.map fun kv => .tupU [dK kv.1, kv.2], Z)
    | _ => .bad
end

def noExc (η : Vars) : Bool := η.all fun
  | some (.exc _ _) => false
  | _ => true
inductive Flow where
  | next | brk | cont | ret (d : D)

/-- a for's turns -/
def forGo (put : D → Vars → Option Vars) (body : Vars → Sto → Res (Flow × Vars × Sto)) : List D → Vars → Sto → Res (Flow × Vars × Sto)
  | [], η, Z => .ok (.next, η, Z)
  | x :: xs, η, Z => match put x η with
    | none => .bad
    | some η => match body η Z with
      | .ok (.next, η, Z) => forGo put body xs η Z
      | .ok (.cont, η, Z) => forGo put body xs η Z
      | .ok (.brk, η, Z) => .ok (.next, η, Z)
      | .ok (.ret d, η, Z) => .ok (.ret d, η, Z)
      | .exn c d Z => .exn c d Z
      | .bad => .bad
/-- a while's turns -/
def whGo (test : Vars → Sto → Res (Bool × Sto)) (body : Vars → Sto → Res (Flow × Vars × Sto)) : Nat → Vars → Sto → Res (Flow × Vars × Sto)
  | 0, _, _ => .bad
  | n + 1, η, Z => match test η Z with
    | .ok (false, Z) => .ok (.next, η, Z)
    | .ok (true, Z) => match body η Z with
      | .ok (.next, η, Z) => whGo test body n η Z
      | .ok (.cont, η, Z) => whGo test body n η Z
      | .ok (.brk, η, Z) => .ok (.next, η, Z)
      | .ok (.ret d, η, Z) => .ok (.ret d, η, Z)
      | .exn c d Z => .exn c d Z
      | .bad => .bad
    | .exn c d Z => .exn c d Z
    | .bad => .bad
def whFuel : Nat := 1000000

/-- a made thing that a name will change -/
def evR : Rhs → Vars → Sto → Res (Cell × Sto)
  | .lst es, η, Z => do
    let (ds, Z) ← evs C es η Z
    if lenOk ds then .ok (.lst ds, Z) else .bad
  | .dct ks es, η, Z => do
    let (ds, Z) ← evs C es η Z
    if ks.length = ds.length ∧ ks.length ≤ 15 then .ok (.dct (mergeD [] (ks.zip ds)), Z) else .bad
  | .list o, η, Z => do
    let (x, Z) ← evO C o η Z
    let x ← .opt (Z.see x)
    let xs ← .opt (listOf x)
    .ok (.lst xs, Z)
  | .dict o, η, Z => do
    let (x, Z) ← evO C o η Z
    let x ← .opt (Z.see x)
    let xs ← .opt (dictOf x)
    .ok (.dct xs, Z)
def evPar : List (Nat × (E ⊕ Rhs)) → Vars → Sto → Res (List (Nat × Slot) × Sto)
  | [], _, Z => .ok ([], Z)
  | (i, .inl e) :: r, η, Z => do
    let (d, Z) ← ev C e η Z
    let (ss, Z) ← evPar r η Z
    .ok ((i, .val d) :: ss, Z)
  | (i, .inr q) :: r, η, Z => do
    let (c, Z1) ← evR C q η Z
    let (ss, Z2) ← evPar r η { Z1 with T := Z1.T ++ [c] }
    .ok ((i, .tmp Z1.T.length) :: ss, Z2)
def setAll : List (Nat × Slot) → Vars → Option Vars
  | [], η => some η
  | (i, s) :: r, η => if i < η.length then setAll r (η.set i (some s)) else none

def putCell : Cell → D → D → Option Cell
  | .dct kvs, k, v => (keyD k).bind fun k => if kvs.length < lineN then some (.dct (putD kvs k v)) else none
  | .lst xs, .int i, v => if 0 ≤ i ∧ i.toNat < xs.length then some (.lst (xs.set i.toNat v)) else none
  | _, _, _ => none

mutual
def ex : Sm → Vars → Sto → Res (Flow × Vars × Sto)
  | .asg t e, η, Z => do
    let (d, Z) ← ev C e η Z
    let η ← .opt (t.put d η)
    .ok (.next, η, Z)
  | .mk i r, η, Z => do
    let (c, Z) ← evR C r η Z
    if i < η.length then .ok (.next, η.set i (some (.tmp Z.T.length)), { Z with T := Z.T ++ [c] }) else .bad
  | .par ps, η, Z => do
    let (ss, Z) ← evPar C ps η Z
    let η ← .opt (setAll ss η)
    .ok (.next, η, Z)
  | .tapp i e, η, Z => match η[i]? with
    | some (some (.tmp k)) => match Z.T[k]? with
      | some (.lst _) => do
        let (d, Z) ← ev C e η Z
        match Z.T[k]? with
        | some (.lst xs) => if xs.length < lineN then .ok (.next, η, { Z with T := Z.T.set k (.lst (xs ++ [d])) }) else .bad
        | _ => .bad
      | _ => .bad
    | _ => .bad
  | .tset i k v, η, Z => do
    let (v, Z) ← ev C v η Z
    match η[i]? with
    | some (some (.tmp j)) => do
      let (k, Z) ← ev C k η Z
      match Z.T[j]? with
      | some c => do
        let c ← .opt (putCell c k v)
        .ok (.next, η, { Z with T := Z.T.set j c })
      | none => .bad
    | _ => .bad
  | .sset a k v, η, Z => do
    let (v, Z) ← ev C v η Z
    let (a, Z) ← ev C a η Z
    let (k, Z) ← ev C k η Z
    match a with
    | .loc j => match Z.S[j]? with
      | some c => do
        let c ← .opt (putCell c k v)
        .ok (.next, η, { Z with S := Z.S.set j c })
      | none => .bad
    | _ => .bad
  | .expr e, η, Z => do
    let (_, Z) ← ev C e η Z
    .ok (.next, η, Z)
  | .ite c a b, η, Z => do
    let (t, Z) ← evOo C (.some c) η Z
    if t then exs a η Z else exs b η Z
  | .for_ t it b, η, Z => do
    let (xs, Z) ← evIt C it η Z
    forGo (fun x η => t.put x η) (fun η Z => exs b η Z) xs η Z
  | .while_ c b, η, Z =>
    whGo (fun η Z => evOo C (.some c) η Z) (fun η Z => exs b η Z) whFuel η Z
  | .tryE ret e i cs b, η, Z => match ev C e η Z with
    | .ok (d, Z) => if ret then .ok (.ret d, η, Z) else .ok (.next, η, Z)
    | .exn c d Z => if cs.contains c then
        if i < η.length ∧ noExc η = true then match exs b (η.set i (some (.exc c d))) Z with
          | .ok (.ret d, η, Z) => .ok (.ret d, η, Z)
          | .ok (.next, η, Z) => if noExc (η.set i none) then .ok (.next, η.set i none, Z) else .bad
          | _ => .bad
        else .bad
      else .exn c d Z
    | .bad => .bad
  | .ret e, η, Z => do
    let (d, Z) ← ev C e η Z
    .ok (.ret d, η, Z)
  | .brk, η, Z => .ok (.brk, η, Z)
  | .cont, η, Z => .ok (.cont, η, Z)
  | .pass, η, Z => .ok (.next, η, Z)
  | .raise c e, η, Z => do
    let (d, Z) ← ev C e η Z
    .exn c d Z
  | .tryM b l, η, Z => match exs b η Z with
    | .ok (.next, η', Z) => .ok (.next, η', Z)
    | .ok (.ret d, η', Z) => .ok (.ret d, η', Z)
    | .exn c d Z => if noExc η = true then exC l c d η Z else .bad
    | _ => .bad
def exs : Sms → Vars → Sto → Res (Flow × Vars × Sto)
  | .nil, η, Z => .ok (.next, η, Z)
  | .cons a r, η, Z => match ex a η Z with
    | .ok (.next, η, Z) => exs r η Z
    | r => r
def exC : Cls → Nat → D → Vars → Sto → Res (Flow × Vars × Sto)
  | .nil, c, d, _, Z => .exn c d Z
  | .cons cs none b r, c, d, η, Z => if cs.contains c then
      match exs b η Z with
      | .ok (.ret d, η, Z) => .ok (.ret d, η, Z)
      | _ => .bad
    else exC r c d η Z
  | .cons cs (some i) b r, c, d, η, Z => if cs.contains c then
      if i < η.length then match exs b (η.set i (some (.exc c d))) Z with
        | .ok (.ret d, η, Z) => .ok (.ret d, η, Z)
        | _ => .bad
      else .bad
    else exC r c d η Z
end

/-- a def: how many parameters, how many names, its body -/
structure Fn where
  ar : Nat
  n : Nat
  body : Sms
def Fn.start (fn : Fn) (ds : List D) : Vars := (ds.map fun d => some (Slot.val d)) ++ List.replicate (fn.n - ds.length) none
def Fn.run (fn : Fn) (ds : List D) (S : List Cell) : Res (D × List Cell) :=
  if ds.length = fn.ar then
    match exs C fn.body (fn.start ds) ⟨S, []⟩ with
    | .ok (.ret d, _, Z) => .ok (d, Z.S)
    | .ok (.next, _, Z) => .ok (.non, Z.S)
    | .exn c d Z => .exn c d Z
    | _ => .bad
  else .bad
end
/-- calls to the depth n -/
def callN (tab : List Fn) : Nat → Orc
  | 0 => fun _ _ _ => .bad
  | n + 1 => fun f ds S => match tab[f]? with
    | some fn => fn.run (callN tab n) ds S
    | none => .bad
end Py
end
section
set_option Elab.async false
set_option linter.all false
set_option maxRecDepth 100000
set_option maxHeartbeats 4000000
/-! PyB: how plain data stands for values over the abstract heap. -/
namespace Py
open PySem PySem.Spec L2

/-- what the written part says: where the defs and the error classes stand -/
structure Pg where
  K : PySem.W.Frag
  fa : Nat → Addr → Prop
  ca : Nat → Addr → Prop
  fld : Nat → Str
  /-- the error that is in hand: its object, its class, its dict -/
  cur : Addr → Nat → Addr → Prop

/-- F: what changes no more; ρ, τ: where the cells stand -/
structure Lk where
  F : Hp
  ρ : List Addr
  τ : List Addr

/-- a tuple as an object that has no dict of its own -/
def SqN (K : PySem.W.Frag) (F : Hp) (a : Addr) (xs : List V) : Prop :=
  (∃ o : Obj, F a = some (.frz o (.tup xs)) ∧ o.dict = none) ∨
    ∃ (o : Obj) (its : Array Value) (n : Nat), K.lookup a = some o ∧ o.dict = none ∧ o.cls = .type "tuple" ∧ o.data = .seq its n ∧ its.size ≤ sizeLine ∧ Vals xs its.toList
theorem SqN.sq {K : PySem.W.Frag} {F : Hp} {a : Addr} {xs : List V} (h : SqN K F a xs) : SqT K F a xs := by
  rcases h with ⟨o, h, _⟩ | ⟨o, its, n, h1, _, h2⟩
  · exact .inl (.inr ⟨o, h⟩)
  · exact .inr ⟨o, its, n, h1, h2⟩
theorem SqN.mono {K : PySem.W.Frag} {F F' : Hp} {a : Addr} {xs : List V} (k : ∀ o, F a = some o → F' a = some o) (h : SqN K F a xs) : SqN K F' a xs := by
  rcases h with ⟨o, h, d⟩ | h
  · exact .inl ⟨o, k _ h, d⟩
  · exact .inr h
/-- an error as a value: its object -/
def exH (C e δ : Addr) : HO := .ext fun h => ∃ oe vs, h.get? e = some oe ∧ oe.cls = .ref C ∧ oe.dict = some δ ∧ oe.data = .fields vs
section
variable (G : Pg) (L : Lk)
mutual
def Rep : D → V → Prop
  | .non, v => v = .non
  | .bl b, v => v = .bl b
  | .int i, v => v = .int i
  | .str x, v => v = .str x
  | .tup ds, v => ∃ p vs, v = .ref p ∧ SqN G.K L.F p vs ∧ RepL ds vs
  | .tupU ds, v => ∃ p vs, v = .ref p ∧ SqT G.K L.F p vs ∧ RepL ds vs
  | .lst ds, v => ∃ p vs, v = .ref p ∧ Rd L.F p (.lst vs) ∧ RepL ds vs
  | .dct kvs, v => ∃ p ws, v = .ref p ∧ Rd L.F p (.dK ws) ∧ RepK kvs ws
  | .fn f, v => ∃ a, v = .ref a ∧ G.fa f a
  | .exc c d, v => ∃ C e δ w, v = .ref e ∧ G.ca c C ∧ L.F e = some (exH C e δ) ∧ Rd L.F δ (.xd [(G.fld c, w)]) ∧ Rep d w
  | .loc k, v => ∃ a, L.ρ[k]? = some a ∧ v = .ref a
def RepL : List D → List V → Prop
  | [], vs => vs = []
  | d :: ds, vs => ∃ v r, vs = v :: r ∧ Rep d v ∧ RepL ds r
def RepK : List (Key × D) → List (Key × V) → Prop
  | [], vs => vs = []
  | (k, d) :: ds, vs => ∃ v r, vs = (k, v) :: r ∧ Rep d v ∧ RepK ds r
end
end

/-- L' knows at least what L does -/
structure Lle (L L' : Lk) : Prop where
  Fx : ∀ a o, L.F a = some o → L'.F a = some o
  ρ : ∃ r, L'.ρ = L.ρ ++ r
  τ : ∃ r, L'.τ = L.τ ++ r
theorem Lle.F {L L' : Lk} (l : Lle L L') : ∀ a u, Rd L.F a u → Rd L'.F a u := fun a u h => by
  rcases h with h | ⟨o, h⟩
  · exact .inl (l.Fx a _ h)
  · exact .inr ⟨o, l.Fx a _ h⟩
theorem Lle.refl (L : Lk) : Lle L L := ⟨fun _ _ h => h, ⟨[], by simp⟩, ⟨[], by simp⟩⟩
theorem Lle.trans {L L1 L2 : Lk} (a : Lle L L1) (b : Lle L1 L2) : Lle L L2 := by
  refine ⟨fun x u h => b.Fx x u (a.Fx x u h), ?_, ?_⟩
  · obtain ⟨r, e⟩ := a.ρ; obtain ⟨r', e'⟩ := b.ρ; exact ⟨r ++ r', by rw [e', e, List.append_assoc]⟩
  · obtain ⟨r, e⟩ := a.τ; obtain ⟨r', e'⟩ := b.τ; exact ⟨r ++ r', by rw [e', e, List.append_assoc]⟩
theorem pre_get {α : Type} {l l' : List α} {k : Nat} {a : α} (h : ∃ r, l' = l ++ r) (e : l[k]? = some a) : l'[k]? = some a := by
  obtain ⟨r, rfl⟩ := h
  rw [List.getElem?_append_left (List.getElem?_eq_some_iff.mp e).1]; exact e
theorem sqL_mono {K : PySem.W.Frag} {H H' : Hp} {a : Addr} {xs : List V} (h : ∀ u, Rd H a u → Rd H' a u) (s : SqL K H a xs) : SqL K H' a xs := by
  rcases s with s | s
  · exact .inl (h _ s)
  · exact .inr s
theorem sqT_mono {K : PySem.W.Frag} {H H' : Hp} {a : Addr} {xs : List V} (h : ∀ u, Rd H a u → Rd H' a u) (s : SqT K H a xs) : SqT K H' a xs := by
  rcases s with s | s
  · exact .inl (h _ s)
  · exact .inr s
section
variable {G : Pg} {L L' : Lk}
mutual
theorem Rep.mono (l : Lle L L') : ∀ (d : D) (v : V), Rep G L d v → Rep G L' d v
  | .non, _, h => h
  | .bl _, _, h => h
  | .int _, _, h => h
  | .str _, _, h => h
  | .tup ds, v, h => by
    simp only [Rep] at h ⊢
    obtain ⟨p, vs, e, s, r⟩ := h
    exact ⟨p, vs, e, s.mono (l.Fx p), RepL.mono l ds vs r⟩
  | .tupU ds, v, h => by
    simp only [Rep] at h ⊢
    obtain ⟨p, vs, e, s, r⟩ := h
    exact ⟨p, vs, e, sqT_mono (l.F p) s, RepL.mono l ds vs r⟩
  | .lst ds, v, h => by
    simp only [Rep] at h ⊢
    obtain ⟨p, vs, e, s, r⟩ := h
    exact ⟨p, vs, e, l.F p _ s, RepL.mono l ds vs r⟩
  | .dct kvs, v, h => by
    simp only [Rep] at h ⊢
    obtain ⟨p, vs, e, s, r⟩ := h
    exact ⟨p, vs, e, l.F p _ s, RepK.mono l kvs vs r⟩
  | .fn f, v, h => h
  | .exc c d, v, h => by
    simp only [Rep] at h ⊢
    obtain ⟨C, e, δ, w, e1, ca, s1, s2, r⟩ := h
    exact ⟨C, e, δ, w, e1, ca, l.Fx e _ s1, l.F δ _ s2, Rep.mono l d w r⟩
  | .loc k, v, h => by
    simp only [Rep] at h ⊢
    obtain ⟨a, e, r⟩ := h
    exact ⟨a, pre_get l.ρ e, r⟩
theorem RepL.mono (l : Lle L L') : ∀ (ds : List D) (vs : List V), RepL G L ds vs → RepL G L' ds vs
  | [], _, h => h
  | d :: ds, vs, h => by
    simp only [RepL] at h ⊢
    obtain ⟨v, r, e, h1, h2⟩ := h
    exact ⟨v, r, e, Rep.mono l d v h1, RepL.mono l ds r h2⟩
theorem RepK.mono (l : Lle L L') : ∀ (ds : List (Key × D)) (vs : List (Key × V)), RepK G L ds vs → RepK G L' ds vs
  | [], _, h => h
  | (k, d) :: ds, vs, h => by
    simp only [RepK] at h ⊢
    obtain ⟨v, r, e, h1, h2⟩ := h
    exact ⟨v, r, e, Rep.mono l d v h1, RepK.mono l ds r h2⟩
end
theorem RepL.length : ∀ {ds : List D} {vs : List V}, RepL G L ds vs → ds.length = vs.length
  | [], vs, h => by simp only [RepL] at h; subst h; rfl
  | d :: ds, vs, h => by
    simp only [RepL] at h
    obtain ⟨v, r, e, h1, h2⟩ := h
    rw [e, List.length_cons, List.length_cons, RepL.length h2]
theorem RepL.nil : RepL G L [] [] := by simp only [RepL]
theorem RepL.cons {d : D} {v : V} {ds : List D} {vs : List V} (h : Rep G L d v) (r : RepL G L ds vs) : RepL G L (d :: ds) (v :: vs) := by
  simp only [RepL]; exact ⟨v, vs, rfl, h, r⟩
theorem RepL.get : ∀ {ds : List D} {vs : List V} {i : Nat} {d : D}, RepL G L ds vs → ds[i]? = some d → ∃ v, vs[i]? = some v ∧ Rep G L d v
  | [], _, _, _, _, e => by simp at e
  | x :: ds, vs, i, d, h, e => by
    simp only [RepL] at h
    obtain ⟨v, r, rfl, h1, h2⟩ := h
    cases i with
    | zero => simp at e; subst e; exact ⟨v, rfl, h1⟩
    | succ i =>
      obtain ⟨v', e', q⟩ := RepL.get (i := i) (d := d) h2 (by simpa using e)
      exact ⟨v', by simpa using e', q⟩
theorem RepL.append : ∀ {ds es : List D} {vs ws : List V}, RepL G L ds vs → RepL G L es ws → RepL G L (ds ++ es) (vs ++ ws)
  | [], _, vs, _, h, k => by simp only [RepL] at h; subst h; exact k
  | x :: ds, es, vs, ws, h, k => by
    simp only [RepL] at h
    obtain ⟨v, r, rfl, h1, h2⟩ := h
    exact RepL.cons h1 (RepL.append h2 k)
theorem RepL.set : ∀ {ds : List D} {vs : List V} (i : Nat) {d : D} {v : V}, RepL G L ds vs → Rep G L d v → RepL G L (ds.set i d) (vs.set i v)
  | [], vs, _, _, _, h, _ => by simp only [RepL] at h; subst h; exact RepL.nil
  | x :: ds, vs, i, d, v, h, k => by
    simp only [RepL] at h
    obtain ⟨v', r, rfl, h1, h2⟩ := h
    cases i with
    | zero => exact RepL.cons k h2
    | succ i => exact RepL.cons h1 (RepL.set i h2 k)
theorem RepL.take : ∀ {ds : List D} {vs : List V} (n : Nat), RepL G L ds vs → RepL G L (ds.take n) (vs.take n)
  | [], vs, n, h => by simp only [RepL] at h; subst h; simp [RepL]
  | x :: ds, vs, n, h => by
    simp only [RepL] at h
    obtain ⟨v', r, rfl, h1, h2⟩ := h
    cases n with
    | zero => simp [RepL]
    | succ n => exact RepL.cons h1 (RepL.take n h2)
theorem RepL.drop : ∀ {ds : List D} {vs : List V} (n : Nat), RepL G L ds vs → RepL G L (ds.drop n) (vs.drop n)
  | [], vs, n, h => by simp only [RepL] at h; subst h; simp [RepL]
  | x :: ds, vs, n, h => by
    cases n with
    | zero => exact h
    | succ n =>
      simp only [RepL] at h
      obtain ⟨v', r, rfl, h1, h2⟩ := h
      exact RepL.drop n h2
theorem RepL.reverse : ∀ {ds : List D} {vs : List V}, RepL G L ds vs → RepL G L ds.reverse vs.reverse
  | [], vs, h => by simp only [RepL] at h; subst h; exact RepL.nil
  | x :: ds, vs, h => by
    simp only [RepL] at h
    obtain ⟨v', r, rfl, h1, h2⟩ := h
    rw [List.reverse_cons, List.reverse_cons]
    exact (RepL.reverse h2).append (.cons h1 .nil)
end

/-- what L owns of the heap -/
def Own (L : Lk) (a : Addr) : Prop := L.F a ≠ none ∨ a ∈ L.ρ ∨ a ∈ L.τ
def CellOk (G : Pg) (L : Lk) (H : Hp) : Cell → Addr → Prop
  | .lst xs, a => L.F a = none ∧ ∃ vs, H a = some (.lst vs) ∧ RepL G L xs vs
  | .dct kvs, a => L.F a = none ∧ ∃ ws, H a = some (.dK ws) ∧ RepK G L kvs ws
  | .frz d, a => L.F a ≠ none ∧ Rep G L d (.ref a)
structure LOk (G : Pg) (L : Lk) (Z : Sto) (H : Hp) : Prop where
  subx : ∀ a o, L.F a = some o → H a = some o
  lenS : L.ρ.length = Z.S.length
  lenT : L.τ.length = Z.T.length
  nd : (L.ρ ++ L.τ).Nodup
  cS : ∀ (k : Nat) c a, Z.S[k]? = some c → L.ρ[k]? = some a → CellOk G L H c a
  cT : ∀ (k : Nat) c a, Z.T[k]? = some c → L.τ[k]? = some a → CellOk G L H c a
theorem LOk.sub {G : Pg} {L : Lk} {Z : Sto} {H : Hp} (k : LOk G L Z H) : ∀ a u, Rd L.F a u → Rd H a u := fun a u h => by
  rcases h with h | ⟨o, h⟩
  · exact .inl (k.subx a _ h)
  · exact .inr ⟨o, k.subx a _ h⟩
theorem some_ne {F : Hp} {a : Addr} {o : HO} (h : F a = some o) : F a ≠ none := by rw [h]; exact nofun
/-- from (L, H) the state (Z', H') is reached, seen by L' -/
structure Step (G : Pg) (L : Lk) (H : Hp) (L' : Lk) (Z' : Sto) (H' : Hp) : Prop where
  ok : LOk G L' Z' H'
  le : Lle L L'
  out : ∀ a o, H a = some o → ¬ Own L a → H' a = some o ∧ ¬ Own L' a
  keep : ∀ a, H a ≠ none → H' a ≠ none
  new : ∀ a, a ∈ L'.ρ → a ∈ L.ρ ∨ H a = none
section
variable {G : Pg} {L L' L1 L2 : Lk} {Z Z' Z1 Z2 : Sto} {H H' H1 H2 : Hp}
theorem Step.refl (k : LOk G L Z H) : Step G L H L Z H := ⟨k, .refl L, fun _ _ h n => ⟨h, n⟩, fun _ h => h, fun _ h => .inl h⟩
theorem Step.trans (a : Step G L H L1 Z1 H1) (b : Step G L1 H1 L2 Z2 H2) : Step G L H L2 Z2 H2 :=
  ⟨b.ok, a.le.trans b.le, fun x o h n => let ⟨h1, n1⟩ := a.out x o h n; b.out x o h1 n1, fun x h => b.keep x (a.keep x h), fun x h => by
    rcases b.new x h with q | q
    · exact a.new x q
    · right
      cases e : H x with
      | none => rfl
      | some o => exact absurd q (a.keep x (by rw [e]; exact nofun))⟩
theorem rd_some {F : Hp} {a : Addr} {o : HO} (h : F a = some o) : ∃ u, Rd F a u := ⟨o, .inl h⟩
theorem rd_ne {F : Hp} {a : Addr} {u : HO} (h : Rd F a u) : F a ≠ none := by
  rcases h with h | ⟨o, h⟩ <;> (rw [h]; exact nofun)
theorem LOk.Fne (k : LOk G L Z H) {a : Addr} (h : L.F a ≠ none) : H a ≠ none := by
  cases e : L.F a with
  | none => exact absurd e h
  | some o => obtain ⟨u, r⟩ := rd_some e; exact rd_ne (k.sub a u r)
theorem CellOk.ne {c : Cell} {a : Addr} (k : LOk G L Z H) (h : CellOk G L H c a) : H a ≠ none := by
  cases c with
  | lst xs => obtain ⟨_, vs, e, _⟩ := h; rw [e]; exact nofun
  | dct xs => obtain ⟨_, vs, e, _⟩ := h; rw [e]; exact nofun
  | frz d => exact k.Fne h.1
theorem LOk.ρne (k : LOk G L Z H) {a : Addr} (h : a ∈ L.ρ) : H a ≠ none := by
  obtain ⟨i, hi⟩ := List.mem_iff_getElem?.mp h
  have hl := (List.getElem?_eq_some_iff.mp hi).1
  rw [k.lenS] at hl
  exact (k.cS i _ a (List.getElem?_eq_getElem hl) hi).ne k
theorem LOk.τne (k : LOk G L Z H) {a : Addr} (h : a ∈ L.τ) : H a ≠ none := by
  obtain ⟨i, hi⟩ := List.mem_iff_getElem?.mp h
  have hl := (List.getElem?_eq_some_iff.mp hi).1
  rw [k.lenT] at hl
  exact (k.cT i _ a (List.getElem?_eq_getElem hl) hi).ne k
theorem LOk.own_ne (k : LOk G L Z H) {a : Addr} (h : Own L a) : H a ≠ none := by
  rcases h with h | h | h
  · exact k.Fne h
  · exact k.ρne h
  · exact k.τne h
theorem LOk.fresh (k : LOk G L Z H) {a : Addr} (h : H a = none) : ¬ Own L a := fun o => k.own_ne o h
theorem CellOk.mono {c : Cell} {a : Addr} (h : CellOk G L H c a) (l : Lle L L') (hF : L.F a = none → L'.F a = none) (hF' : L.F a ≠ none → L'.F a ≠ none) (hH : H' a = H a) : CellOk G L' H' c a := by
  cases c with
  | lst xs => obtain ⟨n, vs, e, r⟩ := h; exact ⟨hF n, vs, by rw [hH]; exact e, RepL.mono l _ _ r⟩
  | dct xs => obtain ⟨n, vs, e, r⟩ := h; exact ⟨hF n, vs, by rw [hH]; exact e, RepK.mono l _ _ r⟩
  | frz d => exact ⟨hF' h.1, Rep.mono l _ _ h.2⟩
/-- a new object that changes no more -/
def Lk.addF (L : Lk) (p : Addr) (o : HO) : Lk := { L with F := upd L.F p o }
theorem LOk.le_addF (k : LOk G L Z H) {p : Addr} {o : HO} (hp : H p = none) : Lle L (L.addF p o) := by
  refine ⟨fun a u h => ?_, ⟨[], by simp [Lk.addF]⟩, ⟨[], by simp [Lk.addF]⟩⟩
  have ne : a ≠ p := fun e => by subst e; exact k.Fne (some_ne h) hp
  show upd L.F p o a = _
  rw [upd_ne ne]; exact h
theorem LOk.newF (k : LOk G L Z H) {p : Addr} {o : HO} (hp : H p = none) : Step G L H (L.addF p o) Z (upd H p o) := by
  have l := k.le_addF (o := o) hp
  have ne : ∀ {a}, a ∈ L.ρ ++ L.τ → a ≠ p := fun {a} h e => by
    subst e
    rcases List.mem_append.mp h with h | h
    · exact k.ρne h hp
    · exact k.τne h hp
  have cell : ∀ c a, a ∈ L.ρ ++ L.τ → CellOk G L H c a → CellOk G (L.addF p o) (upd H p o) c a := fun c a ha h => by
    have e := ne ha
    have e1 : (L.addF p o).F a = L.F a := by show upd L.F p o a = _; rw [upd_ne e]
    exact h.mono l (fun n => by rw [e1]; exact n) (fun n => by rw [e1]; exact n) (upd_ne e)
  refine ⟨⟨fun a u h => ?_, k.lenS, k.lenT, k.nd, fun i c a h1 h2 => cell c a (List.mem_append_left _ (List.mem_of_getElem? h2)) (k.cS i c a h1 h2),
    fun i c a h1 h2 => cell c a (List.mem_append_right _ (List.mem_of_getElem? h2)) (k.cT i c a h1 h2)⟩, l, fun a u h n => ?_, fun a h => ?_, fun a h => .inl h⟩
  · by_cases e : a = p
    · subst e
      rw [← h]; show upd H a o a = upd L.F a o a; rw [upd_same, upd_same]
    · have e1 : (L.addF p o).F a = L.F a := by show upd L.F p o a = _; rw [upd_ne e]
      rw [upd_ne e]
      exact k.subx a u (by rw [← e1]; exact h)
  · have e : a ≠ p := fun z => by subst z; rw [hp] at h; cases h
    refine ⟨by rw [upd_ne e]; exact h, fun w => n ?_⟩
    rcases w with w | w | w
    · exact .inl (by have e1 : (L.addF p o).F a = L.F a := by { show upd L.F p o a = _; rw [upd_ne e] }
                     rw [e1] at w; exact w)
    · exact .inr (.inl w)
    · exact .inr (.inr w)
  · by_cases e : a = p
    · subst e; exact absurd hp h
    · rw [upd_ne e]; exact h

theorem mem_of_get {α : Type} {l : List α} {i : Nat} {a : α} (h : l[i]? = some a) : a ∈ l := List.mem_of_getElem? h
/-- a new cell of the frame -/
theorem LOk.newT (k : LOk G L Z H) {p : Addr} {o : HO} {c : Cell} (hp : H p = none) (ho : CellOk G { L with τ := L.τ ++ [p] } (upd H p o) c p) :
    Step G L H { L with τ := L.τ ++ [p] } { Z with T := Z.T ++ [c] } (upd H p o) := by
  have l : Lle L { L with τ := L.τ ++ [p] } := ⟨fun _ _ h => h, ⟨[], by simp⟩, ⟨[p], rfl⟩⟩
  have ne : ∀ {a}, H a ≠ none → a ≠ p := fun {a} h e => by subst e; exact h hp
  have cell : ∀ c a, H a ≠ none → CellOk G L H c a → CellOk G { L with τ := L.τ ++ [p] } (upd H p o) c a := fun c a ha h => h.mono l (fun n => n) (fun n => n) (upd_ne (ne ha))
  refine ⟨⟨fun a u h => ?_, k.lenS, by simp [k.lenT], ?_, fun i c a h1 h2 => cell c a (k.ρne (mem_of_get h2)) (k.cS i c a h1 h2), fun i c' a h1 h2 => ?_⟩, l, fun a u h n => ?_, fun a h => ?_, fun a h => .inl h⟩
  · have e : a ≠ p := ne (k.Fne (some_ne h))
    rw [upd_ne e]; exact k.subx a u h
  · show (L.ρ ++ (L.τ ++ [p])).Nodup
    rw [← List.append_assoc]
    refine List.nodup_append.mpr ⟨k.nd, by simp, fun a ha b hb => ?_⟩
    have : b = p := by simpa using hb
    subst this
    rcases List.mem_append.mp ha with q | q
    · exact ne (k.ρne q)
    · exact ne (k.τne q)
  · show CellOk G _ _ c' a
    have h1 : (Z.T ++ [c])[i]? = some c' := h1
    have h2 : (L.τ ++ [p])[i]? = some a := h2
    by_cases hi : i < Z.T.length
    · rw [List.getElem?_append_left hi] at h1
      rw [List.getElem?_append_left (by rw [k.lenT]; exact hi)] at h2
      exact cell c' a (k.τne (mem_of_get h2)) (k.cT i c' a h1 h2)
    · rw [List.getElem?_append_right (by omega)] at h1
      rw [List.getElem?_append_right (by rw [k.lenT]; omega), k.lenT] at h2
      have hz : i - Z.T.length = 0 := by
        have := (List.getElem?_eq_some_iff.mp h1).1
        simp at this; omega
      rw [hz] at h1 h2
      simp at h1 h2
      subst h1; subst h2
      exact ho
  · have e : a ≠ p := ne (by rw [h]; exact nofun)
    refine ⟨by rw [upd_ne e]; exact h, fun w => n ?_⟩
    rcases w with w | w | w
    · exact .inl w
    · exact .inr (.inl w)
    · rcases List.mem_append.mp w with w | w
      · exact .inr (.inr w)
      · exact absurd (by simpa using w) e
  · rw [upd_ne (ne h)]; exact h
/-- a new lasting cell -/
theorem LOk.newS (k : LOk G L Z H) {p : Addr} {o : HO} {c : Cell} (hp : H p = none) (ho : CellOk G { L with ρ := L.ρ ++ [p] } (upd H p o) c p) :
    Step G L H { L with ρ := L.ρ ++ [p] } { Z with S := Z.S ++ [c] } (upd H p o) := by
  have l : Lle L { L with ρ := L.ρ ++ [p] } := ⟨fun _ _ h => h, ⟨[p], rfl⟩, ⟨[], by simp⟩⟩
  have ne : ∀ {a}, H a ≠ none → a ≠ p := fun {a} h e => by subst e; exact h hp
  have cell : ∀ c a, H a ≠ none → CellOk G L H c a → CellOk G { L with ρ := L.ρ ++ [p] } (upd H p o) c a := fun c a ha h => h.mono l (fun n => n) (fun n => n) (upd_ne (ne ha))
  refine ⟨⟨fun a u h => ?_, by simp [k.lenS], k.lenT, ?_, fun i c' a h1 h2 => ?_, fun i c a h1 h2 => cell c a (k.τne (mem_of_get h2)) (k.cT i c a h1 h2)⟩, l, fun a u h n => ?_, fun a h => ?_, fun a h => by
    rcases List.mem_append.mp h with q | q
    · exact .inl q
    · exact .inr (by have : a = p := by simpa using q
                     rw [this]; exact hp)⟩
  · have e : a ≠ p := ne (k.Fne (some_ne h))
    rw [upd_ne e]; exact k.subx a u h
  · show ((L.ρ ++ [p]) ++ L.τ).Nodup
    have nd := List.nodup_append.mp k.nd
    have hpρ : p ∉ L.ρ := fun q => k.ρne q hp
    have hpτ : p ∉ L.τ := fun q => k.τne q hp
    refine List.nodup_append.mpr ⟨List.nodup_append.mpr ⟨nd.1, by simp, fun a ha b hb => ?_⟩, nd.2.1, fun a ha b hb => ?_⟩
    · have : b = p := by simpa using hb
      subst this
      exact fun e => hpρ (e ▸ ha)
    · rcases List.mem_append.mp ha with q | q
      · exact nd.2.2 a q b hb
      · have : a = p := by simpa using q
        subst this
        exact fun e => hpτ (e ▸ hb)
  · show CellOk G _ _ c' a
    have h1 : (Z.S ++ [c])[i]? = some c' := h1
    have h2 : (L.ρ ++ [p])[i]? = some a := h2
    by_cases hi : i < Z.S.length
    · rw [List.getElem?_append_left hi] at h1
      rw [List.getElem?_append_left (by rw [k.lenS]; exact hi)] at h2
      exact cell c' a (k.ρne (mem_of_get h2)) (k.cS i c' a h1 h2)
    · rw [List.getElem?_append_right (by omega)] at h1
      rw [List.getElem?_append_right (by rw [k.lenS]; omega), k.lenS] at h2
      have hz : i - Z.S.length = 0 := by
        have := (List.getElem?_eq_some_iff.mp h1).1
        simp at this; omega
      rw [hz] at h1 h2
      simp at h1 h2
      subst h1; subst h2
      exact ho
  · have e : a ≠ p := ne (by rw [h]; exact nofun)
    refine ⟨by rw [upd_ne e]; exact h, fun w => n ?_⟩
    rcases w with w | w | w
    · exact .inl w
    · rcases List.mem_append.mp w with w | w
      · exact .inr (.inl w)
      · exact absurd (by simpa using w) e
    · exact .inr (.inr w)
  · rw [upd_ne (ne h)]; exact h
theorem nd_get {α : Type} {l : List α} (h : l.Nodup) {i j : Nat} {a : α} (x : l[i]? = some a) (y : l[j]? = some a) : i = j := by
  obtain ⟨h1, e1⟩ := List.getElem?_eq_some_iff.mp x
  obtain ⟨h2, e2⟩ := List.getElem?_eq_some_iff.mp y
  exact (List.getElem_inj h).mp (e1.trans e2.symm)
/-- a live cell written -/
theorem LOk.setT (k : LOk G L Z H) {j : Nat} {a : Addr} {o : HO} {c : Cell} (ha : L.τ[j]? = some a) (hF : L.F a = none) (ho : CellOk G L (upd H a o) c a) :
    Step G L H L { Z with T := Z.T.set j c } (upd H a o) := by
  have nd := List.nodup_append.mp k.nd
  have hm := mem_of_get ha
  refine ⟨⟨fun b u h => ?_, k.lenS, by simp [k.lenT], k.nd, fun i c' b h1 h2 => ?_, fun i c' b h1 h2 => ?_⟩, .refl L, fun b u h n => ⟨?_, n⟩, fun b h => ?_, fun _ h => .inl h⟩
  · have e : b ≠ a := fun z => by subst z; exact some_ne h hF
    rw [upd_ne e]; exact k.subx b u h
  · have e : b ≠ a := nd.2.2 b (mem_of_get h2) a hm
    exact (k.cS i c' b h1 h2).mono (.refl L) (fun n => n) (fun n => n) (upd_ne e)
  · have h1 : (Z.T.set j c)[i]? = some c' := h1
    by_cases hi : i = j
    · subst hi
      rw [ha] at h2; cases h2
      have hl : i < Z.T.length := by have := (List.getElem?_eq_some_iff.mp h1).1; simpa using this
      rw [List.getElem?_set_self hl] at h1
      cases h1
      exact ho
    · rw [List.getElem?_set_ne (Ne.symm hi)] at h1
      have e : b ≠ a := fun z => by subst z; exact hi (nd_get nd.2.1 h2 ha)
      exact (k.cT i c' b h1 h2).mono (.refl L) (fun n => n) (fun n => n) (upd_ne e)
  · have e : b ≠ a := fun z => by subst z; exact n (.inr (.inr hm))
    rw [upd_ne e]; exact h
  · by_cases e : b = a
    · subst e; rw [upd_same]; exact nofun
    · rw [upd_ne e]; exact h
theorem LOk.setS (k : LOk G L Z H) {j : Nat} {a : Addr} {o : HO} {c : Cell} (ha : L.ρ[j]? = some a) (hF : L.F a = none) (ho : CellOk G L (upd H a o) c a) :
    Step G L H L { Z with S := Z.S.set j c } (upd H a o) := by
  have nd := List.nodup_append.mp k.nd
  have hm := mem_of_get ha
  refine ⟨⟨fun b u h => ?_, by simp [k.lenS], k.lenT, k.nd, fun i c' b h1 h2 => ?_, fun i c' b h1 h2 => ?_⟩, .refl L, fun b u h n => ⟨?_, n⟩, fun b h => ?_, fun _ h => .inl h⟩
  · have e : b ≠ a := fun z => by subst z; exact some_ne h hF
    rw [upd_ne e]; exact k.subx b u h
  · have h1 : (Z.S.set j c)[i]? = some c' := h1
    by_cases hi : i = j
    · subst hi
      rw [ha] at h2; cases h2
      have hl : i < Z.S.length := by have := (List.getElem?_eq_some_iff.mp h1).1; simpa using this
      rw [List.getElem?_set_self hl] at h1
      cases h1
      exact ho
    · rw [List.getElem?_set_ne (Ne.symm hi)] at h1
      have e : b ≠ a := fun z => by subst z; exact hi (nd_get nd.1 h2 ha)
      exact (k.cS i c' b h1 h2).mono (.refl L) (fun n => n) (fun n => n) (upd_ne e)
  · have e : b ≠ a := fun z => nd.2.2 a hm b (mem_of_get h2) z.symm
    exact (k.cT i c' b h1 h2).mono (.refl L) (fun n => n) (fun n => n) (upd_ne e)
  · have e : b ≠ a := fun z => by subst z; exact n (.inr (.inl hm))
    rw [upd_ne e]; exact h
  · by_cases e : b = a
    · subst e; rw [upd_same]; exact nofun
    · rw [upd_ne e]; exact h
/-- a cell of the frame changes no more -/
theorem LOk.fixT (k : LOk G L Z H) {j : Nat} {a : Addr} {c : Cell} (ha : L.τ[j]? = some a) (hc : Z.T[j]? = some c) :
    ∃ L', Step G L H L' { Z with T := Z.T.set j (.frz c.see) } H ∧ Rep G L' c.see (.ref a) := by
  have nd := List.nodup_append.mp k.nd
  have hm := mem_of_get ha
  have key : ∀ (u : HO), L.F a = none → H a = some u → (∀ o u', u ≠ .frz o u') → (∀ L', Rd L'.F a u → Lle L L' → Rep G L' c.see (.ref a)) → ∃ L', Step G L H L' { Z with T := Z.T.set j (.frz c.see) } H ∧ Rep G L' c.see (.ref a) := fun u hF hu hnf hr => by
    have l : Lle L (L.addF a u) := by
      refine ⟨fun b w h => ?_, ⟨[], by simp [Lk.addF]⟩, ⟨[], by simp [Lk.addF]⟩⟩
      have ne : b ≠ a := fun e => by subst e; exact some_ne h hF
      show upd L.F a u b = _
      rw [upd_ne ne]; exact h
    have eF : ∀ {b}, b ≠ a → (L.addF a u).F b = L.F b := fun {b} ne => by show upd L.F a u b = _; rw [upd_ne ne]
    have eA : (L.addF a u).F a = some u := by show upd L.F a u a = _; rw [upd_same]
    have rep := hr (L.addF a u) (.inl eA) l
    refine ⟨L.addF a u, ⟨⟨fun b w h => ?_, k.lenS, by simp [k.lenT, Lk.addF], k.nd, fun i c' b h1 h2 => ?_, fun i c' b h1 h2 => ?_⟩, l, fun b w h n => ⟨h, fun q => n ?_⟩, fun b h => h, fun _ h => .inl h⟩, rep⟩
    · by_cases e : b = a
      · subst e
        rw [eA] at h; cases h; exact hu
      · exact k.subx b w (by rw [← eF e]; exact h)
    · have e : b ≠ a := nd.2.2 b (mem_of_get h2) a hm
      exact (k.cS i c' b h1 h2).mono l (fun n => by rw [eF e]; exact n) (fun n => by rw [eF e]; exact n) rfl
    · have h1 : (Z.T.set j (.frz c.see))[i]? = some c' := h1
      by_cases hi : i = j
      · subst hi
        have h2' : L.τ[i]? = some b := h2
        rw [ha] at h2'; cases h2'
        have hl : i < Z.T.length := by have := (List.getElem?_eq_some_iff.mp h1).1; simpa using this
        rw [List.getElem?_set_self hl] at h1
        cases h1
        exact ⟨by rw [eA]; exact nofun, rep⟩
      · rw [List.getElem?_set_ne (Ne.symm hi)] at h1
        have e : b ≠ a := fun z => by subst z; exact hi (nd_get nd.2.1 h2 ha)
        exact (k.cT i c' b h1 h2).mono l (fun n => by rw [eF e]; exact n) (fun n => by rw [eF e]; exact n) rfl
    · rcases q with q | q
      · by_cases e : b = a
        · subst e; exact .inr (.inr hm)
        · exact .inl (by rw [eF e] at q; exact q)
      · exact .inr q
  have co := k.cT j c a hc ha
  cases c with
  | lst xs =>
    obtain ⟨hF, vs, hu, r⟩ := co
    refine key _ hF hu (fun _ _ => nofun) fun L' rd l => ?_
    simp only [Cell.see, Rep]
    exact ⟨a, vs, rfl, rd, RepL.mono l _ _ r⟩
  | dct xs =>
    obtain ⟨hF, vs, hu, r⟩ := co
    refine key _ hF hu (fun _ _ => nofun) fun L' rd l => ?_
    simp only [Cell.see, Rep]
    exact ⟨a, vs, rfl, rd, RepK.mono l _ _ r⟩
  | frz d =>
    have e : Z.T.set j (.frz (Cell.frz d).see) = Z.T := by
      show Z.T.set j (.frz d) = Z.T
      obtain ⟨hl, he⟩ := List.getElem?_eq_some_iff.mp hc
      rw [← he]; exact List.set_getElem_self hl
    refine ⟨L, ?_, co.2⟩
    rw [e]; exact .refl k
end

/-! ### what is seen -/
section
variable (G : Pg) (L : Lk) (H : Hp)
/-- a value now shows this -/
def Now : D → V → Prop
  | .lst ds, v => ∃ p vs, v = .ref p ∧ Rd H p (.lst vs) ∧ RepL G L ds vs
  | .dct kvs, v => ∃ p ws, v = .ref p ∧ Rd H p (.dK ws) ∧ RepK G L kvs ws
  | d, v => Rep G L d v
def RepO : Ov → V → Prop
  | .v d, v => Rep G L d v
  | .t k, v => ∃ a, L.τ[k]? = some a ∧ v = .ref a
def RepOs : List Ov → List V → Prop
  | [], vs => vs = []
  | d :: ds, vs => ∃ v r, vs = v :: r ∧ RepO G L d v ∧ RepOs ds r
def NowL : List D → List V → Prop
  | [], vs => vs = []
  | d :: ds, vs => ∃ v r, vs = v :: r ∧ Now G L H d v ∧ NowL ds r
end
section
variable {G : Pg} {L L' : Lk} {Z : Sto} {H : Hp}
theorem RepO.mono (l : Lle L L') {o : Ov} {v : V} (h : RepO G L o v) : RepO G L' o v := by
  cases o with
  | v d => exact Rep.mono l _ _ h
  | t k => obtain ⟨a, e, r⟩ := h; exact ⟨a, pre_get l.τ e, r⟩
theorem RepOs.mono (l : Lle L L') : ∀ {os : List Ov} {vs : List V}, RepOs G L os vs → RepOs G L' os vs
  | [], _, h => h
  | o :: os, _, h => by
    obtain ⟨v, r, e, h1, h2⟩ := h
    exact ⟨v, r, e, h1.mono l, RepOs.mono l h2⟩
theorem Rep.now (k : LOk G L Z H) {d : D} {v : V} (h : Rep G L d v) : Now G L H d v := by
  cases d with
  | lst ds => simp only [Rep] at h; obtain ⟨p, vs, e, s, r⟩ := h; exact ⟨p, vs, e, k.sub p _ s, r⟩
  | dct ds => simp only [Rep] at h; obtain ⟨p, vs, e, s, r⟩ := h; exact ⟨p, vs, e, k.sub p _ s, r⟩
  | _ => exact h
theorem CellOk.now (k : LOk G L Z H) {c : Cell} {a : Addr} (h : CellOk G L H c a) : Now G L H c.see (.ref a) := by
  cases c with
  | lst xs => obtain ⟨_, vs, e, r⟩ := h; exact ⟨a, vs, rfl, .inl e, r⟩
  | dct xs => obtain ⟨_, vs, e, r⟩ := h; exact ⟨a, vs, rfl, .inl e, r⟩
  | frz d => exact Rep.now k h.2
theorem see_now (k : LOk G L Z H) {o : Ov} {v : V} {d : D} (h : RepO G L o v) (e : Z.see o = some d) : Now G L H d v := by
  cases o with
  | v x =>
    cases x with
    | loc j =>
      obtain ⟨a, ha, rfl⟩ : ∃ a, L.ρ[j]? = some a ∧ v = .ref a := by simpa only [RepO, Rep] using h
      cases hc : Z.S[j]? with
      | none => simp [Sto.see, hc] at e
      | some c =>
        simp [Sto.see, hc] at e
        subst e
        exact (k.cS j c a hc ha).now k
    | _ => (simp only [Sto.see, Option.some.injEq] at e; subst e; exact Rep.now k h)
  | t j =>
    obtain ⟨a, ha, rfl⟩ := h
    cases hc : Z.T[j]? with
    | none => simp [Sto.see, hc] at e
    | some c =>
      simp [Sto.see, hc] at e
      subst e
      exact (k.cT j c a hc ha).now k
end

/-! ### names -/
def SlotOk (G : Pg) (L : Lk) (σ : St) (i : Nat) : Option Slot → Prop
  | some (.val d) => ∃ v, σ[i]? = some (some v) ∧ Rep G L d v
  | some (.tmp k) => ∃ a, L.τ[k]? = some a ∧ σ[i]? = some (some (.ref a))
  | some (.exc c d) => ∃ a δ w, σ[i]? = some (some (.ref a)) ∧ G.cur a c δ ∧ Rd L.F δ (.xd [(G.fld c, w)]) ∧ Rep G L d w
  | none => True
structure EnvOk (G : Pg) (L : Lk) (η : Vars) (σ : St) : Prop where
  len : η.length = σ.length
  at_ : ∀ (i : Nat) o, η[i]? = some o → SlotOk G L σ i o
theorem EnvOk.mono {G : Pg} {L L' : Lk} {η : Vars} {σ : St} (h : EnvOk G L η σ) (l : Lle L L') : EnvOk G L' η σ := by
  refine ⟨h.len, fun i o e => ?_⟩
  have q := h.at_ i o e
  cases o with
  | none => trivial
  | some s =>
    cases s with
    | val d => obtain ⟨v, e, r⟩ := q; exact ⟨v, e, Rep.mono l _ _ r⟩
    | tmp k => obtain ⟨a, e, r⟩ := q; exact ⟨a, pre_get l.τ e, r⟩
    | exc c d => obtain ⟨a, δ, w, e, h1, h2, h3⟩ := q; exact ⟨a, δ, w, e, h1, l.F _ _ h2, Rep.mono l _ _ h3⟩
theorem EnvOk.set {G : Pg} {L : Lk} {η : Vars} {σ : St} (h : EnvOk G L η σ) (i : Nat) {s : Slot} {v : V} (r : ∀ σ' : St, σ'[i]? = some (some v) → SlotOk G L σ' i (some s)) (hi : i < η.length) : EnvOk G L (η.set i (some s)) (σ.set i (some v)) := by
  have hs : i < σ.length := by rw [← h.len]; exact hi
  refine ⟨by simp [h.len], fun j o e => ?_⟩
  by_cases hj : j = i
  · subst hj
    rw [List.getElem?_set_self hi] at e
    cases e
    exact r _ (by rw [List.getElem?_set_self hs])
  · rw [List.getElem?_set_ne (Ne.symm hj)] at e
    have q := h.at_ j o e
    cases o with
    | none => trivial
    | some s =>
      cases s with
      | val d => obtain ⟨v, e, r⟩ := q; exact ⟨v, by rw [List.getElem?_set_ne (Ne.symm hj)]; exact e, r⟩
      | tmp k => obtain ⟨a, e, r⟩ := q; exact ⟨a, e, by rw [List.getElem?_set_ne (Ne.symm hj)]; exact r⟩
      | exc c d => obtain ⟨a, δ, w, e, h1⟩ := q; exact ⟨a, δ, w, by rw [List.getElem?_set_ne (Ne.symm hj)]; exact e, h1⟩
theorem EnvOk.setVal {G : Pg} {L : Lk} {η : Vars} {σ : St} (h : EnvOk G L η σ) {i : Nat} {d : D} {v : V} (r : Rep G L d v) (hi : i < η.length) : EnvOk G L (η.set i (some (.val d))) (σ.set i (some v)) :=
  h.set i (fun _ e => ⟨v, e, r⟩) hi
theorem EnvOk.setTmp {G : Pg} {L : Lk} {η : Vars} {σ : St} (h : EnvOk G L η σ) {i k : Nat} {a : Addr} (r : L.τ[k]? = some a) (hi : i < η.length) : EnvOk G L (η.set i (some (.tmp k))) (σ.set i (some (.ref a))) :=
  h.set i (fun _ e => ⟨a, r, e⟩) hi
theorem EnvOk.drop {G : Pg} {L : Lk} {η : Vars} {σ : St} (h : EnvOk G L η σ) (i : Nat) : EnvOk G L (η.set i none) (σ.set i none) := by
  refine ⟨by simp [h.len], fun j o e => ?_⟩
  by_cases hj : j = i
  · subst hj
    by_cases hl : j < η.length
    · rw [List.getElem?_set_self hl] at e; cases e; trivial
    · rw [List.getElem?_eq_none (by simpa using hl)] at e; cases e
  · rw [List.getElem?_set_ne (Ne.symm hj)] at e
    have q := h.at_ j o e
    cases o with
    | none => trivial
    | some s =>
      cases s with
      | val d => obtain ⟨v, e, r⟩ := q; exact ⟨v, by rw [List.getElem?_set_ne (Ne.symm hj)]; exact e, r⟩
      | tmp k => obtain ⟨a, e, r⟩ := q; exact ⟨a, e, by rw [List.getElem?_set_ne (Ne.symm hj)]; exact r⟩
      | exc c d => obtain ⟨a, δ, w, e, h1⟩ := q; exact ⟨a, δ, w, by rw [List.getElem?_set_ne (Ne.symm hj)]; exact e, h1⟩
theorem EnvOk.wipe {G : Pg} {L : Lk} {η : Vars} {σ : St} (h : EnvOk G L η σ) : ∀ own : List Nat, EnvOk G L (wipeE η own) (wipe σ own)
  | [] => h
  | v :: vs => (EnvOk.wipe h vs).drop v
end Py
end
section
set_option Elab.async false
set_option linter.all false
set_option maxRecDepth 100000
set_option maxHeartbeats 4000000
/-! PyC: the operations of plain data are what the machine does. -/
namespace Py
open PySem PySem.Spec L2
theorem line_eq : sizeLine = lineN := by rw [sizeLine_eq]; rfl

/-- what is wanted behind an operation that gives r -/
def Fin (G : Pg) (L : Lk) (Z : Sto) (H : Hp) (r : D) (Q : VK) : Prop := ∀ L' H' v, Step G L H L' Z H' → Rep G L' r v → Q v H'
section
variable {G : Pg} {L : Lk} {Z : Sto} {H : Hp} {Q : VK}
theorem Fin.int (k : LOk G L Z H) {i : Int} (f : Fin G L Z H (.int i) Q) : Q (.int i) H := f L H _ (.refl k) (by simp only [Rep])
theorem Fin.bl (k : LOk G L Z H) {i : Bool} (f : Fin G L Z H (.bl i) Q) : Q (.bl i) H := f L H _ (.refl k) (by simp only [Rep])
theorem Fin.str (k : LOk G L Z H) {i : Str} (f : Fin G L Z H (.str i) Q) : Q (.str i) H := f L H _ (.refl k) (by simp only [Rep])
theorem Fin.here (k : LOk G L Z H) {r : D} {v : V} (f : Fin G L Z H r Q) (h : Rep G L r v) : Q v H := f L H _ (.refl k) h
theorem addF_self {p : Addr} {o : HO} : (L.addF p o).F p = some o := by show upd L.F p o p = _; rw [upd_same]
theorem Fin.lst (k : LOk G L Z H) {ds : List D} {vs : List V} (f : Fin G L Z H (.lst ds) Q) (r : RepL G L ds vs) : ∀ p, H p = none → Q (.ref p) (upd H p (.lst vs)) := fun p hp => by
  refine f (L.addF p (.lst vs)) _ _ (k.newF hp) ?_
  simp only [Rep]
  exact ⟨p, vs, rfl, .inl addF_self, RepL.mono (k.le_addF hp) _ _ r⟩
theorem Fin.tup (k : LOk G L Z H) {ds : List D} {vs : List V} (f : Fin G L Z H (.tup ds) Q) (r : RepL G L ds vs) : ∀ p o, o.dict = none → H p = none → Q (.ref p) (upd H p (.frz o (.tup vs))) := fun p o ho hp => by
  refine f (L.addF p (.frz o (.tup vs))) _ _ (k.newF hp) ?_
  simp only [Rep]
  exact ⟨p, vs, rfl, .inl ⟨o, addF_self, ho⟩, RepL.mono (k.le_addF hp) _ _ r⟩
theorem Fin.tupU (k : LOk G L Z H) {ds : List D} {vs : List V} (f : Fin G L Z H (.tupU ds) Q) (r : RepL G L ds vs) : ∀ p, H p = none → Q (.ref p) (upd H p (.tup vs)) := fun p hp => by
  refine f (L.addF p (.tup vs)) _ _ (k.newF hp) ?_
  simp only [Rep]
  exact ⟨p, vs, rfl, .inl (.inl addF_self), RepL.mono (k.le_addF hp) _ _ r⟩
theorem Fin.dct (k : LOk G L Z H) {ds : List (Key × D)} {vs : List (Key × V)} (f : Fin G L Z H (.dct ds) Q) (r : RepK G L ds vs) : ∀ p, H p = none → Q (.ref p) (upd H p (.dK vs)) := fun p hp => by
  refine f (L.addF p (.dK vs)) _ _ (k.newF hp) ?_
  simp only [Rep]
  exact ⟨p, vs, rfl, .inl addF_self, RepK.mono (k.le_addF hp) _ _ r⟩
theorem RepL.rep (n : Nat) {ds : List D} {vs : List V} (r : RepL G L ds vs) : RepL G L (List.replicate n ds).flatten (List.replicate n vs).flatten := by
  induction n with
  | zero => exact RepL.nil
  | succ n ih => rw [List.replicate_succ, List.replicate_succ, List.flatten_cons, List.flatten_cons]; exact r.append ih
end
section
variable {X : Cx} {pins : List (Addr × Obj)} {σ : L2.St} {H : Hp} {s : Shared} {l : Addr} {xs : List V}
/-- a list that is read, as an object -/
theorem lstR (I : Inv X pins σ H s) (h : Rd H l (.lst xs)) : xs.length ≤ sizeLine ∧ ∃ (its : List Value) (n : Nat), Vals xs its ∧ xs.length = its.length ∧ s.heap.get? l = some { cls := .type "list", data := .seq its.toArray n } := by
  obtain ⟨z, its, n, r, e⟩ := h.ok I.hok
  exact ⟨z, its, n, r, r.length, e⟩
end
/-- the object of a new tuple -/
def tupObj (us : List Value) : Obj := { cls := .type "tuple", data := .seq us.toArray }
theorem laidTup {X : Cx} {pins : List (Addr × Obj)} {σ : L2.St} {H : Hp} {s : Shared} {xs : List V} {us : List Value} {t' : Nat} (I : Inv X pins σ H s) (r : Vals xs us) (z : xs.length ≤ sizeLine) :
    Inv X pins σ (upd H s.heap.objs.size (.frz (tupObj us) (.tup xs))) { s with heap := s.heap.push (tupObj us), toks := t' } :=
  I.laid (fun b u e => Heap.get?_push_of_some _ e) (Nat.le_refl _) ⟨Heap.get?_push_size _ rfl, z, us, r, ⟨_, Heap.get?_push_size _ rfl, rfl, _, rfl⟩⟩
/-- a + b of tuples -/
def rCatN (K : PySem.W.Frag) : R2 := fun x y H Q => ∃ a b xs ys, x = .ref a ∧ y = .ref b ∧ SqT K H a xs ∧ SqT K H b ys ∧ xs.length + ys.length ≤ sizeLine ∧
  (xs = [] → Q (.ref b) H) ∧ (xs ≠ [] → ys = [] → Q (.ref a) H) ∧ (xs ≠ [] → ys ≠ [] → ∀ p o, o.dict = none → H p = none → Q (.ref p) (upd H p (.frz o (.tup (xs ++ ys)))))
theorem op_catN {X : Cx} : OpR X (binaryOp .Add) (rCatN X.K) := by
  intro pins s σ H x y v u Q I vx vy ⟨a, b, xs, ys, ex, ey, ta, tb, hz, empty1, empty2, both⟩
  subst ex ey
  obtain rfl : v = Value.ref a := vx
  obtain rfl : u = Value.ref b := vy
  obtain ⟨us, ru, pu, _⟩ := I.tuple ta
  obtain ⟨ws, rw', pw, _⟩ := I.tuple tb
  by_cases e1 : xs = []
  · subst e1
    cases ru
    exact L2.cat_tup0 pu pw ⟨.ref b, H, I, rfl, empty1 rfl⟩
  · refine HT.cat_tup pu pw (fun q => e1 (ru.nil_iff.mp q)) (fun q => ⟨.ref a, H, I, rfl, empty2 e1 (rw'.nil_iff.mp q)⟩) (fun q => ?_) (by have l1 := ru.length; have l2 := rw'.length; omega)
    have J := laidTup (t' := s.toks) I (ru.append rw') (by rw [List.length_append]; exact hz)
    have e2 : ys ≠ [] := fun q2 => q (rw'.nil_iff.mpr q2)
    exact ⟨.ref s.heap.objs.size, _, J, rfl, both e1 e2 _ _ rfl (I.hok.fresh (Nat.le_refl _))⟩
section
variable {X : Cx}
def rCatR : R2 := fun x y H Q => ∃ l b xs zs, x = .ref l ∧ y = .ref b ∧ Rd H l (.lst xs) ∧ Rd H b (.lst zs) ∧ xs.length + zs.length ≤ sizeLine ∧ ∀ p, H p = none → Q (.ref p) (upd H p (.lst (xs ++ zs)))
theorem op_catR : OpR X (binaryOp .Add) rCatR := by
  intro pins s σ H x y v u Q I rx ry h
  obtain ⟨l, b, xs, bs, rfl, rfl, hH, hB, hz, q⟩ := h
  cases rx
  cases ry
  obtain ⟨z, ls, n, r, hl, e⟩ := lstR I hH
  obtain ⟨z2, ls2, n2, rr, hl2, e2⟩ := lstR I hB
  refine PySem.P.add_list e e2 ?_ (by rw [List.size_toArray, List.size_toArray]; omega)
  have ea : ls.toArray ++ ls2.toArray = (ls ++ ls2).toArray := by simp
  rw [ea]
  exact ⟨.ref _, _, I.lnew (t' := s.toks) (r.append rr) (by rw [List.length_append]; omega), rfl, q _ I.fresh⟩
/-- a list times an int -/
def rRepR : R2 := fun x y H Q => ∃ l k xs, x = .ref l ∧ y = .int k ∧ Rd H l (.lst xs) ∧ -(2 ^ 63) ≤ k ∧ k < 2 ^ 63 ∧ xs.length * k.toNat ≤ sizeLine ∧
  ∀ p, H p = none → Q (.ref p) (upd H p (.lst (List.replicate k.toNat xs).flatten))
theorem op_repR : OpR X (binaryOp .Mult) rRepR := by
  intro pins s σ H x y v u Q I rx ry h
  obtain ⟨l, j, as, rfl, rfl, hH, h1, h2, hz, q⟩ := h
  cases rx
  obtain ⟨t, rfl⟩ := ry
  obtain ⟨z, ls, n, rr, hl, e⟩ := lstR I hH
  have fits : ls.toArray.size * j.toNat ≤ sizeLine := by rw [List.size_toArray, ← hl]; exact hz
  have cap : ¬ ls.toArray.size * j.toNat > (2 ^ 63 - 1) / 8 := by
    have : (sizeLine : Nat) ≤ ((2 ^ 63 - 1) / 8 : Nat) := by decide
    omega
  have ixok : ¬ (!Builtin.List.listFitsIndex j) = true := by
    rw [fitsIndex_both h1 h2]
    exact Bool.false_ne_true
  have short : ¬ Builtin.List.listTooLong (ls.toArray.size * j.toNat) = true := by
    rw [notLongL fits]
    exact Bool.false_ne_true
  have made : List.foldl (fun x1 x2 => x1 ++ x2) #[] (List.replicate (if ls.toArray.isEmpty = true then 0 else j.toNat) ls.toArray) = (List.replicate j.toNat ls).flatten.toArray := by
    have rep0 : ∀ m : Nat, List.foldl (fun x1 x2 => x1 ++ x2) #[] (List.replicate m ls.toArray) = (List.replicate m ls).flatten.toArray := fun m => by
      have := foldl_rep ls m []
      rw [List.nil_append] at this
      exact this
    rw [rep0]
    cases ls with
    | nil => simp
    | cons a r' => rw [if_neg (by simp)]
  refine wpAny_binaryOp_repeat_ref (T := "list") (U := "int") (by decide) ⟨_, e, rfl⟩ (fun s' => typeIs_int s' j t) noFill_list_mul F.fills_int_mul F.slot_int_rmul repeat_list F.slot_int_index.lookup
    (call_meets F.slot_int_rmul (typeIs_int s j t) F.entry_int_rmul (F.args_int_rmul_2 _ _) (int___rmul___int_list j t l ls.toArray n)
      ⟨e, rfl, ⟨_, e, rfl⟩, call_meets F.slot_list_mul ⟨_, e, rfl⟩ F.entry_list_mul (F.args_list_mul_2 _ _) (AutoListH.list___mul___list_int_3 l ls.toArray n j t ixok cap short) ⟨e, ?_⟩⟩)
  rw [made]
  exact ⟨.ref _, _, I.lnew (t' := s.toks) (rr.rep j.toNat) (by rw [PyProof.Rows.lm_len_rep_flat, Nat.mul_comm]; exact hz), rfl, q _ I.fresh⟩
end

def Bop.py : Bop → Operator
  | .add => .Add | .sub => .Sub | .mul => .Mult | .fdiv => .FloorDiv | .mod => .Mod | .pow => .Pow
/-- an operation on seen data -/
def rB (G : Pg) (op : Bop) : R2 := fun x y H Q => ∃ L Z d e r, LOk G L Z H ∧ Now G L H d x ∧ Now G L H e y ∧ binD op d e = some r ∧ Fin G L Z H r Q
theorem ite_some {α : Type} {c : Prop} [Decidable c] {a r : α} (h : (if c then some a else none) = some r) : c ∧ a = r := by
  by_cases hc : c
  · rw [if_pos hc] at h; exact ⟨hc, Option.some.inj h⟩
  · rw [if_neg hc] at h; cases h
section
variable {X : Cx} {G : Pg}
theorem op_bin (hK : X.K = G.K) (op : Bop) : OpR X (binaryOp op.py) (rB G op) := by
  intro pins s σ H x y v u Q I rx ry h
  obtain ⟨L, Z, d, e, r, k, nd, ne, hr, f⟩ := h
  unfold binD at hr
  split at hr
  case h_1 i j =>
    simp only [Now, Rep] at nd ne; subst nd; subst ne; cases hr
    exact op_add pins s σ H _ _ v u Q I rx ry ⟨i, j, rfl, rfl, f.int k⟩
  case h_2 i j =>
    simp only [Now, Rep] at nd ne; subst nd; subst ne
    obtain ⟨hc, rfl⟩ := ite_some hr
    exact op_add_str pins s σ H _ _ v u Q I rx ry ⟨i, j, rfl, rfl, by rw [line_eq]; exact hc, f.str k⟩
  case h_3 a b =>
    obtain ⟨p, vs, rfl, h1, r1⟩ := nd
    obtain ⟨q, ws, rfl, h2, r2⟩ := ne
    obtain ⟨hc, rfl⟩ := ite_some hr
    exact op_catR pins s σ H _ _ v u Q I rx ry ⟨p, q, vs, ws, rfl, rfl, h1, h2, by rw [line_eq, ← r1.length, ← r2.length]; exact hc, f.lst k (r1.append r2)⟩
  case h_4 a b =>
    have nd' := nd
    have ne' := ne
    simp only [Now, Rep] at nd ne
    obtain ⟨p, vs, rfl, h1, r1⟩ := nd
    obtain ⟨q, ws, rfl, h2, r2⟩ := ne
    obtain ⟨hc, rfl⟩ := ite_some hr
    have h1' : SqT X.K H p vs := by rw [hK]; exact sqT_mono (k.sub p) h1.sq
    have h2' : SqT X.K H q ws := by rw [hK]; exact sqT_mono (k.sub q) h2.sq
    refine op_catN pins s σ H _ _ v u Q I rx ry ⟨p, q, vs, ws, rfl, rfl, h1', h2', by rw [line_eq, ← r1.length, ← r2.length]; exact hc, fun e => ?_, fun _ e => ?_, fun _ _ => f.tup k (r1.append r2)⟩
    · subst e
      have : a = [] := List.eq_nil_of_length_eq_zero (by rw [r1.length]; rfl)
      subst this
      exact f.here k (by simp only [List.nil_append, Rep]; exact ⟨q, ws, rfl, h2, r2⟩)
    · subst e
      have : b = [] := List.eq_nil_of_length_eq_zero (by rw [r2.length]; rfl)
      subst this
      exact f.here k (by simp only [List.append_nil, Rep]; exact ⟨p, vs, rfl, h1, r1⟩)
  case h_5 i j =>
    simp only [Now, Rep] at nd ne; subst nd; subst ne; cases hr
    exact op_sub pins s σ H _ _ v u Q I rx ry ⟨i, j, rfl, rfl, f.int k⟩
  case h_6 i j =>
    simp only [Now, Rep] at nd ne; subst nd; subst ne
    obtain ⟨hc, rfl⟩ := ite_some hr
    exact op_mul pins s σ H _ _ v u Q I rx ry ⟨i, j, rfl, rfl, hc, f.int k⟩
  case h_7 a j =>
    obtain ⟨p, vs, rfl, h1, r1⟩ := nd
    simp only [Now, Rep] at ne; subst ne
    obtain ⟨⟨c1, c2, c3⟩, rfl⟩ := ite_some hr
    have hl := r1.length
    cases rx
    obtain ⟨t, rfl⟩ := ry
    obtain ⟨z, its, n, rv, hlen, e⟩ := lstR I h1
    have hz : vs.length * j.toNat ≤ sizeLine := by rw [line_eq, ← hl]; exact c3
    exact op_repR pins s σ H (.ref p) (.int j) _ _ Q I rfl ⟨t, rfl⟩ ⟨p, j, vs, rfl, rfl, h1, by omega, by omega, hz, f.lst k (r1.rep j.toNat)⟩
  case h_8 a j =>
    simp only [Now, Rep] at nd
    obtain ⟨p, vs, rfl, h1, r1⟩ := nd
    simp only [Now, Rep] at ne; subst ne
    obtain ⟨⟨c1, c2, c3, c4⟩, rfl⟩ := ite_some hr
    have hl := r1.length
    have h1' : SqT X.K H p vs := by rw [hK]; exact sqT_mono (k.sub p) h1.sq
    exact op_repT pins s σ H _ _ v u Q I rx ry ⟨p, j, vs, rfl, rfl, h1', fun e => by (subst e; exact c4 hl), c1, c2, by omega, f.tupU k (r1.rep j.toNat)⟩
  case h_9 i j =>
    simp only [Now, Rep] at nd ne; subst nd; subst ne
    obtain ⟨hc, rfl⟩ := ite_some hr
    exact op_fdiv pins s σ H _ _ v u Q I rx ry ⟨i, j, rfl, rfl, hc, f.int k⟩
  case h_10 i j =>
    simp only [Now, Rep] at nd ne; subst nd; subst ne
    obtain ⟨hc, rfl⟩ := ite_some hr
    exact op_mod pins s σ H _ _ v u Q I rx ry ⟨i, j, rfl, rfl, hc, f.int k⟩
  case h_11 i j =>
    simp only [Now, Rep] at nd ne; subst nd; subst ne
    obtain ⟨hc, rfl⟩ := ite_some hr
    exact op_pow pins s σ H _ _ v u Q I rx ry ⟨i, j, rfl, rfl, hc, f.int k⟩
  case h_12 => cases hr

/-! ### comparisons -/
section
variable {L : Lk} {Z : Sto} {H : Hp}
mutual
theorem Rep.dp (k : LOk G L Z H) : ∀ (d : D) (v : V) (p : PyData), Rep G L d v → d.py = some p → Dp G.K H v p
  | .non, v, p, h, e => by simp only [Rep] at h; simp only [D.py, Option.some.injEq] at e; subst h; subst e; exact .non
  | .bl b, v, p, h, e => by simp only [Rep] at h; simp only [D.py, Option.some.injEq] at e; subst h; subst e; exact .bl b
  | .int b, v, p, h, e => by simp only [Rep] at h; simp only [D.py, Option.some.injEq] at e; subst h; subst e; exact .int b
  | .str b, v, p, h, e => by simp only [Rep] at h; simp only [D.py, Option.some.injEq] at e; subst h; subst e; exact .str b
  | .tup ds, v, p, h, e => by
    simp only [Rep] at h
    simp only [D.py, Option.map_eq_some_iff] at e
    obtain ⟨a, vs, rfl, s, r⟩ := h
    obtain ⟨ps, e, rfl⟩ := e
    exact .tup (sqT_mono (k.sub a) s.sq) (RepL.dp k ds vs ps r e)
  | .tupU ds, v, p, h, e => by
    simp only [Rep] at h
    simp only [D.py, Option.map_eq_some_iff] at e
    obtain ⟨a, vs, rfl, s, r⟩ := h
    obtain ⟨ps, e, rfl⟩ := e
    exact .tup (sqT_mono (k.sub a) s) (RepL.dp k ds vs ps r e)
  | .lst ds, v, p, h, e => by
    simp only [Rep] at h
    simp only [D.py, Option.map_eq_some_iff] at e
    obtain ⟨a, vs, rfl, s, r⟩ := h
    obtain ⟨ps, e, rfl⟩ := e
    exact .lst (.inl (k.sub a _ s)) (RepL.dp k ds vs ps r e)
  | .dct _, _, _, _, e => by simp [D.py] at e
  | .fn _, _, _, _, e => by simp [D.py] at e
  | .exc _ _, _, _, _, e => by simp [D.py] at e
  | .loc _, _, _, _, e => by simp [D.py] at e
theorem RepL.dp (k : LOk G L Z H) : ∀ (ds : List D) (vs : List V) (ps : List PyData), RepL G L ds vs → pyAll ds = some ps → DpAll G.K H vs ps
  | [], vs, ps, h, e => by simp only [RepL] at h; simp only [pyAll, Option.some.injEq] at e; subst h; subst e; exact .nil
  | d :: ds, vs, ps, h, e => by
    simp only [RepL] at h
    obtain ⟨v, r, rfl, h1, h2⟩ := h
    simp only [pyAll] at e
    split at e
    · rename_i y ys e1 e2
      cases e
      exact .cons (Rep.dp k d v y h1 e1) (RepL.dp k ds r ys h2 e2)
    · cases e
end
theorem Now.dp (k : LOk G L Z H) {d : D} {v : V} {p : PyData} (h : Now G L H d v) (e : d.py = some p) : Dp G.K H v p := by
  cases d with
  | lst ds =>
    obtain ⟨a, vs, rfl, s, r⟩ := h
    simp only [D.py, Option.map_eq_some_iff] at e
    obtain ⟨ps, e, rfl⟩ := e
    exact .lst (.inl s) (RepL.dp k ds vs ps r e)
  | dct ds => simp [D.py] at e
  | _ => exact Rep.dp k _ _ _ h e
theorem flat_rep {d : D} {v : V} (h : Rep G L d v) (f : flatD d = true) : flatV v = true ∧ ∀ {e : D} {w : V}, Rep G L e w → flatD e = true → eqV v w = eqF d e := by
  cases d <;> simp only [flatD, Bool.false_eq_true] at f <;> simp only [Rep] at h <;> subst h <;> refine ⟨rfl, fun {e w} he fe => ?_⟩ <;>
    cases e <;> simp only [flatD, Bool.false_eq_true] at fe <;> simp only [Rep] at he <;> subst he <;> rfl
theorem flat_all : ∀ {ds : List D} {vs : List V}, RepL G L ds vs → ds.all flatD = true → vs.all flatV = true
  | [], vs, h, _ => by simp only [RepL] at h; subst h; rfl
  | d :: ds, vs, h, f => by
    simp only [RepL] at h
    obtain ⟨v, r, rfl, h1, h2⟩ := h
    rw [List.all_cons, Bool.and_eq_true] at f ⊢
    exact ⟨(flat_rep h1 f.1).1, flat_all h2 f.2⟩
theorem flat_any {x : D} {w : V} (hx : Rep G L x w) (fx : flatD x = true) : ∀ {ds : List D} {vs : List V}, RepL G L ds vs → ds.all flatD = true → inV w vs = ds.any fun y => eqF y x
  | [], vs, h, _ => by simp only [RepL] at h; subst h; rfl
  | d :: ds, vs, h, f => by
    simp only [RepL] at h
    obtain ⟨v, r, rfl, h1, h2⟩ := h
    rw [List.all_cons, Bool.and_eq_true] at f
    have ih := flat_any hx fx h2 f.2
    unfold inV at ih ⊢
    rw [List.any_cons, List.any_cons, ih, (flat_rep h1 f.1).2 hx fx]
theorem flat_now {d : D} {v : V} (h : Now G L H d v) (f : flatD d = true) : Rep G L d v := by
  cases d <;> simp only [flatD, Bool.false_eq_true] at f <;> exact h
theorem key_now {d : D} {v : V} {κ : Key} (h : Now G L H d v) (e : keyD d = some κ) : v = kV κ := by
  cases d <;> simp only [keyD, Option.some.injEq, reduceCtorEq] at e <;> subst e <;> simp only [Now, Rep] at h <;> exact h
theorem RepK.look : ∀ {kvs : List (Key × D)} {ws : List (Key × V)} (κ : Key), RepK G L kvs ws → (lookK kvs κ = none → valV ws κ = none) ∧ ∀ d, lookK kvs κ = some d → ∃ v, valV ws κ = some v ∧ Rep G L d v
  | [], ws, κ, h => by simp only [RepK] at h; subst h; exact ⟨fun _ => rfl, fun d e => by simp [lookK] at e⟩
  | (k, d) :: kvs, ws, κ, h => by
    simp only [RepK] at h
    obtain ⟨v, r, rfl, h1, h2⟩ := h
    by_cases hk : k = κ
    · subst hk
      rw [valV_pos rfl]
      refine ⟨fun e => by simp [lookK] at e, fun d' e => ?_⟩
      have : d = d' := by simpa [lookK] using e
      subst this
      exact ⟨v, rfl, h1⟩
    · rw [valV_neg hk]
      have : lookK ((k, d) :: kvs) κ = lookK kvs κ := by simp [lookK, List.find?_cons, hk]
      rw [this]
      exact RepK.look κ h2
theorem RepK.isSome {kvs : List (Key × D)} {ws : List (Key × V)} (κ : Key) (h : RepK G L kvs ws) : (valV ws κ).isSome = (lookK kvs κ).isSome := by
  have q := h.look κ
  cases e : lookK kvs κ with
  | none => rw [q.1 e]; rfl
  | some d => obtain ⟨v, hv, _⟩ := q.2 d e; rw [hv]; rfl
theorem RepK.length : ∀ {kvs : List (Key × D)} {ws : List (Key × V)}, RepK G L kvs ws → kvs.length = ws.length
  | [], ws, h => by simp only [RepK] at h; subst h; rfl
  | (k, d) :: kvs, ws, h => by
    simp only [RepK] at h
    obtain ⟨v, r, rfl, h1, h2⟩ := h
    rw [List.length_cons, List.length_cons, RepK.length h2]
theorem RepK.keys : ∀ {kvs : List (Key × D)} {ws : List (Key × V)}, RepK G L kvs ws → kvs.map (·.1) = ws.map (·.1)
  | [], ws, h => by simp only [RepK] at h; subst h; rfl
  | (k, d) :: kvs, ws, h => by
    simp only [RepK] at h
    obtain ⟨v, r, rfl, h1, h2⟩ := h
    rw [List.map_cons, List.map_cons, RepK.keys h2]
theorem RepK.snoc : ∀ {kvs : List (Key × D)} {ws : List (Key × V)} {k : Key} {d : D} {v : V}, RepK G L kvs ws → Rep G L d v → RepK G L (kvs ++ [(k, d)]) (ws ++ [(k, v)])
  | [], ws, k, d, v, h, r => by simp only [RepK] at h; subst h; simp only [List.nil_append, RepK]; exact ⟨v, [], rfl, r, rfl⟩
  | (k', d') :: kvs, ws, k, d, v, h, r => by
    simp only [RepK] at h
    obtain ⟨v', r', rfl, h1, h2⟩ := h
    simp only [List.cons_append, RepK]
    exact ⟨v', _, rfl, h1, RepK.snoc h2 r⟩
theorem RepK.repl : ∀ {kvs : List (Key × D)} {ws : List (Key × V)} {k : Key} {d : D} {v : V}, RepK G L kvs ws → Rep G L d v →
    RepK G L (kvs.map fun kv => if kv.1 = k then (kv.1, d) else kv) (ws.map fun kv => if kv.1 = k then (kv.1, v) else kv)
  | [], ws, k, d, v, h, r => by simp only [RepK] at h; subst h; simp [RepK]
  | (k', d') :: kvs, ws, k, d, v, h, r => by
    simp only [RepK] at h
    obtain ⟨v', r', rfl, h1, h2⟩ := h
    simp only [List.map_cons]
    by_cases hk : k' = k
    · rw [if_pos hk, if_pos hk]; simp only [RepK]; exact ⟨v, _, rfl, r, RepK.repl h2 r⟩
    · rw [if_neg hk, if_neg hk]; simp only [RepK]; exact ⟨v', _, rfl, h1, RepK.repl h2 r⟩
theorem any_keys {α : Type} (k : Key) : ∀ kvs : List (Key × α), (kvs.any fun kv => decide (kv.1 = k)) = (kvs.map (·.1)).any fun x => decide (x = k)
  | [] => rfl
  | a :: r => by rw [List.any_cons, List.map_cons, List.any_cons, any_keys k r]
theorem RepK.put {kvs : List (Key × D)} {ws : List (Key × V)} {k : Key} {d : D} {v : V} (h : RepK G L kvs ws) (r : Rep G L d v) : RepK G L (putD kvs k d) (putK ws k v) := by
  unfold putD putK
  rw [any_keys k kvs, any_keys k ws, h.keys]
  split
  · exact h.repl r
  · exact h.snoc r
end
def Cop.py : Cop → CmpOp
  | .eq => .Eq | .ne => .NotEq | .lt => .Lt | .le => .LtE | .gt => .Gt | .ge => .GtE | .isn => .Is | .notn => .IsNot | .in_ => .In | .notin => .NotIn
def rC (G : Pg) (op : Cop) : R2 := fun x y H Q => ∃ L Z d e b, LOk G L Z H ∧ Now G L H d x ∧ Now G L H e y ∧ cmpD op d e = some b ∧ Q (.bl b) H
theorem isNon_of {L : Lk} {H : Hp} {d : D} {v : V} (h : Now G L H d v) : decide (v = .non) = isNon d := by
  cases d <;> simp only [Now, Rep] at h
  case non => subst h; rfl
  case bl => subst h; rfl
  case int => subst h; rfl
  case str => subst h; rfl
  case exc => obtain ⟨C, e, δ, w, rfl, _⟩ := h; rfl
  case tup => obtain ⟨_, _, rfl, _⟩ := h; rfl
  case tupU => obtain ⟨_, _, rfl, _⟩ := h; rfl
  case lst => obtain ⟨_, _, rfl, _⟩ := h; rfl
  case dct => obtain ⟨_, _, rfl, _⟩ := h; rfl
  case fn => obtain ⟨_, rfl, _⟩ := h; rfl
  case loc => obtain ⟨_, _, rfl⟩ := h; rfl
theorem op_cmp (hK : X.K = G.K) (hu : X.A.units + 64 < cLine) (op : Cop) : OpR X (compareOp op.py) (rC G op) := by
  intro pins s σ H x y v u Q I rx ry h
  obtain ⟨L, Z, d, e, b, k, nd, ne, hr, f⟩ := h
  unfold cmpD at hr
  split at hr
  case h_1 =>
    unfold eqD at hr
    split at hr
    · rename_i p q ep eq
      obtain ⟨hc, rfl⟩ := ite_some hr
      rw [Bool.and_eq_true] at hc
      exact op_eqD hu pins s σ H _ _ v u Q I rx ry ⟨p, q, by rw [hK]; exact nd.dp k ep, by rw [hK]; exact ne.dp k eq, hc.1, hc.2, f⟩
    · cases hr
  case h_2 =>
    rw [Option.map_eq_some_iff] at hr
    obtain ⟨b', hr, rfl⟩ := hr
    unfold eqD at hr
    split at hr
    · rename_i p q ep eq
      obtain ⟨hc, rfl⟩ := ite_some hr
      rw [Bool.and_eq_true] at hc
      exact op_neD hu pins s σ H _ _ v u Q I rx ry ⟨p, q, by rw [hK]; exact nd.dp k ep, by rw [hK]; exact ne.dp k eq, hc.1, hc.2, f⟩
    · cases hr
  case h_3 i j => simp only [Now, Rep] at nd ne; subst nd; subst ne; cases hr; exact op_lt pins s σ H _ _ v u Q I rx ry ⟨i, j, rfl, rfl, f⟩
  case h_4 i j => simp only [Now, Rep] at nd ne; subst nd; subst ne; cases hr; exact op_le pins s σ H _ _ v u Q I rx ry ⟨i, j, rfl, rfl, f⟩
  case h_5 i j => simp only [Now, Rep] at nd ne; subst nd; subst ne; cases hr; exact op_gt pins s σ H _ _ v u Q I rx ry ⟨i, j, rfl, rfl, f⟩
  case h_6 i j => simp only [Now, Rep] at nd ne; subst nd; subst ne; cases hr; exact op_ge pins s σ H _ _ v u Q I rx ry ⟨i, j, rfl, rfl, f⟩
  case h_7 i j => simp only [Now, Rep] at nd ne; subst nd; subst ne; cases hr; exact op_lt_str pins s σ H _ _ v u Q I rx ry ⟨i, j, rfl, rfl, f⟩
  case h_8 ys =>
    obtain ⟨hc, rfl⟩ := ite_some hr
    rw [Bool.and_eq_true] at hc
    have nx := flat_now nd hc.1
    simp only [Now, Rep] at ne
    obtain ⟨p, vs, rfl, h1, r1⟩ := ne
    refine op_in_seq pins s σ H _ _ v u Q I rx ry ⟨p, vs, rfl, .inr (by rw [hK]; exact sqT_mono (k.sub p) h1.sq), (flat_rep nx hc.1).1, flat_all r1 hc.2, ?_⟩
    rw [if_neg Bool.false_ne_true, flat_any nx hc.1 r1 hc.2]; exact f
  case h_9 ys =>
    obtain ⟨hc, rfl⟩ := ite_some hr
    rw [Bool.and_eq_true] at hc
    have nx := flat_now nd hc.1
    obtain ⟨p, vs, rfl, h1, r1⟩ := ne
    refine op_in_seq pins s σ H _ _ v u Q I rx ry ⟨p, vs, rfl, .inl (.inl h1), (flat_rep nx hc.1).1, flat_all r1 hc.2, ?_⟩
    rw [if_neg Bool.false_ne_true, flat_any nx hc.1 r1 hc.2]; exact f
  case h_10 i j => simp only [Now, Rep] at nd ne; subst nd; subst ne; cases hr; exact op_in_str pins s σ H _ _ v u Q I rx ry ⟨i, j, rfl, rfl, f⟩
  case h_11 kvs =>
    rw [Option.map_eq_some_iff] at hr
    obtain ⟨κ, hk, rfl⟩ := hr
    have ex := key_now nd hk
    subst ex
    obtain ⟨p, ws, rfl, h1, r1⟩ := ne
    cases ry
    refine d_in (by omega) I (.inl ⟨ws, κ, h1, rfl, rfl⟩) rx fun s' I' => ⟨.bl _, H, I', rfl, ?_⟩
    rw [r1.isSome κ]; exact f
  case h_12 ys =>
    rw [Option.map_eq_some_iff] at hr
    obtain ⟨b', hr, rfl⟩ := hr
    obtain ⟨hc, rfl⟩ := ite_some hr
    rw [Bool.and_eq_true] at hc
    have nx := flat_now nd hc.1
    simp only [Now, Rep] at ne
    obtain ⟨p, vs, rfl, h1, r1⟩ := ne
    refine op_notIn_seq pins s σ H _ _ v u Q I rx ry ⟨p, vs, rfl, .inr (by rw [hK]; exact sqT_mono (k.sub p) h1.sq), (flat_rep nx hc.1).1, flat_all r1 hc.2, ?_⟩
    rw [if_pos rfl, flat_any nx hc.1 r1 hc.2]; exact f
  case h_13 ys =>
    rw [Option.map_eq_some_iff] at hr
    obtain ⟨b', hr, rfl⟩ := hr
    obtain ⟨hc, rfl⟩ := ite_some hr
    rw [Bool.and_eq_true] at hc
    have nx := flat_now nd hc.1
    obtain ⟨p, vs, rfl, h1, r1⟩ := ne
    refine op_notIn_seq pins s σ H _ _ v u Q I rx ry ⟨p, vs, rfl, .inl (.inl h1), (flat_rep nx hc.1).1, flat_all r1 hc.2, ?_⟩
    rw [if_pos rfl, flat_any nx hc.1 r1 hc.2]; exact f
  case h_14 i j => simp only [Now, Rep] at nd ne; subst nd; subst ne; cases hr; exact op_notIn_str pins s σ H _ _ v u Q I rx ry ⟨i, j, rfl, rfl, f⟩
  case h_15 kvs =>
    rw [Option.map_eq_some_iff] at hr
    obtain ⟨κ, hk, rfl⟩ := hr
    have ex := key_now nd hk
    subst ex
    obtain ⟨p, ws, rfl, h1, r1⟩ := ne
    cases ry
    refine d_notIn (by omega) I (.inl ⟨ws, κ, h1, rfl, rfl⟩) rx fun s' I' => ⟨.bl _, H, I', rfl, ?_⟩
    rw [r1.isSome κ]; exact f
  case h_16 =>
    simp only [Now, Rep] at ne; subst ne; cases hr
    exact op_isN pins s σ H _ _ v u Q I rx ry ⟨rfl, by rw [isNon_of nd]; exact f⟩
  case h_17 =>
    simp only [Now, Rep] at ne; subst ne; cases hr
    exact op_notN pins s σ H _ _ v u Q I rx ry ⟨rfl, by rw [isNon_of nd]; exact f⟩
  case h_18 => cases hr

/-! ### truth -/
def rTr (G : Pg) : V → Hp → (Bool → Hp → Prop) → Prop := fun x H Q => ∃ L Z d b, LOk G L Z H ∧ Now G L H d x ∧ truthD d = some b ∧ Q b H
theorem emp_of {L : Lk} {ds : List D} {vs : List V} (r : RepL G L ds vs) : (!vs.isEmpty) = !ds.isEmpty := by
  cases ds with
  | nil => simp only [RepL] at r; subst r; rfl
  | cons d ds => simp only [RepL] at r; obtain ⟨v, r', rfl, _⟩ := r; rfl
theorem empK_of {L : Lk} {ds : List (Key × D)} {vs : List (Key × V)} (r : RepK G L ds vs) : (!vs.isEmpty) = !ds.isEmpty := by
  cases ds with
  | nil => simp only [RepK] at r; subst r; rfl
  | cons d ds => obtain ⟨k, d⟩ := d; simp only [RepK] at r; obtain ⟨v, r', rfl, _⟩ := r; rfl
theorem tr_ok (hK : X.K = G.K) : TruR X (rTr G) := by
  intro pins s σ H x v Q I rx h
  obtain ⟨L, Z, d, b, k, nd, hb, q⟩ := h
  cases d <;> simp only [truthD, Option.some.injEq, reduceCtorEq] at hb
  case non => simp only [Now, Rep] at nd; subst nd; exact tru_ok pins s σ H _ v Q I rx ⟨false, rfl, by rw [hb]; exact q⟩
  case bl c => simp only [Now, Rep] at nd; subst nd; exact tru_ok pins s σ H _ v Q I rx ⟨c, rfl, by rw [hb]; exact q⟩
  case int c => simp only [Now, Rep] at nd; subst nd; exact tru_ok pins s σ H _ v Q I rx ⟨_, rfl, by rw [hb]; exact q⟩
  case str c =>
    simp only [Now, Rep] at nd; subst nd
    obtain ⟨hc, rfl⟩ := ite_some hb
    refine tru_ok pins s σ H _ v Q I rx ⟨_, ⟨by rw [line_eq]; exact hc, rfl⟩, ?_⟩
    have : ((c.length : Int) != 0) = (c.length != 0) := by
      rw [Bool.eq_iff_iff]; simp
    rw [this]; exact q
  case tup c =>
    simp only [Now, Rep] at nd
    obtain ⟨p, vs, rfl, h1, r1⟩ := nd
    exact tru_ok pins s σ H _ v Q I rx ⟨_, .inr (.inl ⟨vs, by rw [hK]; exact sqT_mono (k.sub p) h1.sq, rfl⟩), by rw [emp_of r1, hb]; exact q⟩
  case lst c =>
    obtain ⟨p, vs, rfl, h1, r1⟩ := nd
    exact tru_ok pins s σ H _ v Q I rx ⟨_, .inl ⟨vs, .inl h1, rfl⟩, by rw [emp_of r1, hb]; exact q⟩
  case dct c =>
    obtain ⟨p, ws, rfl, h1, r1⟩ := nd
    cases rx
    exact d_truth I h1 fun s' I' => ⟨H, I', by rw [empK_of r1, hb]; exact q⟩
end
end Py
end
section
set_option Elab.async false
set_option linter.all false
set_option maxRecDepth 100000
set_option maxHeartbeats 4000000
/-! PyD: states of plain data behind code; calls. -/
namespace Py
open PySem PySem.Spec L2

/-- an error of the class c that carries d -/
def ExcOk (G : Pg) (L : Lk) (H : Hp) (c : Nat) (d : D) (cls : Value) (dd : Option Addr) : Prop :=
  ∃ C δ v, G.ca c C ∧ cls = .ref C ∧ dd = some δ ∧ Rd L.F δ (.xd [(G.fld c, v)]) ∧ Rep G L d v
/-- what is wanted behind m -/
def Pst (G : Pg) (L : Lk) (H : Hp) (σ : L2.St) (W : WX) {α : Type} (m : Res (α × Sto)) (Q : α → Lk → Hp → Prop) : Prop :=
  match m with
  | .ok (a, Z') => ∀ L' H', Step G L H L' Z' H' → Q a L' H'
  | .exn c d Z' => ∀ L' H' cls dd, Step G L H L' Z' H' → ExcOk G L' H' c d cls dd → W cls dd σ H'
  | .bad => False
section
variable {G : Pg} {L L1 : Lk} {H H1 : Hp} {σ : L2.St} {W : WX} {Z Z1 : Sto} {α β : Type}
theorem Pst.step {m : Res (α × Sto)} {Q : α → Lk → Hp → Prop} (p : Pst G L H σ W m Q) (s : Step G L H L1 Z1 H1) : Pst G L1 H1 σ W m Q := by
  cases m with
  | ok a => exact fun L' H' t => p L' H' (s.trans t)
  | exn c d Z' => exact fun L' H' cls dd t x => p L' H' cls dd (s.trans t) x
  | bad => exact p
theorem Pst.opt {o : Option α} {f : α → Res (β × Sto)} {Q : β → Lk → Hp → Prop} (p : Pst G L H σ W ((Res.opt o : Res α) >>= f) Q) : ∃ a, o = some a ∧ Pst G L H σ W (f a) Q := by
  cases o with
  | none => exact p.elim
  | some a => exact ⟨a, rfl, p⟩
theorem Pst.ite {c : Prop} [Decidable c] {m : Res (α × Sto)} {Q : α → Lk → Hp → Prop} (p : Pst G L H σ W (if c then m else .bad) Q) : c ∧ Pst G L H σ W m Q := by
  by_cases h : c
  · rw [if_pos h] at p; exact ⟨h, p⟩
  · rw [if_neg h] at p; exact p.elim
theorem Pst.ok {a : α} {Q : α → Lk → Hp → Prop} (p : Pst G L H σ W (.ok (a, Z)) Q) (k : LOk G L Z H) : Q a L H := p L H (.refl k)
/-- through a first part -/
theorem Pst.bind {m : Res (α × Sto)} {f : α × Sto → Res (β × Sto)} {Q : β → Lk → Hp → Prop} (p : Pst G L H σ W (m >>= f) Q) : Pst G L H σ W m (fun a L' H' => ∀ Z', LOk G L' Z' H' → m = .ok (a, Z') → Pst G L' H' σ W (f (a, Z')) Q) := by
  cases m with
  | ok a =>
    obtain ⟨a, Z1⟩ := a
    intro L' H' s Z' _ e
    cases e
    exact Pst.step (m := f (a, Z1)) p s
  | exn c d Z' => exact p
  | bad => exact p
theorem Pst.imp {m : Res (α × Sto)} {Q Q' : α → Lk → Hp → Prop} (p : Pst G L H σ W m Q) (h : ∀ a Z' L' H', m = .ok (a, Z') → Step G L H L' Z' H' → Q a L' H' → Q' a L' H') : Pst G L H σ W m Q' := by
  cases m with
  | ok a => obtain ⟨a, Z1⟩ := a; exact fun L' H' s => h a Z1 L' H' rfl s (p L' H' s)
  | exn c d Z' => exact p
  | bad => exact p
end

section
variable (G : Pg) (C : Orc) (W : WX)
def rdE (c : E) : TE := fun σ H Q => ∃ L η Z, EnvOk G L η σ ∧ LOk G L Z H ∧ Pst G L H σ W (ev C c η Z) (fun d L' H' => ∀ v, Rep G L' d v → Q v H')
def rdO (c : O) : TE := fun σ H Q => ∃ L η Z, EnvOk G L η σ ∧ LOk G L Z H ∧ Pst G L H σ W (evO C c η Z) (fun d L' H' => ∀ v, RepO G L' d v → Q v H')
def rdEs (c : Es) : TA := fun σ H Q => ∃ L η Z, EnvOk G L η σ ∧ LOk G L Z H ∧ Pst G L H σ W (evs C c η Z) (fun ds L' H' => ∀ vs, RepL G L' ds vs → Q vs H')
def rdOs (c : Os) : TA := fun σ H Q => ∃ L η Z, EnvOk G L η σ ∧ LOk G L Z H ∧ Pst G L H σ W (evOs C c η Z) (fun ds L' H' => ∀ vs, RepOs G L' ds vs → Q vs H')
/-- a test -/
def rdT (c : O) : TT := fun σ H Q => ∃ L η Z, EnvOk G L η σ ∧ LOk G L Z H ∧ Pst G L H σ W (evOo C (.some c) η Z) (fun b _ H' => Q b H')
def rdEo (c : Eo) : TO := fun σ H Q => ∃ L η Z, EnvOk G L η σ ∧ LOk G L Z H ∧ Pst G L H σ W (evEo C c η Z) (fun o _ H' => Q o H')
end
section
variable {G : Pg} {C : Orc} {W : WX} {L : Lk} {η : Vars} {σ : L2.St} {Z : Sto} {H : Hp} {α : Type} {Q : α → Lk → Hp → Prop}
theorem rdE_of {a : E} {f : D × Sto → Res (α × Sto)} {R : VK} (e : EnvOk G L η σ) (k : LOk G L Z H) (p : Pst G L H σ W (ev C a η Z >>= f) Q)
    (h : ∀ d Z1 L1 H1 v, Step G L H L1 Z1 H1 → Rep G L1 d v → Pst G L1 H1 σ W (f (d, Z1)) Q → R v H1) : rdE G C W a σ H R :=
  ⟨L, η, Z, e, k, p.bind.imp fun d Z' L' H' em st q v r => h d Z' L' H' v st r (q Z' st.ok em)⟩
theorem rdO_of {a : O} {f : Ov × Sto → Res (α × Sto)} {R : VK} (e : EnvOk G L η σ) (k : LOk G L Z H) (p : Pst G L H σ W (evO C a η Z >>= f) Q)
    (h : ∀ d Z1 L1 H1 v, Step G L H L1 Z1 H1 → RepO G L1 d v → Pst G L1 H1 σ W (f (d, Z1)) Q → R v H1) : rdO G C W a σ H R :=
  ⟨L, η, Z, e, k, p.bind.imp fun d Z' L' H' em st q v r => h d Z' L' H' v st r (q Z' st.ok em)⟩
theorem rdEs_of {a : Es} {f : List D × Sto → Res (α × Sto)} {R : List V → Hp → Prop} (e : EnvOk G L η σ) (k : LOk G L Z H) (p : Pst G L H σ W (evs C a η Z >>= f) Q)
    (h : ∀ d Z1 L1 H1 v, Step G L H L1 Z1 H1 → RepL G L1 d v → Pst G L1 H1 σ W (f (d, Z1)) Q → R v H1) : rdEs G C W a σ H R :=
  ⟨L, η, Z, e, k, p.bind.imp fun d Z' L' H' em st q v r => h d Z' L' H' v st r (q Z' st.ok em)⟩
theorem rdEs_of' {a : Es} {f : List D × Sto → Res (α × Sto)} {R : List V → Hp → Prop} (e : EnvOk G L η σ) (k : LOk G L Z H) (p : Pst G L H σ W (evs C a η Z >>= f) Q)
    (h : ∀ d Z1 L1 H1 v, evs C a η Z = .ok (d, Z1) → Step G L H L1 Z1 H1 → RepL G L1 d v → Pst G L1 H1 σ W (f (d, Z1)) Q → R v H1) : rdEs G C W a σ H R :=
  ⟨L, η, Z, e, k, p.bind.imp fun d Z' L' H' em st q v r => h d Z' L' H' v em st r (q Z' st.ok em)⟩
theorem rdOs_of {a : Os} {f : List Ov × Sto → Res (α × Sto)} {R : List V → Hp → Prop} (e : EnvOk G L η σ) (k : LOk G L Z H) (p : Pst G L H σ W (evOs C a η Z >>= f) Q)
    (h : ∀ d Z1 L1 H1 v, Step G L H L1 Z1 H1 → RepOs G L1 d v → Pst G L1 H1 σ W (f (d, Z1)) Q → R v H1) : rdOs G C W a σ H R :=
  ⟨L, η, Z, e, k, p.bind.imp fun d Z' L' H' em st q v r => h d Z' L' H' v st r (q Z' st.ok em)⟩
theorem rdEo_of {a : Eo} {f : Option Int × Sto → Res (α × Sto)} {R : Option Int → Hp → Prop} (e : EnvOk G L η σ) (k : LOk G L Z H) (p : Pst G L H σ W (evEo C a η Z >>= f) Q)
    (h : ∀ d Z1 L1 H1, Step G L H L1 Z1 H1 → Pst G L1 H1 σ W (f (d, Z1)) Q → R d H1) : rdEo G C W a σ H R :=
  ⟨L, η, Z, e, k, p.bind.imp fun d Z' L' H' em st q => h d Z' L' H' st (q Z' st.ok em)⟩
theorem rdT_of {a : O} {f : Bool × Sto → Res (α × Sto)} {R : Bool → Hp → Prop} (e : EnvOk G L η σ) (k : LOk G L Z H) (p : Pst G L H σ W (evOo C (.some a) η Z >>= f) Q)
    (h : ∀ d Z1 L1 H1, Step G L H L1 Z1 H1 → Pst G L1 H1 σ W (f (d, Z1)) Q → R d H1) : rdT G C W a σ H R :=
  ⟨L, η, Z, e, k, p.bind.imp fun d Z' L' H' em st q => h d Z' L' H' st (q Z' st.ok em)⟩
end
theorem _root_.L2.PE.imp {X : Cx} {e : Expr} {t t' : TE} (h : PE X e t) (i : ∀ σ H Q, t' σ H Q → t σ H Q) : PE X e t' := ⟨fun pins s σ H Q I q => h.run pins s σ H Q I (i σ H Q q)⟩
theorem _root_.L2.PT.imp {X : Cx} {e : Expr} {t t' : TT} (h : PT X e t) (i : ∀ σ H Q, t' σ H Q → t σ H Q) : PT X e t' := ⟨fun pins s σ H Q I q => h.run pins s σ H Q I (i σ H Q q)⟩
theorem _root_.L2.PW.imp {X : Cx} {e : Expr} {t t' : TT} (h : PW X e t) (i : ∀ σ H Q, t' σ H Q → t σ H Q) : PW X e t' := ⟨fun wh pins s σ H Q I q => h.run wh pins s σ H Q I (i σ H Q q)⟩
theorem _root_.L2.PA.imp {X : Cx} {e : List Expr} {t t' : TA} (h : PA X e t) (i : ∀ σ H Q, t' σ H Q → t σ H Q) : PA X e t' := ⟨fun pos pins s σ H Q I q => h.run pos pins s σ H Q I (i σ H Q q)⟩
theorem _root_.L2.PO.imp {X : Cx} {e : Option Expr} {t t' : TO} (h : PO X e t) (i : ∀ σ H Q, t' σ H Q → t σ H Q) : PO X e t' := ⟨fun pins s σ H Q I q => h.run pins s σ H Q I (i σ H Q q)⟩
theorem _root_.L2.PS.imp {X : Cx} {e : Stmt} {t t' : TS} (h : PS X e t) (i : ∀ D σ H, t' D σ H → t D σ H) : PS X e t' := ⟨fun pins s σ H D I q => h.run pins s σ H D I (i D σ H q)⟩
theorem _root_.L2.PSs.imp {X : Cx} {e : List Stmt} {t t' : TS} (h : PSs X e t) (i : ∀ D σ H, t' D σ H → t D σ H) : PSs X e t' := ⟨fun pins s σ H D I q => h.run pins s σ H D I (i D σ H q)⟩

/-! ### defs -/
/-- no exception is handled; or one is, and stands in the state -/
def Mode (cal : Bool) (A : Around) (outer : List Env) (H : Hp) (s : Shared) : Prop :=
  if cal = true then A.handled = none else ∃ p : Addr × Obj, L2H.Hot1 A p ∧ L2H.PinOk outer H s p
/-- a def at f keeps the promise sp; the marks of repr that run: none -/
structure FnG (cal : Bool) (P : Program) (w : World) (K : PySem.W.Frag) (mg : Str → Option Value) (base : Heap) (n : Nat) (f : Addr) (fd : FuncData) (ps : List Str) (sp : Sp) : Prop where
  len : ∀ vs H Q E, sp vs H Q E → vs.length = ps.length
  run : ∀ (A : Around) (outer : List Env) (s : Shared) (H : Hp) (args : Args) (us : List Value) (vs : List V) (Q : VK) (E : XK), L2H.RoomH n A → A.guards = some [] → Mode cal A outer H s → Env0 P w K mg base A outer s H →
    BindsTo s fd args (ps.zip us) → Vals vs us → sp vs H Q E → codeAny (model P w) A (.call (.ref f) args) (CR (L2N.CX P w) outer P w H s Q E) s
theorem FnG.mono {cal : Bool} {P : Program} {w : World} {K : PySem.W.Frag} {mg : Str → Option Value} {base : Heap} {j k : Nat} {f : Addr} {fd : FuncData} {ps : List Str} {sp : Sp} (F : FnG cal P w K mg base j f fd ps sp) (h : j ≤ k) :
    FnG cal P w K mg base k f fd ps sp := ⟨F.len, fun A outer s H args us vs Q E hr => F.run A outer s H args us vs Q E (hr.mono h)⟩
/-- the context of a def's body, in either mode -/
def cxM (cal : Bool) (P : Program) (w : World) (K : PySem.W.Frag) (mg : Str → Option Value) (base : Heap) (N : List Str) (qual : Str) (scope : Scope) (f : Addr) (cd : Value) (A : Around) (outer : List Env) (s : Shared) (H : Hp) (E : XK) (p : Addr × Obj) : Cx :=
  if cal = true then cxOf (L2N.CX P w) P w K mg base N qual scope f cd A outer s H E else L2H.cxH (L2N.CX P w) P w K mg base N qual scope f cd A outer s H E p
theorem fnG_of {cal : Bool} {P : Program} {w : World} {K : PySem.W.Frag} {mg : Str → Option Value} {base : Heap} {k : Nat} {f : Addr} {name qual : Str} {params : Arguments} {body : List Stmt} {scope : Scope} {dV kV doc pm cdv ct oc : Value} {an od : Option Addr}
    {oslots : Array (Option Value)} {N ps : List Str} {sp : Sp} (look : K.lookup f = some ⟨oc, od, .func (PySem.W.fnOf name qual params body scope dV kV doc pm an cdv ct), oslots⟩) (code : PySem.W.codeIn K cdv qual = true) (S : FnScope N ps scope)
    (len : ∀ vs H Q E, sp vs H Q E → vs.length = ps.length)
    (hbody : ∀ (A : Around) (outer : List Env) (s : Shared) (H : Hp) (vs : List V) (Q : VK) (E : XK) (p : Addr × Obj), L2H.RoomH k (A.deeper (PyProof.Rows.envOfC qual scope s.heap.objs.size f cdv)) → A.guards = some [] → (if cal = true then A.handled = none else L2H.Hot1 A p) → sp vs H Q E →
      ∃ t, PSs (cxM cal P w K mg base N qual scope f cdv A outer s H E p) body t ∧ t { nx := fun _ H' => Q .non H', rt := Q } (start N vs) H) :
    FnG cal P w K mg base (k + 1) f (PySem.W.fnOf name qual params body scope dV kV doc pm an cdv ct) ps sp := by
  refine ⟨len, fun A outer s H args us vs Q E hr hg hm e0 bnd r hsp => ?_⟩
  have hl := len _ _ _ _ hsp
  have kIn : K.In s.heap := e0.mod.kin.keeps fun b o e => (e0.bs b o e).1
  have nolim : s.heap.NoLimit := e0.mod.nolimit.keeps fun b o e => (e0.bs b o e).1
  have hkind : ∀ y ∈ ps.zip us, scope.names.lookup y.1 = some .local ∨ (scope.names.lookup y.1 = some .cell ∧ ((cellsFrom (s.heap.objs.size + 1) scope.names []).lookup y.1).isSome = true) := fun ⟨m, _⟩ hy => by
    cases S.par m (List.of_mem_zip hy).1 with
    | inl q => exact Or.inl q
    | inr q => exact Or.inr ⟨q, PySem.W.cellsFrom_some _ _ _ (Or.inl q)⟩
  have go : ∀ (p : Addr × Obj) (hp : if cal = true then A.handled = none else L2H.Hot1 A p) (sa : Shared),
      (∀ vs', Vals vs' us → vs'.length = ps.length → Inv (cxM cal P w K mg base N qual scope f cdv A outer s H E p) [] (start N vs') H sa) →
      wpAny (model P w) (A.deeper (PyProof.Rows.envOfC qual scope s.heap.objs.size f cdv)) (execs body (PyProof.Rows.envOfC qual scope s.heap.objs.size f cdv)) (fun fl s' => match fl with
        | .ret u => CE outer P w H s Q u s'
        | .next => CE outer P w H s Q .none s'
        | _ => False) (fun e s' => (cxM cal P w K mg base N qual scope f cdv A outer s H E p).xe e s') sa := by
    intro p hp sa hI
    obtain ⟨t, ht, hq⟩ := hbody A outer s H vs Q E p (hr.deeper _) hg hp hsp
    have I := hI vs r hl
    cases cal with
    | true =>
      refine wpAny_mono (ht.run [] sa (start N vs) H _ I hq) (fun fl s' hs => ?_) fun e s' hs => hs
      cases fl with
      | ret u => obtain ⟨v, σ', H', J, rv, q⟩ := hs; exact ⟨v, H', J.os, J.bare, J.base, J.hok, rv, q⟩
      | next => obtain ⟨σ', H', J, q⟩ := hs; exact ⟨V.non, H', J.os, J.bare, J.base, J.hok, rfl, q⟩
      | brk => obtain ⟨_, _, _, q⟩ := hs; exact q.elim
      | cont => obtain ⟨_, _, _, q⟩ := hs; exact q.elim
    | false =>
      refine wpAny_mono (ht.run [] sa (start N vs) H _ I hq) (fun fl s' hs => ?_) fun e s' hs => hs
      cases fl with
      | ret u => obtain ⟨v, σ', H', J, rv, q⟩ := hs; exact ⟨v, H', J.os, J.bare, J.base, J.hok, rv, q⟩
      | next => obtain ⟨σ', H', J, q⟩ := hs; exact ⟨V.non, H', J.os, J.bare, J.base, J.hok, rfl, q⟩
      | brk => obtain ⟨_, _, _, q⟩ := hs; exact q.elim
      | cont => obtain ⟨_, _, _, q⟩ := hs; exact q.elim
  refine codeAny_call_function hr.depth (kIn _ _ look) rfl S.co S.gen rfl (PySem.W.codeRec_of kIn code) (bnd _ _ _ _ ?_)
  refine wpAny_newFunctionEnv_cells S.kind hkind fun env he sa x => ?_
  subst he
  refine ⟨nolim.keeps x.toInCall.keep, codeAny_func ?_⟩
  cases cal with
  | true =>
    refine wpAny_mono (go (0, default) hm sa fun vs' r' hl' => inv_start S hm e0 hl' r' x) (fun fl s' hs => ?_) fun e s' hs => hs
    cases fl <;> first | exact hs | exact (show False from hs).elim
  | false =>
    obtain ⟨p, hot, pin⟩ := hm
    refine wpAny_mono (go p hot sa fun vs' r' hl' => L2H.inv_startH S pin e0 hl' r' x) (fun fl s' hs => ?_) fun e s' hs => hs
    cases fl <;> first | exact hs | exact (show False from hs).elim
section
variable {X : Cx} {k : Nat} {f : Addr} {fd : FuncData} {ps : List Str} {sp : Sp} {ds : List Value} {dvs : List V} {E : L2.St → XK} {x : Str} {p pos : Pos} {e : Expr} {es : List Expr} {t : TA} {W : WX}
/-- the callee runs -/
theorem run_fnG {cal : Bool} {pins : List (Addr × Obj)} {σ : L2.St} {H : Hp} {s : Shared} {Q : VK} {us us' : List Value} {kw : List (Str × Value)} {vs' : List V} (F : FnG cal X.prog X.w X.K X.mg X.base k f fd ps sp) (hr : L2H.RoomH k X.A) (hg : X.A.guards = some [])
    (hm : Mode cal X.A X.stack H s) (tk : L2N.Takes X W) (I : Inv X pins σ H s) (hb : BindsTo s fd ⟨us, kw⟩ (ps.zip us')) (r : Vals vs' us') (h : sp vs' H Q (fun cls d H' => W cls d σ H')) :
    codeAny (model X.prog X.w) X.A (.call (.ref f) ⟨us, kw⟩) (fun r s' => match r with
      | .ok (.ret u) => EP X pins σ Q u s'
      | .ok _ => False
      | .error e => X.xe e s') s := by
  refine codeAny_mono (F.run X.A X.stack s H ⟨us, kw⟩ us' vs' Q _ hr hg hm I.env0 hb r h) fun r s' hq => ?_
  cases r with
  | error e => exact tk e s' (L2N.XE.of_call I (fun cls d H' h => h) hq)
  | ok fl =>
    cases fl with
    | ret u => exact I.after hq
    | next => exact hq.elim
    | brk => exact hq.elim
    | cont => exact hq.elim
/-- what the context says of the mode -/
def CxMode (cal : Bool) (X : Cx) : Prop := if cal = true then X.A.handled = none else L2H.HotC X
theorem CxMode.at {cal : Bool} {pins : List (Addr × Obj)} {σ : L2.St} {H : Hp} {s : Shared} (m : CxMode cal X) (I : Inv X pins σ H s) : Mode cal X.A X.stack H s := by
  cases cal with
  | true => exact m
  | false =>
    obtain ⟨p, hot, hp⟩ := m
    have P1 := I.pin p (List.mem_append_left _ hp)
    exact ⟨p, hot, P1.1, P1.2.1, fun hm => (List.mem_cons.mp (I.stkSub p.1 hm)).elim P1.2.2.1 P1.2.2.2.1, P1.2.2.2.2⟩
end
end Py
end
section
set_option Elab.async false
set_option linter.all false
set_option maxRecDepth 100000
set_option maxHeartbeats 4000000
/-! PyE: expressions are what the interpreter says, construct by construct. -/
namespace Py
open PySem PySem.Spec L2

/-! ### calls: the callee's view of the heap, and back -/
section
variable {G : Pg} {L L' : Lk} {H H' : Hp} {S S' T : List Cell}
theorem Lle.forget (L : Lk) : Lle { L with τ := [] } L := ⟨fun _ _ h => h, ⟨[], by simp⟩, ⟨L.τ, by simp⟩⟩
mutual
theorem Rep.forget : ∀ (d : D) (v : V), Rep G L d v → Rep G { L with τ := [] } d v
  | .non, _, h => h
  | .bl _, _, h => h
  | .int _, _, h => h
  | .str _, _, h => h
  | .tup ds, v, h => by
    simp only [Rep] at h ⊢
    obtain ⟨p, vs, e, s, r⟩ := h
    exact ⟨p, vs, e, s, RepL.forget ds vs r⟩
  | .lst ds, v, h => by
    simp only [Rep] at h ⊢
    obtain ⟨p, vs, e, s, r⟩ := h
    exact ⟨p, vs, e, s, RepL.forget ds vs r⟩
  | .tupU ds, v, h => by
    simp only [Rep] at h ⊢
    obtain ⟨p, vs, e, s, r⟩ := h
    exact ⟨p, vs, e, s, RepL.forget ds vs r⟩
  | .dct kvs, v, h => by
    simp only [Rep] at h ⊢
    obtain ⟨p, vs, e, s, r⟩ := h
    exact ⟨p, vs, e, s, RepK.forget kvs vs r⟩
  | .fn f, v, h => h
  | .exc c d, v, h => by
    simp only [Rep] at h ⊢
    obtain ⟨C, e, δ, w, e1, ca, s1, s2, r⟩ := h
    exact ⟨C, e, δ, w, e1, ca, s1, s2, Rep.forget d w r⟩
  | .loc k, v, h => h
theorem RepL.forget : ∀ (ds : List D) (vs : List V), RepL G L ds vs → RepL G { L with τ := [] } ds vs
  | [], _, h => h
  | d :: ds, vs, h => by
    simp only [RepL] at h ⊢
    obtain ⟨v, r, e, h1, h2⟩ := h
    exact ⟨v, r, e, Rep.forget d v h1, RepL.forget ds r h2⟩
theorem RepK.forget : ∀ (ds : List (Key × D)) (vs : List (Key × V)), RepK G L ds vs → RepK G { L with τ := [] } ds vs
  | [], _, h => h
  | (k, d) :: ds, vs, h => by
    simp only [RepK] at h ⊢
    obtain ⟨v, r, e, h1, h2⟩ := h
    exact ⟨v, r, e, Rep.forget d v h1, RepK.forget ds r h2⟩
end
theorem CellOk.forget {c : Cell} {a : Addr} (h : CellOk G L H c a) : CellOk G { L with τ := [] } H c a := by
  cases c with
  | lst xs => obtain ⟨n, vs, e, r⟩ := h; exact ⟨n, vs, e, RepL.forget _ _ r⟩
  | dct xs => obtain ⟨n, vs, e, r⟩ := h; exact ⟨n, vs, e, RepK.forget _ _ r⟩
  | frz d => exact ⟨h.1, Rep.forget _ _ h.2⟩
theorem LOk.forget (k : LOk G L ⟨S, T⟩ H) : LOk G { L with τ := [] } ⟨S, []⟩ H :=
  ⟨k.subx, k.lenS, rfl, by simpa using (List.nodup_append.mp k.nd).1, fun i c a h1 h2 => (k.cS i c a h1 h2).forget, fun i c a h1 h2 => by simp at h1⟩
theorem Step.back (k : LOk G L ⟨S, T⟩ H) (s : Step G { L with τ := [] } H L' ⟨S', []⟩ H') : Step G L H { L' with τ := L.τ } ⟨S', T⟩ H' := by
  have nd := List.nodup_append.mp k.nd
  have e0 : L'.τ = [] := List.eq_nil_of_length_eq_zero s.ok.lenT
  have l' : Lle L' { L' with τ := L.τ } := ⟨fun _ _ h => h, ⟨[], by simp⟩, ⟨L.τ, by rw [e0]; simp⟩⟩
  have le : Lle L { L' with τ := L.τ } := ⟨s.le.Fx, s.le.ρ, ⟨[], by simp⟩⟩
  have hF : ∀ a, L.F a ≠ none → L'.F a ≠ none := fun a h => by
    cases e : L.F a with
    | none => exact absurd e h
    | some o => obtain ⟨u, r⟩ := rd_some e; exact rd_ne (s.le.F a u r)
  refine ⟨⟨s.ok.subx, s.ok.lenS, k.lenT, ?_, fun i c a h1 h2 => (s.ok.cS i c a h1 h2).mono l' (fun n => n) (fun n => n) rfl, fun i c a h1 h2 => ?_⟩, le, fun a o h n => ?_, s.keep, s.new⟩
  · refine List.nodup_append.mpr ⟨by simpa [e0] using s.ok.nd, nd.2.1, fun a ha b hb e => ?_⟩
    subst e
    rcases s.new a ha with q | q
    · exact nd.2.2 a q a hb rfl
    · exact k.τne hb q
  · have co := k.cT i c a h1 h2
    have hm : a ∈ L.τ := mem_of_get h2
    have out : L.F a = none → ¬ Own { L with τ := [] } a := fun n w => by
      rcases w with w | w | w
      · exact w n
      · exact nd.2.2 a w a hm rfl
      · cases w
    cases c with
    | lst xs =>
      obtain ⟨n, vs, e, r⟩ := co
      obtain ⟨e', n'⟩ := s.out a _ e (out n)
      exact ⟨Classical.byContradiction fun q => n' (.inl q), vs, e', RepL.mono le _ _ r⟩
    | dct xs =>
      obtain ⟨n, vs, e, r⟩ := co
      obtain ⟨e', n'⟩ := s.out a _ e (out n)
      exact ⟨Classical.byContradiction fun q => n' (.inl q), vs, e', RepK.mono le _ _ r⟩
    | frz d => exact ⟨hF a co.1, Rep.mono le _ _ co.2⟩
  · have n0 : ¬ Own { L with τ := [] } a := fun w => n (by
      rcases w with w | w | w
      · exact .inl w
      · exact .inr (.inl w)
      · cases w)
    obtain ⟨e', n'⟩ := s.out a o h n0
    refine ⟨e', fun w => ?_⟩
    rcases w with w | w | w
    · exact n' (.inl w)
    · exact n' (.inr (.inl w))
    · exact n (.inr (.inr w))
theorem Rep.back {τ : List Addr} (e0 : L'.τ = []) {d : D} {v : V} (h : Rep G L' d v) : Rep G { L' with τ := τ } d v :=
  Rep.mono (L := L') (L' := { L' with τ := τ }) ⟨fun _ _ h => h, ⟨[], by simp⟩, ⟨τ, by rw [e0]; simp⟩⟩ _ _ h
end
/-- a def's promise: what the interpreter says of it -/
def spF (G : Pg) (C : Orc) (f ar : Nat) : Sp := fun vs H Q E => ∃ L S ds, L.τ = [] ∧ ds.length = ar ∧ RepL G L ds vs ∧ LOk G L ⟨S, []⟩ H ∧
  match C f ds S with
  | .ok (d, S') => ∀ L' H' v, Step G L H L' ⟨S', []⟩ H' → Rep G L' d v → Q v H'
  | .exn c d Z' => ∀ L' H' cls dd, Step G L H L' ⟨Z'.S, []⟩ H' → ExcOk G L' H' c d cls dd → E cls dd H'
  | .bad => False

/-! ### what is known of the program -/
structure FnInfo where
  name : Str
  ps : List Str
  /-- how it is called: places, keywords as written, the turn into the parameters' order -/
  pats : List (Nat × List Str × List Nat)
  /-- it may be called where an exception is handled -/
  hot : Bool
structure Tab where
  /-- no exception is handled here -/
  cal : Bool
  fns : List FnInfo
  consts : List (Str × D)
  free : List Str
  /-- the error classes that are made: the name, the field; the classes that are caught: the name, which of them -/
  exs : List (Str × Str) := []
  hds : List (Str × List Nat) := []
def FnFact (G : Pg) (C : Orc) (n : Nat) (X : Cx) (f : Nat) (info : FnInfo) : Prop :=
  ∃ a fd, X.mg info.name = some (.ref a) ∧ G.fa f a ∧ PySem.W.keepIn X.K (.ref a) = true ∧
    (∀ pat ∈ info.pats, ∀ (s : Shared) (us ws : List Value), us.length = pat.1 → ws.length = pat.2.1.length → BindsTo s fd ⟨us, pat.2.1.zip ws⟩ (info.ps.zip (permD pat.2.2 (us ++ ws)))) ∧
    ∀ cal, (cal = true ∨ info.hot = true) → FnG cal X.prog X.w X.K X.mg X.base n a fd info.ps (spF G C f info.ps.length)
/-- code at X may be read so -/
structure Fit (G : Pg) (T : Tab) (C : Orc) (n : Nat) (X : Cx) (W : WX) : Prop where
  hK : X.K = G.K
  calm : T.cal = true → X.calm = true
  mode : CxMode T.cal X
  room : L2H.RoomH n X.A
  gd : X.A.guards = some []
  nd : X.N.Nodup
  tk : L2N.Takes X W
  pass : PassesOwn (model X.prog X.w) X.A X.env X.xe
  free : ∀ x ∈ T.free, X.mg x = none
  cns : ∀ x d, T.consts.lookup x = some d → ∃ u v, X.mg x = some u ∧ RelV v u ∧ ∀ L, Rep G L d v
  fns : ∀ (f : Nat) info, T.fns[f]? = some info → FnFact G C n X f info
section
variable {G : Pg} {T : Tab} {C : Orc} {n : Nat} {X : Cx} {W : WX}
theorem Fit.hu (F : Fit G T C n X W) : X.A.units + 64 < cLine := by have := F.room.un; omega
abbrev SE (G : Pg) (C : Orc) (W : WX) (X : Cx) (e : Expr) (c : E) : Prop := PE X e (rdE G C W c)
abbrev SO (G : Pg) (C : Orc) (W : WX) (X : Cx) (e : Expr) (c : O) : Prop := PE X e (rdO G C W c)
abbrev STt (G : Pg) (C : Orc) (W : WX) (X : Cx) (e : Expr) (c : O) : Prop := PT X e (rdT G C W c)
variable {e a b : Expr} {pos p p2 : Pos}
/-! ### constants, names -/
theorem s_const {d : D} {v : V} (h : PE X e (tC v)) (r : ∀ L, Rep G L d v) : SE G C W X e (.const d) := h.imp fun σ H Q ⟨L, η, Z, en, k, q⟩ => by
  simp only [ev] at q
  exact q.ok k v (r L)
theorem s_int {i : Int} {j : Nat} : SE G C W X (.Constant (.int i) j pos) (.const (.int i)) := s_const pe_int fun _ => by simp only [Rep]
theorem s_str {i : Str} {j : Nat} : SE G C W X (.Constant (.str i) j pos) (.const (.str i)) := s_const pe_str fun _ => by simp only [Rep]
theorem s_bl {i : Bool} {j : Nat} : SE G C W X (.Constant (.bool i) j pos) (.const (.bl i)) := s_const pe_bl fun _ => by simp only [Rep]
theorem s_non {j : Nat} : SE G C W X (.Constant .none j pos) (.const .non) := s_const pe_non fun _ => by simp only [Rep]
theorem s_glob {x : Str} {d : D} (F : Fit G T C n X W) (h : T.consts.lookup x = some d) (hg : Gl X x) (hd : (x == ("__debug__" : Str)) = false) : SE G C W X (.Name x pos) (.const d) := by
  obtain ⟨u, v, e, r, q⟩ := F.cns x d h
  exact s_const (pe_glob hg e r hd) q
theorem s_fn {x : Str} {f : Nat} {info : FnInfo} (F : Fit G T C n X W) (h : T.fns[f]? = some info) (hx : info.name = x) (hg : Gl X x) (hd : (x == ("__debug__" : Str)) = false) : SE G C W X (.Name x pos) (.const (.fn f)) := by
  obtain ⟨a, fd, e, fa, _⟩ := F.fns f info h
  rw [hx] at e
  exact s_const (pe_glob hg e (v := .ref a) rfl hd) fun L => by simp only [Rep]; exact ⟨a, rfl, fa⟩
theorem s_name {x : Str} {i : Nat} (hN : X.N[i]? = some x) (hv : Vis X.env.scope x) (hd : (x == ("__debug__" : Str)) = false) (hcd : (x == ("__classdict__" : Str)) = false) : SE G C W X (.Name x pos) (.name i) :=
  (pe_var hN hv hd hcd).imp fun σ H Q ⟨L, η, Z, en, k, q⟩ => by
    simp only [ev] at q
    split at q
    · rename_i d hi
      obtain ⟨v, e1, r⟩ := en.at_ i _ hi
      exact ⟨v, e1, q.ok k v r⟩
    · exact q.elim
theorem s_fname {x : Str} {i : Nat} (hN : X.N[i]? = some x) (hv : Vis X.env.scope x) (hd : (x == ("__debug__" : Str)) = false) (hcd : (x == ("__classdict__" : Str)) = false) : SE G C W X (.Name x pos) (.fname i) :=
  (pe_var hN hv hd hcd).imp fun σ H Q ⟨L, η, Z, en, k, q⟩ => by
    simp only [ev] at q
    split at q
    · rename_i d hi
      obtain ⟨v, e1, r⟩ := en.at_ i _ hi
      exact ⟨v, e1, q.ok k v r⟩
    · rename_i j hi
      obtain ⟨a, ha, e1⟩ := en.at_ i _ hi
      unfold Sto.fix at q
      split at q
      · rename_i c hc
        obtain ⟨L', st, r⟩ := k.fixT ha hc
        exact ⟨_, e1, q L' H st _ r⟩
      · exact q.elim
    · exact q.elim
theorem so_name {x : Str} {i : Nat} (hN : X.N[i]? = some x) (hv : Vis X.env.scope x) (hd : (x == ("__debug__" : Str)) = false) (hcd : (x == ("__classdict__" : Str)) = false) : SO G C W X (.Name x pos) (.t i) :=
  (pe_var hN hv hd hcd).imp fun σ H Q ⟨L, η, Z, en, k, q⟩ => by
    simp only [evO] at q
    split at q
    · rename_i d hi
      obtain ⟨v, e1, r⟩ := en.at_ i _ hi
      exact ⟨v, e1, q.ok k v r⟩
    · rename_i j hi
      obtain ⟨a, ha, e1⟩ := en.at_ i _ hi
      exact ⟨_, e1, q.ok k _ ⟨a, ha, rfl⟩⟩
    · exact q.elim
theorem so_e {c : E} (h : SE G C W X e c) : SO G C W X e (.e c) := h.imp fun σ H Q ⟨L, η, Z, en, k, q⟩ => by
  simp only [evO] at q
  refine rdE_of en k q fun d Z1 L1 H1 v st r q => ?_
  exact q.ok st.ok v r
/-! ### operators -/
theorem s_bin {op : Bop} {ca cb : O} (F : Fit G T C n X W) (ha : SO G C W X a ca) (hb : SO G C W X b cb) : SE G C W X (.BinOp a op.py b pos) (.bin op ca cb) :=
  (pe_op (op_bin F.hK op) ha hb).imp fun σ H Q ⟨L, η, Z, en, k, q⟩ => by
    simp only [ev] at q
    refine rdO_of en k q fun d Z1 L1 H1 v st r q => ?_
    refine rdO_of (en.mono st.le) st.ok q fun d2 Z2 L2' H2 v2 st2 r2 q => ?_
    obtain ⟨x, ex, q⟩ := q.opt
    obtain ⟨y, ey, q⟩ := q.opt
    obtain ⟨z, ez, q⟩ := q.opt
    exact ⟨L2', Z2, x, y, z, st2.ok, see_now st2.ok (r.mono st2.le) ex, see_now st2.ok r2 ey, ez, fun L' H' v st3 r3 => q L' H' st3 v r3⟩
theorem s_cmp {op : Cop} {ca cb : O} (F : Fit G T C n X W) (ha : SO G C W X a ca) (hb : SO G C W X b cb) (hm : behindInMarks op.py b = false) : SE G C W X (.Compare a [op.py] [b] pos) (.cmp op ca cb) :=
  (pe_cmpR (op_cmp F.hK F.hu op) ha hb hm).imp fun σ H Q ⟨L, η, Z, en, k, q⟩ => by
    simp only [ev] at q
    refine rdO_of en k q fun d Z1 L1 H1 v st r q => ?_
    refine rdO_of (en.mono st.le) st.ok q fun d2 Z2 L2' H2 v2 st2 r2 q => ?_
    obtain ⟨x, ex, q⟩ := q.opt
    obtain ⟨y, ey, q⟩ := q.opt
    obtain ⟨z, ez, q⟩ := q.opt
    exact ⟨L2', Z2, x, y, z, st2.ok, see_now st2.ok (r.mono st2.le) ex, see_now st2.ok r2 ey, ez, q.ok st2.ok _ (by simp only [Rep])⟩
theorem s_chain {op op2 : Cop} {c : Expr} {ca cb cc : E} (F : Fit G T C n X W) (ha : SE G C W X a ca) (hb : SE G C W X b cb) (hc : SE G C W X c cc) (hm : lastMarks [op.py, op2.py] [b, c] = false) :
    SE G C W X (.Compare a [op.py, op2.py] [b, c] pos) (.chain op op2 ca cb cc) := by
  refine (pe_chain (op_cmp F.hK F.hu op) (op_cmp F.hK F.hu op2) ha hb hc hm).imp fun σ H Q ⟨L, η, Z, en, k, q⟩ => ?_
  simp only [ev] at q
  refine rdE_of en k q fun d Z1 L1 H1 v st r q => ?_
  refine rdE_of (en.mono st.le) st.ok q fun d2 Z2 L2' H2 v2 st2 r2 q => ?_
  obtain ⟨z, ez, q⟩ := q.opt
  refine ⟨L2', Z2, d, d2, z, st2.ok, Rep.now st2.ok (Rep.mono st2.le _ _ r), Rep.now st2.ok r2, ez, z, rfl, ?_⟩
  cases z with
  | false => exact q.ok st2.ok _ (by simp only [Rep])
  | true =>
    refine rdE_of ((en.mono st.le).mono st2.le) st2.ok q fun d3 Z3 L3 H3 v3 st3 r3 q => ?_
    obtain ⟨z, ez, q⟩ := q.opt
    exact ⟨L3, Z3, d2, d3, z, st3.ok, Rep.now st3.ok (Rep.mono st3.le _ _ r2), Rep.now st3.ok r3, ez, q.ok st3.ok _ (by simp only [Rep])⟩

/-! ### tests -/
theorem tru_now {L : Lk} {Z : Sto} {H : Hp} {o : Ov} {v : V} {b : Bool} (k : LOk G L Z H) (r : RepO G L o v) (e : Z.tru o = some b) : rTr G v H (fun c H' => c = b ∧ H' = H) := by
  unfold Sto.tru at e
  rw [Option.bind_eq_some_iff] at e
  obtain ⟨d, e1, e2⟩ := e
  exact ⟨L, Z, d, b, k, see_now k r e1, e2, rfl, rfl⟩
theorem truthy_is (F : Fit G T C n X W) {pins : List (Addr × Obj)} {σ : L2.St} {L : Lk} {Z : Sto} {H : Hp} {s : Shared} {o : Ov} {v : V} {u : Value} {b : Bool} {Q : Bool → Shared → Prop}
    (I : Inv X pins σ H s) (rv : RelV v u) (k : LOk G L Z H) (r : RepO G L o v) (e : Z.tru o = some b) (h : ∀ s', Inv X pins σ H s' → Q b s') : wpAny (model X.prog X.w) X.A (truthy u) Q X.xe s :=
  thn (tr_ok F.hK pins s σ H v u _ I rv (tru_now k r e)) fun c s' ⟨H', I', hc, hH⟩ => by subst hc; subst hH; exact h s' I'
theorem st_plain {c : O} (F : Fit G T C n X W) (h : SO G C W X e c) (he : ∀ whole, isTrue e X.env whole = (do let v ← whole; standAt e.pos; holding [v] (truthy v))) : STt G C W X e c := by
  refine ⟨fun pins s σ H Q I ⟨L, η, Z, en, k, q⟩ => ?_⟩
  simp only [evOo] at q
  refine PyProof.Rows.isTrue_plain (thn (h.run pins s σ H _ I (rdO_of en k q (R := fun v H1 => ∃ L1 Z1 o b, LOk G L1 Z1 H1 ∧ RepO G L1 o v ∧ Z1.tru o = some b ∧ Q b H1) fun d Z1 L1 H1 v st r q => ?_)) ?_) (he _)
  · obtain ⟨b, eb, q⟩ := q.opt
    exact ⟨L1, Z1, d, b, st.ok, r, eb, q.ok st.ok⟩
  · rintro u s1 ⟨v, H1, I1, rv, L1, Z1, o, b, k1, r1, eb, q1⟩
    exact truthy_is F I1 rv k1 r1 eb fun s' I' => ⟨H1, I', q1⟩
theorem tru_bl {Z : Sto} {b : Bool} : Z.tru (.v (.bl b)) = some b := rfl
theorem st_cmp {op : Cop} {ca cb : O} (F : Fit G T C n X W) (ha : SO G C W X a ca) (hb : SO G C W X b cb) (hm : behindInMarks op.py b = false) : STt G C W X (.Compare a [op.py] [b] pos) (.e (.cmp op ca cb)) :=
  (pt_cmpR (op_cmp F.hK F.hu op) ha hb hm).imp fun σ H Q ⟨L, η, Z, en, k, q⟩ => by
    simp only [evOo, evO, ev, Res.assoc, Res.ok_bind] at q
    refine rdO_of en k q fun d Z1 L1 H1 v st r q => ?_
    refine rdO_of (en.mono st.le) st.ok q fun d2 Z2 L2' H2 v2 st2 r2 q => ?_
    obtain ⟨x, ex, q⟩ := q.opt
    obtain ⟨y, ey, q⟩ := q.opt
    obtain ⟨z, ez, q⟩ := q.opt
    exact ⟨L2', Z2, x, y, z, st2.ok, see_now st2.ok (r.mono st2.le) ex, see_now st2.ok r2 ey, ez, z, rfl, q.ok st2.ok⟩
theorem st_chain {op op2 : Cop} {c : Expr} {ca cb cc : E} (F : Fit G T C n X W) (ha : SE G C W X a ca) (hb : SE G C W X b cb) (hc : SE G C W X c cc) (hm : lastMarks [op.py, op2.py] [b, c] = false) :
    STt G C W X (.Compare a [op.py, op2.py] [b, c] pos) (.e (.chain op op2 ca cb cc)) := by
  refine (pt_chain (op_cmp F.hK F.hu op) (op_cmp F.hK F.hu op2) ha hb hc hm).imp fun σ H Q ⟨L, η, Z, en, k, q⟩ => ?_
  simp only [evOo, evO, ev, Res.assoc, Res.ok_bind] at q
  refine rdE_of en k q fun d Z1 L1 H1 v st r q => ?_
  refine rdE_of (en.mono st.le) st.ok q fun d2 Z2 L2' H2 v2 st2 r2 q => ?_
  obtain ⟨z, ez, q⟩ := q.opt
  refine ⟨L2', Z2, d, d2, z, st2.ok, Rep.now st2.ok (Rep.mono st2.le _ _ r), Rep.now st2.ok r2, ez, z, rfl, ?_⟩
  cases z with
  | false => exact ⟨false, rfl, q.ok st2.ok⟩
  | true =>
    simp only [if_true, Res.assoc, Res.ok_bind] at q
    refine rdE_of ((en.mono st.le).mono st2.le) st2.ok q fun d3 Z3 L3 H3 v3 st3 r3 q => ?_
    obtain ⟨z, ez, q⟩ := q.opt
    exact ⟨L3, Z3, d2, d3, z, st3.ok, Rep.now st3.ok (Rep.mono st3.le _ _ r2), Rep.now st3.ok r3, ez, z, rfl, q.ok st3.ok⟩
theorem evOo_tand {C : Orc} {a b : O} {η : Vars} {Z : Sto} : evOo C (.some (.tand a b)) η Z = evOo C (.some a) η Z >>= fun p => if p.1 then evOo C (.some b) η p.2 else .ok (false, p.2) := by
  simp only [evOo, evO, Res.assoc, Res.ok_bind]
  congr 1; funext p
  congr 1; funext t
  cases t
  · rfl
  · simp only [if_true, Res.assoc, Res.ok_bind]
    rfl
theorem evOo_tor {C : Orc} {a b : O} {η : Vars} {Z : Sto} : evOo C (.some (.tor a b)) η Z = evOo C (.some a) η Z >>= fun p => if p.1 then .ok (true, p.2) else evOo C (.some b) η p.2 := by
  simp only [evOo, evO, Res.assoc, Res.ok_bind]
  congr 1; funext p
  congr 1; funext t
  cases t
  · simp only [Bool.false_eq_true, if_false, Res.assoc, Res.ok_bind]
    rfl
  · rfl
theorem evOo_tnot {C : Orc} {a : O} {η : Vars} {Z : Sto} : evOo C (.some (.tnot a)) η Z = evOo C (.some a) η Z >>= fun p => .ok (!p.1, p.2) := by
  simp only [evOo, evO, Res.assoc, Res.ok_bind]
  rfl
theorem evOo_tite {C : Orc} {c a b : O} {η : Vars} {Z : Sto} : evOo C (.some (.tite c a b)) η Z = evOo C (.some c) η Z >>= fun p => if p.1 then evOo C (.some a) η p.2 else evOo C (.some b) η p.2 := by
  simp only [evOo, evO, Res.assoc, Res.ok_bind]
  congr 1; funext p
  congr 1; funext t
  cases t
  · simp only [Bool.false_eq_true, if_false, Res.assoc, Res.ok_bind]
    rfl
  · simp only [if_true, Res.assoc, Res.ok_bind]
    rfl
/-- a chain of and, or -/
abbrev SW (G : Pg) (C : Orc) (W : WX) (X : Cx) (e : Expr) (c : O) : Prop := PW X e (rdT G C W c)
theorem sw_and1 {ca : O} (ha : STt G C W X a ca) : SW G C W X (.BoolOp .And [a] pos) ca := pw_and1 ha
theorem sw_or1 {ca : O} (ha : STt G C W X a ca) : SW G C W X (.BoolOp .Or [a] pos) ca := pw_or1 ha
theorem sw_and {ca cb : O} {rest : List Expr} (ha : STt G C W X a ca) (hb : SW G C W X (.BoolOp .And (b :: rest) pos) cb) : SW G C W X (.BoolOp .And (a :: b :: rest) pos) (.tand ca cb) :=
  (pw_and ha hb).imp fun σ H Q ⟨L, η, Z, en, k, q⟩ => by
    rw [evOo_tand] at q
    refine rdT_of en k q fun t Z1 L1 H1 st q => ?_
    cases t with
    | true => exact ⟨L1, η, Z1, en.mono st.le, st.ok, q⟩
    | false => exact q.ok st.ok
theorem sw_or {ca cb : O} {rest : List Expr} (ha : STt G C W X a ca) (hb : SW G C W X (.BoolOp .Or (b :: rest) pos) cb) : SW G C W X (.BoolOp .Or (a :: b :: rest) pos) (.tor ca cb) :=
  (pw_or ha hb).imp fun σ H Q ⟨L, η, Z, en, k, q⟩ => by
    rw [evOo_tor] at q
    refine rdT_of en k q fun t Z1 L1 H1 st q => ?_
    cases t with
    | false => exact ⟨L1, η, Z1, en.mono st.le, st.ok, q⟩
    | true => exact q.ok st.ok
theorem st_not {ca : O} (ha : STt G C W X a ca) : STt G C W X (.UnaryOp .Not a pos) (.tnot ca) :=
  (pt_not ha).imp fun σ H Q ⟨L, η, Z, en, k, q⟩ => by
    rw [evOo_tnot] at q
    exact rdT_of en k q fun t Z1 L1 H1 st q => q.ok st.ok
theorem st_ite {c : Expr} {cc ca cb : O} (hc : STt G C W X c cc) (ha : STt G C W X a ca) (hb : STt G C W X b cb) : STt G C W X (.IfExp c a b pos) (.tite cc ca cb) := by
  refine ⟨fun pins s σ H Q I ⟨L, η, Z, en, k, q⟩ => ?_⟩
  rw [evOo_tite] at q
  rw [show isTrue (.IfExp c a b pos) X.env (eval (.IfExp c a b pos) X.env) = (do if ← isTrue c X.env (eval c X.env) then isTrue a X.env (eval a X.env) else isTrue b X.env (eval b X.env)) from rfl]
  refine wpAny_bind (thn (hc.run pins s σ H _ I (rdT_of en k q (R := fun t H1 => if t = true then rdT G C W ca σ H1 Q else rdT G C W cb σ H1 Q) fun t Z1 L1 H1 st q => ?_)) ?_)
  · cases t with
    | true => exact ⟨L1, η, Z1, en.mono st.le, st.ok, q⟩
    | false => exact ⟨L1, η, Z1, en.mono st.le, st.ok, q⟩
  · rintro t s1 ⟨H1, I1, q1⟩
    cases t with
    | true => exact ha.run pins s1 σ H1 Q I1 q1
    | false => exact hb.run pins s1 σ H1 Q I1 q1
/-! ### not, and, or, if as values -/
theorem s_not {ca : O} (F : Fit G T C n X W) (ha : SO G C W X a ca) : SE G C W X (.UnaryOp .Not a pos) (.not ca) := by
  refine ⟨fun pins s σ H Q I ⟨L, η, Z, en, k, q⟩ => ?_⟩
  simp only [ev] at q
  refine PyProof.Rows.UnaryOp_ (thn (ha.run pins s σ H _ I (rdO_of en k q (R := fun v H1 => ∃ L1 Z1 o b, LOk G L1 Z1 H1 ∧ RepO G L1 o v ∧ Z1.tru o = some b ∧ Q (.bl (!b)) H1) fun d Z1 L1 H1 v st r q => ?_)) ?_)
  · obtain ⟨b, eb, q⟩ := q.opt
    exact ⟨L1, Z1, d, b, st.ok, r, eb, q.ok st.ok _ (by simp only [Rep])⟩
  · rintro u s1 ⟨v, H1, I1, rv, L1, Z1, o, b, k1, r1, eb, q1⟩
    exact PyProof.Rows.not_of (truthy_is F I1 rv k1 r1 eb fun s' I' => ⟨.bl (!b), H1, I', rfl, q1⟩)
theorem s_and {ca cb : E} {rest : List Expr} (F : Fit G T C n X W) (ha : SE G C W X a ca) (hb : SE G C W X (.BoolOp .And (b :: rest) pos) cb) : SE G C W X (.BoolOp .And (a :: b :: rest) pos) (.and ca cb) := by
  refine ⟨fun pins s σ H Q I ⟨L, η, Z, en, k, q⟩ => ?_⟩
  simp only [ev] at q
  refine PyProof.Rows.BoolOp_and (thn (ha.run pins s σ H _ I (rdE_of en k q (R := fun v H1 => ∃ L1 Z1 o b, LOk G L1 Z1 H1 ∧ RepO G L1 o v ∧ Z1.tru o = some b ∧ if b = true then rdE G C W cb σ H1 Q else Q v H1) fun d Z1 L1 H1 v st r q => ?_)) ?_)
  · obtain ⟨b, eb, q⟩ := q.opt
    refine ⟨L1, Z1, .v d, b, st.ok, r, eb, ?_⟩
    cases b with
    | true => exact ⟨L1, η, Z1, en.mono st.le, st.ok, q⟩
    | false => exact q.ok st.ok v r
  · rintro u s1 ⟨v, H1, I1, rv, L1, Z1, o, b, k1, r1, eb, q1⟩
    refine truthy_is F I1 rv k1 r1 eb fun s' I' => ?_
    cases b with
    | true => exact hb.run pins s' σ H1 Q I' q1
    | false => exact ⟨v, H1, I', rv, q1⟩
theorem s_or {ca cb : E} {rest : List Expr} (F : Fit G T C n X W) (ha : SE G C W X a ca) (hb : SE G C W X (.BoolOp .Or (b :: rest) pos) cb) : SE G C W X (.BoolOp .Or (a :: b :: rest) pos) (.or ca cb) := by
  refine ⟨fun pins s σ H Q I ⟨L, η, Z, en, k, q⟩ => ?_⟩
  simp only [ev] at q
  refine PyProof.Rows.BoolOp_or (thn (ha.run pins s σ H _ I (rdE_of en k q (R := fun v H1 => ∃ L1 Z1 o b, LOk G L1 Z1 H1 ∧ RepO G L1 o v ∧ Z1.tru o = some b ∧ if b = true then Q v H1 else rdE G C W cb σ H1 Q) fun d Z1 L1 H1 v st r q => ?_)) ?_)
  · obtain ⟨b, eb, q⟩ := q.opt
    refine ⟨L1, Z1, .v d, b, st.ok, r, eb, ?_⟩
    cases b with
    | false => exact ⟨L1, η, Z1, en.mono st.le, st.ok, q⟩
    | true => exact q.ok st.ok v r
  · rintro u s1 ⟨v, H1, I1, rv, L1, Z1, o, b, k1, r1, eb, q1⟩
    refine truthy_is F I1 rv k1 r1 eb fun s' I' => ?_
    cases b with
    | false => exact hb.run pins s' σ H1 Q I' q1
    | true => exact ⟨v, H1, I', rv, q1⟩
theorem s_one {op : PySem.BoolOp} {ca : E} (ha : SE G C W X a ca) : SE G C W X (.BoolOp op [a] pos) ca := pe_one ha
theorem s_ite {c : Expr} {cc : O} {ca cb : E} (hc : STt G C W X c cc) (ha : SE G C W X a ca) (hb : SE G C W X b cb) : SE G C W X (.IfExp c a b pos) (.ite cc ca cb) :=
  (pe_ifExp hc ha hb).imp fun σ H Q ⟨L, η, Z, en, k, q⟩ => by
    have e : ev C (.ite cc ca cb) η Z = evOo C (.some cc) η Z >>= fun p => if p.1 then ev C ca η p.2 else ev C cb η p.2 := by
      simp only [ev, evOo, Res.assoc, Res.ok_bind]
    rw [e] at q
    refine rdT_of en k q fun t Z1 L1 H1 st q => ?_
    cases t with
    | true => exact ⟨L1, η, Z1, en.mono st.le, st.ok, q⟩
    | false => exact ⟨L1, η, Z1, en.mono st.le, st.ok, q⟩
theorem s_neg {ca : E} (ha : SE G C W X a ca) : SE G C W X (.UnaryOp .USub a pos) (.neg ca) :=
  (pe_un un_neg ha).imp fun σ H Q ⟨L, η, Z, en, k, q⟩ => by
    simp only [ev] at q
    refine rdE_of en k q fun d Z1 L1 H1 v st r q => ?_
    cases d <;> first | exact q.elim | skip
    rename_i i
    simp only [Rep] at r
    exact ⟨i, r, q.ok st.ok _ (by simp only [Rep])⟩
end
end Py
end
section
set_option Elab.async false
set_option linter.all false
set_option maxRecDepth 100000
set_option maxHeartbeats 4000000
/-! PyF: arguments, displays, calls, targets, what is walked, comprehensions. -/
namespace Py
open PySem PySem.Spec L2
section
variable {G : Pg} {T : Tab} {C : Orc} {n : Nat} {X : Cx} {W : WX} {e a b : Expr} {es : List Expr} {pos p p2 : Pos}
/-! ### arguments -/
abbrev SEs (G : Pg) (C : Orc) (W : WX) (X : Cx) (es : List Expr) (c : Es) : Prop := PA X es (rdEs G C W c)
abbrev SOs (G : Pg) (C : Orc) (W : WX) (X : Cx) (es : List Expr) (c : Os) : Prop := PA X es (rdOs G C W c)
def noStar : Expr → Bool
  | .Starred _ _ => false
  | _ => true
theorem star_cons {env : PySem.Env} (h : noStar e = true) : starEach (e :: es) env = (false, eval e env) :: starEach es env := by
  cases e <;> first | rfl | cases h
theorem star_any {env : PySem.Env} : ∀ {es : List Expr}, es.all noStar = true → (backTo pos (starEach es env)).any (·.1) = false
  | [], _ => rfl
  | e :: es, h => by
    rw [List.all_cons, Bool.and_eq_true] at h
    rw [star_cons h.1]
    show (false || (backTo pos (starEach es env)).any (·.1)) = false
    rw [star_any h.2]; rfl
theorem ss_nil : SEs G C W X [] .nil := pa_nil.imp fun σ H Q ⟨L, η, Z, en, k, q⟩ => by
  simp only [evs] at q
  exact q.ok k [] RepL.nil
theorem ss_cons {c : E} {cs : Es} (hn : noStar e = true) (h : SE G C W X e c) (r : SEs G C W X es cs) : SEs G C W X (e :: es) (.cons c cs) :=
  (pa_cons h r (star_cons hn)).imp fun σ H Q ⟨L, η, Z, en, k, q⟩ => by
    simp only [evs] at q
    refine rdE_of en k q fun d Z1 L1 H1 v st r q => ?_
    refine rdEs_of (en.mono st.le) st.ok q fun ds Z2 L2' H2 vs st2 r2 q => ?_
    exact q.ok st2.ok _ (RepL.cons (Rep.mono st2.le _ _ r) r2)
theorem so_nil : SOs G C W X [] .nil := pa_nil.imp fun σ H Q ⟨L, η, Z, en, k, q⟩ => by
  simp only [evOs] at q
  exact q.ok k [] rfl
theorem so_cons {c : O} {cs : Os} (hn : noStar e = true) (h : SO G C W X e c) (r : SOs G C W X es cs) : SOs G C W X (e :: es) (.cons c cs) :=
  (pa_cons h r (star_cons hn)).imp fun σ H Q ⟨L, η, Z, en, k, q⟩ => by
    simp only [evOs] at q
    refine rdO_of en k q fun d Z1 L1 H1 v st r q => ?_
    refine rdOs_of (en.mono st.le) st.ok q fun ds Z2 L2' H2 vs st2 r2 q => ?_
    exact q.ok st2.ok _ ⟨v, vs, rfl, r.mono st2.le, r2⟩
/-! ### displays -/
/-- a tuple display -/
def tTupN (t : TA) : TE := fun σ H Q => t σ H fun xs H1 => xs.length ≤ sizeLine ∧ ∀ p o, o.dict = none → H1 p = none → Q (.ref p) (upd H1 p (.frz o (.tup xs)))
theorem pe_tupN {t : TA} {k1 : Nat} (h : PA X es t) : PE X (.Tuple es k1 pos) (tTupN t) := by
  refine ⟨fun pins s σ H Q I hq => wpAny_Tuple_spliced (thn (h.run pos pins s σ H _ I hq) ?_)⟩
  rintro us s1 ⟨xs, H1, I1, r, short, q⟩
  have J := laidTup (t' := s1.toks) I1 r short
  exact ⟨by have := r.length; omega, .ref s1.heap.objs.size, _, J, rfl, q _ _ rfl (I1.hok.fresh (Nat.le_refl _))⟩
theorem s_tup {cs : Es} {k1 : Nat} (h : SEs G C W X es cs) : SE G C W X (.Tuple es k1 pos) (.tup cs) :=
  (pe_tupN h).imp fun σ H Q ⟨L, η, Z, en, k, q⟩ => by
    simp only [ev] at q
    refine rdEs_of en k q fun ds Z1 L1 H1 vs st r q => ?_
    obtain ⟨hl, q⟩ := q.ite
    have hz : vs.length ≤ sizeLine := by rw [line_eq, ← r.length]; exact of_decide_eq_true hl
    exact ⟨hz, Fin.tup (Z := Z1) st.ok (fun L' H' v s r => q L' H' s v r) r⟩
theorem s_lst {cs : Es} (h : SEs G C W X es cs) : SE G C W X (.List es pos) (.lst cs) :=
  (pe_lst h).imp fun σ H Q ⟨L, η, Z, en, k, q⟩ => by
    simp only [ev] at q
    refine rdEs_of en k q fun ds Z1 L1 H1 vs st r q => ?_
    obtain ⟨hl, q⟩ := q.ite
    have hz : vs.length ≤ sizeLine := by rw [line_eq, ← r.length]; exact of_decide_eq_true hl
    exact ⟨hz, Fin.lst (Z := Z1) st.ok (fun L' H' v s r => q L' H' s v r) r⟩
/-! ### calls of own defs -/
theorem permD_rep {L : Lk} {ds : List D} {vs : List V} (r : RepL G L ds vs) (perm : List Nat) : RepL G L (permD perm ds) (permD perm vs) := by
  unfold permD
  split
  · exact r
  · induction perm with
    | nil => exact RepL.nil
    | cons i perm ih =>
      rename_i hne
      have step : RepL G L (List.filterMap (fun i => ds[i]?) perm) (List.filterMap (fun i => vs[i]?) perm) := by
        by_cases hp : perm.isEmpty = true
        · have : perm = [] := List.isEmpty_iff.mp hp
          subst this; exact RepL.nil
        · exact ih hp
      cases e : ds[i]? with
      | none =>
        have e' : vs[i]? = none := by
          rw [List.getElem?_eq_none_iff] at e ⊢
          rw [← r.length]; exact e
        rw [List.filterMap_cons, List.filterMap_cons, e, e']; exact step
      | some d =>
        obtain ⟨v, hv, rv⟩ := r.get e
        rw [List.filterMap_cons, List.filterMap_cons, e, hv]
        exact RepL.cons rv step
theorem permD_vals {vs : List V} {us : List Value} (r : Vals vs us) (perm : List Nat) : Vals (permD perm vs) (permD perm us) := by
  unfold permD
  split
  · exact r
  · induction perm with
    | nil => exact .nil
    | cons i perm ih =>
      have step : Vals (List.filterMap (fun i => vs[i]?) perm) (List.filterMap (fun i => us[i]?) perm) := by
        by_cases hp : perm.isEmpty = true
        · have : perm = [] := List.isEmpty_iff.mp hp
          subst this; exact .nil
        · exact ih hp
      cases e : vs[i]? with
      | none =>
        rw [List.filterMap_cons, List.filterMap_cons, e, r.none_of e]; exact step
      | some d =>
        obtain ⟨v, hv, rv⟩ := r.get e
        rw [List.filterMap_cons, List.filterMap_cons, e, hv]
        exact .cons rv step
/-- from the caller's view to the callee's promise -/
theorem sp_call {σ : L2.St} {L : Lk} {Z : Sto} {H : Hp} {f ar : Nat} {ds : List D} {vs : List V} {Q : VK} (k : LOk G L Z H) (r : RepL G L ds vs) (har : ds.length = ar)
    (q : Pst G L H σ W (match C f ds Z.S with
      | .ok (d, S) => .ok (d, { Z with S := S })
      | .exn c d Z' => .exn c d { Z with S := Z'.S }
      | .bad => .bad : Res (D × Sto)) (fun d L' H' => ∀ v, Rep G L' d v → Q v H')) : spF G C f ar vs H Q (fun cls d H' => W cls d σ H') := by
  obtain ⟨S, Tc⟩ := Z
  refine ⟨{ L with τ := [] }, S, ds, rfl, har, RepL.forget _ _ r, k.forget, ?_⟩
  revert q
  show Pst G L H σ W (match C f ds S with
      | .ok (d, S1) => .ok (d, ⟨S1, Tc⟩)
      | .exn c d Z' => .exn c d ⟨Z'.S, Tc⟩
      | .bad => .bad : Res (D × Sto)) _ → _
  cases C f ds S with
  | ok x =>
    obtain ⟨d, S1⟩ := x
    intro q L' H' v st rv
    have e0 : L'.τ = [] := List.eq_nil_of_length_eq_zero st.ok.lenT
    exact q _ _ (Step.back k st) v (Rep.back e0 rv)
  | exn c d Z' =>
    intro q L' H' cls dd st x
    have e0 : L'.τ = [] := List.eq_nil_of_length_eq_zero st.ok.lenT
    obtain ⟨Cc, δ, v, h1, h2, h3, h4, h5⟩ := x
    exact q _ _ cls dd (Step.back k st) ⟨Cc, δ, v, h1, h2, h3, h4, Rep.back e0 h5⟩
  | bad => exact fun q => q
/-- keywords -/
abbrev SKs (G : Pg) (C : Orc) (W : WX) (X : Cx) (es : List Keyword) (c : Es) : Prop := PK X es (rdEs G C W c)
theorem _root_.L2.PK.imp {X : Cx} {e : List Keyword} {t t' : TA} (h : PK X e t) (i : ∀ σ H Q, t' σ H Q → t σ H Q) : PK X e t' := ⟨fun pos pins s σ H Q I q => h.run pos pins s σ H Q I (i σ H Q q)⟩
theorem sk_nil : SKs G C W X [] .nil := pk_nil.imp fun σ H Q ⟨L, η, Z, en, k, q⟩ => by
  simp only [evs] at q
  exact q.ok k [] RepL.nil
theorem sk_cons {c : E} {cs : Es} {kws : List Keyword} {nm : Option Str} {kpos : Pos} (h : SE G C W X e c) (r : SKs G C W X kws cs) : SKs G C W X (⟨nm, e, kpos⟩ :: kws) (.cons c cs) :=
  (pk_cons h r).imp fun σ H Q ⟨L, η, Z, en, k, q⟩ => by
    simp only [evs] at q
    refine rdE_of en k q fun d Z1 L1 H1 v st r q => ?_
    refine rdEs_of (en.mono st.le) st.ok q fun ds Z2 L2' H2 vs st2 r2 q => ?_
    exact q.ok st2.ok _ (RepL.cons (Rep.mono st2.le _ _ r) r2)
def kwNames : List Keyword → Option (List Str)
  | [] => some []
  | ⟨some n, _, _⟩ :: r => (kwNames r).map (n :: ·)
  | _ => none
theorem kw_facts {env : PySem.Env} : ∀ {kws : List Keyword} {ks : List Str}, kwNames kws = some ks →
    (backToKw pos (keywordEach kws env)).all (·.1.isSome) = true ∧ (backToKw pos (keywordEach kws env)).filterMap (·.1) = ks ∧ (backToKw pos (keywordEach kws env)).any (·.1.isNone) = false
  | [], ks, h => by simp only [kwNames, Option.some.injEq] at h; subst h; exact ⟨rfl, rfl, rfl⟩
  | ⟨none, _, _⟩ :: r, ks, h => by simp [kwNames] at h
  | ⟨some n, v, p⟩ :: r, ks, h => by
    simp only [kwNames, Option.map_eq_some_iff] at h
    obtain ⟨ks', h, rfl⟩ := h
    obtain ⟨h1, h2, h3⟩ := kw_facts (env := env) h
    refine ⟨?_, ?_, ?_⟩
    · show (true && (backToKw pos (keywordEach r env)).all (·.1.isSome)) = true
      rw [h1]; rfl
    · show n :: (backToKw pos (keywordEach r env)).filterMap (·.1) = n :: ks'
      rw [h2]
    · show (false || (backToKw pos (keywordEach r env)).any (·.1.isNone)) = false
      rw [h3]; rfl
def Es.len : Es → Nat
  | .nil => 0
  | .cons _ r => r.len + 1
theorem evs_len : ∀ {c : Es} {η : Vars} {Z : Sto} {ds : List D} {Z' : Sto}, evs C c η Z = .ok (ds, Z') → ds.length = c.len
  | .nil, _, _, _, _, h => by simp only [evs, Res.ok.injEq, Prod.mk.injEq] at h; rw [← h.1]; rfl
  | .cons c r, η, Z, ds, Z', h => by
    simp only [evs] at h
    cases e : ev C c η Z with
    | ok x =>
      rw [e] at h
      cases e2 : evs C r η x.2 with
      | ok y =>
        simp only [Res.ok_bind, e2, Res.ok.injEq, Prod.mk.injEq] at h
        rw [← h.1, List.length_cons, evs_len (ds := y.1) (Z' := y.2) e2]; rfl
      | exn c d Z => simp only [Res.ok_bind, e2] at h; cases h
      | bad => simp only [Res.ok_bind, e2] at h; cases h
    | exn c d Z => rw [e] at h; cases h
    | bad => rw [e] at h; cases h
/-- f(e, .., k = v, ..) -/
theorem s_call {x : Str} {f : Nat} {info : FnInfo} {cs ck : Es} {kws : List Keyword} {pat : Nat × List Str × List Nat} (F : Fit G T C n X W) (hot : T.cal = true ∨ info.hot = true) (hf : T.fns[f]? = some info) (hx : info.name = x) (hg : Gl X x) (hd : (x == ("__debug__" : Str)) = false)
    (hp : pat ∈ info.pats) (hes : es.all noStar = true) (hl : cs.len = pat.1) (hl2 : ck.len = pat.2.1.length) (hkw : kwNames kws = some pat.2.1) (har : (permD pat.2.2 (List.range (cs.len + ck.len))).length = info.ps.length)
    (h : SEs G C W X es cs) (h0 : es = [] → cs = .nil) (hk : SKs G C W X kws ck) : SE G C W X (.Call (.Name x p) es kws pos) (.call f cs ck pat.2.2) := by
  obtain ⟨fa, fd, em, efa, ek, hb, FG⟩ := F.fns f info hf
  rw [hx] at em
  refine ⟨fun pins s σ H Q I ⟨L, η, Z, en, k, q⟩ => ?_⟩
  simp only [ev] at q
  have har' : ∀ {α : Type} (ds : List α), ds.length = cs.len + ck.len → (permD pat.2.2 ds).length = info.ps.length := fun ds hd => by
    rw [← har]
    unfold permD
    split
    · rw [List.length_range, hd]
    · generalize pat.2.2 = perm
      induction perm with
      | nil => rfl
      | cons i r ih =>
        rw [List.filterMap_cons, List.filterMap_cons]
        by_cases hi : i < cs.len + ck.len
        · rw [List.getElem?_eq_getElem (by rw [hd]; exact hi), List.getElem?_eq_getElem (by rw [List.length_range]; exact hi)]
          simp only [List.length_cons, ih]
        · rw [List.getElem?_eq_none (by rw [hd]; omega), List.getElem?_eq_none (by rw [List.length_range]; omega)]
          exact ih
  refine wpAny_Call_Name_kw (ld_glob I hg em ?_ hd)
  have fin : ∀ (us ws : List Value) (vs zs : List V) (s2 : Shared) (H2 : Hp), Inv X pins σ H2 s2 → Vals vs us → Vals zs ws →
      (∃ L2 Z2 ds dk, LOk G L2 Z2 H2 ∧ RepL G L2 ds vs ∧ RepL G L2 dk zs ∧ ds.length = cs.len ∧ dk.length = ck.len ∧ Pst G L2 H2 σ W (match C f (permD pat.2.2 (ds ++ dk)) Z2.S with
      | .ok (d, S) => .ok (d, { Z2 with S := S })
      | .exn c d Z' => .exn c d { Z2 with S := Z'.S }
      | .bad => .bad : Res (D × Sto)) (fun d L' H' => ∀ v, Rep G L' d v → Q v H')) → wpAny (model X.prog X.w) X.A (call (.ref fa) us (pat.2.1.zip ws)) (EP X pins σ Q) X.xe s2 := by
    intro us ws vs zs s2 H2 I2 rv rz hh
    obtain ⟨L2, Z2, ds, dk, k2, r1, r2, hl1, hl3, q2⟩ := hh
    have hlen : (ds ++ dk).length = cs.len + ck.len := by rw [List.length_append, hl1, hl3]
    refine wpAny_call (codeAny_mono (run_fnG (FG T.cal hot) F.room F.gd (F.mode.at I2) F.tk I2 (hb pat hp s2 us ws (by rw [← rv.length, ← r1.length, hl1, hl]) (by rw [← rz.length, ← r2.length, hl3, hl2])) (permD_vals (rv.append rz) pat.2.2) (sp_call k2 (permD_rep (r1.append r2) pat.2.2) (har' _ hlen) q2)) fun r s' hq => ?_)
    revert hq
    cases r with
    | error e => exact fun hq => hq
    | ok fl => cases fl <;> exact fun hq => hq
  obtain ⟨kw1, kw2, kw3⟩ := kw_facts (pos := pos) (env := X.env) hkw
  have rd := rdEs_of' (R := fun vs H1 => ∃ L1 Z1 ds, EnvOk G L1 η σ ∧ LOk G L1 Z1 H1 ∧ RepL G L1 ds vs ∧ ds.length = cs.len ∧ Pst G L1 H1 σ W (evs C ck η Z1 >>= fun p => (match C f (permD pat.2.2 (ds ++ p.1)) p.2.S with
      | .ok (d, S) => .ok (d, { p.2 with S := S })
      | .exn c d Z' => .exn c d { p.2 with S := Z'.S }
      | .bad => .bad : Res (D × Sto))) (fun d L' H' => ∀ v, Rep G L' d v → Q v H')) en k q fun ds Z1 L1 H1 vs em st r q => ⟨L1, Z1, ds, en.mono st.le, st.ok, r, evs_len em, q⟩
  have second : ∀ (us : List Value) (vs : List V) (s1 : Shared) (H1 : Hp), Inv X pins σ H1 s1 → Vals vs us → (∃ L1 Z1 ds, EnvOk G L1 η σ ∧ LOk G L1 Z1 H1 ∧ RepL G L1 ds vs ∧ ds.length = cs.len ∧ Pst G L1 H1 σ W (evs C ck η Z1 >>= fun p => (match C f (permD pat.2.2 (ds ++ p.1)) p.2.S with
      | .ok (d, S) => .ok (d, { p.2 with S := S })
      | .exn c d Z' => .exn c d { p.2 with S := Z'.S }
      | .bad => .bad : Res (D × Sto))) (fun d L' H' => ∀ v, Rep G L' d v → Q v H')) →
      wpAny (model X.prog X.w) X.A (evalAll ((backToKw pos (keywordEach kws X.env)).map (·.2))) (fun ks s₂ => X.K.In s₂.heap ∧ wpAny (model X.prog X.w) X.A (call (.ref fa) ([] ++ us) (((backToKw pos (keywordEach kws X.env)).filterMap (·.1)).zip ks)) (EP X pins σ Q) X.xe s₂) X.xe s1 := by
    intro us vs s1 H1 I1 rv hh
    obtain ⟨L1, Z1, ds, en1, k1, r1, hl1, q1⟩ := hh
    refine thn (hk.run pos pins s1 σ H1 _ I1 (rdEs_of' (R := fun zs H2 => ∃ L2 Z2 ds dk, LOk G L2 Z2 H2 ∧ RepL G L2 ds vs ∧ RepL G L2 dk zs ∧ ds.length = cs.len ∧ dk.length = ck.len ∧ Pst G L2 H2 σ W (match C f (permD pat.2.2 (ds ++ dk)) Z2.S with
      | .ok (d, S) => .ok (d, { Z2 with S := S })
      | .exn c d Z' => .exn c d { Z2 with S := Z'.S }
      | .bad => .bad : Res (D × Sto)) (fun d L' H' => ∀ v, Rep G L' d v → Q v H')) en1 k1 q1 fun dk Z2 L2 H2 zs em st r q => ⟨L2, Z2, ds, dk, st.ok, RepL.mono st.le _ _ r1, r, hl1, evs_len em, q⟩)) ?_
    rintro ws s2 ⟨zs, H2, I2, rz, hh⟩
    refine ⟨I2.kIn, ?_⟩
    rw [kw2]
    exact fin us ws vs zs s2 H2 I2 rv rz hh
  cases es with
  | nil =>
    refine PySem.W.callWith_KW0 (K := X.K) (h₀ := X.base) I.ok.mod.kin ek kw1 ?_ (by rw [kw3]; rfl)
    have ec := h0 rfl
    subst ec
    exact second [] [] s H I .nil ⟨L, Z, [], en, k, RepL.nil, rfl, q⟩
  | cons e0 es0 =>
    have hs : noStar e0 = true ∧ es0.all noStar = true := by rw [List.all_cons, Bool.and_eq_true] at hes; exact hes
    refine PySem.W.callWith_KW (K := X.K) (h₀ := X.base) I.ok.mod.kin ek kw1 (thn (h.run pos pins s σ H _ I rd) ?_) (by rw [star_any hes, kw3]; rfl) (star_cons hs.1)
    rintro us s1 ⟨vs, H1, I1, rv, hh⟩
    exact second us vs s1 H1 I1 rv hh

/-! ### items, slices -/
theorem subTail_of {pins : List (Addr × Obj)} {σ : L2.St} {H : Hp} {s : Shared} {p : Addr} {y : V} {u : Value} {o : Option V} {value slice : Expr} {Q : Value → Shared → Prop} (I : Inv X pins σ H s) (g : DGet H p y o)
    (hs : subscripted slice false (.ref p) u = operate [.ref p, u] (getItem (.ref p) u)) (h : wpAny (model X.prog X.w) X.A (getItem (.ref p) u) Q X.xe s) : wpAny (model X.prog X.w) X.A (PyProof.Rows.subscriptTail value slice (.ref p) u) Q X.xe s := by
  have hT := dict_typeIs I g
  unfold PyProof.Rows.subscriptTail
  refine wpAny_bind ?_
  rw [getitemInPython_of_ne hT.not_modules]
  refine wpAny_bind (wpAny_specialOf hT PySem.F.slot_dict_getitem.lookup ?_)
  have last : wpAny (model X.prog X.w) X.A (subscripted slice false (.ref p) u) (fun r s₃ => wpAny (model X.prog X.w) X.A (letTemporaryGo value (.ref p) r >>= fun _ => pure r) Q X.xe s₃) X.xe s := by
    rw [hs]
    exact wpAny_operating (wpAny_mono h (fun r s₃ h₃ => wpAny_bind (wpAny_letTemporaryGo (wpAny_pure h₃))) fun _ _ x => x)
  first
    | exact wpAny_pure (wpAny_bind last)
    | exact wpAny_bind (wpAny_pure (wpAny_bind last))
    | exact wpAny_bind last

def rIx (G : Pg) : R2 := fun x y H Q => ∃ L Z d e r, LOk G L Z H ∧ Now G L H d x ∧ Rep G L e y ∧ idxD d e = some r ∧ ∀ v, Rep G L r v → Q v H
theorem atI_rep {L : Lk} {ds : List D} {vs : List V} {i : Int} {d : D} (r : RepL G L ds vs) (h : L2.atI ds i = some d) : ∃ v, L2.atI vs i = some v ∧ Rep G L d v := by
  unfold L2.atI at h ⊢
  rw [Option.bind_eq_some_iff] at h
  obtain ⟨j, h1, h2⟩ := h
  obtain ⟨v, hv, rv⟩ := r.get h2
  exact ⟨v, by rw [← r.length, h1]; exact hv, rv⟩
theorem ix_ok (F : Fit G T C n X W) : IxR X (rIx G) := by
  intro value slice pins s σ H x y v u Q I rx ry h hs
  obtain ⟨L, Z, d, e, r, k, nd, re, hr, q⟩ := h
  unfold idxD at hr
  split at hr
  case h_1 xs i =>
    simp only [Rep] at re; subst re
    obtain ⟨p, vs, rfl, h1, r1⟩ := nd
    obtain ⟨w, hw, rw⟩ := atI_rep r1 hr
    exact ix_list value slice pins s σ H _ _ v u Q I rx ry ⟨p, vs, i, w, rfl, rfl, .inl h1, hw, q w rw⟩ hs
  case h_2 xs i =>
    simp only [Rep] at re; subst re
    simp only [Now, Rep] at nd
    obtain ⟨p, vs, rfl, h1, r1⟩ := nd
    obtain ⟨w, hw, rw⟩ := atI_rep r1 hr
    exact ix_tup value slice pins s σ H _ _ v u Q I rx ry ⟨p, vs, i, w, rfl, rfl, by rw [F.hK]; exact sqT_mono (k.sub p) h1.sq, hw, q w rw⟩ hs
  case h_3 z i =>
    simp only [Rep] at re; subst re
    simp only [Now, Rep] at nd; subst nd
    obtain ⟨hc, hr⟩ : z.length ≤ lineN ∧ _ := by
      by_cases hc : z.length ≤ lineN
      · rw [if_pos hc] at hr; exact ⟨hc, hr⟩
      · rw [if_neg hc] at hr; cases hr
    rw [Option.map_eq_some_iff] at hr
    obtain ⟨c, hc2, rfl⟩ := hr
    exact ix_str value slice pins s σ H _ _ v u Q I rx ry ⟨z, i, c, rfl, rfl, by rw [line_eq]; exact hc, hc2, q _ (by simp only [Rep])⟩ hs
  case h_4 kvs κd =>
    rw [Option.bind_eq_some_iff] at hr
    obtain ⟨κ, hk, hr⟩ := hr
    have ex := key_now (Rep.now k re) hk
    subst ex
    obtain ⟨p, ws, rfl, h1, r1⟩ := nd
    obtain ⟨w, hw, rw⟩ := (r1.look κ).2 r hr
    have g : DGet H p (kV κ) (some w) := .inl ⟨ws, κ, h1, rfl, hw.symm⟩
    cases rx
    exact subTail_of I g hs (d_getItem (by have := F.hu; omega) I g ry fun w' s3 I3 rw' => ⟨w, H, I3, rw', q w rw⟩)
  case h_5 => cases hr

/-- the place of an item, as written: no slice -/
def plainPlace : Expr → Bool
  | .Slice .. => false
  | .Tuple .. => false
  | _ => true
theorem plain_ix {i : Expr} (h : plainPlace i = true) : PlainIx i := by
  intro o iv
  cases i <;> first | rfl | cases h
theorem s_idx {ca : O} {ci : E} (F : Fit G T C n X W) (ha : SO G C W X a ca) (hi : SE G C W X b ci) (hp : plainPlace b = true) : SE G C W X (.Subscript a b pos) (.idx ca ci) :=
  (pe_ix (ix_ok F) ha hi (plain_ix hp)).imp fun σ H Q ⟨L, η, Z, en, k, q⟩ => by
    simp only [ev] at q
    refine rdO_of en k q fun d Z1 L1 H1 v st r q => ?_
    refine rdE_of (en.mono st.le) st.ok q fun d2 Z2 L2' H2 v2 st2 r2 q => ?_
    obtain ⟨x, ex, q⟩ := q.opt
    obtain ⟨z, ez, q⟩ := q.opt
    exact ⟨L2', Z2, x, d2, z, st2.ok, see_now st2.ok (r.mono st2.le) ex, r2, ez, q.ok st2.ok⟩
def rSlD (G : Pg) : V → Option Int → Option Int → Hp → VK → Prop := fun x lo hi H Q => ∃ L Z d r, LOk G L Z H ∧ Now G L H d x ∧ sliceD d lo hi = some r ∧ Fin G L Z H r Q
theorem slice_rep {L : Lk} {ds : List D} {vs : List V} (r : RepL G L ds vs) (lo hi : Option Int) : RepL G L (sliceL ds lo hi) (cutV vs lo hi) := by
  unfold sliceL cutV
  rw [r.length]
  exact (r.drop _).take _
/-- a slice of a tuple -/
def rSlN (K : PySem.W.Frag) : V → Option Int → Option Int → Hp → VK → Prop := fun x lo hi H Q => ∃ a xs, x = .ref a ∧ SqT K H a xs ∧
  (HT.sIx xs.length 0 lo = 0 ∧ HT.sIx xs.length xs.length hi = xs.length → Q (.ref a) H) ∧ (¬ (HT.sIx xs.length 0 lo = 0 ∧ HT.sIx xs.length xs.length hi = xs.length) → ∀ p o, o.dict = none → H p = none → Q (.ref p) (upd H p (.frz o (.tup (cutV xs lo hi)))))
theorem sl_tupN : SlR X (rSlN X.K) := by
  intro pins s σ H x v vl vu lo hi sl Q I vx hs pl pu ⟨a, xs, ex, tx, all, part⟩
  subst ex
  obtain rfl : v = Value.ref a := vx
  obtain ⟨us, ru, tu, short⟩ := I.tuple tx
  have len : us.toArray.size = xs.length := by rw [List.size_toArray]; exact ru.length.symm
  refine ⟨"tuple", _, PyProof.Rows.slot_tuple_getitem.lookup, tu.typeIs, ?_⟩
  by_cases w : HT.sIx xs.length 0 lo = 0 ∧ HT.sIx xs.length xs.length hi = xs.length
  · exact L2.getItem_tuple_whole tu hs pl pu (by rw [len]; exact w) ⟨.ref a, H, I, rfl, all w⟩
  · refine HT.getItem_tuple_cut tu hs pl pu (by rw [len]; exact w) ?_ (by rw [len]; exact short)
    rw [len]
    have J := laidTup (t' := s.toks) I ((ru.drop (HT.sIx xs.length 0 lo)).take (HT.sIx xs.length xs.length hi - HT.sIx xs.length 0 lo)) (Nat.le_trans (cutV_length xs lo hi) short)
    exact ⟨.ref s.heap.objs.size, _, J, rfl, part w _ _ rfl (I.hok.fresh (Nat.le_refl _))⟩
theorem sl_ok (F : Fit G T C n X W) : SlR X (rSlD G) := by
  intro pins s σ H x v vl vu lo hi sl Q I rx hs pl pu h
  obtain ⟨L, Z, d, r, k, nd, hr, f⟩ := h
  cases d <;> simp only [sliceD, Option.some.injEq, reduceCtorEq] at hr
  case lst ds =>
    subst hr
    obtain ⟨p, vs, rfl, h1, r1⟩ := nd
    exact sl_list pins s σ H _ v vl vu lo hi sl Q I rx hs pl pu ⟨p, vs, rfl, .inl h1, f.lst k (slice_rep r1 lo hi)⟩
  case tup ds =>
    subst hr
    simp only [Now, Rep] at nd
    obtain ⟨p, vs, rfl, h1, r1⟩ := nd
    refine sl_tupN pins s σ H _ v vl vu lo hi sl Q I rx hs pl pu ⟨p, vs, rfl, by rw [F.hK]; exact sqT_mono (k.sub p) h1.sq, fun e => ?_, fun _ => f.tup k (slice_rep r1 lo hi)⟩
    have e3 : sliceL ds lo hi = ds := by
      unfold sliceL
      rw [r1.length, e.1, e.2, List.drop_zero, Nat.sub_zero, ← r1.length, List.take_length]
    exact f.here k (by rw [e3]; simp only [Rep]; exact ⟨p, vs, rfl, h1, r1⟩)
  case str z =>
    obtain ⟨hc, rfl⟩ := ite_some hr
    simp only [Now, Rep] at nd; subst nd
    exact sl_str pins s σ H (.str z) v vl vu lo hi sl Q I rx hs pl pu ⟨z, rfl, by rw [line_eq]; exact hc, f.str k⟩
abbrev SPo (G : Pg) (C : Orc) (W : WX) (X : Cx) (e : Option Expr) (c : Eo) : Prop := PO X e (rdEo G C W c)
theorem sp_none : SPo G C W X none .none := po_none.imp fun σ H Q ⟨L, η, Z, en, k, q⟩ => by
  simp only [evEo] at q
  exact q.ok k
theorem sp_some {c : E} (h : SE G C W X e c) : SPo G C W X (some e) (.some c) := (po_some h).imp fun σ H Q ⟨L, η, Z, en, k, q⟩ => by
  simp only [evEo] at q
  refine rdE_of en k q fun d Z1 L1 H1 v st r q => ?_
  cases d <;> first | exact q.elim | skip
  rename_i i
  simp only [Rep] at r
  exact ⟨i, r, q.ok st.ok⟩
theorem s_slice {ca : O} {cl ch : Eo} {lo hi : Option Expr} (F : Fit G T C n X W) (ha : SO G C W X a ca) (hl : SPo G C W X lo cl) (hh : SPo G C W X hi ch) : SE G C W X (.Subscript a (.Slice lo hi none p2) pos) (.slice ca cl ch) :=
  (pe_slice (sl_ok F) ha hl hh).imp fun σ H Q ⟨L, η, Z, en, k, q⟩ => by
    simp only [ev] at q
    refine rdO_of en k q fun d Z1 L1 H1 v st r q => ?_
    refine rdEo_of (en.mono st.le) st.ok q fun lo Z2 L2' H2 st2 q => ?_
    refine rdEo_of ((en.mono st.le).mono st2.le) st2.ok q fun hi Z3 L3 H3 st3 q => ?_
    obtain ⟨x, ex, q⟩ := q.opt
    obtain ⟨z, ez, q⟩ := q.opt
    exact ⟨L3, Z3, x, z, st3.ok, see_now st3.ok ((r.mono st2.le).mono st3.le) ex, ez, fun L' H' v s r => q L' H' s v r⟩
end
end Py
end
section
set_option Elab.async false
set_option linter.all false
set_option maxRecDepth 100000
set_option maxHeartbeats 4000000
/-! PyG: targets, what is walked, comprehensions. -/
namespace Py
open PySem PySem.Spec L2
section
variable {G : Pg} {T : Tab} {C : Orc} {n : Nat} {X : Cx} {W : WX} {e a b : Expr} {es : List Expr} {pos p p2 : Pos}
/-! ### targets -/
mutual
def Tg.slots : Tg → List Nat
  | .name i => [i]
  | .tup ts => slotsAll ts
def slotsAll : List Tg → List Nat
  | [] => []
  | t :: ts => t.slots ++ slotsAll ts
end
/-- the slots but these are as they were -/
def SameBut (is : List Nat) (σ σ' : L2.St) : Prop := σ'.length = σ.length ∧ ∀ i, i ∉ is → σ'[i]? = σ[i]?
theorem SameBut.trans {is js : List Nat} {σ σ1 σ2 : L2.St} (a : SameBut is σ σ1) (b : SameBut js σ1 σ2) : SameBut (is ++ js) σ σ2 :=
  ⟨b.1.trans a.1, fun i h => (b.2 i fun q => h (List.mem_append_right _ q)).trans (a.2 i fun q => h (List.mem_append_left _ q))⟩
def rdG (G : Pg) (t : Tg) : TG := fun v σ H Q => ∃ L η Z d η', EnvOk G L η σ ∧ LOk G L Z H ∧ Rep G L d v ∧ t.put d η = some η' ∧ ∀ σ', EnvOk G L η' σ' → SameBut t.slots σ σ' → Q σ' H
def rdGs (G : Pg) (ts : List Tg) : TGs := fun vs σ H Q => ∃ L η Z ds η', EnvOk G L η σ ∧ LOk G L Z H ∧ RepL G L ds vs ∧ putAll ts ds η = some η' ∧ ∀ σ', EnvOk G L η' σ' → SameBut (slotsAll ts) σ σ' → Q σ' H
theorem _root_.L2.PG.imp {X : Cx} {e : Expr} {t t' : TG} (h : PG X e t) (i : ∀ v σ H Q, t' v σ H Q → t v σ H Q) : PG X e t' := ⟨fun pins s σ H v u Q I r q => h.run pins s σ H v u Q I r (i v σ H Q q)⟩
theorem _root_.L2.PGs.imp {X : Cx} {e : List Expr} {t t' : TGs} (h : PGs X e t) (i : ∀ v σ H Q, t' v σ H Q → t v σ H Q) : PGs X e t' := ⟨fun pins s σ H v u Q I r q => h.run pins s σ H v u Q I r (i v σ H Q q)⟩
theorem sg_name {x : Str} {i : Nat} (hN : X.N.Nodup) (hi : X.N[i]? = some x) (hx : Loc X.env.scope x) (hf : X.fn x = true ∨ X.env.scope.names.lookup x = some .local) : PG X (.Name x pos) (rdG G (.name i)) :=
  (pg_name hN hi hx hf).imp fun v σ H Q ⟨L, η, Z, d, η', en, k, r, hp, q⟩ => by
    simp only [Tg.put] at hp
    obtain ⟨hl, rfl⟩ := ite_some hp
    refine q _ (en.setVal r hl) ⟨by simp, fun j hj => ?_⟩
    have : i ≠ j := fun e => hj (by subst e; simp [Tg.slots])
    rw [List.getElem?_set_ne this]
theorem sg_nil : PGs X [] (rdGs G []) := pgs_nil.imp fun vs σ H Q ⟨L, η, Z, ds, η', en, k, r, hp, q⟩ => by
  cases ds with
  | nil =>
    simp only [putAll, Option.some.injEq] at hp; subst hp
    simp only [RepL] at r
    exact ⟨r, q σ en ⟨rfl, fun _ _ => rfl⟩⟩
  | cons d ds => simp [putAll] at hp
theorem asg_cons {env : PySem.Env} (h : noStar e = true) : (assignEach (e :: es) env).map (·.2) = assign e env :: (assignEach es env).map (·.2) := by
  cases e <;> first | rfl | cases h
theorem sg_cons {t : Tg} {ts : List Tg} (hn : noStar e = true) (h1 : PG X e (rdG G t)) (h2 : PGs X es (rdGs G ts)) : PGs X (e :: es) (rdGs G (t :: ts)) :=
  (pgs_cons h1 h2 (asg_cons hn)).imp fun vs σ H Q ⟨L, η, Z, ds, η', en, k, r, hp, q⟩ => by
    cases ds with
    | nil => simp [putAll] at hp
    | cons d ds =>
      simp only [RepL] at r
      obtain ⟨v, vr, rfl, r1, r2⟩ := r
      simp only [putAll] at hp
      split at hp
      · rename_i η1 e1
        refine ⟨v, vr, rfl, L, η, Z, d, η1, en, k, r1, e1, fun σ1 en1 s1 => ⟨L, η1, Z, ds, η', en1, k, r2, hp, fun σ2 en2 s2 => q σ2 en2 ?_⟩⟩
        simp only [slotsAll]
        exact s1.trans s2
      · cases hp
theorem asg_len {env : PySem.Env} : ∀ {es : List Expr}, (assignEach es env).length = es.length
  | [] => rfl
  | e :: es => by
    cases e <;> (show (assignEach es env).length + 1 = _; rw [asg_len]; rfl)
theorem asg_nostar {env : PySem.Env} : ∀ {es : List Expr}, es.all noStar = true → (assignEach es env).findIdx? (·.1) = none
  | [], _ => rfl
  | e :: es, h => by
    rw [List.all_cons, Bool.and_eq_true] at h
    have ih := asg_nostar (env := env) h.2
    have e1 : ∃ f, assignEach (e :: es) env = (false, f) :: assignEach es env := by
      cases e <;> first | exact ⟨_, rfl⟩ | cases h.1
    obtain ⟨f, e1⟩ := e1
    rw [e1, List.findIdx?_cons, ih]
    rfl
theorem putAll_len : ∀ {ts : List Tg} {ds : List D} {η η' : Vars}, putAll ts ds η = some η' → ds.length = ts.length
  | [], [], _, _, _ => rfl
  | [], _ :: _, _, _, h => by simp [putAll] at h
  | _ :: _, [], _, _, h => by simp [putAll] at h
  | t :: ts, d :: ds, η, η', h => by
    simp only [putAll] at h
    split at h
    · rw [List.length_cons, List.length_cons, putAll_len h]
    · cases h
theorem sg_tup {ts : List Tg} {k1 : Nat} (F : Fit G T C n X W) (hcal : T.cal = true) (hn : es.all noStar = true) (hl : es.length = ts.length) (h : PGs X es (rdGs G ts)) : PG X (.Tuple es k1 pos) (rdG G (.tup ts)) :=
  (pg_tup (F.calm hcal) h asg_len (asg_nostar hn)).imp fun v σ H Q ⟨L, η, Z, d, η', en, k, r, hp, q⟩ => by
    have key : ∃ ds p vs, v = .ref p ∧ SqT G.K L.F p vs ∧ RepL G L ds vs ∧ putAll ts ds η = some η' := by
      cases d <;> first | (simp [Tg.put] at hp; done) | skip
      · simp only [Tg.put] at hp
        simp only [Rep] at r
        obtain ⟨a, xs, e1, hs, r⟩ := r
        exact ⟨_, a, xs, e1, hs.sq, r, hp⟩
      · simp only [Tg.put] at hp
        simp only [Rep] at r
        obtain ⟨a, xs, e1, hs, r⟩ := r
        exact ⟨_, a, xs, e1, hs, r, hp⟩
    obtain ⟨ds, a, xs, rfl, hs, r, hp⟩ := key
    refine ⟨a, xs, rfl, by rw [F.hK]; exact sqT_mono (k.sub a) hs, ?_, L, η, Z, ds, η', en, k, r, hp, fun σ' en' s' => q σ' en' (by simp only [Tg.slots]; exact s')⟩
    rw [← r.length, putAll_len hp, hl]
/-! ### what is walked -/
/-- J walks these items, from L on -/
structure WalkOk (G : Pg) (J : L2.It) (items : List D) (L : Lk) : Prop where
  stop : ∀ L' Z H, LOk G L' Z H → Lle L L' → J.stop items.length H
  go : ∀ (i : Nat) L' Z H, i < items.length → LOk G L' Z H → Lle L L' → J.go i H
  yld : ∀ (i : Nat) d L' Z H x H', items[i]? = some d → LOk G L' Z H → Lle L L' → J.yld i H x H' → ∃ L2, Step G L' H L2 Z H' ∧ Rep G L2 d x
theorem WalkOk.mono {J : L2.It} {items : List D} {L L' : Lk} (w : WalkOk G J items L) (l : Lle L L') : WalkOk G J items L' :=
  ⟨fun L2 Z H k l2 => w.stop L2 Z H k (l.trans l2), fun i L2 Z H hi k l2 => w.go i L2 Z H hi k (l.trans l2), fun i d L2 Z H x H' hd k l2 => w.yld i d L2 Z H x H' hd k (l.trans l2)⟩
def rdI (G : Pg) (C : Orc) (W : WX) (c : It) : TI := fun σ H R => ∃ L η Z, EnvOk G L η σ ∧ LOk G L Z H ∧ Pst G L H σ W (evIt C c η Z) (fun items L' H' => ∀ J, WalkOk G J items L' → R J H')
theorem walk_list {L : Lk} {a : Addr} {ds : List D} {vs : List V} (hK : X.K = G.K) (h : Rd L.F a (.lst vs)) (r : RepL G L ds vs) : WalkOk G (Itl X.K a) ds L := by
  refine ⟨fun L' Z H k l => ⟨vs, .inl (k.sub a _ (l.F a _ h)), by rw [r.length]; exact Nat.le_refl _⟩, fun i L' Z H hi k l => ?_, fun i d L' Z H x H' hd k l y => ?_⟩
  · obtain ⟨v, hv, _⟩ := r.get (List.getElem?_eq_getElem hi)
    exact ⟨vs, v, .inl (k.sub a _ (l.F a _ h)), hv⟩
  · obtain ⟨rfl, y⟩ := y
    obtain ⟨v, hv, rv⟩ := r.get hd
    have := y vs (.inl (k.sub a _ (l.F a _ h)))
    rw [hv] at this; cases this
    exact ⟨L', .refl k, Rep.mono l _ _ rv⟩
theorem walk_tup {L : Lk} {a : Addr} {ds : List D} {vs : List V} (hK : X.K = G.K) (h : SqT G.K L.F a vs) (r : RepL G L ds vs) : WalkOk G (Itt X.K a) ds L := by
  have sq : ∀ {L' : Lk} {Z : Sto} {H : Hp}, LOk G L' Z H → Lle L L' → SqT X.K H a vs := fun k l => by rw [hK]; exact sqT_mono (fun u q => k.sub a u (l.F a u q)) h
  refine ⟨fun L' Z H k l => ⟨vs, sq k l, by rw [r.length]; exact Nat.le_refl _⟩, fun i L' Z H hi k l => ?_, fun i d L' Z H x H' hd k l y => ?_⟩
  · obtain ⟨v, hv, _⟩ := r.get (List.getElem?_eq_getElem hi)
    exact ⟨vs, v, sq k l, hv⟩
  · obtain ⟨rfl, y⟩ := y
    obtain ⟨v, hv, rv⟩ := r.get hd
    have := y vs (sq k l)
    rw [hv] at this; cases this
    exact ⟨L', .refl k, Rep.mono l _ _ rv⟩
theorem walk_str {L : Lk} {z : Str} : WalkOk G (Its z) (z.cps.toList.map fun c => .str ⟨#[c]⟩) L := by
  refine ⟨fun L' Z H k l => by show z.cps.size ≤ _; simp, fun i L' Z H hi k l => by simpa [Its] using hi, fun i d L' Z H x H' hd k l y => ?_⟩
  obtain ⟨rfl, c, hc, rfl⟩ := y
  refine ⟨L', .refl k, ?_⟩
  rw [List.getElem?_map, Array.getElem?_toList, hc] at hd
  cases hd
  simp only [Rep]
theorem walk_range {L : Lk} {lo : Int} {m : Nat} : WalkOk G (Itr lo m) ((List.range m).map fun k => .int (lo + (k : Nat))) L := by
  refine ⟨fun L' Z H k l => by show m ≤ _; simp, fun i L' Z H hi k l => by simpa [Itr] using hi, fun i d L' Z H x H' hd k l y => ?_⟩
  obtain ⟨rfl, rfl⟩ := y
  refine ⟨L', .refl k, ?_⟩
  rw [List.getElem?_map] at hd
  rw [Option.map_eq_some_iff] at hd
  obtain ⟨j, hj, rfl⟩ := hd
  have := (List.getElem?_eq_some_iff.mp hj).2
  rw [List.getElem_range] at this
  subst this
  simp only [Rep]
theorem si_seq {tg : Expr} {c : E} (F : Fit G T C n X W) (h : SE G C W X e c) : PI X tg e (rdI G C W (.seq c)) := by
  refine ⟨fun pins s σ H R I ⟨L, η, Z, en, k, q⟩ => ?_⟩
  simp only [evIt] at q
  refine thn (h.run pins s σ H _ I (rdE_of en k q (R := fun v H1 => ∃ L1 Z1 d items, LOk G L1 Z1 H1 ∧ Rep G L1 d v ∧ itemsD d = some items ∧ ∀ J, WalkOk G J items L1 → R J H1) fun d Z1 L1 H1 v st r q => ?_)) ?_
  · obtain ⟨items, ei, q⟩ := q.opt
    exact ⟨L1, Z1, d, items, st.ok, r, ei, q.ok st.ok⟩
  · rintro u s1 ⟨v, H1, I1, rv, L1, Z1, d, items, k1, r, ei, q⟩
    unfold itemsD at ei
    split at ei
    case h_1 ds =>
      cases ei
      simp only [Rep] at r
      obtain ⟨a, vs, rfl, hs, r⟩ := r
      cases rv
      obtain ⟨its, rv, p, hz⟩ := I1.tuple (a := a) (xs := vs) (by rw [F.hK]; exact sqT_mono (k1.sub a) hs.sq)
      refine wpAny_pyIter_tuple (show s1.heap.IsTuple a its.toArray from p) ?_
      refine ⟨s1.heap.objs.size, [s1.heap.objs.size], _, _, H1, rfl, I1.kept (t' := s1.toks) fun b o e => Heap.get?_push_of_some _ e, turn_tuple a _, ⟨_, Heap.get?_push_size _ rfl, rfl, rfl⟩, fun b hb => ?_, q _ (walk_tup F.hK hs.sq r)⟩
      have e : b = s1.heap.objs.size := by simpa using hb
      subst e
      exact I1.fpOk (Nat.le_refl _) (I1.hok.fresh (Nat.le_refl _))
    case h_2 ds =>
      cases ei
      simp only [Rep] at r
      obtain ⟨a, vs, rfl, hs, r⟩ := r
      cases rv
      obtain ⟨its, rv, p, hz⟩ := I1.list (a := a) (xs := vs) (.inl (k1.sub a _ hs))
      refine wpAny_pyIter_list p.isList ?_
      refine ⟨s1.heap.objs.size, [s1.heap.objs.size], _, _, H1, rfl, I1.kept (t' := s1.toks) fun b o e => Heap.get?_push_of_some _ e, turn_list a _, ⟨_, Heap.get?_push_size _ rfl, rfl, rfl⟩, fun b hb => ?_, q _ (walk_list F.hK hs r)⟩
      have e : b = s1.heap.objs.size := by simpa using hb
      subst e
      exact I1.fpOk (Nat.le_refl _) (I1.hok.fresh (Nat.le_refl _))
    case h_3 z =>
      cases ei
      simp only [Rep] at r; subst r
      obtain ⟨t, rfl⟩ := rv
      have q := q _ (walk_str (L := L1))
      cases ha : z.cps.all (· < 128)
      · exact wpAny_pyIter_wide ha (pi_one (tk := s1.toks) I1 _ (turn_str _ z t "str_iterator" (.inr rfl)) ⟨_, Heap.get?_push_size _ rfl, rfl, rfl⟩ q)
      · exact wpAny_pyIter_ascii ha (pi_one (tk := s1.toks) I1 _ (turn_str _ z t "str_ascii_iterator" (.inl rfl)) ⟨_, Heap.get?_push_size _ rfl, rfl, rfl⟩ q)
    case h_4 => cases ei
theorem _root_.L2.PI.imp {X : Cx} {tg e : Expr} {t t' : TI} (h : PI X tg e t) (i : ∀ σ H Q, t' σ H Q → t σ H Q) : PI X tg e t' := ⟨fun pins s σ H R I q => h.run pins s σ H R I (i σ H R q)⟩
theorem si_range1 {tg : Expr} {c : E} (F : Fit G T C n X W) (hg : Gl X "range") (hm : X.mg "range" = none) (hn : noStar a = true) (h : SE G C W X a c) : PI X tg (.Call (.Name "range" p) [a] [] pos) (rdI G C W (.range1 c)) :=
  (pi_range1 hg hm (pa_cons h pa_nil (star_cons hn)) (star_cons hn)).imp fun σ H R ⟨L, η, Z, en, k, q⟩ => by
    simp only [evIt] at q
    refine rdE_of en k q fun d Z1 L1 H1 v st r q => ?_
    cases d <;> first | exact q.elim | skip
    rename_i m
    simp only [Rep] at r; subst r
    obtain ⟨hc, q⟩ := q.ite
    refine ⟨m, rfl, hc.2, hc.1, q.ok st.ok _ ?_⟩
    have := walk_range (G := G) (L := L1) (lo := 0) (m := m.toNat)
    simpa only [Int.zero_add] using this
theorem si_range2 {tg : Expr} {c c2 : E} (F : Fit G T C n X W) (hg : Gl X "range") (hm : X.mg "range" = none) (hn : noStar a = true) (hn2 : noStar b = true) (h : SE G C W X a c) (h2 : SE G C W X b c2) : PI X tg (.Call (.Name "range" p) [a, b] [] pos) (rdI G C W (.range2 c c2)) :=
  (pi_range2 hg hm (pa_cons h (pa_cons h2 pa_nil (star_cons hn2)) (star_cons hn)) (by rw [star_cons hn, star_cons hn2]; rfl) (star_cons hn2)).imp fun σ H R ⟨L, η, Z, en, k, q⟩ => by
    simp only [evIt] at q
    refine rdE_of en k q fun d Z1 L1 H1 v st r q1 => ?_
    refine rdE_of (en.mono st.le) st.ok q1 fun d2 Z2 L2' H2 v2 st2 r2 q2 => ?_
    clear q1 q
    cases d <;> first | exact q2.elim | skip
    cases d2 <;> first | exact q2.elim | skip
    rename_i m m2
    simp only [Rep] at r r2; subst r; subst r2
    obtain ⟨hc, q⟩ := q2.ite
    exact ⟨m, m2, rfl, ⟨hc.2.2.2, hc.2.2.1, hc.2.1, hc.1⟩, q.ok st2.ok _ walk_range⟩
theorem walk_enum {L : Lk} {a : Addr} {ds : List D} {vs : List V} (hK : X.K = G.K) (h : Rd L.F a (.lst vs)) (r : RepL G L ds vs) : WalkOk G (Ite X.K a) (ds.mapIdx fun i d => .tupU [.int (0 + (i : Nat)), d]) L := by
  have sq : ∀ {L' : Lk} {Z : Sto} {H : Hp}, LOk G L' Z H → Lle L L' → SqL X.K H a vs := fun k l => .inl (k.sub a _ (l.F a _ h))
  refine ⟨fun L' Z H k l => ⟨vs, sq k l, by rw [List.length_mapIdx, r.length]; exact Nat.le_refl _⟩, fun i L' Z H hi k l => ?_, fun i d L' Z H x H' hd k l y => ?_⟩
  · rw [List.length_mapIdx] at hi
    obtain ⟨v, hv, _⟩ := r.get (List.getElem?_eq_getElem hi)
    exact ⟨vs, v, sq k l, hv⟩
  · obtain ⟨t, x0, rfl, ht, rfl, y⟩ := y
    rw [List.getElem?_mapIdx, Option.map_eq_some_iff] at hd
    obtain ⟨d0, hd, rfl⟩ := hd
    obtain ⟨v, hv, rv⟩ := r.get hd
    have := y vs (sq k l)
    rw [hv] at this; cases this
    refine ⟨L'.addF t (.tup [.int (i : Nat), x0]), k.newF ht, ?_⟩
    show Rep G _ (D.tupU [.int (0 + (i : Nat)), d0]) _
    simp only [Rep]
    refine ⟨t, _, rfl, .inl (.inl addF_self), ?_⟩
    exact RepL.cons (by simp only [Rep]; rw [Int.zero_add]) (RepL.cons (Rep.mono (l.trans (k.le_addF ht)) _ _ rv) RepL.nil)
theorem si_enum {c : E} {elts : List Expr} {kk : Nat} {tpos : Pos} (F : Fit G T C n X W) (hg : Gl X "enumerate") (hm : X.mg "enumerate" = none) (hn : noStar a = true) (h : SE G C W X a c) :
    PI X (.Tuple elts kk tpos) (.Call (.Name "enumerate" p) [a] [] pos) (rdI G C W (.enum c 0)) :=
  (pi_enum hg hm (pa_cons h pa_nil (star_cons hn)) (star_cons hn)).imp fun σ H R ⟨L, η, Z, en, k, q⟩ => by
    simp only [evIt] at q
    refine rdE_of en k q fun d Z1 L1 H1 v st r q => ?_
    obtain ⟨items, ei, q⟩ := q.opt
    have ei : enumD 0 d = some items := ei
    unfold enumD at ei
    split at ei
    · rename_i ds
      obtain ⟨_, rfl⟩ := ite_some ei
      simp only [Rep] at r
      obtain ⟨a, vs, rfl, hs, r⟩ := r
      exact ⟨a, vs, rfl, .inl (st.ok.sub a _ hs), q.ok st.ok _ (walk_enum F.hK hs r)⟩
    · cases ei
theorem walk_zip {L : Lk} {a b : Addr} {ds es : List D} {vs ws : List V} (hK : X.K = G.K) (h : Rd L.F a (.lst vs)) (r : RepL G L ds vs) (h2 : Rd L.F b (.lst ws)) (r2 : RepL G L es ws) : WalkOk G (Itz X.K a b) ((ds.zip es).map fun p => .tupU [p.1, p.2]) L := by
  have sq : ∀ {L' : Lk} {Z : Sto} {H : Hp}, LOk G L' Z H → Lle L L' → SqL X.K H a vs := fun k l => .inl (k.sub a _ (l.F a _ h))
  have sq2 : ∀ {L' : Lk} {Z : Sto} {H : Hp}, LOk G L' Z H → Lle L L' → SqL X.K H b ws := fun k l => .inl (k.sub b _ (l.F b _ h2))
  have l1 := r.length
  have l2 := r2.length
  refine ⟨fun L' Z H k l => ⟨vs, ws, sq k l, sq2 k l, by rw [List.length_map, List.length_zip]; omega⟩, fun i L' Z H hi k l => ?_, fun i d L' Z H x H' hd k l y => ?_⟩
  · rw [List.length_map, List.length_zip] at hi
    obtain ⟨v, hv, _⟩ := r.get (List.getElem?_eq_getElem (show i < ds.length by omega))
    obtain ⟨w, hw, _⟩ := r2.get (List.getElem?_eq_getElem (show i < es.length by omega))
    exact ⟨vs, ws, v, w, sq k l, sq2 k l, hv, hw⟩
  · obtain ⟨t, x0, y0, rfl, ht, rfl, y, y'⟩ := y
    rw [List.getElem?_map, Option.map_eq_some_iff] at hd
    obtain ⟨⟨d0, e0⟩, hd, rfl⟩ := hd
    rw [List.getElem?_zip_eq_some] at hd
    obtain ⟨v, hv, rv⟩ := r.get hd.1
    obtain ⟨w, hw, rw'⟩ := r2.get hd.2
    have := y vs (sq k l)
    rw [hv] at this; cases this
    have := y' ws (sq2 k l)
    rw [hw] at this; cases this
    refine ⟨L'.addF t (.tup [x0, y0]), k.newF ht, ?_⟩
    show Rep G _ (D.tupU [d0, e0]) _
    simp only [Rep]
    refine ⟨t, _, rfl, .inl (.inl addF_self), ?_⟩
    exact RepL.cons (Rep.mono (l.trans (k.le_addF ht)) _ _ rv) (RepL.cons (Rep.mono (l.trans (k.le_addF ht)) _ _ rw') RepL.nil)
theorem si_zip {c c2 : E} {elts : List Expr} {kk : Nat} {tpos : Pos} (F : Fit G T C n X W) (hg : Gl X "zip") (hm : X.mg "zip" = none) (hn : noStar a = true) (hn2 : noStar b = true) (h : SE G C W X a c) (h2 : SE G C W X b c2) :
    PI X (.Tuple elts kk tpos) (.Call (.Name "zip" p) [a, b] [] pos) (rdI G C W (.zip c c2)) :=
  (pi_zip hg hm (pa_cons h (pa_cons h2 pa_nil (star_cons hn2)) (star_cons hn)) (star_cons hn) (star_any (by simp [hn2]))).imp fun σ H R ⟨L, η, Z, en, k, q⟩ => by
    simp only [evIt] at q
    refine rdE_of en k q fun d Z1 L1 H1 v st r q => ?_
    refine rdE_of (en.mono st.le) st.ok q fun d2 Z2 L2' H2 v2 st2 r2 q => ?_
    obtain ⟨xs, ex, q⟩ := q.opt
    obtain ⟨ys, ey, q⟩ := q.opt
    have r := Rep.mono st2.le _ _ r
    have ex : lstD d = some xs := ex
    have ey : lstD d2 = some ys := ey
    unfold lstD at ex ey
    split at ex
    · cases ex
      split at ey
      · cases ey
        simp only [Rep] at r r2
        obtain ⟨a, vs, rfl, hs, r⟩ := r
        obtain ⟨b, ws, rfl, hs2, r2⟩ := r2
        exact ⟨a, b, vs, ws, rfl, .inl (st2.ok.sub a _ hs), .inl (st2.ok.sub b _ hs2), q.ok st2.ok _ (walk_zip F.hK hs r hs2 r2)⟩
      · cases ey
    · cases ex
end
end Py
end
section
set_option Elab.async false
set_option linter.all false
set_option maxRecDepth 100000
set_option maxHeartbeats 4000000
/-! PyH: comprehensions. -/
namespace Py
open PySem PySem.Spec L2
section
variable {G : Pg} {L L0 : Lk} {Z Z0 : Sto} {H H0 : Hp} {p : Addr} {o : HO}
theorem LOk.extra (k : LOk G L Z H) (hn : ¬ Own L p) : LOk G L Z (upd H p o) := by
  have neF : ∀ {a}, L.F a ≠ none → a ≠ p := fun {a} h e => by subst e; exact hn (.inl h)
  refine ⟨fun a u h => ?_, k.lenS, k.lenT, k.nd, fun i c a h1 h2 => ?_, fun i c a h1 h2 => ?_⟩
  · have e := neF (some_ne h)
    rw [upd_ne e]; exact k.subx a u h
  · have e : a ≠ p := fun z => by subst z; exact hn (.inr (.inl (mem_of_get h2)))
    exact (k.cS i c a h1 h2).mono (.refl L) (fun n => n) (fun n => n) (upd_ne e)
  · have e : a ≠ p := fun z => by subst z; exact hn (.inr (.inr (mem_of_get h2)))
    exact (k.cT i c a h1 h2).mono (.refl L) (fun n => n) (fun n => n) (upd_ne e)
theorem Step.upd (s : Step G L0 H0 L Z H) (h0 : H0 p = none) (hn : ¬ Own L p) : Step G L0 H0 L Z (upd H p o) := by
  refine ⟨s.ok.extra hn, s.le, fun a u h n => ?_, fun a h => ?_, s.new⟩
  · have e : a ≠ p := fun z => by subst z; rw [h0] at h; cases h
    rw [upd_ne e]; exact s.out a u h n
  · have e : a ≠ p := fun z => by subst z; exact h h0
    rw [upd_ne e]; exact s.keep a h
theorem le_adopt (hn : ¬ Own L p) : Lle L (L.addF p o) := by
  have hF : L.F p = none := Classical.byContradiction fun q => hn (.inl q)
  refine ⟨fun b w h => ?_, ⟨[], by simp [Lk.addF]⟩, ⟨[], by simp [Lk.addF]⟩⟩
  have ne : b ≠ p := fun e => by subst e; exact some_ne h hF
  show L2.upd L.F p o b = _
  rw [upd_ne ne]; exact h
theorem Step.adopt (s : Step G L0 H0 L Z H) (h0 : H0 p = none) (hn : ¬ Own L p) (hp : H p = some o) (hf : ∀ ob u, o ≠ .frz ob u) : Step G L0 H0 (L.addF p o) Z H := by
  have hF : L.F p = none := Classical.byContradiction fun q => hn (.inl q)
  have eF : ∀ {b}, b ≠ p → (L.addF p o).F b = L.F b := fun {b} ne => by show L2.upd L.F p o b = _; rw [upd_ne ne]
  have l : Lle L (L.addF p o) := by
    refine ⟨fun b w h => ?_, ⟨[], by simp [Lk.addF]⟩, ⟨[], by simp [Lk.addF]⟩⟩
    have ne : b ≠ p := fun e => by subst e; exact some_ne h hF
    rw [eF ne]; exact h
  have neρ : ∀ {a}, a ∈ L.ρ → a ≠ p := fun h z => by subst z; exact hn (.inr (.inl h))
  have neτ : ∀ {a}, a ∈ L.τ → a ≠ p := fun h z => by subst z; exact hn (.inr (.inr h))
  have cell : ∀ c a, a ≠ p → CellOk G L H c a → CellOk G (L.addF p o) H c a := fun c a e h => h.mono l (fun n => by rw [eF e]; exact n) (fun n => by rw [eF e]; exact n) rfl
  refine ⟨⟨fun b w h => ?_, s.ok.lenS, s.ok.lenT, s.ok.nd, fun i c a h1 h2 => cell c a (neρ (mem_of_get h2)) (s.ok.cS i c a h1 h2), fun i c a h1 h2 => cell c a (neτ (mem_of_get h2)) (s.ok.cT i c a h1 h2)⟩, s.le.trans l, fun a u h n => ?_, s.keep, s.new⟩
  · by_cases e : b = p
    · subst e
      rw [addF_self] at h; cases h; exact hp
    · exact s.ok.subx b w (by rw [← eF e]; exact h)
  · obtain ⟨h1, n1⟩ := s.out a u h n
    have e : a ≠ p := fun z => by subst z; rw [h0] at h; cases h
    refine ⟨h1, fun w => n1 ?_⟩
    rcases w with w | w | w
    · exact .inl (by rw [eF e] at w; exact w)
    · exact .inr (.inl w)
    · exact .inr (.inr w)
end
section
variable {put : D → Option Vars} {test : Vars → Sto → Res (Bool × Sto)} {elt : Vars → Sto → Res (D × Sto)}
theorem lcGo_cons {x : D} {xs acc : List D} {Z : Sto} {r : D × Sto} (h : lcGo put test elt (x :: xs) acc Z = .ok r) : ∃ η', put x = some η' ∧ ∃ b Z2, test η' Z = .ok (b, Z2) ∧
    ((b = false ∧ lcGo put test elt xs acc Z2 = .ok r) ∨ (b = true ∧ ∃ y Z3, elt η' Z2 = .ok (y, Z3) ∧ acc.length < lineN ∧ lcGo put test elt xs (acc ++ [y]) Z3 = .ok r)) := by
  unfold lcGo at h
  split at h
  · cases h
  · rename_i η' e1
    refine ⟨η', e1, ?_⟩
    cases e2 : test η' Z with
    | ok p =>
      obtain ⟨b, Z2⟩ := p
      rw [e2] at h
      refine ⟨b, Z2, rfl, ?_⟩
      cases b with
      | false => exact .inl ⟨rfl, h⟩
      | true =>
        refine .inr ⟨rfl, ?_⟩
        simp only [Res.nox, Res.ok_bind, if_true] at h
        cases e3 : elt η' Z2 with
        | ok p =>
          obtain ⟨y, Z3⟩ := p
          rw [e3] at h
          simp only [Res.nox, Res.ok_bind] at h
          by_cases hl : acc.length < lineN
          · rw [if_pos hl] at h; exact ⟨y, Z3, rfl, hl, h⟩
          · rw [if_neg hl] at h; cases h
        | exn c d Z => rw [e3] at h; cases h
        | bad => rw [e3] at h; cases h
    | exn c d Z => rw [e2] at h; cases h
    | bad => rw [e2] at h; cases h
theorem nox_ne {α : Type} {m : Res α} {c : Nat} {d : D} {Z : Sto} : m.nox ≠ .exn c d Z := by cases m <;> exact nofun
theorem lcGo_ne : ∀ {xs acc : List D} {Z : Sto} {c : Nat} {d : D} {Z' : Sto}, lcGo put test elt xs acc Z ≠ .exn c d Z'
  | [], _, _, _, _, _ => nofun
  | x :: xs, acc, Z, c, d, Z' => by
    unfold lcGo
    split
    · exact nofun
    · rename_i η' _
      cases e2 : (test η' Z).nox with
      | ok p =>
        obtain ⟨b, Z2⟩ := p
        cases b with
        | false => exact lcGo_ne
        | true =>
          simp only [Res.ok_bind, if_true]
          cases e3 : (elt η' Z2).nox with
          | ok p =>
            simp only [Res.ok_bind]
            split
            · exact lcGo_ne
            · exact nofun
          | exn c d Z => exact absurd e3 nox_ne
          | bad => exact nofun
      | exn c d Z => exact absurd e2 nox_ne
      | bad => exact nofun
end
section
variable {G : Pg} {T : Tab} {C : Orc} {n : Nat} {X : Cx} {W : WX} {e a b : Expr} {es : List Expr} {pos p p2 : Pos}
/-- nothing is raised -/
abbrev W0 : WX := fun _ _ _ _ => False
def rdOo (G : Pg) (C : Orc) (W : WX) (c : Oo) : TT := fun σ H Q => ∃ L η Z, EnvOk G L η σ ∧ LOk G L Z H ∧ Pst G L H σ W (evOo C c η Z) (fun b _ H' => Q b H')
theorem _root_.L2.PTs.imp {X : Cx} {e : List Expr} {t t' : TT} (h : PTs X e t) (i : ∀ σ H Q, t' σ H Q → t σ H Q) : PTs X e t' := ⟨fun pins s σ H R I q => h.run pins s σ H R I (i σ H R q)⟩
theorem sq_none : PTs X [] (rdOo G C W .none) := pts_nil.imp fun σ H Q ⟨L, η, Z, en, k, q⟩ => by
  simp only [evOo] at q
  exact q.ok k
theorem sq_one {c : O} (h : STt G C W X e c) : PTs X [e] (rdOo G C W (.some c)) := pts_one h
theorem rdI_of {L : Lk} {η : Vars} {σ : L2.St} {Z : Sto} {H : Hp} {α : Type} {Q : α → Lk → Hp → Prop} {it : It} {f : List D × Sto → Res (α × Sto)} {R : L2.It → Hp → Prop} (e : EnvOk G L η σ) (k : LOk G L Z H) (p : Pst G L H σ W (evIt C it η Z >>= f) Q)
    (h : ∀ items Z1 L1 H1 J, Step G L H L1 Z1 H1 → WalkOk G J items L1 → Pst G L1 H1 σ W (f (items, Z1)) Q → R J H1) : rdI G C W it σ H R :=
  ⟨L, η, Z, e, k, p.bind.imp fun d Z' L' H' em st q J w => h d Z' L' H' J st w (q Z' st.ok em)⟩
theorem wipe_get : ∀ (own : List Nat) (τ : L2.St) (i : Nat), (wipe τ own)[i]? = if i ∈ own ∧ i < τ.length then some none else τ[i]?
  | [], τ, i => by simp [wipe]
  | v :: vs, τ, i => by
    unfold wipe
    by_cases hv : v = i
    · subst hv
      by_cases hl : v < τ.length
      · rw [List.getElem?_set_self (by rw [wipe_length]; exact hl), if_pos ⟨by simp, hl⟩]
      · rw [List.getElem?_eq_none (by rw [List.length_set, wipe_length]; omega), if_neg (fun q => hl q.2), List.getElem?_eq_none (by omega)]
    · rw [List.getElem?_set_ne hv, wipe_get vs τ i]
      by_cases hi : i ∈ vs ∧ i < τ.length
      · rw [if_pos hi, if_pos ⟨List.mem_cons_of_mem _ hi.1, hi.2⟩]
      · rw [if_neg hi, if_neg]
        rintro ⟨q1, q2⟩
        rcases List.mem_cons.mp q1 with q | q
        · exact hv q.symm
        · exact hi ⟨q, q2⟩
theorem wipe_eq : ∀ {own : List Nat} {σ σ' : L2.St} {is : List Nat}, SameBut is σ σ' → (∀ i ∈ is, i ∈ own) → wipe σ' own = wipe σ own
  | own, σ, σ', is, s, h => by
    refine List.ext_getElem? fun i => ?_
    rw [wipe_get, wipe_get, s.1]
    by_cases hi : i ∈ own
    · by_cases hl : i < σ.length
      · rw [if_pos ⟨hi, hl⟩, if_pos ⟨hi, hl⟩]
      · rw [if_neg (fun q => hl q.2), if_neg (fun q => hl q.2), List.getElem?_eq_none (by rw [s.1]; omega), List.getElem?_eq_none (by omega)]
    · rw [if_neg (fun q => hi q.1), if_neg (fun q => hi q.1), s.2 i fun q => hi (h i q)]
theorem lc_tLc {own : List Nat} {t : Tg} {it : It} {cond : Oo} {celt : E} {wi : TI} (hs : ∀ i ∈ t.slots, i ∈ own) : ∀ σ H Q, rdE G C W (.lc own celt t it cond) σ H Q → tLc (rdI G C W it) (rdG G t) (rdOo G C W0 cond) (rdE G C W0 celt) own σ H Q := by
  rintro σ H Q ⟨L, η, Z, en, k, q⟩
  simp only [ev] at q
  refine rdI_of en k q fun items Z1 L1 H1 J st w q1 => ?_
  intro Dd hD
  generalize hput : (fun x => t.put x (wipeE η own)) = put at q1
  generalize htest : (fun η' Z => evOo C cond η' Z) = test at q1
  generalize helt : (fun η' Z => ev C celt η' Z) = elt at q1
  have q1 : Pst G L1 H1 σ W (lcGo put test elt items [] Z1) (fun d L' H' => ∀ v, Rep G L' d v → Q v H') := q1
  obtain ⟨dr, Zr, er⟩ : ∃ dr Zr, lcGo put test elt items [] Z1 = .ok (dr, Zr) := by
    cases e : lcGo put test elt items [] Z1 with
    | ok r => exact ⟨r.1, r.2, rfl⟩
    | exn c d Z => exact absurd e lcGo_ne
    | bad => rw [e] at q1; exact q1.elim
  rw [er] at q1
  have q1 : ∀ L' H', Step G L1 H1 L' Zr H' → ∀ v, Rep G L' dr v → Q v H' := q1
  have kn := st.ok
  refine ⟨fun i m H => m = items.length - i ∧ i ≤ items.length ∧ ∃ L' Z' acc vs, Step G L1 H1 L' Z' H ∧ ¬ Own L' Dd ∧ H Dd = some (.lst vs) ∧ RepL G L' acc vs ∧ lcGo put test elt (items.drop i) acc Z' = .ok (dr, Zr),
    ⟨items.length, by simp, Nat.zero_le _, L1, Z1, [], [], (Step.refl kn).upd hD (kn.fresh hD), kn.fresh hD, upd_same, RepL.nil, by rw [List.drop_zero]; exact er⟩, ?_⟩
  rintro i m H2 ⟨rfl, hi, L', Z', acc, vs, sS, nO, hH, rA, hgo⟩
  by_cases hlt : i < items.length
  · right
    refine ⟨w.go i L' Z' H2 hlt sS.ok sS.le, fun H' => ∃ L' Z' acc vs, Step G L1 H1 L' Z' H' ∧ ¬ Own L' Dd ∧ H' Dd = some (.lst vs) ∧ RepL G L' acc vs ∧ lcGo put test elt (items.drop (i + 1)) acc Z' = .ok (dr, Zr),
      fun H' h => ⟨items.length - (i + 1), by omega, rfl, hlt, h⟩, fun x H' y => ?_⟩
    obtain ⟨L2, s2, rx⟩ := w.yld i items[i] L' Z' H2 x H' (List.getElem?_eq_getElem hlt) sS.ok sS.le y
    rw [List.drop_eq_getElem_cons hlt] at hgo
    obtain ⟨η', ep, b, Z2, et, hb⟩ := lcGo_cons hgo
    have sS2 := sS.trans s2
    obtain ⟨hH2, nO2⟩ := s2.out Dd _ hH nO
    refine ⟨L2, wipeE η own, Z', items[i], η', (EnvOk.wipe (en.mono st.le) own).mono sS2.le, s2.ok, rx, by rw [← hput] at ep; exact ep, fun σ' en' same => ⟨?_, L2, η', Z', en', s2.ok, ?_⟩⟩
    · have e1 := wipe_eq (own := own) same hs
      rw [e1]
      refine List.ext_getElem? fun j => ?_
      rw [wipe_get, wipe_get, wipe_length]
      by_cases hj : j ∈ own ∧ j < σ.length
      · rw [if_pos hj, if_pos hj]
      · rw [if_neg hj, if_neg hj]
    · have et' : evOo C cond η' Z' = .ok (b, Z2) := by rw [← htest] at et; exact et
      rw [et']
      intro L3 H3 s3
      obtain ⟨hH3, nO3⟩ := s3.out Dd _ hH2 nO2
      rcases hb with ⟨rfl, hgo⟩ | ⟨rfl, y, Z3, ee, hl, hgo⟩
      · rw [if_neg Bool.false_ne_true]
        exact ⟨L3, Z2, acc, vs, sS2.trans s3, nO3, hH3, RepL.mono (s2.le.trans s3.le) _ _ rA, hgo⟩
      · rw [if_pos rfl]
        have ee' : ev C celt η' Z2 = .ok (y, Z3) := by rw [← helt] at ee; exact ee
        refine ⟨L3, η', Z2, en'.mono s3.le, s3.ok, ?_⟩
        rw [ee']
        intro L4 H4 s4 v rv
        obtain ⟨hH4, nO4⟩ := s4.out Dd _ hH3 nO3
        have rA4 := RepL.mono ((s2.le.trans s3.le).trans s4.le) _ _ rA
        refine ⟨vs, hH4, by rw [line_eq, ← rA.length]; exact hl, L4, Z3, acc ++ [y], vs ++ [v], ((sS2.trans s3).trans s4).upd hD nO4, nO4, upd_same, rA4.append (.cons rv .nil), hgo⟩
  · left
    have hi' : i = items.length := by omega
    subst hi'
    refine ⟨w.stop L' Z' H2 sS.ok sS.le, ?_⟩
    rw [List.drop_length] at hgo
    have hgo : (Res.ok (D.lst acc, Z') : Res (D × Sto)) = .ok (dr, Zr) := hgo
    cases hgo
    have sA := sS.adopt hD nO hH (fun _ _ => nofun)
    refine q1 _ H2 sA (.ref Dd) ?_
    simp only [Rep]
    exact ⟨Dd, vs, rfl, .inl addF_self, RepL.mono (le_adopt nO) _ _ rA⟩
end
end Py
end
section
set_option Elab.async false
set_option linter.all false
set_option maxRecDepth 100000
set_option maxHeartbeats 4000000
/-! PyI: statements. -/
namespace Py
open PySem PySem.Spec L2
section
variable {G : Pg} {T : Tab} {C : Orc} {n : Nat} {X : Cx} {W : WX} {e a b : Expr} {es : List Expr} {pos p p2 : Pos}
theorem takesN_none {X : Cx} : L2N.Takes X (fun _ _ _ _ => False) := fun _ _ ⟨_, _, _, _, _, _, _, _, _, _, _, _, _, _, _, _, w⟩ => w.elim
theorem Fit.blk (F : Fit G T C n X W) (hcal : T.cal = true) (s : Shared) (H : Hp) (scope : Scope) (cenv : PySem.Env) (fp : List Addr) : Fit G T C n (X.blk s H scope cenv fp) W0 :=
  ⟨F.hK, F.calm, by have := F.mode; unfold CxMode at this ⊢; rw [if_pos hcal] at this ⊢; exact this, F.room, F.gd, F.nd, takesN_none, PassesOwn.never, F.free, F.cns, F.fns⟩
/-- a comprehension's block: its parts are read at every block of X -/
structure LcParts (G : Pg) (C : Orc) (X : Cx) (elt tg : Expr) (ifs : List Expr) (scope : Scope) (celt : E) (t : Tg) (cond : Oo) : Prop where
  hg : ∀ (s : Shared) (H : Hp) (Cc : Addr) (cl : List (Str × Addr)) (fp : List Addr), PG (X.blk s H scope (compEnvC scope cl Cc X.env) fp) tg (rdG G t)
  ht : ∀ (s : Shared) (H : Hp) (Cc : Addr) (cl : List (Str × Addr)) (fp : List Addr), PTs (X.blk s H scope (compEnvC scope cl Cc X.env) fp) ifs (rdOo G C W0 cond)
  he : ∀ (s : Shared) (H : Hp) (Cc : Addr) (cl : List (Str × Addr)) (fp : List Addr), PE (X.blk s H scope (compEnvC scope cl Cc X.env) fp) elt (rdE G C W0 celt)
def notSet : Expr → Bool
  | .Set .. => false
  | _ => true
theorem notSet_ok (h : notSet e = true) : ∀ env x, foldedSetIterable e env x = pure x := by
  intro env x
  cases e <;> first | rfl | cases h
theorem s_lc {elt tg iter : Expr} {ifs : List Expr} {scope : Scope} {own : List (Str × Nat)} {celt : E} {t : Tg} {it : It} {cond : Oo} (F : Fit G T C n X W) (hcal : T.cal = true) (hi : PI X tg iter (rdI G C W it)) (ok : BlkOk X.N X.env.scope scope own)
    (P : LcParts G C X elt tg ifs scope celt t cond) (hs : ∀ i ∈ t.slots, i ∈ own.map (·.2)) (hn : notSet iter = true) : SE G C W X (.ListComp elt [⟨tg, iter, ifs, 0⟩] scope pos) (.lc (own.map (·.2)) celt t it cond) :=
  (pe_lc (F.calm hcal) F.nd hi ok P.hg P.ht P.he (notSet_ok hn _)).imp (lc_tLc (wi := rdI G C W it) hs)
end

/-! ### statements -/
section
variable (G : Pg) (C : Orc) (E : XK)
/-- what is wanted of an error, whatever the slots -/
abbrev wK : WX := fun c d _ H => E c d H
def PstS (L : Lk) (H : Hp) (m : Res (Flow × Vars × Sto)) (D : Ends) : Prop :=
  match m with
  | .ok (.next, η', Z') => ∀ L' H' σ', Step G L H L' Z' H' → EnvOk G L' η' σ' → D.nx σ' H'
  | .ok (.brk, η', Z') => ∀ L' H' σ', Step G L H L' Z' H' → EnvOk G L' η' σ' → D.bk σ' H'
  | .ok (.cont, η', Z') => ∀ L' H' σ', Step G L H L' Z' H' → EnvOk G L' η' σ' → D.ct σ' H'
  | .ok (.ret d, _, Z') => ∀ L' H' v, Step G L H L' Z' H' → Rep G L' d v → D.rt v H'
  | .exn c d Z' => ∀ L' H' cls dd, Step G L H L' Z' H' → ExcOk G L' H' c d cls dd → E cls dd H'
  | .bad => False
def rdS (c : Sm) : TS := fun D σ H => ∃ L η Z, EnvOk G L η σ ∧ LOk G L Z H ∧ PstS G E L H (ex C c η Z) D
def rdSs (c : Sms) : TS := fun D σ H => ∃ L η Z, EnvOk G L η σ ∧ LOk G L Z H ∧ PstS G E L H (exs C c η Z) D
end
section
variable {G : Pg} {C : Orc} {E : XK} {L L1 : Lk} {H H1 : Hp} {Z Z1 : Sto} {D : Ends} {σ : L2.St} {η : Vars} {α : Type}
theorem PstS.step {m : Res (Flow × Vars × Sto)} (p : PstS G E L H m D) (s : Step G L H L1 Z1 H1) : PstS G E L1 H1 m D := by
  cases m with
  | ok a =>
    obtain ⟨f, η', Z'⟩ := a
    cases f with
    | next => exact fun L' H' σ' t en => p L' H' σ' (s.trans t) en
    | brk => exact fun L' H' σ' t en => p L' H' σ' (s.trans t) en
    | cont => exact fun L' H' σ' t en => p L' H' σ' (s.trans t) en
    | ret d => exact fun L' H' v t r => p L' H' v (s.trans t) r
  | exn c d Z' => exact fun L' H' cls dd t x => p L' H' cls dd (s.trans t) x
  | bad => exact p
/-- an expression first -/
theorem PstS.bind {m : Res (α × Sto)} {f : α × Sto → Res (Flow × Vars × Sto)} (p : PstS G E L H (m >>= f) D) : Pst G L H σ (wK E) m (fun a L' H' => ∀ Z', LOk G L' Z' H' → m = .ok (a, Z') → PstS G E L' H' (f (a, Z')) D) := by
  cases m with
  | ok a =>
    obtain ⟨a, Z1⟩ := a
    intro L' H' s Z' _ e
    cases e
    exact PstS.step (m := f (a, Z1)) p s
  | exn c d Z' => exact p
  | bad => exact p
theorem PstS.opt {o : Option α} {f : α → Res (Flow × Vars × Sto)} (p : PstS G E L H ((Res.opt o : Res α) >>= f) D) : ∃ a, o = some a ∧ PstS G E L H (f a) D := by
  cases o with
  | none => exact p.elim
  | some a => exact ⟨a, rfl, p⟩
theorem PstS.ite {c : Prop} [Decidable c] {m : Res (Flow × Vars × Sto)} (p : PstS G E L H (if c then m else .bad) D) : c ∧ PstS G E L H m D := by
  by_cases h : c
  · rw [if_pos h] at p; exact ⟨h, p⟩
  · rw [if_neg h] at p; exact p.elim
theorem rdE_s {a : Py.E} {f : Py.D × Sto → Res (Flow × Vars × Sto)} {R : VK} (e : EnvOk G L η σ) (k : LOk G L Z H) (p : PstS G E L H (ev C a η Z >>= f) D)
    (h : ∀ d Z1 L1 H1 v, Step G L H L1 Z1 H1 → Rep G L1 d v → PstS G E L1 H1 (f (d, Z1)) D → R v H1) : rdE G C (wK E) a σ H R :=
  ⟨L, η, Z, e, k, p.bind.imp fun d Z' L' H' em st q v r => h d Z' L' H' v st r (q Z' st.ok em)⟩
theorem rdO_s {a : O} {f : Ov × Sto → Res (Flow × Vars × Sto)} {R : VK} (e : EnvOk G L η σ) (k : LOk G L Z H) (p : PstS G E L H (evO C a η Z >>= f) D)
    (h : ∀ d Z1 L1 H1 v, Step G L H L1 Z1 H1 → RepO G L1 d v → PstS G E L1 H1 (f (d, Z1)) D → R v H1) : rdO G C (wK E) a σ H R :=
  ⟨L, η, Z, e, k, p.bind.imp fun d Z' L' H' em st q v r => h d Z' L' H' v st r (q Z' st.ok em)⟩
theorem rdT_s {a : O} {f : Bool × Sto → Res (Flow × Vars × Sto)} {R : Bool → Hp → Prop} (e : EnvOk G L η σ) (k : LOk G L Z H) (p : PstS G E L H (evOo C (.some a) η Z >>= f) D)
    (h : ∀ d Z1 L1 H1, Step G L H L1 Z1 H1 → PstS G E L1 H1 (f (d, Z1)) D → R d H1) : rdT G C (wK E) a σ H R :=
  ⟨L, η, Z, e, k, p.bind.imp fun d Z' L' H' em st q => h d Z' L' H' st (q Z' st.ok em)⟩
theorem rdI_s {it : It} {f : List Py.D × Sto → Res (Flow × Vars × Sto)} {R : L2.It → Hp → Prop} (e : EnvOk G L η σ) (k : LOk G L Z H) (p : PstS G E L H (evIt C it η Z >>= f) D)
    (h : ∀ items Z1 L1 H1 J, Step G L H L1 Z1 H1 → WalkOk G J items L1 → PstS G E L1 H1 (f (items, Z1)) D → R J H1) : rdI G C (wK E) it σ H R :=
  ⟨L, η, Z, e, k, p.bind.imp fun d Z' L' H' em st q J w => h d Z' L' H' J st w (q Z' st.ok em)⟩
end
section
variable {G : Pg} {T : Tab} {C : Orc} {n : Nat} {X : Cx} {E : XK} {e a b : Expr} {es : List Expr} {st : Stmt} {sts : List Stmt} {pos p p2 : Pos}
abbrev SS (G : Pg) (C : Orc) (E : XK) (X : Cx) (st : Stmt) (c : Sm) : Prop := PS X st (rdS G C E c)
abbrev SSs (G : Pg) (C : Orc) (E : XK) (X : Cx) (st : List Stmt) (c : Sms) : Prop := PSs X st (rdSs G C E c)
theorem b_nil : SSs G C E X [] .nil := pss_nil.imp fun D σ H ⟨L, η, Z, en, k, q⟩ => by
  simp only [exs] at q
  exact q L H σ (.refl k) en
theorem b_cons {c : Sm} {cs : Sms} (h : SS G C E X st c) (r : SSs G C E X sts cs) : SSs G C E X (st :: sts) (.cons c cs) :=
  (pss_cons h r).imp fun D σ H ⟨L, η, Z, en, k, q⟩ => by
    refine ⟨L, η, Z, en, k, ?_⟩
    simp only [exs] at q
    cases e : ex C c η Z with
    | ok x =>
      obtain ⟨f, η', Z'⟩ := x
      rw [e] at q
      cases f with
      | next => exact fun L' H' σ' s en' => ⟨L', η', Z', en', s.ok, PstS.step q s⟩
      | brk => exact q
      | cont => exact q
      | ret d => exact q
    | exn c d Z' => rw [e] at q; exact q
    | bad => rw [e] at q; exact q.elim
/-- a statement's value is no comprehension -/
def notComp : Expr → Bool
  | .ListComp .. => false
  | .SetComp .. => false
  | .DictComp .. => false
  | _ => true
theorem swaps_no (h : notComp e = true) (t : Option Expr) (l : Nat) (env : PySem.Env) : swapsWith e t l env = pure false := by
  cases e <;> first | rfl | cases h
theorem t_asgName {x : Str} {i : Nat} {c : Py.E} {px : Pos} (F : Fit G T C n X (wK E)) (hi : X.N[i]? = some x) (hx : Loc X.env.scope x) (hf : ∀ x, X.fn x = true) (hs : swapsWith e (some (.Name x px)) pos.line X.env = pure false) (h : SE G C (wK E) X e c) :
    SS G C E X (.Assign [.Name x px] e pos) (.asg (.name i) c) :=
  (ps_set F.nd hi hx h hs (.inl (hf x))).imp fun D σ H ⟨L, η, Z, en, k, q⟩ => by
    simp only [ex] at q
    refine rdE_s en k q fun d Z1 L1 H1 v st r q => ?_
    obtain ⟨η', e1, q⟩ := q.opt
    simp only [Tg.put] at e1
    obtain ⟨hl, rfl⟩ := ite_some e1
    exact q L1 H1 _ (.refl st.ok) ((en.mono st.le).setVal r hl)
theorem t_setLc {x : Str} {i : Nat} {px : Pos} {elt tg iter : Expr} {ifs : List Expr} {scope : Scope} {own : List (Str × Nat)} {celt : Py.E} {t : Tg} {it : It} {cond : Oo} (F : Fit G T C n X (wK E)) (hcal : T.cal = true) (hi' : X.N[i]? = some x) (hy : X.env.scope.names.lookup x = some .local)
    (hsw : swapsWith (.ListComp elt [⟨tg, iter, ifs, 0⟩] scope p) (some (.Name x px)) pos.line X.env = pure true) (hi : PI X tg iter (rdI G C (wK E) it)) (ok : BlkOk X.N X.env.scope scope own)
    (P : LcParts G C X elt tg ifs scope celt t cond) (hs : ∀ i ∈ t.slots, i ∈ own.map (·.2)) (hn : notSet iter = true) : SS G C E X (.Assign [.Name x px] (.ListComp elt [⟨tg, iter, ifs, 0⟩] scope p) pos) (.asg (.name i) (.lc (own.map (·.2)) celt t it cond)) :=
  (ps_setLc (F.calm hcal) F.nd hi' hy hsw hi ok P.hg P.ht P.he (notSet_ok hn _)).imp fun D σ H ⟨L, η, Z, en, k, q⟩ => by
    simp only [ex] at q
    refine lc_tLc (wi := rdI G C (wK E) it) hs σ H _ (rdE_s en k q fun d Z1 L1 H1 v st r q => ?_)
    obtain ⟨η', e1, q⟩ := q.opt
    simp only [Tg.put] at e1
    obtain ⟨hl, rfl⟩ := ite_some e1
    exact q L1 H1 _ (.refl st.ok) ((en.mono st.le).setVal r hl)
theorem t_asgTup {ts : List Tg} {c : Py.E} {elts : List Expr} {kk : Nat} {pt : Pos} (F : Fit G T C n X (wK E)) (hc : notComp e = true) (hw : swappedStores [.Tuple elts kk pt] e X.env = pure none) (hg : PG X (.Tuple elts kk pt) (rdG G (.tup ts))) (h : SE G C (wK E) X e c) :
    SS G C E X (.Assign [.Tuple elts kk pt] e pos) (.asg (.tup ts) c) :=
  (ps_asg h hg (show swapsWithSole [.Tuple elts kk pt] e pos.line X.env = pure false by rw [show swapsWithSole [.Tuple elts kk pt] e pos.line X.env = swapsWith e (some (.Tuple elts kk pt)) pos.line X.env from by first | rfl | (unfold swapsWithSole; rfl)]; exact swaps_no hc _ _ _) hw).imp fun D σ H ⟨L, η, Z, en, k, q⟩ => by
    simp only [ex] at q
    refine rdE_s en k q fun d Z1 L1 H1 v st r q => ?_
    obtain ⟨η', e1, q⟩ := q.opt
    exact ⟨L1, η, Z1, d, η', en.mono st.le, st.ok, r, e1, fun σ' en' s' => q L1 H1 _ (.refl st.ok) en'⟩
theorem t_expr {c : Py.E} (F : Fit G T C n X (wK E)) (hc : notComp e = true) (h : SE G C (wK E) X e c) : SS G C E X (.Expr e pos) (.expr c) :=
  (ps_expr h (swaps_no hc _ _ _)).imp fun D σ H ⟨L, η, Z, en, k, q⟩ => by
    simp only [ex] at q
    refine rdE_s en k q fun d Z1 L1 H1 v st r q => ?_
    exact q L1 H1 _ (.refl st.ok) (en.mono st.le)
theorem t_ret {c : Py.E} (h : SE G C (wK E) X e c) : SS G C E X (.Return (some e) pos) (.ret c) :=
  (ps_ret h).imp fun D σ H ⟨L, η, Z, en, k, q⟩ => by
    simp only [ex] at q
    refine rdE_s en k q fun d Z1 L1 H1 v st r q => ?_
    exact q L1 H1 v (.refl st.ok) r
theorem t_retN : SS G C E X (.Return none pos) (.ret (.const .non)) :=
  ps_retN.imp fun D σ H ⟨L, η, Z, en, k, q⟩ => by
    simp only [ex, ev, Res.ok_bind] at q
    exact q L H .non (.refl k) (by simp only [Rep])
theorem t_pass : SS G C E X (.Pass pos) .pass := ps_pass.imp fun D σ H ⟨L, η, Z, en, k, q⟩ => by
  simp only [ex] at q
  exact q L H σ (.refl k) en
theorem t_brk : SS G C E X (.Break pos) .brk := ps_break.imp fun D σ H ⟨L, η, Z, en, k, q⟩ => by
  simp only [ex] at q
  exact q L H σ (.refl k) en
theorem t_cont : SS G C E X (.Continue pos) .cont := ps_continue.imp fun D σ H ⟨L, η, Z, en, k, q⟩ => by
  simp only [ex] at q
  exact q L H σ (.refl k) en
theorem t_if {cc : O} {ca cb : Sms} {sa sb : List Stmt} (hc : STt G C (wK E) X e cc) (ha : SSs G C E X sa ca) (hb : SSs G C E X sb cb) : SS G C E X (.If e sa sb pos) (.ite cc ca cb) :=
  (ps_if hc ha hb).imp fun D σ H ⟨L, η, Z, en, k, q⟩ => by
    simp only [ex] at q
    refine rdT_s en k q fun t Z1 L1 H1 st q => ?_
    cases t with
    | true => exact ⟨L1, η, Z1, en.mono st.le, st.ok, q⟩
    | false => exact ⟨L1, η, Z1, en.mono st.le, st.ok, q⟩
/-- for -/
theorem t_for {tg iter : Expr} {body : List Stmt} {t : Tg} {it : It} {cb : Sms} (F : Fit G T C n X (wK E)) (hcal : T.cal = true) (hi : PI X tg iter (rdI G C (wK E) it)) (hg : PG X tg (rdG G t)) (hb : SSs G C E X body cb) (hn : notSet iter = true) : SS G C E X (.For tg iter body [] pos) (.for_ t it cb) :=
  (ps_for F.pass (F.calm hcal) hi hg hb (notSet_ok hn _)).imp fun D σ H ⟨L, η, Z, en, k, q⟩ => by
    simp only [ex] at q
    refine rdI_s en k q fun items Z1 L1 H1 J st w q1 => ?_
    have q1 : PstS G E L1 H1 (forGo (fun x η => t.put x η) (fun η Z => exs C cb η Z) items η Z1) D := q1
    refine ⟨fun i m σ H => m = items.length - i ∧ i ≤ items.length ∧ ∃ L' η' Z', Lle L1 L' ∧ EnvOk G L' η' σ ∧ LOk G L' Z' H ∧ PstS G E L' H (forGo (fun x η => t.put x η) (fun η Z => exs C cb η Z) (items.drop i) η' Z') D,
      ⟨items.length, by simp, Nat.zero_le _, L1, η, Z1, .refl _, en.mono st.le, st.ok, by rw [List.drop_zero]; exact q1⟩, ?_⟩
    rintro i m σ2 H2 ⟨rfl, hi, L', η', Z', le, en', k', q⟩
    by_cases hlt : i < items.length
    · right
      refine ⟨w.go i L' Z' H2 hlt k' le, fun σ H => ∃ L' η' Z', Lle L1 L' ∧ EnvOk G L' η' σ ∧ LOk G L' Z' H ∧ PstS G E L' H (forGo (fun x η => t.put x η) (fun η Z => exs C cb η Z) (items.drop (i + 1)) η' Z') D,
        fun σ H h => ⟨items.length - (i + 1), by omega, rfl, hlt, h⟩, fun x H' y => ?_⟩
      obtain ⟨L2, s2, rx⟩ := w.yld i items[i] L' Z' H2 x H' (List.getElem?_eq_getElem hlt) k' le y
      rw [List.drop_eq_getElem_cons hlt] at q
      have q := PstS.step q s2
      unfold forGo at q
      split at q
      · exact q.elim
      · rename_i η1 e1
        refine ⟨L2, η', Z', items[i], η1, en'.mono s2.le, s2.ok, rx, e1, fun σ' en1 same => ⟨L2, η1, Z', en1, s2.ok, ?_⟩⟩
        have ll := le.trans s2.le
        cases e : exs C cb η1 Z' with
        | ok x =>
          obtain ⟨f, η2, Z2⟩ := x
          rw [e] at q
          cases f with
          | next => exact fun L3 H3 σ3 s3 en3 => ⟨L3, η2, Z2, ll.trans s3.le, en3, s3.ok, PstS.step q s3⟩
          | cont => exact fun L3 H3 σ3 s3 en3 => ⟨L3, η2, Z2, ll.trans s3.le, en3, s3.ok, PstS.step q s3⟩
          | brk => exact q
          | ret d => exact q
        | exn c d Z' => rw [e] at q; exact q
        | bad => rw [e] at q; exact q.elim
    · left
      have hi' : i = items.length := by omega
      subst hi'
      refine ⟨w.stop L' Z' H2 k' le, ?_⟩
      rw [List.drop_length] at q
      exact q L' H2 σ2 (.refl k') en'
/-- while -/
theorem t_while {body : List Stmt} {cc : O} {cb : Sms} (F : Fit G T C n X (wK E)) (hc : STt G C (wK E) X e cc) (hb : SSs G C E X body cb) : SS G C E X (.While e body [] pos) (.while_ cc cb) :=
  (ps_while F.pass hc hb).imp fun D σ H ⟨L, η, Z, en, k, q⟩ => by
    simp only [ex] at q
    refine ⟨fun m σ H => ∃ L' η' Z', EnvOk G L' η' σ ∧ LOk G L' Z' H ∧ PstS G E L' H (whGo (fun η Z => evOo C (.some cc) η Z) (fun η Z => exs C cb η Z) m η' Z') D, ⟨whFuel, L, η, Z, en, k, q⟩, ?_⟩
    rintro m σ2 H2 ⟨L', η', Z', en', k', q⟩
    cases m with
    | zero => exact q.elim
    | succ m =>
      have q2 : PstS G E L' H2 (evOo C (.some cc) η' Z' >>= fun p => if p.1 then (match exs C cb η' p.2 with
          | .ok (.next, η, Z) => whGo (fun η Z => evOo C (.some cc) η Z) (fun η Z => exs C cb η Z) m η Z
          | .ok (.cont, η, Z) => whGo (fun η Z => evOo C (.some cc) η Z) (fun η Z => exs C cb η Z) m η Z
          | .ok (.brk, η, Z) => .ok (.next, η, Z)
          | .ok (.ret d, η, Z) => .ok (.ret d, η, Z)
          | .exn c d Z => .exn c d Z
          | .bad => .bad) else .ok (.next, η', p.2)) D := by
        simp only [whGo] at q
        generalize whGo (fun η Z => evOo C (.some cc) η Z) (fun η Z => exs C cb η Z) m = wg at q ⊢
        revert q
        cases evOo C (.some cc) η' Z' with
        | ok x => obtain ⟨b, Z2⟩ := x; cases b <;> exact fun q => q
        | exn c d Z => exact fun q => q
        | bad => exact fun q => q
      refine rdT_s en' k' q2 fun t Z1 L1 H1 st q => ?_
      cases t with
      | false =>
        rw [if_neg Bool.false_ne_true]
        exact q L1 H1 σ2 (.refl st.ok) (en'.mono st.le)
      | true =>
        rw [if_pos rfl]
        refine ⟨fun σ H => ∃ L' η' Z', EnvOk G L' η' σ ∧ LOk G L' Z' H ∧ PstS G E L' H (whGo (fun η Z => evOo C (.some cc) η Z) (fun η Z => exs C cb η Z) m η' Z') D, fun σ' H' h => ⟨m, Nat.lt_succ_self m, h⟩, L1, η', Z1, en'.mono st.le, st.ok, ?_⟩
        have q : PstS G E L1 H1 (match exs C cb η' Z1 with
          | .ok (.next, η, Z) => whGo (fun η Z => evOo C (.some cc) η Z) (fun η Z => exs C cb η Z) m η Z
          | .ok (.cont, η, Z) => whGo (fun η Z => evOo C (.some cc) η Z) (fun η Z => exs C cb η Z) m η Z
          | .ok (.brk, η, Z) => .ok (.next, η, Z)
          | .ok (.ret d, η, Z) => .ok (.ret d, η, Z)
          | .exn c d Z => .exn c d Z
          | .bad => .bad) D := q
        cases e : exs C cb η' Z1 with
        | ok x =>
          obtain ⟨f, η2, Z2⟩ := x
          rw [e] at q
          cases f with
          | next => exact fun L3 H3 σ3 s3 en3 => ⟨L3, η2, Z2, en3, s3.ok, PstS.step q s3⟩
          | cont => exact fun L3 H3 σ3 s3 en3 => ⟨L3, η2, Z2, en3, s3.ok, PstS.step q s3⟩
          | brk => exact q
          | ret d => exact q
        | exn c d Z' => rw [e] at q; exact q
        | bad => rw [e] at q; exact q.elim
end
end Py
end
section
set_option Elab.async false
set_option linter.all false
set_option maxRecDepth 100000
set_option maxHeartbeats 4000000
/-! PyJ: what changes: lists and dicts of a frame, lasting dicts. -/
namespace Py
open PySem PySem.Spec L2
section
variable {G : Pg} {T : Tab} {C : Orc} {n : Nat} {X : Cx} {W : WX} {E : XK} {e a b : Expr} {es : List Expr} {st : Stmt} {sts : List Stmt} {pos p p2 : Pos}
/-! ### made things -/
def rdR (G : Pg) (C : Orc) (W : WX) (r : Rhs) : TE := fun σ H Q => ∃ L η Z, EnvOk G L η σ ∧ LOk G L Z H ∧ Pst G L H σ W (evR C r η Z) (fun c L' H' => ∀ p o, H' p = none → (∀ L2 H2, Lle L' L2 → L2.F p = none → H2 p = some o → CellOk G L2 H2 c p) → Q (.ref p) (upd H' p o))
abbrev SR (G : Pg) (C : Orc) (W : WX) (X : Cx) (e : Expr) (r : Rhs) : Prop := PE X e (rdR G C W r)
theorem r_lst {cs : Es} (h : SEs G C W X es cs) : SR G C W X (.List es pos) (.lst cs) :=
  (pe_lst h).imp fun σ H Q ⟨L, η, Z, en, k, q⟩ => by
    simp only [evR] at q
    refine rdEs_of en k q fun ds Z1 L1 H1 vs st r q => ?_
    obtain ⟨hl, q⟩ := q.ite
    have hz : vs.length ≤ sizeLine := by rw [line_eq, ← r.length]; exact of_decide_eq_true hl
    exact ⟨hz, fun p hp => q.ok st.ok p _ hp fun L2 H2 l hF hH => ⟨hF, vs, hH, RepL.mono l _ _ r⟩⟩
theorem r_dnil : SR G C W X (.Dict [] [] pos) (.dct [] .nil) :=
  pe_dnewK.imp fun σ H Q ⟨L, η, Z, en, k, q⟩ => by
    simp only [evR, evs, Res.ok_bind] at q
    obtain ⟨_, q⟩ := q.ite
    exact fun p hp => q.ok k p _ hp fun L2 H2 l hF hH => ⟨hF, [], hH, by simp [RepK, mergeD]⟩
/-- the rest of a call of a built-in of one place, whose result is a new list -/
theorem t_mk {x : Str} {i : Nat} {r : Rhs} {px : Pos} (F : Fit G T C n X (wK E)) (hi : X.N[i]? = some x) (hx : Loc X.env.scope x) (hf : ∀ x, X.fn x = true) (hc : notComp e = true) (h : SR G C (wK E) X e r) :
    SS G C E X (.Assign [.Name x px] e pos) (.mk i r) :=
  (ps_set F.nd hi hx h (swaps_no hc _ _ _) (.inl (hf x))).imp fun D σ H ⟨L, η, Z, en, k, q⟩ => by
    simp only [ex] at q
    refine ⟨L, η, Z, en, k, q.bind.imp fun c Z' L' H' em st q => fun p o hp hc => ?_⟩
    obtain ⟨hl, q⟩ := (q Z' st.ok em).ite
    have s2 : Step G L' H' { L' with τ := L'.τ ++ [p] } { Z' with T := Z'.T ++ [c] } (upd H' p o) := st.ok.newT hp (hc _ _ ⟨fun _ _ h => h, ⟨[], by simp⟩, ⟨[p], rfl⟩⟩ (Classical.byContradiction fun z => st.ok.Fne z hp) upd_same)
    refine q _ _ _ s2 (((en.mono st.le).mono s2.le).setTmp ?_ hl)
    show (L'.τ ++ [p])[Z'.T.length]? = some p
    rw [← st.ok.lenT, List.getElem?_append_right (Nat.le_refl _)]; simp
/-! ### a, b = x, y -/
/-- a value of a parallel assignment -/
def evX (C : Orc) : (Py.E ⊕ Rhs) → Vars → Sto → Res (Slot × Sto)
  | .inl e, η, Z => ev C e η Z >>= fun p => .ok (.val p.1, p.2)
  | .inr r, η, Z => evR C r η Z >>= fun p => .ok (.tmp p.2.T.length, { p.2 with T := p.2.T ++ [p.1] })
theorem evPar_cons {C : Orc} {i : Nat} {q : Py.E ⊕ Rhs} {r : List (Nat × (Py.E ⊕ Rhs))} {η : Vars} {Z : Sto} : evPar C ((i, q) :: r) η Z = evX C q η Z >>= fun p => evPar C r η p.2 >>= fun p2 => .ok ((i, p.1) :: p2.1, p2.2) := by
  cases q with
  | inl e => simp only [evPar, evX, Res.assoc, Res.ok_bind]
  | inr e => simp only [evPar, evX, Res.assoc, Res.ok_bind]
def SlotV (G : Pg) (L : Lk) : Slot → V → Prop
  | .val d, v => Rep G L d v
  | .tmp k, v => ∃ a, L.τ[k]? = some a ∧ v = .ref a
  | .exc _ _, _ => False
theorem SlotV.mono {L L' : Lk} (l : Lle L L') {s : Slot} {v : V} (h : SlotV G L s v) : SlotV G L' s v := by
  cases s with
  | val d => exact Rep.mono l _ _ h
  | tmp k => obtain ⟨a, e, r⟩ := h; exact ⟨a, pre_get l.τ e, r⟩
  | exc c d => exact h
theorem EnvOk.setS {L : Lk} {η : Vars} {σ : L2.St} (h : EnvOk G L η σ) {i : Nat} {s : Slot} {v : V} (r : SlotV G L s v) (hi : i < η.length) : EnvOk G L (η.set i (some s)) (σ.set i (some v)) := by
  cases s with
  | val d => exact h.setVal r hi
  | tmp k => obtain ⟨a, e, rfl⟩ := r; exact h.setTmp e hi
  | exc c d => exact r.elim
def rdX (G : Pg) (C : Orc) (W : WX) (c : Py.E ⊕ Rhs) : TE := fun σ H Q => ∃ L η Z, EnvOk G L η σ ∧ LOk G L Z H ∧ Pst G L H σ W (evX C c η Z) (fun s L' H' => ∀ v, SlotV G L' s v → Q v H')
theorem x_inl {c : Py.E} (h : SE G C W X e c) : PE X e (rdX G C W (.inl c)) := h.imp fun σ H Q ⟨L, η, Z, en, k, q⟩ => by
  simp only [evX] at q
  exact rdE_of en k q fun d Z1 L1 H1 v st r q => q.ok st.ok v r
theorem x_inr {c : Rhs} (h : SR G C W X e c) : PE X e (rdX G C W (.inr c)) := h.imp fun σ H Q ⟨L, η, Z, en, k, q⟩ => by
  simp only [evX] at q
  refine ⟨L, η, Z, en, k, q.bind.imp fun c Z' L' H' em st q => fun p o hp hc => ?_⟩
  have q := q Z' st.ok em
  have s2 : Step G L' H' { L' with τ := L'.τ ++ [p] } { Z' with T := Z'.T ++ [c] } (upd H' p o) := st.ok.newT hp (hc _ _ ⟨fun _ _ h => h, ⟨[], by simp⟩, ⟨[p], rfl⟩⟩ (Classical.byContradiction fun z => st.ok.Fne z hp) upd_same)
  refine q _ _ s2 (.ref p) ⟨p, ?_, rfl⟩
  show (L'.τ ++ [p])[Z'.T.length]? = some p
  rw [← st.ok.lenT, List.getElem?_append_right (Nat.le_refl _)]; simp
theorem rdX_s {L : Lk} {H : Hp} {σ : L2.St} {η : Vars} {Z : Sto} {D : Ends} {a : Py.E ⊕ Rhs} {f : Slot × Sto → Res (Flow × Vars × Sto)} {R : VK} (e : EnvOk G L η σ) (k : LOk G L Z H) (p : PstS G E L H (evX C a η Z >>= f) D)
    (h : ∀ d Z1 L1 H1 v, Step G L H L1 Z1 H1 → SlotV G L1 d v → PstS G E L1 H1 (f (d, Z1)) D → R v H1) : rdX G C (wK E) a σ H R :=
  ⟨L, η, Z, e, k, p.bind.imp fun d Z' L' H' em st q v r => h d Z' L' H' v st r (q Z' st.ok em)⟩
theorem t_par2 {x y : Str} {i j : Nat} {ca cb : Py.E ⊕ Rhs} {px py pt : Pos} {kt k2 : Nat} {pt2 : Pos} (F : Fit G T C n X (wK E)) (hcal : T.cal = true) (hi : X.N[i]? = some x) (hj : X.N[j]? = some y) (hij : i ≠ j)
    (hx : X.env.scope.names.lookup x = some .local) (hy : X.env.scope.names.lookup y = some .local) (hna : noStar a = true) (hnb : noStar b = true)
    (hw : swappedStores [.Tuple [.Name x px, .Name y py] kt pt] (.Tuple [a, b] k2 pt2) X.env = pure (some [x, y])) (ha : PE X a (rdX G C (wK E) ca)) (hb : PE X b (rdX G C (wK E) cb)) :
    SS G C E X (.Assign [.Tuple [.Name x px, .Name y py] kt pt] (.Tuple [a, b] k2 pt2) pos) (.par [(i, ca), (j, cb)]) :=
  (ps_par (F.calm hcal) F.nd hi hj hij hx hy (pa_cons ha (pa_cons hb pa_nil (star_cons hnb)) (star_cons hna)) hw).imp fun D σ H ⟨L, η, Z, en, k, q⟩ => by
    simp only [ex, evPar_cons, Res.assoc, Res.ok_bind] at q
    refine rdX_s en k q fun s1 Z1 L1 H1 v1 st1 r1 q => ?_
    refine rdX_s (en.mono st1.le) st1.ok q fun s2 Z2 L2 H2 v2 st2 r2 q => ?_
    simp only [evPar, Res.ok_bind, setAll] at q
    obtain ⟨η', e1, q⟩ := q.opt
    by_cases h1 : i < η.length
    · rw [if_pos h1] at e1
      by_cases h2 : j < (η.set i (some s1)).length
      · rw [if_pos h2] at e1
        cases e1
        exact ⟨v1, v2, rfl, q L2 H2 _ (.refl st2.ok) ((((en.mono st1.le).mono st2.le).setS (r1.mono st2.le) h1).setS r2 h2)⟩
      · rw [if_neg h2] at e1; cases e1
    · rw [if_neg h1] at e1; cases e1
/-! ### stores -/
def rSetD (G : Pg) : TSet := fun o i v H Q => ∃ L Z a c c' κ d, LOk G L Z H ∧ o = .ref a ∧ (L.F a = none ∧ CellOk G L H c a) ∧ Rep G L κ i ∧ Rep G L d v ∧ putCell c κ d = some c' ∧ ∀ u, CellOk G L (upd H a u) c' a → Q (upd H a u)
theorem set_ok (F : Fit G T C n X W) : PSet X (rSetD G) := by
  intro pins s σ H o i v ov iv u Q I ro ri rv h
  obtain ⟨L, Z, a, c, c', κ, d, k, rfl, ⟨hF, co⟩, rκ, rd, hp, q⟩ := h
  cases ro
  unfold putCell at hp
  split at hp
  · rename_i kvs
    rw [Option.bind_eq_some_iff] at hp
    obtain ⟨ky, hk, hp⟩ := hp
    obtain ⟨hl, rfl⟩ := ite_some hp
    obtain ⟨_, ws, hH, r⟩ := co
    have ek := key_now (Rep.now k rκ) hk
    subst ek
    refine d_setItem (by have := F.hu; omega) I (DPut.k (k := ky) (v := v) hH (by rw [line_eq, ← r.length]; exact hl)) ri rv fun s' I' => ⟨_, I', q _ ⟨hF, _, upd_same, RepK.put r rd⟩⟩
  · rename_i xs j
    obtain ⟨hl, rfl⟩ := ite_some hp
    obtain ⟨_, vs, hH, r⟩ := co
    simp only [Rep] at rκ; subst rκ
    have hj : ixN vs.length j = some j.toNat := by
      unfold ixN
      have : j < (vs.length : Int) := by have := r.length; omega
      rw [if_pos hl.1, if_pos this]
    exact set_list pins s σ H (.ref a) (.int j) v _ iv u Q I (show RelV (.ref a) (.ref a) from rfl) ri rv ⟨a, vs, j, j.toNat, rfl, rfl, hH, hj, q _ ⟨hF, _, upd_same, RepL.set _ r rd⟩⟩
  · cases hp
theorem live_F {L : Lk} {H : Hp} {c c' : Cell} {a : Addr} {κ d : Py.D} (co : CellOk G L H c a) (hp : putCell c κ d = some c') : L.F a = none := by
  cases c with
  | lst xs => exact co.1
  | dct xs => exact co.1
  | frz d => simp [putCell] at hp
theorem asg_sub {o i : Expr} {env : PySem.Env} (h : plainPlace i = true) : ∀ v, assign (.Subscript o i pos) env v = (do
      let ov ← holding [v] (eval o env)
      let iv ← holding [v, ov] (eval i env)
      standAt pos
      holding [v, ov, iv] (setItem ov iv v)
      release [v, ov, iv] []) := by
  intro v
  cases i <;> first | rfl | cases h
theorem t_tset {x : Str} {i : Nat} {ck cv : Py.E} {px ps : Pos} (F : Fit G T C n X (wK E)) (hN : X.N[i]? = some x) (hv : Vis X.env.scope x) (hd : (x == ("__debug__" : Str)) = false) (hcd : (x == ("__classdict__" : Str)) = false)
    (hc : notComp e = true) (hp : plainPlace b = true) (hk : SE G C (wK E) X b ck) (he : SE G C (wK E) X e cv) : SS G C E X (.Assign [.Subscript (.Name x px) b ps] e pos) (.tset i ck cv) :=
  (ps_asg he (pg_sub (pe_var hN hv hd hcd) hk (set_ok F) (asg_sub hp)) (by rw [show swapsWithSole [.Subscript (.Name x px) b ps] e pos.line X.env = swapsWith e (some (.Subscript (.Name x px) b ps)) pos.line X.env from by unfold swapsWithSole; rfl]; exact swaps_no hc _ _ _)).imp fun D σ H ⟨L, η, Z, en, k, q⟩ => by
    simp only [ex] at q
    refine rdE_s en k q fun d Z1 L1 H1 v st r q => ?_
    have en1 := en.mono st.le
    split at q
    · rename_i j hη
      obtain ⟨a, ha, e1⟩ := en1.at_ i _ hη
      refine ⟨_, e1, rdE_s en1 st.ok q fun d2 Z2 L2 H2 v2 st2 r2 q => ?_⟩
      split at q
      · rename_i c hc
        obtain ⟨c', hp, q⟩ := q.opt
        have ha2 := pre_get st2.le.τ ha
        have co := st2.ok.cT j c a hc ha2
        have hF := live_F co hp
        exact ⟨L2, Z2, a, c, c', d2, d, st2.ok, rfl, ⟨hF, co⟩, r2, Rep.mono st2.le _ _ r, hp, fun u hu => q L2 _ σ (st2.ok.setT ha2 hF hu) (en1.mono st2.le)⟩
      · exact q.elim
    · exact q.elim
theorem t_sset {ca ck cv : Py.E} {ps : Pos} (F : Fit G T C n X (wK E)) (hc : notComp e = true) (hp : plainPlace b = true) (ha : SE G C (wK E) X a ca) (hk : SE G C (wK E) X b ck) (he : SE G C (wK E) X e cv) : SS G C E X (.Assign [.Subscript a b ps] e pos) (.sset ca ck cv) :=
  (ps_asg he (pg_sub ha hk (set_ok F) (asg_sub hp)) (by rw [show swapsWithSole [.Subscript a b ps] e pos.line X.env = swapsWith e (some (.Subscript a b ps)) pos.line X.env from by unfold swapsWithSole; rfl]; exact swaps_no hc _ _ _)).imp fun D σ H ⟨L, η, Z, en, k, q⟩ => by
    simp only [ex] at q
    refine rdE_s en k q fun d Z1 L1 H1 v st r q1 => ?_
    have en1 := en.mono st.le
    refine rdE_s en1 st.ok q1 fun da Z1' L1' H1' va st1 ra q2 => ?_
    have en2 := en1.mono st1.le
    refine rdE_s en2 st1.ok q2 fun d2 Z2 L2 H2 v2 st2 r2 q3 => ?_
    clear q q1 q2
    cases da <;> first | exact q3.elim | skip
    rename_i j
    simp only [Rep] at ra
    obtain ⟨a, ha, rfl⟩ := ra
    have q : PstS G E L2 H2 (match Z2.S[j]? with
      | some c => (do
        let c ← Res.opt (putCell c d2 d)
        (.ok (.next, η, { Z2 with S := Z2.S.set j c }) : Res (Flow × Vars × Sto)))
      | none => .bad) D := q3
    split at q
    · rename_i c hc
      obtain ⟨c', hp, q⟩ := q.opt
      have ha2 := pre_get st2.le.ρ ha
      have co := st2.ok.cS j c a hc ha2
      have hF := live_F co hp
      exact ⟨L2, Z2, a, c, c', d2, d, st2.ok, rfl, ⟨hF, co⟩, r2, Rep.mono (st1.le.trans st2.le) _ _ r, hp, fun u hu => q L2 _ σ (st2.ok.setS ha2 hF hu) (en2.mono st2.le)⟩
    · exact q.elim
theorem t_tapp {x : Str} {i : Nat} {c : Py.E} {px apos cpos : Pos} (F : Fit G T C n X (wK E)) (hN : X.N[i]? = some x) (hv : Vis X.env.scope x) (hd : (x == ("__debug__" : Str)) = false) (hcd : (x == ("__classdict__" : Str)) = false)
    (hn : noStar e = true) (hline : (apos.endLine == cpos.line) = true) (h : SE G C (wK E) X e c) : SS G C E X (.Expr (.Call (.Attribute (.Name x px) "append" apos) [e] [] cpos) pos) (.tapp i c) :=
  (ps_expr (pe_bm PySem.F.plainAttrs_list PySem.F.slot_list_append PySem.F.type_list_append mt_append (pe_var hN hv hd hcd) (pa_cons h pa_nil (star_cons hn)) (by rfl)
    (by rw [star_cons hn]; rfl) hline (star_cons hn) (by rfl))).imp fun D σ H ⟨L, η, Z, en, k, q⟩ => by
    simp only [ex] at q
    split at q
    · rename_i j hη
      split at q
      · rename_i xs0 hx0
        obtain ⟨a, ha, e1⟩ := en.at_ i _ hη
        obtain ⟨_, vs0, hH0, _⟩ := k.cT j _ a hx0 ha
        refine ⟨_, e1, .inl ⟨rfl, vs0, .inl (.inl hH0)⟩, rdE_s en k q fun d Z1 L1 H1 v st r q => ?_⟩
        have ha1 := pre_get st.le.τ ha
        have q : PstS G E L1 H1 (match Z1.T[j]? with
          | some (.lst xs) => if xs.length < lineN then .ok (.next, η, { Z1 with T := Z1.T.set j (.lst (xs ++ [d])) }) else .bad
          | _ => .bad) D := q
        split at q
        · rename_i xs hx
          obtain ⟨hl, q⟩ := q.ite
          obtain ⟨hF, vs, hH, rv⟩ := st.ok.cT j _ a hx ha1
          refine ⟨a, vs, v, rfl, rfl, hH, by rw [line_eq, ← rv.length]; exact hl, q L1 _ σ (st.ok.setT ha1 hF ⟨hF, _, upd_same, rv.append (.cons r .nil)⟩) (en.mono st.le)⟩
        · exact q.elim
      · exact q.elim
    · exact q.elim
/-! ### a lasting dict -/
def keyOf : Expr → Option Key
  | .Constant (.str x) _ _ => some (.inr x)
  | _ => none
def rdPs (G : Pg) (C : Orc) (W : WX) (ks : List Key) (c : Es) : L2.St → Hp → (List (V × V) → Hp → Prop) → Prop := fun σ H Q => ∃ L η Z, EnvOk G L η σ ∧ LOk G L Z H ∧ Pst G L H σ W (evs C c η Z) (fun ds L' H' => ∀ vs, RepL G L' ds vs → ks.length = vs.length → Q (ks.zip vs |>.map fun p => (kV p.1, p.2)) H')
end
end Py
end
section
set_option Elab.async false
set_option linter.all false
set_option maxRecDepth 100000
set_option maxHeartbeats 4000000
/-! PyK: built-ins. -/
namespace Py
open PySem PySem.Spec L2
section
variable {G : Pg} {L : Lk} {Z : Sto} {H : Hp}
theorem NowL.one {d : D} {vs : List V} (h : NowL G L H [d] vs) : ∃ v, vs = [v] ∧ Now G L H d v := by
  obtain ⟨v, r, rfl, h1, h2⟩ := h
  have h2 : r = [] := h2
  subst h2
  exact ⟨v, rfl, h1⟩
theorem see_all (k : LOk G L Z H) : ∀ {os : List Ov} {vs : List V} {ds : List D}, RepOs G L os vs → os.mapM Z.see = some ds → NowL G L H ds vs
  | [], vs, ds, r, e => by
    have e : some [] = some ds := by rw [← e]; rfl
    cases e
    exact r
  | o :: os, vs, ds, r, e => by
    obtain ⟨v, rr, rfl, r1, r2⟩ := r
    rw [List.mapM_cons] at e
    cases e1 : Z.see o with
    | none => rw [e1] at e; cases e
    | some d =>
      rw [e1] at e
      cases e2 : os.mapM Z.see with
      | none => rw [e2] at e; cases e
      | some ds' =>
        rw [e2] at e
        have e : some (d :: ds') = some ds := e
        cases e
        exact ⟨v, rr, rfl, see_now k r1 e1, see_all k r2 e2⟩
theorem ints_vs : ∀ {ds : List D} {vs : List V} {ns : List Int}, RepL G L ds vs → intsD ds = some ns → vs = ns.map V.int
  | [], vs, ns, r, e => by
    simp only [intsD, Option.some.injEq] at e; subst e
    simp only [RepL] at r; subst r; rfl
  | d :: ds, vs, ns, r, e => by
    simp only [RepL] at r
    obtain ⟨v, rr, rfl, r1, r2⟩ := r
    cases d <;> simp only [intsD, Option.map_eq_some_iff, reduceCtorEq] at e
    obtain ⟨ns', e, rfl⟩ := e
    simp only [Rep] at r1; subst r1
    rw [ints_vs r2 e]; rfl
theorem bools_vs : ∀ {ds : List D} {vs : List V} {ns : List Bool}, RepL G L ds vs → boolsD ds = some ns → vs = ns.map V.bl
  | [], vs, ns, r, e => by
    simp only [boolsD, Option.some.injEq] at e; subst e
    simp only [RepL] at r; subst r; rfl
  | d :: ds, vs, ns, r, e => by
    simp only [RepL] at r
    obtain ⟨v, rr, rfl, r1, r2⟩ := r
    cases d <;> simp only [boolsD, Option.map_eq_some_iff, reduceCtorEq] at e
    obtain ⟨ns', e, rfl⟩ := e
    simp only [Rep] at r1; subst r1
    rw [bools_vs r2 e]; rfl
theorem strs_vs : ∀ {ds : List D} {vs : List V} {ns : List Str}, RepL G L ds vs → strsD ds = some ns → vs = ns.map V.str
  | [], vs, ns, r, e => by
    simp only [strsD, Option.some.injEq] at e; subst e
    simp only [RepL] at r; subst r; rfl
  | d :: ds, vs, ns, r, e => by
    simp only [RepL] at r
    obtain ⟨v, rr, rfl, r1, r2⟩ := r
    cases d <;> simp only [strsD, Option.map_eq_some_iff, reduceCtorEq] at e
    obtain ⟨ns', e, rfl⟩ := e
    simp only [Rep] at r1; subst r1
    rw [strs_vs r2 e]; rfl
theorem ints_rep : ∀ (ns : List Int), RepL G L (ns.map D.int) (ns.map V.int)
  | [] => RepL.nil
  | i :: r => RepL.cons (by simp only [Rep]) (ints_rep r)
theorem strs_rep : ∀ (ns : List Str), RepL G L (ns.map D.str) (ns.map V.str)
  | [] => RepL.nil
  | i :: r => RepL.cons (by simp only [Rep]) (strs_rep r)
mutual
theorem py_nd : ∀ (d : D) (p : PyData), d.py = some p → p.hasDict = false
  | .non, p, h => by simp only [D.py, Option.some.injEq] at h; subst h; simp only [PyData.hasDict]
  | .bl _, p, h => by simp only [D.py, Option.some.injEq] at h; subst h; simp only [PyData.hasDict]
  | .int _, p, h => by simp only [D.py, Option.some.injEq] at h; subst h; simp only [PyData.hasDict]
  | .str _, p, h => by simp only [D.py, Option.some.injEq] at h; subst h; simp only [PyData.hasDict]
  | .tup xs, p, h => by
    simp only [D.py, Option.map_eq_some_iff] at h
    obtain ⟨ps, h, rfl⟩ := h
    simp only [PyData.hasDict]; exact pyAll_nd xs ps h
  | .tupU xs, p, h => by
    simp only [D.py, Option.map_eq_some_iff] at h
    obtain ⟨ps, h, rfl⟩ := h
    simp only [PyData.hasDict]; exact pyAll_nd xs ps h
  | .lst xs, p, h => by
    simp only [D.py, Option.map_eq_some_iff] at h
    obtain ⟨ps, h, rfl⟩ := h
    simp only [PyData.hasDict]; exact pyAll_nd xs ps h
  | .dct _, p, h => by simp [D.py] at h
  | .fn _, p, h => by simp [D.py] at h
  | .exc _ _, p, h => by simp [D.py] at h
  | .loc _, p, h => by simp [D.py] at h
theorem pyAll_nd : ∀ (ds : List D) (ps : List PyData), pyAll ds = some ps → PyData.hasDictAll ps = false
  | [], ps, h => by simp only [pyAll, Option.some.injEq] at h; subst h; simp only [PyData.hasDictAll]
  | d :: ds, ps, h => by
    simp only [pyAll] at h
    split at h
    · rename_i y ys e1 e2
      cases h
      simp only [PyData.hasDictAll, py_nd d y e1, pyAll_nd ds ys e2, Bool.or_self]
    · cases h
end
end
/-- a built-in of seen data -/
def rBlt (G : Pg) (b : Blt) : List V → Hp → VK → Prop := fun vs H Q => ∃ L Z ds r, LOk G L Z H ∧ NowL G L H ds vs ∧ bltD b ds = some r ∧ Fin G L Z H r Q
section
variable {G : Pg} {T : Tab} {C : Orc} {n : Nat} {X : Cx} {W : WX} {e a b : Expr} {es : List Expr} {pos p p2 : Pos}
theorem blt_one {vs : List V} {H : Hp} {Q : VK} {b : Blt} (h : rBlt G b vs H Q) : ∃ L Z d r v, vs = [v] ∧ LOk G L Z H ∧ Now G L H d v ∧ blt1 b d = some r ∧ Fin G L Z H r Q := by
  obtain ⟨L, Z, ds, r, k, nl, e, f⟩ := h
  unfold bltD at e
  split at e
  · rename_i d
    obtain ⟨v, rfl, nd⟩ := nl.one
    exact ⟨L, Z, d, r, v, rfl, k, nd, e, f⟩
  · cases e
theorem blt_len (F : Fit G T C n X W) : CallR X (.builtin "len") (rBlt G .len) := by
  intro pins s σ H vs us Q I rv h
  obtain ⟨L, Z, d, r, v, rfl, k, nd, e0, f⟩ := blt_one h
  clear h
  have e : lenD d = some r := e0
  clear e0
  unfold lenD at e
  split at e
  case h_1 x =>
    obtain ⟨hc, rfl⟩ := ite_some e
    simp only [Now, Rep] at nd; subst nd
    exact call_len pins s σ H _ us Q I rv ⟨_, _, rfl, ⟨by rw [line_eq]; exact hc, rfl⟩, f.int k⟩
  case h_2 xs =>
    cases e
    simp only [Now, Rep] at nd
    obtain ⟨p, ws, rfl, h1, r1⟩ := nd
    exact call_len pins s σ H _ us Q I rv ⟨_, ws.length, rfl, .inr ⟨ws, by rw [F.hK]; exact sqT_mono (k.sub p) h1.sq, rfl⟩, by rw [← r1.length]; exact f.int k⟩
  case h_3 xs =>
    cases e
    obtain ⟨p, ws, rfl, h1, r1⟩ := nd
    exact call_len pins s σ H _ us Q I rv ⟨_, ws.length, rfl, .inl ⟨ws, .inl h1, rfl⟩, by rw [← r1.length]; exact f.int k⟩
  case h_4 xs =>
    cases e
    obtain ⟨p, ws, rfl, h1, r1⟩ := nd
    obtain ⟨u, rfl, rx⟩ := rv.one
    cases rx
    refine d_len I h1 fun t s' I' => ⟨.int ws.length, H, I', ⟨t, rfl⟩, ?_⟩
    rw [← r1.length]; exact f.int k
  case h_5 => cases e
theorem blt_abs (F : Fit G T C n X W) : CallR X (.builtin "abs") (rBlt G .abs) := by
  intro pins s σ H vs us Q I rv h
  obtain ⟨L, Z, d, r, v, rfl, k, nd, e0, f⟩ := blt_one h
  clear h
  have e : absD d = some r := e0
  clear e0
  unfold absD at e
  split at e
  · cases e
    simp only [Now, Rep] at nd; subst nd
    exact call_abs pins s σ H _ us Q I rv ⟨_, rfl, f.int k⟩
  · cases e
theorem blt_int (F : Fit G T C n X W) : CallR X (.type "int") (rBlt G .int_) := by
  intro pins s σ H vs us Q I rv h
  obtain ⟨L, Z, d, r, v, rfl, k, nd, e0, f⟩ := blt_one h
  clear h
  have e : intD d = some r := e0
  clear e0
  unfold intD at e
  split at e
  · cases e
    simp only [Now, Rep] at nd; subst nd
    exact call_int1 pins s σ H _ us Q I rv (.inl ⟨_, rfl, f.int k⟩)
  · cases e
    simp only [Now, Rep] at nd; subst nd
    exact call_int1 pins s σ H _ us Q I rv (.inr ⟨_, rfl, f.int k⟩)
  · cases e
theorem blt_str (F : Fit G T C n X W) : CallR X (.type "str") (rBlt G .str_) := by
  intro pins s σ H vs us Q I rv h
  obtain ⟨L, Z, d, r, v, rfl, k, nd, e0, f⟩ := blt_one h
  clear h
  have e : strD d = some r := e0
  clear e0
  unfold strD at e
  split at e
  · obtain ⟨hc, rfl⟩ := ite_some e
    simp only [Now, Rep] at nd; subst nd
    exact call_str_int pins s σ H _ us Q I rv ⟨_, rfl, hc, f.str k⟩
  · cases e
    simp only [Now, Rep] at nd; subst nd
    exact SkE.call_str_str pins s σ H _ us Q I rv ⟨_, rfl, f.str k⟩
  · cases e
theorem blt_sum (F : Fit G T C n X W) (hcal : T.cal = true) : CallR X (.builtin "sum") (rBlt G .sum) := by
  intro pins s σ H vs us Q I rv h
  obtain ⟨L, Z, d, r, v, rfl, k, nd, e0, f⟩ := blt_one h
  clear h
  have e : sumD d = some r := e0
  clear e0
  unfold sumD at e
  split at e
  · rw [Option.map_eq_some_iff] at e
    obtain ⟨ns, e1, rfl⟩ := e
    obtain ⟨p, ws, rfl, h1, r1⟩ := nd
    have := ints_vs r1 e1
    subst this
    exact cr_sum (F.calm hcal) pins s σ H _ us Q I rv ⟨p, ns, rfl, .inl h1, f.int k⟩
  · cases e
theorem blt_all (F : Fit G T C n X W) (hcal : T.cal = true) : CallR X (.builtin "all") (rBlt G .all) := by
  intro pins s σ H vs us Q I rv h
  obtain ⟨L, Z, d, r, v, rfl, k, nd, e0, f⟩ := blt_one h
  clear h
  have e : allD d = some r := e0
  clear e0
  unfold allD at e
  split at e
  · rw [Option.map_eq_some_iff] at e
    obtain ⟨ns, e1, rfl⟩ := e
    obtain ⟨p, ws, rfl, h1, r1⟩ := nd
    have := bools_vs r1 e1
    subst this
    exact cr_all (F.calm hcal) pins s σ H _ us Q I rv ⟨p, ns, rfl, .inl h1, f.bl k⟩
  · cases e
theorem blt_any (F : Fit G T C n X W) (hcal : T.cal = true) : CallR X (.builtin "any") (rBlt G .any) := by
  intro pins s σ H vs us Q I rv h
  obtain ⟨L, Z, d, r, v, rfl, k, nd, e0, f⟩ := blt_one h
  clear h
  have e : anyD d = some r := e0
  clear e0
  unfold anyD at e
  split at e
  · rw [Option.map_eq_some_iff] at e
    obtain ⟨ns, e1, rfl⟩ := e
    obtain ⟨p, ws, rfl, h1, r1⟩ := nd
    have := bools_vs r1 e1
    subst this
    exact cr_any (F.calm hcal) pins s σ H _ us Q I rv ⟨p, ns, rfl, .inl h1, f.bl k⟩
  · cases e
/-- tuple(a list) | tuple(a tuple) -/
theorem call_tupleN {X : Cx} : CallR X (.type "tuple") (fun xs H Q => ∃ p ys, xs = [.ref p] ∧ ((Rd H p (.lst ys) ∧ ∀ l o, o.dict = none → H l = none → Q (.ref l) (upd H l (.frz o (.tup ys)))) ∨ (SqT X.K H p ys ∧ Q (.ref p) H))) := by
  intro pins s σ H xs us Q I r ⟨p, ys, ex, h⟩
  subst ex
  obtain ⟨u, eu, ru⟩ := r.one
  subst eu
  obtain rfl : u = Value.ref p := ru
  rcases h with ⟨hl, q⟩ | ⟨ht, q⟩
  · obtain ⟨ws, rv, isl, short⟩ := I.list (a := p) (xs := ys) (.inl hl)
    refine call_tuple_list isl.isList (fun h' keep => ?_) (by have := rv.length; simp only [List.size_toArray]; omega)
    have I1 : Inv X pins σ H { s with heap := h' } := I.kept (t' := s.toks) keep
    exact ⟨.ref h'.objs.size, _, laidTup (t' := s.toks) I1 rv short, rfl, q _ _ rfl (I1.hok.fresh (Nat.le_refl _))⟩
  · obtain ⟨ws, rv, ist, short⟩ := I.tuple ht
    exact call_tuple_same ist ⟨.ref p, H, I, rfl, q⟩
theorem blt_tuple (F : Fit G T C n X W) : CallR X (.type "tuple") (rBlt G .tuple) := by
  intro pins s σ H vs us Q I rv h
  obtain ⟨L, Z, d, r, v, rfl, k, nd, e0, f⟩ := blt_one h
  clear h
  have e : tupleD d = some r := e0
  clear e0
  unfold tupleD at e
  split at e
  · cases e
    obtain ⟨p, ws, rfl, h1, r1⟩ := nd
    exact call_tupleN pins s σ H _ us Q I rv ⟨p, ws, rfl, .inl ⟨h1, f.tup k r1⟩⟩
  · cases e
    have nd' := nd
    simp only [Now, Rep] at nd
    obtain ⟨p, ws, rfl, h1, r1⟩ := nd
    exact call_tupleN pins s σ H _ us Q I rv ⟨p, ws, rfl, .inr ⟨by rw [F.hK]; exact sqT_mono (k.sub p) h1.sq, f.here k nd'⟩⟩
  · cases e
theorem blt_ord (F : Fit G T C n X W) : CallR X (.builtin "ord") (rBlt G .ord) := by
  intro pins s σ H vs us Q I rv h
  obtain ⟨L, Z, d, r, v, rfl, k, nd, e0, f⟩ := blt_one h
  clear h
  have e : ordD1 d = some r := e0
  clear e0
  unfold ordD1 at e
  split at e
  · obtain ⟨hc, rfl⟩ := ite_some e
    simp only [Now, Rep] at nd; subst nd
    exact call_ord pins s σ H _ us Q I rv ⟨_, rfl, hc, f.int k⟩
  · cases e
theorem keys_rep {L : Lk} : ∀ {kvs : List (Key × D)} {ws : List (Key × V)}, RepK G L kvs ws → RepL G L (kvs.map fun kv => dK kv.1) (ws.map fun kv => kV kv.1)
  | [], ws, h => by
    simp only [RepK] at h; subst h
    exact RepL.nil
  | (κ, d) :: r, ws, h => by
    simp only [RepK] at h
    obtain ⟨v, r', rfl, h1, h2⟩ := h
    refine RepL.cons ?_ (keys_rep h2)
    cases κ <;> simp only [dK, kV, Rep]
theorem blt_list (F : Fit G T C n X W) (hcal : T.cal = true) : CallR X (.type "list") (rBlt G .list) := by
  intro pins s σ H vs us Q I rv h
  obtain ⟨L, Z, d, r, v, rfl, k, nd, e0, f⟩ := blt_one h
  clear h
  have e : (listOf d).map D.lst = some r := e0
  clear e0
  rw [Option.map_eq_some_iff] at e
  obtain ⟨xs, e, rfl⟩ := e
  unfold listOf at e
  split at e
  · cases e
    obtain ⟨p, ws, rfl, h1, r1⟩ := nd
    exact call_list_of pins s σ H _ us Q I rv ⟨p, ws, rfl, .inl (.inl h1), f.lst k r1⟩
  · cases e
    simp only [Now, Rep] at nd
    obtain ⟨p, ws, rfl, h1, r1⟩ := nd
    exact call_list_of pins s σ H _ us Q I rv ⟨p, ws, rfl, .inr (by rw [F.hK]; exact sqT_mono (k.sub p) h1.sq), f.lst k r1⟩
  · cases e
    obtain ⟨p, ws, rfl, h1, r1⟩ := nd
    refine call_listD (F.calm hcal) pins s σ H _ us Q I rv ⟨p, ws, rfl, h1, f.lst k (keys_rep r1)⟩
  · cases e
theorem blt_repr (F : Fit G T C n X W) : CallR X (.builtin "repr") (rBlt G .repr) := by
  intro pins s σ H vs us Q I rv h
  obtain ⟨L, Z, d, r, v, rfl, k, nd, e0, f⟩ := blt_one h
  clear h
  have e : reprD d = some r := e0
  clear e0
  unfold reprD at e
  rw [Option.bind_eq_some_iff] at e
  obtain ⟨py, e, e2⟩ := e
  obtain ⟨hc, rfl⟩ := ite_some e2
  simp only [Bool.and_eq_true, decide_eq_true_eq] at hc
  obtain ⟨⟨h1, h2⟩, h3⟩ := hc
  obtain ⟨u, rfl, ru⟩ := rv.one
  have hdp : Dp X.K H v py := by rw [F.hK]; exact nd.dp k e
  have hz : py.shown.length ≤ sizeLine := by rw [line_eq]; exact h2
  have fin : ∀ t s', Inv X pins σ H s' → EP X pins σ Q (.str py.shown t) s' := fun t s' I' => ⟨.str py.shown, H, I', ⟨t, rfl⟩, f.str k⟩
  have hu := F.hu
  have deep : ∀ (a : Addr) (as : List Addr), Reads s.heap (.ref a) py as → wpAny (model X.prog X.w) X.A (call (.builtin "repr") [.ref a]) (EP X pins σ Q) X.xe s := fun a as hr =>
    repr_of_reads' hr h1 (PyData.noDict_hsm (py_nd d py e)) F.gd (by omega) (fun _ _ q => q) (fun h' u tk hk => fin _ _ (I.kept (t' := tk) hk)) hz
  cases d <;> first | (simp [D.py] at e; done) | skip
  · cases e
    simp only [Now, Rep] at nd; subst nd
    cases ru
    exact PySem.P.repr_of_none (fin _ _ (I.tok _))
  · cases e
    simp only [Now, Rep] at nd; subst nd
    cases ru
    exact PySem.P.repr_of_bool (fin _ _ (I.tok _))
  · cases e
    simp only [Now, Rep] at nd; subst nd
    obtain ⟨t, rfl⟩ := ru
    exact PySem.P.repr_of_int (of_decide_eq_true h1) (fin _ _ (I.tok _))
  · cases e
    simp only [Now, Rep] at nd; subst nd
    obtain ⟨t, rfl⟩ := ru
    exact PySem.P.repr_of_str (fin _ _ (I.tok _)) hz
  · have nd2 := nd
    simp only [Now, Rep] at nd2
    obtain ⟨p, ws, rfl, _⟩ := nd2
    obtain ⟨as, hr⟩ := Dp.reads I _ _ _ hdp ru
    cases ru
    exact deep p as hr
  · have nd2 := nd
    obtain ⟨p, ws, rfl, _⟩ := nd2
    obtain ⟨as, hr⟩ := Dp.reads I _ _ _ hdp ru
    cases ru
    exact deep p as hr
  · have nd2 := nd
    simp only [Now, Rep] at nd2
    obtain ⟨p, ws, rfl, _⟩ := nd2
    obtain ⟨as, hr⟩ := Dp.reads I _ _ _ hdp ru
    cases ru
    exact deep p as hr
theorem kit_tab {K : PySem.W.Frag} : ∀ (t T : String) (b : Bool), (t = "NoneType" ∨ t = "bool" ∨ t = "int" ∨ t = "str" ∨ t = "tuple" ∨ t = "list" ∨ t = "dict") → (T = "int" ∨ T = "bool" ∨ T = "str" ∨ T = "tuple" ∨ T = "list" ∨ T = "dict") →
    PySem.W.kitOne K (.type t) (.type T) = some (decide (t = T) || (decide (T = "int") && decide (t = "bool"))) := by
  intro t T b ht hT
  rcases ht with rfl | rfl | rfl | rfl | rfl | rfl | rfl <;> rcases hT with rfl | rfl | rfl | rfl | rfl | rfl <;> kernel_rfl

/-- the type of a seen value -/
theorem now_ty {L : Lk} {Z : Sto} {H : Hp} {d : D} {v : V} {t : String} (hK : X.K = G.K) (k : LOk G L Z H) (h : Now G L H d v) (e : tyD d = some t) : TyX X.K H v (.type t) := by
  cases d <;> simp only [tyD, Option.some.injEq, reduceCtorEq] at e
  · subst e; simp only [Now, Rep] at h; subst h; exact .base .non
  · subst e; simp only [Now, Rep] at h; subst h; exact .base (.bl _)
  · subst e; simp only [Now, Rep] at h; subst h; exact .base (.int _)
  · subst e; simp only [Now, Rep] at h; subst h; exact .base (.str _)
  · subst e
    simp only [Now, Rep] at h
    obtain ⟨p, ws, rfl, h1, _⟩ := h
    rw [hK]
    rcases sqT_mono (k.sub p) h1.sq with q | q
    · rcases q with q | ⟨o, q⟩
      · exact .base (.tup q)
      · exact .fTuple q
    · obtain ⟨o, its, m, h1, h2, _⟩ := q
      exact .kTuple (by rw [hK] at *; exact h1) h2
  · subst e
    obtain ⟨p, ws, rfl, h1, _⟩ := h
    rcases h1 with q | ⟨o, q⟩
    · exact .base (.lst q)
    · exact .base (.frz q)
  · subst e
    obtain ⟨p, ws, rfl, h1, _⟩ := h
    rcases h1 with q | ⟨o, q⟩
    · exact .base (.dK q)
    · exact .fDict q
theorem tyD_or {d : D} {t : String} (e : tyD d = some t) : t = "NoneType" ∨ t = "bool" ∨ t = "int" ∨ t = "str" ∨ t = "tuple" ∨ t = "list" ∨ t = "dict" := by
  cases d <;> simp only [tyD, Option.some.injEq, reduceCtorEq] at e <;> subst e <;> simp
/-- isinstance(o, T) -/
def tIs (G : Pg) (C : Orc) (W : WX) (c : O) (T : String) : TA := fun σ H Q => rdO G C W c σ H fun v H1 => Q [v, .ty T] H1
theorem s_isi {c : O} {Tn : String} {j : Pos} (F : Fit G T C n X W) (hg : Gl X "isinstance") (hm : X.mg "isinstance" = none) (hgT : Gl X (Str.ofString Tn)) (hmT : X.mg (Str.ofString Tn) = none) (hbT : bootBuiltins (Str.ofString Tn) = some (.type Tn))
    (hnT : Str.ofString Tn ≠ "__name__") (hdT : (Str.ofString Tn == ("__debug__" : Str)) = false) (hn : noStar a = true) (h : SO G C W X a c) :
    SE G C W X (.Call (.Name "isinstance" p) [a, .Name (Str.ofString Tn) p2] [] pos) (.blt (.isinst Tn) (.cons c .nil)) :=
  (pe_callB call_isi hg hm (by decide +kernel) (pa_cons h (pa_cons (pe_bltn hgT hmT hbT (v := .ty Tn) rfl hnT hdT) pa_nil (star_cons rfl)) (star_cons hn)) (he := star_cons hn) (hpl := star_any rfl)).imp fun σ H Q ⟨L, η, Z, en, k, q⟩ => by
    simp only [ev, evOs, Res.assoc, Res.ok_bind] at q
    refine rdO_of en k q fun d Z1 L1 H1 v st r q => ?_
    obtain ⟨ds, e1, q⟩ := q.opt
    obtain ⟨dr, e2, q⟩ := q.opt
    rw [List.mapM_cons] at e1
    cases e3 : Z1.see d with
    | none => rw [e3] at e1; cases e1
    | some dd =>
      rw [e3] at e1
      have e1 : some [dd] = some ds := e1
      cases e1
      have e2 : (isInst Tn dd).map D.bl = some dr := e2
      rw [Option.map_eq_some_iff] at e2
      obtain ⟨bb, e5, rfl⟩ := e2
      unfold isInst at e5
      by_cases hT : Tn = "int" ∨ Tn = "bool" ∨ Tn = "str" ∨ Tn = "tuple" ∨ Tn = "list" ∨ Tn = "dict"
      · rw [if_pos hT, Option.map_eq_some_iff] at e5
        obtain ⟨t, e4, rfl⟩ := e5
        exact ⟨v, .ty Tn, .type t, .type Tn, _, rfl, .ty Tn, now_ty F.hK st.ok (see_now st.ok r e3) e4, kit_tab t Tn true (tyD_or e4) hT, q.ok st.ok _ (by simp only [Rep])⟩
      · rw [if_neg hT] at e5; cases e5
/-- what is wanted of a call of a built-in -/
theorem blt_rd {c : O} {bn : Blt} : ∀ σ H Q, rdE G C W (.blt bn (.cons c .nil)) σ H Q → tCB (rBlt G bn) (tCons (rdO G C W c) tNil) σ H Q := fun σ H Q ⟨L, η, Z, en, k, q⟩ => by
  simp only [ev, evOs, Res.assoc, Res.ok_bind] at q
  refine rdO_of en k q fun d Z1 L1 H1 v st r q => ?_
  obtain ⟨ds, e1, q⟩ := q.opt
  obtain ⟨dr, e2, q⟩ := q.opt
  exact ⟨L1, Z1, ds, dr, st.ok, see_all st.ok (os := [d]) (vs := [v]) ⟨v, [], rfl, r, rfl⟩ e1, e2, fun L' H' v' s' r' => q L' H' s' v' r'⟩
theorem s_bltB {c : O} {bn : Blt} {id : String} {x : Str} (hc : CallR X (.builtin id) (rBlt G bn)) (hg : Gl X x) (hm : X.mg x = none) (hv : bootBuiltins x = some (.builtin id)) (hn' : x ≠ "__name__") (hd : (x == ("__debug__" : Str)) = false) (hn : noStar a = true) (h : SO G C W X a c) :
    SE G C W X (.Call (.Name x p) [a] [] pos) (.blt bn (.cons c .nil)) :=
  (pe_callB hc hg hm hv (pa_cons h pa_nil (star_cons hn)) hn' hd (star_cons hn) rfl).imp blt_rd
theorem s_bltT {c : O} {bn : Blt} {id : String} {x : Str} (hc : CallR X (.type id) (rBlt G bn)) (hg : Gl X x) (hm : X.mg x = none) (hv : bootBuiltins x = some (.type id)) (hn' : x ≠ "__name__") (hd : (x == ("__debug__" : Str)) = false) (hn : noStar a = true) (h : SO G C W X a c) :
    SE G C W X (.Call (.Name x p) [a] [] pos) (.blt bn (.cons c .nil)) :=
  (pe_callTy hc hg hm hv (pa_cons h pa_nil (star_cons hn)) hn' hd (star_cons hn) rfl).imp blt_rd
/-! ### methods -/
def rMth (G : Pg) (m : Mth) : V → List V → Hp → VK → Prop := fun x vs H Q => ∃ L Z d ds r, LOk G L Z H ∧ Now G L H d x ∧ NowL G L H ds vs ∧ methD m d ds = some r ∧ Fin G L Z H r Q
theorem nowL_nil {L : Lk} {H : Hp} {vs : List V} (h : NowL G L H [] vs) : vs = [] := h
theorem nowL_cons {L : Lk} {H : Hp} {d : D} {ds : List D} {vs : List V} (h : NowL G L H (d :: ds) vs) : ∃ v r, vs = v :: r ∧ Now G L H d v ∧ NowL G L H ds r := h
theorem mth_upper : MtR X "str.upper" (rMth G .upper) := by
  intro pins s σ H x vs v us Q I rx rv ⟨L, Z, d, ds, r, k, nd, nl, e0, f⟩
  have e : upperD d ds = some r := e0
  clear e0
  unfold upperD at e
  split at e
  · obtain ⟨hc, rfl⟩ := ite_some e
    have := nowL_nil nl
    subst this
    simp only [Now, Rep] at nd; subst nd
    exact mt_upper pins s σ H _ _ v us Q I rx rv ⟨_, rfl, rfl, hc, f.str k⟩
  · cases e
theorem mth_join : MtR X "str.join" (rMth G .join) := by
  intro pins s σ H x vs v us Q I rx rv ⟨L, Z, d, ds, r, k, nd, nl, e0, f⟩
  have e : joinD d ds = some r := e0
  clear e0
  unfold joinD at e
  split at e
  · rw [Option.bind_eq_some_iff] at e
    obtain ⟨zs, e1, e2⟩ := e
    obtain ⟨hc, rfl⟩ := ite_some e2
    obtain ⟨w, rfl, nw⟩ := nl.one
    obtain ⟨p, ws, rfl, h1, r1⟩ := nw
    have := strs_vs r1 e1
    subst this
    simp only [Now, Rep] at nd; subst nd
    exact mt_join pins s σ H _ _ v us Q I rx rv ⟨_, p, zs, rfl, rfl, .inl (.inl h1), hc, f.str k⟩
  · cases e
theorem mth_find : MtR X "str.find" (rMth G .find) := by
  intro pins s σ H x vs v us Q I rx rv ⟨L, Z, d, ds, r, k, nd, nl, e0, f⟩
  have e : findD d ds = some r := e0
  clear e0
  unfold findD at e
  split at e
  · cases e
    obtain ⟨w, rfl, nw⟩ := nl.one
    simp only [Now, Rep] at nd nw; subst nd; subst nw
    exact mt_find pins s σ H _ _ v us Q I rx rv ⟨_, _, rfl, rfl, f.int k⟩
  · cases e
    obtain ⟨w, r, rfl, nw, nl⟩ := nowL_cons nl
    obtain ⟨w2, rfl, nw2⟩ := nl.one
    simp only [Now, Rep] at nd nw nw2; subst nd; subst nw; subst nw2
    exact mt_find3 pins s σ H _ _ v us Q I rx rv ⟨_, _, _, rfl, rfl, f.int k⟩
  · cases e
theorem mth_split : MtR X "str.split" (rMth G .split) := by
  intro pins s σ H x vs v us Q I rx rv ⟨L, Z, d, ds, r, k, nd, nl, e0, f⟩
  have e : splitD d ds = some r := e0
  clear e0
  unfold splitD at e
  split at e
  · obtain ⟨hc, rfl⟩ := ite_some e
    obtain ⟨w, rfl, nw⟩ := nl.one
    simp only [Now, Rep] at nd nw; subst nd; subst nw
    exact mt_split pins s σ H _ _ v us Q I rx rv ⟨_, _, rfl, rfl, beq_false_of_ne hc.1, by rw [line_eq]; exact hc.2, f.lst k (strs_rep _)⟩
  · obtain ⟨hc, rfl⟩ := ite_some e
    obtain ⟨w, r, rfl, nw, nl⟩ := nowL_cons nl
    obtain ⟨w2, rfl, nw2⟩ := nl.one
    simp only [Now, Rep] at nd nw nw2; subst nd; subst nw; subst nw2
    exact mt_splitMax pins s σ H _ _ v us Q I rx rv ⟨_, _, _, rfl, rfl, beq_false_of_ne hc.1, hc.2.1, hc.2.2.1, by rw [line_eq]; exact hc.2.2.2, f.lst k (strs_rep _)⟩
  · cases e
theorem mth_starts : MtR X "str.startswith" (rMth G .startswith) := by
  intro pins s σ H x vs v us Q I rx rv ⟨L, Z, d, ds, r, k, nd, nl, e0, f⟩
  have e : startsD d ds = some r := e0
  clear e0
  unfold startsD at e
  split at e
  · cases e
    obtain ⟨w, rfl, nw⟩ := nl.one
    simp only [Now, Rep] at nd nw; subst nd; subst nw
    exact mt_startswith pins s σ H _ _ v us Q I rx rv ⟨_, _, rfl, rfl, f.bl k⟩
  · cases e
/-- no call without arguments -/
def plainBase : Expr → Bool
  | .Call _ [] [] _ => false
  | _ => true
theorem base_ok {m : Str} {env : PySem.Env} (h : plainBase a = true) : attributeBase a m env (eval a env) = eval a env := by
  cases a <;> first | rfl | skip
  rename_i f as ks pos
  cases as with
  | nil => cases ks with
    | nil => cases h
    | cons k ks => cases f <;> rfl
  | cons a as => cases f <;> rfl
theorem see_str {L : Lk} {Z : Sto} {H : Hp} {o : Ov} {v : V} {z : Str} (k : LOk G L Z H) (r : RepO G L o v) (e : Z.see o = some (.str z)) : v = .str z := by
  have := see_now k r e
  simpa only [Now, Rep] using this
theorem meth_rd {c : O} {cs : Os} {m : Mth} (hm : m ≠ .get) : ∀ σ H Q, rdE G C W (.meth m c cs) σ H Q → tBM X.K "str" (rMth G m) (rdO G C W c) (rdOs G C W cs) σ H Q := fun σ H Q ⟨L, η, Z, en, k, q⟩ => by
  simp only [ev] at q
  refine rdO_of en k q fun d Z1 L1 H1 v st r q => ?_
  obtain ⟨x0, e0, q⟩ := q.opt
  have hk := q.ite.1
  have hs : ∃ z, x0 = .str z := by
    unfold mOk at hk
    split at hk
    · exact absurd rfl hm
    · exact absurd rfl hm
    · exact ⟨_, rfl⟩
    · cases hk
  obtain ⟨z, rfl⟩ := hs
  have := see_str st.ok r e0
  subst this
  have q5 : Pst G L1 H1 σ W (evOs C cs η Z1 >>= fun p => (Res.opt (p.2.see d) : Res D) >>= fun x => (Res.opt (p.1.mapM p.2.see) : Res (List D)) >>= fun ds => (Res.opt (methD m x ds) : Res D) >>= fun r => (.ok (r, p.2) : Res (D × Sto))) (fun d L' H' => ∀ v, Rep G L' d v → Q v H') := by
    have q := q
    rw [if_pos hk] at q
    exact q
  refine ⟨rfl, rdOs_of (en.mono st.le) st.ok q5 fun os Z2 L2 H2 vs st2 rs q => ?_⟩
  obtain ⟨x, e1, q⟩ := q.opt
  obtain ⟨ds, e2, q⟩ := q.opt
  obtain ⟨dr, e3, q⟩ := q.opt
  exact ⟨L2, Z2, x, ds, dr, st2.ok, see_now st2.ok (r.mono st2.le) e1, see_all st2.ok rs e2, e3, fun L' H' v' s' r' => q L' H' s' v' r'⟩
theorem star_few {cpos : Pos} {env : PySem.Env} (hn : es.all noStar = true) : (backTo cpos (starEach es env)).all (fun x => !x.1) = true := by
  have := star_any (pos := cpos) (env := env) hn
  rw [List.any_eq_false] at this
  rw [List.all_eq_true]
  intro x hx
  have := this x hx
  cases h : x.1
  · rfl
  · exact absurd h this
theorem s_meth {id : String} {name : Str} {c : O} {cs : Os} {m : Mth} {apos cpos : Pos} (hm : m ≠ .get) (slot : PySem.Slot "str" name id) (hty : typeOf (.builtin id) = pure (.type "method_descriptor")) (hr : MtR X id (rMth G m)) (hb : plainBase a = true) (hline : (apos.endLine == cpos.line) = true)
    (hn : (e :: es).all noStar = true) (hl : (e :: es).length < 30) (h : SO G C W X a c) (hs : SOs G C W X (e :: es) cs) : SE G C W X (.Call (.Attribute a name apos) (e :: es) [] cpos) (.meth m c cs) := by
  have hn2 : noStar e = true ∧ es.all noStar = true := by rw [List.all_cons, Bool.and_eq_true] at hn; exact hn
  refine (pe_bm PySem.F.plainAttrs_str slot hty hr h hs (base_ok hb) ?_ hline (star_cons hn2.1) (star_any hn2.2)).imp (meth_rd hm)
  rw [star_few hn, show (backToKw cpos (keywordEach [] X.env)).all (fun x => x.1.isSome) = true from rfl]
  have hl' : (e :: es).length + ([] : List Keyword).length + (if ([] : List Keyword).isEmpty = true then 0 else 1) < 30 := by
    rw [if_pos (by rfl)]
    show (e :: es).length + 0 + 0 < 30
    omega
  rw [decide_eq_true hl']; rfl
theorem s_meth0 {id : String} {name : Str} {c : O} {m : Mth} {apos cpos : Pos} (hm : m ≠ .get) (slot : PySem.Slot "str" name id) (hty : typeOf (.builtin id) = pure (.type "method_descriptor")) (hr : MtR X id (rMth G m)) (hb : plainBase a = true) (hline : (apos.endLine == cpos.line) = true)
    (h : SO G C W X a c) : SE G C W X (.Call (.Attribute a name apos) [] [] cpos) (.meth m c .nil) :=
  (pe_bm0 PySem.F.plainAttrs_str slot hty hr h (base_ok hb) hline).imp fun σ H Q q => by
    refine (meth_rd (X := X) hm σ H Q q : rdO G C W c σ H _) |>.elim fun L ⟨η, Z, en, k, q⟩ => ⟨L, η, Z, en, k, q.imp fun d Z' L' H' em st q v r => ?_⟩
    obtain ⟨ty, L2, η2, Z2, en2, k2, q2⟩ := q v r
    refine ⟨ty, ?_⟩
    simp only [evOs] at q2
    exact q2.ok k2 [] rfl
theorem opt_ite {α : Type} {c : Prop} [Decidable c] {o : Option α} {r : α} (h : (if c then o else none) = some r) : c ∧ o = some r := by
  by_cases hc : c
  · rw [if_pos hc] at h; exact ⟨hc, h⟩
  · rw [if_neg hc] at h; cases h
theorem still_now {L : Lk} {H : Hp} {d : D} {v : V} (h : Now G L H d v) (f : stillD d = true) : Rep G L d v := by
  cases d <;> first | exact h | cases f
theorem s_get {cd ck cx : O} {x : Expr} {apos cpos : Pos} (F : Fit G T C n X W) (hb : plainBase a = true) (hline : (apos.endLine == cpos.line) = true) (hn1 : noStar b = true) (hn2 : noStar x = true) (h : SO G C W X a cd) (hk : SO G C W X b ck) (hx : SO G C W X x cx) :
    SE G C W X (.Call (.Attribute a "get" apos) [b, x] [] cpos) (.meth .get cd (.cons ck (.cons cx .nil))) := by
  refine (pe_dget2 (by have := F.hu; omega) h hk hx ⟨base_ok hb, ?_, hline, ?_⟩).imp fun σ H Q ⟨L, η, Z, en, k, q⟩ => ?_
  · rw [star_few (by simp [hn1, hn2])]; rfl
  · rw [star_cons hn1, star_cons hn2]; rfl
  · simp only [ev, evOs, Res.assoc, Res.ok_bind] at q
    refine rdO_of en k q fun d Z1 L1 H1 v st r q => ?_
    obtain ⟨x0, e0, q⟩ := q.opt
    obtain ⟨hk0, q⟩ := q.ite
    have hs : ∃ kvs, x0 = .dct kvs := by
      cases x0 <;> first | exact ⟨_, rfl⟩ | cases hk0
    obtain ⟨kvs, rfl⟩ := hs
    obtain ⟨p, ws, rfl, h1, r1⟩ := see_now st.ok r e0
    have en1 := en.mono st.le
    refine ⟨p, rfl, .inl ⟨ws, h1⟩, rdO_of en1 st.ok q fun dk Z2 L2 H2 vk st2 rk q => ?_⟩
    refine rdO_of (en1.mono st2.le) st2.ok q fun dx Z3 L3 H3 vx st3 rx q => ?_
    obtain ⟨y, ey, q⟩ := q.opt
    obtain ⟨ds, e2, q⟩ := q.opt
    obtain ⟨dr, e3, q⟩ := q.opt
    have nl := see_all st3.ok (os := [dk, dx]) (vs := [vk, vx]) ⟨vk, [vx], rfl, rk.mono st3.le, vx, [], rfl, rx, rfl⟩ e2
    have ny := see_now st3.ok ((r.mono st2.le).mono st3.le) ey
    have e3 : getD2 y ds = some dr := e3
    unfold getD2 at e3
    split at e3
    · have hst := (opt_ite e3).1
      have e6 := (opt_ite e3).2
      rw [Option.map_eq_some_iff] at e6
      obtain ⟨κ, e4, rfl⟩ := e6
      obtain ⟨w1, r', ew, n1, nl⟩ := nowL_cons nl
      obtain ⟨w2, rfl, n2⟩ := nl.one
      cases ew
      obtain ⟨p', ws', ep, h2, r2⟩ := ny
      cases ep
      have := key_now n1 e4
      subst this
      refine ⟨valV ws' κ, .inl ⟨ws', κ, h2, rfl, rfl⟩, q.ok st3.ok _ ?_⟩
      cases hl : lookK _ κ with
      | none =>
        rw [(r2.look κ).1 hl]
        exact still_now n2 hst
      | some d =>
        obtain ⟨v, ev, rv⟩ := (r2.look κ).2 d hl
        rw [ev]; exact rv
    · cases e3
/-! ### dict(pairs) -/
theorem pairs_at {L : Lk} {Z : Sto} {H : Hp} {pins : List (Addr × Obj)} {σ : L2.St} {s : Shared} (hK : X.K = G.K) (k : LOk G L Z H) (I : Inv X pins σ H s) : ∀ {ds : List D} {vs : List V} {us : List Value} {kvs : List (Key × D)}, RepL G L ds vs → Vals vs us → pairsD ds = some kvs →
    ∃ (as : List Addr) (ps : List (Value × Value)) (ws : List (Key × V)) (prs : List (Key × Value)), us = as.map Value.ref ∧ as.length = ps.length ∧ prs.length = ps.length ∧ RepK G L kvs ws ∧ KV ws prs ∧
      ∀ (j : Nat) kk v, ps[j]? = some (kk, v) → (∃ b, as[j]? = some b ∧ PairAt s.heap b kk v) ∧ ∃ key, prs[j]? = some (key, v) ∧ (mixKind X.prog X.w).is key kk = true
  | [], vs, us, kvs, r, rv, e => by
    simp only [pairsD, Option.some.injEq] at e; subst e
    simp only [RepL] at r; subst r
    cases rv
    exact ⟨[], [], [], [], rfl, rfl, rfl, by simp only [RepK], .nil, fun j kk v h => by simp at h⟩
  | d :: ds, vs, us, kvs, r, rv, e => by
    simp only [RepL] at r
    obtain ⟨v, rr, rfl, r1, r2⟩ := r
    cases rv with
    | cons ru rt =>
      rename_i u ut
      unfold pairsD at e
      split at e
      · rename_i h1; cases h1
      · rename_i kd vd rd h1
        cases h1
        split at e
        · rename_i κ kr e1 e2
          cases e
          obtain ⟨as, ps, ws, prs, g1, g2, g3, g4, g5, g6⟩ := pairs_at hK k I r2 rt e2
          simp only [Rep] at r1
          obtain ⟨p, xs, rfl, sq, rl⟩ := r1
          simp only [RepL] at rl
          obtain ⟨kv, r', rfl, rk, r'', r3, rfl, rvv, rfl⟩ := rl
          have ek := key_now (Rep.now k rk) e1
          subst ek
          obtain rfl : u = Value.ref p := ru
          obtain ⟨its, rits, ist, _⟩ := I.tuple (a := p) (xs := [kV κ, r'']) (by rw [hK]; exact sqT_mono (k.sub p) sq.sq)
          obtain ⟨x, y, rfl, rx, ry⟩ := rits.two
          refine ⟨p :: as, (x, y) :: ps, (κ, r'') :: ws, (κ, y) :: prs, by rw [g1]; rfl, by simp [g2], by simp [g3], by simp only [RepK]; exact ⟨r'', ws, rfl, rvv, g4⟩, .cons ⟨rfl, ry⟩ g5, fun j kk v h => ?_⟩
          cases j with
          | zero =>
            cases h
            exact ⟨⟨p, rfl, .inl ist⟩, κ, rfl, kV_is rx⟩
          | succ j => exact g6 j kk v (by simpa using h)
        · cases e
      · cases e
theorem RepK.mergeA {L : Lk} : ∀ {more : List (Key × D)} {ws : List (Key × V)} {kvs : List (Key × D)} {vs : List (Key × V)}, RepK G L more ws → RepK G L kvs vs → RepK G L (mergeD kvs more) (mergeK vs ws)
  | [], ws, kvs, vs, h, h2 => by simp only [RepK] at h; subst h; exact h2
  | (κ, d) :: more, ws, kvs, vs, h, h2 => by
    simp only [RepK] at h
    obtain ⟨v, r, rfl, h3, h4⟩ := h
    show RepK G L (mergeD (putD kvs κ d) more) (mergeK (putK vs κ v) r)
    exact RepK.mergeA h4 (RepK.put h2 h3)
theorem blt_dict (F : Fit G T C n X W) (hcal : T.cal = true) : CallR X (.type "dict") (rBlt G .dict) := by
  intro pins s σ H vs us Q I rv h
  obtain ⟨L, Z, d, r, v, rfl, k, nd, e0, f⟩ := blt_one h
  clear h
  have e : (dictOf d).map D.dct = some r := e0
  clear e0
  rw [Option.map_eq_some_iff] at e
  obtain ⟨kvs, e1, rfl⟩ := e
  obtain ⟨u, rfl, ru⟩ := rv.one
  have fin : ∀ {ds : List D} {p : Addr} {xs : List V} {its : List Value} {T0 : String} {more : List (Key × D)}, RepL G L ds xs → Vals xs its → xs.length ≤ sizeLine → pairsD ds = some more → kvs = mergeD [] more →
      (∀ (ps : List (Value × Value)) (Ts : Nat → Addr), PairItems s.heap its.toArray Ts ps → ∃ fp OK, PairArg X.prog X.w T0 p fp [] ps.length (PairRel ps) OK ∧ OK s.heap) →
      wpAny (model X.prog X.w) X.A (call (.type "dict") [.ref p]) (EP X pins σ Q) X.xe s := by
    intro ds p xs its T0 more rl rits hz em ek hP
    subst ek
    obtain ⟨as, ps, ws, prs, g1, g2, g3, g4, g5, g6⟩ := pairs_at F.hK k I rl rits em
    obtain ⟨fp, OK, P, ok⟩ := hP ps (fun j => as.getD j 0) ⟨by rw [g1]; simp [g2], fun j kk v h => by
      obtain ⟨⟨b, h1, h2⟩, _⟩ := g6 j kk v h
      refine ⟨?_, ?_⟩
      · rw [g1]
        simp [List.getD, h1]
      · simpa [List.getD, h1] using h2⟩
    have hlen : ps.length ≤ sizeLine := by
      rw [← g2]
      have h1 := rits.length
      rw [g1, List.length_map] at h1
      omega
    refine PySem.call_dict_pairs (knd := mixKind X.prog X.w) P (I.ok.hd (F.calm hcal)) ok ⟨g3, fun j kk v h => (g6 j kk v h).2⟩ hlen fun h' tk hd hk => ?_
    have hm : (s.heap.objs.size == sysModules) = false := beq_eq_false_iff_ne.mpr (Nat.ne_of_gt I.big)
    have hz2 : (mergeK [] ws).length ≤ sizeLine := by
      refine Nat.le_trans (length_mergeK ws []) ?_
      have := KV.length g5
      simp only [List.length_nil]
      omega
    have J : Inv X pins σ (upd H s.heap.objs.size (.dK (mergeK [] ws))) { s with heap := h', toks := tk } := I.laid (t' := tk) (fun b o => hk b o (by simp)) (Nat.le_refl _) (dk_new hz2 hm (KV.merge g5 .nil) hd)
    exact ⟨.ref s.heap.objs.size, _, J, rfl, f.dct k (RepK.mergeA g4 (by simp only [RepK])) _ (I.hok.fresh (Nat.le_refl _))⟩
  cases d <;> simp only [dictOf, Option.map_eq_some_iff, Option.some.injEq, reduceCtorEq] at e1
  · obtain ⟨more, e2, rfl⟩ := e1
    simp only [Now, Rep] at nd
    obtain ⟨p, xs, rfl, sq, rl⟩ := nd
    obtain rfl : u = Value.ref p := ru
    rcases sq with ⟨o, hF, hd⟩ | ⟨o, its, n, hk, hd, hc, hdat, hz, rits⟩
    · have ho : s.heap.get? p = some o ∧ ObjOk X.prog X.w H s.heap p (.tup xs) := I.hok p _ (k.subx p _ hF)
      obtain ⟨ho1, hz, its, rits, o', ho', hc', n, hd'⟩ := ho
      rw [ho1] at ho'
      cases ho'
      exact fin rl rits hz e2 rfl fun ps Ts hi => ⟨_, _, PairArg.tuple p its.toArray Ts ps, ⟨o, n, ho1, hc', hd, hd'⟩, hi⟩
    · have ho1 := I.kIn p o (by rw [F.hK]; exact hk)
      exact fin (its := its.toList) rl rits (by have := rits.length; simp at this; omega) e2 rfl fun ps Ts hi => ⟨_, _, PairArg.tuple p its Ts ps, ⟨o, n, ho1, hc, hd, hdat⟩, by simpa using hi⟩
  · obtain ⟨more, e2, rfl⟩ := e1
    obtain ⟨p, xs, rfl, h1, rl⟩ := nd
    obtain rfl : u = Value.ref p := ru
    obtain ⟨hz, its, n, rits, _, e3⟩ := lstR I h1
    exact fin rl rits hz e2 rfl fun ps Ts hi => ⟨_, _, PairArg.list p its.toArray Ts ps, ⟨_, n, e3, rfl, rfl, rfl⟩, hi⟩
  · subst e1
    obtain ⟨p, ws, rfl, h1, rl⟩ := nd
    obtain rfl : u = Value.ref p := ru
    exact d_copyOf I h1 fun q s' hq I' => ⟨.ref q, _, I', rfl, f.dct k rl q hq⟩
end
end Py
end
section
set_option Elab.async false
set_option linter.all false
set_option maxRecDepth 100000
set_option maxHeartbeats 4000000
/-! PyKa: sorted. -/
namespace Py
open PySem PySem.Spec L2
/-! ### insertion -/
section
variable {α β : Type}
theorem insB_split {lt : α → α → Bool} (O : SrtO.Swo lt) {y : α} : ∀ {l : List α}, SrtO.Srtd lt l → ∃ M N, l = M ++ N ∧ insB lt y l = M ++ y :: N ∧ (∀ x ∈ M, lt y x = false) ∧ ∀ x ∈ N, lt y x = true
  | [], _ => ⟨[], [], rfl, rfl, nofun, nofun⟩
  | x :: r, h => by
    unfold insB
    cases q : lt y x with
    | true =>
      refine ⟨[], x :: r, rfl, by rw [if_pos rfl]; rfl, nofun, SrtO.Swo.lt_all O h q⟩
    | false =>
      obtain ⟨M, N, h1, h2, h3, h4⟩ := insB_split O (y := y) (List.pairwise_cons.mp h).2
      refine ⟨x :: M, N, by rw [h1]; rfl, by rw [if_neg Bool.false_ne_true, h2]; rfl, fun z hz => ?_, h4⟩
      rcases List.mem_cons.mp hz with e | hz
      · rw [e]; exact q
      · exact h3 z hz
theorem isort_go {lt : α → α → Bool} (O : SrtO.Swo lt) : ∀ (l acc done : List α), SrtO.Srtd lt acc → SrtO.Stb lt acc done → SrtO.Srtd lt (l.foldl (fun acc y => insB lt y acc) acc) ∧ SrtO.Stb lt (l.foldl (fun acc y => insB lt y acc) acc) (done ++ l)
  | [], acc, done, h1, h2 => ⟨h1, by rw [List.append_nil]; exact h2⟩
  | y :: l, acc, done, h1, h2 => by
    obtain ⟨M, N, e1, e2, e3, e4⟩ := insB_split O (y := y) h1
    subst e1
    have := isort_go O l (insB lt y (M ++ N)) (done ++ [y]) (by rw [e2]; exact SrtO.ins_srtd O h1 e3 e4) (by rw [e2]; exact SrtO.ins_stb O e4 h2)
    rw [List.append_assoc] at this
    exact this
theorem isort_ok {lt : α → α → Bool} (O : SrtO.Swo lt) (l : List α) : SrtO.Srtd lt (isort lt l) ∧ SrtO.Stb lt (isort lt l) l := by
  have := isort_go O l [] [] List.Pairwise.nil (SrtO.Stb.refl _)
  rw [List.nil_append] at this
  exact this
theorem insB_map {lt : α → α → Bool} {lt' : β → β → Bool} {f : α → β} {y : α} : ∀ {l : List α}, (∀ x ∈ l, lt y x = lt' (f y) (f x)) → (insB lt y l).map f = insB lt' (f y) (l.map f)
  | [], _ => rfl
  | x :: r, h => by
    unfold insB
    rw [List.map_cons, h x List.mem_cons_self]
    cases q : lt' (f y) (f x) with
    | true => simp [q]
    | false =>
      have ih := insB_map (lt := lt) (lt' := lt') (f := f) (y := y) (l := r) fun z hz => h z (List.mem_cons_of_mem _ hz)
      simp [q, ih]
theorem insB_mem {lt : α → α → Bool} {y z : α} : ∀ {l : List α}, z ∈ insB lt y l → z = y ∨ z ∈ l
  | [], h => by
    have : z ∈ [y] := h
    exact .inl (by simpa using this)
  | x :: r, h => by
    unfold insB at h
    split at h
    · rcases List.mem_cons.mp h with e | h
      · exact .inl e
      · exact .inr h
    · rcases List.mem_cons.mp h with e | h
      · exact .inr (by rw [e]; exact List.mem_cons_self)
      · rcases insB_mem h with e | h
        · exact .inl e
        · exact .inr (List.mem_cons_of_mem _ h)
theorem isort_map {lt : α → α → Bool} {lt' : β → β → Bool} {f : α → β} {L0 : List α} (h : ∀ x ∈ L0, ∀ y ∈ L0, lt x y = lt' (f x) (f y)) : ∀ {l acc : List α}, (∀ x ∈ l, x ∈ L0) → (∀ x ∈ acc, x ∈ L0) →
    (l.foldl (fun acc y => insB lt y acc) acc).map f = (l.map f).foldl (fun acc y => insB lt' y acc) (acc.map f)
  | [], acc, _, _ => rfl
  | y :: l, acc, h1, h2 => by
    have hy := h1 y List.mem_cons_self
    rw [List.map_cons, List.foldl_cons, List.foldl_cons, ← insB_map (lt := lt) (fun x hx => h y hy x (h2 x hx))]
    refine isort_map h (fun x hx => h1 x (List.mem_cons_of_mem _ hx)) fun x hx => ?_
    rcases insB_mem hx with e | hx
    · rw [e]; exact hy
    · exact h2 x hx
end
/-! ### the order of keys -/
theorem ltS_iff {x y : Str} : ltS x y = true ↔ x.cps.toList < y.cps.toList := by
  unfold ltS; exact decide_eq_true_iff
theorem str_ext {x y : Str} (h : x.cps.toList = y.cps.toList) : x = y := by
  cases x; cases y
  simp only [Array.toList_inj] at h
  rw [h]
theorem ltK_asym {a b : Key} (h : ltK a b = true) : ltK b a = false := by
  cases a <;> cases b <;> simp only [ltK, decide_eq_true_eq, decide_eq_false_iff_not, Bool.false_eq_true] at h ⊢
  · omega
  · rw [Bool.eq_false_iff]
    intro q
    exact List.lt_asymm (ltS_iff.mp h) (ltS_iff.mp q)
theorem ltK_tri {a b : Key} (h : a ≠ b) : ltK a b = true ∨ ltK b a = true := by
  cases a <;> cases b <;> simp only [ltK, decide_eq_true_eq, Bool.false_eq_true, or_false, false_or, or_true, true_or, ne_eq, Sum.inl.injEq, Sum.inr.injEq] at h ⊢
  · omega
  · rename_i x y
    by_cases q1 : x.cps.toList < y.cps.toList
    · exact .inl (ltS_iff.mpr q1)
    · by_cases q2 : y.cps.toList < x.cps.toList
      · exact .inr (ltS_iff.mpr q2)
      · exact absurd (str_ext (List.le_antisymm (List.not_lt.mp q2) (List.not_lt.mp q1))) h
theorem ltK_trans {a b c : Key} (h1 : ltK a b = true) (h2 : ltK b c = true) : ltK a c = true := by
  cases a <;> cases b <;> cases c <;> simp only [ltK, decide_eq_true_eq, Bool.false_eq_true] at h1 h2 ⊢
  · omega
  · exact ltS_iff.mpr (List.lt_trans (ltS_iff.mp h1) (ltS_iff.mp h2))
theorem ltKs_asym : ∀ {x y : List Key}, ltKs x y = true → ltKs y x = false
  | [], [], h => by cases h
  | [], _ :: _, _ => rfl
  | _ :: _, [], h => by cases h
  | a :: r, b :: t, h => by
    unfold ltKs at h ⊢
    by_cases e : a = b
    · rw [if_pos e] at h
      rw [if_pos e.symm]
      exact ltKs_asym h
    · rw [if_neg e] at h
      rw [if_neg (Ne.symm e)]
      exact ltK_asym h
/-- not y before x, not z before y: not z before x -/
theorem ltKs_tr : ∀ {x y z : List Key}, ltKs y x = false → ltKs z y = false → ltKs z x = false
  | _, _, [], h1, h2 => by
    rename_i x y
    cases x with
    | nil => rfl
    | cons a r =>
      cases y with
      | nil => cases h1
      | cons b t => cases h2
  | [], _, c :: u, _, _ => rfl
  | a :: r, [], c :: u, h1, _ => by cases h1
  | a :: r, b :: t, c :: u, h1, h2 => by
    unfold ltKs at h1 h2 ⊢
    by_cases e1 : b = a
    · rw [if_pos e1] at h1
      by_cases e2 : c = b
      · rw [if_pos e2] at h2
        rw [if_pos (e2.trans e1)]
        exact ltKs_tr h1 h2
      · rw [if_neg e2] at h2
        rw [if_neg (fun q => e2 (q.trans e1.symm)), ← e1]
        exact h2
    · rw [if_neg e1] at h1
      by_cases e2 : c = b
      · subst e2
        rw [if_neg e1]
        exact h1
      · rw [if_neg e2] at h2
        have k1 : ltK a b = true := (ltK_tri (Ne.symm e1)).resolve_right (by rw [h1]; exact Bool.false_ne_true)
        have k2 : ltK b c = true := (ltK_tri (Ne.symm e2)).resolve_right (by rw [h2]; exact Bool.false_ne_true)
        have k3 := ltK_trans k1 k2
        by_cases e3 : c = a
        · subst e3
          rw [ltK_asym k3] at k3
          cases k3
        · rw [if_neg e3]
          exact ltK_asym k3
theorem swo_keys {α : Type} (f : α → List Key) : SrtO.Swo (fun x y => ltKs (f x) (f y)) := ⟨fun x y h => ltKs_asym h, fun x y z h1 h2 => ltKs_tr h1 h2⟩
/-! ### the heap's side -/
def keyOfV : Value → Option Key
  | .int i _ => some (.inl i)
  | .str x _ => some (.inr x)
  | _ => none
/-- what a value is sorted by, as it stands in h -/
def keysV (h : Heap) : Value → List Key
  | .int i _ => [.inl i]
  | .str x _ => [.inr x]
  | .ref a => match h.get? a with
    | some ⟨_, _, .seq its _, _⟩ => its.toList.filterMap keyOfV
    | _ => []
  | _ => []
def ltV (h : Heap) (v u : Value) : Bool := ltKs (keysV h v) (keysV h u)
section
variable {G : Pg} {T : Tab} {C : Orc} {n : Nat} {X : Cx} {W : WX} {L : Lk} {Z : Sto} {H : Hp} {pins : List (Addr × Obj)} {σ : L2.St} {s : Shared}
theorem keyOf_rep {d : D} {v : V} {u : Value} (h : Rep G L d v) (r : RelV v u) (f : flatD d = true) : keyOfV u = keyD d := by
  cases d <;> first | (cases f; done) | skip
  · simp only [Rep] at h; subst h; cases r; rfl
  · simp only [Rep] at h; subst h; cases r; rfl
  · simp only [Rep] at h; subst h; obtain ⟨t, rfl⟩ := r; rfl
  · simp only [Rep] at h; subst h; obtain ⟨t, rfl⟩ := r; rfl
theorem keyD_flat {d : D} (h : (keyD d).isSome = true) : flatD d = true := by
  cases d <;> first | rfl | cases h
theorem keysOf_rep : ∀ {ds : List D} {vs : List V} {us : List Value}, RepL G L ds vs → Vals vs us → ds.all (fun d => (keyD d).isSome) = true → us.filterMap keyOfV = ds.filterMap keyD ∧ us.length = ds.length
  | [], vs, us, h, r, _ => by simp only [RepL] at h; subst h; cases r; exact ⟨rfl, rfl⟩
  | d :: ds, vs, us, h, r, f => by
    simp only [RepL] at h
    obtain ⟨v, vr, rfl, h1, h2⟩ := h
    cases r with
    | cons ru rt =>
      rw [List.all_cons, Bool.and_eq_true] at f
      obtain ⟨g1, g2⟩ := keysOf_rep h2 rt f.2
      refine ⟨?_, by rw [List.length_cons, List.length_cons, g2]⟩
      rw [List.filterMap_cons, List.filterMap_cons, keyOf_rep h1 ru (keyD_flat f.1), g1]
/-- a tuple that is read, as an object -/
theorem tupR (I : Inv X pins σ H s) {p : Addr} {xs : List V} (h : SqT X.K H p xs) : ∃ (o : Obj) (its : List Value) (m : Nat), Vals xs its ∧ s.heap.get? p = some o ∧ o.cls = .type "tuple" ∧ o.data = .seq its.toArray m := by
  obtain ⟨its, r, ⟨o, ho, hc, m, hd⟩, _⟩ := I.tuple h
  exact ⟨o, its, m, r, ho, hc, hd⟩
/-- what sorting asks of one thing -/
theorem keys_of (hK : X.K = G.K) (k : LOk G L Z H) (I : Inv X pins σ H s) {sig : List Bool} {d : D} {v : V} {u : Value} (h : Rep G L d v) (r : RelV v u) (f : isRow 0 sig d = true) :
    ∃ (a : Addr) (o : Obj) (its : List Value) (m : Nat) (ds : List D) (vs : List V), u = .ref a ∧ s.heap.get? a = some o ∧ o.cls = .type "tuple" ∧ o.data = .seq its.toArray m ∧ RepL G L ds vs ∧ Vals vs its ∧ ds.all (fun d => (keyD d).isSome) = true ∧ ds.map isStr = sig ∧ keysD d = ds.filterMap keyD := by
  cases d <;> first | (cases f; done) | skip
  · simp only [isRow, Bool.and_eq_true, decide_eq_true_eq] at f
    simp only [Rep] at h
    obtain ⟨p, vs, rfl, sq, rl⟩ := h
    obtain rfl : u = Value.ref p := r
    obtain ⟨o, its, m, rv, ho, hc, hd⟩ := tupR I (p := p) (xs := vs) (by rw [hK]; exact sqT_mono (k.sub p) sq.sq)
    exact ⟨p, o, its, m, _, vs, rfl, ho, hc, hd, rl, rv, f.1, f.2, rfl⟩
  · simp only [isRow, Bool.and_eq_true, decide_eq_true_eq] at f
    simp only [Rep] at h
    obtain ⟨p, vs, rfl, sq, rl⟩ := h
    obtain rfl : u = Value.ref p := r
    obtain ⟨o, its, m, rv, ho, hc, hd⟩ := tupR I (p := p) (xs := vs) (by rw [hK]; exact sqT_mono (k.sub p) sq)
    exact ⟨p, o, its, m, _, vs, rfl, ho, hc, hd, rl, rv, f.1, f.2, rfl⟩
theorem keysV_ref {h : Heap} {a : Addr} {o : Obj} {its : List Value} {m : Nat} (ho : h.get? a = some o) (hd : o.data = .seq its.toArray m) : keysV h (.ref a) = its.filterMap keyOfV := by
  obtain ⟨c, dd, dt, sl⟩ := o
  dsimp only at hd
  subst hd
  simp only [keysV, ho]
end
/-! ### comparing -/
section
variable {prog : Program} {w : World} {A : Around} {s : Shared} {Q : Bool → Shared → Prop}
/-- what is left of a comparison from the place i on, of rows of one kind -/
theorem kat_rows {G : Pg} {L : Lk} : ∀ {xs ys : List D} {vs ws : List V} {us ts : List Value} {i : Nat}, RepL G L xs vs → RepL G L ys ws → Vals vs us → Vals ws ts → xs.all (fun d => (keyD d).isSome) = true → ys.all (fun d => (keyD d).isSome) = true → xs.map isStr = ys.map isStr →
    Q (ltKs (xs.filterMap keyD) (ys.filterMap keyD)) s → PySem.W.KatLex prog w A true (decide (0 < 0)) Q (us.zip ts) i s
  | [], [], vs, ws, us, ts, i, h1, h2, r1, r2, _, _, _, q => by
    simp only [RepL] at h1 h2
    subst h1 h2
    cases r1
    exact PySem.W.kat_nil q
  | [], _ :: _, _, _, _, _, _, _, _, _, _, _, _, e, _ => by cases e
  | _ :: _, [], _, _, _, _, _, _, _, _, _, _, _, e, _ => by cases e
  | x :: xs, y :: ys, vs, ws, us, ts, i, h1, h2, r1, r2, f1, f2, e, q => by
    simp only [RepL] at h1 h2
    obtain ⟨v, vr, rfl, a1, a2⟩ := h1
    obtain ⟨w', wr, rfl, b1, b2⟩ := h2
    cases r1 with
    | cons ru rut =>
      rename_i u ut
      cases r2 with
      | cons rt rtt =>
        rename_i t tt
        rw [List.all_cons, Bool.and_eq_true] at f1 f2
        rw [List.map_cons, List.map_cons, List.cons.injEq] at e
        have tail : Q (ltKs (xs.filterMap keyD) (ys.filterMap keyD)) s → PySem.W.KatLex prog w A true (decide (0 < 0)) Q (ut.zip tt) (i + 1) s := kat_rows a2 b2 rut rtt f1.2 f2.2 e.2
        show PySem.W.KatLex prog w A true (decide (0 < 0)) Q ((u, t) :: ut.zip tt) i s
        cases x <;> first | (simp [keyD] at f1; done) | skip
        · rename_i j
          cases y <;> first | (simp [keyD] at f2; done) | (simp [isStr] at e; done) | skip
          rename_i l
          simp only [Rep] at a1 b1
          subst a1 b1
          obtain ⟨t1, rfl⟩ := ru
          obtain ⟨t2, rfl⟩ := rt
          simp only [List.filterMap_cons, keyD, ltKs, Sum.inl.injEq] at q
          refine PySem.W.kat_cons (SeqAt.EqAt.int_int j t1 l t2 prog w _ _ (PySem.W.kat_go (fun e1 => PySem.W.kat_yes (tail ?_)) fun e1 => PySem.W.kat_no ?_))
          · have : j = l := by simpa using e1
            rw [if_pos this] at q
            exact q
          · have : ¬ j = l := by simpa using e1
            rw [if_neg this] at q
            cases hb : (true && i == 0) with
            | true => exact PyProof.Rows.oneLt_int q
            | false => exact PySem.W.kat_one _ _ (PyProof.Rows.lt_int q)
        · rename_i j
          cases y <;> first | (simp [keyD] at f2; done) | (simp [isStr] at e; done) | skip
          rename_i l
          simp only [Rep] at a1 b1
          subst a1 b1
          obtain ⟨t1, rfl⟩ := ru
          obtain ⟨t2, rfl⟩ := rt
          simp only [List.filterMap_cons, keyD, ltKs, Sum.inr.injEq] at q
          refine PySem.W.kat_cons (SeqAt.EqAt.str_str j t1 l t2 prog w _ _ (PySem.W.kat_go (fun e1 => PySem.W.kat_yes (tail ?_)) fun e1 => PySem.W.kat_no ?_))
          · have : j = l := by simpa using e1
            rw [if_pos this] at q
            exact q
          · have : ¬ j = l := by simpa using e1
            rw [if_neg this] at q
            cases hb : (true && i == 0) with
            | true => exact PyProof.Rows.oneLt_str q
            | false => exact PySem.W.kat_one _ _ (PySem.P.lt_str q)
end
end Py
namespace Py
open PySem PySem.Spec L2
section
variable {prog : Program} {w : World} {A : Around} {E : Value → Shared → Prop} {s : Shared}
/-- the items of a tuple, collected -/
theorem collect_tup {t : Addr} {us : List Value} {Q : List Value → Shared → Prop} (tu : s.heap.IsTuple t us.toArray) (short : us.length ≤ sizeLine)
    (q : Q us { s with heap := (s.heap.push (PyProof.Rows.seqObj "list" #[] 0)).update s.heap.objs.size (Obj.mapSeq (· ++ us.toArray)) }) : wpAny (model prog w) A (collect (.ref t)) Q E s := by
  obtain ⟨o, at_, cl, m, dat⟩ := id tu
  unfold collect
  refine wpAny_bind (wpAny_runValue (codeAny_builtin PyProof.Rows.entry_proto_collect' ?_))
  show wpAny _ _ (do PySem.again (.builtin "list.__iadd__" ⟨[← newList [], .ref t], []⟩)) _ _ s
  refine wpAny_bind (wpAny_newList (wpAny_pure ⟨Code.quiet_builtin _ (by decide +kernel), codeAny_builtin PyProof.Rows.entry_list_iadd' ?_⟩))
  show wpAny _ _ (Builtin.List.listExtendWith (.ref s.heap.objs.size) (.ref t) (.ref s.heap.objs.size)) _ _ { s with heap := s.heap.push (PyProof.Rows.seqObj "list" #[] 0) }
  unfold Builtin.List.listExtendWith
  have at2 : (s.heap.push (PyProof.Rows.seqObj "list" #[] 0)).get? t = some o := Heap.get?_push_of_some _ at_
  refine wpAny_bind (wpAny_typeOf (T := "tuple") ⟨o, at2, cl⟩ ?_)
  have e1 : (Value.type "tuple" == Value.type "tuple") = true := by rfl
  rw [if_pos (by rw [e1]; simp)]
  have new0 : (s.heap.push (PyProof.Rows.seqObj "list" #[] 0)).get? s.heap.objs.size = some (PyProof.Rows.seqObj "list" #[] 0) := Heap.get?_push_size _ rfl
  refine wpAny_bind (PyProof.Rows.listItems_at at2 dat (wpAny_bind (PyProof.Rows.listItems_at (xs := #[]) (n := 0) new0 rfl ?_)))
  rw [if_neg (by simp)]
  have fits : ((#[] : Array Value) ++ us.toArray).size ≤ sizeLine + 1 := by simp only [Array.size_append, List.size_toArray, List.length_nil]; omega
  refine wpAny_bind (PyProof.Rows.listUpdate_at (xs := #[]) (n := 0) new0 rfl (wpAny_pure ?_) (Nat.zero_le _) fits)
  show wpAny (model prog w) A (do
      let ob ← load s.heap.objs.size
      match ob.data with
      | .seq zs _ => pure zs.toList
      | _ => unsupported "internal:collect") Q E { s with heap := (s.heap.push (PyProof.Rows.seqObj "list" #[] 0)).update s.heap.objs.size (Obj.mapSeq (· ++ us.toArray)) }
  refine wpAny_bind (wpAny_load (PyProof.Rows.get?_update_seq new0 _) ?_)
  have e2 : ((#[] : Array Value) ++ us.toArray).toList = us := by simp
  show wpAny _ _ (pure ((#[] : Array Value) ++ us.toArray).toList) Q E _
  rw [e2]
  exact wpAny_pure q
/-- sorted(x), x a list or a tuple -/
theorem sorted_of {x : Addr} {us : List Value} {lt : Value → Value → Bool} {Q : Value → Shared → Prop} (O : SrtO.Swo lt) (src : s.heap.IsList x us.toArray ∨ s.heap.IsTuple x us.toArray) (short : us.length ≤ sizeLine)
    (cmp : 2 ≤ us.length → ∀ (h1 : Heap) (a : Addr), h1.get? a = some (PyProof.Rows.seqObj "list" us.toArray 0) → (∀ b o, s.heap.get? b = some o → b ≠ a ∧ h1.get? b = some o) → SrtO.SortableO prog w A.in1.in1 { s with heap := h1 } a us lt)
    (q : ∀ out : List Value, SrtO.Srtd lt out → SrtO.Stb lt out us → Q (.ref (s.heap.objs.size + 1)) { s with heap := PyProof.Rows.sortedAll s.heap us out.toArray }) :
    wpAny (model prog w) A (call (.builtin "sorted") [.ref x]) Q E s := by
  rcases src with l | t
  · exact SrtO.sorted_ord O l short cmp q
  · refine Calls.call_function_entry PyProof.Rows.kind_sorted PyProof.Rows.plain_sorted PyProof.Rows.entry_sorted (PyProof.Rows.args_sorted1 _) ?_
    unfold Builtin.«sorted»
    refine wpAny_bind (m := checkCount "sorted" 1 1 _) (wpAny_pure (wpAny_bind (collect_tup t short (wpAny_bind (wpAny_newList ?_ short)))))
    have size1 : ((s.heap.push (PyProof.Rows.seqObj "list" #[] 0)).update s.heap.objs.size (Obj.mapSeq (· ++ us.toArray))).objs.size = s.heap.objs.size + 1 := by
      rw [Heap.size_update]; simp [Heap.push]
    have lst1 : (((s.heap.push (PyProof.Rows.seqObj "list" #[] 0)).update s.heap.objs.size (Obj.mapSeq (· ++ us.toArray))).push (PyProof.Rows.seqObj "list" us.toArray 0)).get? (s.heap.objs.size + 1) = some (PyProof.Rows.seqObj "list" us.toArray 0) := by
      have := Heap.get?_push_size ((s.heap.push (PyProof.Rows.seqObj "list" #[] 0)).update s.heap.objs.size (Obj.mapSeq (· ++ us.toArray))) (o := PyProof.Rows.seqObj "list" us.toArray 0) rfl
      rw [size1] at this
      exact this
    have stay : ∀ b o, s.heap.get? b = some o → b ≠ s.heap.objs.size + 1 ∧ (((s.heap.push (PyProof.Rows.seqObj "list" #[] 0)).update s.heap.objs.size (Obj.mapSeq (· ++ us.toArray))).push (PyProof.Rows.seqObj "list" us.toArray 0)).get? b = some o := fun b o e1 => by
      have lt1 : b < s.heap.objs.size := Heap.lt_size e1
      have ne1 : b ≠ s.heap.objs.size := Nat.ne_of_lt lt1
      exact ⟨Nat.ne_of_lt (Nat.lt_succ_of_lt lt1), Heap.get?_push_of_some _ (by rw [Heap.get?_update_ne _ _ _ _ ne1]; exact Heap.get?_push_of_some _ e1)⟩
    show wpAny _ _ _ _ _ { s with heap := ((s.heap.push (PyProof.Rows.seqObj "list" #[] 0)).update s.heap.objs.size (Obj.mapSeq (· ++ us.toArray))).push (PyProof.Rows.seqObj "list" us.toArray 0) }
    rw [size1]
    refine wpAny_bind (wpAny_holding (wpAny_call_entry PyProof.Rows.slot_list_sort ⟨_, lst1, rfl⟩ PyProof.Rows.entry_list_sort (SrtO.list_sort_ord O lst1 short (fun two => cmp two _ _ lst1 stay) fun out o1 o2 => ⟨_, rfl, wpAny_pure ⟨_, rfl, q out o1 o2⟩⟩) (PyProof.Rows.args_list_sort _)))
end
section
variable {G : Pg} {T : Tab} {C : Orc} {n : Nat} {X : Cx} {W : WX} {L : Lk} {Z : Sto} {H : Hp} {pins : List (Addr × Obj)} {σ : L2.St} {s : Shared}
/-- one item: the value, the abstract one, the datum -/
structure Item (G : Pg) (L : Lk) (h : Heap) (z : Value × V × D) : Prop where
  rel : RelV z.2.1 z.1
  rep : Rep G L z.2.2 z.2.1
  key : keysV h z.1 = keysD z.2.2
theorem items_of {h : Heap} : ∀ {ds : List D} {vs : List V} {us : List Value}, RepL G L ds vs → Vals vs us → (∀ (d : D) (v : V) (u : Value), d ∈ ds → Rep G L d v → RelV v u → keysV h u = keysD d) →
    ∃ zs : List (Value × V × D), zs.map (·.1) = us ∧ zs.map (·.2.1) = vs ∧ zs.map (·.2.2) = ds ∧ ∀ z ∈ zs, Item G L h z
  | [], vs, us, r, rv, _ => by
    simp only [RepL] at r
    subst r
    cases rv
    exact ⟨[], rfl, rfl, rfl, nofun⟩
  | d :: ds, vs, us, r, rv, hk => by
    simp only [RepL] at r
    obtain ⟨v, vr, rfl, r1, r2⟩ := r
    cases rv with
    | cons ru rt =>
      rename_i u ut
      obtain ⟨zs, e1, e2, e3, e4⟩ := items_of r2 rt fun d v u hd => hk d v u (List.mem_cons_of_mem _ hd)
      refine ⟨(u, v, d) :: zs, by simp [e1], by simp [e2], by simp [e3], fun z hz => ?_⟩
      rcases List.mem_cons.mp hz with e | hz
      · subst e
        exact ⟨ru, r1, hk d v u List.mem_cons_self r1 ru⟩
      · exact e4 z hz
theorem vals_map {h : Heap} : ∀ {zs : List (Value × V × D)}, (∀ z ∈ zs, Item G L h z) → Vals (zs.map (·.2.1)) (zs.map (·.1)) ∧ RepL G L (zs.map (·.2.2)) (zs.map (·.2.1))
  | [], _ => ⟨.nil, RepL.nil⟩
  | z :: zs, hz => by
    obtain ⟨h1, h2⟩ := vals_map (zs := zs) fun y hy => hz y (List.mem_cons_of_mem _ hy)
    have := hz z List.mem_cons_self
    exact ⟨.cons this.rel h1, RepL.cons this.rep h2⟩
/-- the sorted values stand for the sorted data -/
theorem sorted_rep {h : Heap} {ds : List D} {vs : List V} {us out : List Value} (r : RepL G L ds vs) (rv : Vals vs us) (hk : ∀ (d : D) (v : V) (u : Value), d ∈ ds → Rep G L d v → RelV v u → keysV h u = keysD d)
    (o1 : SrtO.Srtd (ltV h) out) (o2 : SrtO.Stb (ltV h) out us) : ∃ ws, Vals ws out ∧ RepL G L (isort ltD ds) ws ∧ ws.length = vs.length := by
  obtain ⟨zs, e1, e2, e3, e4⟩ := items_of r rv hk
  have O := swo_keys (keysV h)
  have O2 : SrtO.Swo (fun x y : Value × V × D => ltV h x.1 y.1) := ⟨fun x y => O.asym x.1 y.1, fun x y z => O.tr x.1 y.1 z.1⟩
  obtain ⟨i1, i2⟩ := isort_ok O2 zs
  have p1 : SrtO.Srtd (ltV h) ((isort (fun x y : Value × V × D => ltV h x.1 y.1) zs).map (·.1)) := SrtO.srtd_map i1
  have p2 : SrtO.Stb (ltV h) ((isort (fun x y : Value × V × D => ltV h x.1 y.1) zs).map (·.1)) us := by
    rw [← e1]
    exact SrtO.Stb.map O (fun z : Value × V × D => z.1) i2
  have eq : out = (isort (fun x y : Value × V × D => ltV h x.1 y.1) zs).map (·.1) := SrtO.stb_uniq O o1 p1 ⟨o2.perm.trans p2.perm.symm, fun x => (o2.cls x).trans (p2.cls x).symm⟩
  have eD : (isort (fun x y : Value × V × D => ltV h x.1 y.1) zs).map (·.2.2) = isort ltD ds := by
    rw [← e3]
    exact isort_map (L0 := zs) (lt' := ltD) (f := fun z : Value × V × D => z.2.2) (fun x hx y hy => by show ltKs (keysV h x.1) (keysV h y.1) = ltKs (keysD x.2.2) (keysD y.2.2); rw [(e4 x hx).key, (e4 y hy).key]) (fun x hx => hx) (fun x hx => by cases hx)
  obtain ⟨v1, v2⟩ := vals_map (zs := isort (fun x y : Value × V × D => ltV h x.1 y.1) zs) fun z hz => e4 z (i2.perm.mem_iff.mp hz)
  refine ⟨(isort (fun x y : Value × V × D => ltV h x.1 y.1) zs).map (·.2.1), by rw [eq]; exact v1, by rw [← eD]; exact v2, ?_⟩
  rw [← e2, List.length_map, List.length_map, i2.perm.length_eq]
/-! ### what is asked of the items -/
theorem all_ints : ∀ {ds : List D} {vs : List V} {us : List Value}, RepL G L ds vs → Vals vs us → ds.all isInt = true → ∃ ns, PyProof.Rows.IntsAre us ns
  | [], vs, us, r, rv, _ => by
    simp only [RepL] at r; subst r; cases rv
    exact ⟨[], .nil⟩
  | d :: ds, vs, us, r, rv, f => by
    simp only [RepL] at r
    obtain ⟨v, vr, rfl, r1, r2⟩ := r
    rw [List.all_cons, Bool.and_eq_true] at f
    cases rv with
    | cons ru rt =>
      obtain ⟨ns, h⟩ := all_ints r2 rt f.2
      cases d <;> first | (cases f.1; done) | skip
      simp only [Rep] at r1; subst r1
      obtain ⟨t, rfl⟩ := ru
      exact ⟨_, .cons _ t h⟩
theorem all_strs : ∀ {ds : List D} {vs : List V} {us : List Value}, RepL G L ds vs → Vals vs us → ds.all isStr = true → ∃ ns, PyProof.Rows.StrsAre us ns
  | [], vs, us, r, rv, _ => by
    simp only [RepL] at r; subst r; cases rv
    exact ⟨[], .nil⟩
  | d :: ds, vs, us, r, rv, f => by
    simp only [RepL] at r
    obtain ⟨v, vr, rfl, r1, r2⟩ := r
    rw [List.all_cons, Bool.and_eq_true] at f
    cases rv with
    | cons ru rt =>
      obtain ⟨ns, h⟩ := all_strs r2 rt f.2
      cases d <;> first | (cases f.1; done) | skip
      simp only [Rep] at r1; subst r1
      obtain ⟨t, rfl⟩ := ru
      exact ⟨_, .cons _ t h⟩
theorem ints_sortable {prog : Program} {w : World} {A : Around} {h0 : Heap} {a : Addr} {us : List Value} {ns : List Int} (hI : PyProof.Rows.IntsAre us ns) (two : 2 ≤ us.length) : SrtO.SortableO prog w A s a us (ltV h0) := by
  intro h' _
  refine ⟨PyProof.Rows.oneType', fun Q E q => ?_, fun p q hp hq => ?_⟩
  · match us, hI, two with
    | v1 :: v2 :: rest, hI, _ =>
      rw [PyProof.Rows.keyKind_ints hI]
      exact wpAny_pure q
  · obtain ⟨i, t, e1⟩ := SrtO.ints_mem hI _ hp
    obtain ⟨j, t2, e2⟩ := SrtO.ints_mem hI _ hq
    show wpAny (model prog w) A (PyProof.Rows.keyLt' PyProof.Rows.oneType' p.1 q.1) (fun r s' => s' = { s with heap := h' } ∧ r = ltV h0 p.1 q.1) (fun _ _ => False) { s with heap := h' }
    rw [e1, e2, PyProof.Rows.keyLt'_oneType]
    refine PyProof.Rows.oneLt_int ⟨rfl, ?_⟩
    simp only [ltV, keysV, ltKs, Sum.inl.injEq, ltK]
    by_cases e : i = j
    · subst e; simp
    · rw [if_neg e]
theorem strs_sortable {prog : Program} {w : World} {A : Around} {h0 : Heap} {a : Addr} {us : List Value} {ns : List Str} (hI : PyProof.Rows.StrsAre us ns) (two : 2 ≤ us.length) : SrtO.SortableO prog w A s a us (ltV h0) := by
  intro h' _
  refine ⟨PyProof.Rows.oneType', fun Q E q => ?_, fun p q hp hq => ?_⟩
  · match us, hI, two with
    | v1 :: v2 :: rest, hI, _ =>
      rw [PyProof.Rows.keyKind_strs hI]
      exact wpAny_pure q
  · obtain ⟨i, t, e1⟩ := PyProof.Rows.StrsAre.all hI _ hp
    obtain ⟨j, t2, e2⟩ := PyProof.Rows.StrsAre.all hI _ hq
    show wpAny (model prog w) A (PyProof.Rows.keyLt' PyProof.Rows.oneType' p.1 q.1) (fun r s' => s' = { s with heap := h' } ∧ r = ltV h0 p.1 q.1) (fun _ _ => False) { s with heap := h' }
    rw [e1, e2, PyProof.Rows.keyLt'_oneType]
    refine PyProof.Rows.oneLt_str ⟨rfl, ?_⟩
    simp only [ltV, keysV, ltKs, Sum.inr.injEq, ltK, ltS]
    by_cases e : i = j
    · subst e; simp [List.lt_irrefl]
    · rw [if_neg e]
theorem member_of : ∀ {ds : List D} {vs : List V} {us : List Value} {u : Value}, RepL G L ds vs → Vals vs us → u ∈ us → ∃ d v, d ∈ ds ∧ Rep G L d v ∧ RelV v u
  | [], vs, us, u, r, rv, h => by
    simp only [RepL] at r; subst r; cases rv; cases h
  | d :: ds, vs, us, u, r, rv, h => by
    simp only [RepL] at r
    obtain ⟨v, vr, rfl, r1, r2⟩ := r
    cases rv with
    | cons ru rt =>
      rcases List.mem_cons.mp h with e | h
      · subst e
        exact ⟨d, v, List.mem_cons_self, r1, ru⟩
      · obtain ⟨d', v', h1, h2⟩ := member_of r2 rt h
        exact ⟨d', v', List.mem_cons_of_mem _ h1, h2⟩
/-- the first items of rows -/
theorem firsts_at (hK : X.K = G.K) (k : LOk G L Z H) (I : Inv X pins σ H s) {h' : Heap} (stay : ∀ b o, s.heap.get? b = some o → o.cls = .type "tuple" → h'.get? b = some o) {b : Bool} {sig : List Bool} : ∀ {ds : List D} {vs : List V} {us : List Value}, RepL G L ds vs → Vals vs us → ds.all (isRow 0 (b :: sig)) = true →
    ∃ fs, PySem.W.KatTups h' us fs ∧ fs.length = us.length ∧ ∀ f ∈ fs, ∀ (M : Model), PySem.W.Looks M h' (typeOf f) (.type (if b then "str" else "int"))
  | [], vs, us, r, rv, _ => by
    simp only [RepL] at r; subst r; cases rv
    exact ⟨[], trivial, rfl, nofun⟩
  | d :: ds, vs, us, r, rv, f => by
    simp only [RepL] at r
    obtain ⟨v, vr, rfl, r1, r2⟩ := r
    rw [List.all_cons, Bool.and_eq_true] at f
    cases rv with
    | cons ru rt =>
      obtain ⟨fs, g1, g2, g3⟩ := firsts_at hK k I stay r2 rt f.2
      obtain ⟨a, o, its, m, xs, ws, rfl, ho, hc, hd, rl, rits, fk, fsig, _⟩ := keys_of hK k I r1 ru f.1
      cases xs with
      | nil => cases fsig
      | cons x xs =>
        simp only [RepL] at rl
        obtain ⟨y, yr, rfl, x1, x2⟩ := rl
        cases rits with
        | cons ry rys =>
          rename_i fv its'
          rw [List.map_cons, List.cons.injEq] at fsig
          rw [List.all_cons, Bool.and_eq_true] at fk
          have look : ∀ (M : Model), PySem.W.Looks M h' (typeOf fv) (.type (if b then "str" else "int")) := fun M => by
            have e1 := fsig.1
            subst e1
            cases x <;> first | (cases fk.1; done) | skip
            · simp only [Rep] at x1; subst x1
              obtain ⟨t, rfl⟩ := ry
              exact PySem.W.Looks.now
            · simp only [Rep] at x1; subst x1
              obtain ⟨t, rfl⟩ := ry
              exact PySem.W.Looks.now
          refine ⟨fv :: fs, ⟨⟨a, o, _, m, rfl, stay a o ho hc, hc, hd, rfl⟩, g1⟩, by simp [g2], fun z hz => ?_⟩
          rcases List.mem_cons.mp hz with e | hz
          · subst e; exact look
          · exact g3 z hz
theorem rows_sortable {prog : Program} {w : World} {A : Around} {st : Shared} {a : Addr} {b : Bool} {sig : List Bool} {ds : List D} {vs : List V} {us : List Value} (hK : X.K = G.K) (k : LOk G L Z H) (I : Inv X pins σ H s)
    (stay : ∀ c o, s.heap.get? c = some o → c ≠ a ∧ st.heap.get? c = some o) (r : RepL G L ds vs) (rv : Vals vs us) (f : ds.all (isRow 0 (b :: sig)) = true) (two : 2 ≤ us.length) : SrtO.SortableO prog w A st a us (ltV s.heap) := by
  intro h' keep
  have stay' : ∀ c o, s.heap.get? c = some o → o.cls = .type "tuple" → h'.get? c = some o := fun c o e _ => keep c o (stay c o e).1 (stay c o e).2
  obtain ⟨fs, g1, g2, g3⟩ := firsts_at hK k I stay' r rv f
  refine ⟨PyProof.Rows.tuples' true, fun Q E q => ?_, fun p q hp hq => ?_⟩
  · refine PySem.W.kat_kind (T := .type (if b then "str" else "int")) g1 (by omega) (fun v hv => g3 v hv _) (by cases b <;> rfl) ?_
    have e : (Value.type (if b then "str" else "int") != Value.type "tuple") = true := by cases b <;> first | rfl | decide | decide +kernel
    rw [e]
    exact q
  · obtain ⟨d1, v1, m1, r1, ru1⟩ := member_of r rv hp
    obtain ⟨d2, v2, m2, r2, ru2⟩ := member_of r rv hq
    obtain ⟨a1, o1, i1, n1, x1, w1, e1, ho1, hc1, hd1, rl1, rv1, fk1, fs1, _⟩ := keys_of hK k I r1 ru1 (List.all_eq_true.mp f d1 m1)
    obtain ⟨a2, o2, i2, n2, x2, w2, e2, ho2, hc2, hd2, rl2, rv2, fk2, fs2, _⟩ := keys_of hK k I r2 ru2 (List.all_eq_true.mp f d2 m2)
    show wpAny (model prog w) A (PyProof.Rows.keyLt' (PyProof.Rows.tuples' true) p.1 q.1) (fun r s' => s' = { st with heap := h' } ∧ r = ltV s.heap p.1 q.1) (fun _ _ => False) { st with heap := h' }
    rw [e1, e2]
    obtain ⟨q1, l1⟩ := keysOf_rep rl1 rv1 fk1
    obtain ⟨q2, l2⟩ := keysOf_rep rl2 rv2 fk2
    have l3 : x1.length = x2.length := by
      have := congrArg List.length (fs1.trans fs2.symm)
      simpa using this
    refine PySem.W.kat_lt (stay' _ _ ho1 hc1) hd1 (stay' _ _ ho2 hc2) hd2 ?_
    have e3 : decide (i1.toArray.size < i2.toArray.size) = decide (0 < 0) := by
      rw [List.size_toArray, List.size_toArray, l1, l2, l3]
      simp
    rw [e3]
    refine kat_rows rl1 rl2 rv1 rv2 fk1 fk2 (fs1.trans fs2.symm) ⟨rfl, ?_⟩
    show _ = ltKs (keysV s.heap (.ref a1)) (keysV s.heap (.ref a2))
    rw [keysV_ref ho1 hd1, keysV_ref ho2 hd2, q1, q2]
theorem blt_sorted (F : Fit G T C n X W) : CallR X (.builtin "sorted") (rBlt G .sorted) := by
  intro pins s σ H vs us Q I rv h
  obtain ⟨L, Z, d, r, v, rfl, k, nd, e0, f⟩ := blt_one h
  clear h
  have e : sortedD d = some r := e0
  clear e0
  obtain ⟨u, rfl, ru⟩ := rv.one
  have go : ∀ {ds : List D} {xs : List V} {its : List Value} {p : Addr}, (sortKeys ds).map D.lst = some r → RepL G L ds xs → Vals xs its → xs.length ≤ sizeLine → (s.heap.IsList p its.toArray ∨ s.heap.IsTuple p its.toArray) →
      wpAny (model X.prog X.w) X.A (call (.builtin "sorted") [.ref p]) (EP X pins σ Q) X.xe s := by
    intro ds xs its p e rl rits hz src
    rw [Option.map_eq_some_iff] at e
    obtain ⟨out, e1, rfl⟩ := e
    obtain ⟨ok, rfl⟩ := ite_some e1
    have hlen := rits.length
    have fin : (∀ (d : D) (v : V) (u : Value), d ∈ ds → Rep G L d v → RelV v u → keysV s.heap u = keysD d) →
        (2 ≤ its.length → ∀ (h1 : Heap) (a : Addr), (∀ b o, s.heap.get? b = some o → b ≠ a ∧ h1.get? b = some o) → SrtO.SortableO X.prog X.w X.A.in1.in1 { s with heap := h1 } a its (ltV s.heap)) →
        wpAny (model X.prog X.w) X.A (call (.builtin "sorted") [.ref p]) (EP X pins σ Q) X.xe s := fun hk cmp =>
      sorted_of (swo_keys (keysV s.heap)) src (by omega) (fun two h1 a _ st => cmp two h1 a st) fun ov o1 o2 => by
        obtain ⟨ws, w1, w2, w3⟩ := sorted_rep rl rits hk o1 o2
        obtain ⟨ep, at_⟩ := PyProof.Rows.sortedAll_at s.heap its ov.toArray
        have J : Inv X pins σ (upd H (s.heap.objs.size + 1) (.lst ws)) { s with heap := PyProof.Rows.sortedAll s.heap its ov.toArray } :=
          I.laid (t' := s.toks) (fun _ _ => PyProof.Rows.sortedAll_old) (Nat.le_succ _) ⟨by omega, ov, ep, w1, at_⟩
        exact ⟨.ref _, _, J, rfl, f.lst k w2 _ (I.hok.fresh (Nat.le_succ _))⟩
    unfold sortOk at ok
    rw [Bool.or_eq_true, Bool.or_eq_true] at ok
    rcases ok with (ok | ok) | ok
    · refine fin (fun d v u hd rd ru => ?_) fun two h1 a st => ?_
      · have := List.all_eq_true.mp ok d hd
        cases d <;> first | (cases this; done) | skip
        simp only [Rep] at rd; subst rd
        obtain ⟨t, rfl⟩ := ru
        rfl
      · obtain ⟨ns, hI⟩ := all_ints rl rits ok
        exact ints_sortable hI two
    · refine fin (fun d v u hd rd ru => ?_) fun two h1 a st => ?_
      · have := List.all_eq_true.mp ok d hd
        cases d <;> first | (cases this; done) | skip
        simp only [Rep] at rd; subst rd
        obtain ⟨t, rfl⟩ := ru
        rfl
      · obtain ⟨ns, hI⟩ := all_strs rl rits ok
        exact strs_sortable hI two
    · rw [Bool.and_eq_true] at ok
      obtain ⟨ne, ok⟩ := ok
      refine fin (fun d v u hd rd ru => ?_) fun two h1 a st => ?_
      · obtain ⟨a1, o1, i1, n1, x1, w1, rfl, ho1, hc1, hd1, rl1, rv1, fk1, _, ek⟩ := keys_of F.hK k I rd ru (List.all_eq_true.mp ok d hd)
        rw [keysV_ref ho1 hd1, ek, (keysOf_rep rl1 rv1 fk1).1]
      · cases es : sigOf ds with
        | nil => rw [es] at ne; cases ne
        | cons b sig =>
          rw [es] at ok
          exact rows_sortable F.hK k I st rl rits ok two
  unfold sortedD at e
  split at e
  · obtain ⟨p, xs, rfl, h1, rl⟩ := nd
    obtain rfl : u = Value.ref p := ru
    obtain ⟨its, rits, isl, hz⟩ := I.list (a := p) (xs := xs) (.inl h1)
    exact go e rl rits hz (.inl isl.isList)
  · simp only [Now, Rep] at nd
    obtain ⟨p, xs, rfl, sq, rl⟩ := nd
    obtain rfl : u = Value.ref p := ru
    obtain ⟨its, rits, ist, hz⟩ := I.tuple (a := p) (xs := xs) (by rw [F.hK]; exact sqT_mono (k.sub p) sq.sq)
    exact go e rl rits hz (.inr ist)
  · cases e
end
end Py
end
section
set_option Elab.async false
set_option linter.all false
set_option maxRecDepth 100000
set_option maxHeartbeats 4000000
/-! PyKb: x[::-1], a lasting dict, three names at once. -/
namespace Py
open PySem PySem.Spec L2
section
variable {prog : Program} {w : World} {A : Around} {E : Value → Shared → Prop} {s : Shared}
theorem fm_congr {α β : Type} {f g : α → Option β} : ∀ {l : List α}, (∀ x ∈ l, f x = g x) → l.filterMap f = l.filterMap g
  | [], _ => rfl
  | x :: l, h => by
    rw [List.filterMap_cons, List.filterMap_cons, h x List.mem_cons_self, fm_congr fun y hy => h y (List.mem_cons_of_mem _ hy)]
theorem back_adjust (n : Nat) : Builtin.Slice.sliceAdjust none none (-1) (n : Int) = ((n : Int) - 1, -1) := by
  unfold Builtin.Slice.sliceAdjust
  simp
theorem back_places (n : Nat) : Builtin.Slice.slicePlaces ((n : Int) - 1) (-1) (-1) = n := by
  unfold Builtin.Slice.slicePlaces
  simp
  try omega
theorem back_pick (us : List Value) : ((List.range us.length).filterMap fun (k : Nat) => us.toArray[((us.length : Int) - 1 + (k : Int) * -1).toNat]?).toArray = us.reverse.toArray := by
  have e1 : ((List.range us.length).filterMap fun (k : Nat) => us.toArray[((us.length : Int) - 1 + (k : Int) * -1).toNat]?) = us.reverse := by
    have h : ∀ k ∈ List.range us.length, us.toArray[((us.length : Int) - 1 + (k : Int) * -1).toNat]? = us.reverse[k]? := fun k hk => by
      have hk := List.mem_range.mp hk
      have e : ((us.length : Int) - 1 + (k : Int) * -1).toNat = us.length - 1 - k := by omega
      rw [e, List.getElem?_toArray, List.getElem?_reverse hk]
    rw [fm_congr h]
    refine List.ext_getElem? fun i => ?_
    have : (List.range us.length).filterMap (fun k => us.reverse[k]?) = us.reverse := by
      have gen : ∀ (l : List Value), (List.range l.length).filterMap (fun k => l[k]?) = l := fun l => by
        induction l with
        | nil => rfl
        | cons x l ih =>
          rw [List.length_cons, List.range_succ_eq_map, List.filterMap_cons]
          simp only [List.getElem?_cons_zero, List.filterMap_map]
          congr 1
      have := gen us.reverse
      rw [List.length_reverse] at this
      exact this
    rw [this]
  rw [e1]
/-- t[::-1] -/
theorem getItem_back {t sl : Addr} {us : List Value} {u : Tok} {Q : Value → Shared → Prop} (ht : s.heap.IsTuple t us.toArray) (hs : s.heap.IsSliceOf sl .none .none (.int (-1) u)) (short : us.length ≤ sizeLine)
    (q : Q (.ref s.heap.objs.size) { s with heap := s.heap.push (tupObj us.reverse) }) : wpAny (model prog w) A (getItem (.ref t) (.ref sl)) Q E s := by
  obtain ⟨ob, hob, hcl, hdt⟩ := id hs
  have isSl : s.TypeIs (.ref sl) "slice" := ⟨ob, hob, hcl⟩
  have isT : PyProof.Rows.IsTup s.heap t us.toArray := ht
  unfold getItem
  try with_reducible refine wpAny_holding ?_
  first | refine wpAny_bind (wpAny_pure ?_) | skip
  refine wpAny_bind (wpAny_sequenceKey isT.typeIs (by decide) ?_)
  refine wpAny_bind (wpAny_callSpecial?_slot (name := Str.ofString "__getitem__") isT.typeIs PyProof.Rows.slot_tuple_getitem
    (wpAny_call_entry PyProof.Rows.slot_tuple_getitem isT.typeIs PyProof.Rows.entry_tuple_getitem ?_ (PyProof.Rows.args_tuple_getitem _ _)))
  show wpAny _ _ (Builtin.Tuple.tupleItemsOf (.ref t) >>= _) _ _ s
  refine wpAny_bind (PyProof.Rows.tupleItemsOf_ isT (wpAny_bind (wpAny_typeOf isSl ?_)))
  rw [if_pos (by decide)]
  refine wpAny_bind ?_
  unfold Builtin.Slice.sliceApplied Builtin.Slice.sliceFields
  refine wpAny_bind (wpAny_bind (wpAny_field hob hdt (x := .none) rfl (wpAny_bind (wpAny_field hob hdt (x := .none) rfl (wpAny_bind (wpAny_field hob hdt (x := .int (-1) u) rfl (wpAny_pure ?_)))))))
  refine wpAny_bind (HT.slicePart_ (.int (-1) u) ?_)
  show wpAny _ _ (if ((-1 : Int) == 0) = true then _ else _) _ _ s
  rw [if_neg (by decide)]
  refine wpAny_bind (HT.slicePart_ .none (wpAny_bind (HT.slicePart_ .none (wpAny_bind (wpAny_pure ?_)))))
  show wpAny _ _ (match Builtin.Slice.sliceAdjust none none (-1) ((us.toArray.size : Nat) : Int) with | (lo, hi) => pure (lo, (-1 : Int), Builtin.Slice.slicePlaces lo hi (-1))) _ _ s
  rw [List.size_toArray, back_adjust]
  show wpAny _ _ (pure ((us.length : Int) - 1, (-1 : Int), Builtin.Slice.slicePlaces ((us.length : Int) - 1) (-1) (-1))) _ _ s
  rw [back_places]
  refine wpAny_pure ?_
  have no : ¬ (((us.length : Int) - 1 == 0 && (-1 : Int) == 1 && us.length == us.length) = true) := by simp
  show wpAny _ _ (if ((us.length : Int) - 1 == 0 && (-1 : Int) == 1 && us.length == us.toArray.size) = true then _ else _) _ _ s
  rw [List.size_toArray, if_neg no, back_pick]
  have fit : sizeOk (.seq us.reverse.toArray) := by
    show us.reverse.toArray.size ≤ sizeLine
    rw [List.size_toArray, List.length_reverse]; exact short
  first
    | exact wpAny_bind (m := Builtin.Tuple.tupleExact _) (wpAny_newObj_type (wpAny_pure ⟨_, rfl, wpAny_pure q⟩) fit)
    | exact wpAny_bind (m := Builtin.Tuple.tupleExact _) (wpAny_newObj_type (wpAny_bind (wpAny_pure (wpAny_pure ⟨_, rfl, wpAny_pure q⟩))) fit)
    | exact wpAny_bind (wpAny_bind (m := Builtin.Tuple.tupleExact _) (wpAny_newObj_type (wpAny_pure (wpAny_pure ⟨_, rfl, wpAny_pure q⟩)) fit))
end
section
variable {G : Pg} {T : Tab} {C : Orc} {n : Nat} {X : Cx} {W : WX} {E : XK} {e a b : Expr} {es : List Expr} {pos p p1 p2 p3 : Pos}
/-! ### x[::-1] -/
def tBack (G : Pg) (te : TE) : TE := fun σ H Q => te σ H fun x H1 => ∃ L Z d r, LOk G L Z H1 ∧ Now G L H1 d x ∧ revD d = some r ∧ isSeq d = true ∧ Fin G L Z H1 r Q
theorem pe_back {te : TE} {k : Nat} (F : Fit G T C n X W) (he : PE X e te) : PE X (.Subscript e (.Slice none none (some (.UnaryOp .USub (.Constant (.int 1) k p1) p2)) p3) pos) (tBack G te) := by
  refine ⟨fun pins s σ H Q I h => PyProof.Rows.Subscript_ (thn (he.run pins s σ H _ I h) ?_)⟩
  rintro v s1 ⟨x, H1, I1, rx, L, Z, d, r, kL, nd, er, sq, f⟩
  have step : PO X (some (.UnaryOp .USub (.Constant (.int 1) k p1) p2)) (tPart (tUn (rU fun i => .int (-i)) (tC (.int 1)))) := po_some (pe_un un_neg pe_int)
  refine wpAny_Slice (thn (po_none.run pins s1 σ H1 (fun o H2 => o = none ∧ H2 = H1) I1 ⟨rfl, rfl⟩) ?_)
  rintro lo1 s2 ⟨l, H2, I2, pl, rfl, rfl⟩
  refine thn (po_none.run pins s2 σ H2 (fun o H3 => o = none ∧ H3 = H2) I2 ⟨rfl, rfl⟩) ?_
  rintro hi1 s3 ⟨u, H3, I3, pu, rfl, rfl⟩
  refine thn (step.run pins s3 σ H3 (fun o H4 => o = some (-1) ∧ H4 = H3) I3 ⟨1, rfl, -1, rfl, rfl, rfl⟩) ?_
  rintro st1 s4 ⟨o, H4, I4, ps, rfl, rfl⟩
  have Inv5 : Inv X pins σ H4 { s4 with heap := s4.heap.push { cls := .type "slice", data := .fields #[lo1, hi1, st1] } } := I4.kept (t' := s4.toks) fun b ob q => Heap.get?_push_of_some _ q
  cases pl
  cases pu
  cases ps
  rename_i tk
  cases d <;> first | (cases sq; done) | skip
  · simp only [revD, Option.some.injEq] at er
    subst er
    simp only [Now, Rep] at nd
    obtain ⟨q, xs, rfl, sn, rl⟩ := nd
    obtain rfl : v = Value.ref q := rx
    obtain ⟨its, rits, ist, hz⟩ := Inv5.tuple (a := q) (xs := xs) (by rw [F.hK]; exact sqT_mono (kL.sub q) sn.sq)
    show wpAny (model X.prog X.w) X.A (PyProof.Rows.subscriptTail e (.Slice none none (some (.UnaryOp .USub (.Constant (.int 1) k p1) p2)) p3) (.ref q) (.ref s4.heap.objs.size)) (EP X pins σ Q) X.xe { s4 with heap := s4.heap.push { cls := .type "slice", data := .fields #[.none, .none, .int (-1) tk] } }
    refine PyProof.Rows.tail_any (ops := [.ref q, .ref s4.heap.objs.size]) ist.typeIs PyProof.Rows.slot_tuple_getitem.lookup ?_ (by with_unfolding_all rfl)
    refine getItem_back ist (Heap.IsSliceOf.new _ .none .none (.int (-1) tk)) (by have := rits.length; omega) ?_
    have J := laidTup (t' := s4.toks) Inv5 rits.reverse (by rw [List.length_reverse]; exact hz)
    exact ⟨.ref _, _, J, rfl, f.tup kL rl.reverse _ _ rfl (Inv5.hok.fresh (Nat.le_refl _))⟩
  · simp only [revD, Option.some.injEq] at er
    subst er
    obtain ⟨q, xs, rfl, h1, rl⟩ := nd
    obtain rfl : v = Value.ref q := rx
    obtain ⟨its, rits, isl, hz⟩ := Inv5.list (a := q) (xs := xs) (.inl h1)
    show wpAny (model X.prog X.w) X.A (PyProof.Rows.subscriptTail e (.Slice none none (some (.UnaryOp .USub (.Constant (.int 1) k p1) p2)) p3) (.ref q) (.ref s4.heap.objs.size)) (EP X pins σ Q) X.xe { s4 with heap := s4.heap.push { cls := .type "slice", data := .fields #[.none, .none, .int (-1) tk] } }
    refine PyProof.Rows.tail_any (ops := [.ref q, .ref s4.heap.objs.size]) isl.isList.typeIs PySem.slot_list_getitem.lookup ?_ (by with_unfolding_all rfl)
    have hsz := rits.length
    refine wpAny_getItem_list_slice isl.isList (Heap.IsSliceOf.new _ .none .none (.int (-1) tk)) .none .none (.int (-1) tk) (by decide) ?_ (by rw [List.size_toArray]; omega)
    rw [PySem.W.krv_pick]
    have J : Inv X pins σ (upd H4 (s4.heap.push { cls := .type "slice", data := .fields #[.none, .none, .int (-1) tk] }).objs.size (.lst xs.reverse)) { s4 with heap := (s4.heap.push { cls := .type "slice", data := .fields #[.none, .none, .int (-1) tk] }).push { cls := .type "list", data := .seq its.reverse.toArray } } :=
      Inv5.laid (t' := s4.toks) (fun b ob q => Heap.get?_push_of_some _ q) (Nat.le_refl _) ⟨by rw [List.length_reverse]; exact hz, _, 0, rits.reverse, Heap.get?_push_size _ rfl⟩
    exact ⟨.ref _, _, J, rfl, f.lst kL rl.reverse _ (Inv5.hok.fresh (Nat.le_refl _))⟩
theorem s_back {c : O} {k : Nat} (F : Fit G T C n X W) (h : SO G C W X e c) : SE G C W X (.Subscript e (.Slice none none (some (.UnaryOp .USub (.Constant (.int 1) k p1) p2)) p3) pos) (.rev c) :=
  (pe_back F h).imp fun σ H Q ⟨L, η, Z, en, kL, q⟩ => by
    simp only [ev] at q
    refine rdO_of en kL q fun d Z1 L1 H1 v st r q => ?_
    obtain ⟨x, ex, q⟩ := q.opt
    obtain ⟨y, ey, q⟩ := q.opt
    unfold revQ at ey
    obtain ⟨sq, ey⟩ := opt_ite ey
    exact ⟨L1, Z1, x, y, st.ok, see_now st.ok r ex, ey, sq, fun L' H' v' s' r' => q L' H' s' v' r'⟩
end
end Py
end
section
set_option Elab.async false
set_option linter.all false
set_option maxRecDepth 100000
set_option maxHeartbeats 4000000
/-! PyKc: a lasting dict; three names at once. -/
namespace Py
open PySem PySem.Spec L2
section
variable {G : Pg} {L L0 : Lk} {Z Z0 : Sto} {H H0 : Hp} {p : Addr} {o : HO}
/-- an object that was laid meanwhile becomes a lasting cell -/
theorem Step.adoptS {c : Cell} (s : Step G L0 H0 L Z H) (h0 : H0 p = none) (hn : ¬ Own L p) (ho : CellOk G { L with ρ := L.ρ ++ [p] } (L2.upd H p o) c p) :
    Step G L0 H0 { L with ρ := L.ρ ++ [p] } { Z with S := Z.S ++ [c] } (L2.upd H p o) := by
  have k := s.ok
  have l : Lle L { L with ρ := L.ρ ++ [p] } := ⟨fun _ _ h => h, ⟨[p], rfl⟩, ⟨[], by simp⟩⟩
  have nF : ∀ {a : Addr} {u : HO}, L.F a = some u → a ≠ p := fun h e => by subst e; exact hn (.inl (some_ne h))
  have nρ : ∀ {a : Addr}, a ∈ L.ρ → a ≠ p := fun h e => by subst e; exact hn (.inr (.inl h))
  have nτ : ∀ {a : Addr}, a ∈ L.τ → a ≠ p := fun h e => by subst e; exact hn (.inr (.inr h))
  have cell : ∀ c a, a ≠ p → CellOk G L H c a → CellOk G { L with ρ := L.ρ ++ [p] } (L2.upd H p o) c a := fun c a e h => h.mono l (fun n => n) (fun n => n) (upd_ne e)
  refine ⟨⟨fun a u h => by rw [upd_ne (nF h)]; exact k.subx a u h, by simp [k.lenS], k.lenT, ?_, fun i c' a h1 h2 => ?_, fun i c' a h1 h2 => cell c' a (nτ (mem_of_get h2)) (k.cT i c' a h1 h2)⟩, s.le.trans l, fun a u h n => ?_, fun a h => ?_, fun a h => ?_⟩
  · show ((L.ρ ++ [p]) ++ L.τ).Nodup
    have nd := List.nodup_append.mp k.nd
    refine List.nodup_append.mpr ⟨List.nodup_append.mpr ⟨nd.1, by simp, fun a ha b hb => ?_⟩, nd.2.1, fun a ha b hb => ?_⟩
    · have : b = p := by simpa using hb
      rw [this]; exact nρ ha
    · rcases List.mem_append.mp ha with q | q
      · exact nd.2.2 a q b hb
      · have : a = p := by simpa using q
        rw [this]; exact (nτ hb).symm
  · have h1 : (Z.S ++ [c])[i]? = some c' := h1
    have h2 : (L.ρ ++ [p])[i]? = some a := h2
    by_cases hi : i < Z.S.length
    · rw [List.getElem?_append_left hi] at h1
      rw [List.getElem?_append_left (by rw [k.lenS]; exact hi)] at h2
      exact cell c' a (nρ (mem_of_get h2)) (k.cS i c' a h1 h2)
    · rw [List.getElem?_append_right (by omega)] at h1
      rw [List.getElem?_append_right (by rw [k.lenS]; omega), k.lenS] at h2
      have hz : i - Z.S.length = 0 := by
        have := (List.getElem?_eq_some_iff.mp h1).1
        simp at this; omega
      rw [hz] at h1 h2
      simp at h1 h2
      subst h1; subst h2
      exact ho
  · obtain ⟨g1, g2⟩ := s.out a u h n
    have e : a ≠ p := fun z => by subst z; rw [h0] at h; cases h
    refine ⟨by rw [upd_ne e]; exact g1, fun w => g2 ?_⟩
    rcases w with w | w | w
    · exact .inl w
    · rcases List.mem_append.mp w with w | w
      · exact .inr (.inl w)
      · exact absurd (by simpa using w) e
    · exact .inr (.inr w)
  · by_cases e : a = p
    · subst e; rw [upd_same]; exact nofun
    · rw [upd_ne e]; exact s.keep a h
  · rcases List.mem_append.mp h with q | q
    · exact s.new a q
    · right
      have : a = p := by simpa using q
      rw [this]; exact h0
end
section
variable {G : Pg} {T : Tab} {C : Orc} {n : Nat} {X : Cx} {W : WX} {E : XK} {e a b : Expr} {es : List Expr} {pos p p1 p2 p3 : Pos}
/-- each of them is read -/
inductive SEach (G : Pg) (C : Orc) (W : WX) (X : Cx) : List Expr → Es → Prop
  | nil : SEach G C W X [] .nil
  | cons {a : Expr} {c : Py.E} {r : List Expr} {cs : Es} (h : SE G C W X a c) (t : SEach G C W X r cs) : SEach G C W X (a :: r) (.cons c cs)
def keysC : List (Option Expr) → Option (List Key)
  | [] => some []
  | some (.Constant (.str x) _ _) :: r => (keysC r).map (.inr x :: ·)
  | _ => none
def trsOf (G : Pg) (C : Orc) (W : WX) : List Key → Es → List (TE × TE)
  | k :: ks, .cons c cs => (tC (kV k), rdE G C W c) :: trsOf G C W ks cs
  | _, _ => []
theorem pps_of : ∀ {ks : List (Option Expr)} {kk : List Key} {vs : List Expr} {cs : Es}, keysC ks = some kk → ks.length = vs.length → SEach G C W X vs cs → PPs X pos ks vs (trsOf G C W kk cs) ∧ ks.all (·.isSome) = true ∧ kk.length = ks.length
  | [], kk, vs, cs, h, hl, r => by
    cases h
    cases r with
    | nil => exact ⟨pps_nil, rfl, rfl⟩
    | cons h t => cases hl
  | some e :: ks, kk, vs, cs, h, hl, r => by
    unfold keysC at h
    split at h
    · rename_i h1; cases h1
    · rename_i x i q rr h1
      cases h1
      rw [Option.map_eq_some_iff] at h
      obtain ⟨kr, h2, rfl⟩ := h
      cases r with
      | nil => cases hl
      | cons g t =>
        obtain ⟨g1, g2, g3⟩ := pps_of h2 (by simpa using hl) t
        exact ⟨pps_cons pe_str g g1, by simpa using g2, by simp [g3]⟩
    · cases h
  | none :: ks, kk, vs, cs, h, hl, r => by cases h
/-- the values, one after the other -/
theorem pairs_rd {L0 : Lk} {H0 : Hp} {σ : L2.St} {q : Addr} {α : Type} {Q0 : α → Lk → Hp → Prop} : ∀ {kk : List Key} {cs : Es} {L : Lk} {η : Vars} {Z : Sto} {H : Hp} {R : List (V × V) → Hp → Prop} {f : List D × Sto → Res (α × Sto)}, kk.length = cs.len → EnvOk G L η σ → LOk G L Z H → Step G L0 H0 L Z H → H q = some (.dK []) → ¬ Own L q →
    Pst G L0 H0 σ W (evs C cs η Z >>= f) Q0 →
    (∀ ds Z' L' H' vs, Step G L0 H0 L' Z' H' → Lle L L' → H' q = some (.dK []) → ¬ Own L' q → RepL G L' ds vs → Pst G L0 H0 σ W (f (ds, Z')) Q0 → R ((kk.zip vs).map fun z => (kV z.1, z.2)) H') → tPairs (trsOf G C W kk cs) σ H R
  | kk, .nil, L, η, Z, H, R, f, hl, en, k, st, hq, no, p, fin => by
    have e0 : kk = [] := List.eq_nil_of_length_eq_zero hl
    subst e0
    simp only [evs, Res.ok_bind] at p
    exact fin [] Z L H [] st (.refl L) hq no RepL.nil p
  | [], .cons c cs, L, η, Z, H, R, f, hl, en, k, st, hq, no, p, fin => by cases hl
  | κ :: kk, .cons c cs, L, η, Z, H, R, f, hl, en, k, st, hq, no, p, fin => by
    have p' := p
    simp only [evs, Res.assoc, Res.ok_bind] at p'
    show tC (kV κ) σ H _
    refine ⟨L, η, Z, en, k, (Pst.step p' st).bind.imp fun d Z1 L1 H1 em s1 _ v r => ?_⟩
    obtain ⟨hq1, no1⟩ := s1.out q _ hq no
    have p1 : Pst G L0 H0 σ W (evs C cs η Z1 >>= fun z => f (d :: z.1, z.2)) Q0 := by
      have := p'
      rw [em] at this
      exact this
    exact pairs_rd (f := fun z => f (d :: z.1, z.2)) (by simpa [Es.len] using hl) (en.mono s1.le) s1.ok (st.trans s1) hq1 no1 p1 fun ds Z' L' H' vs s2 le2 hq2 no2 rl p2 =>
      fin (d :: ds) Z' L' H' (v :: vs) s2 (s1.le.trans le2) hq2 no2 (RepL.cons (Rep.mono le2 _ _ r) rl) p2
theorem zip_rep {L : Lk} : ∀ {kk : List Key} {ds : List D} {vs : List V}, RepL G L ds vs → RepK G L (kk.zip ds) (kk.zip vs)
  | [], ds, vs, _ => by simp [RepK]
  | κ :: kk, [], vs, h => by simp only [RepL] at h; subst h; simp [RepK]
  | κ :: kk, d :: ds, vs, h => by
    simp only [RepL] at h
    obtain ⟨v, r, rfl, h1, h2⟩ := h
    simp only [List.zip_cons_cons, RepK]
    exact ⟨v, kk.zip r, rfl, h1, zip_rep h2⟩
theorem s_newS {ks : List (Option Expr)} {kk : List Key} {vs : List Expr} {cs : Es} (F : Fit G T C n X W) (hk : keysC ks = some kk) (h0 : (!kk.isEmpty) = true) (hl : ks.length = vs.length) (h15 : ks.length ≤ 15) (h : SEach G C W X vs cs) : SE G C W X (.Dict ks vs pos) (.newS kk cs) := by
  obtain ⟨g1, g2, g3⟩ := pps_of (pos := pos) hk hl h
  have ne : ks ≠ [] := fun e => by
    subst e
    cases hk
    cases h0
  refine (pe_disp g1 g2 hl ne h15).imp fun σ H Q ⟨L, η, Z, en, k, q⟩ => ?_
  intro p hp
  simp only [ev] at q
  have no := k.fresh hp
  have s0 : Step G L H L Z (upd H p (.dK [])) := (Step.refl k).upd hp no
  have lenE : ∀ {vs : List Expr} {cs : Es}, SEach G C W X vs cs → cs.len = vs.length := fun h => by
    induction h with
    | nil => rfl
    | cons h t ih => simp [Es.len, ih]
  refine pairs_rd (L0 := L) (H0 := H) (by rw [g3, hl, lenE h]) en s0.ok s0 upd_same no q fun ds Z' L' H' ws st _ hq' no' rl q => ?_
  obtain ⟨⟨l1, l2⟩, q⟩ := q.ite
  refine ⟨hq', kk.zip ws, rfl, by rw [List.length_zip]; omega, ?_⟩
  have hF : L'.F p = none := Classical.byContradiction fun z => no' (.inl z)
  have lle : Lle L' { L' with ρ := L'.ρ ++ [p] } := ⟨fun _ _ h => h, ⟨[p], rfl⟩, ⟨[], by simp⟩⟩
  have s1 := st.adoptS (c := .dct (mergeD [] (kk.zip ds))) (o := .dK (mergeK [] (kk.zip ws))) hp no' ⟨hF, _, upd_same, RepK.mergeA (RepK.mono lle _ _ (zip_rep rl)) (by simp only [RepK])⟩
  refine q _ _ s1 _ ?_
  simp only [Rep]
  refine ⟨p, ?_, rfl⟩
  show (L'.ρ ++ [p])[Z'.S.length]? = some p
  rw [← st.ok.lenS, List.getElem?_append_right (Nat.le_refl _)]
  simp
end
end Py
end
section
set_option Elab.async false
set_option linter.all false
set_option maxRecDepth 100000
set_option maxHeartbeats 4000000
/-! PyKd: three names at once. -/
namespace Py
open PySem PySem.Spec L2
section
variable {G : Pg} {T : Tab} {C : Orc} {n : Nat} {X : Cx} {W : WX} {E : XK} {a b c : Expr} {pos : Pos}
theorem t_par3 {x y z : Str} {i j l : Nat} {ca cb cc : Py.E ⊕ Rhs} {px py pz pt : Pos} {kt k2 : Nat} {pt2 : Pos} (F : Fit G T C n X (wK E)) (hcal : T.cal = true) (hi : X.N[i]? = some x) (hj : X.N[j]? = some y) (hl : X.N[l]? = some z) (hij : i ≠ j) (hil : i ≠ l) (hjl : j ≠ l)
    (hx : X.env.scope.names.lookup x = some .local) (hy : X.env.scope.names.lookup y = some .local) (hz : X.env.scope.names.lookup z = some .local) (hna : noStar a = true) (hnb : noStar b = true) (hnc : noStar c = true)
    (hw : swappedStores [.Tuple [.Name x px, .Name y py, .Name z pz] kt pt] (.Tuple [a, b, c] k2 pt2) X.env = pure (some [x, y, z])) (ha : PE X a (rdX G C (wK E) ca)) (hb : PE X b (rdX G C (wK E) cb)) (hc : PE X c (rdX G C (wK E) cc)) :
    SS G C E X (.Assign [.Tuple [.Name x px, .Name y py, .Name z pz] kt pt] (.Tuple [a, b, c] k2 pt2) pos) (.par [(i, ca), (j, cb), (l, cc)]) :=
  (ps_par3 (F.calm hcal) F.nd hi hj hl hij hil hjl hx hy hz (pa_cons ha (pa_cons hb (pa_cons hc pa_nil (star_cons hnc)) (star_cons hnb)) (star_cons hna)) hw (by unfold swapsWithSole; rfl)).imp fun D σ H ⟨L, η, Z, en, k, q⟩ => by
    simp only [ex, evPar_cons, Res.assoc, Res.ok_bind] at q
    refine rdX_s en k q fun s1 Z1 L1 H1 v1 st1 r1 q => ?_
    refine rdX_s (en.mono st1.le) st1.ok q fun s2 Z2 L2 H2 v2 st2 r2 q => ?_
    refine rdX_s ((en.mono st1.le).mono st2.le) st2.ok q fun s3 Z3 L3 H3 v3 st3 r3 q => ?_
    simp only [evPar, Res.ok_bind, setAll] at q
    obtain ⟨η', e1, q⟩ := q.opt
    obtain ⟨h1, e1⟩ := opt_ite e1
    obtain ⟨h2, e1⟩ := opt_ite e1
    obtain ⟨h3, e1⟩ := opt_ite e1
    cases e1
    exact ⟨v1, v2, v3, rfl, q L3 H3 _ (.refl st3.ok) (((((en.mono st1.le).mono st2.le).mono st3.le).setS ((r1.mono st2.le).mono st3.le) h1).setS (r2.mono st3.le) h2 |>.setS r3 h3)⟩
end
end Py
end
section
set_option Elab.async false
set_option linter.all false
set_option maxRecDepth 100000
set_option maxHeartbeats 4000000
/-! PyKe: two names at once by way of a pair. -/
namespace Py
open PySem PySem.Spec L2
section
variable {G : Pg} {T : Tab} {C : Orc} {n : Nat} {X : Cx} {W : WX} {E : XK} {a b : Expr} {pos : Pos}
theorem t_pair {x y : Str} {i j : Nat} {ca cb : Py.E ⊕ Rhs} {px py pt : Pos} {kt k2 : Nat} {pt2 : Pos} (F : Fit G T C n X (wK E)) (hcal : T.cal = true) (hi : X.N[i]? = some x) (hj : X.N[j]? = some y)
    (hx : Loc X.env.scope x) (hy : Loc X.env.scope y) (hf : ∀ z, X.fn z = true) (hna : noStar a = true) (hnb : noStar b = true)
    (hw : swappedStores [.Tuple [.Name x px, .Name y py] kt pt] (.Tuple [a, b] k2 pt2) X.env = pure none) (ha : PE X a (rdX G C (wK E) ca)) (hb : PE X b (rdX G C (wK E) cb)) :
    SS G C E X (.Assign [.Tuple [.Name x px, .Name y py] kt pt] (.Tuple [a, b] k2 pt2) pos) (.par [(i, ca), (j, cb)]) :=
  (ps_asg (pe_tup (pa_cons ha (pa_cons hb pa_nil (star_cons hnb)) (star_cons hna))) (pg_tup (n := 2) (F.calm hcal) (pgs_cons (pg_name F.nd hi hx (.inl (hf x))) (pgs_cons (pg_name F.nd hj hy (.inl (hf y))) pgs_nil))) (by unfold swapsWithSole; rfl) hw).imp fun D σ H ⟨L, η, Z, en, k, q⟩ => by
    simp only [ex, evPar_cons, Res.assoc, Res.ok_bind] at q
    refine rdX_s en k q fun s1 Z1 L1 H1 v1 st1 r1 q => ?_
    refine rdX_s (en.mono st1.le) st1.ok q fun s2 Z2 LB HB v2 st2 r2 q => ?_
    simp only [evPar, Res.ok_bind, setAll] at q
    obtain ⟨η', e1, q⟩ := q.opt
    obtain ⟨h1, e1⟩ := opt_ite e1
    obtain ⟨h2, e1⟩ := opt_ite e1
    cases e1
    refine ⟨by rw [line_eq]; exact (by decide : 2 ≤ lineN), fun p hp => ⟨p, [v1, v2], rfl, .inl (.inl upd_same), rfl, v1, [v2], rfl, v2, [], rfl, rfl, ?_⟩⟩
    have s3 : Step G LB HB LB Z2 (L2.upd HB p (.tup [v1, v2])) := Step.upd (.refl st2.ok) hp (st2.ok.fresh hp)
    exact q LB _ _ s3 ((((en.mono st1.le).mono st2.le).setS (r1.mono st2.le) h1).setS r2 h2)
end
end Py
end
section
set_option Elab.async false
set_option linter.all false
set_option maxRecDepth 100000
set_option maxHeartbeats 4000000
/-! PyKf: the items of a dict, sorted. -/
namespace Py
open PySem PySem.Spec L2
def rowsK (kvs : List (Key × D)) : List D := kvs.map fun kv => .tupU [dK kv.1, kv.2]
section
variable {G : Pg} {T : Tab} {C : Orc} {n : Nat} {X : Cx} {W : WX} {pins : List (Addr × Obj)} {σ : L2.St} {s : Shared}
theorem rep_key {L : Lk} (k : Key) : Rep G L (dK k) (kV k) := by
  cases k <;> simp only [dK, kV, Rep]
/-- pairs that were laid, taken in -/
theorem take_rows {h' : Heap} {tk : Nat} {H0 HI : Hp} {L0 : Lk} {Z : Sto} (I0 : Inv X pins σ HI s) : ∀ (as : List Addr) (kvs : List (Key × D)) (ws : List (Key × V)) (L : Lk) (H : Hp), RepK G L kvs ws → Step G L0 H0 L Z H → Inv X pins σ H { s with heap := h', toks := tk } → as.Nodup → as.length = kvs.length →
    (∀ a ∈ as, s.heap.objs.size ≤ a ∧ H a = none) → (∀ (j : Nat) (a : Addr) (k : Key) (w : V), as[j]? = some a → ws[j]? = some (k, w) → ∀ H2, ObjOk X.prog X.w H2 h' a (.tup [kV k, w])) →
    ∃ H2 LE, Inv X pins σ H2 { s with heap := h', toks := tk } ∧ Step G L0 H0 LE Z H2 ∧ Lle L LE ∧ RepL G LE (rowsK kvs) (as.map V.ref) ∧ ∀ b, b ∉ as → H2 b = H b
  | [], [], ws, L, H, _, st, I, _, _, _, _ => ⟨H, L, I, st, .refl L, RepL.nil, fun _ _ => rfl⟩
  | [], _ :: _, _, _, _, _, _, _, _, e, _, _ => by cases e
  | _ :: _, [], _, _, _, _, _, _, _, e, _, _ => by cases e
  | a :: as, (k, d) :: kvs, ws, L, H, r, st, I, nd, hl, hn, ho => by
    simp only [RepK] at r
    obtain ⟨w, wr, rfl, r1, r2⟩ := r
    obtain ⟨hb, hnone⟩ := hn a List.mem_cons_self
    rw [List.nodup_cons] at nd
    have I1 : Inv X pins σ (L2.upd H a (.tup [kV k, w])) { s with heap := h', toks := tk } := I.take (h' := h') (t' := tk) (fun b ob _ e => e) (I0.fpOk hb hnone) (ho 0 a k w rfl rfl _)
    have le := st.ok.le_addF (o := .tup [kV k, w]) hnone
    have rk : RepK G (L.addF a (.tup [kV k, w])) kvs wr := RepK.mono le _ _ r2
    obtain ⟨HE, LE, i1, i2, i3, i4, i5⟩ := take_rows I0 as kvs wr (L.addF a (.tup [kV k, w])) (L2.upd H a (.tup [kV k, w])) rk (st.trans (st.ok.newF hnone)) I1 nd.2 (by simpa using hl) (fun b hb2 => by
      obtain ⟨c1, c2⟩ := hn b (List.mem_cons_of_mem _ hb2)
      exact ⟨c1, by rw [upd_ne (fun z => nd.1 (by rw [← z]; exact hb2))]; exact c2⟩) fun j b k2 w2 e1 e2 H2 => ho (j + 1) b k2 w2 e1 e2 H2
    refine ⟨HE, LE, i1, i2, le.trans i3, ?_, fun b hb3 => by rw [i5 b (fun z => hb3 (List.mem_cons_of_mem _ z)), upd_ne (fun z => hb3 (by rw [z]; exact List.mem_cons_self))]⟩
    have hd : Rep G (L.addF a (.tup [kV k, w])) (.tupU [dK k, d]) (.ref a) := by
      simp only [Rep]
      exact ⟨a, [kV k, w], rfl, .inl (.inl upd_same), RepL.cons (rep_key k) (RepL.cons (Rep.mono le _ _ r1) RepL.nil)⟩
    exact RepL.cons (Rep.mono i3 _ _ hd) i4
theorem refs_vals : ∀ bs : List Addr, Vals (bs.map V.ref) (bs.map Value.ref)
  | [] => .nil
  | _ :: bs => .cons rfl (refs_vals bs)
/-- the entries of a dict, one by one -/
theorem entries_at {prog : Program} {w : World} {es : List DictEntry} {vs : List (Key × Value)} {ws : List (Key × V)} (hp : Pairs (mixKind prog w) es vs) (r : KV ws vs) : es.length = ws.length ∧ ∀ (j : Nat) (e : DictEntry) (k : Key) (y : V), es[j]? = some e → ws[j]? = some (k, y) → RelV (kV k) e.key ∧ RelV y e.val := by
  induction hp generalizing ws with
  | nil =>
    cases r
    exact ⟨rfl, fun j e k y h => by simp at h⟩
  | cons hk hv _ ih =>
    cases r with
    | cons r1 r2 =>
      obtain ⟨i1, i2⟩ := ih r2
      refine ⟨by simp [i1], fun j e k y g1 g2 => ?_⟩
      cases j with
      | succ j => exact i2 j e k y g1 g2
      | zero =>
        simp only [List.getElem?_cons_zero, Option.some.injEq] at g1 g2
        subst g1 g2
        obtain ⟨e1, e2⟩ := r1
        subst e1
        refine ⟨?_, by rw [hv]; exact e2⟩
        rcases keyIs_shape hk with ⟨i, t, g1, g2⟩ | ⟨x, t, g1, g2⟩
        · rw [g1, g2]; exact ⟨t, rfl⟩
        · rw [g1, g2]; exact ⟨t, rfl⟩
def rSI (G : Pg) : List V → Hp → VK → Prop := fun vs H Q => ∃ L Z p a kvs ws out, vs = [.ref p] ∧ H p = some (DX.itemsO p a) ∧ LOk G L Z H ∧ Rd H a (.dK ws) ∧ RepK G L kvs ws ∧ sortKeys (rowsK kvs) = some out ∧ ∀ L' H' v, Step G L H L' Z H' → Rep G L' (.lst out) v → Q v H'
theorem cr_sortI (F : Fit G T C n X W) (hcal : T.cal = true) : CallR X (.builtin "sorted") (rSI G) := by
  intro pins s σ H xs us Q I r h
  obtain ⟨L, Z, p, a, kvs, ws, out, rfl, hp, k, ha, rk, e, q⟩ := h
  obtain rfl := Vals.ref1 r
  have view : s.heap.IsItemsView p a := (show ObjOk X.prog X.w H s.heap p (DX.itemsO p a) from I.hok p _ hp).1
  obtain ⟨z, hd, vs, rel, o, es, ep, ho, hx, hdat, hks, hps, hn⟩ := dk_rd I.hok ha
  obtain ⟨l1, each⟩ := entries_at hps rel
  have l2 : es.size = ws.length := by rw [← l1, Array.length_toList]
  have l3 : kvs.length = ws.length := RepK.length rk
  refine DT.sortedI (es := es) (ep := ep) (I.ok.hd (F.calm hcal)) view ⟨o, ho, hx, hdat⟩ (by omega) fun h' tk as hk hlt hl hG => ?_
  have nd : as.Nodup := List.Pairwise.imp (fun h => Nat.ne_of_lt h) hG.rise
  have IK : Inv X pins σ H { s with heap := h', toks := tk } := I.kept (t' := tk) hk
  obtain ⟨HE, LE, IE, st, le, rl, same⟩ := take_rows I as kvs ws L H rk (.refl k) IK nd (by omega) (fun b hb => ⟨Nat.le_of_lt (hG.above b hb), I.hok.fresh (Nat.le_of_lt (hG.above b hb))⟩) fun j b ky y e1 e2 H2 => by
    obtain ⟨en, g1, g2⟩ := hG.pairs j b e1
    obtain ⟨t1, t2⟩ := each j en ky y (by rw [Array.getElem?_toList]; exact g1) e2
    exact ⟨by rw [line_eq]; exact (by decide : 2 ≤ lineN), [en.key, en.val], .cons t1 (.cons t2 .nil), ⟨_, g2, rfl, 0, rfl⟩⟩
  have rits : Vals (as.map V.ref) (as.map Value.ref) := refs_vals as
  have hz : (as.map Value.ref).length ≤ sizeLine := by rw [List.length_map]; omega
  obtain ⟨ok, rfl⟩ := ite_some e
  generalize hs2 : ({ s with heap := h', toks := tk } : Shared) = s2 at IE
  have hh : s2.heap = h' := by rw [← hs2]
  have lst1 : (h'.push { cls := .type "list", data := .seq (as.map Value.ref).toArray }).get? h'.objs.size = some (PyProof.Rows.seqObj "list" (as.map Value.ref).toArray 0) := Heap.get?_push_size _ rfl
  have stay : ∀ b o, s2.heap.get? b = some o → b ≠ h'.objs.size ∧ (h'.push { cls := .type "list", data := .seq (as.map Value.ref).toArray }).get? b = some o := fun b o e1 => by
    rw [hh] at e1
    exact ⟨Nat.ne_of_lt (Heap.lt_size e1), Heap.get?_push_of_some _ e1⟩
  have fin : (∀ (d : D) (v : V) (u : Value), d ∈ rowsK kvs → Rep G LE d v → RelV v u → keysV s2.heap u = keysD d) →
      (2 ≤ (as.map Value.ref).length → ∀ A : Around, SrtO.SortableO X.prog X.w A { s with heap := h'.push { cls := .type "list", data := .seq (as.map Value.ref).toArray }, toks := tk } h'.objs.size (as.map Value.ref) (ltV s2.heap)) →
      wpAny (model X.prog X.w) X.A.in1 (call (.builtin "list.sort") [.ref h'.objs.size]) (fun _ s' => EP X pins σ Q (.ref h'.objs.size) s') X.xe { s with heap := h'.push { cls := .type "list", data := .seq (as.map Value.ref).toArray }, toks := tk } := fun hkk cmp => by
    refine wpAny_call_entry PyProof.Rows.slot_list_sort ⟨_, lst1, rfl⟩ PyProof.Rows.entry_list_sort (SrtO.list_sort_ord (swo_keys (keysV s2.heap)) lst1 hz (fun two => cmp two _) fun ov o1 o2 => ⟨_, rfl, ?_⟩) (PyProof.Rows.args_list_sort _)
    obtain ⟨vo, w1, w2, w3⟩ := sorted_rep rl rits hkk o1 o2
    obtain ⟨eF, heF⟩ := PyProof.Rows.sortedHeap_at (vs := as.map Value.ref) (out := ov.toArray) lst1
    have hn0 : HE h'.objs.size = none := by
      rw [same _ (fun hm => Nat.lt_irrefl _ (hG.there hm))]
      exact I.hok.fresh (Nat.le_of_lt hlt)
    have kF : ∀ b o, s2.heap.get? b = some o → (PyProof.Rows.sortedHeap (h'.push { cls := .type "list", data := .seq (as.map Value.ref).toArray }) h'.objs.size (as.map Value.ref) ov.toArray).get? b = some o := fun b o e1 => by
      obtain ⟨n1, n2⟩ := stay b o e1
      exact (PyProof.Rows.sortedHeap_old n1 (Heap.lt_size n2)).trans n2
    have J : Inv X pins σ (L2.upd HE h'.objs.size (.lst vo)) { s2 with heap := PyProof.Rows.sortedHeap (h'.push { cls := .type "list", data := .seq (as.map Value.ref).toArray }) h'.objs.size (as.map Value.ref) ov.toArray, toks := tk } :=
      IE.laid (t' := tk) kF (by rw [hh]; exact Nat.le_refl _) ⟨by rw [w3, List.length_map]; rw [List.length_map] at hz; exact hz, ov, eF, w1, heF⟩
    subst hs2
    refine ⟨.ref _, _, J, rfl, ?_⟩
    have s3 := st.trans (st.ok.newF (o := .lst vo) hn0)
    refine q _ _ _ s3 ?_
    simp only [Rep]
    exact ⟨_, vo, rfl, .inl upd_same, RepL.mono (st.ok.le_addF hn0) _ _ w2⟩
  unfold sortOk at ok
  rw [Bool.or_eq_true, Bool.or_eq_true] at ok
  rcases ok with (ok | ok) | ok
  · refine fin (fun d v u hd rd ru => ?_) fun two A => ?_
    · have := List.all_eq_true.mp ok d hd
      cases d <;> first | (cases this; done) | skip
      simp only [Rep] at rd; subst rd
      obtain ⟨t, rfl⟩ := ru
      rfl
    · obtain ⟨ns, hI⟩ := all_ints rl rits ok
      exact ints_sortable hI two
  · refine fin (fun d v u hd rd ru => ?_) fun two A => ?_
    · have := List.all_eq_true.mp ok d hd
      cases d <;> first | (cases this; done) | skip
      simp only [Rep] at rd; subst rd
      obtain ⟨t, rfl⟩ := ru
      rfl
    · obtain ⟨ns, hI⟩ := all_strs rl rits ok
      exact strs_sortable hI two
  · rw [Bool.and_eq_true] at ok
    obtain ⟨ne, ok⟩ := ok
    refine fin (fun d v u hd rd ru => ?_) fun two A => ?_
    · obtain ⟨a1, o1, i1, n1, x1, w1, rfl, ho1, hc1, hd1, rl1, rv1, fk1, _, ek⟩ := keys_of F.hK st.ok IE rd ru (List.all_eq_true.mp ok d hd)
      rw [keysV_ref ho1 hd1, ek, (keysOf_rep rl1 rv1 fk1).1]
    · cases es : sigOf (rowsK kvs) with
      | nil => rw [es] at ne; cases ne
      | cons b sig =>
        rw [es] at ok
        exact rows_sortable F.hK st.ok IE stay rl rits ok two
theorem bi_sorted {xs : List D} {d : D} (h : biD .sorted xs = some d) : ∃ out, sortKeys xs = some out ∧ d = .lst out := by
  have h : (sortKeys xs).map D.lst = some d := h
  rw [Option.map_eq_some_iff] at h
  obtain ⟨out, e, rfl⟩ := h
  exact ⟨out, e, rfl⟩
theorem rd_upd {H : Hp} {p a : Addr} {o u : HO} (hp : H p = none) (h : Rd H a u) : Rd (L2.upd H p o) a u := by
  have ne : ∀ {x}, H a = some x → a ≠ p := fun {x} e z => by rw [z, hp] at e; cases e
  rcases h with h | ⟨ob, h⟩
  · exact .inl (by rw [upd_ne (ne h)]; exact h)
  · exact .inr ⟨ob, by rw [upd_ne (ne h)]; exact h⟩
/-! ### d.items(), at once sorted -/
def rIt : V → List V → Hp → VK → Prop := fun x xs H Q => ∃ a ws, x = .ref a ∧ xs = [] ∧ Rd H a (.dK ws) ∧ ∀ p, H p = none → Q (.ref p) (L2.upd H p (DX.itemsO p a))
theorem mt_it : MtR X "dict.items" rIt := by
  intro pins s σ H x xs v us Q I rx rxs h
  obtain ⟨a, ws, rfl, rfl, ha, q⟩ := h
  cases rx
  cases rxs
  obtain ⟨z, hd, vs, rel, o, es, ep, ho, hx, hdat, _⟩ := dk_rd I.hok ha
  refine DT.callItems (es := es) (ep := ep) hd ⟨o, ho, hx, hdat⟩ ?_
  exact ⟨.ref s.heap.objs.size, _, I.laid (t' := s.toks) (fun b u e => Heap.get?_push_of_some _ e) (Nat.le_refl _) (DX.itemsO_ok (Heap.get?_push_size _ rfl)), rfl, q _ (I.hok.fresh (Nat.le_refl _))⟩
theorem pe_its {ob : Expr} {to : TE} {apos cpos : Pos} (h0 : PE X ob to) (hbase : attributeBase ob "items" X.env (eval ob X.env) = eval ob X.env) (hline : (apos.endLine == cpos.line) = true) :
    PE X (.Call (.Attribute ob "items" apos) [] [] cpos) (fun σ H Q => to σ H fun x H1 => rIt x [] H1 Q) :=
  ⟨fun pins s σ H Q I q0 => wpAny_Call_method0_late hbase hline (thn (h0.run pins s σ H _ I q0) fun v s1 ⟨x, H1, I1, rv, q1⟩ => by
    obtain ⟨a, ws, e1, e2, ha, _⟩ := id q1
    subst e1
    obtain rfl : v = Value.ref a := rv
    obtain ⟨_, _, _, _, o, _, _, ho, hx, _⟩ := dk_rd I1.hok ha
    have rr : RelV (V.ref a) (Value.ref a) := rfl
    exact ⟨"dict", "dict.items", PySem.F.plainAttrs_dict, PySem.F.slot_dict_items, by rfl, ⟨o, ho, hx.1⟩, fun b e => by cases e; exact ⟨o, ho, hx.2.1⟩, Calls.callWith_builtin rfl (PySem.evalArgs_none (mt_it pins s1 σ H1 _ [] _ [] Q I1 rr .nil q1))⟩)⟩
theorem s_sortI {a : Expr} {c : O} {p pos apos cpos : Pos} (F : Fit G T C n X W) (hcal : T.cal = true) (hg : Gl X "sorted") (hm : X.mg "sorted" = none) (hb : plainBase a = true) (hline : (apos.endLine == cpos.line) = true) (h : SO G C W X a c) :
    SE G C W X (.Call (.Name "sorted" p) [.Call (.Attribute a "items" apos) [] [] cpos] [] pos) (.bi .sorted (.items c)) :=
  (pe_callB (cr_sortI F hcal) hg hm (by decide +kernel) (pa_cons (pe_its h (base_ok hb) hline) pa_nil (star_cons rfl)) (by decide) (by decide) (star_cons rfl) rfl).imp fun σ H Q ⟨L, η, Z, en, k, q⟩ => by
    simp only [ev, evIt, Res.assoc, Res.ok_bind] at q
    refine rdO_of en k q fun d Z1 L1 H1 v st r q => ?_
    dsimp only at q
    split at q
    · rename_i kvs e1
      obtain ⟨a1, ws, rfl, h1, rk⟩ := see_now st.ok r e1
      simp only [Res.ok_bind] at q
      obtain ⟨d2, e2, q⟩ := q.opt
      obtain ⟨out, e3, rfl⟩ := bi_sorted e2
      exact ⟨a1, ws, rfl, rfl, h1, fun p1 hp1 => ⟨L1, Z1, p1, a1, kvs, ws, out, rfl, upd_same, st.ok.extra (st.ok.fresh hp1), rd_upd hp1 h1, rk, e3, fun L' H' v' s' r' => q L' H' ((Step.upd (.refl st.ok) hp1 (st.ok.fresh hp1)).trans s') v' r'⟩⟩
    · cases q
end
end Py
end
section
set_option Elab.async false
set_option linter.all false
set_option maxRecDepth 100000
set_option maxHeartbeats 4000000
/-! PyKg: sorted(set(names)), names a list of texts. -/
namespace Py
open PySem PySem.Spec L2 PySem.Froz
/-- a set's payload: the texts l, laid so that it can be walked -/
structure TxI (P : Program) (w : World) (Y : SD) (l : List Str) : Prop where
  tx : TxOk P w Y l
  ris : Ris Y.2.2.place.toList
  led : w.params.followText "set-order" = true ∨ Y.2.2.led = true
theorem addTx_tab (h : Int) (v : Value) (Y : SD) (r : Ris Y.2.2.place.toList) : Ris (addTx h v Y).2.2.place.toList ∧ (addTx h v Y).2.2.led = Y.2.2.led := by
  have a1 := layNew_ris Y.2.2 Y.1 h v r
  have a2 := layNew_led Y.2.2 Y.1 h v
  unfold addTx tailTx
  generalize layNew Y.2.2 Y.1 h v = q at a1 a2 ⊢
  obtain ⟨e1, t1, wd, gv⟩ := q
  dsimp only at a1 a2 ⊢
  have b : ∀ t2 : SetTable, t2 = (if t1.plain = true then { t1 with plain := false } else t1) → Ris t2.place.toList ∧ t2.led = Y.2.2.led := fun t2 e => by
    by_cases c : t1.plain = true
    · rw [if_pos c] at e; subst e; exact ⟨a1, a2⟩
    · rw [if_neg c] at e; subst e; exact ⟨a1, a2⟩
  generalize hq : (if t1.plain = true then { t1 with plain := false } else t1) = t2
  obtain ⟨b1, b2⟩ := b t2 hq.symm
  by_cases c : (!wd && t2.tooFull) = true
  · rw [if_pos c]; exact ⟨relayAll_ris _ _ _, (relayAll_led _ _ _).trans b2⟩
  · rw [if_neg c]; exact ⟨b1, b2⟩
theorem TxI.add {P : Program} {w : World} {Y : SD} {l : List Str} (F : TxI P w Y l) (k : Str) (u : Tok) : TxI P w (addTx (hashStr w k) (.str k u) Y) (k :: l) := by
  obtain ⟨q1, q2⟩ := addTx_tab (hashStr w k) (.str k u) Y F.ris
  exact ⟨add_ok u F.tx, q1, F.led.imp id fun z => q2.trans z⟩
section
variable {P : Program} {w : World} {A : Around} {E : Value → Shared → Prop} {s : Shared}
/-- a text met again -/
theorem add_old {a : Addr} {T : String} {Y : SD} {l : List Str} {k : Str} {u : Tok} {Q : Bool → Shared → Prop} (ho : s.heap.get? a = some (sObj T Y)) (F : TxOk P w Y l) (hk : k ∈ l) (hb : l.length < scanBound) (q : Q false s) :
    wpAny (model P w) A (setAddHashed a (.str k u) (hashStr w k)) Q E s := by
  obtain ⟨es, ep, t⟩ := Y
  have sz : es.size < scanBound := Nat.lt_of_le_of_lt (Nat.le_of_eq F.sz) hb
  have me : (strKind P w).is k (.str k u) = true := is_str k u
  obtain ⟨e0, m0, p0⟩ := (F.mem k).mp hk
  have ⟨j, hj⟩ : ∃ j, List.findIdx? (fun e => (strKind P w).is k e.2) es.toList = some j := by
    cases c : List.findIdx? (fun e => (strKind P w).is k e.2) es.toList with
    | some j => exact ⟨j, rfl⟩
    | none => exact absurd p0 (by rw [List.findIdx?_eq_none_iff.mp c e0 m0]; exact Bool.false_ne_true)
  unfold setAddHashed setAddHashedIn
  refine wpAny_holding (wpAny_bind (wpAny_setState_of ho rfl F.fit ?_))
  dsimp only
  rw [byScan_of (knd := strKind P w) rfl sz F.el]
  simp only [↓reduceIte]
  unfold setAddByScan
  refine wpAny_bind (wpAny_bind (wpAny_rule (wpAny_bind (wpAny_setScan_of (knd := strKind P w) (k := k) me ho rfl F.fit F.el ?_))))
  rw [hj]
  exact wpAny_pure (wpAny_pure q)
theorem onces_len (xs : List Str) : ∀ acc : List Str, (xs.foldl oncS acc).length ≤ acc.length + xs.length := by
  induction xs with
  | nil => intro acc; simp
  | cons x xs ih =>
    intro acc
    have := ih (oncS acc x)
    have h2 : (oncS acc x).length ≤ acc.length + 1 := by unfold oncS; split <;> simp
    simp only [List.foldl_cons, List.length_cons]
    omega
theorem onces_nodup (xs : List Str) : ∀ acc : List Str, acc.Nodup → (xs.foldl oncS acc).Nodup := by
  induction xs with
  | nil => intro acc h; exact h
  | cons x xs ih =>
    intro acc h
    refine ih _ ?_
    unfold oncS
    split
    · exact h
    · rename_i c; exact List.nodup_cons.mpr ⟨c, h⟩
theorem onces_mem (xs : List Str) : ∀ (acc : List Str) (k : Str), k ∈ xs.foldl oncS acc ↔ k ∈ acc ∨ k ∈ xs := by
  induction xs with
  | nil => intro acc k; simp
  | cons x xs ih =>
    intro acc k
    rw [List.foldl_cons, ih, List.mem_cons]
    unfold oncS
    split
    · rename_i c
      constructor
      · rintro (h | h); exact .inl h; exact .inr (.inr h)
      · rintro (h | h | h)
        · exact .inl h
        · subst h; exact .inl c
        · exact .inr h
    · rw [List.mem_cons]
      constructor
      · rintro ((h | h) | h); exact .inr (.inl h); exact .inl h; exact .inr (.inr h)
      · rintro (h | h | h); exact .inl (.inr h); exact .inl (.inl h); exact .inr h
/-- one member more -/
theorem add_once {a : Addr} {Y : SD} {l : List Str} {k : Str} {u : Tok} {Q : Bool → Shared → Prop} (ho : s.heap.get? a = some (sObj "set" Y)) (F : TxI P w Y l) (hb : l.length + 1 < scanBound)
    (q : ∀ Y' h' b, TxI P w Y' (oncS l k) → h'.get? a = some (sObj "set" Y') → (∀ b o, b ≠ a → s.heap.get? b = some o → h'.get? b = some o) → h'.objs.size = s.heap.objs.size → Q b { s with heap := h' }) :
    wpAny (model P w) A (setAddHashed a (.str k u) (hashStr w k)) Q E s := by
  by_cases c : k ∈ l
  · refine add_old ho F.tx c (by omega) ?_
    exact q Y s.heap false (by unfold oncS; rw [if_pos c]; exact F) ho (fun b o _ e => e) rfl
  · refine add_x ho F.tx c hb ?_
    refine q _ _ true (by unfold oncS; rw [if_neg c]; exact F.add k u) (get_upd _ ho rfl) (fun b o hb e => (Heap.get?_update_other _ _ (Ne.symm hb)).trans e) (Heap.size_after_update _ _ _)
end
section
variable {prog : Program} {w : World} {A : Around} {R : Result → Shared → Prop} {it : Addr} {fp wr : List Addr} {GG : Array GenState → Array GenState → Prop} {n : Nat} {PP : Nat → Value → Prop} {SS : Nat → Shared → Prop}
theorem tx_loop (W : PySem.WalksS prog w A.in1 it fp wr GG n PP SS) (S : Addr) (out : S ∉ fp) (xs : List Str) (hn : xs.length = n) (room : n + 1 < scanBound) (val : ∀ i v, PP i v → ∃ t, v = .str (xs.getD i Str.empty) t) :
    ∀ (k i : Nat) (s : Shared) (Y : SD), n - i = k → i ≤ n → SS i s → s.heap.get? S = some (sObj "set" Y) → TxI prog w Y (onces (xs.take i)) →
      (∀ s' Y', PySem.Moved (S :: wr) GG s s' → s'.heap.get? S = some (sObj "set" Y') → TxI prog w Y' (onces xs) → R (.ok (.ret .none)) s') → codeAny (model prog w) A (.builtin "set.update.loop" ⟨[.ref S, .ref it], []⟩) R s := by
  have outw : S ∉ wr := fun h => out (W.sub _ h)
  have more : ∀ b ∈ wr, b ∈ S :: wr := fun b hb => List.mem_cons_of_mem _ hb
  intro k
  induction k with
  | zero =>
    intro i s Y hk hi st hS F fin
    obtain rfl : i = n := by omega
    refine codeAny_builtin PyProof.Rows.F.entry_set_update_loop ?_
    rw [Around.under_plainId PyProof.Rows.F.plain_set_update_loop]
    show wpAny _ A.in1 (pyNext (.ref it) >>= _) _ _ s
    refine wpAny_bind (W.done s _ _ st fun s' mv => ?_)
    rw [← hn, List.take_length] at F
    exact wpAny_pure (fin s' Y (mv.mono more) (mv.heap S _ outw hS) F)
  | succ k ih =>
    intro i s Y hk hi st hS F fin
    have lt : i < n := by omega
    refine codeAny_builtin PyProof.Rows.F.entry_set_update_loop ?_
    rw [Around.under_plainId PyProof.Rows.F.plain_set_update_loop]
    show wpAny _ A.in1 (pyNext (.ref it) >>= _) _ _ s
    refine wpAny_bind (W.item i s _ _ lt st fun v s1 pv st1 mv => ?_)
    obtain ⟨t, rfl⟩ := val i v pv
    have hS1 := mv.heap S _ outw hS
    show wpAny _ A.in1 (holding [Value.str (xs.getD i Str.empty) t] (setAdd S (.str (xs.getD i Str.empty) t)) >>= _) _ _ s1
    refine wpAny_bind (wpAny_holding ?_)
    unfold setAdd
    refine wpAny_holding (wpAny_bind ((strKind prog w).pyHash (k := xs.getD i Str.empty) (strKind_is _ _ _ _) ?_))
    have hlen : (onces (xs.take i)).length ≤ n := by
      have := onces_len (xs.take i) []
      rw [List.length_take] at this
      unfold onces
      simp only [List.length_nil] at this
      omega
    refine add_once (s := { s1 with toks := s1.toks + 1 }) hS1 F (by omega) fun Y' h' b F' hS' same sz => ?_
    have F2 : TxI prog w Y' (onces (xs.take (i + 1))) := by
      have e : xs.take (i + 1) = xs.take i ++ [xs.getD i Str.empty] := by
        rw [List.take_succ, List.getD_eq_getElem?_getD, List.getElem?_eq_getElem (by omega)]
        rfl
      rw [e]
      unfold onces
      rw [List.foldl_append]
      exact F'
    refine wpAny_pure ⟨plainId_quiet PyProof.Rows.F.plain_set_update_loop _, ih (i + 1) _ Y' (by omega) lt (W.frame _ s1 _ _ st1 (Nat.le_succ _) fun b hb o e => same b o (fun z => out (z ▸ hb)) e) hS' F2 fun s2 Y2 mv2 hS2 F3 => ?_⟩
    exact fin s2 Y2 (PySem.Moved.trans W.gtrans ((mv.mono more).then_heap (Nat.le_succ _) fun b o hb e => same b o (fun z => hb (z ▸ List.mem_cons_self)) e) mv2) hS2 F3
end
section
variable {prog : Program} {w : World} {A : Around} {E : Value → Shared → Prop} {s : Shared}
def set0 (w : World) : Obj := sObj "set" (#[], 0, .fresh 0 0 (!w.params.followText "set-order"))
theorem set0_tx (w : World) : TxI prog w (#[], 0, .fresh 0 0 (!w.params.followText "set-order")) [] := by
  refine ⟨TxOk.nil rfl, List.Pairwise.nil, ?_⟩
  show _ ∨ (!w.params.followText "set-order") = true
  cases w.params.followText "set-order"
  · exact .inr rfl
  · exact .inl rfl
theorem new_set (a : Value) {Z : Value → Shared → Prop} (q : Z (.ref s.heap.objs.size) { s with heap := s.heap.push (set0 w) }) :
    codeAny (model prog w) A (.call (.builtin "set.__new__") ⟨[.type "set", a], []⟩) (wants Z E) s := by
  refine codeAny_of_tree ?_
  show wpAny _ A.in1 (checkBuiltinCall "set.__new__" ⟨[.type "set", a], []⟩ >>= fun _ => again (.builtin "set.__new__" ⟨[.type "set", a], []⟩)) _ _ s
  refine wpAny_bind (wpAny_of_eq (PySem.F.newCall_set_1 a) (wpAny_pure ⟨plainId_quiet PySem.F.plain_set_new _, codeAny_builtin PySem.F.entry_set_new ?_⟩))
  rw [Around.under_plainId PySem.F.plain_set_new]
  unfold Builtin.«set.__new__» Builtin.Frozenset.newClass
  have := PySem.sub_set_self
  obtain ⟨hp, g, d, tk, os⟩ := s
  dsimp only
  wp_walk
  refine wpAny_askSetting (wpAny_pure ?_)
  dsimp only
  simp only [newObj]
  exact wpAny_bind (wpAny_alloc (wpAny_pure (wpAny_pure q)))
set_option maxHeartbeats 3200000 in
/-- set(l), l a list of texts -/
theorem set_of_txt {l : Addr} {its : Array Value} {xs : List Str} {Q : Value → Shared → Prop} (calm : A.handled = none) (isl : s.heap.IsList l its) (txt : PyProof.Rows.StrsAre its.toList xs) (room : its.size + 1 < scanBound)
    (q : ∀ (h' : Heap) (tk : Nat) (Y : SD), h'.get? s.heap.objs.size = some (sObj "set" Y) → TxI prog w Y (onces xs) → (∀ b o, b < s.heap.objs.size → s.heap.get? b = some o → h'.get? b = some o) → Q (.ref s.heap.objs.size) { s with heap := h', toks := tk }) :
    wpAny (model prog w) A (call (.type "set") [.ref l]) Q E s := by
  obtain ⟨mc, mt, mro⟩ := PySem.F.called_set.mro
  have made := PySem.F.called_set.made
  have sub := PySem.F.called_set.sub
  refine wpAny_call (codeAny_of_tree ?_)
  show wpAny _ _ (callAny (.type "set") _) _ _ _
  refine wpAny_pure ⟨Code.quiet_builtin _ (by decide +kernel), codeAny_builtin PySem.F.entry_type_call ?_⟩
  rw [Around.under_plain (weight_type_call_type "set" [.ref l] []) rfl]
  have f1 := PySem.F.called_set.notType
  have f2 := PySem.F.called_set.canCreate
  have f3 := PySem.F.typeCall_set_1 (.ref l)
  repeat (any_goals (first | assumption | wp_step))
  refine codeAny_mono (new_set (.ref l) (E := E) (Z := fun x s1 => x = .ref s.heap.objs.size ∧ s1 = { s with heap := s.heap.push (set0 w) }) ⟨rfl, rfl⟩) fun r s1 hr => ?_
  match r, hr with
  | .error _, hr => exact hr
  | .ok (.ret x), ⟨ex, es⟩ =>
    subst ex; subst es
    have hS : (s.heap.push (set0 w)).get? s.heap.objs.size = some (set0 w) := Heap.get?_push_size _ rfl
    have hT : Shared.TypeIs { s with heap := s.heap.push (set0 w) } (.ref s.heap.objs.size) "set" := ⟨_, hS, rfl⟩
    have f4 := PySem.F.called_set.init.lookup
    have f5 := PySem.F.called_set.init.bind (.ref s.heap.objs.size)
    repeat (any_goals (first | assumption | wp_step))
    refine codeAny_mono (codeAny_call_builtin (R := wants (fun r s2 => r = .none ∧ ∃ h' tk Y, s2 = { s with heap := h', toks := tk } ∧ h'.get? s.heap.objs.size = some (sObj "set" Y) ∧ TxI prog w Y (onces xs) ∧
      (∀ b o, b < s.heap.objs.size → s.heap.get? b = some o → h'.get? b = some o)) E) PySem.F.called_set.init.plain PySem.F.entry_set_init (check_set_init_1 hT ?_)) fun r2 s2 hr2 => ?_
    · obtain ⟨ol, hol, hcl, nl, hdl⟩ := isl
      obtain ⟨ocls, odict, odata, oslots⟩ := ol
      simp only at hcl hdl
      subst hcl; subst hdl
      have hol' : (s.heap.push (set0 w)).get? l = some { cls := .type "list", dict := odict, data := .seq its nl, slots := oslots } := Heap.get?_push_of_some _ hol
      have g1 := PySem.F.sub_list_set
      have g2 := PySem.F.sub_list_frozenset
      have g3 : (Value.type "list" == Value.type "dict") = false := by decide
      have isl2 : (s.heap.push (set0 w)).IsList l its := ⟨_, hol', rfl, nl, rfl⟩
      unfold Builtin.«set.__init__» noKeywords Builtin.Frozenset.updateFrom
      generalize hPI : pyIter = PI
      wp_walk
      subst hPI
      refine wpAny_pyIter_list isl2 (wpAny_bind (wpAny_runValue ?_))
      have low : l < s.heap.objs.size := Heap.lt_size hol
      have big : (s.heap.push (set0 w)).objs.size = s.heap.objs.size + 1 := Heap.size_push _ _
      have calm3 : A.in1.in1.in1.handled = none := by simp [calm]
      have ne1 : l ≠ (s.heap.push (set0 w)).objs.size := by rw [big]; exact Nat.ne_of_lt (Nat.lt_succ_of_lt low)
      have notin : s.heap.objs.size ∉ [(s.heap.push (set0 w)).objs.size, l] := by
        rw [big]
        intro hm
        simp only [List.mem_cons, List.not_mem_nil, or_false] at hm
        exact hm.elim (fun z => Nat.ne_of_lt (Nat.lt_succ_self _) z) fun z => Nat.ne_of_gt low z
      have hlen : xs.length = its.size := by rw [← PyProof.Rows.StrsAre.len_eq txt, Array.length_toList]
      refine tx_loop ((PySem.Walks.list calm3 _ l ne1 its).toS) s.heap.objs.size notin xs hlen room (fun i v hv => SS.strs_at txt i v (by rw [Array.getElem?_toList]; exact hv)) (its.size - 0) 0 _ (#[], 0, .fresh 0 0 (!w.params.followText "set-order")) (by omega) (Nat.zero_le _)
        ⟨⟨_, Heap.get?_push_size _ rfl, rfl, rfl⟩, isl2.push _⟩ (Heap.get?_push_of_some _ hS) (by rw [List.take_zero]; exact set0_tx w) fun s3 Y' mv hS3 F3 => ?_
      obtain ⟨h3, g3', d3, tk3, os3⟩ := s3
      obtain rfl : g3' = s.gens := mv.gens
      obtain rfl : d3 = s.drawn := mv.drawn
      obtain rfl : os3 = s.os := mv.os
      show wpAny _ _ _ _ _ _
      refine wpAny_pure ?_
      show wpAny _ _ (ret Value.none) _ _ _
      refine wpAny_pure ⟨rfl, h3, tk3, Y', rfl, hS3, F3, fun b o hb e => mv.heap b o (fun hm => ?_) (Heap.get?_push_of_some _ (Heap.get?_push_of_some _ e))⟩
      rw [big] at hm
      simp only [List.mem_cons, List.not_mem_nil, or_false] at hm
      exact hm.elim (fun z => Nat.ne_of_lt hb z) fun z => Nat.ne_of_lt (Nat.lt_succ_of_lt hb) z
    · match r2, hr2 with
      | .error _, hr2 => exact hr2
      | .ok (.ret _), ⟨er, h', tk, Y, es, a1, a2, a3⟩ =>
        subst er; subst es
        repeat (any_goals (first | assumption | wp_step))
        exact q _ _ _ a1 a2 a3
      | .ok .next, hr2 => exact hr2.elim
      | .ok .brk, hr2 => exact hr2.elim
      | .ok .cont, hr2 => exact hr2.elim
  | .ok .next, hr => exact hr.elim
  | .ok .brk, hr => exact hr.elim
  | .ok .cont, hr => exact hr.elim
end
/-- such a set, in the abstract heap -/
def setO (P : Program) (w : World) (p : Addr) (l : List Str) : HO := .ext fun h => ∃ Y, h.get? p = some (sObj "set" Y) ∧ TxI P w Y l
section
variable {G : Pg} {T : Tab} {C : Orc} {n : Nat} {X : Cx} {W : WX} {pins : List (Addr × Obj)} {σ : L2.St} {s : Shared}
theorem repL_strs {L : Lk} : ∀ {ds : List D} {vs : List V} {zs : List Str}, RepL G L ds vs → strsD ds = some zs → vs = zs.map V.str
  | [], vs, zs, r, e => by
    simp only [RepL] at r
    cases e
    exact r
  | d :: ds, vs, zs, r, e => by
    simp only [RepL] at r
    obtain ⟨v, vr, rfl, r1, r2⟩ := r
    cases d <;> first | (cases e; done) | skip
    simp only [strsD, Option.map_eq_some_iff] at e
    obtain ⟨z2, e2, rfl⟩ := e
    simp only [Rep] at r1
    rw [r1, repL_strs r2 e2]
    rfl
theorem repL_of {L : Lk} : ∀ zs : List Str, RepL G L (zs.map D.str) (zs.map V.str)
  | [] => RepL.nil
  | z :: zs => RepL.cons (by simp only [Rep]) (repL_of zs)
theorem vals_of : ∀ {zs : List Str} {us : List Value}, PyProof.Rows.StrsAre us zs → Vals (zs.map V.str) us
  | _, _, .nil => .nil
  | _, _, .cons x t r => .cons ⟨t, rfl⟩ (vals_of r)
theorem sort_perm {ns l : List Str} (p : ns.Perm l) : isort ltD (ns.map D.str) = isort ltD (l.map D.str) := by
  have O : SrtO.Swo ltD := swo_keys keysD
  obtain ⟨a1, a2⟩ := isort_ok O (ns.map D.str)
  obtain ⟨b1, b2⟩ := isort_ok O (l.map D.str)
  have pm : (ns.map D.str).Perm (l.map D.str) := p.map _
  refine SrtO.stb_uniq O a1 b1 (a2.trans (SrtO.Stb.trans ⟨pm, fun x => ?_⟩ ⟨b2.perm.symm, fun x => (b2.cls x).symm⟩))
  have key : ∀ (x : D) (zs : List Str), (zs.map D.str).filter (SrtO.eqv ltD x) = List.replicate (((zs.map D.str).filter (SrtO.eqv ltD x)).length) (((zs.map D.str).filter (SrtO.eqv ltD x)).headD .non) ∧ ∀ y ∈ (zs.map D.str).filter (SrtO.eqv ltD x), ∃ t, y = .str t ∧ keysD x = [.inr t] := by
    intro x zs
    have all : ∀ y ∈ (zs.map D.str).filter (SrtO.eqv ltD x), ∃ t, y = .str t ∧ keysD x = [.inr t] := fun y hy => by
      obtain ⟨h1, h2⟩ := List.mem_filter.mp hy
      obtain ⟨t, _, rfl⟩ := List.mem_map.mp h1
      refine ⟨t, rfl, ?_⟩
      simp only [SrtO.eqv, ltD, Bool.and_eq_true, Bool.not_eq_true'] at h2
      obtain ⟨h3, h4⟩ := h2
      show keysD x = [.inr t]
      have e2 : keysD (.str t) = [.inr t] := rfl
      rw [e2] at h3 h4
      cases kx : keysD x with
      | nil => rw [kx] at h3; simp [ltKs] at h3
      | cons k r =>
        rw [kx] at h3 h4
        by_cases ek : k = .inr t
        · subst ek
          simp only [ltKs, if_true] at h3 h4
          cases r with
          | nil => rfl
          | cons k2 r2 => simp [ltKs] at h4
        · simp only [ltKs, if_neg ek, if_neg (Ne.symm ek)] at h3 h4
          cases k with
          | inl i => simp [ltK] at h3
          | inr z =>
            exfalso
            simp only [ltK, ltS, decide_eq_false_iff_not] at h3 h4
            have q := List.le_antisymm (as := z.cps.toList) (bs := t.cps.toList) (List.not_lt.mp h4) (List.not_lt.mp h3)
            exact ek (by cases z; cases t; simp only [Array.toList_inj] at q; rw [q])
    refine ⟨List.eq_replicate_iff.mpr ⟨rfl, fun y hy => ?_⟩, all⟩
    obtain ⟨t, rfl, hk⟩ := all y hy
    cases hq : (zs.map D.str).filter (SrtO.eqv ltD x) with
    | nil => rw [hq] at hy; cases hy
    | cons z r =>
      obtain ⟨t2, rfl, hk2⟩ := all z (by rw [hq]; exact List.mem_cons_self)
      rw [hk2] at hk
      cases hk
      rfl
  have pf : ((ns.map D.str).filter (SrtO.eqv ltD x)).Perm ((l.map D.str).filter (SrtO.eqv ltD x)) := pm.filter _
  obtain ⟨c1, c2⟩ := key x ns
  obtain ⟨d1, d2⟩ := key x l
  cases hn : (ns.map D.str).filter (SrtO.eqv ltD x) with
  | nil => rw [hn] at pf; rw [List.nil_perm.mp pf]
  | cons y r =>
    rw [hn] at pf c1 c2
    rw [c1, d1, pf.length_eq]
    congr 1
    obtain ⟨t, rfl, hk⟩ := c2 y List.mem_cons_self
    cases hl : (l.map D.str).filter (SrtO.eqv ltD x) with
    | nil => rw [hl] at pf; exact absurd pf.symm.nil_eq (by simp)
    | cons z r2 =>
      obtain ⟨t2, rfl, hk2⟩ := d2 z (by rw [hl]; exact List.mem_cons_self)
      rw [hk2] at hk
      cases hk
      rfl
/-! ### set(names) -/
def rSt (P : Program) (w : World) : List V → Hp → VK → Prop := fun vs H Q => ∃ a zs, vs = [.ref a] ∧ Rd H a (.lst (zs.map V.str)) ∧ zs.length ≤ 1000 ∧ ∀ p, H p = none → Q (.ref p) (L2.upd H p (setO P w p (onces zs)))
theorem strsAre_vals : ∀ {zs : List Str} {us : List Value}, Vals (zs.map V.str) us → PyProof.Rows.StrsAre us zs
  | [], _, .nil => .nil
  | z :: zs, _, .cons r t => by
    obtain ⟨k, rfl⟩ := r
    exact .cons z k (strsAre_vals t)
theorem cr_st (F : Fit G T C n X W) (hcal : T.cal = true) : CallR X (.type "set") (rSt X.prog X.w) := by
  intro pins s σ H xs us Q I r h
  obtain ⟨a, zs, rfl, ha, hz, q⟩ := h
  obtain rfl := Vals.ref1 r
  obtain ⟨its, rits, isl, _⟩ := I.list (a := a) (xs := zs.map V.str) (.inl ha)
  have len := rits.length
  rw [List.length_map] at len
  refine set_of_txt (I.ok.hd (F.calm hcal)) isl.isList (by simpa using strsAre_vals rits) (by rw [List.size_toArray, ← len]; unfold scanBound; omega) fun h' tk Y hY F' keep => ?_
  have J : Inv X pins σ (L2.upd H s.heap.objs.size (setO X.prog X.w s.heap.objs.size (onces zs))) { s with heap := h', toks := tk } :=
    I.laid (t' := tk) (fun b o e => keep b o (Heap.lt_size e) e) (Nat.le_refl _) ⟨⟨Y, hY, F'⟩, ⟨_, hY⟩, fun h1 h2 ⟨Y1, e1, f1⟩ k => ⟨Y1, k _ e1, f1⟩⟩
  exact ⟨.ref _, _, J, rfl, q _ (I.hok.fresh (Nat.le_refl _))⟩
/-! ### sorted of such a set -/
def rSs (G : Pg) (P : Program) (w : World) : List V → Hp → VK → Prop := fun vs H Q => ∃ L Z p l, vs = [.ref p] ∧ H p = some (setO P w p l) ∧ LOk G L Z H ∧ l.length ≤ 1000 ∧ l.Nodup ∧ Fin G L Z H (.lst (isort ltD (l.map D.str))) Q
/-- texts whose places are told by a kind -/
theorem txts_of {P : Program} {w : World} : ∀ {es : List (Int × Value)}, ElemsOf (strKind P w) es → ∃ ns, PyProof.Rows.StrsAre (es.map (·.2)) ns ∧ ∀ k, k ∈ ns ↔ ∃ e ∈ es, (strKind P w).is k e.2 = true
  | [], _ => ⟨[], .nil, fun k => by simp⟩
  | e :: es, h => by
    obtain ⟨⟨k, hk, _⟩, _⟩ := h e List.mem_cons_self
    obtain ⟨ns, h1, h2⟩ := txts_of (es := es) fun x hx => h x (List.mem_cons_of_mem _ hx)
    obtain ⟨t, ht⟩ := Value.isStrOf_shape (show Value.isStrOf k e.2 = true from hk)
    refine ⟨k :: ns, ?_, fun k' => ?_⟩
    · rw [List.map_cons, ht]; exact .cons k t h1
    · rw [List.mem_cons, h2 k']
      constructor
      · rintro (z | ⟨x, hx, q⟩)
        · exact ⟨e, List.mem_cons_self, by rw [z]; exact hk⟩
        · exact ⟨x, List.mem_cons_of_mem _ hx, q⟩
      · rintro ⟨x, hx, q⟩
        rcases List.mem_cons.mp hx with z | z
        · subst z; exact .inl ((strKind P w).inj x.2 k' k q hk)
        · exact .inr ⟨x, z, q⟩
theorem perm_sub : ∀ {l ns : List Str}, l.Nodup → (∀ k ∈ l, k ∈ ns) → ns.length ≤ l.length → l.Perm ns
  | [], ns, _, _, h => by
    have : ns = [] := List.eq_nil_of_length_eq_zero (by simpa using h)
    rw [this]
  | k :: l, ns, nd, hs, h => by
    rw [List.nodup_cons] at nd
    have hk := hs k List.mem_cons_self
    have p := List.perm_cons_erase hk
    refine ((perm_sub nd.2 (fun x hx => ?_) ?_).cons k).trans p.symm
    · exact (List.mem_erase_of_ne (fun z => nd.1 (by rw [← z]; exact hx))).mpr (hs x (List.mem_cons_of_mem _ hx))
    · rw [List.length_erase_of_mem hk]
      simp only [List.length_cons] at h
      omega
theorem strsAre_perm : ∀ {us vs : List Value} {ns : List Str}, us.Perm vs → PyProof.Rows.StrsAre vs ns → ∃ ms, PyProof.Rows.StrsAre us ms ∧ ms.Perm ns := by
  intro us vs ns p
  induction p generalizing ns with
  | nil => intro h; exact ⟨ns, h, .refl _⟩
  | cons x _ ih =>
    intro h
    cases h with
    | cons k t r =>
      obtain ⟨ms, h1, h2⟩ := ih r
      exact ⟨k :: ms, .cons k t h1, h2.cons k⟩
  | swap x y l =>
    intro h
    cases h with
    | cons k t r =>
      cases r with
      | cons k2 t2 r2 => exact ⟨k2 :: k :: _, .cons k2 t2 (.cons k t r2), .swap _ _ _⟩
  | trans _ _ i1 i2 =>
    intro h
    obtain ⟨ms, h1, h2⟩ := i2 h
    obtain ⟨ms2, h3, h4⟩ := i1 h1
    exact ⟨ms2, h3, h4.trans h2⟩
theorem cr_ss (F : Fit G T C n X W) (hcal : T.cal = true) : CallR X (.builtin "sorted") (rSs G X.prog X.w) := by
  intro pins s σ H xs us Q I r h
  obtain ⟨L, Z, p, l, rfl, hp, k, hz, nd, q⟩ := h
  obtain rfl := Vals.ref1 r
  obtain ⟨Y, hY, FY⟩ := (show ObjOk X.prog X.w H s.heap p (setO X.prog X.w p l) from I.hok p _ hp).1
  have calm : X.A.handled = none := I.ok.hd (F.calm hcal)
  have small : Y.1.size < scanBound := by rw [FY.tx.sz]; unfold scanBound; omega
  refine Calls.call_function_entry PyProof.Rows.kind_sorted PyProof.Rows.plain_sorted PyProof.Rows.entry_sorted (PyProof.Rows.args_sorted1 _) ?_
  unfold Builtin.«sorted»
  refine wpAny_bind (m := checkCount "sorted" 1 1 _) (wpAny_pure (wpAny_bind (collect_set (A := X.A.in1) calm (es := Y.1) (ep := Y.2.1) (t := Y.2.2) ⟨_, hY, rfl, rfl⟩ FY.tx.fit small FY.ris FY.led fun s1 vs k1 hsz g1 o1 pm => ?_)))
  obtain ⟨ns0, t0, m0⟩ := txts_of FY.tx.el
  obtain ⟨ns, t1, pn⟩ := strsAre_perm pm t0
  have pl : l.Perm ns := by
    refine (perm_sub nd (fun x hx => (m0 x).mpr ((FY.tx.mem x).mp hx)) ?_).trans pn.symm
    have a1 := PyProof.Rows.StrsAre.len_eq t0
    rw [List.length_map, Array.length_toList, FY.tx.sz] at a1
    omega
  have hlen : vs.length = l.length := by rw [PyProof.Rows.StrsAre.len_eq t1, pl.length_eq]
  have short : vs.length ≤ sizeLine := by rw [hlen, line_eq]; exact Nat.le_trans hz (by decide)
  refine wpAny_bind (wpAny_newList ?_ short)
  have lst1 : (s1.heap.push (PyProof.Rows.seqObj "list" vs.toArray 0)).get? s1.heap.objs.size = some (PyProof.Rows.seqObj "list" vs.toArray 0) := Heap.get?_push_size _ rfl
  have J1 : Inv X pins σ H s1 := I.call' (ch := []) o1 (Un.kept k1) (I.hok.kept k1) (by rw [g1]; exact I.bare) (fun _ z => nomatch z)
  refine wpAny_bind (wpAny_holding (wpAny_call_entry PyProof.Rows.slot_list_sort ⟨_, lst1, rfl⟩ PyProof.Rows.entry_list_sort (SrtO.list_sort_ord (swo_keys (keysV s1.heap)) lst1 short (fun two => strs_sortable t1 two) fun ov a1 a2 => ⟨_, rfl, ?_⟩) (PyProof.Rows.args_list_sort _)))
  have rl : RepL G L (ns.map D.str) (ns.map V.str) := repL_of ns
  obtain ⟨vo, w1, w2, w3⟩ := sorted_rep rl (vals_of t1) (fun d v u hd rd ru => by
    obtain ⟨x, _, rfl⟩ := List.mem_map.mp hd
    simp only [Rep] at rd; subst rd
    obtain ⟨t, rfl⟩ := ru
    rfl) a1 a2
  obtain ⟨eF, heF⟩ := PyProof.Rows.sortedHeap_at (vs := vs) (out := ov.toArray) lst1
  have kF : ∀ b o, s1.heap.get? b = some o → (PyProof.Rows.sortedHeap (s1.heap.push (PyProof.Rows.seqObj "list" vs.toArray 0)) s1.heap.objs.size vs ov.toArray).get? b = some o := fun b o e => by
    have lt := Heap.lt_size e
    exact (PyProof.Rows.sortedHeap_old (Nat.ne_of_lt lt) (by rw [Heap.size_push]; exact Nat.lt_succ_of_lt lt)).trans (Heap.get?_push_of_some _ e)
  have J : Inv X pins σ (L2.upd H s1.heap.objs.size (.lst vo)) { s1 with heap := PyProof.Rows.sortedHeap (s1.heap.push (PyProof.Rows.seqObj "list" vs.toArray 0)) s1.heap.objs.size vs ov.toArray } :=
    J1.laid (t' := s1.toks) kF (Nat.le_refl _) ⟨by rw [w3, List.length_map]; rw [PyProof.Rows.StrsAre.len_eq t1] at short; exact short, ov, eF, w1, heF⟩
  refine wpAny_pure ⟨_, rfl, .ref _, _, J, rfl, ?_⟩
  rw [← sort_perm pl.symm] at q
  exact q.lst k w2 _ (J1.hok.fresh (Nat.le_refl _))
theorem s_sortS {a : Expr} {c : O} {p p2 pos cpos : Pos} (F : Fit G T C n X W) (hcal : T.cal = true) (hg : Gl X "sorted") (hm : X.mg "sorted" = none) (hg2 : Gl X "set") (hm2 : X.mg "set" = none) (hn : noStar a = true) (h : SO G C W X a c) :
    SE G C W X (.Call (.Name "sorted" p) [.Call (.Name "set" p2) [a] [] cpos] [] pos) (.blt .sortedSet (.cons c .nil)) :=
  (pe_callB (cr_ss F hcal) hg hm (by decide +kernel) (pa_cons (pe_callTy (cr_st F hcal) hg2 hm2 (by decide +kernel) (pa_cons h pa_nil (star_cons hn)) (by decide) (by decide) (star_cons hn) rfl) pa_nil (star_cons rfl)) (by decide) (by decide) (star_cons rfl) rfl).imp fun σ H Q ⟨L, η, Z, en, k, q⟩ => by
    simp only [ev, evOs, Res.assoc, Res.ok_bind] at q
    refine rdO_of en k q fun d Z1 L1 H1 v st r q => ?_
    obtain ⟨ds, e1, q⟩ := q.opt
    obtain ⟨dr, e2, q⟩ := q.opt
    obtain ⟨v1, vr, e3, nw, e4⟩ : ∃ v1 vr, [v] = v1 :: vr ∧ NowL G L1 H1 ds [v] ∧ vr = [] := ⟨v, [], rfl, see_all st.ok (os := [d]) (vs := [v]) ⟨v, [], rfl, r, rfl⟩ e1, rfl⟩
    unfold bltD at e2
    split at e2
    · rename_i d1
      obtain ⟨v2, e5, nd⟩ := nw.one
      cases e5
      have e2 : sortedSetD d1 = some dr := e2
      unfold sortedSetD at e2
      split at e2
      · rw [Option.bind_eq_some_iff] at e2
        obtain ⟨zs, e6, e7⟩ := e2
        obtain ⟨hz, rfl⟩ := ite_some e7
        obtain ⟨a1, ws, rfl, h1, rl⟩ := nd
        obtain rfl := repL_strs rl e6
        refine ⟨a1, zs, rfl, h1, hz, fun p1 hp1 => ⟨L1, Z1, p1, onces zs, rfl, upd_same, st.ok.extra (st.ok.fresh hp1), ?_, onces_nodup zs [] List.nodup_nil, fun L' H' v' s' r' => q L' H' ((Step.upd (.refl st.ok) hp1 (st.ok.fresh hp1)).trans s') v' r'⟩⟩
        have := onces_len zs []
        simp only [List.length_nil] at this
        unfold onces
        omega
      · cases e2
    · cases e2
end
end Py
end
section
set_option Elab.async false
set_option linter.all false
set_option maxRecDepth 100000
set_option maxHeartbeats 4000000
/-! PyL: errors: raised, caught, read. -/
namespace Py
open PySem PySem.Spec L2
/-- the same program, another error in hand -/
def Pg.wc (G : Pg) (cur : Addr → Nat → Addr → Prop) : Pg := { G with cur := cur }
section
variable {G : Pg} {x : Addr → Nat → Addr → Prop} {L L' : Lk} {H H' : Hp} {Z Z' : Sto}
mutual
theorem Rep.wc : ∀ (d : D) (v : V), Rep (G.wc x) L d v ↔ Rep G L d v
  | .non, _ => by simp only [Rep]
  | .bl _, _ => by simp only [Rep]
  | .int _, _ => by simp only [Rep]
  | .str _, _ => by simp only [Rep]
  | .tup ds, v => by
    simp only [Rep]
    exact exists_congr fun p => exists_congr fun vs => and_congr_right fun _ => and_congr_right fun _ => RepL.wc ds vs
  | .lst ds, v => by
    simp only [Rep]
    exact exists_congr fun p => exists_congr fun vs => and_congr_right fun _ => and_congr_right fun _ => RepL.wc ds vs
  | .dct ds, v => by
    simp only [Rep]
    exact exists_congr fun p => exists_congr fun vs => and_congr_right fun _ => and_congr_right fun _ => RepK.wc ds vs
  | .tupU ds, v => by
    simp only [Rep]
    exact exists_congr fun p => exists_congr fun vs => and_congr_right fun _ => and_congr_right fun _ => RepL.wc ds vs
  | .fn f, v => by simp only [Rep]; exact Iff.rfl
  | .exc c d, v => by
    simp only [Rep]
    exact exists_congr fun C => exists_congr fun e => exists_congr fun δ => exists_congr fun w => and_congr_right fun _ => and_congr_right fun _ => and_congr_right fun _ => and_congr_right fun _ => Rep.wc d w
  | .loc k, v => by simp only [Rep]
theorem RepL.wc : ∀ (ds : List D) (vs : List V), RepL (G.wc x) L ds vs ↔ RepL G L ds vs
  | [], _ => by simp only [RepL]
  | d :: ds, vs => by
    simp only [RepL]
    exact exists_congr fun v => exists_congr fun r => and_congr_right fun _ => and_congr (Rep.wc d v) (RepL.wc ds r)
theorem RepK.wc : ∀ (ds : List (Key × D)) (vs : List (Key × V)), RepK (G.wc x) L ds vs ↔ RepK G L ds vs
  | [], _ => by simp only [RepK]
  | (k, d) :: ds, vs => by
    simp only [RepK]
    exact exists_congr fun v => exists_congr fun r => and_congr_right fun _ => and_congr (Rep.wc d v) (RepK.wc ds r)
end
theorem CellOk.wc {c : Cell} {a : Addr} : CellOk (G.wc x) L H c a ↔ CellOk G L H c a := by
  cases c with
  | lst xs => exact and_congr_right fun _ => exists_congr fun vs => and_congr_right fun _ => RepL.wc _ _
  | dct xs => exact and_congr_right fun _ => exists_congr fun vs => and_congr_right fun _ => RepK.wc _ _
  | frz d => exact and_congr_right fun _ => Rep.wc _ _
theorem LOk.wc : LOk (G.wc x) L Z H ↔ LOk G L Z H :=
  ⟨fun k => ⟨k.subx, k.lenS, k.lenT, k.nd, fun i c a h1 h2 => CellOk.wc.mp (k.cS i c a h1 h2), fun i c a h1 h2 => CellOk.wc.mp (k.cT i c a h1 h2)⟩,
   fun k => ⟨k.subx, k.lenS, k.lenT, k.nd, fun i c a h1 h2 => CellOk.wc.mpr (k.cS i c a h1 h2), fun i c a h1 h2 => CellOk.wc.mpr (k.cT i c a h1 h2)⟩⟩
theorem Step.wc : Step (G.wc x) L H L' Z' H' ↔ Step G L H L' Z' H' :=
  ⟨fun s => ⟨LOk.wc.mp s.ok, s.le, s.out, s.keep, s.new⟩, fun s => ⟨LOk.wc.mpr s.ok, s.le, s.out, s.keep, s.new⟩⟩
theorem ExcOk.wc {c : Nat} {d : D} {cls : Value} {dd : Option Addr} : ExcOk (G.wc x) L H c d cls dd ↔ ExcOk G L H c d cls dd :=
  exists_congr fun C => exists_congr fun δ => exists_congr fun v => and_congr_right fun _ => and_congr_right fun _ => and_congr_right fun _ => and_congr_right fun _ => Rep.wc _ _
theorem EnvOk.wc {η : Vars} {σ : L2.St} (h : EnvOk G L η σ) (hn : noExc η = true) : EnvOk (G.wc x) L η σ := by
  refine ⟨h.len, fun i o e => ?_⟩
  have q := h.at_ i o e
  cases o with
  | none => trivial
  | some s =>
    cases s with
    | val d => obtain ⟨v, e1, r⟩ := q; exact ⟨v, e1, (Rep.wc _ _).mpr r⟩
    | tmp k => exact q
    | exc c d =>
      have := List.all_eq_true.mp hn _ (List.mem_of_getElem? e)
      cases this
theorem spF_wc {C : Orc} {f ar : Nat} : spF (G.wc x) C f ar = spF G C f ar := by
  funext vs H Q E
  unfold spF
  refine propext (exists_congr fun L => exists_congr fun S => exists_congr fun ds => and_congr_right fun _ => and_congr_right fun _ => and_congr (RepL.wc _ _) (and_congr LOk.wc ?_))
  cases C f ds S with
  | ok p => exact forall_congr' fun L' => forall_congr' fun H' => forall_congr' fun v => by rw [Step.wc, Rep.wc]
  | exn c d Z' => exact forall_congr' fun L' => forall_congr' fun H' => forall_congr' fun cls => forall_congr' fun dd => by rw [Step.wc, ExcOk.wc]
  | bad => exact Iff.rfl
theorem FnFact.wc {C : Orc} {n : Nat} {X : Cx} {f : Nat} {info : FnInfo} (h : FnFact G C n X f info) : FnFact (G.wc x) C n X f info := by
  obtain ⟨a, fd, h1, h2, h3, h4, h5⟩ := h
  refine ⟨a, fd, h1, h2, h3, h4, fun cal hc => ?_⟩
  rw [spF_wc]
  exact h5 cal hc
end
end Py
namespace PySem
namespace PyX
open PySem.W PySem.Calls PyProof.Rows PySem.HandSPX
/-! ### the text of __init__ -/
def iA (fld : Str) (p1 p2 : Pos) : Arguments := { posonlyargs := [], args := [{ arg := "self", annotation := none, pos := p1 }, { arg := fld, annotation := none, pos := p2 }], vararg := none, kwonlyargs := [], kw_defaults := [], kwarg := none, defaults := [] }
def iB (fld : Str) (q1 q2 q3 q4 : Pos) : List Stmt := [.Assign [.Attribute (.Name "self" q1) fld q2] (.Name fld q3) q4]
def iS (fld : Str) : Scope := { kind := .function, names := [(PySem.Str.ofString "self", .local), (fld, .local)], isGenerator := false, isCoroutine := false, more := [] }
/-- what the written part says of Low, at C, and of its __init__, at fI -/
structure LowTxt (K : Frag) (mg : Str → Option Value) (cn fld : Str) (C fI : Addr) : Prop where
  hf : fld = "given" ∨ fld = "index"
  gC : mg cn = some (.ref C)
  cls : ∃ nm q N bs bm sn sub ab col dd k0 k1 k2 k3 k5, K.lookup C = some (excClassObj nm q C N bs bm true sn sub ab col dd k0 k1 k2 k3 k5 "ValueError.__new__") ∧ refsVE bm = true
  sa : findIn K (.ref C) "__setattr__" = some (some (.builtin "object.__setattr__"))
  ga : findIn K (.ref C) "__getattribute__" = some (some (.builtin "BaseException.__getattribute__"))
  gg : findIn K (.ref C) "__getattr__" = some none
  noN : findIn K (.ref C) fld = some none
  iC : findIn K (.ref C) "__init__" = some (some (.ref fI))
  tC : typeIn K (.ref fI) = some (.type "function")
  kC : keepIn K (.ref C) = true
  exC : subIn K (.ref C) (.type "BaseException") = some true
  tyC : typeIn K (.ref C) = some (.type "type")
  hdC : hasDictIn K C = true
  te : exmOne K (.ref C) (.ref C) = some true
  fn : ∃ (qn : Str) (oc : Value) (od : Option Addr) (kV doc pm : Value) (an : Option Addr) (cdv ct : Value) (osl : Array (Option Value)) (p1 p2 q1 q2 q3 q4 : Pos),
    K.lookup fI = some ⟨oc, od, .func (fnOf "__init__" qn (iA fld p1 p2) (iB fld q1 q2 q3 q4) (iS fld) .none kV doc pm an cdv ct), osl⟩ ∧ codeIn K cdv qn = true
theorem one_size (v : Value) : [v].length ≤ sizeLine := by
  rw [sizeLine_eq]
  exact (by decide : 1 ≤ 16777216)
theorem kept_but {K : Frag} {h h' : Heap} {x : Addr} (X : K.In h) (hx : K.lookup x = none) (k : ∀ b o, b ≠ x → h.get? b = some o → h'.get? b = some o) : K.In h' := fun a o e =>
  k a o (fun z => by rw [z, hx] at e; cases e) (X a o e)
theorem ldC {M : Model} {s : Shared} {name : Str} {scope : Scope} {L a : Addr} {cd : Value} {m : Str → Option Value} {x : Str} {pos : Pos} {v : Value} {Q : Value → Shared → Prop} {A : Around} {E : Value → Shared → Prop} (hn : s.heap.Ns L m) (hv : m x = some v) (h : Q v s)
    (hk : scope.kind = .function := by rfl) (hl : (envOfC name scope L a cd).kindOf x = some .local := by rfl) (hd : (x == ("__debug__" : Str)) = false := by decide) :
    wpAny M A (eval (.Name x pos) (envOfC name scope L a cd)) Q E s := wpAny_Name (wpAny_loadName_local hk hl hn hv h) hd
/-- what __init__ leaves of a fresh exception at x -/
structure InitEnd (fld : Str) (h h' : Heap) (x C dx t1 : Addr) (v : Value) : Prop where
  keep : ∀ b o, b ≠ x → h.get? b = some o → h'.get? b = some o
  obj : h'.get? x = some { cls := .ref C, dict := some dx, data := .fields #[.ref t1, .none, .none, .none, .bool false, .none] }
  dbig : h.objs.size ≤ dx
  dne : dx ≠ x
  ns : h'.Ns1 dx (fun y => if y = fld then some v else none)
/-- a made Low -/
structure OwnMade (fld : Str) (h h' : Heap) (e C d : Addr) (v : Value) : Prop where
  keep : ∀ b o, h.get? b = some o → h'.get? b = some o
  new : h.objs.size ≤ e
  obj : ∃ oe vs, h'.get? e = some oe ∧ oe.cls = .ref C ∧ oe.dict = some d ∧ oe.data = .fields vs ∧ vs[1]? = some .none ∧ vs[2]? = some .none
  dbig : h.objs.size ≤ d
  dne : d ≠ e
  ns : h'.Ns1 d (fun y => if y = fld then some v else none)
section
variable {prog : Program} {w : World} {A : Around} {E : Value → Shared → Prop} {R : Result → Shared → Prop} {s : Shared} {K : Frag} {mg : Str → Option Value} {cn fld : Str} {C fI : Addr}
theorem low_init (T : LowTxt K mg cn fld C fI) {x t0 : Addr} {v : Value} (X : K.In s.heap) (hlim : s.heap.NoLimit) (hx : s.heap.get? x = some (excO C t0)) (hnx : K.lookup x = none) (hroom : A.depth < recursionLimit)
    (hq : ∀ h' tk dx, InitEnd fld s.heap h' x C dx t0 v → R (.ok (.ret .none)) { s with heap := h', toks := tk }) :
    codeAny (model prog w) A (.call (.ref fI) ⟨[.ref x, v], []⟩) R s := by
  rcases T.hf with e | e <;> subst e
  all_goals
    obtain ⟨qn, oc, od, kV, doc, pm, an, cdv, ct, osl, p1, p2, q1, q2, q3, q4, ho, hcd⟩ := T.fn
    obtain ⟨cnm, q, N, bs, bm, sn, sub, ab, col, dd, k0, k1, k2, k3, k5, clsAt, mroOk⟩ := T.cls
    have hcl : clsIn K C = some { name := cnm, bases := bs, mro := .ref C :: bm, ns := N, qualname := q, hasDict := true, slotNames := sn, subclasses := sub, abstract := ab, collection := col, hasDel := false } := by unfold clsIn; rw [clsAt] <;> rfl
    refine Att.call_fn (binds := [("self", .ref x), (_, v)]) X hlim ho hcd hroom (BindsTo.of_eq (by first | rfl | with_unfolding_all rfl)) (by first | rfl | decide | with_unfolding_all rfl) (fun s₁ IC => ?_) rfl rfl rfl
    obtain ⟨h₁, tk₁, rfl⟩ := IC.toInCall.same
    have k : ∀ b o, s.heap.get? b = some o → h₁.get? b = some o := IC.toInCall.keep
    have hn := IC.toInCall.ns
    have hxL : s.heap.objs.size ≠ x := Nat.ne_of_gt (Heap.lt_size hx)
    have X₁ : K.In h₁ := X.keeps k
    have hx₁ := k _ _ hx
    -- self.by = by
    show wpAny _ _ (execs _ _) _ _ _
    refine wpAny_execs_cons (plainObj_wpAny_Assign_Attribute ?_)
    refine ldC (v := v) hn (by first | rfl | with_unfolding_all rfl | kernel_rfl) (ldC (v := .ref x) hn (by first | rfl | with_unfolding_all rfl | kernel_rfl) ?_)
    refine set_plain X₁ (ox := excO C t0) (od := none) ⟨hx₁, rfl, rfl, trivial⟩ T.sa ?_
    refine exc_osa X₁ hx₁ hcl (show refsVE (.ref C :: bm) = true from mroOk) rfl T.noN (fun h₃ tk₃ dx k₃ dn dne hx₃ hn₃ => ?_)
    show wpAny _ _ (execs _ _) _ _ _
    have z : s.heap.objs.size < h₁.objs.size := hn.lt
    exact wpAny_execs_nil (hq h₃ tk₃ dx ⟨fun b o hb e => k₃ b o hb (k b o e), hx₃, Nat.le_of_lt (Nat.lt_of_lt_of_le z dn), dne, hn₃⟩)
theorem low_made (T : LowTxt K mg cn fld C fI) {v : Value} (X : K.In s.heap) (hlim : s.heap.NoLimit) (hroom : A.depth + 1 < recursionLimit)
    (hq : ∀ h' tk e d, OwnMade fld s.heap h' e C d v → R (.ok (.ret (.ref e))) { s with heap := h', toks := tk }) :
    codeAny (model prog w) A (.call (.ref C) ⟨[v], []⟩) R s := by
  obtain ⟨cnm, q, N, bs, bm, sn, sub, ab, col, dd, k0, k1, k2, k3, k5, clsAt, mroOk⟩ := T.cls
  obtain ⟨hp, g, dr, tk, os⟩ := s
  have k : ∀ b o, hp.get? b = some o → ((hp.push (kdv_tup [v])).push (excO C hp.objs.size)).get? b = some o := fun b o e => Heap.get?_push_of_some _ (Heap.get?_push_of_some _ e)
  have hget : ((hp.push (kdv_tup [v])).push (excO C hp.objs.size)).get? (hp.objs.size + 1) = some (excO C hp.objs.size) := by heap_get
  have hnx : K.lookup (hp.objs.size + 1) = none := by
    cases e : K.lookup (hp.objs.size + 1) with
    | none => rfl
    | some o =>
      have z : hp.get? (hp.objs.size + 1) = some o := X _ _ e
      exact absurd (Nat.lt_of_succ_lt (Heap.lt_size z)) (Nat.lt_irrefl _)
  refine call_own F.excBase_ValueError (fun X => refsVE_contains X bm mroOk) (X _ _ clsAt) (looks_findIn X T.iC) (fun self => bind_fn X self T.tC) (one_size v) ?_
  refine low_init (s := ⟨(hp.push (kdv_tup [v])).push (excO C hp.objs.size), g, dr, tk, os⟩) T (X.keeps k) (hlim.keeps k) hget hnx ?_ fun h' tk' dx ⟨k', hx, dn, dne, hns⟩ => ?_
  · show A.depth + 1 < recursionLimit
    exact hroom
  · have old : ∀ b o, hp.get? b = some o → h'.get? b = some o := fun b o e => k' b o (Nat.ne_of_lt (Nat.lt_succ_of_lt (Heap.lt_size e))) (k b o e)
    have z : hp.objs.size + 1 + 1 ≤ dx := by
      first
        | (simpa only [Heap.size_push] using dn)
        | exact dn
        | (have q := dn; rw [Heap.size_push, Heap.size_push] at q; exact q)
    exact ⟨rfl, hq h' tk' (hp.objs.size + 1) dx ⟨old, Nat.le_succ _, ⟨_, _, hx, rfl, rfl, rfl, rfl, rfl⟩, Nat.le_trans (Nat.le_trans (Nat.le_succ _) (Nat.le_succ _)) z, dne, hns⟩⟩
end
end PyX
end PySem
namespace L2
open PySem PySem.Spec PyProof.Rows
theorem relO_low {fld : Str} {v : V} {v' : Value} (r : RelV v v') (f : Str) : RelO (List.lookup f [(fld, v)]) (if f = fld then some v' else none) := by
  by_cases hw : f = fld
  · subst hw
    rw [if_pos rfl]
    have q : List.lookup f [(f, v)] = some v := by simp [List.lookup]
    rw [q]
    exact r
  · rw [if_neg hw]
    have qw : (f == fld) = false := by simpa using hw
    have q2 : List.lookup f [(fld, v)] = none := by simp [List.lookup, qw]
    rw [q2]
    trivial
section
variable {X : Cx} {cn fld : Str} {C fI : Addr}
/-- Low(e) -/
def tMkLow (fld : Str) (C : Addr) (ta : TA) : St → Hp → XK → Prop := fun σ H Q => ta σ H fun vs H1 => ∃ v, vs = [v] ∧ ∀ d, H1 d = none → Q (.ref C) (some d) (upd H1 d (.xd [(fld, v)]))
theorem pmk_low {a : Expr} {ta : TA} {p pos : Pos} {k : Nat} (T : PySem.PyX.LowTxt X.K X.mg cn fld C fI) (hr : Room k X.A) (ha : PA X [a] ta) (hg : Gl X cn) (hdb : (cn == ("__debug__" : Str)) = false)
    (he : starEach (a :: []) X.env = (false, eval a X.env) :: starEach [] X.env := by rfl) (hpl : (backTo pos (starEach [] X.env)).any (·.1) = false := by rfl) :
    L2N.PMk X (.Call (.Name cn p) [a] [] pos) (tMkLow fld C ta) := by
  intro pins s σ H Q I h
  refine wpAny_Call_Name_kw (ld_glob I hg T.gC ?_ hdb)
  refine PySem.W.callWith_K (h₀ := X.base) I.ok.mod.kin T.kC (thn (ha.run pos pins s σ H _ I h) fun us s1 hh => ?_) he hpl
  obtain ⟨vs, H1, I1, r1, v, ev, q1⟩ := hh
  subst ev
  refine ⟨I1.kIn, ?_⟩
  cases r1 with
  | cons rv rn =>
    rename_i v' us'
    cases rn
    show wpAny _ _ (call (.ref C) [v']) _ _ _
    have hlim := I1.nolimit
    obtain ⟨hp, g, dr, tk, os⟩ := s1
    refine wpAny_call (PySem.PyX.low_made T I1.kIn hlim (by have := hr.dp; omega) fun h' tk' e d M => ?_)
    show L2N.MkP X pins σ Q (.ref e) ⟨h', g, dr, tk', os⟩
    obtain ⟨oe, fv, hoe, hc, hd, hdat, h1, h2⟩ := M.obj
    have hns := M.ns
    obtain ⟨G', g1, g2⟩ := restrict h' fun b => decide (b ≠ e)
    have gk : ∀ b, b ≠ e → G'.get? b = h'.get? b := fun b hb => g1 b (decide_eq_true hb)
    have ge : G'.get? e = none := g2 e (by simp)
    have old : ∀ b o, hp.get? b = some o → G'.get? b = some o := fun b o q => (gk b (Nat.ne_of_lt (Nat.lt_of_lt_of_le (Heap.lt_size q) M.new))).trans (M.keep b o q)
    have ob : ObjOk X.prog X.w (upd H1 d (.xd [(fld, v)])) G' d (.xd [(fld, v)]) :=
      ⟨_, hns.at (fun o q => (gk d M.dne).trans q), fun f => relO_low rv f⟩
    have J : Inv X pins σ (upd H1 d (.xd [(fld, v)])) ⟨G', g, dr, tk', os⟩ := I1.laid (t' := tk') old M.dbig ob
    refine ⟨e, oe, fv, ⟨G', g, dr, tk', os⟩, _, .ref C, some d, rfl, J, fun b o q => ?_, ge, hoe, ⟨hc, hd, fun ws q => by rw [hdat] at q; cases q; exact h2⟩, hdat, h1, ?_, rfl, I1.bare, raises_own T.exC T.tyC, q1 d (I1.hok.fresh M.dbig)⟩
    · by_cases hb : b = e
      · have q' : G'.get? b = some o := q
        rw [hb, ge] at q'; cases q'
      · exact (gk b hb).symm.trans q
    · rw [upd_ne (Ne.symm M.dne)]
      exact I1.hok.fresh M.new
/-- raise Low(e) -/
def tRaiseLow (fld : Str) (C : Addr) (W : WX) (ta : TA) : TS := fun _ σ H => tMkLow fld C ta σ H fun cls d H' => W cls d σ H'
theorem ps_raiseLow {a : Expr} {ta : TA} {W : WX} {p pos pos2 : Pos} {k : Nat} (hc : X.calm = true) (T : PySem.PyX.LowTxt X.K X.mg cn fld C fI) (hr : Room k X.A) (tk : L2N.Takes X W) (ha : PA X [a] ta) (hg : Gl X cn) (hdb : (cn == ("__debug__" : Str)) = false)
    (he : starEach (a :: []) X.env = (false, eval a X.env) :: starEach [] X.env := by rfl) (hpl : (backTo pos (starEach [] X.env)).any (·.1) = false := by rfl) :
    PS X (.Raise (some (.Call (.Name cn p) [a] [] pos)) none pos2) (tRaiseLow fld C W ta) := L2N.ps_raise hc tk (pmk_low T hr ha hg hdb he hpl)
/-- low.by, low the exception that the suite holds (at a; its class cls, its dict d) -/
def tByLow (fld : Str) (C : Addr) (a : Addr) (cls : Value) (d : Option Addr) (te : TE) : TE := fun σ H Q => te σ H fun x H1 => x = .ref a ∧ cls = .ref C ∧ ∃ (dd : Addr) (v : V), d = some dd ∧ Rd H1 dd (.xd [(fld, v)]) ∧ Q v H1
theorem pe_byLow {a : Addr} {oe : Obj} {cls : Value} {d : Option Addr} {pn : List (Addr × Obj)} {e : Expr} {te : TE} {pos : Pos} (T : PySem.PyX.LowTxt X.K X.mg cn fld C fI) (hz : Zc cls d oe) (hf : ∃ vs, oe.data = .fields vs) (he : PE (X.suite a ((a, oe) :: pn)) e te)
    (hb : attributeBase e fld X.env (eval e X.env) = eval e X.env := by rfl) :
    PE (X.suite a ((a, oe) :: pn)) (.Attribute e fld pos) (tByLow fld C a cls d te) := by
  refine ⟨fun pins s σ H Q I h => ?_⟩
  refine attr_of hb (thn (he.run pins s σ H _ I h) fun u s1 hh => ?_)
  obtain ⟨x, H1, I1, rx, ex, ec, dd, v, ed, ea, q⟩ := hh
  subst ex
  obtain rfl : u = Value.ref a := rx
  subst ec
  subst ed
  obtain ⟨at1, _⟩ := I1.pin (a, oe) (List.mem_append_left _ List.mem_cons_self)
  obtain ⟨vs, hd⟩ := hf
  have hx : ObjOk X.prog X.w H1 s1.heap dd (.xd [(fld, v)]) := ea.ok I1.hok
  obtain ⟨mA, hns, hr⟩ := hx
  obtain ⟨dob, ho, look1⟩ := lookIn_ns hns
  have l : List.lookup fld [(fld, v)] = some v := by simp [List.lookup]
  obtain ⟨u, hu, ru⟩ := RelO.some_of (v := v) (o := mA fld) (by rw [← l]; exact hr fld)
  have inst : PySem.W.InstAt s1.heap a oe C (some dob) := ⟨at1, hz.1, by unfold PySem.W.notCls; rw [hd] <;> rfl, by rw [hz.2]; exact ho⟩
  exact HandSPX.exc_get I1.kIn inst T.ga T.gg T.exC (PySem.W.findObj_own T.hdC T.noN rfl (by rw [look1, hu])) (handed_of ru) ⟨v, H1, I1.tok _, ru, q⟩
end
end L2


namespace Py
open PySem PySem.Spec L2
/-- what isinstance of such an error asks -/
structure KxT (K : PySem.W.Frag) (C : Addr) : Prop where
  ha : PySem.W.findIn K (.ref C) "__class__" = some (some (.builtin "object.__class__"))
  hn : PySem.W.specialIn K (.builtin "object.__class__") "__get__" = some (some (.builtin "getset_descriptor.__get__"))
  tk : PySem.W.takesIn K (.builtin "object.__class__") = some true
  hm : PySem.W.mroIn K C (.type "object") = some true
/-- the error classes -/
structure ExFit (G : Pg) (T : Tab) (K : PySem.W.Frag) (mg : Str → Option Value) : Prop where
  exs : ∀ (c : Nat) nm fld, T.exs[c]? = some (nm, fld) → ∃ C fI, PySem.PyX.LowTxt K mg nm fld C fI ∧ G.ca c C ∧ G.fld c = fld
  ca : ∀ c C, G.ca c C → ∃ nm fld fI, T.exs[c]? = some (nm, fld) ∧ PySem.PyX.LowTxt K mg nm fld C fI ∧ G.fld c = fld
  hds : ∀ h ∈ T.hds, ∃ v, (mg h.1 = some v ∨ (mg h.1 = none ∧ bootBuiltins h.1 = some v ∧ h.1 ≠ "__name__")) ∧ ((∃ Cx, v = .ref Cx) ∨ ∃ t, v = .type t) ∧ ∀ c C, G.ca c C → PySem.W.exmOne K (.ref C) v = some (h.2.contains c)
  kx : ∀ c C, G.ca c C → KxT K C
section
variable {G : Pg} {T : Tab} {C : Orc} {n : Nat} {X : Cx} {W : WX} {E : XK} {e a b : Expr} {es : List Expr} {st : Stmt} {sts : List Stmt} {pos p p2 pos2 : Pos}
theorem t_raise {x fld : Str} {c : Nat} {ce : Py.E} (F : Fit G T C n X (wK E)) (FX : ExFit G T X.K X.mg) (hcal : T.cal = true) (hx : T.exs[c]? = some (x, fld)) (hg : Gl X x) (hd : (x == ("__debug__" : Str)) = false) (hn : noStar a = true) (h : SE G C (wK E) X a ce) :
    SS G C E X (.Raise (some (.Call (.Name x p) [a] [] pos)) none pos2) (.raise c ce) := by
  obtain ⟨Cc, fI, LT, ca, fl⟩ := FX.exs c x fld hx
  have hr : Room n X.A := ⟨by have := F.mode; unfold CxMode at this; rw [if_pos hcal] at this; exact this, F.room.dp, F.room.un⟩
  refine (ps_raiseLow (F.calm hcal) LT hr F.tk (pa_cons h pa_nil (star_cons hn)) hg hd (star_cons hn) rfl).imp fun D σ H ⟨L, η, Z, en, k, q⟩ => ?_
  simp only [ex] at q
  refine rdE_s en k q fun d Z1 L1 H1 v st r q => ⟨v, rfl, fun δ hδ => ?_⟩
  exact q _ _ _ _ (st.ok.newF hδ) ⟨Cc, δ, v, ca, rfl, rfl, by rw [fl]; exact .inl addF_self, Rep.mono (st.ok.le_addF hδ) _ _ r⟩
theorem pe_some {ι : Type} {P : ι → Prop} {t : ι → TE} (h : ∀ i, P i → PE X e (t i)) : PE X e (fun σ H Q => ∃ i, P i ∧ t i σ H Q) := ⟨fun pins s σ H Q I ⟨i, hp, q⟩ => (h i hp).run pins s σ H Q I q⟩
/-- what is in hand in a suite -/
def inHand (G : Pg) (a : Addr) (cls : Value) (dd : Option Addr) : Addr → Nat → Addr → Prop := fun a' c δ => a' = a ∧ dd = some δ ∧ ∃ C, cls = .ref C ∧ G.ca c C
/-- e.given -/
theorem s_exf {x fld : Str} {i : Nat} {cs : List Nat} {ad : Addr} {oe : Obj} {cls : Value} {dd : Option Addr} {pn : List (Addr × Obj)} (FX : ExFit G T X.K X.mg) (hz : Zc cls dd oe) (hf : ∃ vs, oe.data = .fields vs)
    (hcs : cs.all (fun c => match T.exs[c]? with | some y => y.2 == fld | none => false) = true) (hN : X.N[i]? = some x) (hv : Vis X.env.scope x) (hd : (x == ("__debug__" : Str)) = false) (hcd : (x == ("__classdict__" : Str)) = false) :
    SE (G.wc (inHand G ad cls dd)) C W (X.suite ad ((ad, oe) :: pn)) (.Attribute (.Name x p) fld pos) (.exf i cs) := by
  refine (pe_some (ι := Addr × Str × Addr) (P := fun q => PySem.PyX.LowTxt X.K X.mg q.2.1 fld q.1 q.2.2) (t := fun q => tByLow fld q.1 ad cls dd (tVar i)) fun q hq => pe_byLow hq hz hf (pe_var hN hv hd hcd) rfl).imp fun σ H Q ⟨L, η, Z, en, k, q⟩ => ?_
  simp only [ev] at q
  split at q
  · rename_i c d hi
    obtain ⟨hc, q⟩ := q.ite
    obtain ⟨a', δ, w, e1, ⟨rfl, rfl, Cc, rfl, ca⟩, e3, e4⟩ := en.at_ i _ hi
    obtain ⟨nm, fld', fI, h1, LT, h2⟩ := FX.ca c Cc ca
    have h3 := List.all_eq_true.mp hcs c (List.contains_iff_mem.mp hc)
    rw [h1] at h3
    have h3 : fld' = fld := by simpa using h3
    subst h3
    refine ⟨(Cc, nm, fI), LT, .ref a', e1, rfl, rfl, δ, w, rfl, ?_, q.ok k w e4⟩
    have := k.sub δ _ e3
    rw [show (G.wc (inHand G a' (.ref Cc) (some δ))).fld c = fld' from h2] at this
    exact this
  · exact q.elim
/-- try: e | return e; except x as n: suite -/
theorem t_tryE {x nm : Str} {c : Value} {i : Nat} {cs : List Nat} {ce : Py.E} {cb : Sms} {b0 : Stmt} {suite : List Stmt} {np pos' : Pos} {ret : Bool} (F : Fit G T C n X (wK E)) (FX : ExFit G T X.K X.mg) (hcal : T.cal = true)
    (hs : X.stack = X.env :: X.outer) (hf : X.env.frame = some X.env.locals) (hi : X.N[i]? = some nm) (hln : X.env.kindOf nm = some .local) (hh : (x, cs) ∈ T.hds) (hg : Gl X x) (hd : (x == ("__debug__" : Str)) = false) (hnc : notComp e = true)
    (he : ∀ (W : WX) (pn : List (Addr × Obj)) (xe : Value → Shared → Prop), L2N.Takes (X.tr pn xe) W → PassesOwn (model X.prog X.w) X.A X.env xe → SE G C W (X.tr pn xe) e ce)
    (hsu : ∀ (ad : Addr) (oe : Obj) (cls : Value) (dd : Option Addr) (pn : List (Addr × Obj)), L2N.Zn cls dd oe → (∃ vs, oe.data = .fields vs) → SSs (G.wc (inHand G ad cls dd)) C (fun _ _ _ => False) (X.suite ad ((ad, oe) :: pn)) (b0 :: suite) cb) :
    SS G C E X (.Try [if ret then .Return (some e) p else .Expr e p] [.ExceptHandler (some (.Name x np)) (some nm) (b0 :: suite) pos'] [] [] pos) (.tryE ret ce i cs cb) := by
  obtain ⟨v, hv, _, hm⟩ := FX.hds _ hh
  refine (L2N.ps_try_as (c := v) (tb := fun W D σ H => rdE G C W ce σ H fun u H' => if ret = true then D.rt u H' else D.nx σ H') (ts := fun ad cls dd => rdSs (G.wc (inHand G ad cls dd)) C (fun _ _ _ => False) cb)
    hs hf F.nd hi hln ⟨hg, hd, hv⟩ F.tk (fun W pn xe tk po => ?_) fun ad oe cls dd pn hz hd => hsu ad oe cls dd pn hz hd).imp fun D σ H ⟨L, η, Z, en, k, q⟩ => ?_
  · cases ret with
    | true => exact pss_one ((ps_ret (he W pn xe tk po)).imp fun D σ H h => h)
    | false => exact pss_one ((ps_expr (he W pn xe tk po) (swaps_no hnc _ _ _)).imp fun D σ H h => h)
  · refine ⟨L, η, Z, en, k, ?_⟩
    simp only [ex] at q
    cases em : ev C ce η Z with
    | ok r =>
      obtain ⟨d, Z1⟩ := r
      rw [em] at q
      intro L' H' st u ru
      cases ret with
      | true => exact q L' H' u st ru
      | false => exact q L' H' σ st (en.mono st.le)
    | bad => rw [em] at q; exact q.elim
    | exn c1 d Z1 =>
      rw [em] at q
      intro L' H' cls dd st x
      obtain ⟨Cc, δ, w, ca, rfl, rfl, h1, h2⟩ := id x
      refine ⟨cs.contains c1, hm c1 Cc ca, fun hb ad had => ?_, fun hb => ?_⟩
      · have q : PstS G E L H (if i < η.length ∧ noExc η = true then (match exs C cb (η.set i (some (.exc c1 d))) Z1 with
          | .ok (.ret d, η, Z) => .ok (.ret d, η, Z)
          | .ok (.next, η, Z) => if noExc (η.set i none) then .ok (.next, η.set i none, Z) else .bad
          | _ => .bad) else .bad) D := by
          have q := q
          simp only [hb, if_true] at q
          exact q
        obtain ⟨⟨hi, hne⟩, q⟩ := q.ite
        have q := PstS.step q st
        refine ⟨L', η.set i (some (.exc c1 d)), Z1, ?_, LOk.wc.mpr st.ok, ?_⟩
        · refine ((en.mono st.le).wc hne).set i (fun σ' e1 => ⟨ad, δ, w, e1, ⟨rfl, rfl, Cc, rfl, ca⟩, h1, (Rep.wc _ _).mpr h2⟩) hi
        · cases es : exs C cb (η.set i (some (.exc c1 d))) Z1 with
          | ok r =>
            obtain ⟨fl, η2, Z2⟩ := r
            rw [es] at q
            cases fl with
            | ret d2 => exact fun L2 H2 u s2 r2 => q L2 H2 u (Step.wc.mp s2) ((Rep.wc _ _).mp r2)
            | next =>
              obtain ⟨hn2, q⟩ := q.ite
              intro L2 H2 σ2 s2 en2
              have s3 := Step.wc.mp s2
              refine q L2 H2 _ s3 ?_
              have en3 := (EnvOk.wc (x := G.cur) (en2.drop i) hn2)
              exact en3
            | brk => exact q.elim
            | cont => exact q.elim
          | exn c d Z => rw [es] at q; exact q.elim
          | bad => rw [es] at q; exact q.elim
      · have q : PstS G E L H (.exn c1 d Z1) D := by
          have q := q
          simp only [hb, Bool.false_eq_true, if_false] at q
          exact q
        exact q L' H' _ _ st x
end
end Py
end
section
set_option Elab.async false
set_option linter.all false
set_option maxRecDepth 100000
set_option maxHeartbeats 4000000
/-! PyLa: several except clauses, with names. -/
namespace Py
open PySem PySem.Spec L2
/-- the ends of a suite that bears a name at i -/
def endsN (D : Ends) (i : Nat) : Ends := { nx := fun σ H => D.nx (σ.set i none) H, rt := D.rt, bk := fun σ H => D.bk (σ.set i none) H, ct := fun σ H => D.ct (σ.set i none) H }
abbrev ClsN := Value × Option Nat × (Addr → Value → Option Addr → TS)
/-- what the clauses, some of them named, wish of an error -/
def wNames (K : PySem.W.Frag) (Wo : WX) (D : Ends) : List ClsN → WX
  | [] => Wo
  | (c, o, ts) :: l => fun cls dd σ H => ∃ hit, PySem.W.exmOne K cls c = some hit ∧
      (hit = true → ∀ ad, H ad = none → match o with
        | none => ts ad cls dd D σ H
        | some i => ts ad cls dd (endsN D i) (σ.set i (some (.ref ad))) H) ∧ (hit = false → wNames K Wo D l cls dd σ H)
inductive HdN (X : Cx) : List ExceptHandler → List ClsN → Prop
  | nil : HdN X [] []
  | bare {x : Str} {c : Value} {ts : Addr → Value → Option Addr → TS} {b0 : Stmt} {bs : List Stmt} {p1 p2 : Pos} {hds : List ExceptHandler} {l : List ClsN} (nm : Names X x c)
      (suite : ∀ (ad : Addr) (ox : Obj) (cls : Value) (dd : Option Addr) (pn : List (Addr × Obj)), L2N.Zn cls dd ox → (∃ vs, ox.data = .fields vs) → PSs (X.suite ad ((ad, ox) :: pn)) (b0 :: bs) (ts ad cls dd)) (r : HdN X hds l) :
      HdN X (.ExceptHandler (some (.Name x p1)) none (b0 :: bs) p2 :: hds) ((c, none, ts) :: l)
  | named {x y : Str} {i : Nat} {c : Value} {ts : Addr → Value → Option Addr → TS} {b0 : Stmt} {bs : List Stmt} {p1 p2 : Pos} {hds : List ExceptHandler} {l : List ClsN} (nm : Names X x c) (hi : X.N[i]? = some y) (hl : X.env.kindOf y = some .local)
      (suite : ∀ (ad : Addr) (ox : Obj) (cls : Value) (dd : Option Addr) (pn : List (Addr × Obj)), L2N.Zn cls dd ox → (∃ vs, ox.data = .fields vs) → PSs (X.suite ad ((ad, ox) :: pn)) (b0 :: bs) (ts ad cls dd)) (r : HdN X hds l) :
      HdN X (.ExceptHandler (some (.Name x p1)) (some y) (b0 :: bs) p2 :: hds) ((c, some i, ts) :: l)
section
variable {X : Cx} {body : List Stmt} {hd0 : ExceptHandler} {hds : List ExceptHandler} {l : List ClsN} {pos : Pos} {tb : WX → TS} {Wo : WX}
theorem ps_tryN (stk : X.stack = X.env :: X.outer) (frm : X.env.frame = some X.env.locals) (nds : X.N.Nodup) (tk : L2N.Takes X Wo)
    (bd : ∀ (W : WX) (pn : List (Addr × Obj)) (xe : Value → Shared → Prop), L2N.Takes (X.tr pn xe) W → PassesOwn (model X.prog X.w) X.A X.env xe → PSs (X.tr pn xe) body (tb W))
    (cl : HdN X (hd0 :: hds) l) : PS X (.Try body (hd0 :: hds) [] [] pos) (fun D σ H => tb (wNames X.K Wo D l) D σ H) := by
  refine ⟨fun pins s σ H D I hyp => ?_⟩
  have iok := I.ok
  have frs0 : X.A.frames = some (X.env :: X.outer) := by rw [iok.frames, stk]
  refine wpAny_Try_except ?_
  refine wpAny_mono ((bd (wNames X.K Wo D l) (X.pn ++ pins) (fun u sa => wpAny (model X.prog X.w) X.A (noteFrame u X.env) (fun _ sb => wpAny (model X.prog X.w) X.A (setFlight u none) (fun _ sc =>
    wpAny (model X.prog X.w) X.A (handleBy u X.env (hd0 :: hds)) (SP X pins D) X.xe sc) X.xe sb) X.xe sa) (fun u s' hx => ?_) PassesOwn.looking).run [] s σ H D (I.toTry _) hyp) (fun fl s1 sp => ?_) (fun u s1 z => z)
  · obtain ⟨ad, B, sI, pins', σ', H', cls, dd, rfl, J0, nb, up, sky, na, os, bare, w⟩ := hx
    have J : Inv X pins σ' H' sI := J0.ofTry iok
    have sky1 : Sky B (X.env :: X.outer) ad (L2N.Zn cls dd) X.env.locals s'.heap := by rw [← stk]; exact sky
    show wpAny (model X.prog X.w) X.A (noteFrame (.ref ad) X.env) _ _ _
    refine L2N.Sky.land L2N.Zn.steady frs0 frm sky1 fun h3 land3 up3 => ?_
    have J3 : Inv X pins σ' H' { s' with heap := h3 } := J.landed nb land3.1 (up.trans up3) os bare
    obtain ⟨o3, f3, at3, z3, d3⟩ := land3.there
    have apart : ad ∉ frs (X.env :: X.outer) := fun hm => by
      obtain ⟨_, o', e', no⟩ := (show h3.FunFrames B (X.env :: X.outer) from land3.2.2.1).mem hm
      rw [at3] at e'
      cases e'
      exact no _ d3
    have nL : ad ≠ X.env.locals := fun z => apart (List.mem_filterMap.mpr ⟨X.env, List.mem_cons_self, by rw [frm, z]⟩)
    have nF : ad ∉ X.fs := fun hm => by
      obtain ⟨e, he, q⟩ := List.mem_filterMap.mp hm
      exact apart (List.mem_filterMap.mpr ⟨e, List.mem_cons_of_mem _ he, q⟩)
    have S3 := J3.suite at3 d3 na nL nF
    have look : PySem.W.Looks (model X.prog X.w) h3 (typeOf (.ref ad)) cls := fun A Q E s k q => wpAny_typeOf_ref (k _ _ at3) (by rw [z3.1]; exact q)
    have name_ : ∀ {x : Str} {c : Value} {p1 : Pos}, Names X x c → ∀ {Q : Value → Shared → Prop} {E : Value → Shared → Prop}, Q c { s' with heap := h3 } → wpAny (model X.prog X.w) (X.A.mark (some (.ref ad))) (eval (.Name x p1) X.env) Q E { s' with heap := h3 } := fun {x c p1} nm {Q E} q => by
      obtain ⟨hg, hdb, hm | ⟨hm, hv, hn⟩⟩ := nm
      · exact ld_glob (X := X.suite ad ((ad, o3) :: (X.pn ++ pins))) S3 hg hm q hdb
      · exact ld_blt (X := X.suite ad ((ad, o3) :: (X.pn ++ pins))) S3 hg hm hv q hn hdb
    have go : ∀ {hs : List ExceptHandler} {ls : List ClsN}, HdN X hs ls → wNames X.K Wo D ls cls dd σ' H' → wpAny (model X.prog X.w) X.A (handleBy (.ref ad) X.env hs) (SP X pins D) X.xe { s' with heap := h3 } := by
      intro hs ls hk
      induction hk with
      | nil =>
        intro w
        refine wpAny_handleBy_nil ?_
        obtain ⟨_, _, _, ox, fv, Tb, oT, tsx, hox, _, hdx, h1x, _⟩ := id land3
        unfold PySem.passOn
        refine wpAny_bind (wpAny_field hox hdx h1x ?_)
        rw [if_neg (show ¬ ((Value.ref Tb == Value.none) = true) from by simp)]
        have out : wpAny (model X.prog X.w) X.A (setFlight (.ref ad) X.env.frame) (fun _ s4 => wpAny (model X.prog X.w) X.A (throw (.ref ad) : Sem PySem.Flow) (SP X pins D) X.xe s4) X.xe { s' with heap := h3 } := by
          rw [frm]
          exact HandSPX.setFlight_upZ land3 fun h4 hh4 up4 => wpAny_throw (tk _ _ ⟨ad, B, sI, pins, σ', H', cls, dd, rfl, J, nb, (up.trans up3).trans up4, .inr (.inr (by rw [stk]; exact hh4)), na, os, bare, w⟩)
        first
          | exact wpAny_bind out
          | exact wpAny_bind (wpAny_pure (wpAny_bind out))
      | @bare x c ts b0 bs p1 p2 hs2 l2 nm suite r ih =>
        intro w
        obtain ⟨hit, hm1, yes, no⟩ := w
        refine wpAny_handleBy_cons (codeAny_handlers_test ?_) (by intro q; cases q)
        refine name_ nm ((PySem.W.exm_one (M := model X.prog X.w) J3.kIn look hm1).here ?_)
        cases hit with
        | true =>
          refine codeAny_handlers_suite (HandSPX.lands_againZ land3 fun h4 land4 up4 => ?_)
          have J4 : Inv X pins σ' H' { s' with heap := h4 } := J.landed nb land4.1 ((up.trans up3).trans up4) os bare
          obtain ⟨o4, f4, at4, z4, d4⟩ := land4.there
          refine wpAny_mono ((suite ad o4 cls dd (X.pn ++ pins) z4 ⟨_, d4⟩).run [] _ _ H' _ (J4.suite at4 d4 na nL nF) (yes rfl ad na)) (fun fl s6 sp => ?_) (fun _ _ z => False.elim z)
          cases fl with
          | next => obtain ⟨σ6, H6, S6, q6⟩ := sp; exact ⟨_, _, S6.unsuite iok, q6⟩
          | brk => obtain ⟨σ6, H6, S6, q6⟩ := sp; exact ⟨_, _, S6.unsuite iok, q6⟩
          | cont => obtain ⟨σ6, H6, S6, q6⟩ := sp; exact ⟨_, _, S6.unsuite iok, q6⟩
          | ret u => obtain ⟨v6, σ6, H6, S6, r6, q6⟩ := sp; exact ⟨_, _, _, S6.unsuite iok, r6, q6⟩
        | false =>
          show wpAny _ X.A (handleBy (.ref ad) X.env hs2) _ _ _
          exact ih (no rfl)
      | @named x y i c ts b0 bs p1 p2 hs2 l2 nm hi hl suite r ih =>
        intro w
        obtain ⟨hit, hm1, yes, no⟩ := w
        refine wpAny_handleBy_cons (codeAny_handlers_test ?_) (by intro q; cases q)
        refine name_ nm ((PySem.W.exm_one (M := model X.prog X.w) J3.kIn look hm1).here ?_)
        cases hit with
        | true =>
          refine codeAny_handlers_suite_as (HandSPX.lands_againZ land3 fun h4 land4 up4 => ?_)
          have J4 : Inv X pins σ' H' { s' with heap := h4 } := J.landed nb land4.1 ((up.trans up3).trans up4) os bare
          obtain ⟨o4, f4, at4, z4, d4⟩ := land4.there
          refine store_ok (X := X.suite ad ((ad, o4) :: (X.pn ++ pins))) (v := .ref ad) (J4.suite at4 d4 na nL nF) nds hi (.inl hl) rfl (fun s5 S5 => ?_) (.inr hl)
          refine wpAny_mono ((suite ad o4 cls dd (X.pn ++ pins) z4 ⟨_, d4⟩).run [] s5 _ H' _ S5 (yes rfl ad na)) (fun fl s6 sp => ?_) (fun _ _ z => False.elim z)
          have off : ∀ {σ6 : L2.St} {H6 : Hp} {Q : Shared → Prop}, Inv (X.suite ad ((ad, o4) :: (X.pn ++ pins))) [] σ6 H6 s6 → (∀ s7, Inv X pins (σ6.set i none) H6 s7 → Q s7) →
              wpAny (model X.prog X.w) X.A (do bindName X.env y .none; unbindBehindTheSuite X.env y p2) (fun _ s7 => Q s7) X.xe s6 := fun {σ6 H6 Q} S6 hq => gone_ok (S6.unsuite iok) nds hi hl hq
          cases fl with
          | next => obtain ⟨σ6, H6, S6, q6⟩ := sp; exact off S6 fun s7 J7 => ⟨_, _, J7, q6⟩
          | brk => obtain ⟨σ6, H6, S6, q6⟩ := sp; exact off S6 fun s7 J7 => ⟨_, _, J7, q6⟩
          | cont => obtain ⟨σ6, H6, S6, q6⟩ := sp; exact off S6 fun s7 J7 => ⟨_, _, J7, q6⟩
          | ret u => obtain ⟨v6, σ6, H6, S6, r6, q6⟩ := sp; exact off S6 fun s7 J7 => ⟨_, _, _, J7, r6, q6⟩
        | false =>
          show wpAny _ X.A (handleBy (.ref ad) X.env hs2) _ _ _
          exact ih (no rfl)
    exact go cl w
  · cases fl with
    | next => obtain ⟨σ', H', J', q⟩ := sp; exact wpAny_execs_nil ⟨σ', H', J'.ofTry iok, q⟩
    | brk => obtain ⟨σ', H', J', q⟩ := sp; exact ⟨σ', H', J'.ofTry iok, q⟩
    | cont => obtain ⟨σ', H', J', q⟩ := sp; exact ⟨σ', H', J'.ofTry iok, q⟩
    | ret u => obtain ⟨v, σ', H', J', r, q⟩ := sp; exact ⟨v, σ', H', J'.ofTry iok, r, q⟩
end
end Py
end
section
set_option Elab.async false
set_option linter.all false
set_option maxRecDepth 100000
set_option maxHeartbeats 4000000
/-! PyLb: an error made by its field's name. -/
namespace PySem
namespace PyX
open PySem.W PySem.Calls PyProof.Rows PySem.HandSPX
section
variable {M : Model} {prog : Program} {w : World} {A : Around} {E : Value → Shared → Prop} {R : Result → Shared → Prop} {h : Heap} {g : Array GenState} {d : Drawn} {t : Nat} {os : OsState}
variable {nm q : Str} {C N : Addr} {bs bm bmB : List Value} {hdct : Bool} {sn : List Str} {sub : List Value} {ab : Bool} {col : Option Bool} {dd : Option Addr} {k0 k1 k2 k3 k5 : Option Value} {B newId initId : String}
theorem kw_check (F : ExcBaseFacts B newId initId bmB) (hT : ∀ X : String, bm.contains (.type X) = bmB.contains (.type X)) {kw : Str × Value} {Q : Unit → Shared → Prop}
    (hC : h.get? C = some (excClassObj nm q C N bs bm hdct sn sub ab col dd k0 k1 k2 k3 k5 newId)) (fin : Q () ⟨h, g, d, t, os⟩) : wpAny M A (checkBuiltinCall newId ⟨[.ref C], [kw]⟩) Q E ⟨h, g, d, t, os⟩ := by
  have cont : (Value.ref C :: bm).contains (.type B) = true := by rw [List.contains_cons, hT, F.hasB, Bool.or_true]
  have star := F.noStar
  simp only [checkBuiltinCall, F.newKind, F.newSplit, F.newRow]
  repeat (first | refine wpAny_loadPart_at hC ?_ | (refine wpAny_isSubtype_exc hC ?_; rw [cont]) | refine wpAny_staticBase_exc hC ?_ | refine wpAny_madeBy_exc hC ?_ | simp only [bne_self_eq_false, Bool.false_eq_true, if_false] | wp_step)
  exact fin
theorem kw_new (F : ExcBaseFacts B newId initId bmB) (hT : ∀ X : String, bm.contains (.type X) = bmB.contains (.type X)) {kw : Str × Value}
    (hC : h.get? C = some (excClassObj nm q C N bs bm hdct sn sub ab col dd k0 k1 k2 k3 k5 newId))
    (fin : R (.ok (.ret (.ref (h.objs.size + 1)))) ⟨(h.push (kdv_tup [])).push (excO C h.objs.size), g, d, t, os⟩) :
    codeAny (model prog w) A (.builtin newId ⟨[.ref C], [kw]⟩) R ⟨h, g, d, t, os⟩ := by
  have ends := F.ends
  have inB : (Value.ref C :: bm).contains (.type B) = true := by rw [List.contains_cons, hT, F.hasB, Bool.or_true]
  have inA : (Value.ref C :: bm).contains (.type "AttributeError") = false := by rw [List.contains_cons, hT, F.noAttr]; rfl
  have inN : (Value.ref C :: bm).contains (.type "NameError") = false := by rw [List.contains_cons, hT, F.noName]; rfl
  refine codeAny_builtinAt F.entry ?_
  unfold Builtin.«BaseException.__new__»
  refine wpAt_bind ?_
  show wpAt _ _ _ (stack >>= _) _ _ _
  refine wpAt_bind (wpAt_stack fun p below => wpAt_of_wpAny ?_)
  wp_walk
  refine wpAt_of_wpAny ?_
  rw [F.owner]
  repeat (first | with_reducible refine wpAny_madeHere_exc F.canon hC ?_ | with_reducible refine wpAny_loadPart_at hC ?_ | (with_reducible refine wpAny_isSubtype_exc hC ?_; first | rw [inB] | rw [inA] | rw [inN]) | wp_step)
  show R _ _
  rw [Heap.size_push]
  exact fin
theorem kw_type_call (F : ExcBaseFacts B newId initId bmB) (hT : ∀ X : String, bm.contains (.type X) = bmB.contains (.type X)) {kw : Str × Value} {fI : Addr} {Q : Fin → Shared → Prop}
    (hC : h.get? C = some (excClassObj nm q C N bs bm hdct sn sub ab col dd k0 k1 k2 k3 k5 newId))
    (hi : W.Looks (model prog w) h (typeLookup (.ref C) "__init__") (some (.ref fI))) (hb : ∀ self, W.Looks (model prog w) h (bindSpecial (.ref fI) self) (.ref fI, [self]))
    (hq : codeAny (model prog w) A (.call (.ref fI) ⟨[.ref (h.objs.size + 1)], [kw]⟩)
      (fun r s' => match r with | .ok (.ret v) => v = .none ∧ Q (.done (.ret (.ref (h.objs.size + 1)))) s' | .ok _ => False | .error e => E e s')
      ⟨(h.push (kdv_tup [])).push (excO C h.objs.size), g, d, t, os⟩) :
    wpAny (model prog w) A (Builtin.«type.__call__» ⟨[.ref C], [kw]⟩) Q E ⟨h, g, d, t, os⟩ := by
  repeat (first | with_reducible refine wpAny_loadPart_at hC ?_ | with_reducible refine wpAny_madeBy_exc hC ?_ | wp_step)
  refine codeAny_call_builtin_code (Code.quiet_builtin _ F.quiet) (kw_check F hT hC ?_)
  refine kw_new F hT hC ?_
  show wpAny _ _ _ _ _ _
  have keep : ∀ b o, h.get? b = some o → ((h.push (kdv_tup [])).push (excO C h.objs.size)).get? b = some o := fun b o e => Heap.get?_push_of_some _ (Heap.get?_push_of_some _ e)
  have hC1 := keep _ _ hC
  have at1 : ((h.push (kdv_tup [])).push (excO C h.objs.size)).get? (h.objs.size + 1) = some (excO C h.objs.size) := by heap_get
  have inC : (Value.ref C :: bm).contains (.ref C) = true := by simp
  have i1 := hi.keeps keep
  have b1 := (hb (.ref (h.objs.size + 1))).keeps keep
  unfold isInstance
  repeat (first | with_reducible refine wpAny_loadPart_at at1 ?_ | (with_reducible refine wpAny_isSubtype_exc hC1 ?_; rw [inC]) | wp_step)
  show wpAny _ _ (typeLookup (.ref C) _) _ _ _
  refine i1.at (wpAny_holding (wpAny_bind (b1.at ?_)))
  refine wpAny_bind (wpAny_call (codeAny_mono hq fun r s' z => ?_))
  rcases r with e | (v | _ | _ | _) <;> first | exact z | exact z.elim | skip
  obtain ⟨rfl, z⟩ := z
  first
    | exact wpAny_pure (wpAny_pure z)
    | (wp_walk; exact z)
theorem kw_call (F : ExcBaseFacts B newId initId bmB) (hT : ∀ X : String, bm.contains (.type X) = bmB.contains (.type X)) {kw : Str × Value} {fI : Addr}
    (hC : h.get? C = some (excClassObj nm q C N bs bm hdct sn sub ab col dd k0 k1 k2 k3 k5 newId))
    (hi : W.Looks (model prog w) h (typeLookup (.ref C) "__init__") (some (.ref fI))) (hb : ∀ self, W.Looks (model prog w) h (bindSpecial (.ref fI) self) (.ref fI, [self]))
    (hq : codeAny (model prog w) (A.under (.builtin "type.__call__" ⟨[.ref C], [kw]⟩)) (.call (.ref fI) ⟨[.ref (h.objs.size + 1)], [kw]⟩) (W.InitBack (h.objs.size + 1) R)
      ⟨(h.push (kdv_tup [])).push (excO C h.objs.size), g, d, t, os⟩) :
    codeAny (model prog w) A (.call (.ref C) ⟨[], [kw]⟩) R ⟨h, g, d, t, os⟩ := by
  have f1 := tc_lookup
  have f2 := tc_bind (.ref C)
  have hTy : (⟨h, g, d, t, os⟩ : Shared).TypeIs (.ref C) "type" := ⟨_, hC, rfl⟩
  refine codeAny_of_tree ?_
  show wpAny _ _ (callAny (.ref C) _) _ _ _
  repeat (any_goals (first | assumption | with_reducible refine wpAny_loadPart_at hC ?_ | wp_step))
  refine ⟨rfl, ?_⟩
  refine codeAny_call_builtin_at (Code.quiet_builtin _ (by decide +kernel)) entry_typeCall (wpAny_check_type_call_sub hC (kw_type_call F hT hC hi hb ?_))
  refine codeAny_mono hq fun r s' z => ?_
  rcases r with e | (v | _ | _ | _) <;> exact z
end
end PyX
end PySem
end
section
set_option Elab.async false
set_option linter.all false
set_option maxRecDepth 100000
set_option maxHeartbeats 4000000
/-! PyLc: errors as values: made, looked at, read. -/
namespace PySem
namespace PyX
open PySem.W PySem.Calls PyProof.Rows PySem.HandSPX
section
variable {prog : Program} {w : World} {A : Around} {R : Result → Shared → Prop} {s : Shared} {K : Frag} {mg : Str → Option Value} {cn fld : Str} {C fI : Addr}
theorem low_initK (T : LowTxt K mg cn fld C fI) {x t0 : Addr} {v : Value} (kin : K.In s.heap) (lim : s.heap.NoLimit) (at1 : s.heap.get? x = some (excO C t0)) (room : A.depth < recursionLimit)
    (fin : ∀ h' tk dx, InitEnd fld s.heap h' x C dx t0 v → R (.ok (.ret .none)) { s with heap := h', toks := tk }) :
    codeAny (model prog w) A (.call (.ref fI) ⟨[.ref x], [(fld, v)]⟩) R s := by
  rcases T.hf with e | e <;> subst e
  all_goals
    obtain ⟨qn, oc, od, kV, doc, pm, an, cdv, ct, osl, p1, p2, q1, q2, q3, q4, fo, code⟩ := T.fn
    obtain ⟨cnm, cq, N, bs, bm, sn, sub, ab, col, cdd, k0, k1, k2, k3, k5, clsAt, mroOk⟩ := T.cls
    have cl1 : clsIn K C = some { name := cnm, bases := bs, mro := .ref C :: bm, ns := N, qualname := cq, hasDict := true, slotNames := sn, subclasses := sub, abstract := ab, collection := col, hasDel := false } := by unfold clsIn; rw [clsAt] <;> rfl
    refine Att.call_fn (binds := [("self", .ref x), (_, v)]) kin lim fo code room (BindsTo.of_eq (by first | rfl | with_unfolding_all rfl)) (by first | rfl | decide | with_unfolding_all rfl) (fun s1 IC => ?_) rfl rfl rfl
    obtain ⟨h1, tk1, rfl⟩ := IC.toInCall.same
    have keep : ∀ b o, s.heap.get? b = some o → h1.get? b = some o := IC.toInCall.keep
    have ns1 := IC.toInCall.ns
    have kin1 : K.In h1 := kin.keeps keep
    have at2 := keep _ _ at1
    show wpAny _ _ (execs _ _) _ _ _
    refine wpAny_execs_cons (plainObj_wpAny_Assign_Attribute ?_)
    refine ldC (v := v) ns1 (by first | rfl | with_unfolding_all rfl | kernel_rfl) (ldC (v := .ref x) ns1 (by first | rfl | with_unfolding_all rfl | kernel_rfl) ?_)
    refine set_plain kin1 (ox := excO C t0) (od := none) ⟨at2, rfl, rfl, trivial⟩ T.sa ?_
    refine exc_osa kin1 at2 cl1 (show refsVE (.ref C :: bm) = true from mroOk) rfl T.noN (fun h3 tk3 dx k3 dn dne at3 ns3 => ?_)
    show wpAny _ _ (execs _ _) _ _ _
    have z : s.heap.objs.size < h1.objs.size := ns1.lt
    exact wpAny_execs_nil (fin h3 tk3 dx ⟨fun b o hb e => k3 b o hb (keep b o e), at3, Nat.le_of_lt (Nat.lt_of_lt_of_le z dn), dne, ns3⟩)
theorem low_madeK (T : LowTxt K mg cn fld C fI) {v : Value} (kin : K.In s.heap) (lim : s.heap.NoLimit) (room : A.depth + 1 < recursionLimit)
    (fin : ∀ h' tk e d, OwnMade fld s.heap h' e C d v → R (.ok (.ret (.ref e))) { s with heap := h', toks := tk }) :
    codeAny (model prog w) A (.call (.ref C) ⟨[], [(fld, v)]⟩) R s := by
  obtain ⟨cnm, cq, N, bs, bm, sn, sub, ab, col, cdd, k0, k1, k2, k3, k5, clsAt, mroOk⟩ := T.cls
  obtain ⟨hp, g, dr, tk, os⟩ := s
  have keep : ∀ b o, hp.get? b = some o → ((hp.push (kdv_tup [])).push (excO C hp.objs.size)).get? b = some o := fun b o e => Heap.get?_push_of_some _ (Heap.get?_push_of_some _ e)
  have at1 : ((hp.push (kdv_tup [])).push (excO C hp.objs.size)).get? (hp.objs.size + 1) = some (excO C hp.objs.size) := by heap_get
  refine kw_call F.excBase_ValueError (fun X => refsVE_contains X bm mroOk) (kin _ _ clsAt) (looks_findIn kin T.iC) (fun self => bind_fn kin self T.tC) ?_
  refine low_initK (s := ⟨(hp.push (kdv_tup [])).push (excO C hp.objs.size), g, dr, tk, os⟩) T (kin.keeps keep) (lim.keeps keep) at1 ?_ fun h' tk' dx ⟨k', hx, dn, dne, hns⟩ => ?_
  · show A.depth + 1 < recursionLimit
    exact room
  · have old : ∀ b o, hp.get? b = some o → h'.get? b = some o := fun b o e => k' b o (Nat.ne_of_lt (Nat.lt_succ_of_lt (Heap.lt_size e))) (keep b o e)
    have z : hp.objs.size + 1 + 1 ≤ dx := by
      first
        | (simpa only [Heap.size_push] using dn)
        | exact dn
        | (have q := dn; rw [Heap.size_push, Heap.size_push] at q; exact q)
    exact ⟨rfl, fin h' tk' (hp.objs.size + 1) dx ⟨old, Nat.le_succ _, ⟨_, _, hx, rfl, rfl, rfl, rfl, rfl⟩, Nat.le_trans (Nat.le_trans (Nat.le_succ _) (Nat.le_succ _)) z, dne, hns⟩⟩
end
end PyX
end PySem
namespace Py
open PySem PySem.Spec L2
section
variable {G : Pg} {T : Tab} {C : Orc} {n : Nat} {X : Cx} {W : WX} {pins : List (Addr × Obj)} {σ : L2.St}
/-- the state behind the making of an error -/
theorem made_end {fld : Str} {hp h' : Heap} {g : Array GenState} {dr : Drawn} {tk tk' : Nat} {os : OsState} {H1 : Hp} {Cc e δ : Addr} {v : V} {u : Value} {Q : VK} (I : Inv X pins σ H1 ⟨hp, g, dr, tk, os⟩) (M : PySem.PyX.OwnMade fld hp h' e Cc δ u) (rv : RelV v u)
    (q : ∀ e δ, H1 δ = none → L2.upd H1 δ (.xd [(fld, v)]) e = none → Q (.ref e) (L2.upd (L2.upd H1 δ (.xd [(fld, v)])) e (exH Cc e δ))) : EP X pins σ Q (.ref e) ⟨h', g, dr, tk', os⟩ := by
  have hδ : H1 δ = none := I.hok.fresh M.dbig
  have he : L2.upd H1 δ (.xd [(fld, v)]) e = none := by rw [upd_ne (Ne.symm M.dne)]; exact I.hok.fresh M.new
  obtain ⟨oe, vs, o1, o2, o3, o4, _⟩ := M.obj
  have J1 : Inv X pins σ (L2.upd H1 δ (.xd [(fld, v)])) ⟨h', g, dr, tk', os⟩ := I.laid (t' := tk') M.keep M.dbig ⟨_, M.ns, fun f => relO_low rv f⟩
  have J2 : Inv X pins σ (L2.upd (L2.upd H1 δ (.xd [(fld, v)])) e (exH Cc e δ)) ⟨h', g, dr, tk', os⟩ :=
    J1.take (h' := h') (t' := tk') (fun b ob _ x => x) (I.fpOk M.new he) ⟨⟨oe, vs, o1, o2, o3, o4⟩, ⟨oe, o1⟩, fun h1 h2 ⟨oe, vs, a1, a2⟩ k => ⟨oe, vs, k _ a1, a2⟩⟩
  exact ⟨.ref e, _, J2, rfl, q e δ hδ he⟩
/-- what is known behind it -/
theorem exc_step {L : Lk} {H : Hp} {Z : Sto} {c : Nat} {d : D} {v : V} {Cc e δ : Addr} {fld : Str} (k : LOk G L Z H) (ca : G.ca c Cc) (fl : G.fld c = fld) (r : Rep G L d v) (hδ : H δ = none) (he : L2.upd H δ (.xd [(fld, v)]) e = none) :
    ∃ L', Step G L H L' Z (L2.upd (L2.upd H δ (.xd [(fld, v)])) e (exH Cc e δ)) ∧ Rep G L' (.exc c d) (.ref e) := by
  have s1 := k.newF (p := δ) (o := .xd [(fld, v)]) hδ
  have s2 := s1.ok.newF (p := e) (o := exH Cc e δ) he
  have ne : δ ≠ e := fun z => by subst z; rw [upd_same] at he; cases he
  refine ⟨_, s1.trans s2, ?_⟩
  simp only [Rep]
  refine ⟨Cc, e, δ, v, rfl, ca, addF_self, ?_, Rep.mono (s1.le.trans s2.le) _ _ r⟩
  rw [fl]
  exact s2.le.F δ _ (.inl addF_self)
theorem s_mkx {x fld : Str} {c : Nat} {a : Expr} {ce : Py.E} {p pos : Pos} (F : Fit G T C n X W) (FX : ExFit G T X.K X.mg) (hx : T.exs[c]? = some (x, fld)) (hg : Gl X x) (hd : (x == ("__debug__" : Str)) = false) (hn : noStar a = true) (h : SE G C W X a ce) :
    SE G C W X (.Call (.Name x p) [a] [] pos) (.mkx c ce) := by
  obtain ⟨Cc, fI, LT, ca, fl⟩ := FX.exs c x fld hx
  have dp := F.room.dp
  refine ⟨fun pins s σ H Q I ⟨L, η, Z, en, k, q⟩ => ?_⟩
  simp only [ev] at q
  refine wpAny_Call_Name_kw (ld_glob I hg LT.gC ?_ hd)
  have ha : PA X [a] (tCons (rdE G C W ce) tNil) := pa_cons h pa_nil (star_cons hn)
  refine PySem.W.callWith_K (h₀ := X.base) I.ok.mod.kin LT.kC (thn (ha.run pos pins s σ H (fun vs H1 => ∃ v, vs = [v] ∧ ∃ L1 Z1 d, LOk G L1 Z1 H1 ∧ Rep G L1 d v ∧ Fin G L1 Z1 H1 (.exc c d) Q) I (rdE_of en k q fun d Z1 L1 H1 v st r q => ⟨v, rfl, L1, Z1, d, st.ok, r, fun L' H' v' s' r' => q L' H' s' v' r'⟩)) fun us s1 hh => ?_) (star_cons hn) rfl
  obtain ⟨vs, H1, I1, rvs, v, ev, L1, Z1, d, k1, r, f⟩ := hh
  subst ev
  obtain ⟨u, rfl, ru⟩ := rvs.one
  refine ⟨I1.kIn, ?_⟩
  show wpAny _ _ (call (.ref Cc) [u]) _ _ _
  have lim := I1.nolimit
  obtain ⟨hp, g, dr, tk, os⟩ := s1
  refine wpAny_call (PySem.PyX.low_made LT I1.kIn lim (by omega) fun h' tk' e δ M => made_end I1 M ru fun e δ hδ he => ?_)
  obtain ⟨L', st, r'⟩ := exc_step k1 ca fl r hδ he
  exact f L' _ _ st r'
theorem s_mkxK {x fld : Str} {c : Nat} {a : Expr} {ce : Py.E} {p pos kpos : Pos} (F : Fit G T C n X W) (FX : ExFit G T X.K X.mg) (hx : T.exs[c]? = some (x, fld)) (hg : Gl X x) (hd : (x == ("__debug__" : Str)) = false) (h : SE G C W X a ce) :
    SE G C W X (.Call (.Name x p) [] [⟨some fld, a, kpos⟩] pos) (.mkx c ce) := by
  obtain ⟨Cc, fI, LT, ca, fl⟩ := FX.exs c x fld hx
  have dp := F.room.dp
  refine ⟨fun pins s σ H Q I ⟨L, η, Z, en, k, q⟩ => ?_⟩
  have q' : Pst G L H σ W (evs C (.cons ce .nil) η Z >>= fun p => .ok (D.exc c (p.1.headD .non), p.2)) (fun d L' H' => ∀ v, Rep G L' d v → Q v H') := by
    simp only [ev] at q
    simp only [evs, Res.assoc, Res.ok_bind, List.headD_cons]
    exact q
  refine wpAny_Call_Name_kw (ld_glob I hg LT.gC ?_ hd)
  obtain ⟨kw1, kw2, kw3⟩ := kw_facts (pos := pos) (env := X.env) (kws := [⟨some fld, a, kpos⟩]) (ks := [fld]) rfl
  refine PySem.W.callWith_KW0 (K := X.K) (h₀ := X.base) I.ok.mod.kin LT.kC kw1 ?_ (by rw [kw3]; rfl)
  refine thn ((sk_cons (nm := some fld) (kpos := kpos) h sk_nil).run pos pins s σ H (fun vs H1 => ∃ L1 Z1 ds, LOk G L1 Z1 H1 ∧ RepL G L1 ds vs ∧ ds.length = 1 ∧ Fin G L1 Z1 H1 (.exc c (ds.headD .non)) Q) I (rdEs_of' en k q' fun ds Z1 L1 H1 vs em st r q => ⟨L1, Z1, ds, st.ok, r, evs_len em, fun L' H' v' s' r' => q L' H' s' v' r'⟩)) ?_
  rintro ws s1 ⟨vs, H1, I1, rvs, L1, Z1, ds, k1, r, hl, f⟩
  refine ⟨I1.kIn, ?_⟩
  rw [kw2]
  match ds, r, hl, f with
  | [d], r, _, f =>
    simp only [RepL] at r
    obtain ⟨v, vr, rfl, rd, rfl⟩ := r
    obtain ⟨u, rfl, ru⟩ := rvs.one
    show wpAny _ _ (call (.ref Cc) [] [(fld, u)]) _ _ _
    have lim := I1.nolimit
    obtain ⟨hp, g, dr, tk, os⟩ := s1
    refine wpAny_call (PySem.PyX.low_madeK LT I1.kIn lim (by omega) fun h' tk' e δ M => made_end I1 M ru fun e δ hδ he => ?_)
    obtain ⟨L', st, r'⟩ := exc_step k1 ca fl rd hδ he
    exact f L' _ _ st r'
/-- its field -/
theorem s_att {fld : Str} {cs : List Nat} {a : Expr} {ce : Py.E} {pos : Pos} (FX : ExFit G T X.K X.mg) (hb : plainBase a = true) (hcs : cs.all (fun c => match T.exs[c]? with | some y => y.2 == fld | none => false) = true) (h : SE G C W X a ce) :
    SE G C W X (.Attribute a fld pos) (.att ce cs) := by
  refine ⟨fun pins s σ H Q I ⟨L, η, Z, en, k, q⟩ => ?_⟩
  simp only [ev] at q
  refine attr_of (base_ok hb) (thn (h.run pins s σ H (fun v H1 => ∃ L1 Z1 c d, LOk G L1 Z1 H1 ∧ Rep G L1 (.exc c d) v ∧ cs.contains c = true ∧ Fin G L1 Z1 H1 d Q) I (rdE_of en k q fun d Z1 L1 H1 v st r q => ?_)) ?_)
  · dsimp only at q
    split at q
    · rename_i c d
      obtain ⟨hc, q⟩ := q.ite
      exact ⟨L1, Z1, c, d, st.ok, r, hc, fun L' H' v' s' r' => q L' H' s' v' r'⟩
    · exact q.elim
  · rintro u s1 ⟨v, H1, I1, rv, L1, Z1, c, d, k1, r, hc, f⟩
    simp only [Rep] at r
    obtain ⟨Cc, e, δ, w, rfl, ca, h1, h2, r⟩ := r
    obtain rfl : u = Value.ref e := rv
    obtain ⟨nm, fld', fI, e1, LT, e2⟩ := FX.ca c Cc ca
    have h3 := List.all_eq_true.mp hcs c (List.contains_iff_mem.mp hc)
    rw [e1] at h3
    obtain rfl : fld' = fld := by simpa using h3
    rw [e2] at h2
    obtain ⟨⟨oe, vs, o1, o2, o3, o4⟩, _⟩ := (show ObjOk X.prog X.w H1 s1.heap e (exH Cc e δ) from I1.hok e _ (k1.subx _ _ h1))
    obtain ⟨mA, hns, hr⟩ := (show ObjOk X.prog X.w H1 s1.heap δ (.xd [(fld', w)]) from (k1.sub δ _ h2).ok I1.hok)
    obtain ⟨dob, dat, look1⟩ := lookIn_ns hns
    have l : List.lookup fld' [(fld', w)] = some w := by simp [List.lookup]
    obtain ⟨u, hu, ru⟩ := RelO.some_of (v := w) (o := mA fld') (by rw [← l]; exact hr fld')
    have inst : PySem.W.InstAt s1.heap e oe Cc (some dob) := ⟨o1, o2, by unfold PySem.W.notCls; rw [o4] <;> rfl, by rw [o3]; exact dat⟩
    exact HandSPX.exc_get I1.kIn inst LT.ga LT.gg LT.exC (PySem.W.findObj_own LT.hdC LT.noN rfl (by rw [look1, hu])) (handed_of ru) ⟨w, H1, I1.tok _, ru, f.here k1 r⟩
/-- whether it is of a class -/
def rIsx (G : Pg) (cs : List Nat) (cv : Value) : List V → Hp → VK → Prop := fun vs H Q => ∃ L Z c d v cx, vs = [v, cx] ∧ ClsV cx cv ∧ LOk G L Z H ∧ Rep G L (.exc c d) v ∧ Q (.bl (cs.contains c)) H
theorem call_isx {cs : List Nat} {cv : Value} (FX : ExFit G T X.K X.mg) (hm : ∀ c Cc, G.ca c Cc → PySem.W.exmOne X.K (.ref Cc) cv = some (cs.contains c)) : CallR X (.builtin "isinstance") (rIsx G cs cv) := by
  intro pins s σ H xs us Q I rv h
  obtain ⟨L, Z, c, d, v, cx, rfl, kc, k, r, q⟩ := h
  obtain ⟨u1, u2, rfl, r1, r2⟩ := vals2 rv
  have e2 := kc.eq r2
  subst e2
  simp only [Rep] at r
  obtain ⟨Cc, e, δ, w, rfl, ca, h1, h2, r⟩ := r
  obtain rfl : u1 = Value.ref e := r1
  obtain ⟨nm, fld, fI, e1, LT, _⟩ := FX.ca c Cc ca
  have kx := FX.kx c Cc ca
  obtain ⟨⟨oe, vs, o1, o2, o3, o4⟩, _⟩ := (show ObjOk X.prog X.w H s.heap e (exH Cc e δ) from I.hok e _ (k.subx _ _ h1))
  have hδ : ∃ od, s.heap.get? δ = some od := by
    obtain ⟨mA, hns, _⟩ := (show ObjOk X.prog X.w H s.heap δ _ from (k.sub δ _ h2).ok I.hok)
    obtain ⟨dob, dat, _⟩ := lookIn_ns hns
    exact ⟨dob, dat⟩
  obtain ⟨dob, dat⟩ := hδ
  have inst : PySem.W.InstAt s.heap e oe Cc (some dob) := ⟨o1, o2, by unfold PySem.W.notCls; rw [o4] <;> rfl, by rw [o3]; exact dat⟩
  have cls : (PySem.W.clsIn X.K Cc).isSome = true := by
    obtain ⟨cnm, cq, N, bs, bm, sn, sub, ab, col, cdd, k0, k1, k2, k3, k5, at1, _⟩ := LT.cls
    unfold PySem.W.clsIn
    rw [at1]
    rfl
  have kit : PySem.W.kitOne X.K (.ref Cc) u2 = some (cs.contains c) := by
    have m1 := hm c Cc ca
    have m2 := m1
    unfold PySem.W.exmOne at m1
    split at m1
    · unfold PySem.W.kitOne
      by_cases same : (Value.ref Cc == u2) = true
      · rw [if_pos same]
        have : u2 = .ref Cc := (beq_iff_eq.mp same).symm
        subst this
        rw [LT.te] at m2
        exact m2
      · rw [if_neg same]
        exact m1
    · cases m1
  exact PySem.W.kia_one (PySem.W.kitx_exc (ox := oe) (od := some dob) cls LT.ga LT.gg LT.exC kx.ha kx.hn kx.tk kx.hm) I.kIn inst kit (fun z => nomatch z) fun tk => ⟨.bl _, H, I.tok tk, rfl, q⟩
theorem s_isx {x : Str} {cs : List Nat} {a : Expr} {c : O} {p p2 pos : Pos} (FX : ExFit G T X.K X.mg) (hh : (x, cs) ∈ T.hds) (hg : Gl X "isinstance") (hm : X.mg "isinstance" = none) (hgx : Gl X x) (hdx : (x == ("__debug__" : Str)) = false) (hn : noStar a = true) (h : SO G C W X a c) :
    SE G C W X (.Call (.Name "isinstance" p) [a, .Name x p2] [] pos) (.isx c cs) := by
  obtain ⟨cv, names, shape, hcl⟩ := FX.hds _ hh
  have arg : ∃ cx, ClsV cx cv ∧ PE X (.Name x p2) (tC cx) := by
    rcases names with m | ⟨m, b, nn⟩
    · rcases shape with ⟨Cx, rfl⟩ | ⟨t, rfl⟩
      · exact ⟨.ref Cx, .own Cx, pe_glob hgx m (v := .ref Cx) rfl hdx⟩
      · exact ⟨.ty t, .ty t, pe_glob hgx m (v := .ty t) rfl hdx⟩
    · rcases shape with ⟨Cx, rfl⟩ | ⟨t, rfl⟩
      · exact ⟨.ref Cx, .own Cx, pe_bltn hgx m b (v := .ref Cx) rfl nn hdx⟩
      · exact ⟨.ty t, .ty t, pe_bltn hgx m b (v := .ty t) rfl nn hdx⟩
  obtain ⟨cx, kc, pc⟩ := arg
  refine (pe_callB (call_isx FX hcl) hg hm (by decide +kernel) (pa_cons h (pa_cons pc pa_nil (star_cons rfl)) (star_cons hn)) (he := star_cons hn) (hpl := star_any rfl)).imp fun σ H Q ⟨L, η, Z, en, k, q⟩ => ?_
  simp only [ev] at q
  refine rdO_of en k q fun d Z1 L1 H1 v st r q => ?_
  obtain ⟨x1, e1, q⟩ := q.opt
  dsimp only at q
  split at q
  · rename_i c1 d1
    have nw := see_now st.ok r e1
    exact ⟨L1, Z1, c1, d1, v, cx, rfl, kc, st.ok, nw, q.ok st.ok _ (by simp only [Rep])⟩
  · exact q.elim
end
end Py
end
section
set_option Elab.async false
set_option linter.all false
set_option maxRecDepth 100000
set_option maxHeartbeats 4000000
/-! PyLd: a try with several clauses. -/
namespace Py
open PySem PySem.Spec L2
section
variable {G : Pg} {T : Tab} {C : Orc} {n : Nat} {X : Cx} {W : WX} {e a : Expr} {p pos kpos pos2 : Pos}
/-- an error's making by its field's name, as raise wishes it -/
theorem pmk_lowK {cn fld : Str} {Cc fI : Addr} {ce : Py.E} {k : Nat} (LT : PySem.PyX.LowTxt X.K X.mg cn fld Cc fI) (hr : Room k X.A) (h : SE G C W X a ce) (hg : Gl X cn) (hd : (cn == ("__debug__" : Str)) = false) :
    L2N.PMk X (.Call (.Name cn p) [] [⟨some fld, a, kpos⟩] pos) (tMkLow fld Cc (rdEs G C W (.cons ce .nil))) := by
  intro pins s σ H Q I hyp
  refine wpAny_Call_Name_kw (ld_glob I hg LT.gC ?_ hd)
  obtain ⟨kw1, kw2, kw3⟩ := kw_facts (pos := pos) (env := X.env) (kws := [⟨some fld, a, kpos⟩]) (ks := [fld]) rfl
  refine PySem.W.callWith_KW0 (K := X.K) (h₀ := X.base) I.ok.mod.kin LT.kC kw1 ?_ (by rw [kw3]; rfl)
  refine thn ((sk_cons (nm := some fld) (kpos := kpos) h sk_nil).run pos pins s σ H _ I hyp) fun ws s1 hh => ?_
  obtain ⟨vs, H1, I1, rvs, v, ev, q1⟩ := hh
  subst ev
  obtain ⟨v', rfl, rv⟩ := rvs.one
  refine ⟨I1.kIn, ?_⟩
  rw [kw2]
  show wpAny _ _ (call (.ref Cc) [] [(fld, v')]) _ _ _
  have lim := I1.nolimit
  obtain ⟨hp, g, dr, tk, os⟩ := s1
  refine wpAny_call (PySem.PyX.low_madeK LT I1.kIn lim (by have := hr.dp; omega) fun h' tk' ea dx M => ?_)
  show L2N.MkP X pins σ Q (.ref ea) ⟨h', g, dr, tk', os⟩
  obtain ⟨oe, fv, hoe, hc, hdx, hdat, h1, h2⟩ := M.obj
  have nsx := M.ns
  obtain ⟨R, g1, g2⟩ := restrict h' fun b => decide (b ≠ ea)
  have gk : ∀ b, b ≠ ea → R.get? b = h'.get? b := fun b hb => g1 b (decide_eq_true hb)
  have ge : R.get? ea = none := g2 ea (by simp)
  have old : ∀ b o, hp.get? b = some o → R.get? b = some o := fun b o q => (gk b (Nat.ne_of_lt (Nat.lt_of_lt_of_le (Heap.lt_size q) M.new))).trans (M.keep b o q)
  have ob : ObjOk X.prog X.w (L2.upd H1 dx (.xd [(fld, v)])) R dx (.xd [(fld, v)]) := ⟨_, nsx.at (fun o q => (gk dx M.dne).trans q), fun f => relO_low rv f⟩
  have J : Inv X pins σ (L2.upd H1 dx (.xd [(fld, v)])) ⟨R, g, dr, tk', os⟩ := I1.laid (t' := tk') old M.dbig ob
  refine ⟨ea, oe, fv, ⟨R, g, dr, tk', os⟩, _, .ref Cc, some dx, rfl, J, fun b o q => ?_, ge, hoe, ⟨hc, hdx, fun ws q => by rw [hdat] at q; cases q; exact h2⟩, hdat, h1, ?_, rfl, I1.bare, raises_own LT.exC LT.tyC, q1 dx (I1.hok.fresh M.dbig)⟩
  · by_cases hb : b = ea
    · have q' : R.get? b = some o := q
      rw [hb, ge] at q'
      cases q'
    · exact (gk b hb).symm.trans q
  · rw [upd_ne (Ne.symm M.dne)]
    exact I1.hok.fresh M.new
/-- what W wishes at σ -/
def atW (W : WX) (σ : L2.St) : XK := fun cls dd H => W cls dd σ H
/-- a statement of a try's body: it sets no name -/
def rdB1 (G : Pg) (C : Orc) (W : WX) (s : Sm) : TS := fun D σ H => ∃ L η Z, EnvOk G L η σ ∧ LOk G L Z H ∧ PstS G (atW W σ) L H (ex C s η Z) { D with nx := fun _ H' => D.nx σ H' }
def rdB (G : Pg) (C : Orc) (W : WX) (b : Sms) : TS := fun D σ H => ∃ L η Z, EnvOk G L η σ ∧ LOk G L Z H ∧ PstS G (atW W σ) L H (exs C b η Z) { D with nx := fun _ H' => D.nx σ H' }
mutual
def noSet : Sm → Bool
  | .expr _ | .ret _ | .raise _ _ | .pass => true
  | .ite _ a b => noSets a && noSets b
  | _ => false
def noSets : Sms → Bool
  | .nil => true
  | .cons a r => noSet a && noSets r
end
mutual
theorem noSet_same {C : Orc} : ∀ (s : Sm) (η η' : Vars) (Z Z' : Sto), noSet s = true → ex C s η Z = .ok (.next, η', Z') → η' = η
  | .expr x, η, η', Z, Z', _, h => by
    simp only [ex] at h
    cases e : ev C x η Z with
    | ok y => rw [e] at h; simp only [Res.ok_bind, Res.ok.injEq, Prod.mk.injEq] at h; exact h.2.1.symm
    | exn _ _ _ => rw [e] at h; cases h
    | bad => rw [e] at h; cases h
  | .ret x, η, η', Z, Z', _, h => by
    simp only [ex] at h
    cases e : ev C x η Z with
    | ok y => rw [e] at h; simp [Res.ok_bind] at h
    | exn _ _ _ => rw [e] at h; cases h
    | bad => rw [e] at h; cases h
  | .raise _ x, η, η', Z, Z', _, h => by
    simp only [ex] at h
    cases e : ev C x η Z with
    | ok y => rw [e] at h; simp [Res.ok_bind] at h
    | exn _ _ _ => rw [e] at h; cases h
    | bad => rw [e] at h; cases h
  | .pass, η, η', Z, Z', _, h => by
    simp only [ex, Res.ok.injEq, Prod.mk.injEq] at h
    exact h.2.1.symm
  | .ite c a b, η, η', Z, Z', w, h => by
    simp only [noSet, Bool.and_eq_true] at w
    simp only [ex] at h
    cases e : evOo C (.some c) η Z with
    | ok y =>
      rw [e] at h
      simp only [Res.ok_bind] at h
      cases hy : y.1 with
      | true => rw [hy] at h; exact noSets_same a η η' y.2 Z' w.1 h
      | false => rw [hy] at h; exact noSets_same b η η' y.2 Z' w.2 h
    | exn _ _ _ => rw [e] at h; cases h
    | bad => rw [e] at h; cases h
  | .asg _ _, _, _, _, _, w, _ => by cases w
  | .mk _ _, _, _, _, _, w, _ => by cases w
  | .par _, _, _, _, _, w, _ => by cases w
  | .tapp _ _, _, _, _, _, w, _ => by cases w
  | .tset _ _ _, _, _, _, _, w, _ => by cases w
  | .sset _ _ _, _, _, _, _, w, _ => by cases w
  | .for_ _ _ _, _, _, _, _, w, _ => by cases w
  | .while_ _ _, _, _, _, _, w, _ => by cases w
  | .tryE _ _ _ _ _, _, _, _, _, w, _ => by cases w
  | .brk, _, _, _, _, w, _ => by cases w
  | .cont, _, _, _, _, w, _ => by cases w
  | .tryM _ _, _, _, _, _, w, _ => by cases w
theorem noSets_same {C : Orc} : ∀ (b : Sms) (η η' : Vars) (Z Z' : Sto), noSets b = true → exs C b η Z = .ok (.next, η', Z') → η' = η
  | .nil, η, η', Z, Z', _, h => by
    simp only [exs, Res.ok.injEq, Prod.mk.injEq] at h
    exact h.2.1.symm
  | .cons a r, η, η', Z, Z', w, h => by
    simp only [noSets, Bool.and_eq_true] at w
    simp only [exs] at h
    cases e : ex C a η Z with
    | ok y =>
      obtain ⟨f, η1, Z1⟩ := y
      rw [e] at h
      cases f with
      | next =>
        have h1 := noSet_same a η η1 Z Z1 w.1 e
        subst h1
        exact noSets_same r η1 η' Z1 Z' w.2 h
      | brk => cases h
      | cont => cases h
      | ret d => cases h
    | exn _ _ _ => rw [e] at h; cases h
    | bad => rw [e] at h; cases h
end
/-! ### the body's statements -/
theorem bb_expr {c : Py.E} (hc : notComp e = true) (h : SE G C W X e c) : PS X (.Expr e pos) (rdB1 G C W (.expr c)) :=
  (ps_expr h (swaps_no hc _ _ _)).imp fun D σ H ⟨L, η, Z, en, k, q⟩ => by
    simp only [ex] at q
    have := rdE_s (R := fun _ H1 => D.nx σ H1) en k q fun d Z1 L1 H1 v st r q => q L1 H1 σ (.refl st.ok) (en.mono st.le)
    exact this
theorem bb_ret {c : Py.E} (h : SE G C W X e c) : PS X (.Return (some e) pos) (rdB1 G C W (.ret c)) :=
  (ps_ret h).imp fun D σ H ⟨L, η, Z, en, k, q⟩ => by
    simp only [ex] at q
    have := rdE_s (R := D.rt) en k q fun d Z1 L1 H1 v st r q => q L1 H1 v (.refl st.ok) r
    exact this
theorem bb_nil : PSs X [] (rdB G C W .nil) := pss_nil.imp fun D σ H ⟨L, η, Z, en, k, q⟩ => by
  simp only [exs] at q
  exact q L H σ (.refl k) en
theorem bb_cons {st : Stmt} {sts : List Stmt} {s : Sm} {b : Sms} (w : noSet s = true) (h : PS X st (rdB1 G C W s)) (r : PSs X sts (rdB G C W b)) : PSs X (st :: sts) (rdB G C W (.cons s b)) :=
  (pss_cons h r).imp fun D σ H ⟨L, η, Z, en, k, q⟩ => by
    refine ⟨L, η, Z, en, k, ?_⟩
    simp only [exs] at q
    cases e : ex C s η Z with
    | ok y =>
      obtain ⟨f, η1, Z1⟩ := y
      rw [e] at q
      cases f with
      | next =>
        have h1 := noSet_same s η η1 Z Z1 w e
        subst h1
        exact fun L' H' σ' st' en' => ⟨L', η1, Z1, en.mono st'.le, st'.ok, q.step st'⟩
      | ret d => exact q
      | brk => exact q
      | cont => exact q
    | exn c d Z1 => rw [e] at q; exact q
    | bad => rw [e] at q; exact q
theorem bb_if {cc : O} {ca cb : Sms} {sa sb : List Stmt} (hc : PT X e (rdT G C W cc)) (ha : PSs X sa (rdB G C W ca)) (hb : PSs X sb (rdB G C W cb)) : PS X (.If e sa sb pos) (rdB1 G C W (.ite cc ca cb)) :=
  (ps_if hc ha hb).imp fun D σ H ⟨L, η, Z, en, k, q⟩ => by
    simp only [ex] at q
    have := rdT_s (R := fun t H1 => if t = true then rdB G C W ca D σ H1 else rdB G C W cb D σ H1) en k q fun t Z1 L1 H1 st q => by
      cases t with
      | true => exact ⟨L1, η, Z1, en.mono st.le, st.ok, q⟩
      | false => exact ⟨L1, η, Z1, en.mono st.le, st.ok, q⟩
    exact this
theorem bb_raise {x fld : Str} {c : Nat} {ce : Py.E} (F : Fit G T C n X W) (FX : ExFit G T X.K X.mg) (hcal : T.cal = true) (hx : T.exs[c]? = some (x, fld)) (hg : Gl X x) (hd : (x == ("__debug__" : Str)) = false) (hn : noStar a = true) (h : SE G C W X a ce) :
    PS X (.Raise (some (.Call (.Name x p) [a] [] pos)) none pos2) (rdB1 G C W (.raise c ce)) := by
  obtain ⟨Cc, fI, LT, ca, fl⟩ := FX.exs c x fld hx
  have hr : Room n X.A := ⟨by have := F.mode; unfold CxMode at this; rw [if_pos hcal] at this; exact this, F.room.dp, F.room.un⟩
  refine (ps_raiseLow (F.calm hcal) LT hr F.tk (pa_cons h pa_nil (star_cons hn)) hg hd (star_cons hn) rfl).imp fun D σ H ⟨L, η, Z, en, k, q⟩ => ?_
  simp only [ex] at q
  have := rdE_s (R := fun v H1 => tNil σ H1 fun vs H2 => ∃ v', v :: vs = [v'] ∧ ∀ dx, H2 dx = none → W (.ref Cc) (some dx) σ (L2.upd H2 dx (.xd [(fld, v')]))) en k q fun d Z1 L1 H1 v st r q => ⟨v, rfl, fun δ hδ => q _ _ _ _ (st.ok.newF hδ) ⟨Cc, δ, v, ca, rfl, rfl, by rw [fl]; exact .inl addF_self, Rep.mono (st.ok.le_addF hδ) _ _ r⟩⟩
  exact this
theorem bb_raiseK {x fld : Str} {c : Nat} {ce : Py.E} (F : Fit G T C n X W) (FX : ExFit G T X.K X.mg) (hcal : T.cal = true) (hx : T.exs[c]? = some (x, fld)) (hg : Gl X x) (hd : (x == ("__debug__" : Str)) = false) (h : SE G C W X a ce) :
    PS X (.Raise (some (.Call (.Name x p) [] [⟨some fld, a, kpos⟩] pos)) none pos2) (rdB1 G C W (.raise c ce)) := by
  obtain ⟨Cc, fI, LT, ca, fl⟩ := FX.exs c x fld hx
  have hr : Room n X.A := ⟨by have := F.mode; unfold CxMode at this; rw [if_pos hcal] at this; exact this, F.room.dp, F.room.un⟩
  refine (L2N.ps_raise (F.calm hcal) F.tk (pmk_lowK LT hr h hg hd)).imp fun D σ H ⟨L, η, Z, en, k, q⟩ => ?_
  simp only [ex] at q
  refine ⟨L, η, Z, en, k, ?_⟩
  simp only [evs, Res.assoc, Res.ok_bind]
  cases em : ev C ce η Z with
  | ok y =>
    obtain ⟨d, Z1⟩ := y
    rw [em] at q
    intro L1 H1 st vs rl
    simp only [RepL] at rl
    obtain ⟨v, vr, rfl, rd, rfl⟩ := rl
    exact ⟨v, rfl, fun δ hδ => q _ _ _ _ (st.trans (st.ok.newF hδ)) ⟨Cc, δ, v, ca, rfl, rfl, by rw [fl]; exact .inl addF_self, Rep.mono (st.ok.le_addF hδ) _ _ rd⟩⟩
  | exn c1 d Z1 => rw [em] at q; exact q
  | bad => rw [em] at q; exact q
end
/-! ### the clauses -/
section
variable {G : Pg} {T : Tab} {C : Orc} {n : Nat} {X : Cx} {E : XK} {W : WX} {pos : Pos}
def ClOk (X : Cx) (G : Pg) (C : Orc) (E : XK) (hds : List ExceptHandler) (l : Cls) : Prop :=
  ∃ ls, HdN X hds ls ∧ ∀ (De : Ends) (L : Lk) (η : Vars) (Z : Sto) (σ : L2.St) (H : Hp) (c : Nat) (d : D) (cls : Value) (dd : Option Addr), EnvOk G L η σ → noExc η = true → LOk G L Z H → ExcOk G L H c d cls dd → PstS G E L H (exC C l c d η Z) De → wNames X.K (wK E) De ls cls dd σ H
theorem cl_nil : ClOk X G C E [] .nil := ⟨[], .nil, fun D L η Z σ H c d cls dd en ne k x q => by
  simp only [exC] at q
  exact q L H cls dd (.refl k) x⟩
theorem cl_bare {x : Str} {cs : List Nat} {b0 : Stmt} {bs : List Stmt} {cb : Sms} {p1 p2 : Pos} {hds : List ExceptHandler} {l : Cls} (FX : ExFit G T X.K X.mg) (hh : (x, cs) ∈ T.hds) (hg : Gl X x) (hd : (x == ("__debug__" : Str)) = false)
    (su : ∀ (ad : Addr) (oe : Obj) (cls : Value) (dd : Option Addr) (pn : List (Addr × Obj)), L2N.Zn cls dd oe → (∃ vs, oe.data = .fields vs) → SSs (G.wc (inHand G ad cls dd)) C (fun _ _ _ => False) (X.suite ad ((ad, oe) :: pn)) (b0 :: bs) cb)
    (r : ClOk X G C E hds l) : ClOk X G C E (.ExceptHandler (some (.Name x p1)) none (b0 :: bs) p2 :: hds) (.cons cs none cb l) := by
  obtain ⟨ls, hl, ih⟩ := r
  obtain ⟨v, hv, _, hm⟩ := FX.hds _ hh
  refine ⟨(v, none, fun ad cls dd => rdSs (G.wc (inHand G ad cls dd)) C (fun _ _ _ => False) cb) :: ls, .bare ⟨hg, hd, hv⟩ (fun ad ox cls dd pn hz hf => su ad ox cls dd pn hz hf) hl, fun D L η Z σ H c d cls dd en ne k x1 q => ?_⟩
  obtain ⟨Cc, δ, w, ca, rfl, rfl, h1, h2⟩ := id x1
  refine ⟨cs.contains c, hm c Cc ca, fun hb ad had => ?_, fun hb => ih D L η Z σ H c d _ _ en ne k x1 ?_⟩
  · simp only [exC, hb, if_true] at q
    refine ⟨L, η, Z, en.wc ne, LOk.wc.mpr k, ?_⟩
    cases es : exs C cb η Z with
    | ok y =>
      obtain ⟨f, η2, Z2⟩ := y
      rw [es] at q
      cases f with
      | ret d2 => exact fun L3 H3 u s2 r2 => q L3 H3 u (Step.wc.mp s2) ((Rep.wc _ _).mp r2)
      | next => exact q.elim
      | brk => exact q.elim
      | cont => exact q.elim
    | exn c2 d2 Z2 => rw [es] at q; exact q.elim
    | bad => rw [es] at q; exact q.elim
  · simp only [exC, hb, Bool.false_eq_true, if_false] at q
    exact q
theorem cl_named {x y : Str} {i : Nat} {cs : List Nat} {b0 : Stmt} {bs : List Stmt} {cb : Sms} {p1 p2 : Pos} {hds : List ExceptHandler} {l : Cls} (FX : ExFit G T X.K X.mg) (hh : (x, cs) ∈ T.hds) (hg : Gl X x) (hd : (x == ("__debug__" : Str)) = false)
    (hi : X.N[i]? = some y) (hln : X.env.kindOf y = some .local)
    (su : ∀ (ad : Addr) (oe : Obj) (cls : Value) (dd : Option Addr) (pn : List (Addr × Obj)), L2N.Zn cls dd oe → (∃ vs, oe.data = .fields vs) → SSs (G.wc (inHand G ad cls dd)) C (fun _ _ _ => False) (X.suite ad ((ad, oe) :: pn)) (b0 :: bs) cb)
    (r : ClOk X G C E hds l) : ClOk X G C E (.ExceptHandler (some (.Name x p1)) (some y) (b0 :: bs) p2 :: hds) (.cons cs (some i) cb l) := by
  obtain ⟨ls, hl, ih⟩ := r
  obtain ⟨v, hv, _, hm⟩ := FX.hds _ hh
  refine ⟨(v, some i, fun ad cls dd => rdSs (G.wc (inHand G ad cls dd)) C (fun _ _ _ => False) cb) :: ls, .named ⟨hg, hd, hv⟩ hi hln (fun ad ox cls dd pn hz hf => su ad ox cls dd pn hz hf) hl, fun D L η Z σ H c d cls dd en ne k x1 q => ?_⟩
  obtain ⟨Cc, δ, w, ca, rfl, rfl, h1, h2⟩ := id x1
  refine ⟨cs.contains c, hm c Cc ca, fun hb ad had => ?_, fun hb => ih D L η Z σ H c d _ _ en ne k x1 ?_⟩
  · simp only [exC, hb, if_true] at q
    obtain ⟨hil, q⟩ := q.ite
    refine ⟨L, η.set i (some (.exc c d)), Z, (en.wc ne).set i (fun σ' e1 => ⟨ad, δ, w, e1, ⟨rfl, rfl, Cc, rfl, ca⟩, h1, (Rep.wc _ _).mpr h2⟩) hil, LOk.wc.mpr k, ?_⟩
    cases es : exs C cb (η.set i (some (.exc c d))) Z with
    | ok y =>
      obtain ⟨f, η2, Z2⟩ := y
      rw [es] at q
      cases f with
      | ret d2 => exact fun L3 H3 u s2 r2 => q L3 H3 u (Step.wc.mp s2) ((Rep.wc _ _).mp r2)
      | next => exact q.elim
      | brk => exact q.elim
      | cont => exact q.elim
    | exn c2 d2 Z2 => rw [es] at q; exact q.elim
    | bad => rw [es] at q; exact q.elim
  · simp only [exC, hb, Bool.false_eq_true, if_false] at q
    exact q
/-- try: statements that set no name; except ..: several clauses -/
theorem t_tryM {body : List Stmt} {hd0 : ExceptHandler} {hds : List ExceptHandler} {cb : Sms} {l : Cls} (F : Fit G T C n X (wK E)) (hs : X.stack = X.env :: X.outer) (hf : X.env.frame = some X.env.locals) (w : noSets cb = true)
    (hb : ∀ (W : WX) (pn : List (Addr × Obj)) (xe : Value → Shared → Prop), L2N.Takes (X.tr pn xe) W → PassesOwn (model X.prog X.w) X.A X.env xe → PSs (X.tr pn xe) body (rdB G C W cb))
    (cl : ClOk X G C E (hd0 :: hds) l) : SS G C E X (.Try body (hd0 :: hds) [] [] pos) (.tryM cb l) := by
  obtain ⟨ls, hl, ih⟩ := cl
  refine (ps_tryN hs hf F.nd F.tk (tb := fun W => rdB G C W cb) hb hl).imp fun D σ H ⟨L, η, Z, en, k, q⟩ => ⟨L, η, Z, en, k, ?_⟩
  simp only [ex] at q
  cases em : exs C cb η Z with
  | ok y =>
    obtain ⟨f, η1, Z1⟩ := y
    rw [em] at q
    cases f with
    | next =>
      have h1 := noSets_same cb η η1 Z Z1 w em
      subst h1
      exact fun L' H' σ' st en' => q L' H' σ st (en.mono st.le)
    | ret d => exact q
    | brk => exact q.elim
    | cont => exact q.elim
  | exn c d Z1 =>
    rw [em] at q
    obtain ⟨ne, q⟩ := q.ite
    exact fun L' H' cls dd st x => ih D L' η Z1 σ H' c d cls dd (en.mono st.le) ne st.ok x (q.step st)
  | bad => rw [em] at q; exact q.elim
/-- raise X(fld = v) -/
theorem t_raiseK {x fld : Str} {c : Nat} {a : Expr} {ce : Py.E} {p pos kpos pos2 : Pos} (F : Fit G T C n X (wK E)) (FX : ExFit G T X.K X.mg) (hcal : T.cal = true) (hx : T.exs[c]? = some (x, fld)) (hg : Gl X x) (hd : (x == ("__debug__" : Str)) = false) (h : SE G C (wK E) X a ce) :
    SS G C E X (.Raise (some (.Call (.Name x p) [] [⟨some fld, a, kpos⟩] pos)) none pos2) (.raise c ce) :=
  (bb_raiseK F FX hcal hx hg hd h).imp fun D σ H ⟨L, η, Z, en, k, q⟩ => ⟨L, η, Z, en, k, by
    simp only [ex] at q ⊢
    cases em : ev C ce η Z with
    | ok y => rw [em] at q; exact q
    | exn c1 d Z1 => rw [em] at q; exact q
    | bad => rw [em] at q; exact q⟩
end
end Py
end
section
set_option Elab.async false
set_option linter.all false
set_option maxRecDepth 100000
set_option maxHeartbeats 4000000
/-! PyM: expressions as written, brought into the small language. -/
namespace Py
open PySem PySem.Spec L2

/-- what is known of the block -/
structure Sc where
  T : Tab
  N : List Str
  sc : Scope
  /-- a def's own block -/
  top : Bool
  /-- names whose cells were made at the block's entry -/
  own : List Str
  /-- names of things that change (a hint) -/
  muts : List Str
  hand : Option Str
structure HandOk (G : Pg) (T : Tab) (X : Cx) : Prop where
  ex : ∃ (X0 : Cx) (ad : Addr) (oe : Obj) (cls : Value) (dd : Option Addr) (pn : List (Addr × Obj)) (G0 : Pg), X = X0.suite ad ((ad, oe) :: pn) ∧ G = G0.wc (inHand G0 ad cls dd) ∧ Zc cls dd oe ∧ (∃ vs, oe.data = .fields vs) ∧ ExFit G0 T X0.K X0.mg
structure CtxOk (G : Pg) (S : Sc) (X : Cx) : Prop where
  N : X.N = S.N
  sc : X.env.scope = S.sc
  kind : S.sc.kind = .function
  fn : ∀ x, (S.top = true ∨ S.own.contains x = true) → X.fn x = true
  hand : ∀ y, S.hand = some y → HandOk G S.T X
  stk : S.top = true → X.stack = X.env :: X.outer ∧ X.env.frame = some X.env.locals

def visB (sc : Scope) (x : Str) : Bool := match sc.names.lookup x with
  | some .local => true
  | some .cell => true
  | some .free => true
  | _ => false
def locB (sc : Scope) (x : Str) : Bool := match sc.names.lookup x with
  | some .local => true
  | some .cell => true
  | _ => false
def glB (sc : Scope) (x : Str) : Bool := match sc.names.lookup x with
  | some .globalImplicit => true
  | _ => false
def nmOk (x : Str) : Bool := !(x == ("__debug__" : Str)) && !(x == ("__classdict__" : Str))
def idxN : List Str → Str → Option Nat
  | [], _ => none
  | y :: r, x => if y = x then some 0 else (idxN r x).map (· + 1)
def slotC (S : Sc) (x : Str) : Option Nat := if visB S.sc x && nmOk x then idxN S.N x else none
theorem idxN_ok : ∀ {N : List Str} {x : Str} {i : Nat}, idxN N x = some i → N[i]? = some x
  | [], _, _, h => by cases h
  | y :: r, x, i, h => by
    unfold idxN at h
    by_cases e : y = x
    · rw [if_pos e] at h; cases h; subst e; rfl
    · rw [if_neg e, Option.map_eq_some_iff] at h
      obtain ⟨j, h1, rfl⟩ := h
      have := idxN_ok h1
      simpa using this
theorem ite_none {α : Type} {c : Bool} {o : Option α} {r : α} (h : (if c = true then o else none) = some r) : c = true ∧ o = some r := by
  cases c with
  | true => exact ⟨rfl, h⟩
  | false => cases h
section
variable {G : Pg} {S : Sc} {X : Cx} {x : Str} {i : Nat}
theorem vis_ok (K : CtxOk G S X) (h : visB S.sc x = true) : Vis X.env.scope x := by
  rw [K.sc]
  unfold visB at h
  unfold Vis
  split at h
  · rename_i e; exact .inl e
  · rename_i e; exact .inr (.inl e)
  · rename_i e; exact .inr (.inr e)
  · cases h
theorem loc_ok (K : CtxOk G S X) (h : locB S.sc x = true) : L2.Loc X.env.scope x := by
  rw [K.sc]
  unfold locB at h
  unfold L2.Loc
  split at h
  · rename_i e; exact .inl e
  · rename_i e; exact .inr e
  · cases h
theorem gl_ok (K : CtxOk G S X) (h : glB S.sc x = true) : Gl X x := by
  unfold Gl Env.kindOf
  rw [K.sc]
  unfold glB at h
  split at h
  · rename_i e; exact e
  · cases h
theorem nm_ok (h : nmOk x = true) : (x == ("__debug__" : Str)) = false ∧ (x == ("__classdict__" : Str)) = false := by
  unfold nmOk at h
  simp only [Bool.and_eq_true, Bool.not_eq_true'] at h
  exact h
theorem slot_ok (K : CtxOk G S X) (h : slotC S x = some i) : X.N[i]? = some x ∧ Vis X.env.scope x ∧ (x == ("__debug__" : Str)) = false ∧ (x == ("__classdict__" : Str)) = false := by
  unfold slotC at h
  obtain ⟨h1, h2⟩ := ite_none h
  rw [Bool.and_eq_true] at h1
  exact ⟨by rw [K.N]; exact idxN_ok h2, vis_ok K h1.1, nm_ok h1.2⟩
end

/-- what is made of expressions, tests, targets -/
structure Cp where
  e : Sc → Expr → Option E
  t : Sc → Expr → Option O
  g : Sc → Expr → Option Tg
structure Snd (k : Cp) : Prop where
  e : ∀ S a c, k.e S a = some c → ∀ {G C m X W}, Fit G S.T C m X W → ExFit G S.T X.K X.mg → CtxOk G S X → SE G C W X a c
  t : ∀ S a c, k.t S a = some c → ∀ {G C m X W}, Fit G S.T C m X W → ExFit G S.T X.K X.mg → CtxOk G S X → STt G C W X a c
  g : ∀ S a c, k.g S a = some c → ∀ {G C m X W}, Fit G S.T C m X W → CtxOk G S X → PG X a (rdG G c)
def cp0 : Cp := ⟨fun _ _ => none, fun _ _ => none, fun _ _ => none⟩
theorem snd0 : Snd cp0 := by
  refine ⟨?_, ?_, ?_⟩ <;> (intro S a c h; cases h)

/-! ### the parts -/
def cO (k : Cp) (S : Sc) : Expr → Option O
  | .Name x p => match slotC S x with
    | some i => some (.t i)
    | none => (k.e S (.Name x p)).map .e
  | a => (k.e S a).map .e
def cEs (k : Cp) (S : Sc) : List Expr → Option Es
  | [] => some .nil
  | a :: r => if noStar a = true then (k.e S a).bind fun c => (cEs k S r).map (.cons c) else none
def cOs (k : Cp) (S : Sc) : List Expr → Option Os
  | [] => some .nil
  | a :: r => if noStar a = true then (cO k S a).bind fun c => (cOs k S r).map (.cons c) else none
def cKs (k : Cp) (S : Sc) : List Keyword → Option Es
  | [] => some .nil
  | ⟨_, a, _⟩ :: r => (k.e S a).bind fun c => (cKs k S r).map (.cons c)
def cEo (k : Cp) (S : Sc) : Option Expr → Option Eo
  | none => some .none
  | some a => (k.e S a).map .some
def cGs (k : Cp) (S : Sc) : List Expr → Option (List Tg)
  | [] => some []
  | a :: r => if noStar a = true then (k.g S a).bind fun c => (cGs k S r).map (c :: ·) else none
def cTAnd (k : Cp) (S : Sc) : List Expr → Option O
  | [] => none
  | [a] => k.t S a
  | a :: r => (k.t S a).bind fun c => (cTAnd k S r).map (.tand c)
def cTOr (k : Cp) (S : Sc) : List Expr → Option O
  | [] => none
  | [a] => k.t S a
  | a :: r => (k.t S a).bind fun c => (cTOr k S r).map (.tor c)
def cAnd (k : Cp) (S : Sc) : List Expr → Option E
  | [] => none
  | [a] => k.e S a
  | a :: r => (k.e S a).bind fun c => (cAnd k S r).map (.and c)
def cOr (k : Cp) (S : Sc) : List Expr → Option E
  | [] => none
  | [a] => k.e S a
  | a :: r => (k.e S a).bind fun c => (cOr k S r).map (.or c)
def bopC : Operator → Option Bop
  | .Add => some .add | .Sub => some .sub | .Mult => some .mul | .FloorDiv => some .fdiv | .Mod => some .mod | .Pow => some .pow
  | _ => none
def copC : CmpOp → Option Cop
  | .Eq => some .eq | .NotEq => some .ne | .Lt => some .lt | .LtE => some .le | .Gt => some .gt | .GtE => some .ge | .Is => some .isn | .IsNot => some .notn | .In => some .in_ | .NotIn => some .notin
theorem bop_ok {o : Operator} {b : Bop} (h : bopC o = some b) : o = b.py := by cases o <;> first | (cases h; rfl) | cases h
theorem cop_ok {o : CmpOp} {b : Cop} (h : copC o = some b) : o = b.py := by cases o <;> first | (cases h; rfl) | cases h
section
variable {k : Cp} (H : Snd k) {G : Pg} {C : Orc} {m : Nat} {X : Cx} {W : WX} {S : Sc} (F : Fit G S.T C m X W) (FX : ExFit G S.T X.K X.mg) (K : CtxOk G S X)
include H F FX K
theorem cO_ok {a : Expr} {c : O} (h : cO k S a = some c) : SO G C W X a c := by
  unfold cO at h
  split at h
  · split at h
    · rename_i i e
      cases h
      obtain ⟨h1, h2, h3, h4⟩ := slot_ok K e
      exact so_name h1 h2 h3 h4
    · rw [Option.map_eq_some_iff] at h
      obtain ⟨c, h, rfl⟩ := h
      exact so_e (H.e _ _ _ h F FX K)
  · rw [Option.map_eq_some_iff] at h
    obtain ⟨c, h, rfl⟩ := h
    exact so_e (H.e _ _ _ h F FX K)
theorem cEs_ok : ∀ {as : List Expr} {cs : Es}, cEs k S as = some cs → SEs G C W X as cs
  | [], cs, h => by cases h; exact ss_nil
  | a :: r, cs, h => by
    unfold cEs at h
    obtain ⟨h1, h⟩ := ite_none h
    rw [Option.bind_eq_some_iff] at h
    obtain ⟨c, h2, h⟩ := h
    rw [Option.map_eq_some_iff] at h
    obtain ⟨cr, h3, rfl⟩ := h
    exact ss_cons h1 (H.e _ _ _ h2 F FX K) (cEs_ok h3)
theorem cOs_ok : ∀ {as : List Expr} {cs : Os}, cOs k S as = some cs → SOs G C W X as cs
  | [], cs, h => by cases h; exact so_nil
  | a :: r, cs, h => by
    unfold cOs at h
    obtain ⟨h1, h⟩ := ite_none h
    rw [Option.bind_eq_some_iff] at h
    obtain ⟨c, h2, h⟩ := h
    rw [Option.map_eq_some_iff] at h
    obtain ⟨cr, h3, rfl⟩ := h
    exact so_cons h1 (cO_ok H F FX K h2) (cOs_ok h3)
theorem cKs_ok : ∀ {as : List Keyword} {cs : Es}, cKs k S as = some cs → SKs G C W X as cs
  | [], cs, h => by cases h; exact sk_nil
  | ⟨_, a, _⟩ :: r, cs, h => by
    unfold cKs at h
    rw [Option.bind_eq_some_iff] at h
    obtain ⟨c, h2, h⟩ := h
    rw [Option.map_eq_some_iff] at h
    obtain ⟨cr, h3, rfl⟩ := h
    exact sk_cons (H.e _ _ _ h2 F FX K) (cKs_ok h3)
theorem cEo_ok {o : Option Expr} {c : Eo} (h : cEo k S o = some c) : SPo G C W X o c := by
  cases o with
  | none => cases h; exact sp_none
  | some a =>
    unfold cEo at h
    rw [Option.map_eq_some_iff] at h
    obtain ⟨c, h, rfl⟩ := h
    exact sp_some (H.e _ _ _ h F FX K)
theorem cTAnd_ok {pos : Pos} : ∀ {as : List Expr} {c : O}, cTAnd k S as = some c → SW G C W X (.BoolOp .And as pos) c
  | [], _, h => by cases h
  | [a], c, h => sw_and1 (H.t _ _ _ h F FX K)
  | a :: b :: r, c, h => by
    unfold cTAnd at h
    rw [Option.bind_eq_some_iff] at h
    obtain ⟨c1, h2, h⟩ := h
    rw [Option.map_eq_some_iff] at h
    obtain ⟨cr, h3, rfl⟩ := h
    exact sw_and (H.t _ _ _ h2 F FX K) (cTAnd_ok h3)
theorem cTOr_ok {pos : Pos} : ∀ {as : List Expr} {c : O}, cTOr k S as = some c → SW G C W X (.BoolOp .Or as pos) c
  | [], _, h => by cases h
  | [a], c, h => sw_or1 (H.t _ _ _ h F FX K)
  | a :: b :: r, c, h => by
    unfold cTOr at h
    rw [Option.bind_eq_some_iff] at h
    obtain ⟨c1, h2, h⟩ := h
    rw [Option.map_eq_some_iff] at h
    obtain ⟨cr, h3, rfl⟩ := h
    exact sw_or (H.t _ _ _ h2 F FX K) (cTOr_ok h3)
theorem cAnd_ok {pos : Pos} : ∀ {as : List Expr} {c : E}, cAnd k S as = some c → SE G C W X (.BoolOp .And as pos) c
  | [], _, h => by cases h
  | [a], c, h => s_one (H.e _ _ _ h F FX K)
  | a :: b :: r, c, h => by
    unfold cAnd at h
    rw [Option.bind_eq_some_iff] at h
    obtain ⟨c1, h2, h⟩ := h
    rw [Option.map_eq_some_iff] at h
    obtain ⟨cr, h3, rfl⟩ := h
    exact s_and F (H.e _ _ _ h2 F FX K) (cAnd_ok h3)
theorem cOr_ok {pos : Pos} : ∀ {as : List Expr} {c : E}, cOr k S as = some c → SE G C W X (.BoolOp .Or as pos) c
  | [], _, h => by cases h
  | [a], c, h => s_one (H.e _ _ _ h F FX K)
  | a :: b :: r, c, h => by
    unfold cOr at h
    rw [Option.bind_eq_some_iff] at h
    obtain ⟨c1, h2, h⟩ := h
    rw [Option.map_eq_some_iff] at h
    obtain ⟨cr, h3, rfl⟩ := h
    exact s_or F (H.e _ _ _ h2 F FX K) (cOr_ok h3)
end
section
variable {k : Cp} (H : Snd k) {G : Pg} {C : Orc} {m : Nat} {X : Cx} {W : WX} {S : Sc} (F : Fit G S.T C m X W) (K : CtxOk G S X)
include H F K
theorem cGs_ok : ∀ {as : List Expr} {cs : List Tg}, cGs k S as = some cs → PGs X as (rdGs G cs) ∧ as.all noStar = true ∧ as.length = cs.length
  | [], cs, h => by cases h; exact ⟨sg_nil, rfl, rfl⟩
  | a :: r, cs, h => by
    unfold cGs at h
    obtain ⟨h1, h⟩ := ite_none h
    rw [Option.bind_eq_some_iff] at h
    obtain ⟨c, h2, h⟩ := h
    rw [Option.map_eq_some_iff] at h
    obtain ⟨cr, h3, rfl⟩ := h
    obtain ⟨h4, h5, h6⟩ := cGs_ok h3
    exact ⟨sg_cons h1 (H.g _ _ _ h2 F K) h4, by rw [List.all_cons, h1, h5]; rfl, by rw [List.length_cons, List.length_cons, h6]⟩
end
/-! ### targets -/
def cG (k : Cp) (S : Sc) : Expr → Option Tg
  | .Name x _ => if (locB S.sc x && (S.top || S.own.contains x || (match S.sc.names.lookup x with | some .local => true | _ => false))) = true then (idxN S.N x).map .name else none
  | .Tuple es _ _ => if S.T.cal = true then (cGs k S es).map .tup else none
  | _ => none
theorem cG_ok {k : Cp} (H : Snd k) {G : Pg} {C : Orc} {m : Nat} {X : Cx} {W : WX} {S : Sc} {a : Expr} {c : Tg} (h : cG k S a = some c) (F : Fit G S.T C m X W) (K : CtxOk G S X) : PG X a (rdG G c) := by
  unfold cG at h
  split at h
  · obtain ⟨h1, h⟩ := ite_none h
    rw [Option.map_eq_some_iff] at h
    obtain ⟨i, h3, rfl⟩ := h
    rw [Bool.and_eq_true] at h1
    refine sg_name F.nd (by rw [K.N]; exact idxN_ok h3) (loc_ok K h1.1) ?_
    have h2 := h1.2
    rw [Bool.or_eq_true, Bool.or_eq_true] at h2
    rcases h2 with h2 | h2
    · exact .inl (K.fn _ h2)
    · right
      rw [K.sc]
      split at h2
      · assumption
      · cases h2
  · obtain ⟨h1, h⟩ := ite_none h
    rw [Option.map_eq_some_iff] at h
    obtain ⟨ts, h5, rfl⟩ := h
    obtain ⟨h2, h3, h4⟩ := cGs_ok H F K h5
    exact sg_tup F h1 h3 h4 h2
  · cases h
/-! ### tests -/
def plainT : Expr → Bool
  | .UnaryOp .Not _ _ => false
  | .BoolOp _ _ _ => false
  | .IfExp _ _ _ _ => false
  | .Compare _ _ _ _ => false
  | _ => true
theorem plainT_ok {e : Expr} {env : PySem.Env} (h : plainT e = true) : ∀ whole, isTrue e env whole = (do let v ← whole; standAt e.pos; holding [v] (truthy v)) := by
  intro whole
  cases e <;> first | rfl | (cases h; done) | skip
  rename_i op a p
  cases op <;> first | rfl | cases h
def cT (k : Cp) (S : Sc) : Expr → Option O
  | .UnaryOp .Not a _ => (k.t S a).map .tnot
  | .BoolOp .And as _ => cTAnd k S as
  | .BoolOp .Or as _ => cTOr k S as
  | .IfExp c a b _ => (k.t S c).bind fun c => (k.t S a).bind fun a => (k.t S b).map fun b => .tite c a b
  | .Compare a [op] [b] _ => (copC op).bind fun o => if (!behindInMarks op b) = true then (cO k S a).bind fun a => (cO k S b).map fun b => .e (.cmp o a b) else none
  | .Compare a [op, op2] [b, c] _ => (copC op).bind fun o => (copC op2).bind fun o2 => if (!lastMarks [op, op2] [b, c]) = true then (k.e S a).bind fun a => (k.e S b).bind fun b => (k.e S c).map fun c => .e (.chain o o2 a b c) else none
  | a => if plainT a = true then cO k S a else none
theorem not_false {b : Bool} (h : (!b) = true) : b = false := by cases b <;> first | rfl | cases h
section
variable {k : Cp} (H : Snd k) {G : Pg} {C : Orc} {m : Nat} {X : Cx} {W : WX} {S : Sc} (F : Fit G S.T C m X W) (FX : ExFit G S.T X.K X.mg) (K : CtxOk G S X)
include H F FX K
theorem pt_of_pw {pos : Pos} {op : PySem.BoolOp} {as : List Expr} {c : O} (h : SW G C W X (.BoolOp op as pos) c) : STt G C W X (.BoolOp op as pos) c := h.pt
theorem cT_ok {a : Expr} {c : O} (h : cT k S a = some c) : STt G C W X a c := by
  unfold cT at h
  split at h
  · rw [Option.map_eq_some_iff] at h
    obtain ⟨c1, h1, rfl⟩ := h
    exact st_not (H.t _ _ _ h1 F FX K)
  · exact pt_of_pw H F FX K (cTAnd_ok H F FX K h)
  · exact pt_of_pw H F FX K (cTOr_ok H F FX K h)
  · rw [Option.bind_eq_some_iff] at h
    obtain ⟨c1, h1, h⟩ := h
    rw [Option.bind_eq_some_iff] at h
    obtain ⟨c2, h2, h⟩ := h
    rw [Option.map_eq_some_iff] at h
    obtain ⟨c3, h3, rfl⟩ := h
    exact st_ite (H.t _ _ _ h1 F FX K) (H.t _ _ _ h2 F FX K) (H.t _ _ _ h3 F FX K)
  · rw [Option.bind_eq_some_iff] at h
    obtain ⟨o, h1, h⟩ := h
    obtain ⟨h2, h⟩ := ite_none h
    rw [Option.bind_eq_some_iff] at h
    obtain ⟨c2, h3, h⟩ := h
    rw [Option.map_eq_some_iff] at h
    obtain ⟨c3, h4, rfl⟩ := h
    rw [cop_ok h1] at h2 ⊢
    exact st_cmp F (cO_ok H F FX K h3) (cO_ok H F FX K h4) (not_false h2)
  · rw [Option.bind_eq_some_iff] at h
    obtain ⟨o, h1, h⟩ := h
    rw [Option.bind_eq_some_iff] at h
    obtain ⟨o2, h5, h⟩ := h
    obtain ⟨h2, h⟩ := ite_none h
    rw [Option.bind_eq_some_iff] at h
    obtain ⟨c2, h3, h⟩ := h
    rw [Option.bind_eq_some_iff] at h
    obtain ⟨c3, h4, h⟩ := h
    rw [Option.map_eq_some_iff] at h
    obtain ⟨c4, h6, rfl⟩ := h
    rw [cop_ok h1, cop_ok h5] at h2 ⊢
    exact st_chain F (H.e _ _ _ h3 F FX K) (H.e _ _ _ h4 F FX K) (H.e _ _ _ h6 F FX K) (not_false h2)
  · obtain ⟨h1, h⟩ := ite_none h
    exact st_plain F (cO_ok H F FX K h) (plainT_ok h1)
end
end Py
end
section
set_option Elab.async false
set_option linter.all false
set_option maxRecDepth 100000
set_option maxHeartbeats 4000000
/-! PyN: calls, comprehensions, expressions. -/
namespace Py
open PySem PySem.Spec L2
/-! ### built-ins -/
def bltTab : List (Str × Blt × Bool) := [("len", .len, false), ("abs", .abs, false), ("int", .int_, false), ("str", .str_, false), ("repr", .repr, false), ("sum", .sum, true), ("all", .all, true), ("any", .any, true), ("tuple", .tuple, false), ("list", .list, true), ("ord", .ord, false), ("dict", .dict, true), ("sorted", .sorted, false)]
def bltGet : List (Str × Blt × Bool) → Str → Option (Blt × Bool)
  | [], _ => none
  | (y, b) :: r, x => if y = x then some b else bltGet r x
theorem bltGet_mem : ∀ {l : List (Str × Blt × Bool)} {x : Str} {b : Blt × Bool}, bltGet l x = some b → (x, b) ∈ l
  | [], _, _, h => by cases h
  | (y, b') :: r, x, b, h => by
    unfold bltGet at h
    by_cases e : y = x
    · rw [if_pos e] at h; cases h; subst e; exact List.mem_cons_self
    · rw [if_neg e] at h; exact List.mem_cons_of_mem _ (bltGet_mem h)
section
variable {G : Pg} {T : Tab} {C : Orc} {m : Nat} {X : Cx} {W : WX}
theorem blt_tab (F : Fit G T C m X W) {x : Str} {b : Blt} {n : Bool} (h : (x, b, n) ∈ bltTab) (hc : n = true → T.cal = true) :
    x ≠ "__name__" ∧ ((∃ id, bootBuiltins x = some (.builtin id) ∧ CallR X (.builtin id) (rBlt G b)) ∨ ∃ id, bootBuiltins x = some (.type id) ∧ CallR X (.type id) (rBlt G b)) := by
  simp only [bltTab, List.mem_cons, Prod.mk.injEq, List.not_mem_nil, or_false] at h
  rcases h with ⟨rfl, rfl, rfl⟩ | ⟨rfl, rfl, rfl⟩ | ⟨rfl, rfl, rfl⟩ | ⟨rfl, rfl, rfl⟩ | ⟨rfl, rfl, rfl⟩ | ⟨rfl, rfl, rfl⟩ | ⟨rfl, rfl, rfl⟩ | ⟨rfl, rfl, rfl⟩ | ⟨rfl, rfl, rfl⟩ | ⟨rfl, rfl, rfl⟩ | ⟨rfl, rfl, rfl⟩ | ⟨rfl, rfl, rfl⟩ | ⟨rfl, rfl, rfl⟩
  · exact ⟨by decide, .inl ⟨_, by decide +kernel, blt_len F⟩⟩
  · exact ⟨by decide, .inl ⟨_, by decide +kernel, blt_abs F⟩⟩
  · exact ⟨by decide, .inr ⟨_, by decide +kernel, blt_int F⟩⟩
  · exact ⟨by decide, .inr ⟨_, by decide +kernel, blt_str F⟩⟩
  · exact ⟨by decide, .inl ⟨_, by decide +kernel, blt_repr F⟩⟩
  · exact ⟨by decide, .inl ⟨_, by decide +kernel, blt_sum F (hc rfl)⟩⟩
  · exact ⟨by decide, .inl ⟨_, by decide +kernel, blt_all F (hc rfl)⟩⟩
  · exact ⟨by decide, .inl ⟨_, by decide +kernel, blt_any F (hc rfl)⟩⟩
  · exact ⟨by decide, .inr ⟨_, by decide +kernel, blt_tuple F⟩⟩
  · exact ⟨by decide, .inr ⟨_, by decide +kernel, blt_list F (hc rfl)⟩⟩
  · exact ⟨by decide, .inl ⟨_, by decide +kernel, blt_ord F⟩⟩
  · exact ⟨by decide, .inr ⟨_, by decide +kernel, blt_dict F (hc rfl)⟩⟩
  · exact ⟨by decide, .inl ⟨_, by decide +kernel, blt_sorted F⟩⟩
end
def freeB (S : Sc) (x : Str) : Bool := glB S.sc x && S.T.free.contains x && nmOk x
theorem free_ok {G : Pg} {C : Orc} {m : Nat} {X : Cx} {W : WX} {S : Sc} {x : Str} (F : Fit G S.T C m X W) (K : CtxOk G S X) (h : freeB S x = true) : Gl X x ∧ X.mg x = none ∧ (x == ("__debug__" : Str)) = false := by
  unfold freeB at h
  rw [Bool.and_eq_true, Bool.and_eq_true] at h
  exact ⟨gl_ok K h.1.1, F.free x (List.contains_iff_mem.mp h.1.2), (nm_ok h.2).1⟩
def isTab : List (Str × String) := [("int", "int"), ("bool", "bool"), ("str", "str"), ("tuple", "tuple"), ("list", "list"), ("dict", "dict")]
def isGet : List (Str × String) → Str → Option String
  | [], _ => none
  | (y, b) :: r, x => if y = x then some b else isGet r x
theorem isGet_mem : ∀ {l : List (Str × String)} {x : Str} {b : String}, isGet l x = some b → (x, b) ∈ l
  | [], _, _, h => by cases h
  | (y, b') :: r, x, b, h => by
    unfold isGet at h
    by_cases e : y = x
    · rw [if_pos e] at h; cases h; subst e; exact List.mem_cons_self
    · rw [if_neg e] at h; exact List.mem_cons_of_mem _ (isGet_mem h)
theorem is_tab {x : Str} {T : String} (h : (x, T) ∈ isTab) : x = Str.ofString T ∧ bootBuiltins (Str.ofString T) = some (.type T) ∧ Str.ofString T ≠ "__name__" := by
  simp only [isTab, List.mem_cons, Prod.mk.injEq, List.not_mem_nil, or_false] at h
  rcases h with ⟨rfl, rfl⟩ | ⟨rfl, rfl⟩ | ⟨rfl, rfl⟩ | ⟨rfl, rfl⟩ | ⟨rfl, rfl⟩ | ⟨rfl, rfl⟩ <;> exact ⟨rfl, by decide +kernel, by decide⟩
/-! ### own defs -/
def fnIx : List FnInfo → Str → Option (Nat × FnInfo)
  | [], _ => none
  | y :: r, x => if y.name = x then some (0, y) else (fnIx r x).map fun p => (p.1 + 1, p.2)
theorem fnIx_ok : ∀ {l : List FnInfo} {x : Str} {p : Nat × FnInfo}, fnIx l x = some p → l[p.1]? = some p.2 ∧ p.2.name = x
  | [], _, _, h => by cases h
  | y :: r, x, p, h => by
    unfold fnIx at h
    by_cases e : y.name = x
    · rw [if_pos e] at h; cases h; exact ⟨rfl, e⟩
    · rw [if_neg e, Option.map_eq_some_iff] at h
      obtain ⟨q, h1, rfl⟩ := h
      have := fnIx_ok h1
      exact ⟨by simpa using this.1, this.2⟩
def patOf (l : List (Nat × List Str × List Nat)) (n : Nat) (ks : List Str) : Option (Nat × List Str × List Nat) := l.find? fun p => decide (p.1 = n ∧ p.2.1 = ks)
theorem patOf_ok {l : List (Nat × List Str × List Nat)} {n : Nat} {ks : List Str} {p : Nat × List Str × List Nat} (h : patOf l n ks = some p) : p ∈ l ∧ p.1 = n ∧ p.2.1 = ks := by
  unfold patOf at h
  have h1 := List.find?_some h
  exact ⟨List.mem_of_find?_eq_some h, of_decide_eq_true h1⟩
def cCall (k : Cp) (S : Sc) (f : Str) (es : List Expr) (kws : List Keyword) : Option E :=
  (fnIx S.T.fns f).bind fun p => (kwNames kws).bind fun ks => (patOf p.2.pats es.length ks).bind fun pat => (cEs k S es).bind fun cs => (cKs k S kws).bind fun ck =>
    if (glB S.sc f && nmOk f && (S.T.cal || p.2.hot) && es.all noStar && decide (cs.len = es.length) && decide (ck.len = ks.length) && decide ((permD pat.2.2 (List.range (cs.len + ck.len))).length = p.2.ps.length)) = true then some (.call p.1 cs ck pat.2.2) else none
section
variable {k : Cp} (H : Snd k) {G : Pg} {C : Orc} {m : Nat} {X : Cx} {W : WX} {S : Sc} (F : Fit G S.T C m X W) (FX : ExFit G S.T X.K X.mg) (K : CtxOk G S X)
include H F FX K
theorem cCall_ok {f : Str} {es : List Expr} {kws : List Keyword} {c : E} {p pos : Pos} (h : cCall k S f es kws = some c) : SE G C W X (.Call (.Name f p) es kws pos) c := by
  unfold cCall at h
  rw [Option.bind_eq_some_iff] at h
  obtain ⟨q, h1, h⟩ := h
  rw [Option.bind_eq_some_iff] at h
  obtain ⟨ks, h2, h⟩ := h
  rw [Option.bind_eq_some_iff] at h
  obtain ⟨pat, h3, h⟩ := h
  rw [Option.bind_eq_some_iff] at h
  obtain ⟨cs, h4, h⟩ := h
  rw [Option.bind_eq_some_iff] at h
  obtain ⟨ck, h5, h⟩ := h
  obtain ⟨h6, h⟩ := ite_none h
  cases h
  simp only [Bool.and_eq_true, decide_eq_true_eq] at h6
  obtain ⟨⟨⟨⟨⟨⟨g1, g2⟩, g3⟩, g4⟩, g5⟩, g6⟩, g7⟩ := h6
  obtain ⟨i1, i2⟩ := fnIx_ok h1
  obtain ⟨j1, j2, j3⟩ := patOf_ok h3
  rw [Bool.or_eq_true] at g3
  exact s_call F g3 i1 i2 (gl_ok K g1) (nm_ok g2).1 j1 g4 (by rw [g5, j2]) (by rw [g6, j3]) (by rw [j3]; exact h2) g7 (cEs_ok H F FX K h4) (fun e => by subst e; cases h4; rfl) (cKs_ok H F FX K h5)
end
end Py
namespace Py
open PySem PySem.Spec L2
/-! ### what is walked -/
def isTup : Expr → Bool
  | .Tuple _ _ _ => true
  | _ => false
theorem isTup_ok {a : Expr} (h : isTup a = true) : ∃ es kk p, a = .Tuple es kk p := by
  cases a <;> first | exact ⟨_, _, _, rfl⟩ | cases h
def cIt (k : Cp) (S : Sc) (tg : Expr) : Expr → Option It
  | .Call (.Name f p) [a] [] pos =>
    if f = ("range" : Str) then (if (freeB S f && noStar a) = true then (k.e S a).map .range1 else none)
    else if f = ("enumerate" : Str) then (if (freeB S f && noStar a && isTup tg) = true then (k.e S a).map fun c => .enum c 0 else none)
    else (k.e S (.Call (.Name f p) [a] [] pos)).map .seq
  | .Call (.Name f p) [a, b] [] pos =>
    if f = ("range" : Str) then (if (freeB S f && noStar a && noStar b) = true then (k.e S a).bind fun x => (k.e S b).map fun y => .range2 x y else none)
    else if f = ("zip" : Str) then (if (freeB S f && noStar a && noStar b && isTup tg) = true then (k.e S a).bind fun x => (k.e S b).map fun y => .zip x y else none)
    else (k.e S (.Call (.Name f p) [a, b] [] pos)).map .seq
  | a => (k.e S a).map .seq
section
variable {k : Cp} (H : Snd k) {G : Pg} {C : Orc} {m : Nat} {X : Cx} {W : WX} {S : Sc} (F : Fit G S.T C m X W) (FX : ExFit G S.T X.K X.mg) (K : CtxOk G S X)
include H F FX K
theorem cIt_ok {tg a : Expr} {c : It} (h : cIt k S tg a = some c) : PI X tg a (rdI G C W c) := by
  unfold cIt at h
  split at h
  · rename_i f p a pos
    by_cases e1 : f = ("range" : Str)
    · rw [if_pos e1] at h
      obtain ⟨h1, h⟩ := ite_none h
      rw [Option.map_eq_some_iff] at h
      obtain ⟨c1, h2, rfl⟩ := h
      rw [Bool.and_eq_true] at h1
      subst e1
      obtain ⟨g1, g2, _⟩ := free_ok F K h1.1
      exact si_range1 F g1 g2 h1.2 (H.e _ _ _ h2 F FX K)
    · rw [if_neg e1] at h
      by_cases e2 : f = ("enumerate" : Str)
      · rw [if_pos e2] at h
        obtain ⟨h1, h⟩ := ite_none h
        rw [Option.map_eq_some_iff] at h
        obtain ⟨c1, h2, rfl⟩ := h
        rw [Bool.and_eq_true, Bool.and_eq_true] at h1
        subst e2
        obtain ⟨g1, g2, _⟩ := free_ok F K h1.1.1
        obtain ⟨es, kk, tp, rfl⟩ := isTup_ok h1.2
        exact si_enum F g1 g2 h1.1.2 (H.e _ _ _ h2 F FX K)
      · rw [if_neg e2, Option.map_eq_some_iff] at h
        obtain ⟨c1, h2, rfl⟩ := h
        exact si_seq F (H.e _ _ _ h2 F FX K)
  · rename_i f p a b pos
    by_cases e1 : f = ("range" : Str)
    · rw [if_pos e1] at h
      obtain ⟨h1, h⟩ := ite_none h
      rw [Option.bind_eq_some_iff] at h
      obtain ⟨c1, h2, h⟩ := h
      rw [Option.map_eq_some_iff] at h
      obtain ⟨c2, h3, rfl⟩ := h
      rw [Bool.and_eq_true, Bool.and_eq_true] at h1
      subst e1
      obtain ⟨g1, g2, _⟩ := free_ok F K h1.1.1
      exact si_range2 F g1 g2 h1.1.2 h1.2 (H.e _ _ _ h2 F FX K) (H.e _ _ _ h3 F FX K)
    · rw [if_neg e1] at h
      by_cases e2 : f = ("zip" : Str)
      · rw [if_pos e2] at h
        obtain ⟨h1, h⟩ := ite_none h
        rw [Option.bind_eq_some_iff] at h
        obtain ⟨c1, h2, h⟩ := h
        rw [Option.map_eq_some_iff] at h
        obtain ⟨c2, h3, rfl⟩ := h
        rw [Bool.and_eq_true, Bool.and_eq_true, Bool.and_eq_true] at h1
        subst e2
        obtain ⟨g1, g2, _⟩ := free_ok F K h1.1.1.1
        obtain ⟨es, kk, tp, rfl⟩ := isTup_ok h1.2
        exact si_zip F g1 g2 h1.1.1.2 h1.1.2 (H.e _ _ _ h2 F FX K) (H.e _ _ _ h3 F FX K)
      · rw [if_neg e2, Option.map_eq_some_iff] at h
        obtain ⟨c1, h2, rfl⟩ := h
        exact si_seq F (H.e _ _ _ h2 F FX K)
  · rw [Option.map_eq_some_iff] at h
    obtain ⟨c1, h2, rfl⟩ := h
    exact si_seq F (H.e _ _ _ h2 F FX K)
end
/-! ### comprehensions -/
def relab (scope sc : Scope) : Scope :=
  { scope with names := scope.names.map fun (n, k) => if (k == .free && sc.kind == .function && sc.names.lookup n == some .cell) then (n, .cell) else (n, k) }
theorem relab_ok {scope : Scope} {env : PySem.Env} : relabel scope env = relab scope env.scope := rfl
def ownC (N : List Str) : List (Str × NameKind) → List (Str × Nat)
  | [] => []
  | (x, .local) :: r => (match idxN N x with | some i => (x, i) :: ownC N r | none => ownC N r)
  | (x, .cell) :: r => (match idxN N x with | some i => (x, i) :: ownC N r | none => ownC N r)
  | _ :: r => ownC N r
/-- the block of a comprehension -/
def Sc.inner (S : Sc) (scope : Scope) : Sc := { S with sc := relab scope S.sc, top := false, own := (scope.names.map (·.1)).filter fun x => scope.names.lookup x == some .cell, hand := none }
def cLc (k : Cp) (S : Sc) (elt tg iter : Expr) (ifs : List Expr) (scope : Scope) : Option (List Nat × E × Tg × It × Oo) :=
  if (S.T.cal && blkC S.N S.sc scope (ownC S.N scope.names) && notSet iter) = true then
    (cIt k S tg iter).bind fun it => (k.g (S.inner scope) tg).bind fun t => (k.e (S.inner scope) elt).bind fun ce =>
      if (t.slots.all fun i => (((ownC S.N scope.names).map (·.2)).contains i)) = true then
        match ifs with
        | [] => some ((ownC S.N scope.names).map (·.2), ce, t, it, .none)
        | [c] => (k.t (S.inner scope) c).map fun cc => ((ownC S.N scope.names).map (·.2), ce, t, it, .some cc)
        | _ => none
      else none
  else none
structure LcOk (G : Pg) (C : Orc) (W : WX) (X : Cx) (elt tg iter : Expr) (ifs : List Expr) (scope : Scope) (r : List Nat × E × Tg × It × Oo) (own : List (Str × Nat)) : Prop where
  ow : r.1 = own.map (·.2)
  it : PI X tg iter (rdI G C W r.2.2.2.1)
  blk : BlkOk X.N X.env.scope scope own
  parts : LcParts G C X elt tg ifs scope r.2.1 r.2.2.1 r.2.2.2.2
  slots : ∀ i ∈ r.2.2.1.slots, i ∈ own.map (·.2)
  set : notSet iter = true
section
variable {k : Cp} (H : Snd k) {G : Pg} {C : Orc} {m : Nat} {X : Cx} {W : WX} {S : Sc} (F : Fit G S.T C m X W) (FX : ExFit G S.T X.K X.mg) (K : CtxOk G S X)
include H F FX K
theorem inner_ok {scope : Scope} (hb : scope.kind = .function) (s : Shared) (Hh : Hp) (Cc : Addr) (cl : List (Str × Addr)) (fp : List Addr) : CtxOk G (S.inner scope) (X.blk s Hh scope (compEnvC scope cl Cc X.env) fp) := by
  refine ⟨K.N, ?_, hb, fun x h => ?_, (fun y (h : none = some y) => nomatch h), (fun h => nomatch h)⟩
  · show relabel scope X.env = relab scope S.sc
    rw [relab_ok, K.sc]
  · rcases h with h | h
    · cases h
    · have := List.contains_iff_mem.mp h
      have := (List.mem_filter.mp this).2
      exact this
theorem cLc_ok {elt tg iter : Expr} {ifs : List Expr} {scope : Scope} {r : List Nat × E × Tg × It × Oo} (h : cLc k S elt tg iter ifs scope = some r) : S.T.cal = true ∧ LcOk G C W X elt tg iter ifs scope r (ownC S.N scope.names) := by
  unfold cLc at h
  obtain ⟨h1, h⟩ := ite_none h
  rw [Bool.and_eq_true, Bool.and_eq_true] at h1
  rw [Option.bind_eq_some_iff] at h
  obtain ⟨it, h2, h⟩ := h
  rw [Option.bind_eq_some_iff] at h
  obtain ⟨t, h3, h⟩ := h
  rw [Option.bind_eq_some_iff] at h
  obtain ⟨ce, h4, h⟩ := h
  obtain ⟨h5, h⟩ := ite_none h
  have B : BlkOk X.N X.env.scope scope (ownC S.N scope.names) := by rw [K.N, K.sc]; exact blkOk_by h1.1.2
  have sl : ∀ i ∈ t.slots, i ∈ (ownC S.N scope.names).map (·.2) := fun i hi => List.contains_iff_mem.mp (List.all_eq_true.mp h5 i hi)
  have hg : ∀ (s : Shared) (Hh : Hp) (Cc : Addr) (cl : List (Str × Addr)) (fp : List Addr), PG (X.blk s Hh scope (compEnvC scope cl Cc X.env) fp) tg (rdG G t) := fun s Hh Cc cl fp => H.g (S.inner scope) _ _ h3 (F.blk h1.1.1 s Hh scope _ fp) (inner_ok H F FX K B.kind s Hh Cc cl fp)
  have he : ∀ (s : Shared) (Hh : Hp) (Cc : Addr) (cl : List (Str × Addr)) (fp : List Addr), PE (X.blk s Hh scope (compEnvC scope cl Cc X.env) fp) elt (rdE G C W0 ce) := fun s Hh Cc cl fp => H.e (S.inner scope) _ _ h4 (F.blk h1.1.1 s Hh scope _ fp) FX (inner_ok H F FX K B.kind s Hh Cc cl fp)
  refine ⟨h1.1.1, ?_⟩
  split at h
  · cases h
    exact ⟨rfl, cIt_ok H F FX K h2, B, ⟨hg, fun s Hh Cc cl fp => sq_none, he⟩, sl, h1.2⟩
  · rename_i c
    rw [Option.map_eq_some_iff] at h
    obtain ⟨cc, h6, rfl⟩ := h
    exact ⟨rfl, cIt_ok H F FX K h2, B, ⟨hg, fun s Hh Cc cl fp => sq_one (H.t (S.inner scope) _ _ h6 (F.blk h1.1.1 s Hh scope _ fp) FX (inner_ok H F FX K B.kind s Hh Cc cl fp)), he⟩, sl, h1.2⟩
  · cases h
end
end Py
end
section
set_option Elab.async false
set_option linter.all false
set_option maxRecDepth 100000
set_option maxHeartbeats 4000000
/-! PyO: all expressions. -/
namespace Py
open PySem PySem.Spec L2
def mthTab : List (Str × Mth) := [("upper", .upper), ("join", .join), ("find", .find), ("split", .split), ("startswith", .startswith)]
def mthGet : List (Str × Mth) → Str → Option Mth
  | [], _ => none
  | (y, b) :: r, x => if y = x then some b else mthGet r x
theorem mthGet_mem : ∀ {l : List (Str × Mth)} {x : Str} {b : Mth}, mthGet l x = some b → (x, b) ∈ l
  | [], _, _, h => by cases h
  | (y, b') :: r, x, b, h => by
    unfold mthGet at h
    by_cases e : y = x
    · rw [if_pos e] at h; cases h; subst e; exact List.mem_cons_self
    · rw [if_neg e] at h; exact List.mem_cons_of_mem _ (mthGet_mem h)
theorem mth_tab {G : Pg} {X : Cx} {x : Str} {b : Mth} (h : (x, b) ∈ mthTab) : b ≠ .get ∧ ∃ id, PySem.Slot "str" x id ∧ typeOf (.builtin id) = pure (.type "method_descriptor") ∧ MtR X id (rMth G b) := by
  simp only [mthTab, List.mem_cons, Prod.mk.injEq, List.not_mem_nil, or_false] at h
  rcases h with ⟨rfl, rfl⟩ | ⟨rfl, rfl⟩ | ⟨rfl, rfl⟩ | ⟨rfl, rfl⟩ | ⟨rfl, rfl⟩
  · exact ⟨nofun, _, PySem.F.slot_str_upper, PySem.F.type_str_upper, mth_upper⟩
  · exact ⟨nofun, _, PySem.F.slot_str_join, PySem.F.type_str_join, mth_join⟩
  · exact ⟨nofun, _, PySem.F.slot_str_find, PySem.F.type_str_find, mth_find⟩
  · exact ⟨nofun, _, PySem.F.slot_str_split, PySem.F.type_str_split, mth_split⟩
  · exact ⟨nofun, _, PySem.F.slot_str_startswith, PySem.F.type_str_startswith, mth_starts⟩
def cMeth (k : Cp) (S : Sc) (o : Expr) (m : Str) (apos : Pos) (es : List Expr) (cpos : Pos) : Option E :=
  if (plainBase o && (apos.endLine == cpos.line)) = true then
    if m = ("get" : Str) then match es with
      | [a, b] => if (noStar a && noStar b) = true then (cO k S o).bind fun co => (cO k S a).bind fun ca => (cO k S b).map fun cb => .meth .get co (.cons ca (.cons cb .nil)) else none
      | _ => none
    else (mthGet mthTab m).bind fun mt => (cO k S o).bind fun co => match es with
      | [] => some (.meth mt co .nil)
      | e :: es => if ((e :: es).all noStar && decide ((e :: es).length < 30)) = true then (cOs k S (e :: es)).map fun cs => .meth mt co cs else none
  else none
def fldIx : List (Str × Str) → Nat → Str → List Nat
  | [], _, _ => []
  | (_, f) :: r, n, x => if f = x then n :: fldIx r (n + 1) x else fldIx r (n + 1) x
def exIx : List (Str × Str) → Nat → Str → Option (Nat × Str)
  | [], _, _ => none
  | (x, f) :: r, n, y => if x = y then some (n, f) else exIx r (n + 1) y
theorem exIx_ok : ∀ {l : List (Str × Str)} {n : Nat} {y : Str} {p : Nat × Str}, exIx l n y = some p → n ≤ p.1 ∧ l[p.1 - n]? = some (y, p.2)
  | [], _, _, _, h => by cases h
  | (x, f) :: r, n, y, p, h => by
    unfold exIx at h
    by_cases e : x = y
    · rw [if_pos e] at h
      cases h
      subst e
      exact ⟨Nat.le_refl _, by rw [Nat.sub_self]; rfl⟩
    · rw [if_neg e] at h
      obtain ⟨h1, h2⟩ := exIx_ok h
      refine ⟨by omega, ?_⟩
      rw [show p.1 - n = (p.1 - (n + 1)) + 1 by omega, List.getElem?_cons_succ]
      exact h2
def hdIx : List (Str × List Nat) → Str → Option (List Nat)
  | [], _ => none
  | (x, l) :: r, y => if x = y then some l else hdIx r y
theorem hdIx_ok : ∀ {l : List (Str × List Nat)} {y : Str} {p : List Nat}, hdIx l y = some p → (y, p) ∈ l
  | [], _, _, h => by cases h
  | (x, f) :: r, y, p, h => by
    unfold hdIx at h
    by_cases e : x = y
    · rw [if_pos e] at h
      cases h
      subst e
      exact List.mem_cons_self
    · rw [if_neg e] at h
      exact List.mem_cons_of_mem _ (hdIx_ok h)
/-- an error's making -/
def cMk (k : Cp) (S : Sc) (f : Str) : List Expr → List Keyword → Option E
  | [a], [] => if (glB S.sc f && nmOk f && noStar a) = true then (exIx S.T.exs 0 f).bind fun q => (k.e S a).map fun c => .mkx q.1 c else none
  | [], [⟨some n, a, _⟩] => if (glB S.sc f && nmOk f) = true then (exIx S.T.exs 0 f).bind fun q => if decide (n = q.2) = true then (k.e S a).map fun c => .mkx q.1 c else none else none
  | _, _ => none
def cIsx (k : Cp) (S : Sc) (a : Expr) (T : Str) : Option E :=
  (hdIx S.T.hds T).bind fun cs => if (freeB S "isinstance" && glB S.sc T && nmOk T && noStar a) = true then (cO k S a).map fun c => .isx c cs else none
def cAtt (k : Cp) (S : Sc) (a : Expr) (fld : Str) : Option E := if plainBase a = true then (k.e S a).map fun c => .att c (fldIx S.T.exs 0 fld) else none
def cName (S : Sc) (x : Str) : Option E := match slotC S x with
  | some i => some (.fname i)
  | none => if (glB S.sc x && nmOk x) = true then match S.T.consts.lookup x with
      | some d => some (.const d)
      | none => (fnIx S.T.fns x).map fun p => .const (.fn p.1)
    else none
def cBlt (k : Cp) (S : Sc) (f : Str) (a : Expr) : Option E :=
  (bltGet bltTab f).bind fun b => if (freeB S f && noStar a && (!b.2 || S.T.cal)) = true then (cO k S a).map fun c => .blt b.1 (.cons c .nil) else none
def cIsi (k : Cp) (S : Sc) (a : Expr) (T : Str) : Option E :=
  (isGet isTab T).bind fun t => if (freeB S "isinstance" && freeB S T && noStar a) = true then (cO k S a).map fun c => .blt (.isinst t) (.cons c .nil) else none
def cSI (k : Cp) (S : Sc) (f : Str) : Expr → Option E
  | .Call (.Attribute o m apos) [] [] cpos =>
    if (decide (f = ("sorted" : Str)) && decide (m = ("items" : Str)) && S.T.cal && freeB S "sorted" && plainBase o && (apos.endLine == cpos.line)) = true then (cO k S o).map fun c => .bi .sorted (.items c) else none
  | .Call (.Name g p2) [a] [] cpos =>
    if (decide (f = ("sorted" : Str)) && decide (g = ("set" : Str)) && S.T.cal && freeB S "sorted" && freeB S "set" && noStar a) = true then (cO k S a).map fun c => .blt .sortedSet (.cons c .nil) else none
  | _ => none
def cE (k : Cp) (S : Sc) : Expr → Option E
  | .Constant (.int i) _ _ => some (.const (.int i))
  | .Constant (.str i) _ _ => some (.const (.str i))
  | .Constant (.bool i) _ _ => some (.const (.bl i))
  | .Constant .none _ _ => some (.const .non)
  | .Name x _ => cName S x
  | .BinOp a op b _ => (bopC op).bind fun o => (cO k S a).bind fun a => (cO k S b).map fun b => .bin o a b
  | .UnaryOp .Not a _ => (cO k S a).map .not
  | .UnaryOp .USub a _ => (k.e S a).map .neg
  | .BoolOp .And as _ => cAnd k S as
  | .BoolOp .Or as _ => cOr k S as
  | .Compare a [op] [b] _ => (copC op).bind fun o => if (!behindInMarks op b) = true then (cO k S a).bind fun a => (cO k S b).map fun b => .cmp o a b else none
  | .Compare a [op, op2] [b, c] _ => (copC op).bind fun o => (copC op2).bind fun o2 => if (!lastMarks [op, op2] [b, c]) = true then (k.e S a).bind fun a => (k.e S b).bind fun b => (k.e S c).map fun c => .chain o o2 a b c else none
  | .IfExp c a b _ => (k.t S c).bind fun c => (k.e S a).bind fun a => (k.e S b).map fun b => .ite c a b
  | .Tuple es _ _ => (cEs k S es).map .tup
  | .List es _ => (cEs k S es).map .lst
  | .Dict ks vs _ => (keysC ks).bind fun kk => if (!kk.isEmpty && decide (ks.length = vs.length) && decide (ks.length ≤ 15)) = true then (cEs k S vs).map (.newS kk) else none
  | .Subscript a (.Slice lo hi none _) _ => (cO k S a).bind fun a => (cEo k S lo).bind fun lo => (cEo k S hi).map fun hi => .slice a lo hi
  | .Subscript a (.Slice none none (some (.UnaryOp .USub (.Constant (.int 1) _ _) _)) _) _ => (cO k S a).map .rev
  | .Subscript a i _ => if plainPlace i = true then (cO k S a).bind fun a => (k.e S i).map fun i => .idx a i else none
  | .ListComp elt [⟨tg, it, ifs, 0⟩] scope _ => (cLc k S elt tg it ifs scope).map fun r => .lc r.1 r.2.1 r.2.2.1 r.2.2.2.1 r.2.2.2.2
  | .Attribute (.Name x q) fld _ => if S.hand = some x then (slotC S x).map fun i => .exf i (fldIx S.T.exs 0 fld) else cAtt k S (.Name x q) fld
  | .Call (.Name f _) [a, .Name T p2] [] _ => if f = ("isinstance" : Str) then (match cIsi k S a T with
      | some c => some c
      | none => cIsx k S a T) else cCall k S f [a, .Name T p2] []
  | .Call (.Name f _) [a] [] _ => match cCall k S f [a] [] with
    | some c => some c
    | none => match cSI k S f a with
      | some c => some c
      | none => match cMk k S f [a] [] with
        | some c => some c
        | none => cBlt k S f a
  | .Call (.Name f _) [] [kw] _ => match cCall k S f [] [kw] with
    | some c => some c
    | none => cMk k S f [] [kw]
  | .Call (.Name f _) es kws _ => cCall k S f es kws
  | .Call (.Attribute o m apos) es [] cpos => cMeth k S o m apos es cpos
  | _ => none
theorem fldIx_ok : ∀ {l : List (Str × Str)} {n : Nat} {x : Str} {c : Nat}, c ∈ fldIx l n x → ∃ y, n ≤ c ∧ l[c - n]? = some y ∧ y.2 = x
  | [], _, _, _, h => by simp [fldIx] at h
  | (nm, f) :: r, n, x, c, h => by
    unfold fldIx at h
    have tail : c ∈ fldIx r (n + 1) x → ∃ y, n ≤ c ∧ ((nm, f) :: r)[c - n]? = some y ∧ y.2 = x := fun h => by
      obtain ⟨y, h1, h2, h3⟩ := fldIx_ok h
      refine ⟨y, by omega, ?_, h3⟩
      rw [show c - n = (c - (n + 1)) + 1 by omega, List.getElem?_cons_succ]
      exact h2
    by_cases e : f = x
    · rw [if_pos e] at h
      rcases List.mem_cons.mp h with h | h
      · subst h
        exact ⟨(nm, f), Nat.le_refl _, by rw [Nat.sub_self]; rfl, e⟩
      · exact tail h
    · rw [if_neg e] at h
      exact tail h
theorem fldIx_all {l : List (Str × Str)} {x : Str} : (fldIx l 0 x).all (fun c => match l[c]? with | some y => y.2 == x | none => false) = true := by
  rw [List.all_eq_true]
  intro c hc
  obtain ⟨y, _, h2, h3⟩ := fldIx_ok hc
  rw [Nat.sub_zero] at h2
  rw [h2]
  simpa using h3
theorem Fit.isiK : True := trivial
section
variable {k : Cp} (H : Snd k) {G : Pg} {C : Orc} {m : Nat} {X : Cx} {W : WX} {S : Sc} (F : Fit G S.T C m X W) (FX : ExFit G S.T X.K X.mg) (K : CtxOk G S X)
include H F FX K
theorem cSI_ok {f : Str} {a : Expr} {c : E} {p pos : Pos} (h : cSI k S f a = some c) : SE G C W X (.Call (.Name f p) [a] [] pos) c := by
  unfold cSI at h
  split at h
  · obtain ⟨h1, hb⟩ := ite_none h
    rw [Option.map_eq_some_iff] at hb
    obtain ⟨c1, h2, rfl⟩ := hb
    simp only [Bool.and_eq_true, decide_eq_true_eq] at h1
    obtain ⟨⟨⟨⟨⟨rfl, rfl⟩, g1⟩, g2⟩, g3⟩, g4⟩ := h1
    obtain ⟨f1, f2, f3⟩ := free_ok F K g2
    exact s_sortI F g1 f1 f2 g3 g4 (cO_ok H F FX K h2)
  · obtain ⟨h1, hb⟩ := ite_none h
    rw [Option.map_eq_some_iff] at hb
    obtain ⟨c1, h2, rfl⟩ := hb
    simp only [Bool.and_eq_true, decide_eq_true_eq] at h1
    obtain ⟨⟨⟨⟨⟨rfl, rfl⟩, g1⟩, g2⟩, g3⟩, g4⟩ := h1
    obtain ⟨f1, f2, f3⟩ := free_ok F K g2
    obtain ⟨f4, f5, f6⟩ := free_ok F K g3
    exact s_sortS F g1 f1 f2 f4 f5 g4 (cO_ok H F FX K h2)
  · cases h
theorem cMk_ok {f : Str} {es : List Expr} {kws : List Keyword} {c : E} {p pos : Pos} (h : cMk k S f es kws = some c) : SE G C W X (.Call (.Name f p) es kws pos) c := by
  unfold cMk at h
  split at h
  · obtain ⟨h1, hb⟩ := ite_none h
    clear h
    simp only [Bool.and_eq_true] at h1
    rw [Option.bind_eq_some_iff] at hb
    obtain ⟨q, h2, hb⟩ := hb
    rw [Option.map_eq_some_iff] at hb
    obtain ⟨c1, h3, rfl⟩ := hb
    obtain ⟨_, h4⟩ := exIx_ok h2
    rw [Nat.sub_zero] at h4
    exact s_mkx F FX h4 (gl_ok K h1.1.1) (nm_ok h1.1.2).1 h1.2 (H.e _ _ _ h3 F FX K)
  · obtain ⟨h1, hb⟩ := ite_none h
    clear h
    rw [Bool.and_eq_true] at h1
    rw [Option.bind_eq_some_iff] at hb
    obtain ⟨q, h2, hb⟩ := hb
    obtain ⟨h5, hb⟩ := ite_none hb
    rw [Option.map_eq_some_iff] at hb
    obtain ⟨c1, h3, rfl⟩ := hb
    obtain ⟨_, h4⟩ := exIx_ok h2
    rw [Nat.sub_zero] at h4
    have h6 := of_decide_eq_true h5
    subst h6
    exact s_mkxK F FX h4 (gl_ok K h1.1) (nm_ok h1.2).1 (H.e _ _ _ h3 F FX K)
  · cases h
theorem cIsx_ok {T : Str} {a : Expr} {c : E} {p p2 pos : Pos} (h : cIsx k S a T = some c) : SE G C W X (.Call (.Name "isinstance" p) [a, .Name T p2] [] pos) c := by
  unfold cIsx at h
  rw [Option.bind_eq_some_iff] at h
  obtain ⟨cs, h1, h⟩ := h
  obtain ⟨h2, h⟩ := ite_none h
  rw [Option.map_eq_some_iff] at h
  obtain ⟨c1, h3, rfl⟩ := h
  simp only [Bool.and_eq_true] at h2
  obtain ⟨⟨⟨g1, g2⟩, g3⟩, g4⟩ := h2
  obtain ⟨f1, f2, f3⟩ := free_ok F K g1
  exact s_isx FX (hdIx_ok h1) f1 f2 (gl_ok K g2) (nm_ok g3).1 g4 (cO_ok H F FX K h3)
theorem cAtt_ok {a : Expr} {fld : Str} {c : E} {pos : Pos} (h : cAtt k S a fld = some c) : SE G C W X (.Attribute a fld pos) c := by
  unfold cAtt at h
  obtain ⟨h1, h⟩ := ite_none h
  rw [Option.map_eq_some_iff] at h
  obtain ⟨c1, h3, rfl⟩ := h
  exact s_att FX h1 fldIx_all (H.e _ _ _ h3 F FX K)
theorem cMeth_ok {o : Expr} {n : Str} {apos cpos : Pos} {es : List Expr} {c : E} (h : cMeth k S o n apos es cpos = some c) : SE G C W X (.Call (.Attribute o n apos) es [] cpos) c := by
  unfold cMeth at h
  obtain ⟨h1, hb⟩ := ite_none h
  clear h
  rw [Bool.and_eq_true] at h1
  by_cases e1 : n = ("get" : Str)
  · subst e1
    rw [if_pos rfl] at hb
    match es, hb with
    | [a, b], hb =>
      obtain ⟨h2, hb⟩ := ite_none hb
      rw [Bool.and_eq_true] at h2
      rw [Option.bind_eq_some_iff] at hb
      obtain ⟨co, h3, hb⟩ := hb
      rw [Option.bind_eq_some_iff] at hb
      obtain ⟨ca, h4, hb⟩ := hb
      rw [Option.map_eq_some_iff] at hb
      obtain ⟨cb, h5, rfl⟩ := hb
      exact s_get F h1.1 h1.2 h2.1 h2.2 (cO_ok H F FX K h3) (cO_ok H F FX K h4) (cO_ok H F FX K h5)
  · rw [if_neg e1, Option.bind_eq_some_iff] at hb
    obtain ⟨mt, h2, hb⟩ := hb
    rw [Option.bind_eq_some_iff] at hb
    obtain ⟨co, h3, hb⟩ := hb
    obtain ⟨g1, id, g2, g3, g4⟩ := mth_tab (G := G) (X := X) (mthGet_mem h2)
    cases es with
    | nil =>
      cases hb
      exact s_meth0 g1 g2 g3 g4 h1.1 h1.2 (cO_ok H F FX K h3)
    | cons e es =>
      obtain ⟨h4, hb⟩ := ite_none hb
      rw [Option.map_eq_some_iff] at hb
      obtain ⟨cs, h5, rfl⟩ := hb
      rw [Bool.and_eq_true, decide_eq_true_eq] at h4
      exact s_meth g1 g2 g3 g4 h1.1 h1.2 h4.1 h4.2 (cO_ok H F FX K h3) (cOs_ok H F FX K h5)
theorem cName_ok {x : Str} {c : E} {p : Pos} (h : cName S x = some c) : SE G C W X (.Name x p) c := by
  unfold cName at h
  split at h
  · rename_i i e
    cases h
    obtain ⟨h1, h2, h3, h4⟩ := slot_ok K e
    exact s_fname h1 h2 h3 h4
  · obtain ⟨h1, h⟩ := ite_none h
    rw [Bool.and_eq_true] at h1
    split at h
    · rename_i d e
      cases h
      exact s_glob F e (gl_ok K h1.1) (nm_ok h1.2).1
    · rw [Option.map_eq_some_iff] at h
      obtain ⟨q, h2, rfl⟩ := h
      obtain ⟨i1, i2⟩ := fnIx_ok h2
      exact s_fn F i1 i2 (gl_ok K h1.1) (nm_ok h1.2).1
theorem cBlt_ok {f : Str} {a : Expr} {c : E} {p pos : Pos} (h : cBlt k S f a = some c) : SE G C W X (.Call (.Name f p) [a] [] pos) c := by
  unfold cBlt at h
  rw [Option.bind_eq_some_iff] at h
  obtain ⟨b, h1, h⟩ := h
  obtain ⟨h2, h⟩ := ite_none h
  rw [Option.map_eq_some_iff] at h
  obtain ⟨c1, h3, rfl⟩ := h
  rw [Bool.and_eq_true, Bool.and_eq_true] at h2
  obtain ⟨g1, g2, g3⟩ := free_ok F K h2.1.1
  obtain ⟨b1, b2⟩ := b
  have hc : b2 = true → S.T.cal = true := fun e => by
    have := h2.2
    subst e
    simpa using this
  obtain ⟨n1, ⟨id, n2, n3⟩ | ⟨id, n2, n3⟩⟩ := blt_tab F (bltGet_mem h1) hc
  · exact s_bltB n3 g1 g2 n2 n1 g3 h2.1.2 (cO_ok H F FX K h3)
  · exact s_bltT n3 g1 g2 n2 n1 g3 h2.1.2 (cO_ok H F FX K h3)
theorem cIsi_ok {T : Str} {a : Expr} {c : E} {p p2 pos : Pos} (h : cIsi k S a T = some c) : SE G C W X (.Call (.Name "isinstance" p) [a, .Name T p2] [] pos) c := by
  unfold cIsi at h
  rw [Option.bind_eq_some_iff] at h
  obtain ⟨t, h1, h⟩ := h
  obtain ⟨h2, h⟩ := ite_none h
  rw [Option.map_eq_some_iff] at h
  obtain ⟨c1, h3, rfl⟩ := h
  rw [Bool.and_eq_true, Bool.and_eq_true] at h2
  obtain ⟨g1, g2, g3⟩ := free_ok F K h2.1.1
  obtain ⟨e1, e2, e3⟩ := free_ok F K h2.1.2
  obtain ⟨rfl, n1, n2⟩ := is_tab (isGet_mem h1)
  exact s_isi (j := pos) F g1 g2 e1 e2 n1 n2 e3 h2.2 (cO_ok H F FX K h3)
theorem cEs_each : ∀ {as : List Expr} {cs : Es}, cEs k S as = some cs → SEach G C W X as cs
  | [], cs, h => by cases h; exact .nil
  | a :: r, cs, h => by
    unfold cEs at h
    obtain ⟨h1, h⟩ := ite_none h
    rw [Option.bind_eq_some_iff] at h
    obtain ⟨c, h2, h⟩ := h
    rw [Option.map_eq_some_iff] at h
    obtain ⟨cr, h3, rfl⟩ := h
    exact .cons (H.e _ _ _ h2 F FX K) (cEs_each h3)
theorem cE_ok {a : Expr} {c : E} (h : cE k S a = some c) : SE G C W X a c := by
  unfold cE at h
  split at h
  · cases h; exact s_int
  · cases h; exact s_str
  · cases h; exact s_bl
  · cases h; exact s_non
  · exact cName_ok H F FX K h
  · rw [Option.bind_eq_some_iff] at h
    obtain ⟨o, h1, h⟩ := h
    rw [Option.bind_eq_some_iff] at h
    obtain ⟨ca, h2, h⟩ := h
    rw [Option.map_eq_some_iff] at h
    obtain ⟨cb, h3, rfl⟩ := h
    rw [bop_ok h1]
    exact s_bin F (cO_ok H F FX K h2) (cO_ok H F FX K h3)
  · rw [Option.map_eq_some_iff] at h
    obtain ⟨ca, h2, rfl⟩ := h
    exact s_not F (cO_ok H F FX K h2)
  · rw [Option.map_eq_some_iff] at h
    obtain ⟨ca, h2, rfl⟩ := h
    exact s_neg (H.e _ _ _ h2 F FX K)
  · exact cAnd_ok H F FX K h
  · exact cOr_ok H F FX K h
  · rw [Option.bind_eq_some_iff] at h
    obtain ⟨o, h1, h⟩ := h
    obtain ⟨h2, h⟩ := ite_none h
    rw [Option.bind_eq_some_iff] at h
    obtain ⟨c2, h3, h⟩ := h
    rw [Option.map_eq_some_iff] at h
    obtain ⟨c3, h4, rfl⟩ := h
    rw [cop_ok h1] at h2 ⊢
    exact s_cmp F (cO_ok H F FX K h3) (cO_ok H F FX K h4) (not_false h2)
  · rw [Option.bind_eq_some_iff] at h
    obtain ⟨o, h1, h⟩ := h
    rw [Option.bind_eq_some_iff] at h
    obtain ⟨o2, h5, h⟩ := h
    obtain ⟨h2, h⟩ := ite_none h
    rw [Option.bind_eq_some_iff] at h
    obtain ⟨c2, h3, h⟩ := h
    rw [Option.bind_eq_some_iff] at h
    obtain ⟨c3, h4, h⟩ := h
    rw [Option.map_eq_some_iff] at h
    obtain ⟨c4, h6, rfl⟩ := h
    rw [cop_ok h1, cop_ok h5] at h2 ⊢
    exact s_chain F (H.e _ _ _ h3 F FX K) (H.e _ _ _ h4 F FX K) (H.e _ _ _ h6 F FX K) (not_false h2)
  · rw [Option.bind_eq_some_iff] at h
    obtain ⟨c1, h1, h⟩ := h
    rw [Option.bind_eq_some_iff] at h
    obtain ⟨c2, h2, h⟩ := h
    rw [Option.map_eq_some_iff] at h
    obtain ⟨c3, h3, rfl⟩ := h
    exact s_ite (H.t _ _ _ h1 F FX K) (H.e _ _ _ h2 F FX K) (H.e _ _ _ h3 F FX K)
  · rw [Option.map_eq_some_iff] at h
    obtain ⟨ca, h2, rfl⟩ := h
    exact s_tup (cEs_ok H F FX K h2)
  · rw [Option.map_eq_some_iff] at h
    obtain ⟨ca, h2, rfl⟩ := h
    exact s_lst (cEs_ok H F FX K h2)
  · rw [Option.bind_eq_some_iff] at h
    obtain ⟨kk, h1, h⟩ := h
    obtain ⟨h2, h⟩ := ite_none h
    rw [Option.map_eq_some_iff] at h
    obtain ⟨cs, h3, rfl⟩ := h
    simp only [Bool.and_eq_true, decide_eq_true_eq] at h2
    exact s_newS F h1 h2.1.1 h2.1.2 h2.2 (cEs_each H F FX K h3)
  · rw [Option.bind_eq_some_iff] at h
    obtain ⟨c1, h1, h⟩ := h
    rw [Option.bind_eq_some_iff] at h
    obtain ⟨c2, h2, h⟩ := h
    rw [Option.map_eq_some_iff] at h
    obtain ⟨c3, h3, rfl⟩ := h
    exact s_slice F (cO_ok H F FX K h1) (cEo_ok H F FX K h2) (cEo_ok H F FX K h3)
  · rw [Option.map_eq_some_iff] at h
    obtain ⟨c1, h1, rfl⟩ := h
    exact s_back F (cO_ok H F FX K h1)
  · obtain ⟨h1, h⟩ := ite_none h
    rw [Option.bind_eq_some_iff] at h
    obtain ⟨c1, h2, h⟩ := h
    rw [Option.map_eq_some_iff] at h
    obtain ⟨c3, h3, rfl⟩ := h
    exact s_idx F (cO_ok H F FX K h2) (H.e _ _ _ h3 F FX K) h1
  · rw [Option.map_eq_some_iff] at h
    obtain ⟨r, h2, rfl⟩ := h
    obtain ⟨hc, L⟩ := cLc_ok (C := C) (W := W) H F FX K h2
    rw [L.ow]
    exact s_lc F hc L.it L.blk L.parts L.slots L.set
  · rename_i x p fld pos
    by_cases e : S.hand = some x
    · rw [if_pos e, Option.map_eq_some_iff] at h
      obtain ⟨i, h2, rfl⟩ := h
      obtain ⟨h3, h4, h5, h6⟩ := slot_ok K h2
      obtain ⟨X0, ad, oe, cls, dd, pn, G0, rfl, rfl, hz, hf, FX0⟩ := (K.hand x e).ex
      exact s_exf FX0 hz hf fldIx_all h3 h4 h5 h6
    · rw [if_neg e] at h
      exact cAtt_ok H F FX K h
  · rename_i f p a T p2 pos
    by_cases e : f = ("isinstance" : Str)
    · rw [if_pos e] at h
      subst e
      split at h
      · rename_i e1
        cases h
        exact cIsi_ok H F FX K e1
      · exact cIsx_ok H F FX K h
    · rw [if_neg e] at h
      exact cCall_ok H F FX K h
  · split at h
    · rename_i e
      cases h
      exact cCall_ok H F FX K e
    · split at h
      · rename_i e
        cases h
        exact cSI_ok H F FX K e
      · split at h
        · rename_i e
          cases h
          exact cMk_ok H F FX K e
        · exact cBlt_ok H F FX K h
  · split at h
    · rename_i e
      cases h
      exact cCall_ok H F FX K e
    · exact cMk_ok H F FX K h
  · exact cCall_ok H F FX K h
  · exact cMeth_ok H F FX K h
  · cases h
end
/-- the parts, n deep -/
def cp : Nat → Cp
  | 0 => cp0
  | n + 1 => ⟨cE (cp n), cT (cp n), cG (cp n)⟩
theorem cp_ok : ∀ n, Snd (cp n)
  | 0 => snd0
  | n + 1 => ⟨fun _ _ _ h _ _ _ _ _ F FX K => cE_ok (cp_ok n) F FX K h, fun _ _ _ h _ _ _ _ _ F FX K => cT_ok (cp_ok n) F FX K h, fun _ _ _ h _ _ _ _ _ F K => cG_ok (cp_ok n) h F K⟩
end Py
end
section
set_option Elab.async false
set_option linter.all false
set_option maxRecDepth 100000
set_option maxHeartbeats 4000000
/-! PyP: statements as written, brought into the small language. -/
namespace Py
open PySem PySem.Spec L2
theorem blockKind_fn {env : PySem.Env} (h : env.scope.kind = .function) : env.blockKind = .function := by
  unfold Env.blockKind
  rw [h]; rfl
def isLocal (sc : Scope) (x : Str) : Bool := match sc.names.lookup x with
  | some .local => true
  | _ => false
theorem isLocal_ok {sc : Scope} {x : Str} (h : isLocal sc x = true) : sc.names.lookup x = some .local := by
  unfold isLocal at h
  split at h
  · assumption
  · cases h
/-- x = [.. for ..]: the swap -/
def swB (sc : Scope) (x : Str) (px p : Pos) (s : Scope) : Bool := (sc.names.lookup x == some .local) && px.line == p.line && !(s.names.any fun (n, k) => n == x && (k == .local || k == .cell))
theorem sw_lc {elt : Expr} {gens : List Comprehension} {s : Scope} {p px : Pos} {x : Str} {l : Nat} {env : PySem.Env} (h : env.scope.kind = .function) : swapsWith (.ListComp elt gens s p) (some (.Name x px)) l env = pure (swB env.scope x px p s) := by
  show (pure (env.blockKind == .function && env.kindOf x == some .local && px.line == p.line && !(s.names.any fun (n, k) => n == x && (k == .local || k == .cell))) : Sem Bool) = _
  rw [blockKind_fn h]
  unfold swB Env.kindOf
  rfl
def notTup : Expr → Bool
  | .Tuple _ _ _ => false
  | _ => true
theorem sw_none {elts : List Expr} {kk : Nat} {pt : Pos} {e : Expr} {env : PySem.Env} (h : notTup e = true) : swappedStores [.Tuple elts kk pt] e env = pure none := by
  cases e <;> first | rfl | cases h
theorem any_no {f : Expr → Bool} : ∀ {l : List Expr}, l.all noStar = true → (∀ e, noStar e = true → f e = false) → l.any f = false
  | [], _, _ => rfl
  | e :: l, h, hf => by
    rw [List.all_cons, Bool.and_eq_true] at h
    rw [List.any_cons, hf e h.1, any_no h.2 hf]; rfl
def sw2B (sc : Scope) (x y : Str) (px py : Pos) (a b : Expr) : Bool :=
  isLocal sc x && isLocal sc y && (py.line == px.line) && !(x == y) && noStar a && noStar b && !([a, b].all (foldedForSure 8)) && !([a, b].all (constantsAlone 8))
theorem sw_two {x y : Str} {px py pt pt2 : Pos} {kt k2 : Nat} {a b : Expr} {env : PySem.Env} (hk : env.scope.kind = .function) (h : sw2B env.scope x y px py a b = true) :
    swappedStores [.Tuple [.Name x px, .Name y py] kt pt] (.Tuple [a, b] k2 pt2) env = pure (some [x, y]) := by
  unfold sw2B at h
  simp only [Bool.and_eq_true, Bool.not_eq_true'] at h
  obtain ⟨⟨⟨⟨⟨⟨⟨h1, h2⟩, h3⟩, h4⟩, h5⟩, h6⟩, h7⟩, h8⟩ := h
  have e1 : env.kindOf x = some .local := isLocal_ok h1
  have e2 : env.kindOf y = some .local := isLocal_ok h2
  unfold swappedStores
  have hd : ([x, y] : List Str).eraseDups.length = 2 := by
    have : (y == x) = false := by
      have := h4
      simp only [beq_eq_false_iff_ne, ne_eq] at this ⊢
      exact fun e => this e.symm
    simp [List.eraseDups_cons, List.filter, this]
  simp only [List.length_cons, List.length_nil, blockKind_fn hk, List.head?_cons, Option.map_some, Option.getD_some, Expr.pos, List.filterMap_cons, e1, e2, h3, beq_self_eq_true, Bool.and_self, if_true, List.filterMap_nil, hd, h7, h8]
  rw [any_no (l := [a, b]) (by simp [h5, h6]) (fun e h => by cases e <;> first | rfl | cases h)]
  rfl
def sw3B (sc : Scope) (x y z : Str) (px py pz : Pos) (a b c : Expr) : Bool :=
  isLocal sc x && isLocal sc y && isLocal sc z && (py.line == px.line) && (pz.line == px.line) && !(x == y) && !(x == z) && !(y == z) && noStar a && noStar b && noStar c && !([a, b, c].all (foldedForSure 8)) && !([a, b, c].all (constantsAlone 8))
theorem sw_three {x y z : Str} {px py pz pt pt2 : Pos} {kt k2 : Nat} {a b c : Expr} {env : PySem.Env} (hk : env.scope.kind = .function) (h : sw3B env.scope x y z px py pz a b c = true) :
    swappedStores [.Tuple [.Name x px, .Name y py, .Name z pz] kt pt] (.Tuple [a, b, c] k2 pt2) env = pure (some [x, y, z]) := by
  unfold sw3B at h
  simp only [Bool.and_eq_true, Bool.not_eq_true'] at h
  obtain ⟨⟨⟨⟨⟨⟨⟨⟨⟨⟨⟨⟨h1, h2⟩, h3⟩, h4⟩, h5⟩, h6⟩, h7⟩, h8⟩, h9⟩, h10⟩, h11⟩, h12⟩, h13⟩ := h
  have e1 : env.kindOf x = some .local := isLocal_ok h1
  have e2 : env.kindOf y = some .local := isLocal_ok h2
  have e3 : env.kindOf z = some .local := isLocal_ok h3
  unfold swappedStores
  have hd : ([x, y, z] : List Str).eraseDups.length = 3 := by
    have n1 : (y == x) = false := by
      simp only [beq_eq_false_iff_ne, ne_eq] at h6 ⊢
      exact fun e => h6 e.symm
    have n2 : (z == x) = false := by
      simp only [beq_eq_false_iff_ne, ne_eq] at h7 ⊢
      exact fun e => h7 e.symm
    have n3 : (z == y) = false := by
      simp only [beq_eq_false_iff_ne, ne_eq] at h8 ⊢
      exact fun e => h8 e.symm
    simp [List.eraseDups_cons, List.filter, n1, n2, n3]
  simp only [List.length_cons, List.length_nil, blockKind_fn hk, List.head?_cons, Option.map_some, Option.getD_some, Expr.pos, List.filterMap_cons, e1, e2, e3, h4, h5, beq_self_eq_true, Bool.and_self, if_true, List.filterMap_nil, hd, h12, h13]
  rw [any_no (l := [a, b, c]) (by simp [h9, h10, h11]) (fun e h => by cases e <;> first | rfl | cases h)]
  rfl
/-- one of the names is kept in a cell: no swap -/
def pairB (sc : Scope) (x y : Str) (a b : Expr) : Bool := (!(isLocal sc x) || !(isLocal sc y)) && locB sc x && locB sc y && noStar a && noStar b
theorem loc_no {sc : Scope} {x : Str} (h : isLocal sc x = false) : (sc.names.lookup x == some NameKind.local) = false := by
  unfold isLocal at h
  split at h
  · cases h
  · rename_i hn
    simpa using hn
theorem sw_pair {x y : Str} {px py pt pt2 : Pos} {kt k2 : Nat} {a b : Expr} {env : PySem.Env} (h : pairB env.scope x y a b = true) :
    swappedStores [.Tuple [.Name x px, .Name y py] kt pt] (.Tuple [a, b] k2 pt2) env = pure none := by
  unfold pairB at h
  simp only [Bool.and_eq_true] at h
  obtain ⟨⟨⟨⟨h1, g3⟩, g4⟩, h5⟩, h6⟩ := h
  unfold swappedStores
  rw [Bool.or_eq_true] at h1
  have star := any_no (f := fun e => match e with
    | .Starred .. => true
    | _ => false) (l := [a, b]) (by simp [h5, h6]) (fun e h => by cases e <;> first | rfl | cases h)
  rcases h1 with h1 | h1
  · have e : (env.kindOf x == some NameKind.local) = false := loc_no (by simpa using h1)
    by_cases hz : (env.kindOf y == some NameKind.local && py.line == px.line) = true
    · simp only [List.length_cons, List.length_nil, List.head?_cons, Option.map_some, Option.getD_some, Expr.pos, List.filterMap_cons, List.filterMap_nil, e, hz, Bool.false_and, Bool.false_eq_true, if_false, if_true]
      repeat (first | rfl | split)
    · simp only [List.length_cons, List.length_nil, List.head?_cons, Option.map_some, Option.getD_some, Expr.pos, List.filterMap_cons, List.filterMap_nil, e, hz, Bool.false_and, Bool.false_eq_true, if_false]
      repeat (first | rfl | split)
  · have e : (env.kindOf y == some NameKind.local) = false := loc_no (by simpa using h1)
    by_cases hz : (env.kindOf x == some NameKind.local && px.line == px.line) = true
    · simp only [List.length_cons, List.length_nil, List.head?_cons, Option.map_some, Option.getD_some, Expr.pos, List.filterMap_cons, List.filterMap_nil, e, hz, Bool.false_and, Bool.false_eq_true, if_false, if_true]
      repeat (first | rfl | split)
    · simp only [List.length_cons, List.length_nil, List.head?_cons, Option.map_some, Option.getD_some, Expr.pos, List.filterMap_cons, List.filterMap_nil, e, hz, Bool.false_and, Bool.false_eq_true, if_false]
      repeat (first | rfl | split)
/-- all constants: no swap -/
theorem sw_folded {ts : List Expr} {kt k2 : Nat} {pt pt2 : Pos} {vs : List Expr} {env : PySem.Env} (h : vs.all (foldedForSure 8) = true) : swappedStores [.Tuple ts kt pt] (.Tuple vs k2 pt2) env = pure none := by
  unfold swappedStores
  simp only [h, if_true]
  repeat (first | rfl | split)
/-! ### statements -/
def cR (k : Cp) (S : Sc) : Expr → Option Rhs
  | .List es _ => (cEs k S es).map .lst
  | .Dict [] [] _ => some (.dct [] .nil)
  | _ => none
def cX (k : Cp) (S : Sc) (x : Str) (e : Expr) : Option (Py.E ⊕ Rhs) := if S.muts.contains x = true then (cR k S e).map .inr else (k.e S e).map .inl
def cAsg (k : Cp) (S : Sc) (x : Str) (px : Pos) (e : Expr) : Option Sm :=
  if (locB S.sc x && S.top) = true then (idxN S.N x).bind fun i =>
    if S.muts.contains x = true then (if notComp e = true then (cR k S e).map (.mk i) else none)
    else match e with
      | .ListComp elt [⟨tg, it, ifs, 0⟩] scope p =>
        if swB S.sc x px p scope = true then (cLc k S elt tg it ifs scope).map fun r => .asg (.name i) (.lc r.1 r.2.1 r.2.2.1 r.2.2.2.1 r.2.2.2.2)
        else (k.e S e).map fun c => .asg (.name i) c
      | e => if notComp e = true then (k.e S e).map fun c => .asg (.name i) c else none
  else none
def cAsgT (k : Cp) (S : Sc) (elts : List Expr) (kk : Nat) (pt : Pos) (e : Expr) : Option Sm :=
  match elts, e with
  | [.Name x px, .Name y py], .Tuple [a, b] _ _ =>
    if sw2B S.sc x y px py a b = true then
      if S.T.cal = true then (idxN S.N x).bind fun i => (idxN S.N y).bind fun j => if i = j then none else (cX k S x a).bind fun ca => (cX k S y b).map fun cb => .par [(i, ca), (j, cb)]
      else none
    else if (S.T.cal && pairB S.sc x y a b) = true then (idxN S.N x).bind fun i => (idxN S.N y).bind fun j => if S.top = true then (cX k S x a).bind fun ca => (cX k S y b).map fun cb => .par [(i, ca), (j, cb)] else none
    else if [a, b].all (foldedForSure 8) = true then (k.g S (.Tuple elts kk pt)).bind fun t => match t with
      | .tup ts => (k.e S e).map fun c => .asg (.tup ts) c
      | _ => none
    else none
  | [.Name x px, .Name y py, .Name z pz], .Tuple [a, b, c] _ _ =>
    if sw3B S.sc x y z px py pz a b c = true then
      if S.T.cal = true then (idxN S.N x).bind fun i => (idxN S.N y).bind fun j => (idxN S.N z).bind fun l => if i = j ∨ i = l ∨ j = l then none else (cX k S x a).bind fun ca => (cX k S y b).bind fun cb => (cX k S z c).map fun cc => .par [(i, ca), (j, cb), (l, cc)]
      else none
    else none
  | _, e => if (notTup e && notComp e) = true then (k.g S (.Tuple elts kk pt)).bind fun t => match t with
      | .tup ts => (k.e S e).map fun c => .asg (.tup ts) c
      | _ => none
    else none
section
variable {k : Cp} (H : Snd k) {G : Pg} {C : Orc} {m : Nat} {X : Cx} {E : XK} {S : Sc} (F : Fit G S.T C m X (wK E)) (FX : ExFit G S.T X.K X.mg) (K : CtxOk G S X)
include H F FX K
theorem cR_ok {a : Expr} {c : Rhs} (h : cR k S a = some c) : SR G C (wK E) X a c := by
  unfold cR at h
  split at h
  · rw [Option.map_eq_some_iff] at h
    obtain ⟨cs, h1, rfl⟩ := h
    exact r_lst (cEs_ok H F FX K h1)
  · cases h
    exact r_dnil
  · cases h
theorem cX_ok {x : Str} {a : Expr} {c : Py.E ⊕ Rhs} (h : cX k S x a = some c) : PE X a (rdX G C (wK E) c) := by
  unfold cX at h
  split at h
  · rw [Option.map_eq_some_iff] at h
    obtain ⟨cs, h1, rfl⟩ := h
    exact x_inr (cR_ok H F FX K h1)
  · rw [Option.map_eq_some_iff] at h
    obtain ⟨cs, h1, rfl⟩ := h
    exact x_inl (H.e _ _ _ h1 F FX K)
theorem kfn : X.env.scope.kind = .function := by rw [K.sc]; exact K.kind
theorem cAsg_ok {x : Str} {px pos : Pos} {e : Expr} {c : Sm} (h : cAsg k S x px e = some c) : SS G C E X (.Assign [.Name x px] e pos) c := by
  unfold cAsg at h
  obtain ⟨h1, hb⟩ := ite_none h
  clear h
  rw [Bool.and_eq_true] at h1
  rw [Option.bind_eq_some_iff] at hb
  obtain ⟨i, h2, hb⟩ := hb
  have hN : X.N[i]? = some x := by rw [K.N]; exact idxN_ok h2
  have hL := loc_ok K h1.1
  have hf : ∀ x, X.fn x = true := fun x => K.fn x (.inl h1.2)
  split at hb
  · obtain ⟨h3, hb⟩ := ite_none hb
    rw [Option.map_eq_some_iff] at hb
    obtain ⟨r, h4, rfl⟩ := hb
    exact t_mk F hN hL hf h3 (cR_ok H F FX K h4)
  · split at hb
    · rename_i elt tg it ifs scope p
      split at hb
      · rename_i hsw
        rw [Option.map_eq_some_iff] at hb
        obtain ⟨r, h4, rfl⟩ := hb
        obtain ⟨hc, L⟩ := cLc_ok (C := C) (W := wK E) H F FX K h4
        rw [L.ow]
        have hsw' : swapsWith (.ListComp elt [⟨tg, it, ifs, 0⟩] scope p) (some (.Name x px)) pos.line X.env = pure true := by rw [sw_lc (kfn H F FX K), K.sc, hsw]
        have hl : X.env.scope.names.lookup x = some .local := by
          rw [K.sc]
          unfold swB at hsw
          simp only [Bool.and_eq_true, beq_iff_eq] at hsw
          exact hsw.1.1
        exact t_setLc F hc hN hl hsw' L.it L.blk L.parts L.slots L.set
      · rename_i hsw
        rw [Option.map_eq_some_iff] at hb
        obtain ⟨r, h4, rfl⟩ := hb
        have hsw' : swapsWith (.ListComp elt [⟨tg, it, ifs, 0⟩] scope p) (some (.Name x px)) pos.line X.env = pure false := by
          rw [sw_lc (kfn H F FX K), K.sc]
          rw [show swB S.sc x px p scope = false by simpa using hsw]
        exact t_asgName F hN hL hf hsw' (H.e _ _ _ h4 F FX K)
    · obtain ⟨h3, hb⟩ := ite_none hb
      rw [Option.map_eq_some_iff] at hb
      obtain ⟨r, h4, rfl⟩ := hb
      exact t_asgName F hN hL hf (swaps_no h3 _ _ _) (H.e _ _ _ h4 F FX K)
theorem cAsgT_ok {elts : List Expr} {kk : Nat} {pt pos : Pos} {e : Expr} {c : Sm} (h : cAsgT k S elts kk pt e = some c) : SS G C E X (.Assign [.Tuple elts kk pt] e pos) c := by
  unfold cAsgT at h
  split at h
  · rename_i x px y py a b k2 pt2
    split at h
    · rename_i hsw
      obtain ⟨hc, hb⟩ := ite_none h
      clear h
      rw [Option.bind_eq_some_iff] at hb
      obtain ⟨i, h1, hb⟩ := hb
      rw [Option.bind_eq_some_iff] at hb
      obtain ⟨j, h2, hb⟩ := hb
      by_cases hij : i = j
      · rw [if_pos hij] at hb; cases hb
      rw [if_neg hij, Option.bind_eq_some_iff] at hb
      obtain ⟨ca, h3, hb⟩ := hb
      rw [Option.map_eq_some_iff] at hb
      obtain ⟨cb, h4, rfl⟩ := hb
      have hsw' := sw_two (pt := pt) (pt2 := pt2) (kt := kk) (k2 := k2) (env := X.env) (kfn H F FX K) (by rw [K.sc]; exact hsw)
      unfold sw2B at hsw
      simp only [Bool.and_eq_true] at hsw
      obtain ⟨⟨⟨⟨⟨⟨⟨g1, g2⟩, _⟩, _⟩, g5⟩, g6⟩, _⟩, _⟩ := hsw
      exact t_par2 F hc (by rw [K.N]; exact idxN_ok h1) (by rw [K.N]; exact idxN_ok h2) hij (by rw [K.sc]; exact isLocal_ok g1) (by rw [K.sc]; exact isLocal_ok g2) g5 g6 hsw' (cX_ok H F FX K h3) (cX_ok H F FX K h4)
    · split at h
      · rename_i hsw
        rw [Option.bind_eq_some_iff] at h
        obtain ⟨i, h1, hb⟩ := h
        rw [Option.bind_eq_some_iff] at hb
        obtain ⟨j, h2, hb⟩ := hb
        obtain ⟨htop, hb⟩ := ite_none hb
        rw [Option.bind_eq_some_iff] at hb
        obtain ⟨ca, h3, hb⟩ := hb
        rw [Option.map_eq_some_iff] at hb
        obtain ⟨cb, h4, rfl⟩ := hb
        rw [Bool.and_eq_true] at hsw
        obtain ⟨hc, hsw⟩ := hsw
        have hsw' := sw_pair (px := px) (py := py) (pt := pt) (pt2 := pt2) (kt := kk) (k2 := k2) (env := X.env) (by rw [K.sc]; exact hsw)
        unfold pairB at hsw
        simp only [Bool.and_eq_true] at hsw
        obtain ⟨⟨⟨⟨_, g1⟩, g2⟩, g5⟩, g6⟩ := hsw
        exact t_pair F hc (by rw [K.N]; exact idxN_ok h1) (by rw [K.N]; exact idxN_ok h2) (loc_ok K g1) (loc_ok K g2) (fun z => K.fn z (.inl htop)) g5 g6 hsw' (cX_ok H F FX K h3) (cX_ok H F FX K h4)
      rename_i _
      obtain ⟨hc, hb⟩ := ite_none h
      clear h
      rw [Option.bind_eq_some_iff] at hb
      obtain ⟨t, h1, hb⟩ := hb
      cases t with
      | name i => cases hb
      | tup ts =>
        rw [Option.map_eq_some_iff] at hb
        obtain ⟨c1, h2, rfl⟩ := hb
        exact t_asgTup F rfl (sw_folded hc) (H.g _ _ _ h1 F K) (H.e _ _ _ h2 F FX K)
  · rename_i x px y py z pz a b c0 k2 pt2
    obtain ⟨hsw, hb⟩ := ite_none h
    clear h
    obtain ⟨hc, hb⟩ := ite_none hb
    rw [Option.bind_eq_some_iff] at hb
    obtain ⟨i, h1, hb⟩ := hb
    rw [Option.bind_eq_some_iff] at hb
    obtain ⟨j, h2, hb⟩ := hb
    rw [Option.bind_eq_some_iff] at hb
    obtain ⟨l, h3, hb⟩ := hb
    by_cases hij : i = j ∨ i = l ∨ j = l
    · rw [if_pos hij] at hb; cases hb
    rw [if_neg hij, Option.bind_eq_some_iff] at hb
    obtain ⟨ca, h4, hb⟩ := hb
    rw [Option.bind_eq_some_iff] at hb
    obtain ⟨cb, h5, hb⟩ := hb
    rw [Option.map_eq_some_iff] at hb
    obtain ⟨cc, h6, rfl⟩ := hb
    have hsw' := sw_three (pt := pt) (pt2 := pt2) (kt := kk) (k2 := k2) (env := X.env) (kfn H F FX K) (by rw [K.sc]; exact hsw)
    unfold sw3B at hsw
    simp only [Bool.and_eq_true] at hsw
    obtain ⟨⟨⟨⟨⟨⟨⟨⟨⟨⟨⟨⟨g1, g2⟩, g3⟩, _⟩, _⟩, _⟩, _⟩, _⟩, g4⟩, g5⟩, g6⟩, _⟩, _⟩ := hsw
    exact t_par3 F hc (by rw [K.N]; exact idxN_ok h1) (by rw [K.N]; exact idxN_ok h2) (by rw [K.N]; exact idxN_ok h3) (fun e => hij (.inl e)) (fun e => hij (.inr (.inl e))) (fun e => hij (.inr (.inr e))) (by rw [K.sc]; exact isLocal_ok g1) (by rw [K.sc]; exact isLocal_ok g2) (by rw [K.sc]; exact isLocal_ok g3) g4 g5 g6 hsw' (cX_ok H F FX K h4) (cX_ok H F FX K h5) (cX_ok H F FX K h6)
  · obtain ⟨hc, hb⟩ := ite_none h
    clear h
    rw [Bool.and_eq_true] at hc
    rw [Option.bind_eq_some_iff] at hb
    obtain ⟨t, h1, hb⟩ := hb
    cases t with
    | name i => cases hb
    | tup ts =>
      rw [Option.map_eq_some_iff] at hb
      obtain ⟨c1, h2, rfl⟩ := hb
      exact t_asgTup F hc.2 (sw_none hc.1) (H.g _ _ _ h1 F K) (H.e _ _ _ h2 F FX K)
end
end Py
end
section
set_option Elab.async false
set_option linter.all false
set_option maxRecDepth 100000
set_option maxHeartbeats 4000000
/-! PyQ: all statements; a def. -/
namespace Py
open PySem PySem.Spec L2
def cSs (f : Stmt → Option Sm) : List Stmt → Option Sms
  | [] => some .nil
  | a :: r => (f a).bind fun c => (cSs f r).map (.cons c)
/-- the block of an except suite -/
def Sc.suite (S : Sc) (nm : Str) : Sc := { S with T := { S.T with cal := false }, hand := some nm }
def cTry (k : Cp) (r : Sc → Stmt → Option Sm) (S : Sc) (ret : Bool) (e : Expr) (x nm : Str) (b0 : Stmt) (suite : List Stmt) : Option Sm :=
  if (S.T.cal && S.top && notComp e && glB S.sc x && nmOk x && isLocal S.sc nm && (match S.hand with | none => true | _ => false)) = true then
    (idxN S.N nm).bind fun i => (hdIx S.T.hds x).bind fun cs => (k.e S e).bind fun ce => (cSs (r (S.suite nm)) (b0 :: suite)).map fun cb => .tryE ret ce i cs cb
  else none
/-- a statement of a try's body: it sets no name -/
def cB (k : Cp) (S : Sc) : Nat → Stmt → Option Sm
  | 0, _ => none
  | n + 1, .If c a b _ => (k.t S c).bind fun cc => (cSs (cB k S n) a).bind fun ca => (cSs (cB k S n) b).map fun cb => .ite cc ca cb
  | _ + 1, .Raise (some (.Call (.Name x _) [a] [] _)) none _ => if (S.T.cal && glB S.sc x && nmOk x && noStar a) = true then (exIx S.T.exs 0 x).bind fun q => (k.e S a).map fun c => .raise q.1 c else none
  | _ + 1, .Raise (some (.Call (.Name x _) [] [⟨some f, a, _⟩] _)) none _ => if (S.T.cal && glB S.sc x && nmOk x) = true then (exIx S.T.exs 0 x).bind fun q => if decide (f = q.2) = true then (k.e S a).map fun c => .raise q.1 c else none else none
  | _ + 1, .Return (some e) _ => (k.e S e).map .ret
  | _ + 1, .Expr e _ => if notComp e = true then (k.e S e).map .expr else none
  | _ + 1, _ => none
def Sc.suite0 (S : Sc) : Sc := { S with T := { S.T with cal := false }, hand := none }
def cCls (r : Sc → Stmt → Option Sm) (S : Sc) : List ExceptHandler → Option Cls
  | [] => some .nil
  | .ExceptHandler (some (.Name x _)) none (b0 :: bs) _ :: hs => if (glB S.sc x && nmOk x) = true then (hdIx S.T.hds x).bind fun cs => (cSs (r S.suite0) (b0 :: bs)).bind fun cb => (cCls r S hs).map fun l => .cons cs none cb l else none
  | .ExceptHandler (some (.Name x _)) (some nm) (b0 :: bs) _ :: hs => if (glB S.sc x && nmOk x && isLocal S.sc nm) = true then (idxN S.N nm).bind fun i => (hdIx S.T.hds x).bind fun cs => (cSs (r (S.suite nm)) (b0 :: bs)).bind fun cb => (cCls r S hs).map fun l => .cons cs (some i) cb l else none
  | _ => none
def cTryM (k : Cp) (r : Sc → Stmt → Option Sm) (S : Sc) (body : List Stmt) (hs : List ExceptHandler) : Option Sm :=
  if (S.T.cal && S.top && (match S.hand with | none => true | _ => false)) = true then (cSs (cB k S 5) body).bind fun cb => (cCls r S hs).map fun l => .tryM cb l else none
def cExpr (k : Cp) (S : Sc) : Expr → Option Sm
  | .Call (.Attribute (.Name x p) m apos) [e] [] cpos =>
    if (S.muts.contains x) = true then
      if m = ("append" : Str) then (if (noStar e && (apos.endLine == cpos.line)) = true then (slotC S x).bind fun i => (k.e S e).map fun c => .tapp i c else none) else none
    else (k.e S (.Call (.Attribute (.Name x p) m apos) [e] [] cpos)).map .expr
  | e => if notComp e = true then (k.e S e).map .expr else none
def cSub (k : Cp) (S : Sc) (a b e : Expr) : Option Sm :=
  if (notComp e && plainPlace b) = true then match a with
    | .Name x p => if S.muts.contains x = true then (slotC S x).bind fun i => (k.e S b).bind fun cb => (k.e S e).map fun ce => .tset i cb ce
      else (k.e S (.Name x p)).bind fun ca => (k.e S b).bind fun cb => (k.e S e).map fun ce => .sset ca cb ce
    | a => (k.e S a).bind fun ca => (k.e S b).bind fun cb => (k.e S e).map fun ce => .sset ca cb ce
  else none
def cS1 (k : Cp) (r : Sc → Stmt → Option Sm) (S : Sc) : Stmt → Option Sm
  | .Expr e _ => cExpr k S e
  | .Assign [.Name x px] e _ => cAsg k S x px e
  | .Assign [.Tuple elts kk pt] e _ => cAsgT k S elts kk pt e
  | .Assign [.Subscript a b _] e _ => cSub k S a b e
  | .Return (some e) _ => (k.e S e).map .ret
  | .Return none _ => some (.ret (.const .non))
  | .Pass _ => some .pass
  | .Break _ => some .brk
  | .Continue _ => some .cont
  | .If c a b _ => (k.t S c).bind fun cc => (cSs (r S) a).bind fun ca => (cSs (r S) b).map fun cb => .ite cc ca cb
  | .For tg it body [] _ => if (S.T.cal && notSet it) = true then (cIt k S tg it).bind fun ci => (k.g S tg).bind fun t => (cSs (r S) body).map fun cb => .for_ t ci cb else none
  | .While c body [] _ => (k.t S c).bind fun cc => (cSs (r S) body).map fun cb => .while_ cc cb
  | .Raise (some (.Call (.Name x _) [a] [] _)) none _ => if (S.T.cal && glB S.sc x && nmOk x && noStar a) = true then (exIx S.T.exs 0 x).bind fun q => (k.e S a).map fun c => .raise q.1 c else none
  | .Try [.Expr e _] [.ExceptHandler (some (.Name x _)) (some nm) (b0 :: suite) _] [] [] _ => cTry k r S false e x nm b0 suite
  | .Try [.Return (some e) _] [.ExceptHandler (some (.Name x _)) (some nm) (b0 :: suite) _] [] [] _ => cTry k r S true e x nm b0 suite
  | .Try body (h0 :: hs) [] [] _ => cTryM k r S body (h0 :: hs)
  | .Raise (some (.Call (.Name x _) [] [⟨some f, a, _⟩] _)) none _ => if (S.T.cal && glB S.sc x && nmOk x) = true then (exIx S.T.exs 0 x).bind fun q => if decide (f = q.2) = true then (k.e S a).map fun c => .raise q.1 c else none else none
  | _ => none
def cS (k : Cp) : Nat → Sc → Stmt → Option Sm
  | 0 => fun _ _ => none
  | n + 1 => cS1 k (cS k n)
/-- a compiler of statements is sound -/
def SndS (r : Sc → Stmt → Option Sm) : Prop := ∀ S a c, r S a = some c → ∀ {G C m X E}, Fit G S.T C m X (wK E) → ExFit G S.T X.K X.mg → CtxOk G S X → SS G C E X a c
theorem cSs_ok {f : Stmt → Option Sm} {G : Pg} {C : Orc} {X : Cx} {E : XK} (h : ∀ a c, f a = some c → SS G C E X a c) : ∀ {as : List Stmt} {cs : Sms}, cSs f as = some cs → SSs G C E X as cs
  | [], cs, e => by cases e; exact b_nil
  | a :: r, cs, e => by
    unfold cSs at e
    rw [Option.bind_eq_some_iff] at e
    obtain ⟨c, h1, e⟩ := e
    rw [Option.map_eq_some_iff] at e
    obtain ⟨cr, h2, rfl⟩ := e
    exact b_cons (h _ _ h1) (cSs_ok h h2)
theorem FnFact.cur {G : Pg} {C : Orc} {n : Nat} {X X' : Cx} {f : Nat} {info : FnInfo} (h : FnFact G C n X f info) (e1 : X'.prog = X.prog) (e2 : X'.w = X.w) (e3 : X'.K = X.K) (e4 : X'.mg = X.mg) (e5 : X'.base = X.base) : FnFact G C n X' f info := by
  unfold FnFact at h ⊢
  rw [e1, e2, e3, e4, e5]
  exact h
theorem ExFit.wc {G : Pg} {T T' : Tab} {K : PySem.W.Frag} {mg : Str → Option Value} {x : Addr → Nat → Addr → Prop} (h : ExFit G T K mg) (e1 : T'.exs = T.exs) (e2 : T'.hds = T.hds) : ExFit (G.wc x) T' K mg := by
  refine ⟨fun c nm fld hc => h.exs c nm fld (by rw [← e1]; exact hc), fun c C hc => ?_, fun y hy => h.hds y (by rw [← e2]; exact hy), h.kx⟩
  obtain ⟨nm, fld, fI, h1, h2⟩ := h.ca c C hc
  exact ⟨nm, fld, fI, by rw [e1]; exact h1, h2⟩
section
variable {k : Cp} (H : Snd k) {G : Pg} {C : Orc} {m : Nat} {X : Cx} {W : WX} {S : Sc} (F : Fit G S.T C m X W) (FX : ExFit G S.T X.K X.mg) (K : CtxOk G S X)
include H F FX K
theorem cB_ok : ∀ (n : Nat) {a : Stmt} {c : Sm}, cB k S n a = some c → noSet c = true ∧ PS X a (rdB1 G C W c)
  | 0, a, c, h => by cases h
  | n + 1, a, c, h => by
    have bl : ∀ {as : List Stmt} {cs : Sms}, cSs (cB k S n) as = some cs → noSets cs = true ∧ PSs X as (rdB G C W cs) := by
      intro as
      induction as with
      | nil => intro cs e; cases e; exact ⟨rfl, bb_nil⟩
      | cons a r ih =>
        intro cs e
        unfold cSs at e
        rw [Option.bind_eq_some_iff] at e
        obtain ⟨c1, h1, e⟩ := e
        rw [Option.map_eq_some_iff] at e
        obtain ⟨c2, h2, rfl⟩ := e
        obtain ⟨w1, p1⟩ := cB_ok n h1
        obtain ⟨w2, p2⟩ := ih h2
        exact ⟨by simp only [noSets, w1, w2, Bool.and_self], bb_cons w1 p1 p2⟩
    unfold cB at h
    split at h
    · cases h
    · rw [Option.bind_eq_some_iff] at h
      obtain ⟨c1, h1, h⟩ := h
      rw [Option.bind_eq_some_iff] at h
      obtain ⟨c2, h2, h⟩ := h
      rw [Option.map_eq_some_iff] at h
      obtain ⟨c3, h3, rfl⟩ := h
      rename_i n' _ _ _ _ eq
      cases eq
      obtain ⟨w2, p2⟩ := bl h2
      obtain ⟨w3, p3⟩ := bl h3
      exact ⟨by simp only [noSet, w2, w3, Bool.and_self], bb_if (H.t _ _ _ h1 F FX K) p2 p3⟩
    · obtain ⟨h0, hb⟩ := ite_none h
      clear h
      simp only [Bool.and_eq_true] at h0
      rw [Option.bind_eq_some_iff] at hb
      obtain ⟨q, h1, hb⟩ := hb
      rw [Option.map_eq_some_iff] at hb
      obtain ⟨c3, h3, rfl⟩ := hb
      obtain ⟨_, h4⟩ := exIx_ok h1
      rw [Nat.sub_zero] at h4
      exact ⟨rfl, bb_raise F FX h0.1.1.1 h4 (gl_ok K h0.1.1.2) (nm_ok h0.1.2).1 h0.2 (H.e _ _ _ h3 F FX K)⟩
    · obtain ⟨h0, hb⟩ := ite_none h
      clear h
      simp only [Bool.and_eq_true] at h0
      rw [Option.bind_eq_some_iff] at hb
      obtain ⟨q, h1, hb⟩ := hb
      obtain ⟨h5, hb⟩ := ite_none hb
      rw [Option.map_eq_some_iff] at hb
      obtain ⟨c3, h3, rfl⟩ := hb
      obtain ⟨_, h4⟩ := exIx_ok h1
      rw [Nat.sub_zero] at h4
      have h6 := of_decide_eq_true h5
      subst h6
      exact ⟨rfl, bb_raiseK F FX h0.1.1 h4 (gl_ok K h0.1.2) (nm_ok h0.2).1 (H.e _ _ _ h3 F FX K)⟩
    · rw [Option.map_eq_some_iff] at h
      obtain ⟨c3, h3, rfl⟩ := h
      exact ⟨rfl, bb_ret (H.e _ _ _ h3 F FX K)⟩
    · obtain ⟨h0, h⟩ := ite_none h
      rw [Option.map_eq_some_iff] at h
      obtain ⟨c3, h3, rfl⟩ := h
      exact ⟨rfl, bb_expr h0 (H.e _ _ _ h3 F FX K)⟩
    · cases h
theorem cBs_ok : ∀ (n : Nat) {as : List Stmt} {cs : Sms}, cSs (cB k S n) as = some cs → noSets cs = true ∧ PSs X as (rdB G C W cs)
  | n, [], cs, e => by cases e; exact ⟨rfl, bb_nil⟩
  | n, a :: r, cs, e => by
    unfold cSs at e
    rw [Option.bind_eq_some_iff] at e
    obtain ⟨c1, h1, e⟩ := e
    rw [Option.map_eq_some_iff] at e
    obtain ⟨c2, h2, rfl⟩ := e
    obtain ⟨w1, p1⟩ := cB_ok H F FX K n h1
    obtain ⟨w2, p2⟩ := cBs_ok n h2
    exact ⟨by simp only [noSets, w1, w2, Bool.and_self], bb_cons w1 p1 p2⟩
end
section
variable {k : Cp} (H : Snd k) {G : Pg} {C : Orc} {m : Nat} {X : Cx} {E : XK} {S : Sc} (F : Fit G S.T C m X (wK E)) (FX : ExFit G S.T X.K X.mg) (K : CtxOk G S X)
include H F FX K
theorem cExpr_ok {e : Expr} {c : Sm} {pos : Pos} (h : cExpr k S e = some c) : SS G C E X (.Expr e pos) c := by
  unfold cExpr at h
  split at h
  · rename_i x p n apos a cpos
    split at h
    · by_cases e1 : n = ("append" : Str)
      · subst e1
        rw [if_pos rfl] at h
        obtain ⟨h1, hb⟩ := ite_none h
        clear h
        rw [Bool.and_eq_true] at h1
        rw [Option.bind_eq_some_iff] at hb
        obtain ⟨i, h2, hb⟩ := hb
        rw [Option.map_eq_some_iff] at hb
        obtain ⟨ca, h3, rfl⟩ := hb
        obtain ⟨g1, g2, g3, g4⟩ := slot_ok K h2
        exact t_tapp F g1 g2 g3 g4 h1.1 h1.2 (H.e _ _ _ h3 F FX K)
      · rw [if_neg e1] at h; cases h
    · rw [Option.map_eq_some_iff] at h
      obtain ⟨ca, h3, rfl⟩ := h
      exact t_expr F rfl (H.e _ _ _ h3 F FX K)
  · obtain ⟨h1, hb⟩ := ite_none h
    clear h
    rw [Option.map_eq_some_iff] at hb
    obtain ⟨ca, h3, rfl⟩ := hb
    exact t_expr F h1 (H.e _ _ _ h3 F FX K)
theorem cSub_ok {a b e : Expr} {c : Sm} {ps pos : Pos} (h : cSub k S a b e = some c) : SS G C E X (.Assign [.Subscript a b ps] e pos) c := by
  unfold cSub at h
  obtain ⟨h1, hb⟩ := ite_none h
  clear h
  rw [Bool.and_eq_true] at h1
  have gen : ∀ {a : Expr} {ca cb ce : Py.E}, k.e S a = some ca → k.e S b = some cb → k.e S e = some ce → SS G C E X (.Assign [.Subscript a b ps] e pos) (.sset ca cb ce) := fun g1 g2 g3 =>
    t_sset F h1.1 h1.2 (H.e _ _ _ g1 F FX K) (H.e _ _ _ g2 F FX K) (H.e _ _ _ g3 F FX K)
  split at hb
  · split at hb
    · rw [Option.bind_eq_some_iff] at hb
      obtain ⟨i, h2, hb⟩ := hb
      rw [Option.bind_eq_some_iff] at hb
      obtain ⟨cb, h3, hb⟩ := hb
      rw [Option.map_eq_some_iff] at hb
      obtain ⟨ce, h4, rfl⟩ := hb
      obtain ⟨g1, g2, g3, g4⟩ := slot_ok K h2
      exact t_tset F g1 g2 g3 g4 h1.1 h1.2 (H.e _ _ _ h3 F FX K) (H.e _ _ _ h4 F FX K)
    · rw [Option.bind_eq_some_iff] at hb
      obtain ⟨ca, h2, hb⟩ := hb
      rw [Option.bind_eq_some_iff] at hb
      obtain ⟨cb, h3, hb⟩ := hb
      rw [Option.map_eq_some_iff] at hb
      obtain ⟨ce, h4, rfl⟩ := hb
      exact gen h2 h3 h4
  · rw [Option.bind_eq_some_iff] at hb
    obtain ⟨ca, h2, hb⟩ := hb
    rw [Option.bind_eq_some_iff] at hb
    obtain ⟨cb, h3, hb⟩ := hb
    rw [Option.map_eq_some_iff] at hb
    obtain ⟨ce, h4, rfl⟩ := hb
    exact gen h2 h3 h4
theorem suite_fit {nm : Str} {ad : Addr} {oe : Obj} {cls : Value} {dd : Option Addr} {pn : List (Addr × Obj)} (hz : L2N.Zn cls dd oe) (hf : ∃ vs, oe.data = .fields vs) :
    Fit (G.wc (inHand G ad cls dd)) (S.suite nm).T C m (X.suite ad ((ad, oe) :: pn)) (wK fun _ _ _ => False) := by
  obtain ⟨vs, hv⟩ := hf
  refine ⟨F.hK, (fun h => nomatch h), ?_, ⟨F.room.dp, F.room.un⟩, F.gd, F.nd, takesN_none, PassesOwn.never, F.free, fun x d h => ?_, fun f info h => (F.fns f info h).wc⟩
  · exact ⟨(ad, oe), ⟨rfl, vs, hv, hz.2.2 vs hv⟩, List.mem_cons_self⟩
  · obtain ⟨u, v, h1, h2, h3⟩ := F.cns x d h
    exact ⟨u, v, h1, h2, fun L => (Rep.wc _ _).mpr (h3 L)⟩
theorem cTry_ok {r : Sc → Stmt → Option Sm} (R : SndS r) {ret : Bool} {e : Expr} {x nm : Str} {b0 : Stmt} {suite : List Stmt} {c : Sm} {p np pos' pos : Pos} (h : cTry k r S ret e x nm b0 suite = some c) :
    SS G C E X (.Try [if ret then .Return (some e) p else .Expr e p] [.ExceptHandler (some (.Name x np)) (some nm) (b0 :: suite) pos'] [] [] pos) c := by
  unfold cTry at h
  obtain ⟨h1, hb⟩ := ite_none h
  clear h
  simp only [Bool.and_eq_true] at h1
  obtain ⟨⟨⟨⟨⟨⟨g1, g2⟩, g3⟩, g4⟩, g5⟩, g6⟩, g7⟩ := h1
  rw [Option.bind_eq_some_iff] at hb
  obtain ⟨i, h2, hb⟩ := hb
  rw [Option.bind_eq_some_iff] at hb
  obtain ⟨cs, h3, hb⟩ := hb
  rw [Option.bind_eq_some_iff] at hb
  obtain ⟨ce, h4, hb⟩ := hb
  rw [Option.map_eq_some_iff] at hb
  obtain ⟨cb, h5, rfl⟩ := hb
  obtain ⟨s1, s2⟩ := K.stk g2
  refine t_tryE (c := .none) F FX g1 s1 s2 (by rw [K.N]; exact idxN_ok h2) ?_ (hdIx_ok h3) (gl_ok K g4) (nm_ok g5).1 g3 (fun W pn xe tk po => ?_) (fun ad oe cls dd pn hz hf => ?_)
  · show X.env.scope.names.lookup nm = _
    rw [K.sc]; exact isLocal_ok g6
  · refine H.e _ _ _ h4 (X := X.tr pn xe) ⟨F.hK, F.calm, ?_, F.room, F.gd, F.nd, tk, po, F.free, F.cns, F.fns⟩ FX ⟨K.N, K.sc, K.kind, K.fn, fun y hy => ?_, K.stk⟩
    · have := F.mode
      unfold CxMode at this ⊢
      rw [if_pos g1] at this ⊢
      exact this
    · rw [hy] at g7; cases g7
  · refine cSs_ok (fun a c ha => R (S.suite nm) a c ha (suite_fit H F FX K hz hf) (ExFit.wc FX rfl rfl) ⟨K.N, K.sc, K.kind, K.fn, fun y hy => ⟨X, ad, oe, cls, dd, pn, G, rfl, rfl, hz.zc, hf, ?_⟩, K.stk⟩) h5
    exact ⟨FX.exs, FX.ca, FX.hds, FX.kx⟩
theorem suite0_fit {ad : Addr} {oe : Obj} {cls : Value} {dd : Option Addr} {pn : List (Addr × Obj)} (hz : L2N.Zn cls dd oe) (hf : ∃ vs, oe.data = .fields vs) :
    Fit (G.wc (inHand G ad cls dd)) S.suite0.T C m (X.suite ad ((ad, oe) :: pn)) (wK fun _ _ _ => False) := suite_fit (nm := "") H F FX K hz hf
theorem cCls_ok {r : Sc → Stmt → Option Sm} (R : SndS r) (top : S.top = true) : ∀ {hs : List ExceptHandler} {l : Cls}, cCls r S hs = some l → ClOk X G C E hs l
  | [], l, h => by cases h; exact cl_nil
  | h0 :: hs, l, h => by
    have fx2 : ∀ {ad cls dd}, ExFit (G.wc (inHand G ad cls dd)) { S.T with cal := false } X.K X.mg := fun {ad cls dd} => ExFit.wc FX rfl rfl
    unfold cCls at h
    split at h
    · rename_i eq
      cases eq
    · rename_i x p1 b0 bs p2 hs2 eq
      cases eq
      obtain ⟨g1, h⟩ := ite_none h
      rw [Bool.and_eq_true] at g1
      rw [Option.bind_eq_some_iff] at h
      obtain ⟨cs, h1, h⟩ := h
      rw [Option.bind_eq_some_iff] at h
      obtain ⟨cb, h2, h⟩ := h
      rw [Option.map_eq_some_iff] at h
      obtain ⟨l2, h3, rfl⟩ := h
      refine cl_bare FX (hdIx_ok h1) (gl_ok K g1.1) (nm_ok g1.2).1 (fun ad oe cls dd pn hz hf => ?_) (cCls_ok R top h3)
      exact cSs_ok (fun a c ha => R S.suite0 a c ha (suite0_fit H F FX K hz hf) fx2 ⟨K.N, K.sc, K.kind, K.fn, (fun y hy => nomatch hy), K.stk⟩) h2
    · rename_i x p1 nm b0 bs p2 hs2 eq
      cases eq
      obtain ⟨g1, h⟩ := ite_none h
      rw [Bool.and_eq_true, Bool.and_eq_true] at g1
      rw [Option.bind_eq_some_iff] at h
      obtain ⟨i, h0, h⟩ := h
      rw [Option.bind_eq_some_iff] at h
      obtain ⟨cs, h1, h⟩ := h
      rw [Option.bind_eq_some_iff] at h
      obtain ⟨cb, h2, h⟩ := h
      rw [Option.map_eq_some_iff] at h
      obtain ⟨l2, h3, rfl⟩ := h
      refine cl_named FX (hdIx_ok h1) (gl_ok K g1.1.1) (nm_ok g1.1.2).1 (by rw [K.N]; exact idxN_ok h0) ?_ (fun ad oe cls dd pn hz hf => ?_) (cCls_ok R top h3)
      · show X.env.scope.names.lookup nm = _
        rw [K.sc]; exact isLocal_ok g1.2
      · exact cSs_ok (fun a c ha => R (S.suite nm) a c ha (suite_fit H F FX K hz hf) fx2 ⟨K.N, K.sc, K.kind, K.fn, fun y hy => ⟨X, ad, oe, cls, dd, pn, G, rfl, rfl, hz.zc, hf, ⟨FX.exs, FX.ca, FX.hds, FX.kx⟩⟩, K.stk⟩) h2
    · cases h
theorem cTryM_ok {r : Sc → Stmt → Option Sm} (R : SndS r) {body : List Stmt} {h0 : ExceptHandler} {hs : List ExceptHandler} {c : Sm} {pos : Pos} (h : cTryM k r S body (h0 :: hs) = some c) : SS G C E X (.Try body (h0 :: hs) [] [] pos) c := by
  unfold cTryM at h
  obtain ⟨h1, hb⟩ := ite_none h
  clear h
  simp only [Bool.and_eq_true] at h1
  obtain ⟨⟨g1, g2⟩, g7⟩ := h1
  rw [Option.bind_eq_some_iff] at hb
  obtain ⟨cb, h2, hb⟩ := hb
  rw [Option.map_eq_some_iff] at hb
  obtain ⟨l, h3, rfl⟩ := hb
  obtain ⟨s1, s2⟩ := K.stk g2
  have fit : ∀ (W : WX) (pn : List (Addr × Obj)) (xe : Value → Shared → Prop), L2N.Takes (X.tr pn xe) W → PassesOwn (model X.prog X.w) X.A X.env xe → Fit G S.T C m (X.tr pn xe) W := fun W pn xe tk po =>
    ⟨F.hK, F.calm, by
      have := F.mode
      unfold CxMode at this ⊢
      rw [if_pos g1] at this ⊢
      exact this, F.room, F.gd, F.nd, tk, po, F.free, F.cns, F.fns⟩
  have ctx : ∀ (pn : List (Addr × Obj)) (xe : Value → Shared → Prop), CtxOk G S (X.tr pn xe) := fun pn xe => ⟨K.N, K.sc, K.kind, K.fn, (fun y hy => by rw [hy] at g7; cases g7), K.stk⟩
  refine t_tryM F s1 s2 ?_ (fun W pn xe tk po => (cBs_ok H (fit W pn xe tk po) FX (ctx pn xe) 5 h2).2) (cCls_ok H F FX K R g2 h3)
  exact (cBs_ok H F FX K 5 h2).1
theorem cS1_ok {r : Sc → Stmt → Option Sm} (R : SndS r) {a : Stmt} {c : Sm} (h : cS1 k r S a = some c) : SS G C E X a c := by
  have bl : ∀ {as : List Stmt} {cs : Sms}, cSs (r S) as = some cs → SSs G C E X as cs := fun e => cSs_ok (fun a c ha => R S a c ha F FX K) e
  unfold cS1 at h
  split at h
  · exact cExpr_ok H F FX K h
  · exact cAsg_ok H F FX K h
  · exact cAsgT_ok H F FX K h
  · exact cSub_ok H F FX K h
  · rw [Option.map_eq_some_iff] at h
    obtain ⟨c1, h1, rfl⟩ := h
    exact t_ret (H.e _ _ _ h1 F FX K)
  · cases h; exact t_retN
  · cases h; exact t_pass
  · cases h; exact t_brk
  · cases h; exact t_cont
  · rw [Option.bind_eq_some_iff] at h
    obtain ⟨c1, h1, h⟩ := h
    rw [Option.bind_eq_some_iff] at h
    obtain ⟨c2, h2, h⟩ := h
    rw [Option.map_eq_some_iff] at h
    obtain ⟨c3, h3, rfl⟩ := h
    exact t_if (H.t _ _ _ h1 F FX K) (bl h2) (bl h3)
  · obtain ⟨h0, hb⟩ := ite_none h
    clear h
    rw [Bool.and_eq_true] at h0
    rw [Option.bind_eq_some_iff] at hb
    obtain ⟨c1, h1, hb⟩ := hb
    rw [Option.bind_eq_some_iff] at hb
    obtain ⟨c2, h2, hb⟩ := hb
    rw [Option.map_eq_some_iff] at hb
    obtain ⟨c3, h3, rfl⟩ := hb
    exact t_for F h0.1 (cIt_ok H F FX K h1) (H.g _ _ _ h2 F K) (bl h3) h0.2
  · rw [Option.bind_eq_some_iff] at h
    obtain ⟨c1, h1, h⟩ := h
    rw [Option.map_eq_some_iff] at h
    obtain ⟨c3, h3, rfl⟩ := h
    exact t_while F (H.t _ _ _ h1 F FX K) (bl h3)
  · obtain ⟨h0, hb⟩ := ite_none h
    clear h
    simp only [Bool.and_eq_true] at h0
    rw [Option.bind_eq_some_iff] at hb
    obtain ⟨q, h1, hb⟩ := hb
    rw [Option.map_eq_some_iff] at hb
    obtain ⟨c3, h3, rfl⟩ := hb
    obtain ⟨_, h4⟩ := exIx_ok h1
    rw [Nat.sub_zero] at h4
    exact t_raise F FX h0.1.1.1 h4 (gl_ok K h0.1.1.2) (nm_ok h0.1.2).1 h0.2 (H.e _ _ _ h3 F FX K)
  · exact cTry_ok (ret := false) H F FX K R h
  · exact cTry_ok (ret := true) H F FX K R h
  · exact cTryM_ok H F FX K R h
  · obtain ⟨h0, hb⟩ := ite_none h
    clear h
    simp only [Bool.and_eq_true] at h0
    rw [Option.bind_eq_some_iff] at hb
    obtain ⟨q, h1, hb⟩ := hb
    obtain ⟨h5, hb⟩ := ite_none hb
    rw [Option.map_eq_some_iff] at hb
    obtain ⟨c3, h3, rfl⟩ := hb
    obtain ⟨_, h4⟩ := exIx_ok h1
    rw [Nat.sub_zero] at h4
    have h6 := of_decide_eq_true h5
    subst h6
    exact t_raiseK F FX h0.1.1 h4 (gl_ok K h0.1.2) (nm_ok h0.2).1 (H.e _ _ _ h3 F FX K)
  · cases h
end
theorem cS_ok {k : Cp} (H : Snd k) : ∀ n, SndS (cS k n)
  | 0 => fun S a c h => nomatch h
  | n + 1 => fun S a c h _ _ _ _ _ F FX K => cS1_ok H F FX K (cS_ok H n) h
end Py
end
section
set_option Elab.async false
set_option linter.all false
set_option maxRecDepth 100000
set_option maxHeartbeats 4000000
/-! PyR: a def, all defs, the law's end. -/
namespace Py
open PySem PySem.Spec L2
/-! ### one def -/
theorem start_env {G : Pg} {L : Lk} {N : List Str} {ds : List D} {vs : List V} {fn : Fn} (r : RepL G L ds vs) (hn : fn.n = N.length) : EnvOk G L (fn.start ds) (L2.start N vs) := by
  unfold Fn.start L2.start
  rw [hn]
  have hl := r.length
  refine ⟨by simp [hl], fun i o e => ?_⟩
  by_cases hi : i < ds.length
  · rw [List.getElem?_append_left (by simpa using hi), List.getElem?_map] at e
    cases ed : ds[i]? with
    | none => rw [ed] at e; cases e
    | some d =>
      rw [ed] at e
      cases e
      obtain ⟨v, ev, rv⟩ := r.get ed
      refine ⟨v, ?_, rv⟩
      rw [List.getElem?_append_left (by simpa [← hl] using hi), List.getElem?_map, ev]
      rfl
  · rw [List.getElem?_append_right (by simpa using Nat.le_of_not_lt hi)] at e
    have := List.eq_of_mem_replicate (List.mem_of_getElem? e)
    subst this
    trivial
/-- a frame's own cells fall away behind it -/
theorem Step.end_ {G : Pg} {L L' : Lk} {H H' : Hp} {Z : Sto} (h0 : L.τ = []) (st : Step G L H L' Z H') : Step G L H { L' with τ := [] } ⟨Z.S, []⟩ H' := by
  refine ⟨st.ok.forget, ⟨st.le.Fx, st.le.ρ, ⟨[], by rw [h0]; rfl⟩⟩, fun a o h n => ?_, st.keep, st.new⟩
  obtain ⟨h1, h2⟩ := st.out a o h n
  refine ⟨h1, fun w => h2 ?_⟩
  rcases w with w | w | w
  · exact .inl w
  · exact .inr (.inl w)
  · cases w
/-- what the top has written of a def -/
structure DefOk (G : Pg) (T : Tab) (K : PySem.W.Frag) (mg : Str → Option Value) (tab : List Fn) (f : Nat) (info : FnInfo) : Prop where
  ex : ∃ (a : Addr) (fd : FuncData) (qual : Str) (params : Arguments) (body : List Stmt) (scope : Scope) (N : List Str) (muts : List Str) (fn : Fn), FunD K info.name qual params body scope [] [] a fd ∧ mg info.name = some (.ref a) ∧ G.fa f a ∧ FnScope N info.ps scope ∧
    (∀ pat ∈ info.pats, ∀ (s : Shared) (us ws : List Value), us.length = pat.1 → ws.length = pat.2.1.length → BindsTo s fd ⟨us, pat.2.1.zip ws⟩ (info.ps.zip (permD pat.2.2 (us ++ ws)))) ∧
    tab[f]? = some fn ∧ fn.ar = info.ps.length ∧ fn.n = N.length ∧
    cSs (cS (cp 40) 40 { T := { T with cal := true }, N := N, sc := scope, top := true, own := [], muts := muts, hand := none }) body = some fn.body ∧
    (info.hot = true → cSs (cS (cp 40) 40 { T := { T with cal := false }, N := N, sc := scope, top := true, own := [], muts := muts, hand := none }) body = some fn.body)
/-- what the top has written -/
structure ProgOk (G : Pg) (T : Tab) (K : PySem.W.Frag) (mg : Str → Option Value) (tab : List Fn) : Prop where
  hK : K = G.K
  free : ∀ x ∈ T.free, mg x = none
  cns : ∀ x d, T.consts.lookup x = some d → ∃ u v, mg x = some u ∧ RelV v u ∧ ∀ L, Rep G L d v
  exs : ∀ b, ExFit G { T with cal := b } K mg
  defs : ∀ (f : Nat) info, T.fns[f]? = some info → DefOk G T K mg tab f info
section
variable {P : Program} {w : World} {K : PySem.W.Frag} {mg : Str → Option Value} {base : Heap}
/-- a def's promise -/
def FnAll (P : Program) (w : World) (base : Heap) (G : Pg) (T : Tab) (K : PySem.W.Frag) (mg : Str → Option Value) (tab : List Fn) (n : Nat) : Prop :=
  ∀ (f : Nat) info, T.fns[f]? = some info → ∀ (a : Addr) (fd : FuncData), (∃ (qual : Str) (params : Arguments) (body : List Stmt) (scope : Scope), FunD K info.name qual params body scope [] [] a fd) → G.fa f a → mg info.name = some (.ref a) →
    ∀ cal, (cal = true ∨ info.hot = true) → FnG cal P w K mg base n a fd info.ps (spF G (callN tab n) f info.ps.length)
theorem funD_fd {x q q' : Str} {ps ps' : Arguments} {b b' : List Stmt} {s s' : Scope} {a : Addr} {fd fd' : FuncData} (h : FunD K x q ps b s [] [] a fd) (h' : FunD K x q' ps' b' s' [] [] a fd') : fd = fd' := by
  obtain ⟨oc, od, dV, kV, doc, pm, an, cdv, ct, osl, e, lk, _⟩ := h.ex
  obtain ⟨oc', od', dV', kV', doc', pm', an', cdv', ct', osl', e', lk', _⟩ := h'.ex
  rw [lk] at lk'
  cases lk'
  rfl
theorem cx_fit {G : Pg} {T : Tab} {tab : List Fn} {n : Nat} {cal : Bool} {N : List Str} {ps : List Str} {qual : Str} {scope : Scope} {f : Addr} {cdv : Value} {A : Around} {outer : List Env} {s : Shared} {H : Hp} {E : XK} {p : Addr × Obj} (O : ProgOk G T K mg tab) (S : FnScope N ps scope)
    (hr : L2H.RoomH n (A.deeper (PyProof.Rows.envOfC qual scope s.heap.objs.size f cdv))) (hg : A.guards = some []) (hp : if cal = true then A.handled = none else L2H.Hot1 A p) (ih : FnAll P w base G T K mg tab n) :
    Fit G { T with cal := cal } (callN tab n) n (cxM cal P w K mg base N qual scope f cdv A outer s H E p) (wK E) := by
  have fns : ∀ (X : Cx), X.prog = P → X.w = w → X.K = K → X.mg = mg → X.base = base → ∀ (f : Nat) info, T.fns[f]? = some info → FnFact G (callN tab n) n X f info := by
    intro X e1 e2 e3 e4 e5 f info hf
    obtain ⟨a, fd, qual, params, body, scope, N, muts, fn, h1, h2, h3, h4, h5, h6⟩ := (O.defs f info hf).ex
    unfold FnFact
    rw [e1, e2, e3, e4, e5]
    exact ⟨a, fd, h2, h3, h1.kp, h5, fun cal hc => ih f info hf a fd ⟨qual, params, body, scope, h1⟩ h3 h2 cal hc⟩
  cases cal with
  | true => exact ⟨O.hK, fun _ => rfl, hp, hr, hg, S.nd, L2N.takes_of rfl rfl rfl rfl, passes_of rfl, O.free, O.cns, fns _ rfl rfl rfl rfl rfl⟩
  | false => exact ⟨O.hK, (fun h => nomatch h), ⟨p, hp, List.mem_cons_self⟩, hr, hg, S.nd, L2N.takes_of rfl rfl rfl rfl, passes_of rfl, O.free, O.cns, fns _ rfl rfl rfl rfl rfl⟩
theorem cx_ok {G : Pg} {T : Tab} {cal : Bool} {N : List Str} {ps muts : List Str} {qual : Str} {scope : Scope} {f : Addr} {cdv : Value} {A : Around} {outer : List Env} {s : Shared} {H : Hp} {E : XK} {p : Addr × Obj} (S : FnScope N ps scope) :
    CtxOk G { T := { T with cal := cal }, N := N, sc := scope, top := true, own := [], muts := muts, hand := none } (cxM cal P w K mg base N qual scope f cdv A outer s H E p) := by
  cases cal with
  | true => exact ⟨rfl, rfl, S.kind, fun _ _ => rfl, (fun y (h : none = some y) => nomatch h), fun _ => ⟨rfl, rfl⟩⟩
  | false => exact ⟨rfl, rfl, S.kind, fun _ _ => rfl, (fun y (h : none = some y) => nomatch h), fun _ => ⟨rfl, rfl⟩⟩
theorem fn_all {G : Pg} {T : Tab} {tab : List Fn} (O : ProgOk G T K mg tab) : ∀ n, FnAll P w base G T K mg tab n
  | 0 => fun f info hf a fd hF hfa hmg cal hc => by
    refine ⟨fun vs H Q E h => ?_, fun A outer s H args us vs Q E hr hg hm e0 hb r h => ?_⟩
    · obtain ⟨L, S, ds, h1, h2, h3, h4, h5⟩ := h
      rw [← h3.length, h2]
    · obtain ⟨L, S, ds, h1, h2, h3, h4, h5⟩ := h
      exact h5.elim
  | n + 1 => fun f info hf a fd ⟨q0, p0, b0, s0, hF⟩ hfa hmg cal hc => by
    obtain ⟨a', fd', qual, params, body, scope, N, muts, fn, h1, h2, h3, h4, h5, h6, h7, h8, h9, h10⟩ := (O.defs f info hf).ex
    rw [h2] at hmg
    cases hmg
    have e := funD_fd hF h1
    subst e
    obtain ⟨oc, od, dV, kV, doc, pm, an, cdv, ct, osl, rfl, lk, hcd, _, _⟩ := h1.ex
    refine fnG_of lk hcd h4 (fun vs H Q E h => ?_) fun A outer s H vs Q E p hr hg hp h => ?_
    · obtain ⟨L, S, ds, g1, g2, g3, g4, g5⟩ := h
      rw [← g3.length, g2]
    · have hcomp : cSs (cS (cp 40) 40 { T := { T with cal := cal }, N := N, sc := scope, top := true, own := [], muts := muts, hand := none }) body = some fn.body := by
        cases cal with
        | true => exact h9
        | false =>
          rcases hc with hc | hc
          · cases hc
          · exact h10 hc
      have F := cx_fit (P := P) (w := w) (base := base) (cal := cal) (N := N) (ps := info.ps) (outer := outer) (s := s) (H := H) (E := E) (p := p) O h4 hr hg hp (fn_all O n)
      have K1 := cx_ok (P := P) (w := w) (base := base) (G := G) (T := T) (cal := cal) (K := K) (mg := mg) (muts := muts) (qual := qual) (f := a) (cdv := cdv) (A := A) (outer := outer) (s := s) (H := H) (E := E) (p := p) h4
      have FX : ExFit G { T with cal := cal } (cxM cal P w K mg base N qual scope a cdv A outer s H E p).K (cxM cal P w K mg base N qual scope a cdv A outer s H E p).mg := by
        cases cal <;> exact O.exs _
      refine ⟨rdSs G (callN tab n) E fn.body, cSs_ok (fun st c hst => cS_ok (cp_ok 40) 40 _ st c hst F FX K1) hcomp, ?_⟩
      obtain ⟨L, S, ds, g1, g2, g3, g4, g5⟩ := h
      refine ⟨L, fn.start ds, ⟨S, []⟩, start_env g3 h8, g4, ?_⟩
      simp only [callN, h6, Fn.run, g2, h7, if_true] at g5
      cases er : exs (callN tab n) fn.body (fn.start ds) ⟨S, []⟩ with
      | ok x =>
        obtain ⟨fl, η, Z⟩ := x
        rw [er] at g5
        cases fl with
        | next => exact fun L' H' σ' st en => g5 _ H' .non (st.end_ g1) (by simp only [Rep])
        | ret d => exact fun L' H' v st rv => g5 _ H' v (st.end_ g1) (Rep.forget _ _ rv)
        | brk => exact g5.elim
        | cont => exact g5.elim
      | exn c d Z =>
        rw [er] at g5
        intro L' H' cls dd st x
        obtain ⟨Cc, δ, v, x1, x2, x3, x4, x5⟩ := x
        exact g5 _ H' cls dd (st.end_ g1) ⟨Cc, δ, v, x1, x2, x3, x4, Rep.forget _ _ x5⟩
      | bad => rw [er] at g5; exact g5.elim
end
end Py
end
section
set_option Elab.async false
set_option linter.all false
set_option maxRecDepth 100000
set_option maxHeartbeats 4000000
/-! PyS: what the run of the top shows; the law's end. -/
namespace Py
open PySem PySem.Spec L2
/-! ### what is looked at behind the top -/
def obsX (n : Nat) (fa : List He.Fa) (fn : List He.DefD) (xb : PySem.W.Frag → Bool) (g : Addr → Option Obj) : He.AlD × Bool := (He.obsD fa fn (He.frG g (He.asD g n)), xb (He.frG g (He.asD g n)))
def hookX (n : Nat) (fa : List He.Fa) (fn : List He.DefD) (xb : PySem.W.Frag → Bool) : PySem.W.Hook where
  α := He.AlD × Bool
  obs := fun s => obsX n fa fn xb s.heap.get?
  val := fun _ => (He.valD fn, true)
  says := fun _ h => ∃ K : PySem.W.Frag, K.In h ∧ He.SaysD fa fn K ∧ xb K = true
  of := fun _ _ e => ⟨_, He.frG_in, congrArg Prod.fst e, congrArg Prod.snd e⟩
  keeps := fun _ _ _ ⟨K, hK, c⟩ k => ⟨K, PySem.W.Frag.In.keeps hK k, c⟩
theorem obsX_eq {n : Nat} {fa : List He.Fa} {fn : List He.DefD} {xb : PySem.W.Frag → Bool} {g : Addr → Option Obj} {s : Shared} (h : ∀ a, g a = s.heap.get? a) : obsX n fa fn xb g = (hookX n fa fn xb).obs s := by
  have e : g = s.heap.get? := funext h
  subst e
  rfl
/-! ### constants -/
def flatV1 : D → V
  | .non => .non
  | .bl b => .bl b
  | .int i => .int i
  | .str x => .str x
  | _ => .non
theorem flatV1_rep {G : Pg} {L : Lk} {d : D} (h : flatD d = true) : Rep G L d (flatV1 d) := by
  cases d <;> first | (simp only [Rep, flatV1]; done) | cases h
theorem flatV1_all {G : Pg} {L : Lk} : ∀ {ds : List D}, ds.all flatD = true → RepL G L ds (ds.map flatV1)
  | [], _ => RepL.nil
  | d :: ds, h => by
    rw [List.all_cons, Bool.and_eq_true] at h
    exact RepL.cons (flatV1_rep h.1) (flatV1_all h.2)
def tupK (K : PySem.W.Frag) (a : Addr) (ds : List D) : Bool := match K.lookup a with
  | some ⟨.type c, none, .seq its _, _⟩ => decide (c = "tuple") && (decide (its.size ≤ sizeLine) && He.relAll (ds.map flatV1) its.toList)
  | _ => false
def cnsB (K : PySem.W.Frag) (x : Str) : D → Bool
  | .tup ds => He.eqO (PySem.W.nsIn K mainGlobals x) (some (some (.ref (He.ga K x)))) && (ds.all flatD && tupK K (He.ga K x) ds)
  | d => flatD d && (match PySem.W.nsIn K mainGlobals x with
    | some (some u) => He.relB (flatV1 d) u
    | _ => false)
theorem cns_ok {G : Pg} {K : PySem.W.Frag} {h : Heap} {mg : Str → Option Value} (hK : K = G.K) (X : K.In h) (N : h.Ns mainGlobals mg) {x : Str} {d : D} (c : cnsB K x d = true) : ∃ u v, mg x = some u ∧ RelV v u ∧ ∀ L, Rep G L d v := by
  unfold cnsB at c
  split at c
  · rename_i ds
    obtain ⟨c1, c2⟩ := He.ba c
    obtain ⟨c3, c4⟩ := He.ba c2
    refine ⟨.ref (He.ga K x), .ref (He.ga K x), PySem.W.mg_of X N (He.eqO_ok c1), rfl, fun L => ?_⟩
    simp only [Rep]
    refine ⟨_, ds.map flatV1, rfl, .inr ?_, flatV1_all c3⟩
    unfold tupK at c4
    split at c4
    · rename_i c5 its n sl hl
      obtain ⟨h1, h2⟩ := He.ba c4
      obtain ⟨h3, h4⟩ := He.ba h2
      exact ⟨_, its, n, by rw [← hK]; exact hl, rfl, congrArg Value.type (of_decide_eq_true h1), rfl, of_decide_eq_true h3, He.relAll_ok h4⟩
    · cases c4
  · obtain ⟨c1, c2⟩ := He.ba c
    split at c2
    · rename_i u hu
      exact ⟨u, flatV1 d, PySem.W.mg_of X N hu, He.relB_ok c2, fun L => flatV1_rep c1⟩
    · cases c2
/-! ### error classes -/
def clsX (K : PySem.W.Frag) (C : Addr) : Bool := match K.lookup C with
  | some ⟨.type "type", _, .cls cd, sl⟩ => (match cd.mro, sl.toList with
    | .ref C' :: bm, [_, _, _, _, some (.builtin n), _] => C' == C && (n == "ValueError.__new__" && (!cd.hasDel && (cd.hasDict && PySem.HandSPX.refsVE bm)))
    | _, _ => false)
  | _ => false
theorem clsX_ok {K : PySem.W.Frag} {C : Addr} (q : clsX K C = true) : ∃ cnm q N bs behind sn sub ab col dd k0 k1 k2 k3 k5, K.lookup C = some (excClassObj cnm q C N bs behind true sn sub ab col dd k0 k1 k2 k3 k5 "ValueError.__new__") ∧ PySem.HandSPX.refsVE behind = true := by
  unfold clsX at q
  split at q
  · rename_i dd cd sl ho
    split at q
    · rename_i C' behind k0 k1 k2 k3 n k5 hm hs
      obtain ⟨h1, q1⟩ := He.ba q
      obtain ⟨h2, q2⟩ := He.ba q1
      obtain ⟨h3, q3⟩ := He.ba q2
      obtain ⟨h4, h5⟩ := He.ba q3
      have g1 := beq_iff_eq.mp h1
      have g2 := beq_iff_eq.mp h2
      have g3 : cd.hasDel = false := by simpa using h3
      clear h1 h2 h3 q q1 q2 q3
      subst g1; subst g2
      obtain ⟨cnm, bs, mro, ns, cqn, hd, sn, sub, ab, col, del⟩ := cd
      dsimp only at hm g3 h4
      subst hm; subst g3; subst h4
      have hsl : sl = #[k0, k1, k2, k3, some (.builtin "ValueError.__new__"), k5] := by
        obtain ⟨l⟩ := sl
        dsimp only at hs
        rw [hs]
      subst hsl
      exact ⟨cnm, cqn, ns, bs, behind, sn, sub, ab, col, dd, k0, k1, k2, k3, k5, ho, h5⟩
    · cases q
  · cases q
def kxB (K : PySem.W.Frag) (C : Addr) : Bool :=
  He.eqO (PySem.W.findIn K (.ref C) "__class__") (some (some (.builtin "object.__class__"))) && (He.eqO (PySem.W.specialIn K (.builtin "object.__class__") "__get__") (some (some (.builtin "getset_descriptor.__get__"))) &&
  (decide (PySem.W.takesIn K (.builtin "object.__class__") = some true) && decide (PySem.W.mroIn K C (.type "object") = some true)))
theorem kxB_ok {K : PySem.W.Frag} {C : Addr} (c : kxB K C = true) : KxT K C := by
  obtain ⟨c1, c⟩ := He.ba c
  obtain ⟨c2, c⟩ := He.ba c
  obtain ⟨c3, c4⟩ := He.ba c
  exact ⟨He.eqO_ok c1, He.eqO_ok c2, of_decide_eq_true c3, of_decide_eq_true c4⟩
def exB (K : PySem.W.Frag) (x fld : Str) : Bool :=
  He.eqO (PySem.W.nsIn K mainGlobals x) (some (some (.ref (He.ga K x)))) && (clsX K (He.ga K x) && (He.eqO (PySem.W.findIn K (.ref (He.ga K x)) "__setattr__") (some (some (.builtin "object.__setattr__"))) &&
  (He.eqO (PySem.W.findIn K (.ref (He.ga K x)) "__getattribute__") (some (some (.builtin "BaseException.__getattribute__"))) && (He.eqO (PySem.W.findIn K (.ref (He.ga K x)) "__getattr__") (some none) && (He.eqO (PySem.W.findIn K (.ref (He.ga K x)) fld) (some none) &&
  (He.eqO (PySem.W.findIn K (.ref (He.ga K x)) "__init__") (some (some (.ref (He.ma K (He.ga K x) "__init__")))) && (decide (PySem.W.typeIn K (.ref (He.ma K (He.ga K x) "__init__")) = some (.type "function")) && (PySem.W.keepIn K (.ref (He.ga K x)) &&
  (decide (PySem.W.subIn K (.ref (He.ga K x)) (.type "BaseException") = some true) && (decide (PySem.W.typeIn K (.ref (He.ga K x)) = some (.type "type")) && (PySem.W.hasDictIn K (He.ga K x) && (decide (PySem.W.exmOne K (.ref (He.ga K x)) (.ref (He.ga K x)) = some true) && kxB K (He.ga K x)))))))))))))
theorem exB_ok {K : PySem.W.Frag} {h : Heap} {mg : Str → Option Value} {x fld qn : Str} {p1 p2 q1 q2 q3 q4 : Pos} {fd : FuncData} (X : K.In h) (N : h.Ns mainGlobals mg) (hf : fld = "given" ∨ fld = "index") (c : exB K x fld = true)
    (D : FunD K "__init__" qn (PySem.PyX.iA fld p1 p2) (PySem.PyX.iB fld q1 q2 q3 q4) (PySem.PyX.iS fld) [] [] (He.ma K (He.ga K x) "__init__") fd) : PySem.PyX.LowTxt K mg x fld (He.ga K x) (He.ma K (He.ga K x) "__init__") ∧ KxT K (He.ga K x) := by
  unfold exB at c
  obtain ⟨c1, c⟩ := He.ba c
  obtain ⟨c2, c⟩ := He.ba c
  obtain ⟨c3, c⟩ := He.ba c
  obtain ⟨c4, c⟩ := He.ba c
  obtain ⟨c5, c⟩ := He.ba c
  obtain ⟨c6, c⟩ := He.ba c
  obtain ⟨c7, c⟩ := He.ba c
  obtain ⟨c8, c⟩ := He.ba c
  obtain ⟨c9, c⟩ := He.ba c
  obtain ⟨c10, c⟩ := He.ba c
  obtain ⟨c11, c⟩ := He.ba c
  obtain ⟨c12, c⟩ := He.ba c
  obtain ⟨c13, c14⟩ := He.ba c
  refine ⟨⟨hf, PySem.W.mg_of X N (He.eqO_ok c1), clsX_ok c2, He.eqO_ok c3, He.eqO_ok c4, He.eqO_ok c5, He.eqO_ok c6, He.eqO_ok c7, of_decide_eq_true c8, c9, of_decide_eq_true c10, of_decide_eq_true c11, c12, of_decide_eq_true c13, ?_⟩, kxB_ok c14⟩
  obtain ⟨oc, od, dV, kV, doc, pm, an, cdv, ct, osl, rfl, lk, hcd, d1, d2⟩ := D.ex
  rcases d1 with ⟨_, rfl⟩ | ⟨d1, _⟩
  · exact ⟨qn, oc, od, kV, doc, pm, an, cdv, ct, osl, p1, p2, q1, q2, q3, q4, lk, hcd⟩
  · exact absurd rfl d1
/-- which class catches which -/
def hdB (K : PySem.W.Frag) (exs : List (Str × Str)) (h : Str × List Nat) : Bool :=
  (He.eqO (PySem.W.nsIn K mainGlobals h.1) (some (some (.ref (He.ga K h.1)))) && exs.zipIdx.all fun y => decide (PySem.W.exmOne K (.ref (He.ga K y.1.1)) (.ref (He.ga K h.1)) = some (h.2.contains y.2))) ||
  (He.eqO (PySem.W.nsIn K mainGlobals h.1) (some none) && match bootBuiltins h.1 with
    | some (.type t) => decide (h.1 ≠ "__name__") && exs.zipIdx.all fun y => decide (PySem.W.exmOne K (.ref (He.ga K y.1.1)) (.type t) = some (h.2.contains y.2))
    | _ => false)
/-- the program, as it stands behind the top -/
def pgOf (K : PySem.W.Frag) (T : Tab) : Pg where
  K := K
  fa := fun f a => ∃ info, T.fns[f]? = some info ∧ a = He.ga K info.name
  ca := fun c C => ∃ y, T.exs[c]? = some y ∧ C = He.ga K y.1
  fld := fun c => ((T.exs[c]?).map (·.2)).getD ""
  cur := fun _ _ _ => False
/-- all that is asked of the written part beside the defs -/
def xbOf (T : Tab) (K : PySem.W.Frag) : Bool := (T.consts.all fun c => cnsB K c.1 c.2) && ((T.exs.all fun y => exB K y.1 y.2) && (T.hds.all fun h => hdB K T.exs h))
theorem lookup_mem' {α : Type} {x : Str} {d : α} : ∀ {l : List (Str × α)}, l.lookup x = some d → (x, d) ∈ l
  | [], h => by cases h
  | (y, e) :: r, h => by
    rw [List.lookup_cons] at h
    cases q : (x == y) with
    | true =>
      rw [q] at h
      cases h
      rw [beq_iff_eq.mp q]
      exact List.mem_cons_self
    | false =>
      rw [q] at h
      exact List.mem_cons_of_mem _ (lookup_mem' h)
theorem prog_ok {K : PySem.W.Frag} {h : Heap} {mg : Str → Option Value} {T : Tab} {tab : List Fn} (X : K.In h) (N : h.Ns mainGlobals mg) (c : xbOf T K = true) (hfree : ∀ x ∈ T.free, mg x = none)
    (hfld : ∀ y ∈ T.exs, y.2 = "given" ∨ y.2 = "index")
    (hin : ∀ y ∈ T.exs, ∃ (qn : Str) (p1 p2 q1 q2 q3 q4 : Pos) (fd : FuncData), FunD K "__init__" qn (PySem.PyX.iA y.2 p1 p2) (PySem.PyX.iB y.2 q1 q2 q3 q4) (PySem.PyX.iS y.2) [] [] (He.ma K (He.ga K y.1) "__init__") fd)
    (hd : ∀ (f : Nat) info, T.fns[f]? = some info → DefOk (pgOf K T) T K mg tab f info) : ProgOk (pgOf K T) T K mg tab := by
  obtain ⟨c1, c2⟩ := He.ba c
  obtain ⟨c3, c4⟩ := He.ba c2
  have low : ∀ (i : Nat) y, T.exs[i]? = some y → PySem.PyX.LowTxt K mg y.1 y.2 (He.ga K y.1) (He.ma K (He.ga K y.1) "__init__") ∧ KxT K (He.ga K y.1) := fun i y hy => by
    have hm := List.mem_of_getElem? hy
    obtain ⟨qn, p1, p2, q1, q2, q3, q4, fd, D⟩ := hin y hm
    exact exB_ok X N (hfld y hm) (List.all_eq_true.mp c3 y hm) D
  refine ⟨rfl, hfree, fun x d hx => cns_ok rfl X N (List.all_eq_true.mp c1 (x, d) (lookup_mem' hx)), fun b => ⟨fun i nm fld hc => ?_, fun i C hc => ?_, fun y hy => ?_, fun i C hc => by obtain ⟨y, hy, rfl⟩ := hc; exact (low i y hy).2⟩, hd⟩
  · exact ⟨_, _, (low i (nm, fld) hc).1, ⟨(nm, fld), hc, rfl⟩, by show (pgOf K T).fld i = fld; unfold pgOf; simp only [show T.exs[i]? = some (nm, fld) from hc]; rfl⟩
  · obtain ⟨y, hy, rfl⟩ := hc
    exact ⟨y.1, y.2, _, hy, (low i y hy).1, by show (pgOf K T).fld i = y.2; unfold pgOf; simp only [hy]; rfl⟩
  · have h1 := List.all_eq_true.mp c4 y hy
    have zi : ∀ {z : Str × Str} {i : Nat}, T.exs[i]? = some z → (z, i) ∈ T.exs.zipIdx := fun {z i} hz => by
      rw [List.mem_zipIdx_iff_getElem?]
      exact hz
    unfold hdB at h1
    rcases (Bool.or_eq_true _ _).mp h1 with h1 | h1
    · obtain ⟨g1, g2⟩ := He.ba h1
      refine ⟨.ref (He.ga K y.1), .inl (PySem.W.mg_of X N (He.eqO_ok g1)), .inl ⟨_, rfl⟩, fun i C hc => ?_⟩
      obtain ⟨z, hz, rfl⟩ := hc
      exact of_decide_eq_true (List.all_eq_true.mp g2 (z, i) (zi hz))
    · obtain ⟨g1, g2⟩ := He.ba h1
      split at g2
      · rename_i t ht
        obtain ⟨g3, g4⟩ := He.ba g2
        refine ⟨.type t, .inr ⟨PySem.W.mg_none_of X N (He.eqO_ok g1), ht, of_decide_eq_true g3⟩, .inr ⟨t, rfl⟩, fun i C hc => ?_⟩
        obtain ⟨z, hz, rfl⟩ := hc
        exact of_decide_eq_true (List.all_eq_true.mp g4 (z, i) (zi hz))
      · cases g2
/-! ### the law's end -/
/-- the law's call, from a promise of its def where the marks of repr are none (the way is that of the layer's own end) -/
theorem endG {P : Program} {w : World} {K : PySem.W.Frag} {mg mb : Str → Option Value} {k : Nat} {fL scr : Addr} {fd : FuncData} {y : Str} {sp : Sp} {st : Shared} {us : List Value} {is : List Int}
    (inK : K.In st.heap) (gl : st.heap.Ns mainGlobals mg) (bu : st.heap.Ns builtinsNs mb) (bb : ∀ z : Str, z ≠ "__name__" → mb z = bootBuiltins z) (nl : st.heap.NoLimit) (gs : st.gens = #[])
    (at_ : st.heap.get? scr = some { cls := .type "list", data := .seq us.toArray }) (nums : PyProof.Rows.IntsAre us is) (short : is.length ≤ sizeLine) (room : L2H.RoomH k callerA)
    (FF : ∀ base : Heap, K.In base → base.Ns mainGlobals mg → FnG true P w K mg base k fL fd [y] sp) (bd : ∀ (s : Shared) (u : Value), BindsTo s fd ⟨[u], []⟩ [(y, u)])
    (say : ∀ Hq : Hp, L2.Only Hq → SqL K Hq scr (is.map V.int) → sp [.ref scr] Hq (fun v _ => v = .bl true) fun _ _ _ => False) :
    codeAny (model P w) callerA (.call (.ref fL) ⟨[.ref scr], []⟩) (fun r s' => r = .ok (.ret (.bool true)) ∧ OldK st.heap s'.heap ∧ s'.os = st.os ∧ PyProof.Rows.AllBare s'.gens) st := by
  have vals := L2.vals_ints nums
  have same := nums.length
  have main : ∀ Hq : Hp, L2.Only Hq → SqL K Hq scr (is.map V.int) → HOk P w Hq st.heap → (∀ b, Hq b ≠ none → b = scr) → (Hq scr ≠ none → K.lookup scr = none) →
      codeAny (model P w) callerA (.call (.ref fL) ⟨[.ref scr], []⟩) (fun r s' => r = .ok (.ret (.bool true)) ∧ OldK st.heap s'.heap ∧ s'.os = st.os ∧ PyProof.Rows.AllBare s'.gens) st := by
    intro Hq only sq okH solely notK
    have unhid : ∀ {b : Addr} {o : Obj}, st.heap.get? b = some o → Hq b = none → (hidT st.heap Hq).get? b = some o := fun e1 e2 => hidT_get e1 e2
    have dictFree : ∀ {b : Addr} {o : Obj} {es : Array DictEntry} {ep : Nat}, st.heap.get? b = some o → o.data = .dict es ep → Hq b = none := fun {b o es ep} e1 e2 =>
      Classical.byContradiction fun ne => by
        have eb := solely b ne
        subst eb
        rw [at_] at e1
        cases e1
        exact nomatch (show Data.seq us.toArray _ = Data.dict es ep from e2)
    have nsOf : ∀ {b : Addr} {m : Str → Option Value}, st.heap.Ns b m → (hidT st.heap Hq).Ns b m := fun ⟨o, es, ep, n1, n2, n3⟩ => ⟨o, es, ep, unhid n1 (dictFree n1 n2), n2, n3⟩
    have kHid : K.In (hidT st.heap Hq) := fun b o e1 => unhid (inK b o e1) (Classical.byContradiction fun ne => by
      have eb := solely b ne
      subst eb
      rw [notK ne] at e1
      cases e1)
    obtain ⟨mc, lim1, lim2⟩ := nl
    have modK : Mod K mg (hidT st.heap Hq) := ⟨kHid, nsOf gl, ⟨mb, nsOf bu, bb⟩, ⟨mc, nsOf lim1, lim2⟩⟩
    have none_in : ∀ b : Addr, b ∉ ([] : List Addr) := fun b q => nomatch q
    have env0 : Env0 P w K mg (hidT st.heap Hq) callerA [] st Hq := ⟨rfl, modK, fun b o e1 => of_hidT e1, Nat.le_of_eq (hidT_size _ _), trivial, fun b q => (none_in b q).elim, okH, .of_eq gs⟩
    refine codeAny_mono ((FF _ kHid (nsOf gl)).run callerA [] st Hq ⟨[.ref scr], []⟩ [.ref scr] [.ref scr] _ _ room rfl rfl env0 (bd st (.ref scr)) (.cons rfl .nil) (say Hq only sq)) fun r s' res => ?_
    cases r with
    | error e1 =>
      obtain ⟨_, _, _, _, _, _, _, _, _, _, _, _, no⟩ := res
      exact no.elim
    | ok fl =>
      cases fl with
      | ret u =>
        obtain ⟨v, Hr, r1, r2, r3, r4, r5, r6⟩ := res
        have ev : v = .bl true := r6
        subst ev
        have eu : u = Value.bool true := r5
        subst eu
        refine ⟨rfl, OldK.of_keep fun b o e1 => ?_, r1, r2⟩
        rcases only b with z | ⟨ob, xs, z⟩
        · exact r3.keep b o e1 z (none_in b) (by simp)
        · obtain ⟨g1, _⟩ := okH b _ z
          obtain ⟨g2, _⟩ := r4 b _ (r3.frzs b ob _ z)
          rw [e1] at g1
          cases g1
          exact g2
      | next => exact res.elim
      | brk => exact res.elim
      | cont => exact res.elim
  cases inMod : K.lookup scr with
  | none =>
    have hit : ∀ b, b = scr → (fun c => if c = scr then some (HO.frz { cls := .type "list", data := .seq us.toArray } (.lst (is.map V.int))) else none : Hp) b = some (.frz { cls := .type "list", data := .seq us.toArray } (.lst (is.map V.int))) := fun b e1 => if_pos e1
    have miss : ∀ b, b ≠ scr → (fun c => if c = scr then some (HO.frz { cls := .type "list", data := .seq us.toArray } (.lst (is.map V.int))) else none : Hp) b = none := fun b e1 => if_neg e1
    refine main (fun c => if c = scr then some (HO.frz { cls := .type "list", data := .seq us.toArray } (.lst (is.map V.int))) else none) (fun b => ?_) (.inl (.inr ⟨_, hit scr rfl⟩)) (fun b u e1 => ?_) (fun b ne => Classical.byContradiction fun q => ne (miss b q)) fun _ => inMod
    · by_cases q : b = scr
      · exact .inr ⟨_, _, hit b q⟩
      · exact .inl (miss b q)
    · by_cases q : b = scr
      · rw [hit b q] at e1
        cases e1
        subst q
        exact ⟨at_, by rw [List.length_map]; exact short, us, _, vals, at_⟩
      · rw [miss b q] at e1
        cases e1
  | some o =>
    have e1 := inK scr o inMod
    rw [at_] at e1
    cases e1
    exact main (fun _ => none) (fun _ => .inl rfl) (.inr ⟨_, us.toArray, _, inMod, rfl, rfl, rfl, by rw [List.size_toArray, same]; exact short, by simpa using vals⟩) (fun b u e2 => by cases (show (none : Option HO) = some u from e2)) (fun b ne => absurd rfl ne) fun ne => absurd rfl ne
/-- a law over these -/
theorem walkG {l : PySem.W.OpenLaw} {n k : Nat} {q : Program} {loose : List Str} {XP : (Str → Option Value) → Heap → Prop} {YP : World → Heap → Prop} {d : DefRec} {y : Str}
    (hn : l.most = some n) (hn2 : n ≤ sizeLine) (hdf : d.params.defaults = []) (room : L2H.RoomH k callerA)
    (FF : ∀ (w : World) (mg : Str → Option Value) (fL : Addr) (h : Heap), YP w h → h.Ns mainGlobals mg → mg d.name = some (.ref fL) →
      ∃ (K : PySem.W.Frag) (fd : FuncData) (sp : Sp), K.In h ∧ (∀ (s : Shared) (u : Value), BindsTo s fd ⟨[u], []⟩ [(y, u)]) ∧
        (∀ (Hq : Hp) (a : Addr) (ns : List Int), ns.length ≤ n → L2.Only Hq → SqL K Hq a (ns.map V.int) → sp [.ref a] Hq (fun v _ => v = .bl true) fun _ _ _ => False) ∧
        ∀ base : Heap, K.In base → base.Ns mainGlobals mg → FnG true l.prog w K mg base k fL fd [y] sp) :
    PySem.W.WalkO q loose XP YP l.row.toRowW d [] (fun f vs => PySem.call f vs) := by
  refine Att.attach_call hn hdf fun w s₀ st mg mb fL o pm cd doc scr us is G Y ho hdd hcd hmg at_ nums short gs => ?_
  obtain ⟨K, fd, sp, inK, bd, say, fns⟩ := FF w mg fL _ Y G.T.g hmg
  exact endG inK G.T.g G.T.b G.T.builtins G.T.nolimit gs at_ nums (Nat.le_trans short hn2) room fns bd fun Hq only sq => say Hq scr is short only sq
end Py
end
section
set_option Elab.async false
set_option linter.all false
set_option maxRecDepth 100000
set_option maxHeartbeats 4000000
/-! PyT: from the pure answer to the law. -/
namespace Py
open PySem PySem.Spec L2
/-- the written part holds no list -/
def noL (K : PySem.W.Frag) : Bool := K.all fun p => match p.2.cls with
  | .type c => !(c == "list")
  | _ => true
theorem frag_mem {K : PySem.W.Frag} {a : Addr} {o : Obj} (h : K.lookup a = some o) : ∃ b, (b, o) ∈ K := by
  induction K with
  | nil => cases h
  | cons p r ih =>
    obtain ⟨b, u⟩ := p
    rw [List.lookup_cons] at h
    cases q : (a == b) with
    | true => rw [q] at h; cases h; exact ⟨b, List.mem_cons_self⟩
    | false => rw [q] at h; obtain ⟨c, hc⟩ := ih h; exact ⟨c, List.mem_cons_of_mem _ hc⟩
theorem noL_ok {K : PySem.W.Frag} {a : Addr} {o : Obj} (c : noL K = true) (h : K.lookup a = some o) (e : o.cls = .type "list") : False := by
  obtain ⟨b, hb⟩ := frag_mem h
  have := List.all_eq_true.mp c _ hb
  dsimp only at this
  rw [e] at this
  cases this
theorem rep_ints {G : Pg} {L : Lk} : ∀ ns : List Int, RepL G L (ns.map D.int) (ns.map V.int)
  | [] => RepL.nil
  | _ :: ns => RepL.cons (by simp only [Rep]) (rep_ints ns)
/-- the binding of a call: places and keywords -/
theorem funD_binds {K : PySem.W.Frag} {x qual : Str} {params : Arguments} {body : List Stmt} {scope : Scope} {a : Addr} {fd : FuncData} {us : List Value} {ks : List (Str × Value)} {bs : List (Str × Value)} (F : FunD K x qual params body scope [] [] a fd)
    (h : ∀ (kV doc pm : Value) (an : Option Addr) (cdv ct : Value), bindArgs (PySem.W.fnOf x qual params body scope .none kV doc pm an cdv ct) ⟨us, ks⟩ = pure bs) (s : Shared) : BindsTo s fd ⟨us, ks⟩ bs := by
  obtain ⟨oc, od, dV, kV, doc, pm, an, cdv, ct, osl, rfl, lk, _, hD, _⟩ := F.ex
  rcases hD with ⟨_, rfl⟩ | ⟨e, _⟩
  · exact .of_eq (h kV doc pm an cdv ct)
  · exact absurd rfl e
/-- the hook of a law of this make -/
def hookT (m : Nat) (fa : List He.Fa) (fn : List He.DefD) (T : Tab) : PySem.W.Hook := hookX m fa fn fun K => xbOf T K && noL K
theorem law_end {l : PySem.W.OpenLaw} {T : Tab} {tab : List Fn} {m n li : Nat} {info : FnInfo} {fa : List He.Fa} {fn : List He.DefD} {q : Program} {loose : List Str} {XP : (Str → Option Value) → Heap → Prop} {d : DefRec}
    (hn : l.most = some 63) (hdf : d.params.defaults = []) (room : L2H.RoomH n callerA) (hi : T.fns[li]? = some info) (hps : info.ps = [("script" : Str)]) (hpat : (1, [], []) ∈ info.pats) (hname : d.name = info.name)
    (pure_ : ∀ ns : List Int, ns.length ≤ 63 → ∃ S, callN tab n li [.lst (ns.map .int)] [] = .ok (.bl true, S))
    (O : ∀ (K : PySem.W.Frag) (h : Heap) (mg : Str → Option Value), K.In h → h.Ns mainGlobals mg → He.SaysD fa fn K → xbOf T K = true → ProgOk (pgOf K T) T K mg tab) :
    PySem.W.WalkO q loose XP (hookT m fa fn T).says l.row.toRowW d [] (fun f vs => PySem.call f vs) := by
  refine walkG (n := 63) (k := n) (y := "script") hn (by decide) hdf room fun w mg fL h Y N hmg => ?_
  obtain ⟨K, KX, c, cx⟩ := Y
  obtain ⟨c1, c2⟩ := He.ba cx
  have P := O K h mg KX N c c1
  obtain ⟨a, fd, qual, params, body, scope, NN, muts, fn0, h1, h2, h3, h4, h5, h6, h7, h8, h9, h10⟩ := (P.defs li info hi).ex
  rw [hname, h2] at hmg
  cases hmg
  refine ⟨K, fd, spF (pgOf K T) (callN tab n) li 1, KX, fun s u => ?_, fun Hq scr ns hl only sq => ?_, fun base kb nb => ?_⟩
  · have := h5 _ hpat s [u] [] rfl rfl
    rw [hps] at this
    exact this
  · obtain ⟨S, e⟩ := pure_ ns hl
    rcases sq with sq | ⟨o, its, k, g1, g2, _⟩
    · refine ⟨⟨Hq, [], []⟩, [], [.lst (ns.map .int)], rfl, rfl, RepL.cons ?_ RepL.nil, ⟨fun _ _ z => z, rfl, rfl, List.nodup_nil, fun k c a z => by simp at z, fun k c a z => by simp at z⟩, ?_⟩
      · simp only [Rep]
        exact ⟨scr, ns.map V.int, rfl, sq, rep_ints ns⟩
      · rw [e]
        intro L' H' v st r
        simpa only [Rep] using r
    · exact (noL_ok c2 g1 g2).elim
  · have := fn_all (P := l.prog) (w := w) (base := base) P n li info hi _ fd ⟨qual, params, body, scope, h1⟩ h3 h2 true (.inl rfl)
    rw [hps] at this
    exact this
end Py
end
section
set_option Elab.async false
set_option linter.all false
set_option maxRecDepth 100000
set_option maxHeartbeats 4000000
/-! PyU: the interpreter, step by step, as rules of simp. -/
namespace Py
open PySem
/-- a statement, then the rest -/
def seqR (x : Res (Flow × Vars × Sto)) (k : Vars → Sto → Res (Flow × Vars × Sto)) : Res (Flow × Vars × Sto) :=
  match x with
  | .ok (.next, η, Z) => k η Z
  | r => r
/-- a[k] = v, a lasting -/
def storeS (a k v : D) (η : Vars) (Z : Sto) : Res (Flow × Vars × Sto) :=
  match a with
  | .loc j => match Z.S[j]? with
    | some c => do
      let c ← Res.opt (putCell c k v)
      .ok (.next, η, { Z with S := Z.S.set j c })
    | none => .bad
  | _ => .bad
def putT (j : Nat) (k v : D) (η : Vars) (Z : Sto) : Res (Flow × Vars × Sto) :=
  match Z.T[j]? with
  | some c => do
    let c ← Res.opt (putCell c k v)
    .ok (.next, η, { Z with T := Z.T.set j c })
  | none => .bad
/-- x[k] = v, x the frame's own -/
def storeT (f : Sto → Res (D × Sto)) (o : Option (Option Slot)) (v : D) (η : Vars) (Z : Sto) : Res (Flow × Vars × Sto) :=
  match o with
  | some (some (.tmp j)) => do
    let y ← f Z
    putT j y.1 v η y.2
  | _ => .bad
section
variable {C : Orc} {η : Vars} {Z : Sto}
@[simp] theorem seq_next (k : Vars → Sto → Res (Flow × Vars × Sto)) : seqR (.ok (.next, η, Z)) k = k η Z := rfl
@[simp] theorem seq_ret (d : D) (k : Vars → Sto → Res (Flow × Vars × Sto)) : seqR (.ok (.ret d, η, Z)) k = .ok (.ret d, η, Z) := rfl
@[simp] theorem seq_exn (c : Nat) (d : D) (k : Vars → Sto → Res (Flow × Vars × Sto)) : seqR (.exn c d Z) k = .exn c d Z := rfl
@[simp] theorem ite_and (c : Prop) [Decidable c] (u : Bool) (Y : Sto) : (if c then (Res.ok (D.bl u, Y)) else .ok (.bl false, Y)) = .ok (.bl (decide c && u), Y) := by by_cases h : c <;> simp [h]
@[simp] theorem ite_or (c : Prop) [Decidable c] (u : Bool) (Y : Sto) : (if c then (Res.ok (D.bl true, Y)) else .ok (.bl u, Y)) = .ok (.bl (decide c || u), Y) := by by_cases h : c <;> simp [h]
@[simp] theorem ite_andO (c : Prop) [Decidable c] (u : Bool) (Y : Sto) : (if c then (Res.ok (Ov.v (D.bl u), Y)) else .ok (.v (.bl false), Y)) = .ok (.v (.bl (decide c && u)), Y) := by by_cases h : c <;> simp [h]
@[simp] theorem ite_orO (c : Prop) [Decidable c] (u : Bool) (Y : Sto) : (if c then (Res.ok (Ov.v (D.bl true), Y)) else .ok (.v (.bl u), Y)) = .ok (.v (.bl (decide c || u)), Y) := by by_cases h : c <;> simp [h]
@[simp] theorem ite_andB (c : Bool) (u : Bool) (Y : Sto) : (if c = true then (Res.ok (D.bl u, Y)) else .ok (.bl c, Y)) = .ok (.bl (c && u), Y) := by cases c <;> simp
@[simp] theorem ite_orB (c : Bool) (u : Bool) (Y : Sto) : (if c = true then (Res.ok (D.bl c, Y)) else .ok (.bl u, Y)) = .ok (.bl (c || u), Y) := by cases c <;> simp
@[simp] theorem ite_andP (c : Prop) [Decidable c] (u : Bool) (Y : Sto) : (if c then (Res.ok (D.bl u, Y)) else .ok (.bl (decide c), Y)) = .ok (.bl (decide c && u), Y) := by by_cases h : c <;> simp [h]
@[simp] theorem ite_orP (c : Prop) [Decidable c] (u : Bool) (Y : Sto) : (if c then (Res.ok (D.bl (decide c), Y)) else .ok (.bl u, Y)) = .ok (.bl (decide c || u), Y) := by by_cases h : c <;> simp [h]
@[simp] theorem r_pure {α : Type} (a : α) : (pure a : Res α) = .ok a := rfl
@[simp] theorem r_ok {α β : Type} (a : α) (f : α → Res β) : ((Res.ok a : Res α) >>= f) = f a := rfl
@[simp] theorem r_bad {α β : Type} (f : α → Res β) : ((.bad : Res α) >>= f) = .bad := rfl
@[simp] theorem r_exn {α β : Type} (c : Nat) (d : D) (Z : Sto) (f : α → Res β) : ((.exn c d Z : Res α) >>= f) = .exn c d Z := rfl
@[simp] theorem r_some {α : Type} (a : α) : Res.opt (some a) = .ok a := rfl
@[simp] theorem r_none {α : Type} : (Res.opt none : Res α) = .bad := rfl
@[simp] theorem nox_ok {α : Type} (a : α) : (Res.ok a).nox = .ok a := rfl
@[simp] theorem sv_int (i : Int) : Z.see (.v (.int i)) = some (.int i) := rfl
@[simp] theorem sv_bl (i : Bool) : Z.see (.v (.bl i)) = some (.bl i) := rfl
@[simp] theorem sv_str (i : Str) : Z.see (.v (.str i)) = some (.str i) := rfl
@[simp] theorem sv_non : Z.see (.v .non) = some .non := rfl
@[simp] theorem sv_tup (i : List D) : Z.see (.v (.tup i)) = some (.tup i) := rfl
@[simp] theorem sv_lst (i : List D) : Z.see (.v (.lst i)) = some (.lst i) := rfl
@[simp] theorem sv_dct (i : List (L2.Key × D)) : Z.see (.v (.dct i)) = some (.dct i) := rfl
@[simp] theorem sv_tupU (i : List D) : Z.see (.v (.tupU i)) = some (.tupU i) := rfl
@[simp] theorem sv_loc (k : Nat) : Z.see (.v (.loc k)) = (Z.S[k]?).map Cell.see := rfl
@[simp] theorem st_t (k : Nat) : Z.see (.t k) = (Z.T[k]?).map Cell.see := rfl
@[simp] theorem cell_lst (xs : List D) : (Cell.lst xs).see = .lst xs := rfl
@[simp] theorem cell_dct (xs : List (L2.Key × D)) : (Cell.dct xs).see = .dct xs := rfl
@[simp] theorem cell_frz (d : D) : (Cell.frz d).see = d := rfl
@[simp] theorem tru_eq (x : Ov) : Z.tru x = (Z.see x).bind truthD := rfl
@[simp] theorem truth_bl (b : Bool) : truthD (.bl b) = some b := rfl
@[simp] theorem e_const (d : D) : ev C (.const d) η Z = .ok (d, Z) := by simp only [ev]
@[simp] theorem e_name (i : Nat) : ev C (.name i) η Z = (match η[i]? with | some (some (.val d)) => .ok (d, Z) | _ => .bad) := by simp only [ev] <;> rfl
@[simp] theorem e_fname (i : Nat) : ev C (.fname i) η Z = (match η[i]? with | some (some (.val d)) => .ok (d, Z) | some (some (.tmp k)) => Z.fix k | _ => .bad) := by simp only [ev] <;> rfl
@[simp] theorem e_bin (op : Bop) (a b : O) : ev C (.bin op a b) η Z = evO C a η Z >>= fun x => evO C b η x.2 >>= fun y => Res.opt (y.2.see x.1) >>= fun u => Res.opt (y.2.see y.1) >>= fun v => Res.opt (binD op u v) >>= fun r => .ok (r, y.2) := by simp only [ev]
@[simp] theorem e_cmp (op : Cop) (a b : O) : ev C (.cmp op a b) η Z = evO C a η Z >>= fun x => evO C b η x.2 >>= fun y => Res.opt (y.2.see x.1) >>= fun u => Res.opt (y.2.see y.1) >>= fun v => Res.opt (cmpD op u v) >>= fun r => .ok (.bl r, y.2) := by simp only [ev]
@[simp] theorem e_chain (op op2 : Cop) (a b c : E) : ev C (.chain op op2 a b c) η Z = ev C a η Z >>= fun x => ev C b η x.2 >>= fun y => Res.opt (cmpD op x.1 y.1) >>= fun r => if r then ev C c η y.2 >>= fun z => Res.opt (cmpD op2 y.1 z.1) >>= fun r => .ok (.bl r, z.2) else .ok (.bl false, y.2) := by simp only [ev]
@[simp] theorem e_not (a : O) : ev C (.not a) η Z = evO C a η Z >>= fun x => Res.opt (x.2.tru x.1) >>= fun b => .ok (.bl (!b), x.2) := by simp only [ev]
@[simp] theorem e_neg_int (i : Int) : ev C (.neg (.const (.int i))) η Z = .ok (.int (-i), Z) := by simp only [ev, r_ok]
@[simp] theorem e_and (a b : E) : ev C (.and a b) η Z = ev C a η Z >>= fun x => Res.opt (x.2.tru (.v x.1)) >>= fun t => if t then ev C b η x.2 else .ok (x.1, x.2) := by simp only [ev]
@[simp] theorem e_or (a b : E) : ev C (.or a b) η Z = ev C a η Z >>= fun x => Res.opt (x.2.tru (.v x.1)) >>= fun t => if t then .ok (x.1, x.2) else ev C b η x.2 := by simp only [ev]
@[simp] theorem e_ite (c : O) (a b : E) : ev C (.ite c a b) η Z = evO C c η Z >>= fun x => Res.opt (x.2.tru x.1) >>= fun t => if t then ev C a η x.2 else ev C b η x.2 := by simp only [ev]
@[simp] theorem e_tup (es : Es) : ev C (.tup es) η Z = evs C es η Z >>= fun x => if lenOk x.1 then .ok (.tup x.1, x.2) else .bad := by simp only [ev]
@[simp] theorem e_lst (es : Es) : ev C (.lst es) η Z = evs C es η Z >>= fun x => if lenOk x.1 then .ok (.lst x.1, x.2) else .bad := by simp only [ev]
@[simp] theorem e_newS (ks : List L2.Key) (es : Es) : ev C (.newS ks es) η Z = evs C es η Z >>= fun x => if ks.length = x.1.length ∧ ks.length ≤ 15 then .ok (.loc x.2.S.length, { x.2 with S := x.2.S ++ [.dct (mergeD [] (ks.zip x.1))] }) else .bad := by simp only [ev]
@[simp] theorem e_idx (a : O) (i : E) : ev C (.idx a i) η Z = evO C a η Z >>= fun x => ev C i η x.2 >>= fun y => Res.opt (y.2.see x.1) >>= fun u => Res.opt (idxD u y.1) >>= fun r => .ok (r, y.2) := by simp only [ev]
@[simp] theorem e_slice (a : O) (lo hi : Eo) : ev C (.slice a lo hi) η Z = evO C a η Z >>= fun x => evEo C lo η x.2 >>= fun i => evEo C hi η i.2 >>= fun j => Res.opt (j.2.see x.1) >>= fun u => Res.opt (sliceD u i.1 j.1) >>= fun r => .ok (r, j.2) := by simp only [ev]
@[simp] theorem e_rev (a : O) : ev C (.rev a) η Z = evO C a η Z >>= fun x => Res.opt (x.2.see x.1) >>= fun u => Res.opt (revQ u) >>= fun r => .ok (r, x.2) := by simp only [ev]
@[simp] theorem e_call (f : Nat) (es ks : Es) (p : List Nat) : ev C (.call f es ks p) η Z = evs C es η Z >>= fun x => evs C ks η x.2 >>= fun y => (match C f (permD p (x.1 ++ y.1)) y.2.S with
    | .ok (d, S) => .ok (d, { y.2 with S := S })
    | .exn c d Z' => .exn c d { y.2 with S := Z'.S }
    | .bad => .bad) := by simp only [ev] <;> rfl
@[simp] theorem e_blt (b : Blt) (os : Os) : ev C (.blt b os) η Z = evOs C os η Z >>= fun x => Res.opt (x.1.mapM x.2.see) >>= fun ds => Res.opt (bltD b ds) >>= fun r => .ok (r, x.2) := by simp only [ev]
@[simp] theorem e_bi (b : Bi) (it : It) : ev C (.bi b it) η Z = evIt C it η Z >>= fun x => Res.opt (biD b x.1) >>= fun r => .ok (r, x.2) := by simp only [ev]
@[simp] theorem e_meth (m : Mth) (a : O) (os : Os) : ev C (.meth m a os) η Z = evO C a η Z >>= fun x => Res.opt (x.2.see x.1) >>= fun u => if mOk m u then evOs C os η x.2 >>= fun y => Res.opt (y.2.see x.1) >>= fun v => Res.opt (y.1.mapM y.2.see) >>= fun ds => Res.opt (methD m v ds) >>= fun r => .ok (r, y.2) else .bad := by simp only [ev]
@[simp] theorem e_lc (own : List Nat) (elt : E) (tg : Tg) (it : It) (cond : Oo) : ev C (.lc own elt tg it cond) η Z = evIt C it η Z >>= fun x => lcGo (fun y => tg.put y (wipeE η own)) (fun η' Z => evOo C cond η' Z) (fun η' Z => ev C elt η' Z) x.1 [] x.2 := by simp only [ev]
@[simp] theorem o_e (a : E) : evO C (.e a) η Z = ev C a η Z >>= fun x => .ok (.v x.1, x.2) := by simp only [evO]
@[simp] theorem o_t (i : Nat) : evO C (.t i) η Z = (match η[i]? with | some (some (.val d)) => .ok (.v d, Z) | some (some (.tmp k)) => .ok (.t k, Z) | _ => .bad) := by simp only [evO] <;> rfl
@[simp] theorem o_tand (a b : O) : evO C (.tand a b) η Z = evO C a η Z >>= fun x => Res.opt (x.2.tru x.1) >>= fun t => if t then evO C b η x.2 >>= fun y => Res.opt (y.2.tru y.1) >>= fun u => .ok (.v (.bl u), y.2) else .ok (.v (.bl false), x.2) := by simp only [evO]
@[simp] theorem o_tor (a b : O) : evO C (.tor a b) η Z = evO C a η Z >>= fun x => Res.opt (x.2.tru x.1) >>= fun t => if t then .ok (.v (.bl true), x.2) else evO C b η x.2 >>= fun y => Res.opt (y.2.tru y.1) >>= fun u => .ok (.v (.bl u), y.2) := by simp only [evO]
@[simp] theorem o_tnot (a : O) : evO C (.tnot a) η Z = evO C a η Z >>= fun x => Res.opt (x.2.tru x.1) >>= fun t => .ok (.v (.bl (!t)), x.2) := by simp only [evO]
@[simp] theorem s_nil : evs C .nil η Z = .ok ([], Z) := by simp only [evs]
@[simp] theorem s_cons (a : E) (r : Es) : evs C (.cons a r) η Z = ev C a η Z >>= fun x => evs C r η x.2 >>= fun y => .ok (x.1 :: y.1, y.2) := by simp only [evs]
@[simp] theorem os_nil : evOs C .nil η Z = .ok ([], Z) := by simp only [evOs]
@[simp] theorem os_cons (a : O) (r : Os) : evOs C (.cons a r) η Z = evO C a η Z >>= fun x => evOs C r η x.2 >>= fun y => .ok (x.1 :: y.1, y.2) := by simp only [evOs]
@[simp] theorem eo_none : evEo C .none η Z = .ok (none, Z) := by simp only [evEo]
@[simp] theorem eo_int (i : Int) : evEo C (.some (.const (.int i))) η Z = .ok (some i, Z) := by simp only [evEo, e_const, r_ok]
@[simp] theorem eo_some (a : E) : evEo C (.some a) η Z = ev C a η Z >>= fun x => (match x.1 with | .int i => .ok (some i, x.2) | _ => .bad) := by
  simp only [evEo] <;> rfl
@[simp] theorem oo_none : evOo C .none η Z = .ok (true, Z) := by simp only [evOo]
@[simp] theorem oo_some (a : O) : evOo C (.some a) η Z = evO C a η Z >>= fun x => Res.opt (x.2.tru x.1) >>= fun b => .ok (b, x.2) := by simp only [evOo]
@[simp] theorem it_seq (a : E) : evIt C (.seq a) η Z = ev C a η Z >>= fun x => Res.opt (itemsD x.1) >>= fun xs => .ok (xs, x.2) := by simp only [evIt]
@[simp] theorem it_zip (a b : E) : evIt C (.zip a b) η Z = ev C a η Z >>= fun x => ev C b η x.2 >>= fun y => Res.opt (lstD x.1) >>= fun xs => Res.opt (lstD y.1) >>= fun ys => .ok ((xs.zip ys).map fun p => .tupU [p.1, p.2], y.2) := by simp only [evIt]
@[simp] theorem it_items (a : O) : evIt C (.items a) η Z = evO C a η Z >>= fun x => (match x.2.see x.1 with | some (.dct kvs) => .ok (kvs.map fun kv => .tupU [dK kv.1, kv.2], x.2) | _ => .bad) := by simp only [evIt] <;> rfl
@[simp] theorem it_range1 (a : E) : evIt C (.range1 a) η Z = ev C a η Z >>= fun x => (match x.1 with | .int n => if n < 2 ^ 62 ∧ -(2 ^ 62) ≤ n then .ok ((List.range n.toNat).map fun k => .int (k : Nat), x.2) else .bad | _ => .bad) := by simp only [evIt] <;> rfl
@[simp] theorem x_asg (t : Tg) (e : E) : ex C (.asg t e) η Z = ev C e η Z >>= fun x => Res.opt (t.put x.1 η) >>= fun η => .ok (.next, η, x.2) := by simp only [ex]
@[simp] theorem x_par (ps : List (Nat × (E ⊕ Rhs))) : ex C (.par ps) η Z = evPar C ps η Z >>= fun x => Res.opt (setAll x.1 η) >>= fun η => .ok (.next, η, x.2) := by simp only [ex]
@[simp] theorem x_expr (e : E) : ex C (.expr e) η Z = ev C e η Z >>= fun x => .ok (.next, η, x.2) := by simp only [ex]
@[simp] theorem x_ite (c : O) (a b : Sms) : ex C (.ite c a b) η Z = evO C c η Z >>= fun x => Res.opt (x.2.tru x.1) >>= fun t => if t then exs C a η x.2 else exs C b η x.2 := by simp only [ex, evOo, Res.assoc, r_ok]
theorem x_for (t : Tg) (it : It) (b : Sms) : ex C (.for_ t it b) η Z = evIt C it η Z >>= fun x => forGo (fun y η => t.put y η) (fun η Z => exs C b η Z) x.1 η x.2 := by simp only [ex]
@[simp] theorem x_ret (e : E) : ex C (.ret e) η Z = ev C e η Z >>= fun x => .ok (.ret x.1, η, x.2) := by simp only [ex]
@[simp] theorem x_raise (c : Nat) (e : E) : ex C (.raise c e) η Z = ev C e η Z >>= fun x => .exn c x.1 x.2 := by simp only [ex]
@[simp] theorem xs_nil : exs C .nil η Z = .ok (.next, η, Z) := by simp only [exs]
@[simp] theorem xs_ret (e : E) (r : Sms) : exs C (.cons (.ret e) r) η Z = ev C e η Z >>= fun x => .ok (.ret x.1, η, x.2) := by
  simp only [exs, ex]
  cases ev C e η Z <;> rfl
theorem xs_cons (a : Sm) (r : Sms) : exs C (.cons a r) η Z = seqR (ex C a η Z) (exs C r) := by
  simp only [exs]
  cases ex C a η Z with
  | ok x => obtain ⟨f, η2, Z2⟩ := x; cases f <;> rfl
  | exn c d Z => rfl
  | bad => rfl
@[simp] theorem x_sset (a k v : E) : ex C (.sset a k v) η Z = ev C v η Z >>= fun x => ev C a η x.2 >>= fun y => ev C k η y.2 >>= fun z => storeS y.1 z.1 x.1 η z.2 := by
  simp only [ex, storeS] <;> rfl
theorem storeS_ok {j : Nat} {c c' : Cell} {k v : D} (h : Z.S[j]? = some c) (h2 : putCell c k v = some c') : storeS (.loc j) k v η Z = .ok (.next, η, { Z with S := Z.S.set j c' }) := by
  simp only [storeS, h, h2, r_some, r_ok]
@[simp] theorem x_tset (i : Nat) (k v : E) : ex C (.tset i k v) η Z = ev C v η Z >>= fun x => storeT (fun Z => ev C k η Z) (η[i]?) x.1 η x.2 := by
  simp only [ex, storeT] <;> rfl
@[simp] theorem storeT_tmp (f : Sto → Res (D × Sto)) (j : Nat) (v : D) : storeT f (some (some (.tmp j))) v η Z = f Z >>= fun y => putT j y.1 v η y.2 := rfl
theorem putT_ok {j : Nat} {c c' : Cell} {k v : D} (h : Z.T[j]? = some c) (h2 : putCell c k v = some c') : putT j k v η Z = .ok (.next, η, { Z with T := Z.T.set j c' }) := by
  simp only [putT, h, h2, r_some, r_ok]
@[simp] theorem fix_0 (S : List Cell) (c : Cell) : Sto.fix ⟨S, [c]⟩ 0 = .ok (c.see, ⟨S, [.frz c.see]⟩) := rfl
@[simp] theorem par_nil : evPar C [] η Z = .ok ([], Z) := by simp only [evPar]
@[simp] theorem par_inl (i : Nat) (e : E) (r : List (Nat × (E ⊕ Rhs))) : evPar C ((i, .inl e) :: r) η Z = ev C e η Z >>= fun x => evPar C r η x.2 >>= fun y => .ok ((i, .val x.1) :: y.1, y.2) := by simp only [evPar]
@[simp] theorem par_inr (i : Nat) (q : Rhs) (r : List (Nat × (E ⊕ Rhs))) : evPar C ((i, .inr q) :: r) η Z = evR C q η Z >>= fun x => evPar C r η { x.2 with T := x.2.T ++ [x.1] } >>= fun y => .ok ((i, .tmp x.2.T.length) :: y.1, y.2) := by simp only [evPar]
@[simp] theorem rhs_dct0 : evR C (.dct [] .nil) η Z = .ok (.dct [], Z) := by simp [evR, mergeD]
@[simp] theorem setA_nil : setAll [] η = some η := rfl
@[simp] theorem setA_cons (i : Nat) (s : Slot) (r : List (Nat × Slot)) : setAll ((i, s) :: r) η = if i < η.length then setAll r (η.set i (some s)) else none := rfl
@[simp] theorem m_get (kvs : List (L2.Key × D)) : mOk .get (.dct kvs) = true := rfl
@[simp] theorem meth_get (kvs : List (L2.Key × D)) (k x : D) : methD .get (.dct kvs) [k, x] = if stillD x then (keyD k).map fun k => (lookK kvs k).getD x else none := rfl
@[simp] theorem key_str (x : Str) : keyD (.str x) = some (.inr x) := rfl
@[simp] theorem key_int (x : Int) : keyD (.int x) = some (.inl x) := rfl
@[simp] theorem still_int (x : Int) : stillD (.int x) = true := rfl
@[simp] theorem put_name (i : Nat) (d : D) : (Tg.name i).put d η = if i < η.length then some (η.set i (some (.val d))) else none := by simp only [Tg.put]
@[simp] theorem put_tup (ts : List Tg) (ds : List D) : (Tg.tup ts).put (.tup ds) η = putAll ts ds η := by simp only [Tg.put]
@[simp] theorem put_tupU (ts : List Tg) (ds : List D) : (Tg.tup ts).put (.tupU ds) η = putAll ts ds η := by simp only [Tg.put]
@[simp] theorem putA_nil : putAll [] [] η = some η := by simp only [putAll]
@[simp] theorem putA_cons (t : Tg) (ts : List Tg) (d : D) (ds : List D) : putAll (t :: ts) (d :: ds) η = (match t.put d η with | some η' => putAll ts ds η' | none => none) := by simp only [putAll] <;> rfl
@[simp] theorem wipe_nil : wipeE η [] = η := rfl
@[simp] theorem wipe_cons (v : Nat) (vs : List Nat) : wipeE η (v :: vs) = (wipeE η vs).set v none := rfl
@[simp] theorem itD_str (x : Str) : itemsD (.str x) = some (x.cps.toList.map fun c => .str ⟨#[c]⟩) := rfl
@[simp] theorem itD_lst (x : List D) : itemsD (.lst x) = some x := rfl
@[simp] theorem itD_tup (x : List D) : itemsD (.tup x) = some x := rfl
@[simp] theorem lsD_lst (x : List D) : lstD (.lst x) = some x := rfl
@[simp] theorem b_len (d : D) : blt1 .len d = lenD d := rfl
@[simp] theorem b_abs (d : D) : blt1 .abs d = absD d := rfl
@[simp] theorem b_int (d : D) : blt1 .int_ d = intD d := rfl
@[simp] theorem b_str (d : D) : blt1 .str_ d = strD d := rfl
@[simp] theorem b_repr (d : D) : blt1 .repr d = reprD d := rfl
@[simp] theorem b_sum (d : D) : blt1 .sum d = sumD d := rfl
@[simp] theorem b_all (d : D) : blt1 .all d = allD d := rfl
@[simp] theorem b_any (d : D) : blt1 .any d = anyD d := rfl
@[simp] theorem b_sorted (d : D) : blt1 .sorted d = sortedD d := rfl
@[simp] theorem b_tuple (d : D) : blt1 .tuple d = tupleD d := rfl
@[simp] theorem b_list (d : D) : blt1 .list d = (listOf d).map .lst := rfl
@[simp] theorem b_dict (d : D) : blt1 .dict d = (dictOf d).map .dct := rfl
@[simp] theorem b_sortedSet (d : D) : blt1 .sortedSet d = sortedSetD d := rfl
@[simp] theorem b_isinst (T : String) (d : D) : blt1 (.isinst T) d = (isInst T d).map .bl := rfl
@[simp] theorem int_int (i : Int) : intD (.int i) = some (.int i) := rfl
@[simp] theorem len_tup (x : List D) : lenD (.tup x) = some (.int x.length) := rfl
@[simp] theorem len_lst (x : List D) : lenD (.lst x) = some (.int x.length) := rfl
@[simp] theorem len_dct (x : List (L2.Key × D)) : lenD (.dct x) = some (.int x.length) := rfl
@[simp] theorem tuple_lst (x : List D) : tupleD (.lst x) = some (.tup x) := rfl
@[simp] theorem tuple_tup (x : List D) : tupleD (.tup x) = some (.tup x) := rfl
@[simp] theorem lt_int (i j : Int) : cmpD .lt (.int i) (.int j) = some (decide (i < j)) := rfl
@[simp] theorem le_int (i j : Int) : cmpD .le (.int i) (.int j) = some (decide (i ≤ j)) := rfl
@[simp] theorem gt_int (i j : Int) : cmpD .gt (.int i) (.int j) = some (decide (j < i)) := rfl
@[simp] theorem ge_int (i j : Int) : cmpD .ge (.int i) (.int j) = some (decide (j ≤ i)) := rfl
@[simp] theorem lt_str (i j : Str) : cmpD .lt (.str i) (.str j) = some (ltS i j) := rfl
@[simp] theorem c_eq (a b : D) : cmpD .eq a b = eqD a b := rfl
@[simp] theorem c_ne (a b : D) : cmpD .ne a b = (eqD a b).map (!·) := rfl
@[simp] theorem add_int (i j : Int) : binD .add (.int i) (.int j) = some (.int (i + j)) := rfl
@[simp] theorem add_tup (x y : List D) : binD .add (.tup x) (.tup y) = if x.length + y.length ≤ lineN then some (.tup (x ++ y)) else none := rfl
@[simp] theorem add_lst (x y : List D) : binD .add (.lst x) (.lst y) = if x.length + y.length ≤ lineN then some (.lst (x ++ y)) else none := rfl
@[simp] theorem add_str (x y : Str) : binD .add (.str x) (.str y) = if x.length + y.length ≤ lineN then some (.str (x ++ y)) else none := rfl
@[simp] theorem sub_int (i j : Int) : binD .sub (.int i) (.int j) = some (.int (i - j)) := rfl
@[simp] theorem mul_int (i j : Int) : binD .mul (.int i) (.int j) = if (-(2 ^ 64) < i ∧ i < 2 ^ 64) ∨ (-(2 ^ 64) < j ∧ j < 2 ^ 64) then some (.int (i * j)) else none := rfl
@[simp] theorem fdiv_int (i j : Int) : binD .fdiv (.int i) (.int j) = if 0 < j ∧ j < 1073741824 then some (.int (i / j)) else none := rfl
@[simp] theorem pow_int (i j : Int) : binD .pow (.int i) (.int j) = if 0 ≤ j ∧ j ≤ 1000000 ∧ i.natAbs < 2 ^ 64 then some (.int (i ^ j.toNat)) else none := rfl
@[simp] theorem mod_int (i j : Int) : binD .mod (.int i) (.int j) = if 0 < j then some (.int (i % j)) else none := rfl
@[simp] theorem ix_tup (xs : List D) (i : Int) : idxD (.tup xs) (.int i) = L2.atI xs i := rfl
@[simp] theorem ix_lst (xs : List D) (i : Int) : idxD (.lst xs) (.int i) = L2.atI xs i := rfl
@[simp] theorem sl_tup (xs : List D) (i j : Option Int) : sliceD (.tup xs) i j = some (.tup (sliceL xs i j)) := rfl
@[simp] theorem sl_lst (xs : List D) (i j : Option Int) : sliceD (.lst xs) i j = some (.lst (sliceL xs i j)) := rfl
@[simp] theorem rv_tup (xs : List D) : revQ (.tup xs) = some (.tup xs.reverse) := rfl
@[simp] theorem rv_lst (xs : List D) : revQ (.lst xs) = some (.lst xs.reverse) := rfl
@[simp] theorem m_upper (x : Str) : mOk .upper (.str x) = true := rfl
@[simp] theorem meth_upper (x : Str) : methD .upper (.str x) [] = if x.length ≤ 5592405 then some (.str (Txt.upper x)) else none := rfl
@[simp] theorem abs_int (i : Int) : absD (.int i) = some (.int (if i < 0 then -i else i)) := rfl
@[simp] theorem ix_dct (kvs : List (L2.Key × D)) (k : D) : idxD (.dct kvs) k = (keyD k).bind (lookK kvs) := by cases k <;> rfl
@[simp] theorem lo_dct (kvs : List (L2.Key × D)) : Py.listOf (.dct kvs) = some (kvs.map fun kv => dK kv.1) := rfl
@[simp] theorem lo_lst (xs : List D) : Py.listOf (.lst xs) = some xs := rfl
@[simp] theorem lo_tup (xs : List D) : Py.listOf (.tup xs) = some xs := rfl
@[simp] theorem at_0 (a : D) (r : List D) : L2.atI (a :: r) 0 = some a := by simp [L2.atI, L2.ixN]
@[simp] theorem at_1 (a b : D) (r : List D) : L2.atI (a :: b :: r) 1 = some b := by
  have : (1 : Int) < (a :: b :: r).length := by simp only [List.length_cons]; omega
  unfold L2.atI L2.ixN
  rw [if_pos (by decide), if_pos this]
  rfl
@[simp] theorem ty_non : tyD .non = some "NoneType" := rfl
@[simp] theorem ty_bl (b : Bool) : tyD (.bl b) = some "bool" := rfl
@[simp] theorem ty_int (b : Int) : tyD (.int b) = some "int" := rfl
@[simp] theorem ty_str (b : Str) : tyD (.str b) = some "str" := rfl
@[simp] theorem ty_tup (b : List D) : tyD (.tup b) = some "tuple" := rfl
@[simp] theorem ty_lst (b : List D) : tyD (.lst b) = some "list" := rfl
@[simp] theorem ty_dct (b : List (L2.Key × D)) : tyD (.dct b) = some "dict" := rfl
@[simp] theorem bltD_one (b : Blt) (d : D) : bltD b [d] = blt1 b d := rfl
@[simp] theorem permD_nil {α : Type} (ds : List α) : permD [] ds = ds := rfl
@[simp] theorem lenOk_nil {α : Type} : lenOk ([] : List α) = true := rfl
theorem lenOk_of {α : Type} {xs : List α} (h : xs.length ≤ 1000) : lenOk xs = true := by
  unfold lenOk lineN
  exact decide_eq_true (by omega)
end
/-- a body's statement -/
def nth : Sms → Nat → Sm
  | .nil, _ => .pass
  | .cons a _, 0 => a
  | .cons _ r, n + 1 => nth r n
def rest : Sms → Sms
  | .cons _ r => r
  | .nil => .nil
/-- a for's body -/
def inner : Sm → Sms
  | .for_ _ _ b => b
  | _ => .nil
/-- a body's end as a call's end -/
def finR : Res (Flow × Vars × Sto) → Res (D × List Cell)
  | .ok (.ret d, _, Z) => .ok (d, Z.S)
  | .ok (.next, _, Z) => .ok (.non, Z.S)
  | .exn c d Z => .exn c d Z
  | _ => .bad
@[simp] theorem fin_ret (d : D) (η : Vars) (Z : Sto) : finR (.ok (.ret d, η, Z)) = .ok (d, Z.S) := rfl
@[simp] theorem fin_next (η : Vars) (Z : Sto) : finR (.ok (.next, η, Z)) = .ok (.non, Z.S) := rfl
@[simp] theorem fin_exn (c : Nat) (d : D) (Z : Sto) : finR (.exn c d Z) = .exn c d Z := rfl
/-- a def's call, opened -/
theorem call_def {tab : List Fn} {f ar n : Nat} {b : Sms} (hf : tab[f]? = some ⟨ar, n, b⟩) (m : Nat) (ds : List D) (S : List Cell) (hl : ds.length = ar) :
    callN tab (m + 1) f ds S = finR (exs (callN tab m) b ((ds.map fun d => some (Slot.val d)) ++ List.replicate (n - ds.length) none) ⟨S, []⟩) := by
  simp only [callN, hf, Fn.run, hl, if_true, Fn.start] <;> rfl
end Py
end
section
set_option Elab.async false
set_option linter.all false
set_option maxRecDepth 100000
set_option maxHeartbeats 4000000
/-! PyV: turns of comprehensions and fors; texts of values; plain lists. -/
namespace Py
open PySem
/-! ### turns -/
section
variable {put : D → Option Vars} {test : Vars → Sto → Res (Bool × Sto)} {elt : Vars → Sto → Res (D × Sto)} {Z : Sto}
/-- a comprehension that changes nothing -/
theorem lc_pure (p : D → Bool) (g : D → D) : ∀ (xs acc : List D), (∀ x ∈ xs, ∃ η, put x = some η ∧ test η Z = .ok (p x, Z) ∧ (p x = true → elt η Z = .ok (g x, Z))) → acc.length + xs.length ≤ lineN →
    lcGo put test elt xs acc Z = .ok (.lst (acc ++ (xs.filter p).map g), Z)
  | [], acc, _, _ => by simp [lcGo]
  | x :: xs, acc, h, hl => by
    obtain ⟨η, h1, h2, h3⟩ := h x List.mem_cons_self
    have tl := fun y hy => h y (List.mem_cons_of_mem _ hy)
    simp only [List.length_cons] at hl
    unfold lcGo
    rw [h1]
    dsimp only
    rw [h2]
    simp only [nox_ok, r_ok]
    cases hp : p x with
    | false =>
      rw [if_neg Bool.false_ne_true, lc_pure p g xs acc tl (by omega), List.filter_cons_of_neg (by simp [hp])]
    | true =>
      rw [if_pos rfl, h3 hp]
      simp only [nox_ok, r_ok]
      rw [if_pos (by omega), lc_pure p g xs _ tl (by rw [List.length_append]; simp; omega), List.filter_cons_of_pos hp]
      simp
theorem lc_map (g : D → D) (xs : List D) (h : ∀ x ∈ xs, ∃ η, put x = some η ∧ test η Z = .ok (true, Z) ∧ elt η Z = .ok (g x, Z)) (hl : xs.length ≤ lineN) : lcGo put test elt xs [] Z = .ok (.lst (xs.map g), Z) := by
  have := lc_pure (put := put) (test := test) (elt := elt) (Z := Z) (fun _ => true) g xs [] (fun x hx => by obtain ⟨η, a, b, c⟩ := h x hx; exact ⟨η, a, b, fun _ => c⟩) (by simpa using hl)
  rw [this, List.filter_eq_self.mpr fun _ _ => rfl]
  rfl
/-- a comprehension that may change the store: what holds of the made ones and the store, turn by turn -/
theorem lc_inv (J : List D → List D → Sto → Prop) : ∀ (xs acc : List D) (Z : Sto), J xs acc Z → (∀ (x : D) (r acc : List D) (Z : Sto), J (x :: r) acc Z → ∃ η, put x = some η ∧ ∃ b Z1, test η Z = .ok (b, Z1) ∧ (b = false → J r acc Z1) ∧ (b = true → ∃ y Z2, elt η Z1 = .ok (y, Z2) ∧ J r (acc ++ [y]) Z2)) →
    acc.length + xs.length ≤ lineN → ∃ out Z', lcGo put test elt xs acc Z = .ok (.lst out, Z') ∧ J [] out Z'
  | [], acc, Z, j, _, _ => ⟨acc, Z, by simp [lcGo], j⟩
  | x :: xs, acc, Z, j, h, hl => by
    obtain ⟨η, h1, b, Z1, h2, h3, h4⟩ := h x xs acc Z j
    simp only [List.length_cons] at hl
    unfold lcGo
    rw [h1]
    dsimp only
    rw [h2]
    simp only [nox_ok, r_ok]
    cases b with
    | false =>
      rw [if_neg Bool.false_ne_true]
      exact lc_inv J xs acc Z1 (h3 rfl) h (by omega)
    | true =>
      obtain ⟨y, Z2, h5, h6⟩ := h4 rfl
      rw [if_pos rfl, h5]
      simp only [nox_ok, r_ok]
      rw [if_pos (by omega)]
      exact lc_inv J xs _ Z2 h6 h (by rw [List.length_append]; simp; omega)
end
section
variable {put : D → Vars → Option Vars} {body : Vars → Sto → Res (Flow × Vars × Sto)}
/-- a for that only tests, and leaves at the first that fails -/
theorem for_test {Z : Sto} (I : Vars → Prop) (q : D → Bool) (r : D) : ∀ (xs : List D) (η : Vars), I η → (∀ x ∈ xs, ∀ η, I η → ∃ η1 η2, put x η = some η1 ∧ I η2 ∧ body η1 Z = .ok (if q x then .next else .ret r, η2, Z)) →
    ∃ η', I η' ∧ forGo put body xs η Z = .ok (if xs.all q then .next else .ret r, η', Z)
  | [], η, i, _ => ⟨η, i, by simp [forGo]⟩
  | x :: xs, η, i, h => by
    obtain ⟨η1, η2, h1, i2, h3⟩ := h x List.mem_cons_self η i
    unfold forGo
    rw [h1]
    dsimp only
    rw [h3]
    cases hq : q x with
    | false => exact ⟨η2, i2, by simp [hq]⟩
    | true =>
      obtain ⟨η', i', e⟩ := for_test I q r xs η2 i2 fun y hy => h y (List.mem_cons_of_mem _ hy)
      exact ⟨η', i', by simp [hq, e]⟩
/-- a for that goes on to its end -/
theorem for_inv (J : List D → Vars → Sto → Prop) : ∀ (xs : List D) (η : Vars) (Z : Sto), J xs η Z → (∀ (x : D) (r : List D) (η : Vars) (Z : Sto), J (x :: r) η Z → ∃ η1, put x η = some η1 ∧ ∃ η2 Z2, body η1 Z = .ok (.next, η2, Z2) ∧ J r η2 Z2) →
    ∃ η' Z', forGo put body xs η Z = .ok (.next, η', Z') ∧ J [] η' Z'
  | [], η, Z, j, _ => ⟨η, Z, by simp [forGo], j⟩
  | x :: xs, η, Z, j, h => by
    obtain ⟨η1, h1, η2, Z2, h2, j2⟩ := h x xs η Z j
    obtain ⟨η', Z', e, j'⟩ := for_inv J xs η2 Z2 j2 h
    refine ⟨η', Z', ?_, j'⟩
    unfold forGo
    rw [h1]
    dsimp only
    rw [h2]
    exact e
end
theorem for_step {put : D → Vars → Option Vars} {body : Vars → Sto → Res (Flow × Vars × Sto)} {x : D} {xs : List D} {η η1 η2 : Vars} {Z Z2 : Sto} (h1 : put x η = some η1) (h2 : body η1 Z = .ok (.next, η2, Z2)) : forGo put body (x :: xs) η Z = forGo put body xs η2 Z2 := by
  conv => lhs; unfold forGo
  rw [h1]
  dsimp only
  rw [h2]
/-! ### what is told of flat values -/
@[simp] theorem bools_map (bs : List Bool) : boolsD (bs.map .bl) = some bs := by
  induction bs with
  | nil => rfl
  | cons b bs ih => simp [boolsD, ih]
@[simp] theorem ints_map (bs : List Int) : intsD (bs.map .int) = some bs := by
  induction bs with
  | nil => rfl
  | cons b bs ih => simp [intsD, ih]
@[simp] theorem strs_map (bs : List Str) : strsD (bs.map .str) = some bs := by
  induction bs with
  | nil => rfl
  | cons b bs ih => simp [strsD, ih]
theorem all_bls (bs : List Bool) : allD (.lst (bs.map .bl)) = some (.bl (bs.all id)) := by
  show (boolsD (bs.map .bl)).map _ = _
  rw [bools_map]
  rfl
theorem bools_of (xs : List D) (f : D → Bool) : boolsD (xs.map fun x => .bl (f x)) = some (xs.map f) := by
  have := bools_map (xs.map f)
  rw [List.map_map] at this
  exact this
theorem all_of (xs : List D) (f : D → Bool) : allD (.lst (xs.map fun x => .bl (f x))) = some (.bl (xs.all f)) := by
  have := all_bls (xs.map f)
  rw [List.map_map, List.all_map] at this
  exact this
theorem all_of' {α : Type} (xs : List α) (f : α → Bool) : allD (.lst (xs.map fun x => .bl (f x))) = some (.bl (xs.all f)) := by
  have := all_bls (xs.map f)
  rw [List.map_map, List.all_map] at this
  exact this
@[simp] theorem eqD_int (i j : Int) : eqD (.int i) (.int j) = some (decide (i = j)) := by
  simp [eqD, D.py, SeqAt.shaped, PyData.canLay0, PyData.depth, PyData.eqv]
  rfl
@[simp] theorem eqD_bl (i j : Bool) : eqD (.bl i) (.bl j) = some (decide (i = j)) := by cases i <;> cases j <;> rfl
theorem eqD_str {x y : Str} (hx : PyData.strOk x = true) (hy : PyData.strOk y = true) : eqD (.str x) (.str y) = some (decide (x = y)) := by
  simp [eqD, D.py, SeqAt.shaped, PyData.canLay0, PyData.depth, PyData.eqv, hx, hy]
  exact Bool.beq_eq_decide_eq x y
mutual
def pl : D → Bool
  | .non | .bl _ | .int _ => true
  | .str x => decide (x.length ≤ 1000) && PyData.strOk x
  | .tup xs => plL xs
  | .lst xs => plL xs
  | _ => false
def plL : List D → Bool
  | [] => true
  | x :: xs => pl x && plL xs
end
theorem plL_all : ∀ {xs : List D}, plL xs = true ↔ ∀ x ∈ xs, pl x = true
  | [] => by simp [plL]
  | x :: xs => by simp [plL, plL_all]
theorem plL_app {a b : List D} : plL (a ++ b) = (plL a && plL b) := by
  induction a with
  | nil => simp [plL]
  | cons x a ih => simp [plL, ih, Bool.and_assoc]
theorem plL_sub {a b : List D} (h : plL b = true) (s : ∀ x ∈ a, x ∈ b) : plL a = true := plL_all.mpr fun x hx => plL_all.mp h x (s x hx)
theorem plL_slice {a : List D} (h : plL a = true) (i j : Option Int) : plL (sliceL a i j) = true := plL_sub h fun x hx => List.mem_of_mem_drop (List.mem_of_mem_take hx)
theorem plL_rev {a : List D} (h : plL a = true) : plL a.reverse = true := plL_sub h fun x hx => List.mem_reverse.mp hx
theorem slice_len {α : Type} (a : List α) (i j : Option Int) : (sliceL a i j).length ≤ a.length := by
  unfold sliceL
  rw [List.length_take, List.length_drop]
  omega
theorem pl_ty {d : D} (h : pl d = true) : (tyD d).isSome = true := by
  cases d <;> simp_all [pl, tyD]
/-! ### texts of values -/
theorem strOk_app (a b : Str) : PyData.strOk (a ++ b) = (PyData.strOk a && PyData.strOk b) := by
  show (a.cps ++ b.cps).all _ = _
  rw [Array.all_append]
  rfl
theorem strOk_join : ∀ ts : List Str, (∀ t ∈ ts, PyData.strOk t = true) → PyData.strOk (Str.join ", " ts) = true
  | [], _ => by decide +kernel
  | [x], h => h x List.mem_cons_self
  | x :: y :: r, h => by
    show PyData.strOk (x ++ (", " : String) ++ Str.join ", " (y :: r)) = true
    rw [strOk_app, strOk_app, h x List.mem_cons_self, strOk_join (y :: r) fun z hz => h z (List.mem_cons_of_mem _ hz)]
    decide +kernel
/-- it is shown, by at most n signs, and equal to itself -/
structure Sh (d : D) (n k : Nat) : Prop where
  ex : ∃ p, d.py = some p ∧ p.showable = true ∧ p.shown.length ≤ n ∧ p.depth ≤ k ∧ p.canLay0 = true ∧ PyData.strOk p.shown = true
theorem Sh.mono {d : D} {n k n' k' : Nat} (s : Sh d n k) (h : n ≤ n') (h2 : k ≤ k') : Sh d n' k' := by
  obtain ⟨p, a, b, c, e, f⟩ := s.ex
  exact ⟨p, a, b, by omega, by omega, f⟩
theorem sh_bl (b : Bool) : Sh (.bl b) 5 0 := ⟨.bool b, rfl, rfl, by cases b <;> decide, Nat.le_refl _, rfl, by cases b <;> decide +kernel⟩
theorem sh_non : Sh .non 4 0 := ⟨.none, rfl, rfl, by decide, Nat.le_refl _, rfl, by decide +kernel⟩
theorem sh_str {x : Str} {n : Nat} (h : (reprText x).length ≤ n) (h2 : PyData.strOk x = true) (h3 : PyData.strOk (reprText x) = true) : Sh (.str x) n 0 := ⟨.str x, rfl, rfl, h, Nat.le_refl _, h2, h3⟩
theorem sh_int {i : Int} {n : Nat} (h : (toString i : Str).length ≤ n) (h2 : i.natAbs.log2 < 1920) (h3 : PyData.strOk (toString i : Str) = true) : Sh (.int i) n 0 := ⟨.int i, rfl, decide_eq_true h2, h, Nat.le_refl _, rfl, h3⟩
theorem sh_all {n k : Nat} : ∀ {xs : List D}, (∀ x ∈ xs, Sh x n k) → ∃ ps, pyAll xs = some ps ∧ PyData.showableAll ps = true ∧ (∀ t ∈ PyData.shownAll ps, t.length ≤ n ∧ PyData.strOk t = true) ∧ ps.length = xs.length ∧ PyData.depthAll ps ≤ k ∧ PyData.canLayAll0 ps = true
  | [], _ => ⟨[], rfl, rfl, (fun _ h => nomatch h), rfl, Nat.zero_le _, rfl⟩
  | x :: xs, h => by
    obtain ⟨p, a, b, c, e, f, g⟩ := (h x List.mem_cons_self).ex
    obtain ⟨ps, a2, b2, c2, l2, e2, f2⟩ := sh_all (xs := xs) fun y hy => h y (List.mem_cons_of_mem _ hy)
    refine ⟨p :: ps, by simp [pyAll, a, a2], by simp [PyData.showableAll, b, b2], fun t ht => ?_, by simp [l2], by simp [PyData.depthAll]; omega, by simp [PyData.canLayAll0, f, f2]⟩
    simp only [PyData.shownAll, List.mem_cons] at ht
    rcases ht with rfl | ht
    · exact ⟨c, g⟩
    · exact c2 t ht
theorem shownAll_len : ∀ ps : List PyData, (PyData.shownAll ps).length = ps.length
  | [] => rfl
  | p :: ps => by simp [PyData.shownAll, shownAll_len ps]
theorem piled_le {n : Nat} : ∀ {ts : List Str}, (∀ t ∈ ts, t.length ≤ n) → piled ts ≤ ts.length * (n + 2)
  | [], _ => Nat.zero_le _
  | t :: ts, h => by
    have h1 := h t List.mem_cons_self
    have h2 := piled_le (ts := ts) fun y hy => h y (List.mem_cons_of_mem _ hy)
    simp only [piled, List.map_cons, List.sum_cons, List.length_cons, Nat.add_mul, Nat.one_mul] at h2 ⊢
    omega
theorem sh_tup {xs : List D} {n k : Nat} (h : ∀ x ∈ xs, Sh x n k) : Sh (.tup xs) (xs.length * (n + 2) + 3) (k + 1) := by
  obtain ⟨ps, a, b, c, l, e, f⟩ := sh_all h
  refine ⟨.tuple ps, by simp [D.py, a], by simp [PyData.showable, b], ?_, by simp [PyData.depth, e], by simp [PyData.canLay0, f], ?_⟩
  · show (tupleText (PyData.shownAll ps)).length ≤ _
    have q := piled_le fun t ht => (c t ht).1
    rw [shownAll_len, l] at q
    unfold tupleText
    rw [strLen_append, strLen_append]
    have e1 : ((if (PyData.shownAll ps).length == 1 then ",)" else ")" : String) : Str).length ≤ 2 := by split <;> decide
    have e2 : (("(" : String) : Str).length = 1 := rfl
    by_cases z : PyData.shownAll ps = []
    · rw [z] at e1 ⊢
      have e3 : (Str.join ", " ([] : List Str)).length = 0 := rfl
      omega
    · have e3 := join_length_add _ z
      omega
  · show PyData.strOk (tupleText (PyData.shownAll ps)) = true
    unfold tupleText
    rw [strOk_app, strOk_app, strOk_join _ fun t ht => (c t ht).2]
    have e1 : PyData.strOk ((if (PyData.shownAll ps).length == 1 then ",)" else ")" : String) : Str) = true := by split <;> decide +kernel
    rw [e1]
    decide +kernel
/-- told of one's own: agree d d -/
theorem sh_repr {d : D} {n k : Nat} (s : Sh d n k) (hn : n ≤ lineN) (hk : k ≤ 60) : ∃ x : Str, reprD d = some (.str x) ∧ PyData.strOk x = true ∧ eqD d d = some true := by
  obtain ⟨p, a, b, c, e, f, g⟩ := s.ex
  refine ⟨p.shown, ?_, g, ?_⟩
  · unfold reprD
    rw [a]
    have : (p.showable && decide (p.shown.length ≤ lineN) && decide (p.depth ≤ 60)) = true := by
      rw [b, decide_eq_true (Nat.le_trans c hn), decide_eq_true (Nat.le_trans e hk)]; rfl
    simp only [Option.bind_some, this, if_true]
  · unfold eqD
    rw [a]
    have : SeqAt.shaped p = true := by
      unfold SeqAt.shaped
      rw [f, decide_eq_true (by omega)]
      rfl
    simp only [this, Bool.and_self, if_true, SeqAt.eqv_refl p f]
/-! ### slices -/
theorem slice_tail {α : Type} (xs : List α) : sliceL xs (some 1) none = xs.drop 1 := by
  cases xs with
  | nil => simp [sliceL]
  | cons x xs => simp [sliceL, HT.sIx]
end Py
end
section
set_option Elab.async false
set_option linter.all false
set_option maxRecDepth 100000
set_option maxHeartbeats 4000000
/-! K01T: the tables. -/
namespace K01
open PySem Py
def T : Tab where
  cal := true
  fns := [⟨"_law_tin", ["script", "side"], [(2, [], [])], false⟩,
    ⟨"_law_dip", ["tin", "many"], [(2, [], [])], false⟩,
    ⟨"_law_which", ["tin", "things"], [(2, [], [])], false⟩,
    ⟨"_law_agree", ["told", "due"], [(2, [], [])], false⟩,
    ⟨"_law_thing", ["tin", "deep"], [(2, [], [])], false⟩,
    ⟨"_law_plainly", ["value"], [(1, [], [])], false⟩,
    ⟨"_law_by_word", ["value"], [(1, [], [])], false⟩,
    ⟨"_law_under", ["e"], [(1, [], [])], false⟩,
    ⟨"_law_kept", ["value", "which"], [(2, [], [])], false⟩,
    ⟨"_law_is_so", ["tin"], [(1, [], [])], false⟩,
    ⟨"law", ["script"], [(1, [], [])], false⟩]
  consts := []
  free := ["len", "abs", "int", "repr", "all", "tuple", "isinstance", "range", "enumerate"]
  exs := [("InvalidPrime", "given"), ("InvalidRow", "given"), ("InvalidWorld", "given"), ("InvalidNumber", "given"), ("InvalidNumbers", "given"), ("InvalidName", "given"), ("InvalidNames", "given"), ("InvalidDeed", "given"), ("InvalidBook", "given"), ("InvalidSaying", "given"), ("InvalidText", "given"), ("InvalidLine", "given"), ("DoesNotFit", "given"), ("InvalidDeeds", "index"), ("InvalidRows", "index")]
  hds := [("InvalidRow", [1]), ("InvalidRows", [14]), ("InvalidNumber", [3]), ("SpanError", [0, 1, 2, 3, 4, 5, 6, 7, 8, 9, 10, 11, 12, 13, 14]), ("InvalidPrime", [0]), ("InvalidWorld", [2]), ("InvalidNumbers", [4]), ("InvalidName", [5]), ("InvalidNames", [6]), ("InvalidDeed", [7]), ("InvalidBook", [8]), ("InvalidSaying", [9]), ("InvalidText", [10]), ("InvalidLine", [11]), ("DoesNotFit", [12]), ("InvalidDeeds", [13]), ("LookupError", []), ("ArithmeticError", []), ("ValueError", [0, 1, 2, 3, 4, 5, 6, 7, 8, 9, 10, 11, 12, 13, 14])]
def nI (k : Nat) : FnInfo := T.fns.getD k ⟨"", [], [], false⟩
/-- _law_tin -/
def b0 : Sms := (.cons (.asg (.name 2) (.ite (.e (.cmp .lt (.t 1) (.e (.blt .len (.cons (.t 0) .nil))))) (.blt .int_ (.cons (.e (.idx (.t 0) (.fname 1))) .nil)) (.bin .sub (.e (.const (.int 644))) (.e (.bin .mul (.e (.const (.int 29))) (.t 1)))))) (.cons (.asg (.name 3) (.bin .add (.e (.const (.int 40029))) (.t 1))) (.cons (.for_ (.name 4) (.seq (.bin .add (.e (.lst (.cons (.fname 2) .nil))) (.e (.slice (.t 0) .none (.some (.const (.int 8))))))) (.cons (.asg (.name 3) (.bin .mod (.e (.blt .int_ (.cons (.e (.bin .add (.e (.bin .add (.e (.bin .mul (.t 3) (.e (.const (.int 16807))))) (.e (.bin .mod (.e (.blt .int_ (.cons (.t 4) .nil))) (.e (.const (.int 99991))))))) (.e (.const (.int 7))))) .nil))) (.e (.const (.int 2147483647))))) .nil)) (.cons (.ret (.newS [(.inr "far"), (.inr "wheel")] (.cons (.ite (.tor (.e (.cmp .lt (.t 2) (.e (.const (.int 0))))) (.e (.cmp .ge (.t 2) (.e (.bin .pow (.e (.const (.int 10))) (.e (.const (.int 15)))))))) (.bin .mod (.e (.blt .int_ (.cons (.e (.blt .abs (.cons (.t 2) .nil))) .nil))) (.e (.bin .pow (.e (.const (.int 10))) (.e (.const (.int 60)))))) (.const (.int 0))) (.cons (.fname 3) .nil)))) .nil))))
abbrev x__law_tin : Nat := 0
/-- _law_dip -/
def b1 : Sms := (.cons (.ite (.e (.cmp .gt (.e (.idx (.t 0) (.const (.str "far")))) (.e (.const (.int 0))))) (.cons (.asg (.name 2) (.bin .mod (.e (.idx (.t 0) (.const (.str "far")))) (.t 1))) (.cons (.sset (.fname 0) (.const (.str "far")) (.bin .fdiv (.e (.idx (.t 0) (.const (.str "far")))) (.t 1))) (.cons (.ret (.blt .int_ (.cons (.t 2) .nil))) .nil))) .nil) (.cons (.sset (.fname 0) (.const (.str "wheel")) (.bin .mod (.e (.blt .int_ (.cons (.e (.bin .add (.e (.bin .mul (.e (.idx (.t 0) (.const (.str "wheel")))) (.e (.const (.int 16807))))) (.e (.const (.int 11))))) .nil))) (.e (.const (.int 2147483647))))) (.cons (.ret (.bin .mod (.e (.blt .int_ (.cons (.e (.bin .fdiv (.e (.idx (.t 0) (.const (.str "wheel")))) (.e (.const (.int 512))))) .nil))) (.t 1))) .nil)))
abbrev x__law_dip : Nat := 1
/-- _law_which -/
def b2 : Sms := (.cons (.ret (.idx (.t 1) (.call 1 (.cons (.fname 0) (.cons (.blt .len (.cons (.t 1) .nil)) .nil)) .nil []))) .nil)
abbrev x__law_which : Nat := 2
/-- _law_agree -/
def b3 : Sms := (.cons (.ret (.and (.cmp .eq (.e (.blt .repr (.cons (.t 0) .nil))) (.e (.blt .repr (.cons (.t 1) .nil)))) (.cmp .eq (.t 0) (.t 1)))) .nil)
abbrev x__law_agree : Nat := 3
/-- _law_thing -/
def b4 : Sms := (.cons (.asg (.name 2) (.call 1 (.cons (.fname 0) (.cons (.ite (.e (.cmp .gt (.t 1) (.e (.const (.int 0))))) (.const (.int 8)) (.const (.int 5))) .nil)) .nil [])) (.cons (.ite (.e (.cmp .lt (.t 2) (.e (.const (.int 2))))) (.cons (.ret (.bin .mul (.e (.bin .sub (.e (.call 1 (.cons (.fname 0) (.cons (.const (.int 400)) .nil)) .nil [])) (.e (.const (.int 200))))) (.e (.ite (.e (.cmp .eq (.t 2) (.e (.const (.int 1))))) (.bin .pow (.e (.const (.int 10))) (.e (.const (.int 20)))) (.const (.int 1)))))) .nil) .nil) (.cons (.ite (.e (.cmp .eq (.t 2) (.e (.const (.int 2))))) (.cons (.ret (.call 2 (.cons (.fname 0) (.cons (.tup (.cons (.const .non) (.cons (.const (.bl false)) (.cons (.const (.bl true)) .nil)))) .nil)) .nil [])) .nil) .nil) (.cons (.ite (.e (.cmp .lt (.t 2) (.e (.const (.int 5))))) (.cons (.ret (.ite (.e (.cmp .eq (.t 2) (.e (.const (.int 3))))) (.meth .join (.e (.const (.str ""))) (.cons (.e (.lc [5] (.call 2 (.cons (.fname 0) (.cons (.const (.str "ab +=;0")) .nil)) .nil []) (.name 5) (.range1 (.call 1 (.cons (.fname 0) (.cons (.const (.int 6)) .nil)) .nil [])) .none)) .nil)) (.tup .nil))) .nil) .nil) (.cons (.asg (.name 3) (.lc [4] (.call 4 (.cons (.fname 0) (.cons (.bin .sub (.t 1) (.e (.const (.int 1)))) .nil)) .nil []) (.name 4) (.range1 (.call 1 (.cons (.fname 0) (.cons (.const (.int 4)) .nil)) .nil [])) .none)) (.cons (.ret (.ite (.e (.cmp .lt (.t 2) (.e (.const (.int 7))))) (.blt .tuple (.cons (.t 3) .nil)) (.fname 3))) .nil))))))
abbrev x__law_thing : Nat := 4
/-- _law_plainly -/
def b5 : Sms := (.cons (.asg (.name 1) (.lst .nil)) (.cons (.asg (.name 1) (.bin .add (.t 1) (.e (.lst (.cons (.mkx 0 (.fname 0)) (.cons (.mkx 1 (.fname 0)) (.cons (.mkx 2 (.fname 0)) (.cons (.mkx 3 (.fname 0)) (.cons (.mkx 4 (.fname 0)) .nil))))))))) (.cons (.asg (.name 1) (.bin .add (.t 1) (.e (.lst (.cons (.mkx 5 (.fname 0)) (.cons (.mkx 6 (.fname 0)) (.cons (.mkx 7 (.fname 0)) (.cons (.mkx 8 (.fname 0)) (.cons (.mkx 9 (.fname 0)) .nil))))))))) (.cons (.asg (.name 1) (.bin .add (.t 1) (.e (.lst (.cons (.mkx 10 (.fname 0)) (.cons (.mkx 11 (.fname 0)) (.cons (.mkx 12 (.fname 0)) (.cons (.mkx 13 (.fname 0)) (.cons (.mkx 14 (.fname 0)) .nil))))))))) (.cons (.ret (.fname 1)) .nil)))))
abbrev x__law_plainly : Nat := 5
/-- _law_by_word -/
def b6 : Sms := (.cons (.asg (.name 1) (.lst .nil)) (.cons (.asg (.name 1) (.bin .add (.t 1) (.e (.lst (.cons (.mkx 0 (.fname 0)) (.cons (.mkx 1 (.fname 0)) (.cons (.mkx 2 (.fname 0)) (.cons (.mkx 3 (.fname 0)) (.cons (.mkx 4 (.fname 0)) .nil))))))))) (.cons (.asg (.name 1) (.bin .add (.t 1) (.e (.lst (.cons (.mkx 5 (.fname 0)) (.cons (.mkx 6 (.fname 0)) (.cons (.mkx 7 (.fname 0)) (.cons (.mkx 8 (.fname 0)) (.cons (.mkx 9 (.fname 0)) .nil))))))))) (.cons (.asg (.name 1) (.bin .add (.t 1) (.e (.lst (.cons (.mkx 10 (.fname 0)) (.cons (.mkx 11 (.fname 0)) (.cons (.mkx 12 (.fname 0)) (.cons (.mkx 13 (.fname 0)) (.cons (.mkx 14 (.fname 0)) .nil))))))))) (.cons (.ret (.fname 1)) .nil)))))
abbrev x__law_by_word : Nat := 6
/-- _law_under -/
def b7 : Sms := (.cons (.asg (.name 1) (.lst .nil)) (.cons (.asg (.name 1) (.bin .add (.t 1) (.e (.lst (.cons (.isx (.t 0) [0]) (.cons (.isx (.t 0) [1]) (.cons (.isx (.t 0) [2]) (.cons (.isx (.t 0) [3]) (.cons (.isx (.t 0) [4]) .nil))))))))) (.cons (.asg (.name 1) (.bin .add (.t 1) (.e (.lst (.cons (.isx (.t 0) [5]) (.cons (.isx (.t 0) [6]) (.cons (.isx (.t 0) [7]) (.cons (.isx (.t 0) [8]) (.cons (.isx (.t 0) [9]) .nil))))))))) (.cons (.asg (.name 1) (.bin .add (.t 1) (.e (.lst (.cons (.isx (.t 0) [10]) (.cons (.isx (.t 0) [11]) (.cons (.isx (.t 0) [12]) (.cons (.isx (.t 0) [13]) (.cons (.isx (.t 0) [14]) .nil))))))))) (.cons (.ret (.fname 1)) .nil)))))
abbrev x__law_under : Nat := 7
/-- _law_kept -/
def b8 : Sms := (.cons (.tryM (.cons (.ite (.e (.cmp .eq (.t 1) (.e (.const (.int 0))))) (.cons (.raise 14 (.fname 0)) .nil) .nil) (.cons (.ite (.e (.cmp .eq (.t 1) (.e (.const (.int 1))))) (.cons (.raise 1 (.fname 0)) .nil) .nil) (.cons (.ite (.e (.cmp .eq (.t 1) (.e (.const (.int 2))))) (.cons (.raise 5 (.fname 0)) .nil) .nil) (.cons (.raise 6 (.fname 0)) .nil)))) (.cons [1] (some 2) (.cons (.ret (.ite (.e (.cmp .eq (.t 1) (.e (.const (.int 1))))) (.lst (.cons (.exf 2 [0, 1, 2, 3, 4, 5, 6, 7, 8, 9, 10, 11, 12]) .nil)) (.lst .nil))) .nil) (.cons [14] (some 2) (.cons (.ret (.ite (.e (.cmp .eq (.t 1) (.e (.const (.int 0))))) (.lst (.cons (.exf 2 [13, 14]) .nil)) (.lst .nil))) .nil) (.cons [3] none (.cons (.ret (.lst .nil)) .nil) (.cons [0, 1, 2, 3, 4, 5, 6, 7, 8, 9, 10, 11, 12, 13, 14] (some 2) (.cons (.ret (.ite (.e (.cmp .gt (.t 1) (.e (.const (.int 1))))) (.lst (.cons (.exf 2 [0, 1, 2, 3, 4, 5, 6, 7, 8, 9, 10, 11, 12]) .nil)) (.lst .nil))) .nil) .nil))))) .nil)
abbrev x__law_kept : Nat := 8
/-- _law_is_so -/
def b9 : Sms := (.cons (.for_ (.name 1) (.range1 (.const (.int 3))) (.cons (.asg (.name 2) (.call 4 (.cons (.fname 0) (.cons (.const (.int 2)) .nil)) .nil [])) (.cons (.for_ (.name 3) (.seq (.tup (.cons (.call 5 (.cons (.fname 2) .nil) .nil []) (.cons (.call 6 (.cons (.fname 2) .nil) .nil []) .nil)))) (.cons (.for_ (.tup [(.name 4), (.name 5)]) (.enum (.fname 3) 0) (.cons (.ite (.tor (.e (.cmp .ne (.e (.call 7 (.cons (.fname 5) .nil) .nil [])) (.e (.lc [7] (.cmp .eq (.t 7) (.t 4)) (.name 7) (.range1 (.blt .len (.cons (.t 3) .nil))) .none)))) (.tor (.tnot (.e (.isx (.t 5) [0, 1, 2, 3, 4, 5, 6, 7, 8, 9, 10, 11, 12, 13, 14]))) (.tnot (.e (.isx (.t 5) [0, 1, 2, 3, 4, 5, 6, 7, 8, 9, 10, 11, 12, 13, 14]))))) (.cons (.ret (.const (.bl false))) .nil) .nil) (.cons (.ite (.tor (.e (.isx (.t 5) [])) (.e (.isx (.t 5) []))) (.cons (.ret (.const (.bl false))) .nil) .nil) (.cons (.ite (.tnot (.e (.call 3 (.cons (.ite (.e (.cmp .gt (.t 4) (.e (.bin .sub (.e (.blt .len (.cons (.t 3) .nil))) (.e (.const (.int 3))))))) (.att (.fname 5) [13, 14]) (.att (.fname 5) [0, 1, 2, 3, 4, 5, 6, 7, 8, 9, 10, 11, 12])) (.cons (.fname 2) .nil)) .nil []))) (.cons (.ret (.const (.bl false))) .nil) .nil) .nil)))) .nil)) (.cons (.ite (.tnot (.e (.blt .all (.cons (.e (.lc [6] (.call 3 (.cons (.call 8 (.cons (.fname 2) (.cons (.fname 6) .nil)) .nil []) (.cons (.lst (.cons (.fname 2) .nil)) .nil)) .nil []) (.name 6) (.range1 (.const (.int 4))) .none)) .nil)))) (.cons (.ret (.const (.bl false))) .nil) .nil) .nil)))) (.cons (.ret (.const (.bl true))) .nil))
abbrev x__law_is_so : Nat := 9
/-- law -/
def b10 : Sms := (.cons (.ret (.blt .all (.cons (.e (.lc [1] (.call 9 (.cons (.call 0 (.cons (.fname 0) (.cons (.fname 1) .nil)) .nil []) .nil) .nil []) (.name 1) (.seq (.tup (.cons (.const (.int 0)) (.cons (.const (.int 1)) .nil)))) .none)) .nil))) .nil)
abbrev x_law : Nat := 10
def tab : List Fn := [⟨2, 5, b0⟩, ⟨2, 3, b1⟩, ⟨2, 2, b2⟩, ⟨2, 2, b3⟩, ⟨2, 6, b4⟩, ⟨1, 2, b5⟩, ⟨1, 2, b6⟩, ⟨1, 2, b7⟩, ⟨2, 3, b8⟩, ⟨1, 8, b9⟩, ⟨1, 2, b10⟩]
theorem t__law_tin : tab[x__law_tin]? = some ⟨2, 5, b0⟩ := rfl
abbrev b__law_tin : Sms := b0
theorem t__law_dip : tab[x__law_dip]? = some ⟨2, 3, b1⟩ := rfl
abbrev b__law_dip : Sms := b1
theorem t__law_which : tab[x__law_which]? = some ⟨2, 2, b2⟩ := rfl
abbrev b__law_which : Sms := b2
theorem t__law_agree : tab[x__law_agree]? = some ⟨2, 2, b3⟩ := rfl
abbrev b__law_agree : Sms := b3
theorem t__law_thing : tab[x__law_thing]? = some ⟨2, 6, b4⟩ := rfl
abbrev b__law_thing : Sms := b4
theorem t__law_plainly : tab[x__law_plainly]? = some ⟨1, 2, b5⟩ := rfl
abbrev b__law_plainly : Sms := b5
theorem t__law_by_word : tab[x__law_by_word]? = some ⟨1, 2, b6⟩ := rfl
abbrev b__law_by_word : Sms := b6
theorem t__law_under : tab[x__law_under]? = some ⟨1, 2, b7⟩ := rfl
abbrev b__law_under : Sms := b7
theorem t__law_kept : tab[x__law_kept]? = some ⟨2, 3, b8⟩ := rfl
abbrev b__law_kept : Sms := b8
theorem t__law_is_so : tab[x__law_is_so]? = some ⟨1, 8, b9⟩ := rfl
abbrev b__law_is_so : Sms := b9
theorem t_law : tab[x_law]? = some ⟨1, 2, b10⟩ := rfl
abbrev b_law : Sms := b10
end K01
end
section
set_option Elab.async false
set_option linter.all false
set_option maxRecDepth 100000
set_option maxHeartbeats 4000000
/-! K01A: draws. -/
namespace K01
open PySem Py
def far : Str := "far"
def wheel : Str := "wheel"
def tinC (f w : Int) : Cell := .dct [(.inr far, .int f), (.inr wheel, .int w)]
/-- the draws' box at k -/
def Tin (S : List Cell) (k : Nat) : Prop := ∃ f w, S[k]? = some (tinC f w) ∧ 0 ≤ f
theorem lk_far (a b : D) : lookK [(.inr far, a), (.inr wheel, b)] (.inr far) = some a := by
  unfold lookK
  rw [List.find?_cons_of_pos (by simp)]
  rfl
theorem ne_fw : ¬ ((Sum.inr far : L2.Key) = Sum.inr wheel) := by decide +kernel
theorem lk_wheel (a b : D) : lookK [(.inr far, a), (.inr wheel, b)] (.inr wheel) = some b := by
  unfold lookK
  rw [List.find?_cons_of_neg (by simpa using ne_fw), List.find?_cons_of_pos (by simp)]
  rfl
theorem pt_far (f w : Int) (x : Int) : putCell (tinC f w) (.str (Str.ofString "far")) (.int x) = some (tinC x w) := by
  have : putD [(.inr far, .int f), (.inr wheel, .int w)] (.inr far) (.int x) = [(.inr far, .int x), (.inr wheel, .int w)] := by
    simp [putD, Ne.symm ne_fw]
  show (if 2 < lineN then some (Cell.dct (putD _ _ _)) else none) = _
  rw [if_pos (by decide)]
  exact congrArg (fun z => some (Cell.dct z)) this
theorem pt_wheel (f w : Int) (x : Int) : putCell (tinC f w) (.str (Str.ofString "wheel")) (.int x) = some (tinC f x) := by
  have : putD [(.inr far, .int f), (.inr wheel, .int w)] (.inr wheel) (.int x) = [(.inr far, .int f), (.inr wheel, .int x)] := by
    simp [putD, ne_fw]
    exact fun h => absurd h (by simpa using ne_fw)
  show (if 2 < lineN then some (Cell.dct (putD _ _ _)) else none) = _
  rw [if_pos (by decide)]
  exact congrArg (fun z => some (Cell.dct z)) this
theorem ix_far (f w : Int) : idxD (tinC f w).see (.str (Str.ofString "far")) = some (.int f) := lk_far (.int f) (.int w)
theorem ix_wheel (f w : Int) : idxD (tinC f w).see (.str (Str.ofString "wheel")) = some (.int w) := lk_wheel (.int f) (.int w)
theorem Tin.lt {S : List Cell} {k : Nat} (h : Tin S k) : k < S.length := by
  obtain ⟨f, w, e, _⟩ := h
  exact (List.getElem?_eq_some_iff.mp e).1
theorem set_get {S : List Cell} {k : Nat} (h : k < S.length) (c : Cell) : (S.set k c)[k]? = some c := by simp [h]
theorem dip_ok (m k : Nat) (n : Int) (S : List Cell) (h : Tin S k) (hn : 0 < n) (hb : n < 1000) : ∃ r S', callN tab (m + 1) x__law_dip [.loc k, .int n] S = .ok (.int r, S') ∧ 0 ≤ r ∧ r < n ∧ Tin S' k := by
  have lt := h.lt
  obtain ⟨f, w, e, hf⟩ := h
  rw [call_def t__law_dip _ _ _ rfl]
  by_cases c : 0 < f
  · refine ⟨f % n, S.set k (tinC (f / n) w), ?_, Int.emod_nonneg _ (by omega), Int.emod_lt_of_pos _ hn, ⟨f / n, w, set_get lt _, Int.ediv_nonneg hf (by omega)⟩⟩
    have b2 : n < 1073741824 := by omega
    simp [b__law_dip, b1, xs_cons, e, ix_far, c, hn, b2, storeS_ok (Z := ⟨S, []⟩) e (pt_far f w _)]
  · refine ⟨(w * 16807 + 11) % 2147483647 / 512 % n, S.set k (tinC f ((w * 16807 + 11) % 2147483647)), ?_, Int.emod_nonneg _ (by omega), Int.emod_lt_of_pos _ hn, ⟨f, _, set_get lt _, hf⟩⟩
    have g := set_get lt (tinC f ((w * 16807 + 11) % 2147483647))
    clear lt
    simp [b__law_dip, b1, xs_cons, e, ix_far, ix_wheel, c, hn, storeS_ok (Z := ⟨S, []⟩) e (pt_wheel f w _), -List.getElem?_set_self, g]
theorem which_ok (m k : Nat) (xs : List D) (S : List Cell) (h : Tin S k) (h0 : xs ≠ []) (hl : xs.length < 1000) : ∃ x S', callN tab (m + 2) x__law_which [.loc k, .tup xs] S = .ok (x, S') ∧ x ∈ xs ∧ Tin S' k := by
  have lp : 0 < xs.length := by
    cases xs with
    | nil => exact absurd rfl h0
    | cons a r => simp
  obtain ⟨r, S', e, r0, r1, t⟩ := dip_ok m k xs.length S h (by omega) (by omega)
  have e2 : ∃ x, L2.atI xs r = some x ∧ x ∈ xs := by
    have hr : r.toNat < xs.length := by omega
    refine ⟨xs[r.toNat], ?_, List.getElem_mem hr⟩
    unfold L2.atI L2.ixN
    rw [if_pos r0, if_pos r1, Option.bind_some]
    exact List.getElem?_eq_getElem hr
  obtain ⟨x, e2, hx⟩ := e2
  refine ⟨x, S', ?_, hx, t⟩
  rw [call_def t__law_which _ _ _ rfl]
  simp [b__law_which, b2, e, e2]
theorem agree_ok (m : Nat) (d : D) (S : List Cell) {n k : Nat} (s : Sh d n k) (hn : n ≤ lineN) (hk : k ≤ 60) : callN tab (m + 1) x__law_agree [d, d] S = .ok (.bl true, S) := by
  obtain ⟨x, e1, e2, e3⟩ := sh_repr s hn hk
  rw [call_def t__law_agree _ _ _ rfl]
  have sd : ∀ Z : Sto, Z.see (.v d) = some d := fun Z => by
    obtain ⟨p, hp, _⟩ := s.ex
    cases d <;> first | rfl | cases hp
  simp [b__law_agree, b3, sd, e1, eqD_str e2 e2, e3]
theorem slice_ints (ns : List Int) (i j : Option Int) : sliceL (ns.map D.int) i j = (sliceL ns i j).map .int := by
  simp [sliceL, List.map_take, List.map_drop]
theorem merge_tin (f w : Int) : mergeD [] [(.inr (Str.ofString "far"), .int f), (.inr (Str.ofString "wheel"), .int w)] = [(.inr far, .int f), (.inr wheel, .int w)] := by
  have e : putD [(.inr far, .int f)] (.inr wheel) (.int w) = [(.inr far, .int f), (.inr wheel, .int w)] := by
    simp [putD]
    exact fun h => ne_fw (by rw [h])
  show putD (putD [] (.inr far) (.int f)) (.inr wheel) (.int w) = _
  rw [show putD [] (.inr far) (.int f) = [(.inr far, .int f)] from rfl, e]
theorem tin_loop (m : Nat) (sc : D) (sd own : Int) (S : List Cell) (xs : List Int) (hl : xs.length ≤ 100) : ∀ (w : Int) (o : Option Slot), ∃ w' o', forGo (fun y η => (Tg.name 4).put y η) (fun η Z => exs (callN tab m) (inner (nth b0 2)) η Z) (xs.map .int)
    [some (.val sc), some (.val (.int sd)), some (.val (.int own)), some (.val (.int w)), o] ⟨S, []⟩ = .ok (.next, [some (.val sc), some (.val (.int sd)), some (.val (.int own)), some (.val (.int w')), o'], ⟨S, []⟩) := by
  induction xs with
  | nil => exact fun w o => ⟨w, o, by simp [forGo]⟩
  | cons x xs ih =>
    intro w o
    obtain ⟨w', o', e⟩ := ih (by simp only [List.length_cons] at hl; omega) ((w * 16807 + x % 99991 + 7) % 2147483647) (some (.val (.int x)))
    refine ⟨w', o', ?_⟩
    rw [← e, List.map_cons]
    refine for_step (η1 := [some (.val sc), some (.val (.int sd)), some (.val (.int own)), some (.val (.int w)), some (.val (.int x))]) rfl ?_
    simp only [nth, inner, b0]
    simp [xs_cons]
theorem tin_ok (m : Nat) (ns : List Int) (hl : ns.length ≤ 63) (sd : Int) (hs : 0 ≤ sd) (S : List Cell) : ∃ S', callN tab (m + 1) x__law_tin [.lst (ns.map .int), .int sd] S = .ok (.loc S.length, S') ∧ Tin S' S.length := by
  have own : ∃ own : Int, ev (callN tab m) (match nth b0 0 with | .asg _ e => e | _ => .const .non) [some (.val (.lst (ns.map .int))), some (.val (.int sd)), none, none, none] ⟨S, []⟩ = .ok (.int own, ⟨S, []⟩) := by
    simp only [nth, b0]
    by_cases c : sd < ns.length
    · have hn : sd.toNat < ns.length := by omega
      have hat : L2.atI (ns.map D.int) sd = some (.int ns[sd.toNat]) := by
        unfold L2.atI L2.ixN
        rw [if_pos hs, if_pos (by rw [List.length_map]; exact c), Option.bind_some, List.getElem?_map, List.getElem?_eq_getElem hn]
        rfl
      exact ⟨ns[sd.toNat], by simp [c, hat]⟩
    · exact ⟨644 - 29 * sd, by simp [c]⟩
  obtain ⟨own, e1⟩ := own
  obtain ⟨w, o, e2⟩ := tin_loop m (.lst (ns.map .int)) sd own S (own :: sliceL ns none (some 8)) (by
    have := slice_len ns none (some 8)
    simp only [List.length_cons]
    omega) (40029 + sd) none
  have sl : (sliceL ns none (some 8)).length ≤ 63 := Nat.le_trans (slice_len _ _ _) hl
  have c1 : (sliceL ns none (some 8)).length ≤ 16777215 := by omega
  have c2 : 1 + (sliceL ns none (some 8)).length ≤ 16777216 := by omega
  have fin : ∃ f : Int, 0 ≤ f ∧ callN tab (m + 1) x__law_tin [.lst (ns.map .int), .int sd] S = .ok (.loc S.length, S ++ [tinC f w]) := by
    rw [call_def t__law_tin _ _ _ rfl]
    show ∃ f : Int, 0 ≤ f ∧ finR (exs (callN tab m) b0 [some (.val (.lst (ns.map .int))), some (.val (.int sd)), none, none, none] ⟨S, []⟩) = _
    simp only [nth, inner, b0] at e1 e2
    simp only [b0]
    rw [xs_cons, x_asg, e1]
    simp [xs_cons, x_for, slice_ints, c1, c2, lenOk_of, lineN] at e2 ⊢
    rw [e2]
    simp
    by_cases c : own < 0 ∨ 1000000000000000 ≤ own
    · simp [c, merge_tin]
      exact ⟨_, Int.emod_nonneg _ (by decide), rfl⟩
    · simp [c, merge_tin]
      exact ⟨0, Int.le_refl 0, rfl⟩
  obtain ⟨f, hf, e⟩ := fin
  exact ⟨S ++ [tinC f w], e, f, w, by simp, hf⟩
end K01
end
section
set_option Elab.async false
set_option linter.all false
set_option maxRecDepth 100000
set_option maxHeartbeats 4000000
/-! K01B: drawn things. -/
namespace K01
open PySem Py
open PySem.Builtin.Str (reprChar)
/-! ### lists as shown -/
theorem from_len {n : Nat} : ∀ (ts : List Str) (k : Nat) (acc : Str), (∀ t ∈ ts, t.length ≤ n ∧ PyData.strOk t = true) → PyData.strOk acc = true → (textFrom k acc ts).length ≤ acc.length + ts.length * (n + 2) ∧ PyData.strOk (textFrom k acc ts) = true
  | [], k, acc, _, h => ⟨by show acc.length ≤ _; omega, h⟩
  | t :: ts, k, acc, ht, h => by
    obtain ⟨a, b⟩ := ht t List.mem_cons_self
    have c : PyData.strOk ((if k > 0 then ", " else "" : String) : Str) = true := by split <;> decide +kernel
    have c2 : ((if k > 0 then ", " else "" : String) : Str).length ≤ 2 := by split <;> decide
    obtain ⟨g1, g2⟩ := from_len ts (k + 1) (acc ++ (if k > 0 then ", " else "" : String) ++ t) (fun x hx => ht x (List.mem_cons_of_mem _ hx)) (by rw [strOk_app, strOk_app, h, c, b]; rfl)
    refine ⟨?_, g2⟩
    show (textFrom (k + 1) (acc ++ (if k > 0 then ", " else "" : String) ++ t) ts).length ≤ _
    rw [strLen_append, strLen_append] at g1
    simp only [List.length_cons, Nat.add_mul, Nat.one_mul]
    omega
theorem sh_lst {xs : List D} {n k : Nat} (h : ∀ x ∈ xs, Sh x n k) : Sh (.lst xs) (xs.length * (n + 2) + 3) (k + 1) := by
  obtain ⟨ps, a, b, c, l, e, f⟩ := sh_all h
  obtain ⟨g1, g2⟩ := from_len (PyData.shownAll ps) 0 ("[" : String) c (by decide +kernel)
  rw [shownAll_len, l] at g1
  have e1 : (("[" : String) : Str).length = 1 := rfl
  have e2 : (("]" : String) : Str).length = 1 := rfl
  refine ⟨.list ps, by simp [D.py, a], by simp [PyData.showable, b], ?_, by simp [PyData.depth, e], by simp [PyData.canLay0, f], ?_⟩
  · show (listText (PyData.shownAll ps)).length ≤ _
    unfold listText
    rw [strLen_append]
    omega
  · show PyData.strOk (listText (PyData.shownAll ps)) = true
    unfold listText
    rw [strOk_app, g2]
    decide +kernel
/-! ### drawn texts as shown -/
def signs : Str := "ab +=;0"
theorem sign_ok : ∀ c ∈ signs.cps.toList, (reprChar 39 c).length ≤ 10 ∧ ((reprChar 39 c).all fun x => decide (x < 0x110000)) = true ∧ c ≠ 39 ∧ c < 0x110000 := by decide +kernel
theorem fold_ok : ∀ (l : List Nat) (acc : Array Nat), (∀ c ∈ l, c ∈ signs.cps.toList) → (acc.all fun x => decide (x < 0x110000)) = true →
    (l.foldl (fun out c => out ++ (reprChar 39 c).toArray) acc).size ≤ acc.size + 10 * l.length ∧ ((l.foldl (fun out c => out ++ (reprChar 39 c).toArray) acc).all fun x => decide (x < 0x110000)) = true
  | [], acc, _, h => ⟨by simp, h⟩
  | c :: l, acc, hc, h => by
    obtain ⟨a, b, _⟩ := sign_ok c (hc c List.mem_cons_self)
    obtain ⟨g1, g2⟩ := fold_ok l (acc ++ (reprChar 39 c).toArray) (fun x hx => hc x (List.mem_cons_of_mem _ hx)) (by rw [Array.all_append, h]; simpa using b)
    refine ⟨?_, g2⟩
    rw [List.foldl_cons]
    rw [Array.size_append] at g1
    have z : (reprChar 39 c).toArray.size = (reprChar 39 c).length := List.size_toArray ..
    simp only [List.length_cons]
    omega
theorem sh_signs (cs : List Nat) (h : ∀ c ∈ cs, c ∈ signs.cps.toList) (hl : cs.length ≤ 5) : Sh (.str ⟨cs.toArray⟩) 60 0 := by
  have q : reprQuote ⟨cs.toArray⟩ = 39 := by
    unfold reprQuote
    have : (cs.toArray.contains 39) = false := by
      rw [List.contains_toArray]
      refine Bool.eq_false_iff.mpr fun z => ?_
      have := List.contains_iff_mem.mp z
      exact (sign_ok 39 (h 39 this)).2.2.1 rfl
    rw [this]
    rfl
  obtain ⟨g1, g2⟩ := fold_ok cs #[39] h (by decide +kernel)
  have e : reprText ⟨cs.toArray⟩ = ⟨(cs.foldl (fun out c => out ++ (reprChar 39 c).toArray) #[39]).push 39⟩ := by
    unfold reprText
    rw [q]
    congr 2
    exact List.foldl_toArray ..
  refine sh_str ?_ ?_ ?_
  · rw [e]
    show (Array.push _ _).size ≤ 60
    rw [Array.size_push]
    have : (#[39] : Array Nat).size = 1 := rfl
    omega
  · show cs.toArray.all _ = true
    rw [List.all_toArray, List.all_eq_true]
    intro c hc
    exact decide_eq_true (sign_ok c (h c hc)).2.2.2
  · rw [e]
    show (Array.push _ _).all _ = true
    rw [Array.all_push, g2]
    rfl
theorem big_int : ∀ i : Nat, i < 400 → (toString ((i : Int) - 200) : Str).length ≤ 60 ∧ ((i : Int) - 200).natAbs.log2 < 1920 ∧ PyData.strOk (toString ((i : Int) - 200) : Str) = true ∧ (toString (((i : Int) - 200) * 100000000000000000000) : Str).length ≤ 60 ∧ (((i : Int) - 200) * 100000000000000000000).natAbs.log2 < 1920 ∧ PyData.strOk (toString (((i : Int) - 200) * 100000000000000000000) : Str) = true := by decide +kernel
end K01
end
section
set_option Elab.async false
set_option linter.all false
set_option maxRecDepth 100000
set_option maxHeartbeats 4000000
/-! K01C: drawn things, drawn. -/
namespace K01
open PySem Py
theorem int_sh (j : Int) (h0 : 0 ≤ j) (h1 : j < 400) : Sh (.int (j - 200)) 60 0 ∧ Sh (.int ((j - 200) * 100000000000000000000)) 60 0 := by
  obtain ⟨a, b, c, d, e, f⟩ := big_int j.toNat (by omega)
  rw [Int.toNat_of_nonneg h0] at a b c d e f
  exact ⟨sh_int a b c, sh_int d e f⟩
theorem which_str (m k : Nat) (x : Str) (S : List Cell) (h : Tin S k) (h0 : 0 < x.length) (hl : x.length < 1000) : ∃ c S', callN tab (m + 2) x__law_which [.loc k, .str x] S = .ok (.str ⟨#[c]⟩, S') ∧ c ∈ x.cps.toList ∧ Tin S' k := by
  obtain ⟨r, S', e, r0, r1, t⟩ := dip_ok m k x.length S h (by omega) (by omega)
  have z : x.cps.toList.length = x.length := Array.length_toList
  have e2 : ∃ c, L2.atI x.cps.toList r = some c ∧ c ∈ x.cps.toList := by
    have hr : r.toNat < x.cps.toList.length := by omega
    refine ⟨x.cps.toList[r.toNat], ?_, List.getElem_mem hr⟩
    unfold L2.atI L2.ixN
    rw [if_pos r0, if_pos (by omega), Option.bind_some]
    exact List.getElem?_eq_getElem hr
  obtain ⟨c, e2, hx⟩ := e2
  refine ⟨c, S', ?_, hx, t⟩
  have l1 : lenD (.str x) = some (.int x.length) := by simp [lenD]; unfold lineN; omega
  have l2 : idxD (.str x) (.int r) = some (.str ⟨#[c]⟩) := by
    show (if x.length ≤ lineN then (L2.atI x.cps.toList r).map fun c => D.str ⟨#[c]⟩ else none) = _
    rw [if_pos (by unfold lineN; omega), e2]
    rfl
  rw [call_def t__law_which _ _ _ rfl]
  simp [b__law_which, b2, e, l1, l2]
/-- what ''.join makes of signs -/
theorem join_signs : ∀ cs : List Nat, Str.join "" (cs.map fun c => (⟨#[c]⟩ : Str)) = ⟨cs.toArray⟩
  | [] => by decide +kernel
  | [c] => rfl
  | c :: c2 :: r => by
    show (⟨#[c]⟩ : Str) ++ ("" : String) ++ Str.join "" ((c2 :: r).map fun c => (⟨#[c]⟩ : Str)) = _
    rw [join_signs (c2 :: r)]
    show (⟨#[c] ++ (("" : String) : Str).cps ++ (c2 :: r).toArray⟩ : Str) = _
    have z : (("" : String) : Str).cps = #[] := by decide +kernel
    rw [z, Array.append_empty]
    exact congrArg Str.mk (by simp)
theorem sum_ones : ∀ cs : List Nat, ((cs.map fun c => (⟨#[c]⟩ : Str)).map (·.length)).sum = cs.length
  | [] => rfl
  | c :: r => by
    have := sum_ones r
    simp only [List.map_cons, List.sum_cons, List.length_cons] at this ⊢
    have z : Str.length ⟨#[c]⟩ = 1 := rfl
    omega
theorem join_d (cs : List Nat) (h : cs.length ≤ 100) : methD .join (.str (Str.ofString "")) [.lst (cs.map fun c => .str ⟨#[c]⟩)] = some (.str ⟨cs.toArray⟩) := by
  show (strsD (cs.map fun c => D.str ⟨#[c]⟩)).bind _ = _
  have e : (cs.map fun c => D.str ⟨#[c]⟩) = (cs.map fun c => (⟨#[c]⟩ : Str)).map D.str := by rw [List.map_map]; rfl
  rw [e, strs_map, Option.bind_some, sum_ones]
  have z : (Str.ofString "").length = 0 := by decide +kernel
  rw [z, if_pos (by unfold lineN; omega), TL.join_eq]
  exact congrArg (fun x => some (D.str x)) (join_signs cs)
def bnd : Nat → Nat
  | 0 => 60
  | n + 1 => 3 * (bnd n + 2) + 63
theorem bnd_ge : ∀ n, 60 ≤ bnd n
  | 0 => Nat.le_refl _
  | n + 1 => by show 60 ≤ 3 * (bnd n + 2) + 63; omega
theorem which_in (m k : Nat) (S : List Cell) (h : Tin S k) : ∃ d S', callN tab (m + 2) x__law_which [.loc k, .tup [.non, .bl false, .bl true]] S = .ok (d, S') ∧ Sh d 5 0 ∧ Tin S' k := by
  obtain ⟨d, S', e, i, t⟩ := which_ok m k [.non, .bl false, .bl true] S h (by simp) (by decide)
  refine ⟨d, S', e, ?_, t⟩
  simp only [List.mem_cons, List.not_mem_nil, or_false] at i
  rcases i with rfl | rfl | rfl
  · exact sh_non.mono (by decide) (Nat.le_refl _)
  · exact sh_bl _
  · exact sh_bl _
theorem signs_len : signs.length = 7 := by decide +kernel
/-- up to five signs -/
theorem signs_lc (m k : Nat) (η : Vars) (f : D → Option Vars) (n : Nat) (hn : n ≤ 5) (S : List Cell) (h : Tin S k) (hf : ∀ i, ∃ o2 o3 o4 o5 o6, f (.int i) = some [some (.val (.loc k)), o2, o3, o4, o5, o6]) :
    ∃ (cs : List Nat) (S' : List Cell), lcGo f (fun η Z => evOo (callN tab (m + 2)) .none η Z) (fun η Z => ev (callN tab (m + 2)) (.call 2 (.cons (.fname 0) (.cons (.const (.str "ab +=;0")) .nil)) .nil []) η Z) ((List.range n).map fun i => .int (i : Nat)) [] ⟨S, []⟩ =
      .ok (.lst (cs.map fun c => .str ⟨#[c]⟩), ⟨S', []⟩) ∧ (∀ c ∈ cs, c ∈ signs.cps.toList) ∧ cs.length ≤ 5 ∧ Tin S' k := by
  obtain ⟨out, Z', e, xs, cs, e1, e2, e3, S', e4, e5⟩ := lc_inv (put := f) (test := fun η Z => evOo (callN tab (m + 2)) .none η Z) (elt := fun η Z => ev (callN tab (m + 2)) (.call 2 (.cons (.fname 0) (.cons (.const (.str "ab +=;0")) .nil)) .nil []) η Z)
    (fun xs acc Z => ∃ (ys : List Nat) (cs : List Nat), xs = ys.map (fun i => .int (i : Nat)) ∧ acc = cs.map (fun c => .str ⟨#[c]⟩) ∧ ((∀ c ∈ cs, c ∈ signs.cps.toList) ∧ cs.length + ys.length ≤ 5) ∧ ∃ S', Z = ⟨S', []⟩ ∧ Tin S' k)
    ((List.range n).map fun i => .int (i : Nat)) [] ⟨S, []⟩ ⟨List.range n, [], rfl, rfl, ⟨(fun _ h => nomatch h), by simpa using hn⟩, S, rfl, h⟩ (by
      rintro x r acc Z ⟨ys, cs, q1, rfl, ⟨q2, q3⟩, S1, rfl, t1⟩
      cases ys with
      | nil => cases q1
      | cons y ys =>
        obtain ⟨rfl, rfl⟩ : x = .int (y : Nat) ∧ r = ys.map (fun i => .int (i : Nat)) := by simpa using q1
        obtain ⟨o2, o3, o4, o5, o6, hp⟩ := hf y
        obtain ⟨c, S2, f1, f2, f3⟩ := which_str m k signs S1 t1 (by rw [signs_len]; decide) (by rw [signs_len]; decide)
        refine ⟨_, hp, true, _, by simp; rfl, (fun z => nomatch z), fun _ => ⟨.str ⟨#[c]⟩, ⟨S2, []⟩, ?_, ys, cs ++ [c], rfl, by simp, ⟨?_, ?_⟩, S2, rfl, f3⟩⟩
        · have f1' : callN tab (m + 2) 2 [.loc k, .str (Str.ofString "ab +=;0")] S1 = _ := f1
          simp [f1']
        · intro z hz
          rcases List.mem_append.mp hz with hz | hz
          · exact q2 z hz
          · rw [List.mem_singleton.mp hz]; exact f2
        · simp only [List.length_append, List.length_cons, List.length_nil] at q3 ⊢
          omega) (by simp; unfold lineN; omega)
  subst e2
  subst e4
  exact ⟨cs, S', e, e3.1, by omega, e5⟩
end K01
end
section
set_option Elab.async false
set_option linter.all false
set_option maxRecDepth 100000
set_option maxHeartbeats 4000000
/-! K01D: a thing. -/
namespace K01
open PySem Py
/-- a thing without things in it -/
theorem thing_flat (k q : Nat) (deep h5 : Int) (S S1 : List Cell) (r : Int) (hd : (0 < deep ∧ h5 = 8) ∨ (deep = 0 ∧ h5 = 5)) (e1 : callN tab (q + 2) x__law_dip [.loc k, .int h5] S = .ok (.int r, S1)) (r0 : 0 ≤ r) (r1 : r < 5) (t1 : Tin S1 k) :
    ∃ d S', callN tab (q + 3) x__law_thing [.loc k, .int deep] S = .ok (d, S') ∧ Sh d 60 1 ∧ Tin S' k := by
  have e0 : ∀ c : Prop, ∀ _ : Decidable c, (c ↔ 0 < deep) → (if c then (8 : Int) else 5) = h5 := fun c _ hc => by
    rcases hd with ⟨a, b⟩ | ⟨a, b⟩
    · rw [if_pos (hc.mpr a), b]
    · rw [if_neg (fun z => by have := hc.mp z; omega), b]
  rw [call_def t__law_thing _ _ _ rfl]
  have hd2 : (0 < deep → h5 = 8) ∧ (¬ 0 < deep → h5 = 5) := by omega
  have s1 : ev (callN tab (q + 2)) (.call 1 (.cons (.fname 0) (.cons (.ite (.e (.cmp .gt (.t 1) (.e (.const (.int 0))))) (.const (.int 8)) (.const (.int 5))) .nil)) .nil []) [some (.val (.loc k)), some (.val (.int deep)), none, none, none, none] ⟨S, []⟩ = .ok (.int r, ⟨S1, []⟩) := by
    by_cases c : 0 < deep
    · rw [hd2.1 c] at e1
      simp [e1, c]
    · rw [hd2.2 c] at e1
      simp [e1, c]
  show ∃ d S', finR (exs (callN tab (q + 2)) b4 [some (.val (.loc k)), some (.val (.int deep)), none, none, none, none] ⟨S, []⟩) = .ok (d, S') ∧ Sh d 60 1 ∧ Tin S' k
  simp only [b4]
  rw [xs_cons, x_asg, s1]
  clear s1 e1 e0
  by_cases c1 : r < 2
  · obtain ⟨j, S2, e2, j0, j1, t2⟩ := dip_ok (q + 1) k 400 S1 t1 (by decide) (by decide)
    obtain ⟨g1, g2⟩ := int_sh j j0 j1
    have b1' : -18446744073709551616 < j - 200 ∧ j - 200 < 18446744073709551616 := by omega
    by_cases c2 : r = 1
    · refine ⟨_, S2, ?_, g2.mono (Nat.le_refl _) (by omega), t2⟩
      simp [xs_cons, e2, c2, b1']
    · refine ⟨_, S2, ?_, g1.mono (Nat.le_refl _) (by omega), t2⟩
      simp [xs_cons, e2, c1, c2, b1']
  by_cases c2 : r = 2
  · obtain ⟨d, S2, e2, g, t2⟩ := which_in q k S1 t1
    refine ⟨d, S2, ?_, g.mono (by decide) (by omega), t2⟩
    simp [xs_cons, e2, c2, lenOk_of]
  by_cases c3 : r = 3
  · obtain ⟨j, S2, e2, j0, j1, t2⟩ := dip_ok (q + 1) k 6 S1 t1 (by decide) (by decide)
    obtain ⟨cs, S3, e3, i1, i2, t3⟩ := signs_lc q k [] (fun y => (Tg.name 5).put y [some (.val (.loc k)), some (.val (.int deep)), some (.val (.int r)), none, none, none]) j.toNat (by omega) S2 t2 (fun i => ⟨_, _, _, _, _, rfl⟩)
    refine ⟨_, S3, ?_, (sh_signs cs i1 i2).mono (Nat.le_refl _) (by omega), t3⟩
    have e4 := join_d cs (by omega)
    have b1' : j < 4611686018427387904 := by omega
    have b2' : -4611686018427387904 ≤ j := by omega
    subst c3
    simp [xs_cons, e2, b1', b2', mOk] at e3 ⊢
    rw [e3]
    simp [e4]
  · have c4 : r < 5 := r1
    refine ⟨.tup [], S1, ?_, (sh_tup (n := 0) (k := 0) (xs := []) (fun _ h => nomatch h)).mono (by decide) (by omega), t1⟩
    simp [xs_cons, c1, c2, c3, c4]
theorem things_lc (k q n : Nat) (ih : ∀ S, Tin S k → ∃ d S', callN tab (q + 2) x__law_thing [.loc k, .int (n : Nat)] S = .ok (d, S') ∧ Sh d (bnd n) (n + 1) ∧ Tin S' k) (f : D → Option Vars) (j : Nat) (hj : j ≤ 3) (S : List Cell) (h : Tin S k)
    (hf : ∀ i, ∃ o2 o3 o4 o5, f (.int i) = some [some (.val (.loc k)), some (.val (.int ((n : Int) + 1))), o2, o3, o4, o5]) :
    ∃ (xs : List D) (S' : List Cell), lcGo f (fun η Z => evOo (callN tab (q + 2)) .none η Z) (fun η Z => ev (callN tab (q + 2)) (.call 4 (.cons (.fname 0) (.cons (.bin .sub (.t 1) (.e (.const (.int 1)))) .nil)) .nil []) η Z) ((List.range j).map fun i => .int (i : Nat)) [] ⟨S, []⟩ =
      .ok (.lst xs, ⟨S', []⟩) ∧ (∀ x ∈ xs, Sh x (bnd n) (n + 1)) ∧ xs.length ≤ 3 ∧ Tin S' k := by
  obtain ⟨out, Z', e, xs, e1, ⟨i1, i2⟩, S', e4, e5⟩ := lc_inv (put := f) (test := fun η Z => evOo (callN tab (q + 2)) .none η Z) (elt := fun η Z => ev (callN tab (q + 2)) (.call 4 (.cons (.fname 0) (.cons (.bin .sub (.t 1) (.e (.const (.int 1)))) .nil)) .nil []) η Z)
    (fun xs acc Z => ∃ (ys : List Nat), xs = ys.map (fun i => .int (i : Nat)) ∧ ((∀ x ∈ acc, Sh x (bnd n) (n + 1)) ∧ acc.length + ys.length ≤ 3) ∧ ∃ S', Z = ⟨S', []⟩ ∧ Tin S' k)
    ((List.range j).map fun i => .int (i : Nat)) [] ⟨S, []⟩ ⟨List.range j, rfl, ⟨(fun _ h => nomatch h), by simpa using hj⟩, S, rfl, h⟩ (by
      rintro x r acc Z ⟨ys, q1, ⟨q2, q3⟩, S1, rfl, t1⟩
      cases ys with
      | nil => cases q1
      | cons y ys =>
        obtain ⟨rfl, rfl⟩ : x = .int (y : Nat) ∧ r = ys.map (fun i => .int (i : Nat)) := by simpa using q1
        obtain ⟨o2, o3, o4, o5, hp⟩ := hf y
        obtain ⟨d, S2, f1, f2, f3⟩ := ih S1 t1
        refine ⟨_, hp, true, _, by simp; rfl, (fun z => nomatch z), fun _ => ⟨d, ⟨S2, []⟩, ?_, ys, rfl, ⟨?_, ?_⟩, S2, rfl, f3⟩⟩
        · have f1' : callN tab (q + 2) 4 [.loc k, .int (n : Nat)] S1 = _ := f1
          simp [f1']
        · intro z hz
          rcases List.mem_append.mp hz with hz | hz
          · exact q2 z hz
          · rw [List.mem_singleton.mp hz]; exact f2
        · simp only [List.length_append, List.length_cons, List.length_nil] at q3 ⊢
          omega) (by simp; unfold lineN; omega)
  subst e4
  exact ⟨out, S', e, i1, by omega, e5⟩
theorem thing_ok (k : Nat) : ∀ (n M : Nat) (S : List Cell), n + 4 ≤ M → Tin S k → ∃ d S', callN tab M x__law_thing [.loc k, .int (n : Nat)] S = .ok (d, S') ∧ Sh d (bnd n) (n + 1) ∧ Tin S' k := by
  intro n
  induction n with
  | zero =>
    intro M S hM h
    obtain ⟨q, rfl⟩ : ∃ q, M = q + 3 := ⟨M - 3, by omega⟩
    obtain ⟨r, S1, e1, r0, r1, t1⟩ := dip_ok (q + 1) k 5 S h (by decide) (by decide)
    exact thing_flat k q 0 5 S S1 r (.inr ⟨rfl, rfl⟩) e1 r0 r1 t1
  | succ n ih =>
    intro M S hM h
    obtain ⟨q, rfl⟩ : ∃ q, M = q + 3 := ⟨M - 3, by omega⟩
    obtain ⟨r, S1, e1, r0, r1, t1⟩ := dip_ok (q + 1) k 8 S h (by decide) (by decide)
    have cn : ((n + 1 : Nat) : Int) = (n : Int) + 1 := by omega
    rw [cn]
    have hp : 0 < (n : Int) + 1 := by omega
    by_cases c5 : r < 5
    · obtain ⟨d, S', a, b, c⟩ := thing_flat k q ((n : Int) + 1) 8 S S1 r (.inl ⟨hp, rfl⟩) e1 r0 c5 t1
      exact ⟨d, S', a, b.mono (bnd_ge _) (by omega), c⟩
    obtain ⟨j, S2, e2, j0, j1, t2⟩ := dip_ok (q + 1) k 4 S1 t1 (by decide) (by decide)
    obtain ⟨xs, S3, e3, i1, i2, t3⟩ := things_lc k q n (fun S hS => ih (q + 2) S (by omega) hS) (fun y => (Tg.name 4).put y [some (.val (.loc k)), some (.val (.int ((n : Int) + 1))), some (.val (.int r)), none, none, none]) j.toNat (by omega) S2 t2 (fun i => ⟨_, _, _, _, rfl⟩)
    have b1' : j < 4611686018427387904 := by omega
    have b2' : -4611686018427387904 ≤ j := by omega
    have c1 : ¬ r < 2 := by omega
    have c2 : ¬ r = 2 := by omega
    have lb : xs.length * (bnd n + 2) + 3 ≤ bnd (n + 1) := by
      have : xs.length * (bnd n + 2) ≤ 3 * (bnd n + 2) := Nat.mul_le_mul_right _ i2
      show _ ≤ 3 * (bnd n + 2) + 63
      omega
    rw [call_def t__law_thing _ _ _ rfl]
    by_cases c7 : r < 7
    · refine ⟨.tup xs, S3, ?_, (sh_tup i1).mono lb (Nat.le_refl _), t3⟩
      simp [b__law_thing, b4, xs_cons, e1, e2, b1', b2', c1, c2, c5, hp] at e3 ⊢
      rw [e3]
      simp [c7]
    · refine ⟨.lst xs, S3, ?_, (sh_lst i1).mono lb (Nat.le_refl _), t3⟩
      simp [b__law_thing, b4, xs_cons, e1, e2, b1', b2', c1, c2, c5, hp] at e3 ⊢
      rw [e3]
      simp [c7]
end K01
end
section
set_option Elab.async false
set_option linter.all false
set_option maxRecDepth 100000
set_option maxHeartbeats 4000000
/-! K01E: errors made, looked at, raised. -/
namespace K01
open PySem Py
def errs (v : D) : List D := [.exc 0 v, .exc 1 v, .exc 2 v, .exc 3 v, .exc 4 v, .exc 5 v, .exc 6 v, .exc 7 v, .exc 8 v, .exc 9 v, .exc 10 v, .exc 11 v, .exc 12 v, .exc 13 v, .exc 14 v]
theorem plainly_ok (m : Nat) (v : D) (S : List Cell) : callN tab (m + 1) x__law_plainly [v] S = .ok (.lst (errs v), S) := by kernel_rfl
theorem by_word_ok (m : Nat) (v : D) (S : List Cell) : callN tab (m + 1) x__law_by_word [v] S = .ok (.lst (errs v), S) := by kernel_rfl
theorem kept0 (m : Nat) (v : D) (S : List Cell) : callN tab (m + 1) x__law_kept [v, .int 0] S = .ok (.lst [v], S) := by kernel_rfl
theorem kept1 (m : Nat) (v : D) (S : List Cell) : callN tab (m + 1) x__law_kept [v, .int 1] S = .ok (.lst [v], S) := by kernel_rfl
theorem kept2 (m : Nat) (v : D) (S : List Cell) : callN tab (m + 1) x__law_kept [v, .int 2] S = .ok (.lst [v], S) := by kernel_rfl
theorem kept3 (m : Nat) (v : D) (S : List Cell) : callN tab (m + 1) x__law_kept [v, .int 3] S = .ok (.lst [v], S) := by kernel_rfl
end K01
end
section
set_option Elab.async false
set_option linter.all false
set_option maxRecDepth 100000
set_option maxHeartbeats 8000000
/-! K01G: the walk over the errors. -/
namespace K01
open PySem Py
def bT : Sms := inner (nth b9 0)
def bL : Sms := inner (nth bT 1)
def bI : Sms := inner (nth bL 0)
/-- the names in the inmost loop -/
def en (k : Nat) (o1 : Option Slot) (v : D) (c e : Option Slot) (o6 : Option Slot) : Vars := [some (.val (.loc k)), o1, some (.val v), some (.val (.lst (errs v))), c, e, o6, none]
def at_ (k : Nat) (o1 o6 : Option Slot) (v : D) (c : Nat) : Vars := en k o1 v (some (.val (.int (c : Nat)))) (some (.val (.exc c v))) o6
theorem if_0 (m k : Nat) (o1 o6 : Option Slot) (v : D) (S : List Cell) : ∀ c < 15, ex (callN tab (m + 1)) (nth bI 0) (at_ k o1 o6 v c) ⟨S, []⟩ = .ok (.next, at_ k o1 o6 v c, ⟨S, []⟩) := by
  intro c hc
  rcases c with _ | _ | _ | _ | _ | _ | _ | _ | _ | _ | _ | _ | _ | _ | _ | c
  case succ.succ.succ.succ.succ.succ.succ.succ.succ.succ.succ.succ.succ.succ.succ => omega
  all_goals kernel_rfl
theorem if_1 (m k : Nat) (o1 o6 : Option Slot) (v : D) (S : List Cell) : ∀ c < 15, ex (callN tab (m + 1)) (nth bI 1) (at_ k o1 o6 v c) ⟨S, []⟩ = .ok (.next, at_ k o1 o6 v c, ⟨S, []⟩) := by
  intro c hc
  rcases c with _ | _ | _ | _ | _ | _ | _ | _ | _ | _ | _ | _ | _ | _ | _ | c
  case succ.succ.succ.succ.succ.succ.succ.succ.succ.succ.succ.succ.succ.succ.succ => omega
  all_goals kernel_rfl
def argE : Es := match nth bI 2 with
  | .ite (.tnot (.e (.call _ es _ _))) _ _ => es
  | _ => .nil
theorem nth2 : nth bI 2 = .ite (.tnot (.e (.call x__law_agree argE .nil []))) (.cons (.ret (.const (.bl false))) .nil) .nil := by kernel_rfl
theorem args_ok (m k : Nat) (o1 o6 : Option Slot) (v : D) (S : List Cell) : ∀ c < 15, evs (callN tab (m + 1)) argE (at_ k o1 o6 v c) ⟨S, []⟩ = .ok ([v, v], ⟨S, []⟩) := by
  intro c hc
  rcases c with _ | _ | _ | _ | _ | _ | _ | _ | _ | _ | _ | _ | _ | _ | _ | c
  case succ.succ.succ.succ.succ.succ.succ.succ.succ.succ.succ.succ.succ.succ.succ => omega
  all_goals kernel_rfl
theorem turn_ok (m k : Nat) (o1 o6 : Option Slot) (v : D) (S : List Cell) {n d : Nat} (s : Sh v n d) (hn : n ≤ lineN) (hk : d ≤ 60) (c : Nat) (hc : c < 15) : exs (callN tab (m + 1)) bI (at_ k o1 o6 v c) ⟨S, []⟩ = .ok (.next, at_ k o1 o6 v c, ⟨S, []⟩) := by
  have sp : bI = .cons (nth bI 0) (.cons (nth bI 1) (.cons (nth bI 2) .nil)) := rfl
  rw [sp, xs_cons, if_0 m k o1 o6 v S c hc, seq_next, xs_cons, if_1 m k o1 o6 v S c hc, seq_next, xs_cons, nth2, x_ite, o_tnot, o_e, e_call, args_ok m k o1 o6 v S c hc]
  simp [agree_ok m v S s hn hk, permD]
/-- the walk: whatever the loop's names held before -/
theorem walk_ok (m k : Nat) (o1 o4 o5 o6 : Option Slot) (v : D) (S : List Cell) {n d : Nat} (s : Sh v n d) (hn : n ≤ lineN) (hk : d ≤ 60) :
    exs (callN tab (m + 1)) bL (en k o1 v o4 o5 o6) ⟨S, []⟩ = .ok (.next, at_ k o1 o6 v 14, ⟨S, []⟩) := by
  have sp : bL = .cons (.for_ (.tup [.name 4, .name 5]) (.enum (.fname 3) 0) bI) .nil := rfl
  have it : evIt (callN tab (m + 1)) (.enum (.fname 3) 0) (en k o1 v o4 o5 o6) ⟨S, []⟩ = .ok ((errs v).mapIdx fun i d => .tupU [.int ((0 : Int) + (i : Nat)), d], ⟨S, []⟩) := by kernel_rfl
  have t := turn_ok m k o1 o6 v S s hn hk
  rw [sp, xs_cons, x_for, it]
  simp only [r_ok]
  have mi : ((errs v).mapIdx fun i d => D.tupU [.int ((0 : Int) + (i : Nat)), d]) = (List.range 15).map fun i => D.tupU [.int (i : Nat), .exc i v] := by kernel_rfl
  rw [mi]
  have go : ∀ (ys : List Nat) (o4 o5 : Option Slot), (∀ y ∈ ys, y < 15) → forGo (fun y η => (Tg.tup [.name 4, .name 5]).put y η) (fun η Z => exs (callN tab (m + 1)) bI η Z) (ys.map fun i => D.tupU [.int (i : Nat), .exc i v]) (en k o1 v o4 o5 o6) ⟨S, []⟩ =
      .ok (.next, (match ys.getLast? with | some c => at_ k o1 o6 v c | none => en k o1 v o4 o5 o6), ⟨S, []⟩) := by
    intro ys
    induction ys with
    | nil => intro o4 o5 _; simp [forGo]
    | cons y ys ih =>
      intro o4 o5 h
      rw [List.map_cons, for_step (η1 := at_ k o1 o6 v y) (by simp [en, at_]) (t y (h y List.mem_cons_self))]
      rw [at_, ih _ _ fun z hz => h z (List.mem_cons_of_mem _ hz)]
      cases ys with
      | nil => rfl
      | cons z zs => rw [List.getLast?_cons_cons]; cases hz : (z :: zs).getLast? with
        | none => simp at hz
        | some w => rfl
  rw [go _ o4 o5 fun y hy => List.mem_range.mp hy]
  rfl
end K01
end
section
set_option Elab.async false
set_option linter.all false
set_option maxRecDepth 100000
set_option maxHeartbeats 8000000
/-! K01P: the law's pure part. -/
namespace K01
open PySem Py
theorem lists_ok (m k : Nat) (o1 o3 o4 o5 : Option Slot) (v : D) (S : List Cell) {n d : Nat} (s : Sh v n d) (hn : n ≤ lineN) (hk : d ≤ 60) :
    ex (callN tab (m + 1)) (nth bT 1) [some (.val (.loc k)), o1, some (.val v), o3, o4, o5, none, none] ⟨S, []⟩ = .ok (.next, at_ k o1 none v 14, ⟨S, []⟩) := by
  have sp : nth bT 1 = .for_ (.name 3) (.seq (.tup (.cons (.call 5 (.cons (.fname 2) .nil) .nil []) (.cons (.call 6 (.cons (.fname 2) .nil) .nil []) .nil)))) bL := by kernel_rfl
  have p1 : callN tab (m + 1) 5 [v] S = _ := plainly_ok m v S
  have p2 : callN tab (m + 1) 6 [v] S = _ := by_word_ok m v S
  have it : evIt (callN tab (m + 1)) (.seq (.tup (.cons (.call 5 (.cons (.fname 2) .nil) .nil []) (.cons (.call 6 (.cons (.fname 2) .nil) .nil []) .nil)))) [some (.val (.loc k)), o1, some (.val v), o3, o4, o5, none, none] ⟨S, []⟩ = .ok ([.lst (errs v), .lst (errs v)], ⟨S, []⟩) := by
    simp [p1, p2, permD, lenOk_of]
  rw [sp, x_for, it]
  simp only [r_ok]
  rw [for_step (η1 := en k o1 v o4 o5 none) (by simp [en]) (walk_ok m k o1 o4 o5 none v S s hn hk)]
  rw [for_step (η1 := at_ k o1 none v 14) (by simp [en, at_]) (walk_ok m k o1 _ _ none v S s hn hk)]
  simp [forGo]
theorem kept_ok (m k : Nat) (o1 : Option Slot) (v : D) (S : List Cell) {n d : Nat} (s : Sh v n d) (hn : n + 5 ≤ lineN) (hk : d + 1 ≤ 60) :
    ex (callN tab (m + 1)) (nth bT 2) (at_ k o1 none v 14) ⟨S, []⟩ = .ok (.next, at_ k o1 none v 14, ⟨S, []⟩) := by
  have s2 : Sh (.lst [v]) (n + 5) (d + 1) := (sh_lst (xs := [v]) (n := n) (k := d) fun x hx => by rw [List.mem_singleton.mp hx]; exact s).mono (by simp) (Nat.le_refl _)
  have ag := agree_ok m (.lst [v]) S s2 hn hk
  have sp : nth bT 2 = .ite (.tnot (.e (.blt .all (.cons (.e (.lc [6] (.call 3 (.cons (.call 8 (.cons (.fname 2) (.cons (.fname 6) .nil)) .nil []) (.cons (.lst (.cons (.fname 2) .nil)) .nil)) .nil []) (.name 6) (.range1 (.const (.int 4))) .none)) .nil)))) (.cons (.ret (.const (.bl false))) .nil) .nil := by kernel_rfl
  have k0 : callN tab (m + 1) 8 [v, .int 0] S = _ := kept0 m v S
  have k1 : callN tab (m + 1) 8 [v, .int 1] S = _ := kept1 m v S
  have k2 : callN tab (m + 1) 8 [v, .int 2] S = _ := kept2 m v S
  have k3 : callN tab (m + 1) 8 [v, .int 3] S = _ := kept3 m v S
  have rg : ((List.range 4).map fun i => D.int ((i : Nat) : Int)) = [.int 0, .int 1, .int 2, .int 3] := rfl
  rw [sp, x_ite]
  simp [at_, en, permD, lenOk_of, rg, lcGo, k0, k1, k2, k3, ag, lineN, allD, boolsD]
theorem round_ok (m k : Nat) (o1 o2 o3 o4 o5 : Option Slot) (S : List Cell) (t : Tin S k) : ∃ v S', exs (callN tab (m + 6)) bT [some (.val (.loc k)), o1, o2, o3, o4, o5, none, none] ⟨S, []⟩ = .ok (.next, at_ k o1 none v 14, ⟨S', []⟩) ∧ Tin S' k := by
  obtain ⟨v, S1, e1, s, t1⟩ := thing_ok k 2 (m + 6) S (by omega) t
  refine ⟨v, S1, ?_, t1⟩
  have sp : bT = .cons (.asg (.name 2) (.call x__law_thing (.cons (.fname 0) (.cons (.const (.int 2)) .nil)) .nil [])) (.cons (nth bT 1) (.cons (nth bT 2) .nil)) := by kernel_rfl
  have e0 : ex (callN tab (m + 6)) (.asg (.name 2) (.call x__law_thing (.cons (.fname 0) (.cons (.const (.int 2)) .nil)) .nil [])) [some (.val (.loc k)), o1, o2, o3, o4, o5, none, none] ⟨S, []⟩ = .ok (.next, [some (.val (.loc k)), o1, some (.val v), o3, o4, o5, none, none], ⟨S1, []⟩) := by
    have e1' : callN tab (m + 6) 4 [.loc k, .int 2] S = .ok (v, S1) := e1
    simp [e1', permD]
  rw [sp, xs_cons, e0, seq_next, xs_cons, lists_ok (m + 5) k o1 o3 o4 o5 v S1 s (by decide) (by decide), seq_next, xs_cons, kept_ok (m + 5) k o1 v S1 s (by decide) (by decide), seq_next, xs_nil]
theorem is_so_ok (m k : Nat) (S : List Cell) (h : Tin S k) : ∃ S', callN tab (m + 7) x__law_is_so [.loc k] S = .ok (.bl true, S') := by
  obtain ⟨v1, S1, e1, t1⟩ := round_ok m k (some (.val (.int 0))) none none none none S h
  obtain ⟨v2, S2, e2, t2⟩ := round_ok m k (some (.val (.int 1))) (some (.val v1)) (some (.val (.lst (errs v1)))) (some (.val (.int (14 : Nat)))) (some (.val (.exc 14 v1))) S1 t1
  obtain ⟨v3, S3, e3, t3⟩ := round_ok m k (some (.val (.int 2))) (some (.val v2)) (some (.val (.lst (errs v2)))) (some (.val (.int (14 : Nat)))) (some (.val (.exc 14 v2))) S2 t2
  refine ⟨S3, ?_⟩
  rw [call_def t__law_is_so _ _ _ rfl]
  show finR (exs (callN tab (m + 6)) b9 [some (.val (.loc k)), none, none, none, none, none, none, none] ⟨S, []⟩) = _
  have sp : b9 = .cons (.for_ (.name 1) (.range1 (.const (.int 3))) bT) (.cons (.ret (.const (.bl true))) .nil) := by kernel_rfl
  have it : evIt (callN tab (m + 6)) (.range1 (.const (.int 3))) [some (.val (.loc k)), none, none, none, none, none, none, none] ⟨S, []⟩ = .ok ([.int 0, .int 1, .int 2], ⟨S, []⟩) := by kernel_rfl
  rw [sp, xs_cons, x_for, it]
  simp only [r_ok]
  rw [for_step (η1 := [some (.val (.loc k)), some (.val (.int 0)), none, none, none, none, none, none]) (by simp) e1]
  rw [for_step (η1 := [some (.val (.loc k)), some (.val (.int 1)), some (.val v1), some (.val (.lst (errs v1))), some (.val (.int (14 : Nat))), some (.val (.exc 14 v1)), none, none]) (by simp [at_, en]) e2]
  rw [for_step (η1 := [some (.val (.loc k)), some (.val (.int 2)), some (.val v2), some (.val (.lst (errs v2))), some (.val (.int (14 : Nat))), some (.val (.exc 14 v2)), none, none]) (by simp [at_, en]) e3]
  simp [forGo]
theorem law_ok (m : Nat) (ns : List Int) (hl : ns.length ≤ 63) : ∃ S, callN tab (m + 8) x_law [.lst (ns.map .int)] [] = .ok (.bl true, S) := by
  obtain ⟨S1, e1, t1⟩ := tin_ok (m + 6) ns hl 0 (by decide) []
  obtain ⟨S2, e2⟩ := is_so_ok m _ S1 t1
  obtain ⟨S3, e3, t3⟩ := tin_ok (m + 6) ns hl 1 (by decide) S2
  obtain ⟨S4, e4⟩ := is_so_ok m _ S3 t3
  refine ⟨S4, ?_⟩
  rw [call_def t_law _ _ _ rfl]
  simp only [List.length_nil] at e1 e2
  simp [b_law, b10, lenOk_of, lcGo, e1, e2, e3, e4, lineN, allD, boolsD]
def deep : Nat := 8
theorem law_pure (ns : List Int) (hl : ns.length ≤ 63) : ∃ S, callN tab deep 10 [.lst (ns.map .int)] [] = .ok (.bl true, S) := law_ok 0 ns hl
end K01
end
section
set_option Elab.async false
set_option linter.all false
set_option maxRecDepth 100000
set_option maxHeartbeats 4000000
/-! K01H: the defs compile to the tables; what the top shows. -/
namespace K01
open PySem PySem.Spec Py L2
def top (i : Nat) : Stmt := PySem.Challenge.pw_spanbooks_k01_errors_that_keep_values_or.main.body.getD i (.Pass ⟨0, 0, 0, 0⟩)
def clsB : Stmt → List Stmt
  | .ClassDef _ _ _ b _ _ _ _ _ _ _ => b
  | _ => []
def ctop (i j : Nat) : Stmt := (clsB (top i)).getD j (.Pass ⟨0, 0, 0, 0⟩)
theorem c0 : cSs (cS (cp 40) 40 { T := { T with cal := true }, N := ["script", "side", "own", "wheel", "each"], sc := defScope (top 18), top := true, own := [], muts := [], hand := none }) (defBody (top 18)) = some b0 := by kernel_rfl
theorem c1 : cSs (cS (cp 40) 40 { T := { T with cal := true }, N := ["tin", "many", "number"], sc := defScope (top 19), top := true, own := [], muts := [], hand := none }) (defBody (top 19)) = some b1 := by kernel_rfl
theorem c2 : cSs (cS (cp 40) 40 { T := { T with cal := true }, N := ["tin", "things"], sc := defScope (top 20), top := true, own := [], muts := [], hand := none }) (defBody (top 20)) = some b2 := by kernel_rfl
theorem c3 : cSs (cS (cp 40) 40 { T := { T with cal := true }, N := ["told", "due"], sc := defScope (top 21), top := true, own := [], muts := [], hand := none }) (defBody (top 21)) = some b3 := by kernel_rfl
theorem c4 : cSs (cS (cp 40) 40 { T := { T with cal := true }, N := ["tin", "deep", "kind", "inner", "part", "sign"], sc := defScope (top 22), top := true, own := [], muts := [], hand := none }) (defBody (top 22)) = some b4 := by kernel_rfl
theorem c5 : cSs (cS (cp 40) 40 { T := { T with cal := true }, N := ["value", "every"], sc := defScope (top 23), top := true, own := [], muts := [], hand := none }) (defBody (top 23)) = some b5 := by kernel_rfl
theorem c6 : cSs (cS (cp 40) 40 { T := { T with cal := true }, N := ["value", "every"], sc := defScope (top 24), top := true, own := [], muts := [], hand := none }) (defBody (top 24)) = some b6 := by kernel_rfl
theorem c7 : cSs (cS (cp 40) 40 { T := { T with cal := true }, N := ["e", "every"], sc := defScope (top 25), top := true, own := [], muts := [], hand := none }) (defBody (top 25)) = some b7 := by kernel_rfl
theorem c8 : cSs (cS (cp 40) 40 { T := { T with cal := true }, N := ["value", "which", "e"], sc := defScope (top 26), top := true, own := [], muts := [], hand := none }) (defBody (top 26)) = some b8 := by kernel_rfl
theorem c9 : cSs (cS (cp 40) 40 { T := { T with cal := true }, N := ["tin", "turn", "value", "every", "at", "e", "which", "place"], sc := defScope (top 27), top := true, own := [], muts := [], hand := none }) (defBody (top 27)) = some b9 := by kernel_rfl
theorem c10 : cSs (cS (cp 40) 40 { T := { T with cal := true }, N := ["script", "side"], sc := defScope (top 28), top := true, own := [], muts := [], hand := none }) (defBody (top 28)) = some b10 := by kernel_rfl
def d0 : He.DefD := ⟨("_law_tin", none), "_law_tin", "_law_tin", defArgs (top 18), defBody (top 18), defScope (top 18), [], []⟩
def d1 : He.DefD := ⟨("_law_dip", none), "_law_dip", "_law_dip", defArgs (top 19), defBody (top 19), defScope (top 19), [], []⟩
def d2 : He.DefD := ⟨("_law_which", none), "_law_which", "_law_which", defArgs (top 20), defBody (top 20), defScope (top 20), [], []⟩
def d3 : He.DefD := ⟨("_law_agree", none), "_law_agree", "_law_agree", defArgs (top 21), defBody (top 21), defScope (top 21), [], []⟩
def d4 : He.DefD := ⟨("_law_thing", none), "_law_thing", "_law_thing", defArgs (top 22), defBody (top 22), defScope (top 22), [], []⟩
def d5 : He.DefD := ⟨("_law_plainly", none), "_law_plainly", "_law_plainly", defArgs (top 23), defBody (top 23), defScope (top 23), [], []⟩
def d6 : He.DefD := ⟨("_law_by_word", none), "_law_by_word", "_law_by_word", defArgs (top 24), defBody (top 24), defScope (top 24), [], []⟩
def d7 : He.DefD := ⟨("_law_under", none), "_law_under", "_law_under", defArgs (top 25), defBody (top 25), defScope (top 25), [], []⟩
def d8 : He.DefD := ⟨("_law_kept", none), "_law_kept", "_law_kept", defArgs (top 26), defBody (top 26), defScope (top 26), [], []⟩
def d9 : He.DefD := ⟨("_law_is_so", none), "_law_is_so", "_law_is_so", defArgs (top 27), defBody (top 27), defScope (top 27), [], []⟩
def d10 : He.DefD := ⟨("law", none), "law", "law", defArgs (top 28), defBody (top 28), defScope (top 28), [], []⟩
def e0 : He.DefD := ⟨("InvalidPrime", some "__init__"), "__init__", "InvalidPrime.__init__", defArgs (ctop 2 0), defBody (ctop 2 0), defScope (ctop 2 0), [], []⟩
def e1 : He.DefD := ⟨("InvalidRow", some "__init__"), "__init__", "InvalidRow.__init__", defArgs (ctop 3 0), defBody (ctop 3 0), defScope (ctop 3 0), [], []⟩
def e2 : He.DefD := ⟨("InvalidWorld", some "__init__"), "__init__", "InvalidWorld.__init__", defArgs (ctop 4 0), defBody (ctop 4 0), defScope (ctop 4 0), [], []⟩
def e3 : He.DefD := ⟨("InvalidNumber", some "__init__"), "__init__", "InvalidNumber.__init__", defArgs (ctop 5 0), defBody (ctop 5 0), defScope (ctop 5 0), [], []⟩
def e4 : He.DefD := ⟨("InvalidNumbers", some "__init__"), "__init__", "InvalidNumbers.__init__", defArgs (ctop 6 0), defBody (ctop 6 0), defScope (ctop 6 0), [], []⟩
def e5 : He.DefD := ⟨("InvalidName", some "__init__"), "__init__", "InvalidName.__init__", defArgs (ctop 7 0), defBody (ctop 7 0), defScope (ctop 7 0), [], []⟩
def e6 : He.DefD := ⟨("InvalidNames", some "__init__"), "__init__", "InvalidNames.__init__", defArgs (ctop 8 0), defBody (ctop 8 0), defScope (ctop 8 0), [], []⟩
def e7 : He.DefD := ⟨("InvalidDeed", some "__init__"), "__init__", "InvalidDeed.__init__", defArgs (ctop 9 0), defBody (ctop 9 0), defScope (ctop 9 0), [], []⟩
def e8 : He.DefD := ⟨("InvalidBook", some "__init__"), "__init__", "InvalidBook.__init__", defArgs (ctop 10 0), defBody (ctop 10 0), defScope (ctop 10 0), [], []⟩
def e9 : He.DefD := ⟨("InvalidSaying", some "__init__"), "__init__", "InvalidSaying.__init__", defArgs (ctop 11 0), defBody (ctop 11 0), defScope (ctop 11 0), [], []⟩
def e10 : He.DefD := ⟨("InvalidText", some "__init__"), "__init__", "InvalidText.__init__", defArgs (ctop 12 0), defBody (ctop 12 0), defScope (ctop 12 0), [], []⟩
def e11 : He.DefD := ⟨("InvalidLine", some "__init__"), "__init__", "InvalidLine.__init__", defArgs (ctop 13 0), defBody (ctop 13 0), defScope (ctop 13 0), [], []⟩
def e12 : He.DefD := ⟨("DoesNotFit", some "__init__"), "__init__", "DoesNotFit.__init__", defArgs (ctop 14 0), defBody (ctop 14 0), defScope (ctop 14 0), [], []⟩
def e13 : He.DefD := ⟨("InvalidDeeds", some "__init__"), "__init__", "InvalidDeeds.__init__", defArgs (ctop 15 0), defBody (ctop 15 0), defScope (ctop 15 0), [], []⟩
def e14 : He.DefD := ⟨("InvalidRows", some "__init__"), "__init__", "InvalidRows.__init__", defArgs (ctop 16 0), defBody (ctop 16 0), defScope (ctop 16 0), [], []⟩
def dfs : List He.DefD := [d0, d1, d2, d3, d4, d5, d6, d7, d8, d9, d10, e0, e1, e2, e3, e4, e5, e6, e7, e8, e9, e10, e11, e12, e13, e14]
def fas : List He.Fa := [.glo "_law_tin", .glo "_law_dip", .glo "_law_which", .glo "_law_agree", .glo "_law_thing", .glo "_law_plainly", .glo "_law_by_word", .glo "_law_under", .glo "_law_kept", .glo "_law_is_so", .glo "law", .free "len", .free "abs", .free "int", .free "repr", .free "all", .free "tuple", .free "isinstance", .free "range", .free "enumerate"]
section
variable {K : PySem.W.Frag} {h : Heap} {mg : Str → Option Value}
theorem ok0 (X : K.In h) (N : h.Ns mainGlobals mg) (c : He.SaysD fas dfs K) : DefOk (pgOf K T) T K mg tab 0 (nI 0) := by
  obtain ⟨fd, F⟩ := c.def_ 0 (d := d0) rfl
  refine ⟨_, fd, _, _, _, defScope (top 18), ["script", "side", "own", "wheel", "each"], [], ⟨2, 5, b0⟩, F, He.glo_ok X N (c.fact 0 (f := .glo "_law_tin") rfl), ⟨_, rfl, rfl⟩, ⟨rfl, rfl, rfl, by decide +kernel, rfl, by decide +kernel, by decide +kernel⟩, ?_, rfl, rfl, rfl, c0, fun z => nomatch z⟩
  intro p hp s us ws h1 h2
  obtain rfl := List.mem_singleton.mp hp
  exact match us, ws, h1, h2 with | [_, _], [], _, _ => funD_binds F (fun _ _ _ _ _ _ => rfl) s
theorem ok1 (X : K.In h) (N : h.Ns mainGlobals mg) (c : He.SaysD fas dfs K) : DefOk (pgOf K T) T K mg tab 1 (nI 1) := by
  obtain ⟨fd, F⟩ := c.def_ 1 (d := d1) rfl
  refine ⟨_, fd, _, _, _, defScope (top 19), ["tin", "many", "number"], [], ⟨2, 3, b1⟩, F, He.glo_ok X N (c.fact 1 (f := .glo "_law_dip") rfl), ⟨_, rfl, rfl⟩, ⟨rfl, rfl, rfl, by decide +kernel, rfl, by decide +kernel, by decide +kernel⟩, ?_, rfl, rfl, rfl, c1, fun z => nomatch z⟩
  intro p hp s us ws h1 h2
  obtain rfl := List.mem_singleton.mp hp
  exact match us, ws, h1, h2 with | [_, _], [], _, _ => funD_binds F (fun _ _ _ _ _ _ => rfl) s
theorem ok2 (X : K.In h) (N : h.Ns mainGlobals mg) (c : He.SaysD fas dfs K) : DefOk (pgOf K T) T K mg tab 2 (nI 2) := by
  obtain ⟨fd, F⟩ := c.def_ 2 (d := d2) rfl
  refine ⟨_, fd, _, _, _, defScope (top 20), ["tin", "things"], [], ⟨2, 2, b2⟩, F, He.glo_ok X N (c.fact 2 (f := .glo "_law_which") rfl), ⟨_, rfl, rfl⟩, ⟨rfl, rfl, rfl, by decide +kernel, rfl, by decide +kernel, by decide +kernel⟩, ?_, rfl, rfl, rfl, c2, fun z => nomatch z⟩
  intro p hp s us ws h1 h2
  obtain rfl := List.mem_singleton.mp hp
  exact match us, ws, h1, h2 with | [_, _], [], _, _ => funD_binds F (fun _ _ _ _ _ _ => rfl) s
theorem ok3 (X : K.In h) (N : h.Ns mainGlobals mg) (c : He.SaysD fas dfs K) : DefOk (pgOf K T) T K mg tab 3 (nI 3) := by
  obtain ⟨fd, F⟩ := c.def_ 3 (d := d3) rfl
  refine ⟨_, fd, _, _, _, defScope (top 21), ["told", "due"], [], ⟨2, 2, b3⟩, F, He.glo_ok X N (c.fact 3 (f := .glo "_law_agree") rfl), ⟨_, rfl, rfl⟩, ⟨rfl, rfl, rfl, by decide +kernel, rfl, by decide +kernel, by decide +kernel⟩, ?_, rfl, rfl, rfl, c3, fun z => nomatch z⟩
  intro p hp s us ws h1 h2
  obtain rfl := List.mem_singleton.mp hp
  exact match us, ws, h1, h2 with | [_, _], [], _, _ => funD_binds F (fun _ _ _ _ _ _ => rfl) s
theorem ok4 (X : K.In h) (N : h.Ns mainGlobals mg) (c : He.SaysD fas dfs K) : DefOk (pgOf K T) T K mg tab 4 (nI 4) := by
  obtain ⟨fd, F⟩ := c.def_ 4 (d := d4) rfl
  refine ⟨_, fd, _, _, _, defScope (top 22), ["tin", "deep", "kind", "inner", "part", "sign"], [], ⟨2, 6, b4⟩, F, He.glo_ok X N (c.fact 4 (f := .glo "_law_thing") rfl), ⟨_, rfl, rfl⟩, ⟨rfl, rfl, rfl, by decide +kernel, rfl, by decide +kernel, by decide +kernel⟩, ?_, rfl, rfl, rfl, c4, fun z => nomatch z⟩
  intro p hp s us ws h1 h2
  obtain rfl := List.mem_singleton.mp hp
  exact match us, ws, h1, h2 with | [_, _], [], _, _ => funD_binds F (fun _ _ _ _ _ _ => rfl) s
theorem ok5 (X : K.In h) (N : h.Ns mainGlobals mg) (c : He.SaysD fas dfs K) : DefOk (pgOf K T) T K mg tab 5 (nI 5) := by
  obtain ⟨fd, F⟩ := c.def_ 5 (d := d5) rfl
  refine ⟨_, fd, _, _, _, defScope (top 23), ["value", "every"], [], ⟨1, 2, b5⟩, F, He.glo_ok X N (c.fact 5 (f := .glo "_law_plainly") rfl), ⟨_, rfl, rfl⟩, ⟨rfl, rfl, rfl, by decide +kernel, rfl, by decide +kernel, by decide +kernel⟩, ?_, rfl, rfl, rfl, c5, fun z => nomatch z⟩
  intro p hp s us ws h1 h2
  obtain rfl := List.mem_singleton.mp hp
  exact match us, ws, h1, h2 with | [_], [], _, _ => funD_binds F (fun _ _ _ _ _ _ => rfl) s
theorem ok6 (X : K.In h) (N : h.Ns mainGlobals mg) (c : He.SaysD fas dfs K) : DefOk (pgOf K T) T K mg tab 6 (nI 6) := by
  obtain ⟨fd, F⟩ := c.def_ 6 (d := d6) rfl
  refine ⟨_, fd, _, _, _, defScope (top 24), ["value", "every"], [], ⟨1, 2, b6⟩, F, He.glo_ok X N (c.fact 6 (f := .glo "_law_by_word") rfl), ⟨_, rfl, rfl⟩, ⟨rfl, rfl, rfl, by decide +kernel, rfl, by decide +kernel, by decide +kernel⟩, ?_, rfl, rfl, rfl, c6, fun z => nomatch z⟩
  intro p hp s us ws h1 h2
  obtain rfl := List.mem_singleton.mp hp
  exact match us, ws, h1, h2 with | [_], [], _, _ => funD_binds F (fun _ _ _ _ _ _ => rfl) s
theorem ok7 (X : K.In h) (N : h.Ns mainGlobals mg) (c : He.SaysD fas dfs K) : DefOk (pgOf K T) T K mg tab 7 (nI 7) := by
  obtain ⟨fd, F⟩ := c.def_ 7 (d := d7) rfl
  refine ⟨_, fd, _, _, _, defScope (top 25), ["e", "every"], [], ⟨1, 2, b7⟩, F, He.glo_ok X N (c.fact 7 (f := .glo "_law_under") rfl), ⟨_, rfl, rfl⟩, ⟨rfl, rfl, rfl, by decide +kernel, rfl, by decide +kernel, by decide +kernel⟩, ?_, rfl, rfl, rfl, c7, fun z => nomatch z⟩
  intro p hp s us ws h1 h2
  obtain rfl := List.mem_singleton.mp hp
  exact match us, ws, h1, h2 with | [_], [], _, _ => funD_binds F (fun _ _ _ _ _ _ => rfl) s
theorem ok8 (X : K.In h) (N : h.Ns mainGlobals mg) (c : He.SaysD fas dfs K) : DefOk (pgOf K T) T K mg tab 8 (nI 8) := by
  obtain ⟨fd, F⟩ := c.def_ 8 (d := d8) rfl
  refine ⟨_, fd, _, _, _, defScope (top 26), ["value", "which", "e"], [], ⟨2, 3, b8⟩, F, He.glo_ok X N (c.fact 8 (f := .glo "_law_kept") rfl), ⟨_, rfl, rfl⟩, ⟨rfl, rfl, rfl, by decide +kernel, rfl, by decide +kernel, by decide +kernel⟩, ?_, rfl, rfl, rfl, c8, fun z => nomatch z⟩
  intro p hp s us ws h1 h2
  obtain rfl := List.mem_singleton.mp hp
  exact match us, ws, h1, h2 with | [_, _], [], _, _ => funD_binds F (fun _ _ _ _ _ _ => rfl) s
theorem ok9 (X : K.In h) (N : h.Ns mainGlobals mg) (c : He.SaysD fas dfs K) : DefOk (pgOf K T) T K mg tab 9 (nI 9) := by
  obtain ⟨fd, F⟩ := c.def_ 9 (d := d9) rfl
  refine ⟨_, fd, _, _, _, defScope (top 27), ["tin", "turn", "value", "every", "at", "e", "which", "place"], [], ⟨1, 8, b9⟩, F, He.glo_ok X N (c.fact 9 (f := .glo "_law_is_so") rfl), ⟨_, rfl, rfl⟩, ⟨rfl, rfl, rfl, by decide +kernel, rfl, by decide +kernel, by decide +kernel⟩, ?_, rfl, rfl, rfl, c9, fun z => nomatch z⟩
  intro p hp s us ws h1 h2
  obtain rfl := List.mem_singleton.mp hp
  exact match us, ws, h1, h2 with | [_], [], _, _ => funD_binds F (fun _ _ _ _ _ _ => rfl) s
theorem ok10 (X : K.In h) (N : h.Ns mainGlobals mg) (c : He.SaysD fas dfs K) : DefOk (pgOf K T) T K mg tab 10 (nI 10) := by
  obtain ⟨fd, F⟩ := c.def_ 10 (d := d10) rfl
  refine ⟨_, fd, _, _, _, defScope (top 28), ["script", "side"], [], ⟨1, 2, b10⟩, F, He.glo_ok X N (c.fact 10 (f := .glo "law") rfl), ⟨_, rfl, rfl⟩, ⟨rfl, rfl, rfl, by decide +kernel, rfl, by decide +kernel, by decide +kernel⟩, ?_, rfl, rfl, rfl, c10, fun z => nomatch z⟩
  intro p hp s us ws h1 h2
  obtain rfl := List.mem_singleton.mp hp
  exact match us, ws, h1, h2 with | [_], [], _, _ => funD_binds F (fun _ _ _ _ _ _ => rfl) s
theorem defs_ok (X : K.In h) (N : h.Ns mainGlobals mg) (c : He.SaysD fas dfs K) : ∀ (f : Nat) info, T.fns[f]? = some info → DefOk (pgOf K T) T K mg tab f info
  | 0, _, e => by cases e; exact ok0 X N c
  | 1, _, e => by cases e; exact ok1 X N c
  | 2, _, e => by cases e; exact ok2 X N c
  | 3, _, e => by cases e; exact ok3 X N c
  | 4, _, e => by cases e; exact ok4 X N c
  | 5, _, e => by cases e; exact ok5 X N c
  | 6, _, e => by cases e; exact ok6 X N c
  | 7, _, e => by cases e; exact ok7 X N c
  | 8, _, e => by cases e; exact ok8 X N c
  | 9, _, e => by cases e; exact ok9 X N c
  | 10, _, e => by cases e; exact ok10 X N c
  | n + 11, _, e => nomatch (show (none : Option FnInfo) = some _ from e)
theorem ins_ok (c : He.SaysD fas dfs K) : ∀ y ∈ T.exs, ∃ (qn : Str) (p1 p2 q1 q2 q3 q4 : Pos) (fd : FuncData), FunD K "__init__" qn (PySem.PyX.iA y.2 p1 p2) (PySem.PyX.iB y.2 q1 q2 q3 q4) (PySem.PyX.iS y.2) [] [] (He.ma K (He.ga K y.1) "__init__") fd := by
  obtain ⟨f0, E0⟩ := c.def_ 11 (d := e0) rfl
  obtain ⟨f1, E1⟩ := c.def_ 12 (d := e1) rfl
  obtain ⟨f2, E2⟩ := c.def_ 13 (d := e2) rfl
  obtain ⟨f3, E3⟩ := c.def_ 14 (d := e3) rfl
  obtain ⟨f4, E4⟩ := c.def_ 15 (d := e4) rfl
  obtain ⟨f5, E5⟩ := c.def_ 16 (d := e5) rfl
  obtain ⟨f6, E6⟩ := c.def_ 17 (d := e6) rfl
  obtain ⟨f7, E7⟩ := c.def_ 18 (d := e7) rfl
  obtain ⟨f8, E8⟩ := c.def_ 19 (d := e8) rfl
  obtain ⟨f9, E9⟩ := c.def_ 20 (d := e9) rfl
  obtain ⟨f10, E10⟩ := c.def_ 21 (d := e10) rfl
  obtain ⟨f11, E11⟩ := c.def_ 22 (d := e11) rfl
  obtain ⟨f12, E12⟩ := c.def_ 23 (d := e12) rfl
  obtain ⟨f13, E13⟩ := c.def_ 24 (d := e13) rfl
  obtain ⟨f14, E14⟩ := c.def_ 25 (d := e14) rfl
  intro y hy
  rcases List.mem_cons.mp hy with e | hy
  · subst e; exact ⟨_, _, _, _, _, _, _, f0, E0⟩
  rcases List.mem_cons.mp hy with e | hy
  · subst e; exact ⟨_, _, _, _, _, _, _, f1, E1⟩
  rcases List.mem_cons.mp hy with e | hy
  · subst e; exact ⟨_, _, _, _, _, _, _, f2, E2⟩
  rcases List.mem_cons.mp hy with e | hy
  · subst e; exact ⟨_, _, _, _, _, _, _, f3, E3⟩
  rcases List.mem_cons.mp hy with e | hy
  · subst e; exact ⟨_, _, _, _, _, _, _, f4, E4⟩
  rcases List.mem_cons.mp hy with e | hy
  · subst e; exact ⟨_, _, _, _, _, _, _, f5, E5⟩
  rcases List.mem_cons.mp hy with e | hy
  · subst e; exact ⟨_, _, _, _, _, _, _, f6, E6⟩
  rcases List.mem_cons.mp hy with e | hy
  · subst e; exact ⟨_, _, _, _, _, _, _, f7, E7⟩
  rcases List.mem_cons.mp hy with e | hy
  · subst e; exact ⟨_, _, _, _, _, _, _, f8, E8⟩
  rcases List.mem_cons.mp hy with e | hy
  · subst e; exact ⟨_, _, _, _, _, _, _, f9, E9⟩
  rcases List.mem_cons.mp hy with e | hy
  · subst e; exact ⟨_, _, _, _, _, _, _, f10, E10⟩
  rcases List.mem_cons.mp hy with e | hy
  · subst e; exact ⟨_, _, _, _, _, _, _, f11, E11⟩
  rcases List.mem_cons.mp hy with e | hy
  · subst e; exact ⟨_, _, _, _, _, _, _, f12, E12⟩
  rcases List.mem_cons.mp hy with e | hy
  · subst e; exact ⟨_, _, _, _, _, _, _, f13, E13⟩
  obtain rfl := List.mem_singleton.mp hy
  exact ⟨_, _, _, _, _, _, _, f14, E14⟩
theorem free_all (X : K.In h) (N : h.Ns mainGlobals mg) (c : He.SaysD fas dfs K) : ∀ x ∈ T.free, mg x = none := by
  intro x hx
  rcases List.mem_cons.mp hx with e | hx
  · subst e; exact He.free_ok X N (c.fact 11 (f := .free "len") rfl)
  rcases List.mem_cons.mp hx with e | hx
  · subst e; exact He.free_ok X N (c.fact 12 (f := .free "abs") rfl)
  rcases List.mem_cons.mp hx with e | hx
  · subst e; exact He.free_ok X N (c.fact 13 (f := .free "int") rfl)
  rcases List.mem_cons.mp hx with e | hx
  · subst e; exact He.free_ok X N (c.fact 14 (f := .free "repr") rfl)
  rcases List.mem_cons.mp hx with e | hx
  · subst e; exact He.free_ok X N (c.fact 15 (f := .free "all") rfl)
  rcases List.mem_cons.mp hx with e | hx
  · subst e; exact He.free_ok X N (c.fact 16 (f := .free "tuple") rfl)
  rcases List.mem_cons.mp hx with e | hx
  · subst e; exact He.free_ok X N (c.fact 17 (f := .free "isinstance") rfl)
  rcases List.mem_cons.mp hx with e | hx
  · subst e; exact He.free_ok X N (c.fact 18 (f := .free "range") rfl)
  obtain rfl := List.mem_singleton.mp hx
  exact He.free_ok X N (c.fact 19 (f := .free "enumerate") rfl)
theorem all_ok (X : K.In h) (N : h.Ns mainGlobals mg) (c : He.SaysD fas dfs K) (cx : xbOf T K = true) : ProgOk (pgOf K T) T K mg tab :=
  prog_ok X N cx (free_all X N c) (by decide) (ins_ok c) (defs_ok X N c)
end
def loose0 : List PySem.Str := ["__name__", "SpanError", "InvalidPrime", "InvalidRow", "InvalidWorld", "InvalidNumber", "InvalidNumbers", "InvalidName", "InvalidNames", "InvalidDeed", "InvalidBook", "InvalidSaying", "InvalidText", "InvalidLine", "DoesNotFit", "InvalidDeeds", "InvalidRows", "_law_tin", "_law_dip", "_law_which", "_law_agree", "_law_thing", "_law_plainly", "_law_by_word", "_law_under", "_law_kept", "_law_is_so"]
def loose : List PySem.Str := loose0
abbrev R : PySem.W.OpenRow := PySem.W.OpenLaw.row PySem.Challenge.rw_spanbooks_k01_errors_that_keep_values_or
abbrev hk : PySem.W.Hook := hookT 5 fas dfs T
def ob (s : PySem.W.SharedT) : He.AlD × Bool := obsX 5 fas dfs (fun K => xbOf T K && noL K) (HandSHeadRun.getT s)
theorem ob_eq (s : PySem.W.SharedT) : ob s = hk.obs s.abs := obsX_eq (HandSHeadRun.getT_eq s)
theorem run (w : World) : HandSHeadRun.RunEq R (PySem.W.view R.prog [28]) hk ob 8000 loose w := by
  intro os
  kernel_rfl
end K01
end
section
set_option Elab.async false
set_option linter.all false
set_option maxRecDepth 100000
set_option maxHeartbeats 4000000
open PySem PySem.W PySem.Calls
set_option maxRecDepth 100000 in
set_option maxHeartbeats 8000000 in
theorem PySem.Challenge.cw_spanbooks_k01_errors_that_keep_values_or_holds : PySem.Challenge.rw_spanbooks_k01_errors_that_keep_values_or.Holds := by
  w_on; o_law
  refine HandSHeadRun.head_any (r := K01.R) (q := view K01.R.prog [28]) (H := K01.hk) (ob := K01.ob) (M := 8000) (loose := K01.loose) (d := HandSHeadRun.topDef K01.R.prog 28) (kwd := []) K01.ob_eq
    (by kernel_rfl) (fun s => by kernel_rfl) K01.run (by kernel_rfl) (by kernel_rfl) (by kernel_rfl) (by rfl) (by first | assumption | decide +kernel) (by decide +kernel) ⟨rfl, rfl, rfl, rfl, rfl, by decide +kernel⟩ ?hw ?hc
  case hw => w_witness2
  case hc => exact Py.law_end (l := PySem.Challenge.rw_spanbooks_k01_errors_that_keep_values_or) (n := K01.deep) (li := 10) (info := K01.nI 10) rfl (by kernel_rfl) ⟨by decide, by decide⟩ rfl rfl (by decide) (by kernel_rfl) K01.law_pure fun K h mg X N c cx => K01.all_ok X N c cx
end
