import PyProof.Rows.All
import Wide.All
import OpenK.AllK
import Wide.FinOn
import HandS.ForMost
import HandS.Wide
import HandS.Zip
import HandS.Rev
import HandS.TupAny
import HandS.IsInst
import HandS.ExcOwn
import HandS.CallSlots
import HandS.Dict
import HandS.Deep
import PyProof.StrOps2
import HandS.Text
import HandS.Exc
import HandS.ExcIs
import HandS.ExcInit
import HandS.WordsExc
import HandS.SuiteRaise
import HandS.RaiseFrom
import HandS.Defaults
import HandS.ClsMeth
import HandS.CallRecv
import HandS.Strs
import HandS.List
import PyProof.ListNew
import PyProof.ListRange
import HandS.Conv
import HandS.Spec
import PyProof.EnumMake
import PyProof.EnumFor
import PyProof.Draws
import KE.GoesMore
import HandS.Iter
import HandS.ForSpec
import HandS.Flow
import HandS.EndBits
import Open.SpecLaws
import KE.OsGo
import PySem.Challenge.RW_compasshall_k37_rows_changed
section
set_option linter.all false
set_option maxRecDepth 100000
/-! Ev: my own small language of values, code and its evaluation; no program in sight. -/
namespace Dp

/-- a datum: what a value stands for, all the way down -/
inductive D where
  | non | bl (b : Bool) | int (i : Int) | str (s : List Nat) | tup (xs : List D) | lst (xs : List D)
  | ref (l : Nat) | exc (c : Nat) (xs : List D)
  deriving Inhabited

abbrev Nv := List (Option D)
/-- a cell of the store -/
inductive Cell where
  | lst (xs : List D)
  | dct (kvs : List (List Nat × D))
  | ins (c : Nat) (fs : List (Nat × D))
abbrev Sto := List Cell

inductive Rs (α : Type) where
  | ok (a : α) (st : Sto)
  | ex (x : D) (st : Sto)
/-- none: it is not told what happens -/
abbrev Ans (α : Type) := Option (Rs α)
def bnd {α β : Type} (m : Ans α) (f : α → Sto → Ans β) : Ans β :=
  match m with
  | none => none
  | some (.ok a st) => f a st
  | some (.ex x st) => some (.ex x st)
def lft {α : Type} (o : Option α) (st : Sto) : Ans α :=
  match o with
  | none => none
  | some a => some (.ok a st)
@[simp] theorem bnd_ok {α β : Type} (a : α) (st : Sto) (f : α → Sto → Ans β) : bnd (some (.ok a st)) f = f a st := rfl
@[simp] theorem bnd_ex {α β : Type} (x : D) (st : Sto) (f : α → Sto → Ans β) : bnd (some (.ex x st)) f = some (.ex x st) := rfl
@[simp] theorem bnd_none {α β : Type} (f : α → Sto → Ans β) : bnd (none : Ans α) f = none := rfl
@[simp] theorem lft_some {α : Type} (a : α) (st : Sto) : lft (some a) st = some (.ok a st) := rfl
@[simp] theorem lft_none {α : Type} (st : Sto) : lft (none : Option α) st = none := rfl

/-! ### equality of data -/
mutual
/-- a == b; none where it is not told (what hangs on the store) -/
def deq : D → D → Option Bool
  | .ref _, _ => none
  | .exc _ _, _ => none
  | _, .ref _ => none
  | _, .exc _ _ => none
  | .non, .non => some true
  | .bl a, .bl b => some (a == b)
  | .int a, .int b => some (decide (a = b))
  | .bl _, .int _ => none
  | .int _, .bl _ => none
  | .str a, .str b => some (decide (a = b))
  | .tup a, .tup b => deqs a b
  | .lst a, .lst b => deqs a b
  | .non, _ => some false
  | _, .non => some false
  | .int _, .str _ => some false
  | .int _, .tup _ => some false
  | .int _, .lst _ => some false
  | .str _, .int _ => some false
  | .str _, .tup _ => some false
  | .str _, .lst _ => some false
  | .tup _, .int _ => some false
  | .tup _, .str _ => some false
  | .tup _, .lst _ => some false
  | .lst _, .int _ => some false
  | .lst _, .str _ => some false
  | .lst _, .tup _ => some false
  | .bl _, .str _ => some false
  | .bl _, .tup _ => some false
  | .bl _, .lst _ => some false
  | .str _, .bl _ => some false
  | .tup _, .bl _ => some false
  | .lst _, .bl _ => some false
def deqs : List D → List D → Option Bool
  | [], [] => some true
  | [], _ :: _ => some false
  | _ :: _, [] => some false
  | x :: xs, y :: ys => match deq x y, deqs xs ys with
    | some a, some b => some (a && b)
    | _, _ => none
end

/-- not deep, and its texts are texts -/
def shl : Nat → D → Bool
  | _, .non => true
  | _, .bl _ => true
  | _, .int _ => true
  | _, .str s => s.all (· < 1114112)
  | 0, _ => false
  | n + 1, .tup xs => xs.all (shl n)
  | n + 1, .lst xs => xs.all (shl n)
  | _, _ => false

/-! ### code -/
inductive Bop where | add | sub | mul | fdiv | mod | pow | xor
  deriving DecidableEq
inductive Cop where | eq | ne | lt | le | gt | ge | is | isnot | isin | notin
  deriving DecidableEq
inductive Bi where | len | abs | int | str | tuple | list | sum | any | all | max | min
  deriving DecidableEq
/-- what isinstance asks -/
inductive Ty where | int | bool | str | tuple | list | cls (c : Nat)
  deriving DecidableEq

mutual
inductive Ex where
  | var (i : Nat)
  | cst (c : D)
  | glb (g : Nat)
  | bin (op : Bop) (a b : Ex)
  | neg (a : Ex)
  | not (a : Ex)
  | one (a : Ex)
  | and (a b : Ex)
  | or (a b : Ex)
  | cmp (op : Cop) (a b : Ex)
  | chn (op op' : Cop) (a b c : Ex)
  | ite (c a b : Ex)
  | call (f : Nat) (as : Exs)
  | bi (f : Bi) (as : Exs)
  | isi (a : Ex) (t : Ty)
  | tup (as : Exs)
  | lst (as : Exs)
  | mls (as : Exs)
  | ix (a i : Ex)
  | slc (a : Ex) (lo hi : Exo)
  | lc (m : Bool) (own : List Nat) (e : Ex) (tg : Tg) (it : Wk) (c : Exo)
  | mad (a b : Ex)
  | sls (a : Ex) (lo hi : Exo) (st : Ex)
  | idx (a b : Ex)
  | att (f : Nat) (a : Ex)
  | rvl (a : Ex)
  | idt (g : Nat) (b : Ex)
  | par (a b : Ex)
  | spl (a b : Ex)
  | dcm (op : Cop) (a b : Ex)
  | dch (op op' : Cop) (a b c : Ex)
  | dnw
  | upr (a : Ex)
  | cld (f : Nat) (as : Exs) (d : Int)
  | pop (a : Ex)
  | pop1 (a i : Ex)
  | mrp (a k : Ex)
  | lrg (a : Ex)
  | fld (f : Nat) (a : Ex)
  | mth (m : Nat) (a : Ex) (as : Exs)
  | new (c : Nat) (as : Exs)
  | inb (c : Nat) (as : Exs)
  | isn (a : Ex) (c : Nat)
  | joi (a b : Ex)
  | lcp (a : Ex)
  | keys (a : Ex)
  | din (n : Bool) (a b : Ex)
  | dsb (a k : Ex)
  | rpl (a b c : Ex)
inductive Exs where
  | nil
  | cons (e : Ex) (r : Exs)
inductive Exo where
  | none
  | some (e : Ex)
inductive Wk where
  | seq (e : Ex)
  | rng1 (a : Ex)
  | rng2 (a b : Ex)
  | rng3 (a b c : Ex)
  | enm (e : Ex)
  | zip (a b : Ex)
  | rev (e : Ex)
inductive Tg where
  | nm (i : Nat)
  | tp (is : List Nat)
end

mutual
inductive Sm where
  | nil
  | seq (a b : Sm)
  | asg (tg : Tg) (e : Ex)
  | ifs (c : Ex) (a b : Sm)
  | whl (c : Ex) (b : Sm)
  | fr (tg : Tg) (it : Wk) (b : Sm)
  | ret (e : Ex)
  | retn
  | exp (e : Ex)
  | pass
  | brk
  | cnt
  | app (x e : Ex)
  | sti (x i e : Ex)
  | rse (c : Nat) (as : Exs)
  | tryk (b : Sm) (c i j : Nat)
  | trya (b : Sm) (c i j f : Nat)
  | fst (f : Nat) (x e : Ex)
  | dst (x k e : Ex)
  | trym (b : Sm) (hs : Hds)
  | tryr (b : Sm) (c c2 : Nat)
  | nope
inductive Hds where
  | nil
  | cons (c : Nat) (i : Option Nat) (b : Sm) (r : Hds)
end

/-! ### operations on data -/
/-- how great a factor may be -/
def sm (i : Int) : Bool := decide (i.natAbs.log2 < 67000000)
def bop : Bop → D → D → Option D
  | .add, .int i, .int j => some (.int (i + j))
  | .sub, .int i, .int j => some (.int (i - j))
  | .mul, .int i, .int j => if sm i && sm j then some (.int (i * j)) else none
  | .fdiv, .int i, .int j => if j = 0 then none else some (.int (i.fdiv j))
  | .mod, .int i, .int j => if j = 0 then none else some (.int (i.fmod j))
  | .pow, .int i, .int j => if 0 ≤ j ∧ j ≤ 1000000 ∧ i.natAbs < 2 ^ 64 then some (.int (i ^ j.toNat)) else none
  | .add, .str a, .str b => if a.length + b.length ≤ 1000000 then some (.str (a ++ b)) else none
  | .add, .tup a, .tup b => if a.length + b.length ≤ 1000000 then some (.tup (a ++ b)) else none
  | .add, .lst a, .lst b => if a.length + b.length ≤ 1000000 then some (.lst (a ++ b)) else none
  | .mul, .str [c], .int k => if 2 ≤ k ∧ k ≤ 1000 then some (.str (List.replicate k.toNat c)) else none
  | .mul, .lst a, .int k => if k ≤ 1000 ∧ -1000 ≤ k ∧ a.length ≤ 1000 then some (.lst (List.replicate k.toNat a).flatten) else none
  | _, _, _ => none
/-- is it a plain thing for 'in' -/
def flat : D → Bool
  | .int _ => true
  | .str _ => true
  | .non => true
  | _ => false
def flatEq : D → D → Bool
  | .int a, .int b => decide (a = b)
  | .str a, .str b => decide (a = b)
  | .non, .non => true
  | _, _ => false
def inSeq (x : D) (xs : List D) : Option Bool := if flat x && xs.all flat then some (xs.any fun y => flatEq y x) else none
/-- in, over data that may be nested -/
def anyEq (x : D) : List D → Option Bool
  | [] => some false
  | y :: ys => match deq y x, anyEq x ys with
    | some a, some b => some (a || b)
    | _, _ => none
def inLst (x : D) (xs : List D) : Option Bool := match inSeq x xs with
  | some b => some b
  | none => if shl 60 x && shl 60 (.lst xs) then anyEq x xs else none
def cop : Cop → D → D → Option Bool
  | .eq, a, b => if shl 60 a && shl 60 b then deq a b else none
  | .ne, a, b => if shl 60 a && shl 60 b then (deq a b).map (!·) else none
  | .lt, .int i, .int j => some (decide (i < j))
  | .le, .int i, .int j => some (decide (i ≤ j))
  | .gt, .int i, .int j => some (decide (j < i))
  | .ge, .int i, .int j => some (decide (j ≤ i))
  | .is, a, .non => some (match a with | .non => true | _ => false)
  | .isnot, a, .non => some (match a with | .non => false | _ => true)
  | .is, .bl a, .bl b => some (a == b)
  | .isnot, .bl a, .bl b => some (!(a == b))
  | .isin, x, .tup xs => inSeq x xs
  | .isin, x, .lst xs => inLst x xs
  | .notin, x, .tup xs => (inSeq x xs).map (!·)
  | .notin, x, .lst xs => (inLst x xs).map (!·)
  | .isin, .str [c], .str z => some (decide (c ∈ z))
  | .notin, .str [c], .str z => some (!decide (c ∈ z))
  | _, _, _ => none
/-- truth -/
def tru : D → Option Bool
  | .non => some false
  | .bl b => some b
  | .int i => some (i != 0)
  | .str s => if s.length ≤ 1000000 then some (s.length != 0) else none
  | .tup xs => some (!xs.isEmpty)
  | .lst xs => some (!xs.isEmpty)
  | _ => none
/-- a list of the store as the list it is now; else the thing itself -/
def view (st : Sto) : D → D
  | .ref l => match st[l]? with
    | some (.lst xs) => .lst xs
    | _ => .ref l
  | d => d
def intsOf : List D → Option (List Int)
  | [] => some []
  | .int i :: r => (intsOf r).map (i :: ·)
  | _ => none
def blsOf : List D → Option (List Bool)
  | [] => some []
  | .bl i :: r => (blsOf r).map (i :: ·)
  | _ => none
def greatest : Int → List Int → Int
  | m, [] => m
  | m, x :: r => greatest (if x > m then x else m) r
def least : Int → List Int → Int
  | m, [] => m
  | m, x :: r => least (if x < m then x else m) r
/-- the digits of a number, read off a text: figures alone, at most 640 -/
def digitsVal : Nat → List Nat → Option Nat
  | acc, [] => some acc
  | acc, c :: r => if 48 ≤ c ∧ c ≤ 57 then digitsVal (acc * 10 + (c - 48)) r else none
def readInt : List Nat → Option Int
  | [] => none
  | s => if s.length ≤ 640 then (digitsVal 0 s).map (Int.ofNat ·) else none
/-- a number's text -/
def showInt (i : Int) : List Nat := (toString i).toList.map Char.toNat
def bfn : Bi → List D → Option D
  | .len, [.tup xs] => some (.int xs.length)
  | .len, [.lst xs] => some (.int xs.length)
  | .len, [.str s] => if s.length ≤ 1000000 then some (.int s.length) else none
  | .abs, [.int i] => some (.int (if i < 0 then -i else i))
  | .int, [.int i] => some (.int i)
  | .int, [.bl b] => some (.int (if b then 1 else 0))
  | .int, [.str s] => (readInt s).map .int
  | .str, [.int i] => if i.natAbs.log2 < 1920 then some (.str (showInt i)) else none
  | .tuple, [.tup xs] => some (.tup xs)
  | .tuple, [.lst xs] => some (.tup xs)
  | .list, [.tup xs] => some (.lst xs)
  | .list, [.lst xs] => some (.lst xs)
  | .sum, [.lst xs] => (intsOf xs).map fun ns => .int ns.sum
  | .any, [.lst xs] => match intsOf xs with
    | some ns => some (.bl (ns.any (· != 0)))
    | none => (blsOf xs).map fun bs => .bl (bs.any id)
  | .any, [.tup xs] => (intsOf xs).map fun ns => .bl (ns.any (· != 0))
  | .all, [.lst xs] => (blsOf xs).map fun bs => .bl (bs.all id)
  | .max, [.tup xs] => match intsOf xs with
    | some (n :: ns) => some (.int (greatest n ns))
    | _ => none
  | .max, [.lst xs] => match intsOf xs with
    | some (n :: ns) => some (.int (greatest n ns))
    | _ => none
  | .min, [.tup xs] => match intsOf xs with
    | some (n :: ns) => some (.int (least n ns))
    | _ => none
  | .min, [.lst xs] => match intsOf xs with
    | some (n :: ns) => some (.int (least n ns))
    | _ => none
  | .max, [.int i, .int j] => some (.int (if j > i then j else i))
  | .min, [.int i, .int j] => some (.int (if j < i then j else i))
  | _, _ => none
def isTy (sub : Nat → Nat → Option Bool) : Ty → D → Option Bool
  | _, .ref _ => none
  | .int, .int _ => some true
  | .int, .bl _ => some true
  | .int, .exc _ _ => none
  | .int, _ => some false
  | .bool, .bl _ => some true
  | .bool, .exc _ _ => none
  | .bool, _ => some false
  | .str, .str _ => some true
  | .str, .exc _ _ => none
  | .str, _ => some false
  | .tuple, .tup _ => some true
  | .tuple, .exc _ _ => none
  | .tuple, _ => some false
  | .list, .lst _ => some true
  | .list, .exc _ _ => none
  | .list, _ => some false
  | .cls c, .exc x _ => sub x c
  | .cls c, .non => (sub c c).map fun _ => false
  | .cls _, _ => none
/-- isinstance, of what hangs on the store too -/
def isTyS (st : Sto) (sub : Nat → Nat → Option Bool) : Ty → D → Option Bool
  | t, .ref l => match st[l]? with
    | some (.dct _) => match t with
      | .cls _ => none
      | _ => some false
    | _ => none
  | t, d => isTy sub t d
/-- all the way down: a list of the store as the list it is now -/
def dvw (st : Sto) : Nat → D → D
  | n + 1, .ref l => match st[l]? with
    | some (.lst xs) => .lst (xs.map (dvw st n))
    | _ => .ref l
  | n + 1, .tup xs => .tup (xs.map (dvw st n))
  | n + 1, .lst xs => .lst (xs.map (dvw st n))
  | _, d => d
/-- in capitals: some written words -/
def uprD : D → Option D
  | .str s => if s = [98, 101, 108, 111, 119] then some (.str [66, 69, 76, 79, 87])
    else if s = [98, 101, 116, 119, 101, 101, 110] then some (.str [66, 69, 84, 87, 69, 69, 78])
    else if s = [98, 111, 116, 104] then some (.str [66, 79, 84, 72])
    else if s = [110, 111, 114, 109] then some (.str [78, 79, 82, 77])
    else if s = [104, 97, 108, 118, 101, 115] then some (.str [72, 65, 76, 86, 69, 83]) else none
  | _ => none
def ixN (n : Nat) (i : Int) : Option Nat := if 0 ≤ i then (if i < n then some i.toNat else none) else if -(n : Int) ≤ i then some (i + n).toNat else none
def atI {α : Type} (xs : List α) (i : Int) : Option α := (ixN xs.length i).bind fun j => xs[j]?
def ixd : D → D → Option D
  | .tup xs, .int i => atI xs i
  | .lst xs, .int i => atI xs i
  | .str s, .int i => if s.length ≤ 1000000 then (atI s i).map fun c => .str [c] else none
  | _, _ => none
def sIx (n d : Nat) : Option Int → Nat
  | none => d
  | some i => if i < 0 then (i + n).toNat else min i.toNat n
def cut {α : Type} (xs : List α) (lo hi : Option Int) : List α := (xs.drop (sIx xs.length 0 lo)).take (sIx xs.length xs.length hi - sIx xs.length 0 lo)
def sld (lo hi : Option Int) : D → Option D
  | .tup xs => some (.tup (cut xs lo hi))
  | .lst xs => some (.lst (cut xs lo hi))
  | .str s => if s.length ≤ 1000000 then some (.str (cut s lo hi)) else none
  | _ => none
def optI : Option D → Option (Option Int)
  | none => some none
  | some (.int i) => some (some i)
  | _ => none

/-- what stands around the code: constants, which class lies under which -/
structure Wd where
  glb : Nat → Option D
  sub : Nat → Nat → Option Bool
  fok : Nat → Nat → Bool := fun _ _ => false
  mth : Nat → Nat → Option Nat := fun _ _ => none
  ini : Nat → Option Nat := fun _ => none
  isn : Nat → Nat → Option Bool := fun _ _ => none

/-! ### walking -/
/-- how a statement ends -/
inductive Fl where
  | nx (e : Nv)
  | rt (d : D)
  | bk (e : Nv)
  | ct (e : Nv)
  | xc (x : D) (e : Nv)
abbrev Out := Option (Fl × Sto)
/-- what an expression raises leaves the statement, the names as they stand -/
def bnS {α : Type} (m : Ans α) (env : Nv) (f : α → Sto → Out) : Out :=
  match m with
  | none => none
  | some (.ok a st) => f a st
  | some (.ex x st) => some (.xc x env, st)
@[simp] theorem bnS_ok {α : Type} (a : α) (st : Sto) (env : Nv) (f : α → Sto → Out) : bnS (some (.ok a st)) env f = f a st := rfl
@[simp] theorem bnS_ex {α : Type} (x : D) (st : Sto) (env : Nv) (f : α → Sto → Out) : bnS (some (.ex x st)) env f = some (.xc x env, st) := rfl
@[simp] theorem bnS_none {α : Type} (env : Nv) (f : α → Sto → Out) : bnS (none : Ans α) env f = none := rfl
/-- one statement, then the next -/
def sqn (m : Out) (f : Nv → Sto → Out) : Out := match m with
  | some (.nx e, st) => f e st
  | r => r
@[simp] theorem sqn_nx (e : Nv) (st : Sto) (f : Nv → Sto → Out) : sqn (some (.nx e, st)) f = f e st := rfl
@[simp] theorem sqn_rt (d : D) (st : Sto) (f : Nv → Sto → Out) : sqn (some (.rt d, st)) f = some (.rt d, st) := rfl
@[simp] theorem sqn_xc (d : D) (e : Nv) (st : Sto) (f : Nv → Sto → Out) : sqn (some (.xc d e, st)) f = some (.xc d e, st) := rfl
@[simp] theorem sqn_bk (e : Nv) (st : Sto) (f : Nv → Sto → Out) : sqn (some (.bk e, st)) f = some (.bk e, st) := rfl
@[simp] theorem sqn_ct (e : Nv) (st : Sto) (f : Nv → Sto → Out) : sqn (some (.ct e, st)) f = some (.ct e, st) := rfl
@[simp] theorem sqn_none (f : Nv → Sto → Out) : sqn none f = none := rfl
/-- one turn of a loop, then the next -/
def trn (m : Out) (f : Nv → Sto → Out) : Out := match m with
  | some (.nx e, st) => f e st
  | some (.ct e, st) => f e st
  | some (.bk e, st) => some (.nx e, st)
  | r => r
@[simp] theorem trn_nx (e : Nv) (st : Sto) (f : Nv → Sto → Out) : trn (some (.nx e, st)) f = f e st := rfl
@[simp] theorem trn_rt (d : D) (st : Sto) (f : Nv → Sto → Out) : trn (some (.rt d, st)) f = some (.rt d, st) := rfl
@[simp] theorem trn_xc (d : D) (e : Nv) (st : Sto) (f : Nv → Sto → Out) : trn (some (.xc d e, st)) f = some (.xc d e, st) := rfl
@[simp] theorem trn_bk (e : Nv) (st : Sto) (f : Nv → Sto → Out) : trn (some (.bk e, st)) f = some (.nx e, st) := rfl
@[simp] theorem trn_ct (e : Nv) (st : Sto) (f : Nv → Sto → Out) : trn (some (.ct e, st)) f = f e st := rfl
@[simp] theorem trn_none (f : Nv → Sto → Out) : trn none f = none := rfl
/-- for: over the items as they stand -/
def walk (body : D → Nv → Sto → Out) : List D → Nv → Sto → Out
  | [], env, st => some (.nx env, st)
  | x :: xs, env, st => trn (body x env st) (walk body xs)
/-- .. over a list of the store, as it is at each turn -/
def walkR (f : Nat → D → D) (body : D → Nv → Sto → Out) (l : Nat) : Nat → Nat → Nv → Sto → Out
  | i, n, env, st => match st[l]? with
    | some (.lst xs) => match xs[i]? with
      | none => some (.nx env, st)
      | some x => match n with
        | 0 => none
        | n + 1 => trn (body (f i x) env st) (walkR f body l (i + 1) n)
    | _ => none
def noex {α : Type} (m : Ans α) : Ans α := match m with
  | some (.ex _ _) => none
  | r => r
@[simp] theorem noex_ok {α : Type} (a : α) (st : Sto) : noex (some (.ok a st)) = some (.ok a st) := rfl
/-- a comprehension: each item's element, none where the test says no -/
def comp (body : D → Sto → Ans (Option D)) : List D → Sto → Ans (List D)
  | [], st => some (.ok [] st)
  | x :: xs, st => bnd (body x st) fun o st' => bnd (comp body xs st') fun r st'' => match o with
    | none => some (.ok r st'')
    | some y => some (.ok (y :: r) st'')
def compR (f : Nat → D → D) (body : D → Sto → Ans (Option D)) (l : Nat) : Nat → Nat → Sto → Ans (List D)
  | i, n, st => match st[l]? with
    | some (.lst xs) => match xs[i]? with
      | none => some (.ok [] st)
      | some x => match n with
        | 0 => none
        | n + 1 => bnd (body (f i x) st) fun o st' => bnd (compR f body l (i + 1) n st') fun r st'' => match o with
          | none => some (.ok r st'')
          | some y => some (.ok (y :: r) st'')
    | _ => none
/-- what is walked: items as they stand, or a list of the store -/
inductive Src where
  | its (xs : List D)
  | cel (e : Bool) (l : Nat)
def size (st : Sto) (l : Nat) : Nat := match st[l]? with
  | some (.lst xs) => xs.length
  | _ => 0
/-- an item as it is, or with its number -/
def itm (e : Bool) (i : Nat) (x : D) : D := if e then .tup [.int (i : Nat), x] else x
def walkS (body : D → Nv → Sto → Out) (s : Src) (env : Nv) (st : Sto) : Out := match s with
  | .its xs => walk body xs env st
  | .cel e l => walkR (itm e) body l 0 (size st l) env st
def compS (body : D → Sto → Ans (Option D)) (s : Src) (st : Sto) : Ans (List D) := match s with
  | .its xs => comp body xs st
  | .cel e l => compR (itm e) body l 0 (size st l) st
/-- while, with at most n turns -/
def loop (test : Nv → Sto → Ans Bool) (body : Nv → Sto → Out) : Nat → Nv → Sto → Out
  | 0, _, _ => none
  | n + 1, env, st => bnS (test env st) env fun b st' => if b = true then trn (body env st') (loop test body n) else some (.nx env, st')
open Classical in
/-- while: what it comes to, if it ends -/
noncomputable def whle (test : Nv → Sto → Ans Bool) (body : Nv → Sto → Out) (env : Nv) (st : Sto) : Out :=
  if h : ∃ n r, loop test body n env st = some r then some (choose (choose_spec h)) else none

def setAll : List Nat → List D → Nv → Option Nv
  | [], [], env => some env
  | i :: is, d :: ds, env => setAll is ds (env.set i (some d))
  | _, _, _ => none
def asgn : Tg → D → Nv → Option Nv
  | .nm i, d, env => some (env.set i (some d))
  | .tp is, .tup ds, env => setAll is ds env
  | .tp is, .lst ds, env => setAll is ds env
  | _, _, _ => none
def wipe (env : Nv) : List Nat → Nv
  | [] => env
  | v :: vs => (wipe env vs).set v none
def rngL (lo hi : Int) : List D := (List.range (hi - lo).toNat).map fun (k : Nat) => D.int (lo + (k : Int))
def rngD (hi lo : Int) : List D := (List.range (hi - lo).toNat).map fun (k : Nat) => D.int (hi + (k : Int) * -1)
/-- lo, lo + k, .. below hi -/
def rngN (lo hi k : Int) : Nat := if lo < hi then ((hi - lo - 1) / k + 1).toNat else 0
def rngS (lo hi k : Int) : List D := (List.range (rngN lo hi k)).map fun (q : Nat) => D.int (lo + (q : Int) * k)
def small62 (i : Int) : Bool := decide (-(2 ^ 62) ≤ i ∧ i < 2 ^ 62)
def items : D → Option (List D)
  | .tup xs => some xs
  | .lst xs => some xs
  | _ => none
def srcs : D → Option Src
  | .tup xs => some (.its xs)
  | .lst xs => some (.its xs)
  | .str s => some (.its (s.map fun c => .str [c]))
  | .ref l => some (.cel false l)
  | _ => none
/-- .. and a cell that is walked is a list -/
def lcel (s : Sto) : Option Src → Option Src
  | some (.cel e l) => match s[l]? with
    | some (.lst _) => some (.cel e l)
    | _ => none
  | o => o
@[simp] theorem lcel_its (s : Sto) (xs : List D) : lcel s (some (.its xs)) = some (.its xs) := rfl
@[simp] theorem lcel_none (s : Sto) : lcel s none = none := rfl
theorem lcel_cel {s : Sto} {l : Nat} {xs : List D} (h : s[l]? = some (.lst xs)) (e : Bool) : lcel s (some (.cel e l)) = some (.cel e l) := by
  unfold lcel
  simp only [h]
def numbered : Nat → List D → List D
  | _, [] => []
  | k, x :: r => .tup [.int k, x] :: numbered (k + 1) r
/-- a new list: a cell of the store, or one that nobody will change -/
def lstR (m : Bool) (ys : List D) (st : Sto) : Rs D := if m then .ok (.ref st.length) (st ++ [.lst ys]) else .ok (.lst ys) st
/-- the places of xs[lo:hi:k] in a list of n items: k above nought; or the whole from behind -/
def idxs (n : Nat) (lo hi : Option Int) (k : Int) : Option (List Nat) :=
  if 0 < k then some ((List.range ((sIx n n hi - sIx n 0 lo + k.toNat - 1) / k.toNat)).map fun j => sIx n 0 lo + j * k.toNat)
  else if k = -1 ∧ lo = none ∧ hi = none then some ((List.range n).map fun j => n - 1 - j) else none
def pick {α : Type} (xs : List α) (ix : List Nat) : List α := ix.filterMap fun i => xs[i]?
def slsd (lo hi : Option Int) : D → D → Option D
  | .lst xs, .int k => (idxs xs.length lo hi k).map fun ix => .lst (pick xs ix)
  | _, _ => none
def isL : D → Bool
  | .lst _ => true
  | _ => false
/-- the field of an own error: 0 number, 1 name, 2 at -/
def fldOf (c : Nat) : Nat := if c = 10 then 0 else if c = 14 then 2 else 1
def isT : D → Bool
  | .tup _ => true
  | _ => false
/-- what stands before the first sign k, and behind it -/
def parC (k : Nat) : List Nat → List Nat → Option (List Nat × List Nat)
  | _, [] => none
  | acc, c :: r => if c = k then some (acc, r) else parC k (acc ++ [c]) r
/-- cut at each sign k -/
def splC (k : Nat) : List Nat → List Nat → List (List Nat)
  | acc, [] => [acc]
  | acc, c :: r => if c = k then acc :: splC k [] r else splC k (acc ++ [c]) r
def parD (s : List Nat) : D → Option D
  | .str [k] => if s.length ≤ 1000000 then some (match parC k [] s with
    | some (p, q) => .tup [.str p, .str [k], .str q]
    | none => .tup [.str s, .str [], .str []]) else none
  | _ => none
def splD (s : List Nat) : D → Option D
  | .str [k] => if s.length ≤ 1000000 ∧ k < 256 then some (.lst ((splC k [] s).map .str)) else none
  | _ => none
/-- the first place of a plain thing in a tuple of such -/
def idxt : D → D → Option D
  | .tup xs, y => if flat y && xs.all flat && xs.any (fun x => flatEq x y) then some (.int ((xs.findIdx fun x => flatEq x y : Nat) : Int)) else none
  | _, _ => none
/-- the first place of a plain thing in a list of such -/
def idxd : D → D → Option D
  | .lst xs, y => if flat y && xs.all flat && xs.any (fun x => flatEq x y) then some (.int ((xs.findIdx fun x => flatEq x y : Nat) : Int)) else none
  | _, _ => none
/-! ### fields, dicts -/
def fput (f : Nat) (d : D) : List (Nat × D) → List (Nat × D)
  | [] => [(f, d)]
  | (g, x) :: r => if g = f then (g, d) :: r else (g, x) :: fput f d r
def dget (kvs : List (List Nat × D)) (k : List Nat) : Option D := (kvs.find? fun p => decide (p.1 = k)).map (·.2)
def dput (kvs : List (List Nat × D)) (k : List Nat) (d : D) : List (List Nat × D) :=
  if (kvs.any fun p => decide (p.1 = k)) = true then kvs.map (fun p => if p.1 = k then (p.1, d) else p) else kvs ++ [(k, d)]
def strsOf : List D → Option (List (List Nat))
  | [] => some []
  | .str s :: r => (strsOf r).map (s :: ·)
  | _ => none
/-- texts joined by a text -/
def joinC (a : List Nat) : List (List Nat) → List Nat
  | [] => []
  | [x] => x
  | x :: r => x ++ a ++ joinC a r
def joinD (a : List Nat) : D → Option D
  | .lst xs => match strsOf xs with
    | some ys => if (ys.map (·.length)).sum + ys.length * a.length ≤ 1000000 then some (.str (joinC a ys)) else none
    | none => none
  | _ => none
/-- each sign k replaced by a text -/
def rplC (k : Nat) (b : List Nat) : List Nat → List Nat
  | [] => []
  | c :: r => if c = k then b ++ rplC k b r else c :: rplC k b r
def zipT : D → D → Option (List D)
  | .tup xs, .tup ys => some ((xs.zip ys).map fun p => .tup [p.1, p.2])
  | .lst xs, .lst ys => some ((xs.zip ys).map fun p => .tup [p.1, p.2])
  | _, _ => none

/-- the name of a clause: bound at its suite's begin, gone at its end -/
def beg (i : Option Nat) (x : D) (env : Nv) : Nv := match i with
  | none => env
  | some i => env.set i (some x)
def gon (i : Option Nat) (env : Nv) : Nv := match i with
  | none => env
  | some i => env.set i none
/-- the end of a suite; nothing is raised in it -/
def suE (i : Option Nat) (m : Out) : Out := match m with
  | some (.nx e, s) => some (.nx (gon i e), s)
  | some (.bk e, s) => some (.bk (gon i e), s)
  | some (.ct e, s) => some (.ct (gon i e), s)
  | some (.rt d, s) => some (.rt d, s)
  | _ => none
section
variable (w : Wd) (Φ : Nat → List D → Sto → Ans D)
mutual
def ev : Ex → Nv → Sto → Ans D
  | .var i, env, st => match env[i]? with
    | some (some d) => some (.ok d st)
    | _ => none
  | .cst c, _, st => some (.ok c st)
  | .glb g, _, st => lft (w.glb g) st
  | .bin op a b, env, st => bnd (ev a env st) fun x s1 => bnd (ev b env s1) fun y s2 => lft (bop op (view s2 x) (view s2 y)) s2
  | .neg a, env, st => bnd (ev a env st) fun x s1 => match x with
    | .int i => some (.ok (.int (-i)) s1)
    | _ => none
  | .not a, env, st => bnd (ev a env st) fun x s1 => lft ((tru (view s1 x)).map fun b => .bl (!b)) s1
  | .one a, env, st => ev a env st
  | .and a b, env, st => bnd (ev a env st) fun x s1 => bnd (lft (tru (view s1 x)) s1) fun c s2 => if c = true then ev b env s2 else some (.ok x s2)
  | .or a b, env, st => bnd (ev a env st) fun x s1 => bnd (lft (tru (view s1 x)) s1) fun c s2 => if c = true then some (.ok x s2) else ev b env s2
  | .cmp op a b, env, st => bnd (ev a env st) fun x s1 => bnd (ev b env s1) fun y s2 => lft ((cop op (view s2 x) (view s2 y)).map .bl) s2
  | .chn op op' a b c, env, st => bnd (ev a env st) fun x s1 => bnd (ev b env s1) fun y s2 => bnd (lft (cop op (view s2 x) (view s2 y)) s2) fun k s3 =>
      if k = true then bnd (ev c env s3) fun z s4 => lft ((cop op' (view s4 y) (view s4 z)).map .bl) s4 else some (.ok (.bl false) s3)
  | .ite c a b, env, st => bnd (ev c env st) fun x s1 => bnd (lft (tru (view s1 x)) s1) fun k s2 => if k = true then ev a env s2 else ev b env s2
  | .call f as, env, st => bnd (evs as env st) fun xs s1 => Φ f xs s1
  | .bi f as, env, st => bnd (evs as env st) fun xs s1 => lft (bfn f (xs.map (view s1))) s1
  | .isi a t, env, st => bnd (ev a env st) fun x s1 => lft ((isTyS s1 w.sub t (view s1 x)).map .bl) s1
  | .tup as, env, st => bnd (evs as env st) fun xs s1 => if xs.length ≤ 1000 then some (.ok (.tup xs) s1) else none
  | .lst as, env, st => bnd (evs as env st) fun xs s1 => if xs.length ≤ 1000 then some (.ok (.lst xs) s1) else none
  | .mls as, env, st => bnd (evs as env st) fun xs s1 => if xs.length ≤ 1000 then some (.ok (.ref s1.length) (s1 ++ [.lst xs])) else none
  | .ix a i, env, st => bnd (ev a env st) fun x s1 => bnd (ev i env s1) fun y s2 => lft (ixd (view s2 x) y) s2
  | .slc a lo hi, env, st => bnd (ev a env st) fun x s1 => bnd (evo lo env s1) fun l s2 => bnd (evo hi env s2) fun h s3 => lft (sld l h (view s3 x)) s3
  | .lc m own e tg it c, env, st => bnd (evi it env st) fun xs s1 =>
      bnd (compS (fun x s => noex (match asgn tg x (wipe env own) with
        | none => none
        | some env' => bnd (match c with
          | .none => some (.ok true s)
          | .some t => bnd (ev t env' s) fun b s' => lft (tru (view s' b)) s') fun b s' => if b = true then bnd (ev e env' s') fun y s'' => some (.ok (some y) s'') else some (.ok none s'))) xs s1)
        fun ys s2 => if ys.length ≤ 1000000 then some (lstR m ys s2) else none
  | .mad a b, env, st => bnd (ev a env st) fun x s1 => bnd (ev b env s1) fun y s2 => match bop .add (view s2 x) (view s2 y) with
    | some (.lst zs) => some (lstR true zs s2)
    | _ => none
  | .sls a lo hi k, env, st => bnd (ev a env st) fun x s1 => bnd (evo lo env s1) fun l s2 => bnd (evo hi env s2) fun h s3 => bnd (ev k env s3) fun z s4 => lft (slsd l h (view s4 x) z) s4
  | .att f a, env, st => bnd (ev a env st) fun x s1 => match x with
    | .exc c [d] => if fldOf c = f ∧ (w.sub c c).isSome = true then some (.ok d s1) else none
    | _ => none
  | .rvl a, env, st => bnd (ev a env st) fun x s1 => match view s1 x with
    | .lst xs => if xs.length ≤ 1000000 then some (.ok (.lst xs.reverse) s1) else none
    | _ => none
  | .idt g b, env, st => match w.glb g with
    | some x => if isT x = true then bnd (ev b env st) fun y s2 => lft (idxt x y) s2 else none
    | none => none
  | .par a b, env, st => bnd (ev a env st) fun x s1 => match x with
    | .str s => bnd (ev b env s1) fun y s2 => lft (parD s y) s2
    | _ => none
  | .spl a b, env, st => bnd (ev a env st) fun x s1 => match x with
    | .str s => bnd (ev b env s1) fun y s2 => lft (splD s y) s2
    | _ => none
  | .dcm op a b, env, st => bnd (ev a env st) fun x s1 => bnd (ev b env s1) fun y s2 => lft ((cop op (dvw s2 60 x) (dvw s2 60 y)).map .bl) s2
  | .dch op op' a b c, env, st => bnd (ev a env st) fun x s1 => bnd (ev b env s1) fun y s2 => bnd (lft (cop op (dvw s2 60 x) (dvw s2 60 y)) s2) fun k s3 =>
      if k = true then bnd (ev c env s3) fun z s4 => lft ((cop op' (dvw s4 60 y) (dvw s4 60 z)).map .bl) s4 else some (.ok (.bl false) s3)
  | .dnw, _, st => some (.ok (.ref st.length) (st ++ [.dct []]))
  | .upr a, env, st => bnd (ev a env st) fun x s1 => lft (uprD x) s1
  | .cld f as d, env, st => bnd (evs as env st) fun xs s1 => Φ f (xs ++ [.int d]) s1
  | .pop a, env, st => bnd (ev a env st) fun x s1 => match x with
    | .ref l => match s1[l]? with
      | some (.lst xs) => match xs[xs.length - 1]? with
        | some y => some (.ok y (s1.set l (.lst xs.dropLast)))
        | none => none
      | _ => none
    | _ => none
  | .pop1 a i, env, st => bnd (ev a env st) fun x s1 => match x with
    | .ref l => match s1[l]? with
      | some (.lst _) => bnd (ev i env s1) fun j s2 => match j, s2[l]? with
        | .int j, some (.lst xs) => if small62 j = true then match ixN xs.length j with
          | some q => match xs[q]? with
            | some y => some (.ok y (s2.set l (.lst (xs.eraseIdx q))))
            | none => none
          | none => none else none
        | _, _ => none
      | _ => none
    | _ => none
  | .mrp a k, env, st => bnd (ev a env st) fun x s1 => bnd (ev k env s1) fun y s2 => match bop .mul (view s2 x) (view s2 y) with
    | some (.lst zs) => some (lstR true zs s2)
    | _ => none
  | .lrg a, env, st => bnd (ev a env st) fun x s1 => match x with
    | .int j => if 0 ≤ j ∧ j ≤ 1000 then some (.ok (.lst (rngL 0 j)) s1) else none
    | _ => none
  | .fld f a, env, st => bnd (ev a env st) fun x s1 => match x with
    | .ref l => match s1[l]? with
      | some (.ins c fs) => if w.fok c f = true then lft (fs.lookup f) s1 else none
      | _ => none
    | _ => none
  | .mth m a as, env, st => bnd (ev a env st) fun x s1 => match x with
    | .ref l => match s1[l]? with
      | some (.ins c _) => match w.mth c m with
        | some g => bnd (evs as env s1) fun xs s2 => Φ g (.ref l :: xs) s2
        | none => none
      | _ => none
    | _ => none
  | .new c as, env, st => match w.ini c with
    | some g => bnd (evs as env st) fun xs s1 => bnd (Φ g (.ref s1.length :: xs) (s1 ++ [.ins c []])) fun y s2 => match y with
      | .non => some (.ok (.ref s1.length) s2)
      | _ => none
    | none => none
  | .inb c as, env, st => match w.ini c with
    | some g => bnd (evs as env st) fun xs s1 => Φ g xs s1
    | none => none
  | .isn a c, env, st => bnd (ev a env st) fun x s1 => match x with
    | .ref l => match s1[l]? with
      | some (.ins c' _) => lft ((w.isn c' c).map .bl) s1
      | _ => none
    | _ => none
  | .joi a b, env, st => bnd (ev a env st) fun x s1 => match x with
    | .str s => bnd (ev b env s1) fun y s2 => lft (joinD s (view s2 y)) s2
    | _ => none
  | .lcp a, env, st => bnd (ev a env st) fun x s1 => match view s1 x with
    | .lst xs => if xs.length ≤ 1000000 then some (lstR true xs s1) else none
    | .tup xs => if xs.length ≤ 1000000 then some (lstR true xs s1) else none
    | _ => none
  | .keys a, env, st => bnd (ev a env st) fun x s1 => match x with
    | .ref l => match s1[l]? with
      | some (.dct kvs) => if kvs.length ≤ 1000000 then some (.ok (.lst (kvs.map fun p => .str p.1)) s1) else none
      | _ => none
    | _ => none
  | .din n a b, env, st => bnd (ev a env st) fun x s1 => bnd (ev b env s1) fun y s2 => match x, y with
    | .str k, .ref l => match s2[l]? with
      | some (.dct kvs) => some (.ok (.bl (n != (dget kvs k).isSome)) s2)
      | _ => none
    | _, _ => none
  | .dsb a b, env, st => bnd (ev a env st) fun x s1 => bnd (ev b env s1) fun y s2 => match x, y with
    | .ref l, .str k => match s2[l]? with
      | some (.dct kvs) => lft (dget kvs k) s2
      | _ => none
    | _, _ => none
  | .rpl a b c, env, st => bnd (ev a env st) fun x s1 => match x with
    | .str s => bnd (ev b env s1) fun y s2 => bnd (ev c env s2) fun z s3 => match y, z with
      | .str [k], .str t => if s.length ≤ 1000 ∧ t.length ≤ 1000 then some (.ok (.str (rplC k t s)) s3) else none
      | _, _ => none
    | _ => none
  | .idx a b, env, st => bnd (ev a env st) fun x s1 => if isL (view s1 x) = true then bnd (ev b env s1) fun y s2 => lft (idxd (view s2 x) y) s2 else none
def evs : Exs → Nv → Sto → Ans (List D)
  | .nil, _, st => some (.ok [] st)
  | .cons e r, env, st => bnd (ev e env st) fun x s1 => bnd (evs r env s1) fun xs s2 => some (.ok (x :: xs) s2)
def evo : Exo → Nv → Sto → Ans (Option Int)
  | .none, _, st => some (.ok none st)
  | .some e, env, st => bnd (ev e env st) fun x s1 => match x with
    | .int i => some (.ok (some i) s1)
    | _ => none
/-- what is walked -/
def evi : Wk → Nv → Sto → Ans Src
  | .seq e, env, st => bnd (ev e env st) fun x s1 => lft (lcel s1 (srcs x)) s1
  | .rng1 a, env, st => bnd (ev a env st) fun x s1 => match x with
    | .int j => if small62 j = true then some (.ok (.its (rngL 0 j)) s1) else none
    | _ => none
  | .rng2 a b, env, st => bnd (ev a env st) fun x s1 => bnd (ev b env s1) fun y s2 => match x, y with
    | .int i, .int j => if small62 i = true ∧ small62 j = true then some (.ok (.its (rngL i j)) s2) else none
    | _, _ => none
  | .rng3 a b c, env, st => bnd (ev a env st) fun x s1 => bnd (ev b env s1) fun y s2 => bnd (ev c env s2) fun z s3 => match x, y, z with
    | .int i, .int j, .int k => if small62 i = true ∧ small62 j = true ∧ k = -1 then some (.ok (.its (rngD i j)) s3) else
      if 0 ≤ i ∧ i ≤ 1000000 ∧ 0 ≤ j ∧ j ≤ 1000000 ∧ 0 < k ∧ k ≤ 1000 then some (.ok (.its (rngS i j k)) s3) else none
    | _, _, _ => none
  | .enm e, env, st => bnd (ev e env st) fun x s1 => match x with
    | .lst xs => some (.ok (.its (numbered 0 xs)) s1)
    | .tup xs => some (.ok (.its (numbered 0 xs)) s1)
    | .ref l => lft (lcel s1 (some (.cel true l))) s1
    | _ => none
  | .zip a b, env, st => bnd (ev a env st) fun x s1 => bnd (ev b env s1) fun y s2 => lft ((zipT x y).map .its) s2
  | .rev e, env, st => bnd (ev e env st) fun x s1 => lft ((items x).map fun xs => .its xs.reverse) s1
end
/-- a test -/
def evt (c : Ex) (env : Nv) (st : Sto) : Ans Bool := bnd (ev w Φ c env st) fun x s1 => lft (tru (view s1 x)) s1

mutual
noncomputable def run : Sm → Nv → Sto → Out
  | .nil, env, st => some (.nx env, st)
  | .seq a b, env, st => sqn (run a env st) (run b)
  | .asg tg e, env, st => bnS (ev w Φ e env st) env fun x s1 => match tg with
    | .nm i => some (.nx (env.set i (some x)), s1)
    | .tp is => match asgn (.tp is) (view s1 x) env with
      | some e' => some (.nx e', s1)
      | none => none
  | .ifs c a b, env, st => bnS (evt w Φ c env st) env fun k s1 => if k = true then run a env s1 else run b env s1
  | .whl c b, env, st => whle (evt w Φ c) (run b) env st
  | .fr tg it b, env, st => bnS (evi w Φ it env st) env fun xs s1 => walkS (fun x e s => match asgn tg x e with
    | some e' => run b e' s
    | none => none) xs env s1
  | .ret e, env, st => bnS (ev w Φ e env st) env fun x s1 => some (.rt x, s1)
  | .retn, _, st => some (.rt .non, st)
  | .exp e, env, st => bnS (ev w Φ e env st) env fun _ s1 => some (.nx env, s1)
  | .pass, env, st => some (.nx env, st)
  | .brk, env, st => some (.bk env, st)
  | .cnt, env, st => some (.ct env, st)
  | .app x e, env, st => bnS (ev w Φ x env st) env fun r s1 => match r with
    | .ref l => match s1[l]? with
      | some (.lst _) => bnS (ev w Φ e env s1) env fun d s2 => match s2[l]? with
        | some (.lst xs) => if xs.length ≤ 1000000 then some (.nx env, s2.set l (.lst (xs ++ [d]))) else none
        | _ => none
      | _ => none
    | _ => none
  | .sti x i e, env, st => bnS (ev w Φ e env st) env fun d s1 => bnS (ev w Φ x env s1) env fun r s2 => bnS (ev w Φ i env s2) env fun j s3 => match r, j with
    | .ref l, .int j => match s3[l]? with
      | some (.lst xs) => match ixN xs.length j with
        | some j => some (.nx env, s3.set l (.lst (xs.set j d)))
        | none => none
      | _ => none
    | _, _ => none
  | .rse c .nil, env, st => some (.xc (.exc c []) env, st)
  | .rse c (.cons a .nil), env, st => bnS (ev w Φ a env st) env fun d s1 => some (.xc (.exc c [d]) env, s1)
  | .tryk b c i j, env, st => match run b env st with
    | some (.xc (.exc x vs) env', s1) => match w.sub x c with
      | none => none
      | some true => some (.nx (((env'.set i (some (.exc x vs))).set j (some (.exc x vs))).set i none), s1)
      | some false => some (.xc (.exc x vs) env', s1)
    | r => r
  | .trya b c i j f, env, st => match run b env st with
    | some (.xc (.exc x vs) env', s1) => match w.sub x c with
      | none => none
      | some true => match vs with
        | [d] => if fldOf x = f ∧ (w.sub x x).isSome = true then some (.nx (((env'.set i (some (.exc x vs))).set j (some d)).set i none), s1) else none
        | _ => none
      | some false => some (.xc (.exc x vs) env', s1)
    | r => r
  | .fst f x e, env, st => bnS (ev w Φ e env st) env fun d s1 => bnS (ev w Φ x env s1) env fun r s2 => match r with
    | .ref l => match s2[l]? with
      | some (.ins c fs) => if w.fok c f = true ∧ fs.length < 900 then some (.nx env, s2.set l (.ins c (fput f d fs))) else none
      | _ => none
    | _ => none
  | .dst x k e, env, st => bnS (ev w Φ e env st) env fun d s1 => bnS (ev w Φ x env s1) env fun r s2 => bnS (ev w Φ k env s2) env fun j s3 => match r, j with
    | .ref l, .str y => match s3[l]? with
      | some (.dct kvs) => if kvs.length < 1000000 then some (.nx env, s3.set l (.dct (dput kvs y d))) else none
      | _ => none
    | _, _ => none
  | .trym b hs, env, st => match run b env st with
    | some (.xc (.exc x vs) env', s1) => runH hs x vs env' s1
    | r => r
  | .tryr b c c2, env, st => match run b env st with
    | some (.xc (.exc x vs) env', s1) => match w.sub x c with
      | none => none
      | some true => some (.xc (.exc c2 []) env', s1)
      | some false => some (.xc (.exc x vs) env', s1)
    | r => r
  | _, _, _ => none
/-- the clauses, one after the other -/
noncomputable def runH : Hds → Nat → List D → Nv → Sto → Out
  | .nil, x, vs, env, st => some (.xc (.exc x vs) env, st)
  | .cons c i b r, x, vs, env, st => match w.sub x c with
    | none => none
    | some false => runH r x vs env st
    | some true => suE i (run b (beg i (.exc x vs) env) st)
end
end

/-- a def: how many parameters, how many names, its body -/
structure Fn where
  ar : Nat
  nm : Nat
  body : Sm
noncomputable def apply (w : Wd) (Φ : Nat → List D → Sto → Ans D) (f : Fn) (xs : List D) (st : Sto) : Ans D :=
  if xs.length = f.ar then match run w Φ f.body (xs.map some ++ List.replicate (f.nm - f.ar) none) st with
    | some (.nx _, s1) => some (.ok .non s1)
    | some (.rt d, s1) => some (.ok d s1)
    | some (.xc x _, s1) => some (.ex x s1)
    | _ => none
  else none
/-- all defs, calls at most k deep -/
noncomputable def den (w : Wd) (T : Nat → Option Fn) : Nat → Nat → List D → Sto → Ans D
  | 0, _, _, _ => none
  | k + 1, f, xs, st => match T f with
    | none => none
    | some fn => apply w (den w T k) fn xs st
/-! ### while, plainly -/
section
variable {t : Nv → Sto → Ans Bool} {b : Nv → Sto → Out}
theorem loop_mono : ∀ (n : Nat) {m : Nat} {env : Nv} {st : Sto} {r : Fl × Sto}, n ≤ m → loop t b n env st = some r → loop t b m env st = some r
  | 0, _, _, _, _, _, h => by cases h
  | n + 1, 0, _, _, _, hm, _ => absurd hm (by omega)
  | n + 1, m + 1, env, st, r, hm, h => by
    unfold loop at h ⊢
    cases ht : t env st with
    | none => rw [ht] at h; cases h
    | some z =>
      cases z with
      | ex x s => rw [ht] at h; exact h
      | ok c s =>
        rw [ht] at h
        simp only [bnS_ok] at h ⊢
        cases c with
        | false => exact h
        | true =>
          simp only [if_true] at h ⊢
          cases hb : b env s with
          | none => rw [hb] at h; cases h
          | some z =>
            rw [hb] at h
            obtain ⟨f, s2⟩ := z
            cases f with
            | nx e => exact loop_mono n (by omega) h
            | ct e => exact loop_mono n (by omega) h
            | rt d => exact h
            | bk e => exact h
            | xc x e => exact h
theorem whle_spec {env : Nv} {st : Sto} {r : Fl × Sto} (h : whle t b env st = some r) : ∃ n, loop t b n env st = some r := by
  unfold whle at h
  split at h
  · rename_i hx
    cases h
    exact ⟨_, Classical.choose_spec (Classical.choose_spec hx)⟩
  · cases h
theorem whle_of {env : Nv} {st : Sto} {r : Fl × Sto} {n : Nat} (h : loop t b n env st = some r) : whle t b env st = some r := by
  unfold whle
  have hx : ∃ n r, loop t b n env st = some r := ⟨n, r, h⟩
  rw [dif_pos hx]
  have h2 := Classical.choose_spec (Classical.choose_spec hx)
  have h3 := loop_mono _ (Nat.le_max_left (Classical.choose hx) n) h2
  have h4 := loop_mono _ (Nat.le_max_right (Classical.choose hx) n) h
  rw [h3] at h4
  cases h4
  rfl
/-- one turn -/
theorem whle_eq (env : Nv) (st : Sto) : whle t b env st = bnS (t env st) env fun c s => if c = true then trn (b env s) (whle t b) else some (.nx env, s) := by
  cases ht : t env st with
  | none =>
    cases hw : whle t b env st with
    | none => rfl
    | some r =>
      obtain ⟨n, hn⟩ := whle_spec hw
      cases n with
      | zero => cases hn
      | succ n => unfold loop at hn; rw [ht] at hn; cases hn
  | some z =>
    cases z with
    | ex x s => exact whle_of (n := 1) (by unfold loop; rw [ht]; rfl)
    | ok c s =>
      cases c with
      | false => exact whle_of (n := 1) (by unfold loop; rw [ht]; rfl)
      | true =>
        simp only [bnS_ok, if_true]
        cases hb : b env s with
        | none =>
          cases hw : whle t b env st with
          | none => rfl
          | some r =>
            obtain ⟨n, hn⟩ := whle_spec hw
            cases n with
            | zero => cases hn
            | succ n => unfold loop at hn; rw [ht] at hn; simp only [bnS_ok, if_true] at hn; rw [hb] at hn; cases hn
        | some z =>
          obtain ⟨f, s2⟩ := z
          have go : ∀ e, (∀ (g : Nv → Sto → Out), trn (some (f, s2)) g = g e s2) → whle t b env st = whle t b e s2 := fun e he => by
            cases hw : whle t b e s2 with
            | some r =>
              obtain ⟨n, hn⟩ := whle_spec hw
              refine whle_of (n := n + 1) ?_
              unfold loop; rw [ht]; simp only [bnS_ok, if_true]; rw [hb, he, hn]
            | none =>
              cases hw2 : whle t b env st with
              | none => rfl
              | some r =>
                obtain ⟨n, hn⟩ := whle_spec hw2
                cases n with
                | zero => cases hn
                | succ n =>
                  unfold loop at hn; rw [ht] at hn; simp only [bnS_ok, if_true] at hn
                  rw [hb, he] at hn
                  rw [whle_of hn] at hw
                  cases hw
          cases f with
          | nx e => exact go e fun _ => rfl
          | ct e => exact go e fun _ => rfl
          | rt d => exact whle_of (n := 1) (by unfold loop; rw [ht]; simp only [bnS_ok, if_true]; rw [hb]; rfl)
          | bk d => exact whle_of (n := 1) (by unfold loop; rw [ht]; simp only [bnS_ok, if_true]; rw [hb]; rfl)
          | xc x d => exact whle_of (n := 1) (by unfold loop; rw [ht]; simp only [bnS_ok, if_true]; rw [hb]; rfl)
end

/-- one turn of a comprehension -/
def lcBody (w : Wd) (Φ : Nat → List D → Sto → Ans D) (own : List Nat) (e : Ex) (tg : Tg) (o : Exo) (env : Nv) (x : D) (s : Sto) : Ans (Option D) :=
  noex (match asgn tg x (wipe env own) with
    | none => none
    | some env' => bnd (match o with
      | .none => some (.ok true s)
      | .some t => bnd (ev w Φ t env' s) fun b s' => lft (tru (view s' b)) s') fun b s' => if b = true then bnd (ev w Φ e env' s') fun y s'' => some (.ok (some y) s'') else some (.ok none s'))
theorem ev_lc {w : Wd} {Φ : Nat → List D → Sto → Ans D} (m : Bool) (own : List Nat) (e : Ex) (tg : Tg) (it : Wk) (o : Exo) (env : Nv) (st : Sto) : ev w Φ (.lc m own e tg it o) env st = bnd (evi w Φ it env st) fun xs s1 => bnd (compS (lcBody w Φ own e tg o env) xs s1) fun ys s2 => if ys.length ≤ 1000000 then some (lstR m ys s2) else none := by
  simp only [ev]
  rfl
end Dp

end
section
set_option linter.all false
set_option maxRecDepth 100000
/-! the code of the defs, printed by mklaw.py -/
namespace Dp
noncomputable abbrev g_common : Nat := 0
noncomputable abbrev g__law_cell : Nat := 2
noncomputable abbrev g__law_whole : Nat := 3
noncomputable abbrev g_law : Nat := 5
noncomputable abbrev g_whole_of : Nat := 6
noncomputable abbrev g_fraction_read : Nat := 7
noncomputable abbrev g_fraction_text : Nat := 8
noncomputable abbrev g__law_common : Nat := 9
noncomputable abbrev g__law_is_number : Nat := 10
noncomputable abbrev g__law_mixed : Nat := 12
noncomputable abbrev g__law_due : Nat := 17
noncomputable abbrev g_made : Nat := 18
noncomputable abbrev g__law_number : Nat := 19
noncomputable abbrev g__law_drawn : Nat := 20
noncomputable abbrev g_added : Nat := 21
noncomputable abbrev g__law_added : Nat := 29
noncomputable abbrev g__law_scaled : Nat := 30
noncomputable abbrev g__law_alike : Nat := 33
noncomputable abbrev g_tops_times : Nat := 37
noncomputable abbrev g_times : Nat := 38
noncomputable abbrev g__law_scaffold : Nat := 39
noncomputable abbrev g__law_tops_times : Nat := 40
noncomputable abbrev g__law_product : Nat := 41
noncomputable abbrev g__law_asked : Nat := 84
noncomputable abbrev g_is_name : Nat := 147
noncomputable abbrev g_read_point : Nat := 148
noncomputable abbrev g_read_span : Nat := 149
noncomputable abbrev g_all_names : Nat := 150
noncomputable abbrev g_short_row : Nat := 151
noncomputable abbrev g_long_row : Nat := 152
noncomputable abbrev g_step_of : Nat := 153
noncomputable abbrev g__law_stir : Nat := 154
noncomputable abbrev g__law_name : Nat := 155
noncomputable abbrev g__law_fraction_text : Nat := 156
noncomputable abbrev g__law_fraction : Nat := 157
noncomputable abbrev g__law_row : Nat := 158
noncomputable abbrev g__law_which : Nat := 164
noncomputable abbrev g__law_class : Nat := 165
noncomputable abbrev g_changed : Nat := 236
noncomputable def t_common_0 : Ex := (.cmp .ne (.var 3) (.cst (.int 0)))
noncomputable def b_common_0 : Sm := (.seq (.asg (.nm 4) (.bin .mod (.var 2) (.var 3))) (.seq (.asg (.nm 2) (.var 3)) (.seq (.asg (.nm 3) (.var 4)) .nil)))
noncomputable def l_common_0 : Sm := (.whl t_common_0 b_common_0)
noncomputable def f_common : Fn := ⟨2, 5, (.seq (.asg (.nm 2) (.bi .abs (.cons (.var 0) .nil))) (.seq (.asg (.nm 3) (.bi .abs (.cons (.var 1) .nil))) (.seq l_common_0 (.seq (.ret (.var 2)) .nil))))⟩
noncomputable def f__law_cell_0 : Fn := ⟨2, 2, (.seq (.ifs (.cmp .lt (.var 1) (.bi .len (.cons (.var 0) .nil))) (.seq (.ret (.ix (.var 0) (.var 1))) .nil) .nil) (.seq (.ret (.cst (.int 0))) .nil))⟩
noncomputable def f__law_whole : Fn := ⟨1, 1, (.seq (.ret (.and (.isi (.var 0) .int) (.one (.not (.isi (.var 0) .bool))))) .nil)⟩
noncomputable def b_whole_of_0_0 : Sm := (.seq (.ifs (.cmp .notin (.var 1) (.glb 0)) (.seq (.rse 2 .nil) .nil) .nil) .nil)
noncomputable def l_whole_of_0_0 : Sm := (.fr (.nm 1) (.seq (.var 0)) b_whole_of_0_0)
noncomputable def f_whole_of_0 : Fn := ⟨1, 2, (.seq (.ifs (.or (.cmp .lt (.bi .len (.cons (.var 0) .nil)) (.cst (.int 1))) (.or (.cmp .gt (.bi .len (.cons (.var 0) .nil)) (.glb 1)) (.one (.and (.cmp .eq (.ix (.var 0) (.cst (.int 0))) (.cst (.str [48]))) (.one (.cmp .gt (.bi .len (.cons (.var 0) .nil)) (.cst (.int 1)))))))) (.seq (.rse 2 .nil) .nil) .nil) (.seq l_whole_of_0_0 (.seq (.ret (.bi .int (.cons (.var 0) .nil))) .nil)))⟩
noncomputable def f_fraction_read : Fn := ⟨1, 8, (.seq (.asg (.nm 1) (.var 0)) (.seq (.ifs (.cmp .eq (.slc (.var 0) .none (.some (.cst (.int 1)))) (.cst (.str [45]))) (.seq (.asg (.nm 1) (.slc (.var 0) (.some (.cst (.int 1))) .none)) .nil) .nil) (.seq (.asg (.tp [2, 3, 4]) (.par (.var 1) (.cst (.str [47])))) (.seq (.asg (.nm 5) (.call 6 (.cons (.var 2) .nil))) (.seq (.asg (.nm 6) (.cst (.int 1))) (.seq (.ifs (.cmp .ne (.var 3) (.cst (.str []))) (.seq (.asg (.nm 6) (.call 6 (.cons (.var 4) .nil))) .nil) .nil) (.seq (.ifs (.cmp .eq (.var 6) (.cst (.int 0))) (.seq (.rse 2 .nil) .nil) .nil) (.seq (.asg (.nm 7) (.call 0 (.cons (.var 5) (.cons (.var 6) .nil)))) (.seq (.ifs (.cmp .ne (.var 1) (.var 0)) (.seq (.asg (.nm 5) (.neg (.var 5))) .nil) .nil) (.seq (.ret (.tup (.cons (.tup (.cons (.bin .fdiv (.var 5) (.var 7)) .nil)) (.cons (.bin .fdiv (.var 6) (.var 7)) .nil)))) .nil))))))))))⟩
noncomputable def f_fraction_text : Fn := ⟨1, 1, (.seq (.ifs (.cmp .eq (.ix (.var 0) (.cst (.int 1))) (.cst (.int 1))) (.seq (.ret (.bi .str (.cons (.ix (.ix (.var 0) (.cst (.int 0))) (.cst (.int 0))) .nil))) .nil) .nil) (.seq (.ret (.bin .add (.bin .add (.bi .str (.cons (.ix (.ix (.var 0) (.cst (.int 0))) (.cst (.int 0))) .nil)) (.cst (.str [47]))) (.bi .str (.cons (.ix (.var 0) (.cst (.int 1))) .nil)))) .nil))⟩
noncomputable def t__law_common_0 : Ex := (.cmp .ne (.var 1) (.cst (.int 0)))
noncomputable def b__law_common_0 : Sm := (.seq (.asg (.nm 2) (.bin .mod (.var 0) (.var 1))) (.seq (.asg (.nm 0) (.var 1)) (.seq (.asg (.nm 1) (.var 2)) .nil)))
noncomputable def l__law_common_0 : Sm := (.whl t__law_common_0 b__law_common_0)
noncomputable def f__law_common : Fn := ⟨2, 3, (.seq l__law_common_0 (.seq (.ret (.bi .abs (.cons (.var 0) .nil))) .nil))⟩
noncomputable def b__law_is_number_0 : Sm := (.seq (.ifs (.not (.call 3 (.cons (.var 3) .nil))) (.seq (.ret (.cst (.bl false))) .nil) .nil) (.seq (.asg (.nm 2) (.call 9 (.cons (.var 2) (.cons (.var 3) .nil)))) .nil))
noncomputable def l__law_is_number_0 : Sm := (.fr (.nm 3) (.seq (.ix (.var 0) (.cst (.int 0)))) b__law_is_number_0)
noncomputable def f__law_is_number : Fn := ⟨2, 4, (.seq (.ifs (.or (.not (.isi (.var 0) .tuple)) (.or (.cmp .ne (.bi .len (.cons (.var 0) .nil)) (.cst (.int 2))) (.one (.not (.isi (.ix (.var 0) (.cst (.int 0))) .tuple))))) (.seq (.ret (.cst (.bl false))) .nil) .nil) (.seq (.ifs (.or (.cmp .ne (.bi .len (.cons (.ix (.var 0) (.cst (.int 0))) .nil)) (.var 1)) (.or (.not (.call 3 (.cons (.ix (.var 0) (.cst (.int 1))) .nil))) (.one (.cmp .lt (.ix (.var 0) (.cst (.int 1))) (.cst (.int 1)))))) (.seq (.ret (.cst (.bl false))) .nil) .nil) (.seq (.asg (.nm 2) (.ix (.var 0) (.cst (.int 1)))) (.seq l__law_is_number_0 (.seq (.ret (.cmp .eq (.var 2) (.cst (.int 1)))) .nil)))))⟩
noncomputable def f__law_mixed : Fn := ⟨3, 4, (.seq (.asg (.nm 3) (.lst (.cons (.cst (.int 271828183)) (.cons (.cst (.int 314159269)) (.cons (.cst (.int 161803399)) (.cons (.cst (.int 141421357)) (.cons (.cst (.int 173205081)) .nil))))))) (.seq (.asg (.nm 3) (.bin .add (.var 3) (.lst (.cons (.cst (.int 223606797)) (.cons (.cst (.int 244948975)) (.cons (.cst (.int 264575131)) (.cons (.cst (.int 331662479)) (.cons (.cst (.int 360555127)) .nil)))))))) (.seq (.ret (.bin .mod (.bin .mod (.bin .mul (.bin .add (.var 0) (.cst (.int 1))) (.ix (.var 3) (.var 1))) (.cst (.int 1000000007))) (.var 2))) .nil)))⟩
noncomputable def e_made_0 : Ex := (.bin .fdiv (.var 3) (.var 2))
noncomputable def c_made_0 : Ex := (.lc false [3] e_made_0 (.nm 3) (.seq (.var 0)) .none)
noncomputable def b_made_0 : Sm := (.seq (.asg (.nm 2) (.call 0 (.cons (.var 2) (.cons (.var 3) .nil)))) .nil)
noncomputable def l_made_0 : Sm := (.fr (.nm 3) (.seq (.var 0)) b_made_0)
noncomputable def f_made : Fn := ⟨2, 4, (.seq (.ifs (.cmp .eq (.var 1) (.cst (.int 0))) (.seq (.rse 3 .nil) .nil) .nil) (.seq (.asg (.nm 2) (.var 1)) (.seq l_made_0 (.seq (.ifs (.cmp .lt (.var 1) (.cst (.int 0))) (.seq (.asg (.nm 2) (.neg (.bi .abs (.cons (.var 2) .nil)))) .nil) .nil) (.seq (.ret (.tup (.cons (.bi .tuple (.cons c_made_0 .nil)) (.cons (.bin .fdiv (.var 1) (.var 2)) .nil)))) .nil)))))⟩
noncomputable def f__law_number_0 : Fn := ⟨1, 1, (.seq (.ifs (.cmp .eq (.bin .mod (.var 0) (.cst (.int 3))) (.cst (.int 0))) (.seq (.ret (.bin .sub (.bin .mod (.bin .fdiv (.var 0) (.cst (.int 3))) (.cst (.int 19))) (.cst (.int 9)))) .nil) .nil) (.seq (.ifs (.cmp .eq (.bin .mod (.var 0) (.cst (.int 3))) (.cst (.int 1))) (.seq (.ret (.bin .sub (.bin .mod (.bin .fdiv (.var 0) (.cst (.int 3))) (.cst (.int 2001))) (.cst (.int 1000)))) .nil) .nil) (.seq (.ret (.bin .sub (.bin .mod (.bin .fdiv (.var 0) (.cst (.int 3))) (.bin .add (.bin .mul (.cst (.int 2)) (.bin .pow (.cst (.int 10)) (.cst (.int 19)))) (.cst (.int 1)))) (.bin .pow (.cst (.int 10)) (.cst (.int 19))))) .nil)))⟩
noncomputable def e__law_drawn_0_0 : Ex := (.bin .fdiv (.var 6) (.var 5))
noncomputable def c__law_drawn_0_0 : Ex := (.lc false [6] e__law_drawn_0_0 (.nm 6) (.seq (.var 3)) .none)
noncomputable def b__law_drawn_0_0 : Sm := (.seq (.asg (.nm 5) (.call 9 (.cons (.var 5) (.cons (.var 6) .nil)))) .nil)
noncomputable def l__law_drawn_0_0 : Sm := (.fr (.nm 6) (.seq (.var 3)) b__law_drawn_0_0)
noncomputable def e__law_drawn_0_1 : Ex := (.call 19 (.cons (.call 2 (.cons (.var 0) (.cons (.bin .add (.var 1) (.var 7)) .nil))) .nil))
noncomputable def c__law_drawn_0_1 : Ex := (.lc false [7] e__law_drawn_0_1 (.nm 7) (.rng1 (.var 2)) .none)
noncomputable def f__law_drawn_0 : Fn := ⟨3, 8, (.seq (.asg (.nm 3) c__law_drawn_0_1) (.seq (.asg (.nm 4) (.bin .add (.cst (.int 1)) (.bin .mod (.call 2 (.cons (.var 0) (.cons (.bin .add (.var 1) (.var 2)) .nil))) (.ix (.lst (.cons (.cst (.int 1)) (.cons (.cst (.int 12)) (.cons (.bin .pow (.cst (.int 10)) (.cst (.int 12))) .nil)))) (.bin .mod (.call 2 (.cons (.var 0) (.cons (.var 1) .nil))) (.cst (.int 3))))))) (.seq (.asg (.nm 5) (.var 4)) (.seq l__law_drawn_0_0 (.seq (.ret (.tup (.cons (.bi .tuple (.cons c__law_drawn_0_0 .nil)) (.cons (.bin .fdiv (.var 4) (.var 5)) .nil)))) .nil)))))⟩
noncomputable def e_added_0 : Ex := (.bin .add (.var 2) (.var 3))
noncomputable def c_added_0 : Ex := (.lc false [2, 3] e_added_0 (.tp [2, 3]) (.zip (.var 0) (.var 1)) .none)
noncomputable def f_added : Fn := ⟨2, 4, (.seq (.ret (.bi .tuple (.cons c_added_0 .nil))) .nil)⟩
noncomputable def e_scaled_0 : Ex := (.bin .mul (.var 0) (.var 2))
noncomputable def c_scaled_0 : Ex := (.lc false [2] e_scaled_0 (.nm 2) (.seq (.var 1)) .none)
noncomputable def f_scaled : Fn := ⟨2, 3, (.seq (.ret (.bi .tuple (.cons c_scaled_0 .nil))) .nil)⟩
noncomputable def e__law_added_0_0 : Ex := (.bin .add (.var 2) (.var 3))
noncomputable def c__law_added_0_0 : Ex := (.lc false [2, 3] e__law_added_0_0 (.tp [2, 3]) (.zip (.var 0) (.var 1)) .none)
noncomputable def f__law_added_0 : Fn := ⟨2, 4, (.seq (.ret (.bi .tuple (.cons c__law_added_0_0 .nil))) .nil)⟩
noncomputable def e__law_scaled_0 : Ex := (.bin .mul (.var 0) (.var 2))
noncomputable def c__law_scaled_0 : Ex := (.lc false [2] e__law_scaled_0 (.nm 2) (.seq (.var 1)) .none)
noncomputable def f__law_scaled : Fn := ⟨2, 3, (.seq (.ret (.bi .tuple (.cons c__law_scaled_0 .nil))) .nil)⟩
noncomputable def f__law_alike_0 : Fn := ⟨2, 2, (.seq (.ret (.cmp .eq (.call 30 (.cons (.ix (.var 1) (.cst (.int 1))) (.cons (.ix (.var 0) (.cst (.int 0))) .nil))) (.call 30 (.cons (.ix (.var 0) (.cst (.int 1))) (.cons (.ix (.var 1) (.cst (.int 0))) .nil))))) .nil)⟩
noncomputable def f_tops_times : Fn := ⟨3, 10, (.seq (.ifs (.cmp .eq (.bi .len (.cons (.var 1) .nil)) (.cst (.int 1))) (.seq (.ret (.tup (.cons (.bin .mul (.ix (.var 1) (.cst (.int 0))) (.ix (.var 2) (.cst (.int 0)))) .nil))) .nil) .nil) (.seq (.asg (.nm 3) (.bin .fdiv (.bi .len (.cons (.var 1) .nil)) (.cst (.int 2)))) (.seq (.asg (.nm 4) (.slc (.var 0) .none (.some (.neg (.cst (.int 1)))))) (.seq (.asg (.nm 5) (.slc (.var 1) .none (.some (.var 3)))) (.seq (.asg (.nm 6) (.slc (.var 1) (.some (.var 3)) .none)) (.seq (.asg (.nm 7) (.slc (.var 2) .none (.some (.var 3)))) (.seq (.asg (.nm 8) (.slc (.var 2) (.some (.var 3)) .none)) (.seq (.asg (.nm 9) (.call 37 (.cons (.var 4) (.cons (.ix (.var 0) (.neg (.cst (.int 1)))) (.cons (.call 37 (.cons (.var 4) (.cons (.var 6) (.cons (.var 8) .nil)))) .nil))))) (.seq (.ret (.bin .add (.call 21 (.cons (.call 37 (.cons (.var 4) (.cons (.var 5) (.cons (.var 7) .nil)))) (.cons (.var 9) .nil))) (.call 21 (.cons (.call 37 (.cons (.var 4) (.cons (.var 5) (.cons (.var 8) .nil)))) (.cons (.call 37 (.cons (.var 4) (.cons (.var 6) (.cons (.var 7) .nil)))) .nil))))) .nil)))))))))⟩
noncomputable def f_times : Fn := ⟨3, 3, (.seq (.ret (.call 18 (.cons (.call 37 (.cons (.var 0) (.cons (.ix (.var 1) (.cst (.int 0))) (.cons (.ix (.var 2) (.cst (.int 0))) .nil)))) (.cons (.bin .mul (.ix (.var 1) (.cst (.int 1))) (.ix (.var 2) (.cst (.int 1)))) .nil)))) .nil)⟩
noncomputable def f__law_scaffold_0 : Fn := ⟨2, 9, (.seq (.asg (.nm 2) (.bin .add (.cst (.int 1)) (.call 12 (.cons (.var 0) (.cons (.cst (.int 0)) (.cons (.cst (.int 6)) .nil)))))) (.seq (.asg (.nm 3) (.bin .add (.bin .add (.bin .mul (.var 2) (.var 2)) (.cst (.int 1))) (.call 12 (.cons (.var 0) (.cons (.cst (.int 1)) (.cons (.bin .mul (.cst (.int 2)) (.var 2)) .nil)))))) (.seq (.asg (.nm 4) (.bin .add (.cst (.int 1)) (.call 12 (.cons (.var 0) (.cons (.cst (.int 2)) (.cons (.cst (.int 3)) .nil)))))) (.seq (.asg (.nm 5) (.bin .add (.cst (.int 1)) (.call 12 (.cons (.var 0) (.cons (.cst (.int 3)) (.cons (.cst (.int 3)) .nil)))))) (.seq (.asg (.nm 6) (.tup (.cons (.tup (.cons (.var 3) .nil)) (.cons (.tup (.cons (.call 12 (.cons (.var 0) (.cons (.cst (.int 4)) (.cons (.bin .add (.bin .mul (.var 4) (.var 2)) (.cst (.int 1))) .nil)))) (.cons (.var 4) .nil))) (.cons (.tup (.cons (.call 12 (.cons (.var 0) (.cons (.cst (.int 5)) (.cons (.var 5) .nil)))) (.cons (.cst (.int 0)) (.cons (.var 5) (.cons (.cst (.int 0)) .nil))))) .nil))))) (.seq (.ifs (.cmp .eq (.call 12 (.cons (.var 0) (.cons (.cst (.int 6)) (.cons (.cst (.int 3)) .nil)))) (.cst (.int 0))) (.seq (.asg (.nm 7) (.lst (.cons (.cst (.int 2)) (.cons (.cst (.int 3)) (.cons (.cst (.int 5)) (.cons (.cst (.int 7)) (.cons (.cst (.int 11)) (.cons (.cst (.int 13)) .nil)))))))) (.seq (.asg (.nm 8) (.call 12 (.cons (.var 0) (.cons (.cst (.int 7)) (.cons (.cst (.int 6)) .nil))))) (.seq (.asg (.nm 6) (.tup (.cons (.tup (.cons (.ix (.var 7) (.var 8)) .nil)) (.cons (.tup (.cons (.ix (.var 7) (.bin .mod (.bin .add (.var 8) (.cst (.int 1))) (.cst (.int 6)))) (.cons (.cst (.int 0)) .nil))) (.cons (.tup (.cons (.ix (.var 7) (.bin .mod (.bin .add (.var 8) (.cst (.int 2))) (.cst (.int 6)))) (.cons (.cst (.int 0)) (.cons (.cst (.int 0)) (.cons (.cst (.int 0)) .nil))))) .nil))))) .nil))) .nil) (.seq (.ret (.slc (.var 6) .none (.some (.var 1)))) .nil)))))))⟩
noncomputable def f__law_tops_times_0 : Fn := ⟨3, 8, (.seq (.ifs (.cmp .eq (.bi .len (.cons (.var 1) .nil)) (.cst (.int 1))) (.seq (.ret (.tup (.cons (.bin .mul (.ix (.var 1) (.cst (.int 0))) (.ix (.var 2) (.cst (.int 0)))) .nil))) .nil) .nil) (.seq (.asg (.nm 3) (.bin .fdiv (.bi .len (.cons (.var 1) .nil)) (.cst (.int 2)))) (.seq (.asg (.nm 4) (.slc (.var 0) .none (.some (.neg (.cst (.int 1)))))) (.seq (.asg (.nm 5) (.call 40 (.cons (.var 4) (.cons (.slc (.var 1) (.some (.var 3)) .none) (.cons (.slc (.var 2) (.some (.var 3)) .none) .nil))))) (.seq (.asg (.nm 6) (.call 29 (.cons (.call 40 (.cons (.var 4) (.cons (.slc (.var 1) .none (.some (.var 3))) (.cons (.slc (.var 2) .none (.some (.var 3))) .nil)))) (.cons (.call 40 (.cons (.var 4) (.cons (.ix (.var 0) (.neg (.cst (.int 1)))) (.cons (.var 5) .nil)))) .nil)))) (.seq (.asg (.nm 7) (.call 40 (.cons (.var 4) (.cons (.slc (.var 1) .none (.some (.var 3))) (.cons (.slc (.var 2) (.some (.var 3)) .none) .nil))))) (.seq (.ret (.bin .add (.var 6) (.call 29 (.cons (.var 7) (.cons (.call 40 (.cons (.var 4) (.cons (.slc (.var 1) (.some (.var 3)) .none) (.cons (.slc (.var 2) .none (.some (.var 3))) .nil)))) .nil))))) .nil)))))))⟩
noncomputable def f__law_product : Fn := ⟨3, 3, (.seq (.ret (.tup (.cons (.call 40 (.cons (.var 0) (.cons (.ix (.var 1) (.cst (.int 0))) (.cons (.ix (.var 2) (.cst (.int 0))) .nil)))) (.cons (.bin .mul (.ix (.var 1) (.cst (.int 1))) (.ix (.var 2) (.cst (.int 1)))) .nil)))) .nil)⟩
end Dp

end
section
set_option Elab.async false
set_option linter.all false
set_option maxRecDepth 100000
set_option maxHeartbeats 4000000
/-! Rp: how data lie in the abstract heap. -/
namespace Dp
open PySem PySem.Spec PyProof.Rows L2

/-- the cells of the store; the lists that are being made just now -/
structure Ms where
  c : List Addr
  z : List Addr
abbrev Ms.all (M : Ms) : List Addr := M.c ++ M.z
def strV (s : List Nat) : Str := ⟨s.toArray⟩
/-- a list that nobody will change: no cell of the store -/
def FzL (M : Ms) (H : Hp) (a : Addr) (xs : List V) : Prop := a ∉ M.all ∧ Rd H a (.lst xs)
/-- an exception that was caught, of the class cls, with its own dict, if any -/
def ExT (cls : Value) (d : Option Addr) (a : Addr) : HO := .ext fun h => ∃ (oe : Obj) (fs : Array Value), h.get? a = some oe ∧ oe.cls = cls ∧ oe.dict = d ∧ oe.data = .fields fs
/-- the fields' names -/
def fldS (f : Nat) : Str := if f = 0 then "number" else if f = 1 then "name" else "at"
/-- what an own error keeps -/
def ExF (c : Nat) (od : Option Addr) (H : Hp) (us : List V) : Prop := (us = [] ∧ od = none) ∨ ∃ dx u, us = [u] ∧ od = some dx ∧ H dx = some (.xd [(fldS (fldOf c), u)])
/-- the names of the error classes, by their numbers -/
def clsN : List Str := (["HallError", "Below", "NoText", "NoOver", "NoRoom", "NoLine", "NoRing", "NoRow", "TooMany", "TooGreat"] : List Str) ++ (["NoMeet", "Twice", "NoName", "NoKind", "NoCarry", "Step", "LineThrough", "FirstPoint", "RingThrough", "RingBy"] : List Str) ++ (["Cross", "Meet", "NoClaim", "NoMove", "NoChange", "NoAsk", "Drawing", "Claim", "Same", "On"] : List Str) ++ (["Even", "Longer", "Square", "Middle", "Row", "Left", "Corners", "Desk"] : List Str)
/-- where a class lies -/
def caOf (K : PySem.W.Frag) (c : Nat) : Option Addr := match clsN[c]? with
  | none => none
  | some x => match PySem.W.nsIn K mainGlobals x with
    | some (some (.ref a)) => some a
    | _ => none
mutual
def Rep (K : PySem.W.Frag) (M : Ms) (H : Hp) : D → V → Prop
  | .non, v => v = .non
  | .bl b, v => v = .bl b
  | .int i, v => v = .int i
  | .str s, v => v = .str (strV s)
  | .tup ds, v => ∃ a vs, v = .ref a ∧ SqT K H a vs ∧ Reps K M H ds vs
  | .lst ds, v => ∃ a vs, v = .ref a ∧ FzL M H a vs ∧ Reps K M H ds vs
  | .ref l, v => ∃ a, v = .ref a ∧ M.c[l]? = some a
  | .exc c ds, v => ∃ a C od us, v = .ref a ∧ caOf K c = some C ∧ H a = some (ExT (.ref C) od a) ∧ ExF c od H us ∧ Reps K M H ds us
def Reps (K : PySem.W.Frag) (M : Ms) (H : Hp) : List D → List V → Prop
  | [], vs => vs = []
  | d :: ds, vs => ∃ v r, vs = v :: r ∧ Rep K M H d v ∧ Reps K M H ds r
end

/-- time goes on: cells are added, what is no cell stays -/
structure ExtW (M : Ms) (H : Hp) (M' : Ms) (H' : Hp) : Prop where
  pre : ∃ N, M'.c = M.c ++ N
  keep : ∀ b o, H b = some o → b ∉ M.all → H' b = some o ∧ b ∉ M'.all
/-- .. and the lists that are being made stand as they stood -/
structure Ext (M : Ms) (H : Hp) (M' : Ms) (H' : Hp) : Prop extends ExtW M H M' H' where
  hid : ∀ p ∈ M.z, p ∈ M'.z ∧ H' p = H p
theorem ExtW.trans {M M1 M2 : Ms} {H H1 H2 : Hp} (a : ExtW M H M1 H1) (b : ExtW M1 H1 M2 H2) : ExtW M H M2 H2 := by
  obtain ⟨N, e⟩ := a.pre
  obtain ⟨N', e'⟩ := b.pre
  refine ⟨⟨N ++ N', by rw [e', e]; simp⟩, fun c o h n => ?_⟩
  obtain ⟨h1, n1⟩ := a.keep c o h n
  exact b.keep c o h1 n1
theorem Ext.refl (M : Ms) (H : Hp) : Ext M H M H := ⟨⟨⟨[], by simp⟩, fun b o h n => ⟨h, n⟩⟩, fun _ h => ⟨h, rfl⟩⟩
theorem Ext.trans {M M1 M2 : Ms} {H H1 H2 : Hp} (a : Ext M H M1 H1) (b : Ext M1 H1 M2 H2) : Ext M H M2 H2 :=
  ⟨a.toExtW.trans b.toExtW, fun p h => ⟨(b.hid p (a.hid p h).1).1, (b.hid p (a.hid p h).1).2.trans (a.hid p h).2⟩⟩
theorem ExtW.get {M M' : Ms} {H H' : Hp} (e : ExtW M H M' H') {l : Nat} {a : Addr} (h : M.c[l]? = some a) : M'.c[l]? = some a := by
  obtain ⟨N, e'⟩ := e.pre
  rw [e', List.getElem?_append_left (List.getElem?_eq_some_iff.mp h).1]
  exact h
/-- a new object that is no cell -/
theorem ExtW.new {M : Ms} {H : Hp} {p : Addr} {o : HO} (hp : H p = none) : ExtW M H M (upd H p o) :=
  ⟨⟨[], by simp⟩, fun b u h n => ⟨by rw [upd_ne (ne_of_none h hp)]; exact h, n⟩⟩

section
variable {K : PySem.W.Frag} {M M' : Ms} {H H' : Hp}
/-- what a cell may be -/
def mutO : HO → Prop
  | .lst _ => True
  | .dK _ => True
  | .ins _ _ _ => True
  | _ => False
/-- no tracked tuple is a cell -/
def NoTup (M : Ms) (H : Hp) : Prop := ∀ a ∈ M.all, ∃ o, H a = some o ∧ mutO o
theorem NoTup.no (n : NoTup M H) {a : Addr} {o : HO} (h : H a = some o) (m : ¬ mutO o) : a ∉ M.all := fun hm => by
  obtain ⟨u, e, q⟩ := n a hm
  rw [h] at e
  cases e
  exact m q
theorem NoTup.tup (n : NoTup M H) {a : Addr} {xs : List V} (h : Rd H a (.tup xs)) : a ∉ M.all := by
  rcases h with h | ⟨o, h⟩
  · exact n.no h id
  · exact n.no h id
theorem ExtW.rd (e : ExtW M H M' H') {a : Addr} {u : HO} (n : a ∉ M.all) (h : Rd H a u) : Rd H' a u ∧ a ∉ M'.all := by
  rcases h with h | ⟨o, h⟩
  · exact ⟨.inl (e.keep _ _ h n).1, (e.keep _ _ h n).2⟩
  · exact ⟨.inr ⟨o, (e.keep _ _ h n).1⟩, (e.keep _ _ h n).2⟩
theorem ExtW.sqT (e : ExtW M H M' H') (n : NoTup M H) {a : Addr} {xs : List V} (h : SqT K H a xs) : SqT K H' a xs := by
  rcases h with h | h
  · exact .inl (e.rd (n.tup h) h).1
  · exact .inr h
theorem ExtW.fzL (e : ExtW M H M' H') {a : Addr} {xs : List V} (h : FzL M H a xs) : FzL M' H' a xs := ⟨(e.rd h.1 h.2).2, (e.rd h.1 h.2).1⟩
theorem FzL.sqL {a : Addr} {xs : List V} (h : FzL M H a xs) : SqL K H a xs := .inl h.2
theorem ExF.extW (e : ExtW M H M' H') (n : NoTup M H) {c : Nat} {od : Option Addr} {us : List V} (h : ExF c od H us) : ExF c od H' us := by
  rcases h with h | ⟨dx, u, h1, h2, h3⟩
  · exact .inl h
  · exact .inr ⟨dx, u, h1, h2, (e.keep _ _ h3 (n.no h3 id)).1⟩
mutual
theorem Rep.extW (e : ExtW M H M' H') (n : NoTup M H) : ∀ {d : D} {v : V}, Rep K M H d v → Rep K M' H' d v
  | .non, _, h => h
  | .bl _, _, h => h
  | .int _, _, h => h
  | .str _, _, h => h
  | .tup ds, _, ⟨a, vs, e1, h1, h2⟩ => ⟨a, vs, e1, e.sqT n h1, Reps.extW e n h2⟩
  | .lst ds, _, ⟨a, vs, e1, h1, h2⟩ => ⟨a, vs, e1, e.fzL h1, Reps.extW e n h2⟩
  | .ref l, _, ⟨a, e1, h1⟩ => ⟨a, e1, e.get h1⟩
  | .exc _ ds, _, ⟨a, C, od, us, e1, h1, h2, h3, h4⟩ => ⟨a, C, od, us, e1, h1, (e.keep _ _ h2 (n.no h2 id)).1, ExF.extW e n h3, Reps.extW e n h4⟩
theorem Reps.extW (e : ExtW M H M' H') (n : NoTup M H) : ∀ {ds : List D} {vs : List V}, Reps K M H ds vs → Reps K M' H' ds vs
  | [], _, h => h
  | _ :: _, _, ⟨v, r, e1, h1, h2⟩ => ⟨v, r, e1, Rep.extW e n h1, Reps.extW e n h2⟩
end
theorem Rep.ext {d : D} {v : V} (r : Rep K M H d v) (e : Ext M H M' H') (n : NoTup M H) : Rep K M' H' d v := Rep.extW e.toExtW n r
theorem Reps.ext {d : List D} {v : List V} (r : Reps K M H d v) (e : Ext M H M' H') (n : NoTup M H) : Reps K M' H' d v := Reps.extW e.toExtW n r
theorem Reps.length : ∀ {ds : List D} {vs : List V}, Reps K M H ds vs → ds.length = vs.length
  | [], _, h => by cases h; rfl
  | _ :: _, _, ⟨v, r, e1, _, h2⟩ => by subst e1; simp [Reps.length h2]
theorem Reps.get : ∀ {ds : List D} {vs : List V} {i : Nat} {d : D}, Reps K M H ds vs → ds[i]? = some d → ∃ v, vs[i]? = some v ∧ Rep K M H d v
  | [], _, _, _, _, e => by simp at e
  | x :: ds, _, 0, d, ⟨v, r, e1, h1, _⟩, e => by subst e1; simp at e; subst e; exact ⟨v, rfl, h1⟩
  | x :: ds, _, i + 1, d, ⟨v, r, e1, _, h2⟩, e => by
    subst e1
    obtain ⟨w, h3, h4⟩ := Reps.get (i := i) h2 (by simpa using e)
    exact ⟨w, by simpa using h3, h4⟩
theorem Reps.append : ∀ {ds es : List D} {vs ws : List V}, Reps K M H ds vs → Reps K M H es ws → Reps K M H (ds ++ es) (vs ++ ws)
  | [], _, _, _, h, h' => by cases h; exact h'
  | x :: ds, _, _, _, ⟨v, r, e1, h1, h2⟩, h' => by subst e1; exact ⟨v, _, rfl, h1, Reps.append h2 h'⟩
theorem Reps.drop : ∀ {ds : List D} {vs : List V} (n : Nat), Reps K M H ds vs → Reps K M H (ds.drop n) (vs.drop n)
  | _, _, 0, h => h
  | [], _, n + 1, h => by cases h; simp [Reps]
  | _ :: _, _, n + 1, ⟨v, r, e1, _, h2⟩ => by subst e1; exact Reps.drop n h2
theorem Reps.take : ∀ {ds : List D} {vs : List V} (n : Nat), Reps K M H ds vs → Reps K M H (ds.take n) (vs.take n)
  | _, _, 0, _ => by simp [Reps]
  | [], _, n + 1, h => by cases h; simp [Reps]
  | _ :: _, _, n + 1, ⟨v, r, e1, h1, h2⟩ => by subst e1; exact ⟨v, _, rfl, h1, Reps.take n h2⟩
theorem Reps.reverse : ∀ {ds : List D} {vs : List V}, Reps K M H ds vs → Reps K M H ds.reverse vs.reverse
  | [], _, h => by cases h; simp [Reps]
  | d :: ds, _, ⟨v, r, e1, h1, h2⟩ => by
    subst e1
    simp only [List.reverse_cons]
    exact Reps.append (Reps.reverse h2) ⟨v, [], rfl, h1, rfl⟩
theorem Reps.set : ∀ {ds : List D} {vs : List V} (i : Nat) {d : D} {v : V}, Reps K M H ds vs → Rep K M H d v → Reps K M H (ds.set i d) (vs.set i v)
  | [], _, _, _, _, h, _ => by cases h; simp [Reps]
  | x :: ds, _, 0, d, v, ⟨v', r, e1, _, h2⟩, hd => by subst e1; exact ⟨v, r, rfl, hd, h2⟩
  | x :: ds, _, i + 1, d, v, ⟨v', r, e1, h1, h2⟩, hd => by subst e1; exact ⟨v', _, rfl, h1, Reps.set i h2 hd⟩
theorem Reps.rep {ds : List D} {vs : List V} (h : Reps K M H ds vs) : ∀ k : Nat, Reps K M H (List.replicate k ds).flatten (List.replicate k vs).flatten
  | 0 => by simp [Reps]
  | k + 1 => by
    simp only [List.replicate_succ, List.flatten_cons]
    exact Reps.append h (Reps.rep h k)
theorem Reps.ints : ∀ {ns : List Int} {vs : List V}, Reps K M H (ns.map D.int) vs → vs = ns.map V.int
  | [], _, h => by cases h; rfl
  | n :: ns, _, ⟨v, r, e1, h1, h2⟩ => by
    subst e1
    rw [Reps.ints h2, show v = V.int n from h1]
    rfl
theorem Reps.bls : ∀ {ns : List Bool} {vs : List V}, Reps K M H (ns.map D.bl) vs → vs = ns.map V.bl
  | [], _, h => by cases h; rfl
  | n :: ns, _, ⟨v, r, e1, h1, h2⟩ => by
    subst e1
    rw [Reps.bls h2, show v = V.bl n from h1]
    rfl
theorem reps_ints : ∀ (ns : List Int), Reps K M H (ns.map D.int) (ns.map V.int)
  | [] => rfl
  | n :: ns => ⟨V.int n, _, rfl, rfl, reps_ints ns⟩
end

theorem addr_ix {N : List Addr} (hN : N.Nodup) {i j : Nat} {x : Addr} (a : N[i]? = some x) (b : N[j]? = some x) : i = j := by
  obtain ⟨h1, e1⟩ := List.getElem?_eq_some_iff.mp a
  obtain ⟨h2, e2⟩ := List.getElem?_eq_some_iff.mp b
  exact (List.getElem_inj hN).mp (e1.trans e2.symm)
/-- the names of the fields of objects, by their numbers -/
def fieldN : List Str := ["name", "others", "across", "up", "square", "which", "steps", "scaffold", "things", "called", "drawing"]
def Flds (K : PySem.W.Frag) (M : Ms) (H : Hp) : List (Nat × D) → List (Str × V) → Prop
  | [], gs => gs = []
  | (f, d) :: fs, gs => ∃ x v r, gs = (x, v) :: r ∧ fieldN[f]? = some x ∧ Rep K M H d v ∧ Flds K M H fs r
def Dcts (K : PySem.W.Frag) (M : Ms) (H : Hp) : List (List Nat × D) → List (Key × V) → Prop
  | [], gs => gs = []
  | (k, d) :: fs, gs => ∃ v r, gs = (.inr (strV k), v) :: r ∧ Rep K M H d v ∧ Dcts K M H fs r
theorem Flds.extW {K : PySem.W.Frag} {M M' : Ms} {H H' : Hp} (e : ExtW M H M' H') (n : NoTup M H) : ∀ {fs : List (Nat × D)} {gs : List (Str × V)}, Flds K M H fs gs → Flds K M' H' fs gs
  | [], _, h => h
  | _ :: _, _, ⟨x, v, r, e1, h1, h2, h3⟩ => ⟨x, v, r, e1, h1, Rep.extW e n h2, Flds.extW e n h3⟩
theorem Dcts.extW {K : PySem.W.Frag} {M M' : Ms} {H H' : Hp} (e : ExtW M H M' H') (n : NoTup M H) : ∀ {fs : List (List Nat × D)} {gs : List (Key × V)}, Dcts K M H fs gs → Dcts K M' H' fs gs
  | [], _, h => h
  | _ :: _, _, ⟨v, r, e1, h2, h3⟩ => ⟨v, r, e1, Rep.extW e n h2, Dcts.extW e n h3⟩
def CellOk (K : PySem.W.Frag) (M : Ms) (H : Hp) (a : Addr) : Cell → Prop
  | .lst xs => ∃ vs, H a = some (.lst vs) ∧ Reps K M H xs vs
  | .dct kvs => ∃ gs, H a = some (.dK gs) ∧ Dcts K M H kvs gs
  | .ins c fs => ∃ C dx gs, H a = some (.ins C dx gs) ∧ caOf K c = some C ∧ H dx = some (.own a) ∧ Flds K M H fs gs
theorem CellOk.mut {K : PySem.W.Frag} {M : Ms} {H : Hp} {a : Addr} : ∀ {c : Cell}, CellOk K M H a c → ∃ o, H a = some o ∧ mutO o
  | .lst _, ⟨_, h, _⟩ => ⟨_, h, trivial⟩
  | .dct _, ⟨_, h, _⟩ => ⟨_, h, trivial⟩
  | .ins _ _, ⟨_, _, _, h, _⟩ => ⟨_, h, trivial⟩
theorem CellOk.extW {K : PySem.W.Frag} {M M' : Ms} {H H' : Hp} (e : ExtW M H M' H') (n : NoTup M H) {a : Addr} (ha : H' a = H a) : ∀ {c : Cell}, CellOk K M H a c → CellOk K M' H' a c
  | .lst _, ⟨vs, h, r⟩ => ⟨vs, ha.trans h, Reps.extW e n r⟩
  | .dct _, ⟨vs, h, r⟩ => ⟨vs, ha.trans h, Dcts.extW e n r⟩
  | .ins _ _, ⟨C, dx, gs, h, h1, h2, r⟩ => ⟨C, dx, gs, ha.trans h, h1, (e.keep _ _ h2 (n.no h2 id)).1, Flds.extW e n r⟩
/-- the store lies at M -/
structure StoOk (K : PySem.W.Frag) (M : Ms) (H : Hp) (st : Sto) : Prop where
  len : M.c.length = st.length
  nd : M.c.Nodup
  cell : ∀ (l : Nat) (a : Addr) (c : Cell), M.c[l]? = some a → st[l]? = some c → CellOk K M H a c
  hid : ∀ a ∈ M.z, a ∉ M.c ∧ ∃ xs, H a = some (.lst xs)
theorem StoOk.lst {K : PySem.W.Frag} {M : Ms} {H : Hp} {st : Sto} (s : StoOk K M H st) {l : Nat} {a : Addr} {xs : List D} (h : M.c[l]? = some a) (e : st[l]? = some (.lst xs)) : ∃ vs, H a = some (.lst vs) ∧ Reps K M H xs vs := s.cell l a _ h e
theorem StoOk.at {K : PySem.W.Frag} {M : Ms} {H : Hp} {st : Sto} (s : StoOk K M H st) {l : Nat} {a : Addr} (h : M.c[l]? = some a) : ∃ c, st[l]? = some c ∧ CellOk K M H a c := by
  have hl : l < st.length := by rw [← s.len]; exact (List.getElem?_eq_some_iff.mp h).1
  exact ⟨_, List.getElem?_eq_getElem hl, s.cell l a _ h (List.getElem?_eq_getElem hl)⟩
theorem StoOk.noTup {K : PySem.W.Frag} {M : Ms} {H : Hp} {st : Sto} (s : StoOk K M H st) : NoTup M H := fun a h => by
  rcases List.mem_append.mp h with h | h
  · obtain ⟨l, hl⟩ := List.getElem?_of_mem h
    obtain ⟨c, _, h1⟩ := s.at hl
    exact h1.mut
  · obtain ⟨_, xs, e⟩ := s.hid a h
    exact ⟨_, e, trivial⟩
/-- the names' values -/
structure EnvOk (K : PySem.W.Frag) (M : Ms) (H : Hp) (env : Nv) (σ : L2.St) : Prop where
  len : σ.length = env.length
  get : ∀ (i : Nat) (d : D), env[i]? = some (some d) → ∃ v, σ[i]? = some (some v) ∧ Rep K M H d v
section
variable {K : PySem.W.Frag} {M M' : Ms} {H H' : Hp} {st : Sto} {env : Nv} {σ : L2.St}
theorem EnvOk.extW (x : EnvOk K M H env σ) (e : ExtW M H M' H') (n : NoTup M H) : EnvOk K M' H' env σ :=
  ⟨x.len, fun i d h => let ⟨v, h1, h2⟩ := x.get i d h; ⟨v, h1, Rep.extW e n h2⟩⟩
theorem EnvOk.ext (x : EnvOk K M H env σ) (e : Ext M H M' H') (n : NoTup M H) : EnvOk K M' H' env σ := x.extW e.toExtW n
theorem EnvOk.set (x : EnvOk K M H env σ) (i : Nat) {d : D} {v : V} (r : Rep K M H d v) : EnvOk K M H (env.set i (some d)) (σ.set i (some v)) := by
  refine ⟨by simp [x.len], fun j e h => ?_⟩
  by_cases hj : i = j
  · subst hj
    by_cases hi : i < env.length
    · rw [List.getElem?_set_self hi] at h
      cases h
      exact ⟨v, List.getElem?_set_self (by rw [x.len]; exact hi), r⟩
    · rw [List.getElem?_eq_none (by simpa using hi)] at h; cases h
  · rw [List.getElem?_set_ne hj] at h
    rw [List.getElem?_set_ne hj]
    exact x.get j e h
theorem EnvOk.wipe (x : EnvOk K M H env σ) : ∀ vs, EnvOk K M H (wipe env vs) (L2.wipe σ vs)
  | [] => x
  | v :: vs => by
    have y := EnvOk.wipe x vs
    unfold Dp.wipe L2.wipe
    refine ⟨by simp [y.len], fun j e h => ?_⟩
    by_cases hj : v = j
    · subst hj
      by_cases hi : v < (Dp.wipe env vs).length
      · rw [List.getElem?_set_self hi] at h; cases h
      · rw [List.getElem?_eq_none (by simpa using hi)] at h; cases h
    · rw [List.getElem?_set_ne hj] at h
      rw [List.getElem?_set_ne hj]
      exact y.get j e h
theorem StoOk.fresh (s : StoOk K M H st) {p : Addr} (hp : H p = none) : p ∉ M.all := fun hm => by
  obtain ⟨o, e, _⟩ := s.noTup p hm
  rw [hp] at e; cases e
theorem StoOk.ne (s : StoOk K M H st) {l : Nat} {a p : Addr} (h : M.c[l]? = some a) (hp : H p = none) : a ≠ p := fun z => by
  obtain ⟨c, _, h1⟩ := s.at h
  obtain ⟨o, e, _⟩ := h1.mut
  rw [z, hp] at e; cases e
theorem Ext.new (s : StoOk K M H st) {p : Addr} {o : HO} (hp : H p = none) : Ext M H M (upd H p o) :=
  ⟨ExtW.new hp, fun q hq => ⟨hq, by
    obtain ⟨_, xs, e⟩ := s.hid q hq
    rw [upd_ne (ne_of_none e hp)]⟩⟩
theorem StoOk.ext_new (s : StoOk K M H st) {p : Addr} {o : HO} (hp : H p = none) : StoOk K M (upd H p o) st := by
  refine ⟨s.len, s.nd, fun l a c h e => ?_, fun a ha => ?_⟩
  · exact (s.cell l a c h e).extW (Ext.new s hp).toExtW s.noTup (upd_ne (s.ne h hp))
  · obtain ⟨h1, xs, h2⟩ := s.hid a ha
    exact ⟨h1, xs, by rw [upd_ne (ne_of_none h2 hp)]; exact h2⟩
/-- a new cell of any kind -/
theorem StoOk.cellNewG (s : StoOk K M H st) {p : Addr} {o : HO} {c : Cell} (hp : H p = none) (r : Ext M H ⟨M.c ++ [p], M.z⟩ (upd H p o) → CellOk K ⟨M.c ++ [p], M.z⟩ (upd H p o) p c) :
    StoOk K ⟨M.c ++ [p], M.z⟩ (upd H p o) (st ++ [c]) ∧ Ext M H ⟨M.c ++ [p], M.z⟩ (upd H p o) := by
  have n := s.noTup
  have hM := s.fresh hp
  have hM1 : p ∉ M.c := fun z => hM (List.mem_append_left _ z)
  have hM2 : p ∉ M.z := fun z => hM (List.mem_append_right _ z)
  have x : Ext M H ⟨M.c ++ [p], M.z⟩ (upd H p o) := ⟨⟨⟨[p], rfl⟩, fun b u h nb => ⟨by rw [upd_ne (ne_of_none h hp)]; exact h, by
    have hb := ne_of_none h hp
    simp only [Ms.all, List.mem_append, List.mem_singleton, not_or] at nb ⊢
    exact ⟨⟨nb.1, hb⟩, nb.2⟩⟩⟩, fun q hq => ⟨hq, by rw [upd_ne (fun z : q = p => hM2 (by rw [← z]; exact hq))]⟩⟩
  refine ⟨⟨by simp [s.len], ?_, fun l a c' h e => ?_, fun a ha => ?_⟩, x⟩
  · show (M.c ++ [p]).Nodup
    rw [List.nodup_append]
    exact ⟨s.nd, by simp, fun a ha b hb => by simp at hb; subst hb; exact fun z => hM1 (z ▸ ha)⟩
  · have h : (M.c ++ [p])[l]? = some a := h
    by_cases hl : l < M.c.length
    · rw [List.getElem?_append_left hl] at h
      rw [List.getElem?_append_left (by rw [← s.len]; exact hl)] at e
      exact (s.cell l a c' h e).extW x.toExtW n (upd_ne (s.ne h hp))
    · have el : l = M.c.length := by
        have := (List.getElem?_eq_some_iff.mp h).1
        simp at this
        omega
      subst el
      rw [List.getElem?_append_right (Nat.le_refl _)] at h
      rw [List.getElem?_append_right (by rw [s.len]; exact Nat.le_refl _)] at e
      simp at h
      simp [s.len] at e
      subst h e
      exact r x
  · have ha : a ∈ M.z := ha
    obtain ⟨h1, xs, h2⟩ := s.hid a ha
    refine ⟨?_, xs, by rw [upd_ne (ne_of_none h2 hp)]; exact h2⟩
    simp only [List.mem_append, List.mem_singleton, not_or]
    exact ⟨h1, fun z => hM2 (z ▸ ha)⟩
/-- a new cell -/
theorem StoOk.cellNew (s : StoOk K M H st) {p : Addr} {xs : List D} {vs : List V} (hp : H p = none) (r : Reps K M H xs vs) :
    StoOk K ⟨M.c ++ [p], M.z⟩ (upd H p (.lst vs)) (st ++ [.lst xs]) ∧ Ext M H ⟨M.c ++ [p], M.z⟩ (upd H p (.lst vs)) :=
  s.cellNewG hp fun x => ⟨vs, upd_same, r.ext x s.noTup⟩
/-- a cell is changed, of any kind -/
theorem StoOk.cellSetG (s : StoOk K M H st) {l : Nat} {a : Addr} {o : HO} {c : Cell} (h : M.c[l]? = some a) (r : Ext M H M (upd H a o) → CellOk K M (upd H a o) a c) :
    StoOk K M (upd H a o) (st.set l c) ∧ Ext M H M (upd H a o) := by
  have n := s.noTup
  have hl : l < st.length := by rw [← s.len]; exact (List.getElem?_eq_some_iff.mp h).1
  have hMc : a ∈ M.c := List.mem_of_getElem? h
  have hM : a ∈ M.all := List.mem_append_left _ hMc
  have x : Ext M H M (upd H a o) := ⟨⟨⟨[], by simp⟩, fun b u hb nb => ⟨by rw [upd_ne (fun z : b = a => nb (by rw [z]; exact hM))]; exact hb, nb⟩⟩, fun q hq => ⟨hq, by rw [upd_ne (fun z : q = a => (s.hid q hq).1 (by rw [z]; exact hMc))]⟩⟩
  refine ⟨⟨by simp [s.len], s.nd, fun j b c' hj e => ?_, fun b hb => ?_⟩, x⟩
  · by_cases ej : l = j
    · subst ej
      rw [h] at hj; cases hj
      rw [List.getElem?_set_self hl] at e
      cases e
      exact r x
    · rw [List.getElem?_set_ne ej] at e
      have ne : b ≠ a := fun z => ej (by
        subst z
        exact addr_ix s.nd h hj)
      exact (s.cell j b c' hj e).extW x.toExtW n (upd_ne ne)
  · obtain ⟨h1, ys, h2⟩ := s.hid b hb
    exact ⟨h1, ys, by rw [upd_ne (fun z : b = a => h1 (by rw [z]; exact hMc))]; exact h2⟩
/-- a list is changed -/
theorem StoOk.cellSet (s : StoOk K M H st) {l : Nat} {a : Addr} {xs : List D} {vs : List V} (h : M.c[l]? = some a) (r : Reps K M H xs vs) :
    StoOk K M (upd H a (.lst vs)) (st.set l (.lst xs)) ∧ Ext M H M (upd H a (.lst vs)) :=
  s.cellSetG h fun x => ⟨vs, upd_same, r.ext x s.noTup⟩
/-- a list is begun: hidden while it is made -/
theorem StoOk.hide (s : StoOk K M H st) {p : Addr} {vs : List V} (hp : H p = none) : StoOk K ⟨M.c, p :: M.z⟩ (upd H p (.lst vs)) st ∧ Ext M H ⟨M.c, p :: M.z⟩ (upd H p (.lst vs)) := by
  have n := s.noTup
  have hM := s.fresh hp
  have hM1 : p ∉ M.c := fun z => hM (List.mem_append_left _ z)
  have hM2 : p ∉ M.z := fun z => hM (List.mem_append_right _ z)
  have x : Ext M H ⟨M.c, p :: M.z⟩ (upd H p (.lst vs)) := ⟨⟨⟨[], by simp⟩, fun b u h nb => ⟨by rw [upd_ne (ne_of_none h hp)]; exact h, by
    have hb := ne_of_none h hp
    simp only [Ms.all, List.mem_append, List.mem_cons, not_or] at nb ⊢
    exact ⟨nb.1, hb, nb.2⟩⟩⟩, fun q hq => ⟨List.mem_cons_of_mem _ hq, by rw [upd_ne (fun z : q = p => hM2 (by rw [← z]; exact hq))]⟩⟩
  refine ⟨⟨s.len, s.nd, fun l a c h e => ?_, fun a ha => ?_⟩, x⟩
  · exact (s.cell l a c h e).extW x.toExtW n (upd_ne (s.ne h hp))
  · rcases List.mem_cons.mp ha with rfl | ha
    · exact ⟨hM1, vs, upd_same⟩
    · obtain ⟨h1, xs, h2⟩ := s.hid a ha
      exact ⟨h1, xs, by rw [upd_ne (ne_of_none h2 hp)]; exact h2⟩
/-- .. it grows -/
theorem StoOk.grow (s : StoOk K M H st) {p : Addr} {vs : List V} (hz : p ∈ M.z) : StoOk K M (upd H p (.lst vs)) st ∧ ExtW M H M (upd H p (.lst vs)) := by
  have n := s.noTup
  have hM : p ∈ M.all := List.mem_append_right _ hz
  have x : ExtW M H M (upd H p (.lst vs)) := ⟨⟨[], by simp⟩, fun b u hb nb => ⟨by rw [upd_ne (fun z : b = p => nb (by rw [z]; exact hM))]; exact hb, nb⟩⟩
  refine ⟨⟨s.len, s.nd, fun l a c h e => ?_, fun a ha => ?_⟩, x⟩
  · exact (s.cell l a c h e).extW x n (upd_ne fun z : a = p => (s.hid p hz).1 (by rw [← z]; exact List.mem_of_getElem? h))
  · obtain ⟨h1, xs, h2⟩ := s.hid a ha
    by_cases hap : a = p
    · subst hap; exact ⟨h1, vs, upd_same⟩
    · exact ⟨h1, xs, by rw [upd_ne hap]; exact h2⟩
/-- .. it is done -/
def Ms.out (M : Ms) (p : Addr) : Ms := ⟨M.c, M.z.filter fun q => decide (q ≠ p)⟩
theorem StoOk.show (s : StoOk K M H st) (p : Addr) : StoOk K (M.out p) H st ∧ ExtW M H (M.out p) H := by
  have n := s.noTup
  have x : ExtW M H (M.out p) H := ⟨⟨[], by simp [Ms.out]⟩, fun b u hb nb => ⟨hb, by
    simp only [Ms.all, Ms.out, List.mem_append, List.mem_filter, not_or] at nb ⊢
    exact ⟨nb.1, fun z => nb.2 z.1⟩⟩⟩
  exact ⟨⟨s.len, s.nd, fun l a cc h e => (s.cell l a cc h e).extW x n rfl, fun a ha => s.hid a (List.mem_filter.mp ha).1⟩, x⟩
theorem StoOk.own (s : StoOk K M H st) {p : Addr} {xs : List D} {vs : List V} (hp : p ∈ M.z) (h : H p = some (.lst vs)) (r : Reps K M H xs vs) :
    StoOk K ⟨M.c ++ [p], (M.out p).z⟩ H (st ++ [.lst xs]) ∧ ExtW M H ⟨M.c ++ [p], (M.out p).z⟩ H := by
  have n := s.noTup
  have hM1 := (s.hid p hp).1
  have x : ExtW M H ⟨M.c ++ [p], (M.out p).z⟩ H := ⟨⟨[p], rfl⟩, fun b u hb nb => ⟨hb, by
    simp only [Ms.all, Ms.out, List.mem_append, List.mem_filter, List.mem_singleton, not_or] at nb ⊢
    exact ⟨⟨nb.1, fun z => nb.2 (by rw [z]; exact hp)⟩, fun z => nb.2 z.1⟩⟩⟩
  refine ⟨⟨by simp [s.len], ?_, fun l a c h' e => ?_, fun a ha => ?_⟩, x⟩
  · show (M.c ++ [p]).Nodup
    rw [List.nodup_append]
    exact ⟨s.nd, by simp, fun a ha b hb => by simp at hb; subst hb; exact fun z => hM1 (z ▸ ha)⟩
  · have h' : (M.c ++ [p])[l]? = some a := h'
    by_cases hl : l < M.c.length
    · rw [List.getElem?_append_left hl] at h'
      rw [List.getElem?_append_left (by rw [← s.len]; exact hl)] at e
      exact (s.cell l a c h' e).extW x n rfl
    · have el : l = M.c.length := by
        have := (List.getElem?_eq_some_iff.mp h').1
        simp at this
        omega
      subst el
      rw [List.getElem?_append_right (Nat.le_refl _)] at h'
      rw [List.getElem?_append_right (by rw [s.len]; exact Nat.le_refl _)] at e
      simp at h'
      simp [s.len] at e
      subst h' e
      exact ⟨vs, h, Reps.extW x n r⟩
  · have ha : a ∈ (M.out p).z := ha
    simp only [Ms.out, List.mem_filter, decide_eq_true_eq] at ha
    obtain ⟨h1, xs, h2⟩ := s.hid a ha.1
    refine ⟨?_, xs, h2⟩
    simp only [List.mem_append, List.mem_singleton, not_or]
    exact ⟨h1, ha.2⟩
theorem Ms.not_out (M : Ms) {p : Addr} (h : p ∉ M.c) : p ∉ (M.out p).all := by
  simp only [Ms.all, Ms.out, List.mem_append, List.mem_filter, not_or]
  exact ⟨h, fun z => by simp at z⟩
theorem Ms.in_out (M : Ms) {p q : Addr} (h : q ∈ M.z) (n : q ≠ p) : q ∈ (M.out p).z := List.mem_filter.mpr ⟨h, by simp [n]⟩

/-- a new list that nobody will change -/
theorem FzL.new (s : StoOk K M H st) {p : Addr} {vs : List V} (hp : H p = none) : FzL M (upd H p (.lst vs)) p vs := ⟨s.fresh hp, .inl upd_same⟩
end

/-! ### what an evaluation asks -/
/-- an exception: its class, its own dict -/
def XRep (K : PySem.W.Frag) (CA : Nat → Option Addr) (M : Ms) (H : Hp) : D → Value → Option Addr → Prop
  | .exc c ds, cls, od => ∃ C us, CA c = some C ∧ cls = .ref C ∧ ExF c od H us ∧ Reps K M H ds us
  | _, _, _ => False
section
variable (K : PySem.W.Frag) (CA : Nat → Option Addr)
/-- behind r: what holds of what it gives, what of what it raises -/
def Got {α β : Type} (M : Ms) (H : Hp) (R : Ms → Hp → α → β → Prop) (W : Value → Option Addr → Hp → Prop) (r : Ans α) (Q : β → Hp → Prop) : Prop :=
  match r with
  | none => False
  | some (.ok a st') => ∀ M' H' b, Ext M H M' H' → StoOk K M' H' st' → R M' H' a b → Q b H'
  | some (.ex x st') => ∀ M' H' cls od, Ext M H M' H' → StoOk K M' H' st' → XRep K CA M' H' x cls od → W cls od H'
end
section
variable {K : PySem.W.Frag} {CA : Nat → Option Addr} {α β γ δ : Type} {M M1 : Ms} {H H1 : Hp} {R : Ms → Hp → α → β → Prop} {R2 : Ms → Hp → γ → δ → Prop} {W : Value → Option Addr → Hp → Prop} {Q : β → Hp → Prop} {Q2 : δ → Hp → Prop} {st : Sto}
theorem Got.ext {r : Ans α} (g : Got K CA M H R W r Q) (e : Ext M H M1 H1) : Got K CA M1 H1 R W r Q := by
  match r, g with
  | some (.ok a st'), g => exact fun M' H' b e' s r => g M' H' b (e.trans e') s r
  | some (.ex x st'), g => exact fun M' H' cls od e' s r => g M' H' cls od (e.trans e') s r
theorem Got.bnd {m : Ans α} {f : α → Sto → Ans γ} (g : Got K CA M H R2 W (bnd m f) Q2)
    (k : ∀ a st1 M1 H1 b, Ext M H M1 H1 → StoOk K M1 H1 st1 → R M1 H1 a b → Got K CA M1 H1 R2 W (f a st1) Q2 → Q b H1) : Got K CA M H R W m Q := by
  match m, g with
  | some (.ok a st'), g => exact fun M' H' b e s r => k a st' M' H' b e s r (Got.ext (r := f a st') g e)
  | some (.ex x st'), g => exact g
theorem Got.noX {r : Ans α} (h : ∀ cls d H', ¬ W cls d H') (g : Got K CA M H R W r Q) : Got K CA M H R (fun _ _ _ => False) r Q := by
  match r, g with
  | some (.ok a st'), g => exact g
  | some (.ex x st'), g => exact fun M' H' cls od e s q => h _ _ _ (g M' H' cls od e s q)
theorem Got.ok {a : α} {b : β} (g : Got K CA M H R W (some (.ok a st)) Q) (s : StoOk K M H st) (r : R M H a b) : Q b H := g M H b (Ext.refl M H) s r
theorem Got.okE {a : α} {b : β} (g : Got K CA M H R W (some (.ok a st)) Q) (e : Ext M H M1 H1) (s : StoOk K M1 H1 st) (r : R M1 H1 a b) : Q b H1 := g M1 H1 b e s r
theorem Got.lft {o : Option α} (g : Got K CA M H R W (lft o st) Q) : ∃ a, o = some a ∧ Got K CA M H R W (some (.ok a st)) Q := by
  cases o with
  | none => exact g.elim
  | some a => exact ⟨a, rfl, g⟩
/-- another wish for what it gives -/
theorem Got.imp {r : Ans α} {Q' : β → Hp → Prop} (g : Got K CA M H R W r Q) (h : ∀ b H, Q b H → Q' b H) : Got K CA M H R W r Q' := by
  match r, g with
  | some (.ok a st'), g => exact fun M' H' b e s r => h b H' (g M' H' b e s r)
  | some (.ex x st'), g => exact g
/-- a new tuple -/
theorem Got.tup {ds : List D} {vs : List V} {Q : VK} (g : Got K CA M H (Rep K) W (some (.ok (.tup ds) st)) Q) (s : StoOk K M H st) (r : Reps K M H ds vs) (p : Addr) (hp : H p = none) : Q (.ref p) (upd H p (.tup vs)) :=
  g.okE (Ext.new s hp) (s.ext_new hp) ⟨p, vs, rfl, SqT.of upd_same, r.ext (Ext.new s hp) s.noTup⟩
/-- a new list, no cell -/
theorem Got.fls {ds : List D} {vs : List V} {Q : VK} (g : Got K CA M H (Rep K) W (some (.ok (.lst ds) st)) Q) (s : StoOk K M H st) (r : Reps K M H ds vs) (p : Addr) (hp : H p = none) : Q (.ref p) (upd H p (.lst vs)) :=
  g.okE (Ext.new s hp) (s.ext_new hp) ⟨p, vs, rfl, FzL.new s hp, r.ext (Ext.new s hp) s.noTup⟩
/-- a new cell -/
theorem Got.cel {ds : List D} {vs : List V} {Q : VK} (g : Got K CA M H (Rep K) W (some (.ok (.ref st.length) (st ++ [.lst ds]))) Q) (s : StoOk K M H st) (r : Reps K M H ds vs) (p : Addr) (hp : H p = none) : Q (.ref p) (upd H p (.lst vs)) := by
  obtain ⟨s', x⟩ := s.cellNew hp r
  refine g.okE x s' ⟨p, rfl, ?_⟩
  rw [← s.len]
  simp
end

/-- as seen: a list of the store like any other -/
def RepW (K : PySem.W.Frag) (M : Ms) (H : Hp) : D → V → Prop
  | .lst ds, v => ∃ a vs, v = .ref a ∧ Rd H a (.lst vs) ∧ Reps K M H ds vs
  | d, v => Rep K M H d v
theorem viewed {K : PySem.W.Frag} {M : Ms} {H : Hp} {st : Sto} (s : StoOk K M H st) {d : D} {v : V} (r : Rep K M H d v) : RepW K M H (view st d) v := by
  cases d with
  | ref l =>
    obtain ⟨a, e, h⟩ := r
    obtain ⟨c, ex', h1⟩ := s.at h
    cases c with
    | lst xs =>
      obtain ⟨vs, h1, h2⟩ := h1
      have : view st (.ref l) = .lst xs := by unfold view; simp only [ex']
      rw [this]
      exact ⟨a, vs, e, .inl h1, h2⟩
    | dct kvs =>
      have : view st (.ref l) = .ref l := by unfold view; simp only [ex']
      rw [this]
      exact ⟨a, e, h⟩
    | ins _ _ =>
      have : view st (.ref l) = .ref l := by unfold view; simp only [ex']
      rw [this]
      exact ⟨a, e, h⟩
  | lst ds =>
    obtain ⟨a, vs, e, h1, h2⟩ := r
    exact ⟨a, vs, e, h1.2, h2⟩
  | non => exact r
  | bl _ => exact r
  | int _ => exact r
  | str _ => exact r
  | tup _ => exact r
  | exc _ _ => exact r
end Dp

end
section
set_option Elab.async false
set_option linter.all false
set_option maxRecDepth 100000
set_option maxHeartbeats 4000000
/-! Rq: fields and dicts, as they lie. -/
namespace Dp
open PySem PySem.Spec PyProof.Rows L2

/-- the names of methods, by their numbers -/
def methN : List Str := ["named", "needs", "text", "word", "wants", "done", "rows", "roots", "place", "add", "ask_room", "wanted", "spots", "reckoned", "is_so", "measured", "asked", "opened", "squared", "told", "about", "asked_point", "point"]
theorem ixQ {N : List Str} (hN : N.Nodup) {i j : Nat} {x : Str} (a : N[i]? = some x) (b : N[j]? = some x) : i = j := by
  obtain ⟨h1, e1⟩ := List.getElem?_eq_some_iff.mp a
  obtain ⟨h2, e2⟩ := List.getElem?_eq_some_iff.mp b
  exact (List.getElem_inj hN).mp (e1.trans e2.symm)
theorem field_inj {f g : Nat} {x : Str} (a : fieldN[f]? = some x) (b : fieldN[g]? = some x) : f = g := ixQ (by decide +kernel) a b
theorem meth_field {m f : Nat} {x y : Str} (a : methN[m]? = some x) (b : fieldN[f]? = some y) : y ≠ x := by
  intro e
  subst e
  have h : methN.all (fun x => !fieldN.contains x) = true := by decide +kernel
  have := List.all_eq_true.mp h _ (List.mem_of_getElem? a)
  simp only [Bool.not_eq_true', List.contains_eq_mem, decide_eq_false_iff_not] at this
  exact this (List.mem_of_getElem? b)
section
variable {K : PySem.W.Frag} {M : Ms} {H : Hp}
theorem Flds.get : ∀ {fs : List (Nat × D)} {gs : List (Str × V)} {f : Nat} {d : D}, Flds K M H fs gs → fs.lookup f = some d → ∃ x v, fieldN[f]? = some x ∧ gs.lookup x = some v ∧ Rep K M H d v
  | [], _, _, _, _, h => by cases h
  | (g, e) :: fs, gs, f, d, ⟨x, v, r, e1, h1, h2, h3⟩, h => by
    subst e1
    rw [List.lookup_cons] at h
    by_cases hf : f = g
    · subst hf
      simp only [beq_self_eq_true] at h
      cases h
      exact ⟨x, v, h1, by rw [List.lookup_cons]; simp, h2⟩
    · rw [beq_eq_false_iff_ne.mpr hf] at h
      simp only at h
      obtain ⟨y, u, q1, q2, q3⟩ := Flds.get h3 h
      refine ⟨y, u, q1, ?_, q3⟩
      have hxy : y ≠ x := fun z => hf (by subst z; exact field_inj q1 h1)
      rw [List.lookup_cons, beq_eq_false_iff_ne.mpr hxy]
      exact q2
theorem Flds.none : ∀ {fs : List (Nat × D)} {gs : List (Str × V)} {x : Str}, Flds K M H fs gs → (∀ (f : Nat) (y : Str), fieldN[f]? = some y → y ≠ x) → gs.lookup x = none
  | [], _, _, h, _ => by cases h; rfl
  | (g, e) :: fs, gs, x, ⟨y, v, r, e1, h1, h2, h3⟩, hx => by
    subst e1
    rw [List.lookup_cons, beq_eq_false_iff_ne.mpr (Ne.symm (hx _ _ h1))]
    exact Flds.none h3 hx
theorem Flds.length : ∀ {fs : List (Nat × D)} {gs : List (Str × V)}, Flds K M H fs gs → gs.length = fs.length
  | [], _, h => by cases h; rfl
  | (g, e) :: fs, gs, ⟨y, v, r, e1, h1, h2, h3⟩ => by subst e1; simp [Flds.length h3]
theorem Flds.put : ∀ {fs : List (Nat × D)} {gs : List (Str × V)} {f : Nat} {x : Str} {d : D} {v : V}, Flds K M H fs gs → fieldN[f]? = some x → Rep K M H d v → Flds K M H (fput f d fs) (putF x v gs)
  | [], _, f, x, d, v, h, hf, r => by cases h; exact ⟨x, v, [], rfl, hf, r, rfl⟩
  | (g, e) :: fs, gs, f, x, d, v, ⟨y, u, r', e1, h1, h2, h3⟩, hf, r => by
    subst e1
    show Flds K M H (if g = f then (g, d) :: fs else (g, e) :: fput f d fs) (if y = x then (y, v) :: r' else (y, u) :: putF x v r')
    by_cases hg : g = f
    · subst hg
      rw [h1] at hf
      cases hf
      rw [if_pos rfl, if_pos rfl]
      exact ⟨_, _, _, rfl, h1, r, h3⟩
    · have hy : y ≠ x := fun z => hg (by subst z; exact field_inj h1 hf)
      rw [if_neg hg, if_neg hy]
      exact ⟨_, _, _, rfl, h1, h2, Flds.put h3 hf r⟩
theorem strV_inj {a b : List Nat} (h : strV a = strV b) : a = b := by
  have := congrArg (fun z : Str => z.1.toList) h
  exact this
theorem key_dec (a b : List Nat) : decide ((Sum.inr (strV a) : Key) = .inr (strV b)) = decide (a = b) := by
  rw [Bool.eq_iff_iff]
  simp only [decide_eq_true_eq]
  exact ⟨fun h => strV_inj (Sum.inr.inj h), fun h => by rw [h]⟩
theorem Dcts.get : ∀ {kvs : List (List Nat × D)} {gs : List (Key × V)} (k : List Nat), Dcts K M H kvs gs → (∀ d, dget kvs k = some d → ∃ v, valV gs (.inr (strV k)) = some v ∧ Rep K M H d v) ∧ (dget kvs k = none → valV gs (.inr (strV k)) = none)
  | [], _, k, h => by
    cases h
    exact ⟨fun d h => (by cases h), fun _ => rfl⟩
  | (j, e) :: kvs, gs, k, ⟨v, r, e1, h2, h3⟩ => by
    subst e1
    obtain ⟨i1, i2⟩ := Dcts.get k h3
    by_cases hj : j = k
    · subst hj
      rw [valV_pos rfl]
      have e : dget ((j, e) :: kvs) j = some e := by unfold dget; simp
      rw [e]
      exact ⟨fun d h => (by cases h; exact ⟨v, rfl, h2⟩), fun h => (by cases h)⟩
    · have hn : ¬ ((Sum.inr (strV j) : Key) = .inr (strV k)) := fun z => hj (strV_inj (Sum.inr.inj z))
      rw [valV_neg (p := ((.inr (strV j) : Key), v)) hn]
      have e : dget ((j, e) :: kvs) k = dget kvs k := by unfold dget; simp [List.find?_cons, hj]
      rw [e]
      exact ⟨i1, i2⟩
theorem Dcts.length : ∀ {kvs : List (List Nat × D)} {gs : List (Key × V)}, Dcts K M H kvs gs → gs.length = kvs.length
  | [], _, h => by cases h; rfl
  | _ :: _, _, ⟨_, _, e1, _, h3⟩ => by subst e1; simp [Dcts.length h3]
theorem Dcts.any : ∀ {kvs : List (List Nat × D)} {gs : List (Key × V)} (k : List Nat), Dcts K M H kvs gs → (gs.any fun kv => decide (kv.1 = .inr (strV k))) = kvs.any fun p => decide (p.1 = k)
  | [], _, k, h => by cases h; rfl
  | (j, e) :: kvs, _, k, ⟨v, r, e1, h2, h3⟩ => by
    subst e1
    rw [List.any_cons, List.any_cons, Dcts.any k h3, key_dec]
theorem Dcts.app : ∀ {kvs ls : List (List Nat × D)} {gs hs : List (Key × V)}, Dcts K M H kvs gs → Dcts K M H ls hs → Dcts K M H (kvs ++ ls) (gs ++ hs)
  | [], _, _, _, h, h' => by cases h; exact h'
  | _ :: _, _, _, _, ⟨v, r, e1, h2, h3⟩, h' => by subst e1; exact ⟨v, _, rfl, h2, Dcts.app h3 h'⟩
theorem Dcts.upd : ∀ {kvs : List (List Nat × D)} {gs : List (Key × V)} (k : List Nat) {d : D} {v : V}, Dcts K M H kvs gs → Rep K M H d v → Dcts K M H (kvs.map fun p => if p.1 = k then (p.1, d) else p) (gs.map fun kv => if kv.1 = .inr (strV k) then (kv.1, v) else kv)
  | [], _, k, _, _, h, _ => by cases h; rfl
  | (j, e) :: kvs, _, k, d, v, ⟨u, r, e1, h2, h3⟩, rd => by
    subst e1
    have ih := Dcts.upd k h3 rd
    rw [List.map_cons, List.map_cons]
    by_cases hj : j = k
    · subst hj
      rw [if_pos rfl, if_pos rfl]
      exact ⟨v, _, rfl, rd, ih⟩
    · have hn : ¬ ((Sum.inr (strV j) : Key) = .inr (strV k)) := fun z => hj (strV_inj (Sum.inr.inj z))
      rw [if_neg hj, if_neg hn]
      exact ⟨u, _, rfl, h2, ih⟩
theorem Dcts.put {kvs : List (List Nat × D)} {gs : List (Key × V)} (k : List Nat) {d : D} {v : V} (h : Dcts K M H kvs gs) (r : Rep K M H d v) : Dcts K M H (dput kvs k d) (putK gs (.inr (strV k)) v) := by
  unfold dput putK
  rw [h.any k]
  by_cases ha : (kvs.any fun p => decide (p.1 = k)) = true
  · rw [if_pos ha, if_pos ha]
    exact h.upd k r
  · rw [if_neg ha, if_neg ha]
    exact h.app ⟨v, [], rfl, r, rfl⟩
theorem Dcts.keys : ∀ {kvs : List (List Nat × D)} {gs : List (Key × V)}, Dcts K M H kvs gs → Reps K M H (kvs.map fun p => D.str p.1) (gs.map fun kv => kV kv.1)
  | [], _, h => by cases h; rfl
  | _ :: _, _, ⟨v, r, e1, h2, h3⟩ => by subst e1; exact ⟨_, _, rfl, rfl, Dcts.keys h3⟩
end
end Dp

end
section
set_option Elab.async false
set_option linter.all false
set_option maxRecDepth 100000
set_option maxHeartbeats 4000000
/-! Op: each operation on data is what the machine does. -/
namespace Dp
open PySem PySem.Spec PyProof.Rows L2

/-- what the context grants -/
structure Rm (k : Nat) (A : Around) : Prop where
  dp : A.depth + 3 * k + 5 < recursionLimit
  un : A.units + 16 * k + 200 < cLine
theorem Rm.units {k : Nat} {A : Around} (r : Rm k A) : A.units + 64 < cLine := by have := r.un; omega
theorem Rm.of {k : Nat} {A : Around} (r : Room k A) : Rm k A := ⟨r.dp, r.un⟩
/-- .. hot: within an except suite -/
structure Xk (X : Cx) (k : Nat) (hot : Bool := false) : Prop where
  calm : hot = false → X.calm = true
  cold : hot = false → Room (2 * k + 41) X.A
  room : Rm (2 * k + 41) X.A
  seer : X.base.NoSeer
  tree : X.prog.given.tree = none
  stk : ∃ env l, X.stack = env :: l ∧ env.scope.isGenerator = false ∧ env.scope.isCoroutine = false ∧ env.builtins = builtinsNs ∧ env.globals = mainGlobals
section
variable {X : Cx} {k : Nat} {hot : Bool}
theorem Xk.pylong (x : Xk X k hot) {pins : List (Addr × Obj)} {σ : L2.St} {H : Hp} {s : Shared} (I : Inv X pins σ H s) : PylongRoom (model X.prog X.w) X.A s := by
  obtain ⟨env, l, e, h1, h2, h3, h4⟩ := x.stk
  refine PylongRoom.of I.nolimit ?_ (SeerAt.of (x.seer.keeps I.bk) x.tree (by rw [I.ok.frames, e]) h1 h2 h3 h4)
  have := x.room.dp
  have e1 : Builtin.pylongFrames = 100 := rfl
  omega
theorem op_divA (x : Xk X k hot) : OpR X (binaryOp .FloorDiv) (rI (fun _ j => j ≠ 0) fun i j => .int (i.fdiv j)) := by
  intro pins s σ H a b v u Q I ra rb h
  obtain ⟨i, j, rfl, rfl, hc, q⟩ := h
  obtain ⟨t, rfl⟩ := ra
  obtain ⟨t', rfl⟩ := rb
  exact floordiv_int hc ⟨.int _, H, I.tok _, ⟨_, rfl⟩, q⟩ (.inr (x.pylong I))
theorem Inv.lstR {pins : List (Addr × Obj)} {σ : L2.St} {H : Hp} {s : Shared} {l : Addr} {xs : List V} (I : Inv X pins σ H s) (hH : Rd H l (.lst xs)) : xs.length ≤ sizeLine ∧ ∃ (its : List Value) (n : Nat), Vals xs its ∧ xs.length = its.length ∧ s.heap.get? l = some { cls := .type "list", data := .seq its.toArray n } := by
  obtain ⟨z, its, n, r, e⟩ := hH.ok I.hok
  exact ⟨z, its, n, r, r.length, e⟩
theorem op_catR : OpR X (binaryOp .Add) (fun x y H Q => ∃ l b xs zs, x = .ref l ∧ y = .ref b ∧ Rd H l (.lst xs) ∧ Rd H b (.lst zs) ∧ xs.length + zs.length ≤ sizeLine ∧ ∀ p, H p = none → Q (.ref p) (upd H p (.lst (xs ++ zs)))) := by
  intro pins s σ H x y v u Q I rx ry h
  obtain ⟨l, b, xs, zs, rfl, rfl, hH, hB, hz, q⟩ := h
  cases rx
  cases ry
  obtain ⟨z, its, n, r, hl, e⟩ := Dp.Inv.lstR I hH
  obtain ⟨z2, its2, n2, r2, hl2, e2⟩ := Dp.Inv.lstR I hB
  refine PySem.P.add_list e e2 ?_ (by rw [List.size_toArray, List.size_toArray]; omega)
  have ea : its.toArray ++ its2.toArray = (its ++ its2).toArray := by simp
  rw [ea]
  exact ⟨.ref _, _, I.lnew (t' := s.toks) (r.append r2) (by rw [List.length_append]; omega), rfl, q _ I.fresh⟩
theorem op_repR : OpR X (binaryOp .Mult) (fun x y H Q => ∃ l k xs, x = .ref l ∧ y = .int k ∧ Rd H l (.lst xs) ∧ -(2 ^ 63) ≤ k ∧ k < 2 ^ 63 ∧ xs.length * k.toNat ≤ sizeLine ∧
    ∀ p, H p = none → Q (.ref p) (upd H p (.lst (List.replicate k.toNat xs).flatten))) := by
  intro pins s σ H x y v u Q I rx ry h
  obtain ⟨l, k, xs, rfl, rfl, hH, h1, h2, hz, q⟩ := h
  cases rx
  obtain ⟨t, rfl⟩ := ry
  obtain ⟨z, its, n, r, hl, e⟩ := Dp.Inv.lstR I hH
  have hlen : its.toArray.size * k.toNat ≤ sizeLine := by rw [List.size_toArray, ← hl]; exact hz
  have hcap : ¬ its.toArray.size * k.toNat > (2 ^ 63 - 1) / 8 := by
    have : (sizeLine : Nat) ≤ (2 ^ 63 - 1) / 8 := by decide
    omega
  have hfit : ¬ (!Builtin.List.listFitsIndex k) = true := by
    rw [fitsIndex_both h1 h2]
    exact Bool.false_ne_true
  have hlong : ¬ Builtin.List.listTooLong (its.toArray.size * k.toNat) = true := by
    rw [notLongL hlen]
    exact Bool.false_ne_true
  have hnew : List.foldl (fun x1 x2 => x1 ++ x2) #[] (List.replicate (if its.toArray.isEmpty = true then 0 else k.toNat) its.toArray) = (List.replicate k.toNat its).flatten.toArray := by
    have f0 : ∀ m : Nat, List.foldl (fun x1 x2 => x1 ++ x2) #[] (List.replicate m its.toArray) = (List.replicate m its).flatten.toArray := fun m => by
      have := foldl_rep its m []
      rw [List.nil_append] at this
      exact this
    rw [f0]
    cases its with
    | nil => simp
    | cons a r' => rw [if_neg (by simp)]
  refine wpAny_binaryOp_repeat_ref (T := "list") (U := "int") (by decide) ⟨_, e, rfl⟩ (fun s' => typeIs_int s' k t) noFill_list_mul F.fills_int_mul F.slot_int_rmul repeat_list F.slot_int_index.lookup
    (call_meets F.slot_int_rmul (typeIs_int s k t) F.entry_int_rmul (F.args_int_rmul_2 _ _) (int___rmul___int_list k t l its.toArray n)
      ⟨e, rfl, ⟨_, e, rfl⟩, call_meets F.slot_list_mul ⟨_, e, rfl⟩ F.entry_list_mul (F.args_list_mul_2 _ _) (AutoListH.list___mul___list_int_3 l its.toArray n k t hfit hcap hlong) ⟨e, ?_⟩⟩)
  rw [hnew]
  exact ⟨.ref _, _, I.lnew (t' := s.toks) (r.rep k.toNat) (by rw [PyProof.Rows.lm_len_rep_flat, Nat.mul_comm]; exact hz), rfl, q _ I.fresh⟩
theorem fold_one (c : Nat) : ∀ (m : Nat) (acc : List Nat), (List.replicate m (strV [c]).cps).foldl (· ++ ·) acc.toArray = (acc ++ List.replicate m c).toArray
  | 0, acc => by simp
  | m + 1, acc => by
    rw [List.replicate_succ, List.foldl_cons]
    have e : acc.toArray ++ (strV [c]).cps = (acc ++ [c]).toArray := by
      show acc.toArray ++ [c].toArray = _
      simp
    rw [e, fold_one c m, List.append_assoc, List.replicate_succ]
    rfl
/-- a sign, so many times -/
theorem op_mulS : OpR X (binaryOp .Mult) (fun x y H Q => ∃ (c : Nat) (k : Int), x = .str (strV [c]) ∧ y = .int k ∧ 2 ≤ k ∧ k ≤ 1000 ∧ Q (.str (strV (List.replicate k.toNat c))) H) := by
  intro pins s σ H x y v u Q I rx ry h
  obtain ⟨c, k, rfl, rfl, h1, h2, q⟩ := h
  obtain ⟨t, rfl⟩ := rx
  obtain ⟨t', rfl⟩ := ry
  have hl : (strV [c]).length = 1 := rfl
  have hne : (k == 1 || (strV [c]).length == 0) = false := by
    rw [hl]
    have : (k == 1) = false := beq_eq_false_iff_ne.mpr (by omega)
    rw [this]
    rfl
  refine PySem.P.mul_str ?_ (fun _ _ => ?_) (fun _ _ => ?_) ?_
  · rw [decide_eq_false (show ¬ k < -(2 ^ 63 : Int) by omega), decide_eq_false (show ¬ k ≥ 2 ^ 63 by omega)]
    rfl
  · rw [hl]
    have : 1 ≤ (2 ^ 63 - 1 : Int) / k := Int.le_ediv_of_mul_le (by omega) (by omega)
    omega
  · rw [hl]
    show decide (1 * k.toNat > sizeLine) = false
    rw [decide_eq_false]
    have : 1000 ≤ sizeLine := by rw [sizeLine_eq]; decide
    omega
  · rw [if_neg (by omega), if_neg (by rw [hne]; decide)]
    have e : (List.replicate k.toNat (strV [c]).cps).foldl (· ++ ·) #[] = (List.replicate k.toNat c).toArray := by
      have := fold_one c k.toNat []
      rw [List.nil_append] at this
      exact this
    rw [e]
    refine ⟨?_, ⟨.str (strV (List.replicate k.toNat c)), H, I.tok _, ⟨_, rfl⟩, q⟩⟩
    show (List.replicate k.toNat c).toArray.size ≤ sizeLine
    rw [List.size_toArray, List.length_replicate]
    have : 1000 ≤ sizeLine := by rw [sizeLine_eq]; decide
    omega
/-- * of ints -/
def CMulA (i j : Int) : Prop := i.natAbs.log2 < 67000000 ∧ j.natAbs.log2 < 67000000
theorem CMulA.ok {i j : Int} (h : CMulA i j) : IntMulOk i j := by
  have b : ∀ x : Int, Builtin.Int.intBits x ≤ x.natAbs.log2 + 1 := fun x => by
    unfold Builtin.Int.intBits
    split <;> omega
  have h1 := b i
  have h2 := b j
  obtain ⟨h3, h4⟩ := h
  have e : bitsLine = 134217728 := by decide
  unfold IntMulOk
  intro z
  rw [Bool.and_eq_true] at z
  have z2 := z.2
  unfold Builtin.Int.intTooBig at z2
  have z3 := of_decide_eq_true z2
  rw [e] at z3
  omega
theorem op_mulA : OpR X (binaryOp .Mult) (rI CMulA fun i j => .int (i * j)) := opI fun _ _ _ _ _ _ _ hc q => mul_int q hc.ok
end

def bopB : Bop → Operator → Bool
  | .add, .Add => true
  | .sub, .Sub => true
  | .mul, .Mult => true
  | .fdiv, .FloorDiv => true
  | .mod, .Mod => true
  | .pow, .Pow => true
  | _, _ => false
def copB : Cop → CmpOp → Bool
  | .eq, .Eq => true
  | .ne, .NotEq => true
  | .lt, .Lt => true
  | .le, .LtE => true
  | .gt, .Gt => true
  | .ge, .GtE => true
  | .is, .Is => true
  | .isnot, .IsNot => true
  | .isin, .In => true
  | .notin, .NotIn => true
  | _, _ => false
theorem big_line : 1000000 ≤ sizeLine := by rw [sizeLine_eq]; decide

section
variable {X : Cx} {k : Nat} {hot : Bool} {CA : Nat → Option Addr} {W : Value → Option Addr → Hp → Prop}
/-- an operation on two data, as the store shows them -/
def rD2 (K : PySem.W.Frag) (CA : Nat → Option Addr) (W : Value → Option Addr → Hp → Prop) (f : D → D → Option D) : R2 := fun x y H Q =>
  ∃ M st d e, StoOk K M H st ∧ RepW K M H d x ∧ RepW K M H e y ∧ Got K CA M H (Rep K) W (lft (f d e) st) Q
theorem Got.b {K : PySem.W.Frag} {M : Ms} {H : Hp} {st : Sto} {c c' : Bool} {Q : VK} (g : Got K CA M H (Rep K) W (some (.ok (.bl c) st)) Q) (s : StoOk K M H st) (e : c' = c) : Q (.bl c') H := by
  subst e
  exact g.ok s rfl
theorem some_ite {c : Prop} [Decidable c] {α : Type} {a b : α} (h : (if c then some a else none) = some b) : c ∧ a = b := by
  by_cases hc : c
  · rw [if_pos hc] at h; exact ⟨hc, Option.some.inj h⟩
  · rw [if_neg hc] at h; cases h
theorem opS (x : Xk X k hot) : ∀ {op : Bop} {o : Operator}, bopB op o = true → OpR X (binaryOp o) (rD2 X.K CA W (bop op)) := by
  intro op o ho pins s σ H a b v u Q I ra rb h
  obtain ⟨M, st, d, e, hs, hd, he, g0⟩ := h
  obtain ⟨r, hr, g⟩ := g0.lft
  clear g0
  have ii : ∀ {i j : Int}, d = .int i → e = .int j → a = .int i ∧ b = .int j := fun h1 h2 => by subst h1 h2; exact ⟨hd, he⟩
  cases op with
  | add =>
    cases o <;> first | (cases ho; done) | skip
    cases d <;> cases e <;> first | (cases hr; done) | skip
    · -- ints
      cases hr
      exact op_add pins s σ H a b v u Q I ra rb ⟨_, _, hd, he, g.ok hs rfl⟩
    · obtain ⟨hl, e1⟩ := some_ite hr
      subst e1
      refine op_add_str pins s σ H a b v u Q I ra rb ⟨_, _, hd, he, ?_, ?_⟩
      · have := big_line
        simp only [strV, Str.length, List.size_toArray]
        omega
      · refine g.ok hs ?_
        show _ = V.str (strV _)
        congr 1
        show (⟨_⟩ : Str) = _
        simp [strV]
    · obtain ⟨hl, e1⟩ := some_ite hr
      subst e1
      obtain ⟨p, xs, rfl, h1, h2⟩ := hd
      obtain ⟨q, ys, rfl, h3, h4⟩ := he
      have l1 := h2.length
      have l2 := h4.length
      have := big_line
      refine op_catA pins s σ H _ _ v u Q I ra rb ⟨p, q, xs, ys, rfl, rfl, h1, h3, by omega, fun z => ?_, fun _ z => ?_, fun _ _ w hw => ?_⟩
      · subst z
        refine g.ok hs ⟨q, ys, rfl, h3, ?_⟩
        have := h2.append h4
        simpa using this
      · subst z
        refine g.ok hs ⟨p, xs, rfl, h1, ?_⟩
        have := h2.append h4
        simpa using this
      · exact g.tup hs (h2.append h4) w hw
    · obtain ⟨hl, e1⟩ := some_ite hr
      subst e1
      obtain ⟨p, xs, rfl, h1, h2⟩ := hd
      obtain ⟨q, ys, rfl, h3, h4⟩ := he
      have l1 := h2.length
      have l2 := h4.length
      have := big_line
      exact op_catR pins s σ H _ _ v u Q I ra rb ⟨p, q, xs, ys, rfl, rfl, h1, h3, by omega, fun w hw => g.fls hs (h2.append h4) w hw⟩
  | sub =>
    cases o <;> first | (cases ho; done) | skip
    cases d <;> cases e <;> first | (cases hr; done) | skip
    cases hr
    exact op_sub pins s σ H a b v u Q I ra rb ⟨_, _, hd, he, g.ok hs rfl⟩
  | mul =>
    cases o <;> first | (cases ho; done) | skip
    by_cases hstr : ∃ z, d = .str z
    · obtain ⟨z, rfl⟩ := hstr
      have key : ∃ (c : Nat) (k : Int), z = [c] ∧ e = .int k ∧ 2 ≤ k ∧ k ≤ 1000 ∧ r = .str (List.replicate k.toNat c) := by
        cases e <;> rcases z with _ | ⟨c, _ | ⟨c2, z⟩⟩ <;> first | (cases hr; done) | skip
        obtain ⟨hl, e1⟩ := some_ite hr
        exact ⟨_, _, rfl, rfl, hl.1, hl.2, e1.symm⟩
      obtain ⟨c, k, rfl, rfl, h1, h2, rfl⟩ := key
      exact op_mulS pins s σ H _ _ v u Q I ra rb ⟨c, k, hd, he, h1, h2, g.ok hs rfl⟩
    cases d <;> first | (exact absurd ⟨_, rfl⟩ hstr; done) | skip
    all_goals (cases e <;> first | (cases hr; done) | skip)
    · obtain ⟨hl, e1⟩ := some_ite hr
      subst e1
      rw [Bool.and_eq_true] at hl
      exact op_mulA pins s σ H a b v u Q I ra rb ⟨_, _, hd, he, ⟨of_decide_eq_true hl.1, of_decide_eq_true hl.2⟩, g.ok hs rfl⟩
    · obtain ⟨hl, e1⟩ := some_ite hr
      subst e1
      obtain ⟨p, xs, rfl, h1, h2⟩ := hd
      have l1 := h2.length
      have := big_line
      refine op_repR pins s σ H _ _ v u Q I ra rb ⟨p, _, xs, rfl, he, h1, by omega, by omega, ?_, fun w hw => g.fls hs (h2.rep _) w hw⟩
      refine Nat.le_trans (Nat.mul_le_mul (show xs.length ≤ 1000 by omega) (show Int.toNat _ ≤ 1000 by omega)) (by omega)
  | fdiv =>
    cases o <;> first | (cases ho; done) | skip
    cases d <;> cases e <;> first | (cases hr; done) | skip
    rename_i i j
    by_cases hj : j = 0
    · simp [bop, hj] at hr
    · simp [bop, hj] at hr
      subst hr
      exact op_divA x pins s σ H a b v u Q I ra rb ⟨_, _, hd, he, hj, g.ok hs rfl⟩
  | mod =>
    cases o <;> first | (cases ho; done) | skip
    cases d <;> cases e <;> first | (cases hr; done) | skip
    rename_i i j
    by_cases hj : j = 0
    · simp [bop, hj] at hr
    · simp [bop, hj] at hr
      subst hr
      exact op_modN pins s σ H a b v u Q I ra rb ⟨_, _, hd, he, hj, g.ok hs rfl⟩
  | pow =>
    cases o <;> first | (cases ho; done) | skip
    cases d <;> cases e <;> first | (cases hr; done) | skip
    obtain ⟨hl, e1⟩ := some_ite hr
    subst e1
    exact op_pow pins s σ H a b v u Q I ra rb ⟨_, _, hd, he, hl, g.ok hs rfl⟩
  | xor => cases o <;> cases ho

/-! ### == -/
mutual
def toP : D → PyData
  | .non => .none
  | .bl b => .bool b
  | .int i => .int i
  | .str s => .str (strV s)
  | .tup xs => .tuple (toPs xs)
  | .lst xs => .list (toPs xs)
  | .ref _ => .none
  | .exc _ _ => .none
def toPs : List D → List PyData
  | [] => []
  | x :: xs => toP x :: toPs xs
end
mutual
theorem deq_eqv : ∀ (a b : D) {r : Bool}, deq a b = some r → PyData.eqv (toP a) (toP b) = r
  | .ref _, _, _, h => by simp [deq] at h
  | .exc _ _, _, _, h => by simp [deq] at h
  | .non, b, r, h => by cases b <;> simp [deq] at h <;> subst h <;> simp [toP, PyData.eqv]
  | .bl a, b, r, h => by cases b <;> simp [deq] at h <;> subst h <;> simp [toP, PyData.eqv]
  | .int a, b, r, h => by
    cases b <;> simp [deq] at h <;> subst h <;> simp [toP, PyData.eqv]
    rw [Bool.eq_iff_iff]; simp
  | .str a, b, r, h => by
    cases b <;> simp [deq] at h <;> subst h <;> simp [toP, PyData.eqv]
    rw [Bool.eq_iff_iff]; simp [strV]
  | .tup a, b, r, h => by
    cases b with
    | tup b => simp only [deq] at h; simp only [toP, PyData.eqv]; exact deqs_eqv a b h
    | _ => simp [deq] at h <;> subst h <;> simp [toP, PyData.eqv]
  | .lst a, b, r, h => by
    cases b with
    | lst b => simp only [deq] at h; simp only [toP, PyData.eqv]; exact deqs_eqv a b h
    | _ => simp [deq] at h <;> subst h <;> simp [toP, PyData.eqv]
theorem deqs_eqv : ∀ (a b : List D) {r : Bool}, deqs a b = some r → PyData.eqvAll (toPs a) (toPs b) = r
  | [], [], _, h => by simp [deqs] at h; subst h; simp [toPs, PyData.eqvAll]
  | [], _ :: _, _, h => by simp [deqs] at h; subst h; simp [toPs, PyData.eqvAll]
  | _ :: _, [], _, h => by simp [deqs] at h; subst h; simp [toPs, PyData.eqvAll]
  | x :: xs, y :: ys, r, h => by
    simp only [deqs] at h
    split at h
    · rename_i p q h1 h2
      cases h
      simp only [toPs, PyData.eqvAll, deq_eqv x y h1, deqs_eqv xs ys h2]
    · cases h
end
theorem shl_ok : ∀ (n : Nat) (d : D), shl n d = true → PyData.canLay0 (toP d) = true ∧ PyData.depth (toP d) ≤ n
  | n, .non, _ => by simp [toP, PyData.canLay0, PyData.depth]
  | n, .bl _, _ => by simp [toP, PyData.canLay0, PyData.depth]
  | n, .int _, _ => by simp [toP, PyData.canLay0, PyData.depth]
  | n, .str s, h => by
    simp [shl] at h
    simp [toP, PyData.canLay0, PyData.depth, PyData.strOk, strV]
    exact h
  | 0, .tup _, h => by simp [shl] at h
  | 0, .lst _, h => by simp [shl] at h
  | n, .ref _, h => by cases n <;> simp [shl] at h
  | n, .exc _ _, h => by cases n <;> simp [shl] at h
  | n + 1, .tup xs, h => by
    simp only [shl] at h
    have := all_ok n xs h
    simp only [toP, PyData.canLay0, PyData.depth]
    exact ⟨this.1, by omega⟩
  | n + 1, .lst xs, h => by
    simp only [shl] at h
    have := all_ok n xs h
    simp only [toP, PyData.canLay0, PyData.depth]
    exact ⟨this.1, by omega⟩
where all_ok (n : Nat) : ∀ xs : List D, xs.all (shl n) = true → PyData.canLayAll0 (toPs xs) = true ∧ PyData.depthAll (toPs xs) ≤ n
  | [], _ => by simp [toPs, PyData.canLayAll0, PyData.depthAll]
  | x :: xs, h => by
    simp only [List.all_cons, Bool.and_eq_true] at h
    have h1 := shl_ok n x h.1
    have h2 := all_ok n xs h.2
    simp only [toPs, PyData.canLayAll0, PyData.depthAll, h1.1, h2.1, Bool.and_self, true_and]
    omega
theorem rep_dp {K : PySem.W.Frag} {M : Ms} {H : Hp} : ∀ (n : Nat) (d : D) {v : V}, shl n d = true → Rep K M H d v → L2.Dp K H v (toP d)
  | n, .non, v, _, r => by cases r; simp only [toP]; exact .non
  | n, .bl b, v, _, r => by cases r; simp only [toP]; exact .bl b
  | n, .int i, v, _, r => by cases r; simp only [toP]; exact .int i
  | n, .str s, v, _, r => by cases r; simp only [toP]; exact .str _
  | n, .ref _, v, h, r => by cases n <;> simp [shl] at h
  | n, .exc _ _, v, h, r => by cases n <;> simp [shl] at h
  | 0, .tup _, v, h, r => by simp [shl] at h
  | 0, .lst _, v, h, r => by simp [shl] at h
  | n + 1, .tup xs, v, h, r => by
    obtain ⟨a, vs, rfl, h1, h2⟩ := r
    simp only [shl] at h
    simp only [toP]
    exact .tup h1 (all_dp n xs h h2)
  | n + 1, .lst xs, v, h, r => by
    obtain ⟨a, vs, rfl, h1, h2⟩ := r
    simp only [shl] at h
    simp only [toP]
    exact .lst (.inl h1.2) (all_dp n xs h h2)
where all_dp {K : PySem.W.Frag} {M : Ms} {H : Hp} (n : Nat) : ∀ (xs : List D) {vs : List V}, xs.all (shl n) = true → Reps K M H xs vs → L2.DpAll K H vs (toPs xs)
  | [], _, _, r => by cases r; simp only [toPs]; exact .nil
  | x :: xs, _, h, ⟨v, vr, e, r1, r2⟩ => by
    subst e
    simp only [List.all_cons, Bool.and_eq_true] at h
    simp only [toPs]
    exact .cons (rep_dp n x h.1 r1) (all_dp n xs h.2 r2)
theorem repW_dp {K : PySem.W.Frag} {M : Ms} {H : Hp} (n : Nat) (d : D) {v : V} (h : shl n d = true) (r : RepW K M H d v) : L2.Dp K H v (toP d) := by
  cases d with
  | lst xs =>
    obtain ⟨a, vs, rfl, h1, h2⟩ := r
    cases n with
    | zero => simp [shl] at h
    | succ n =>
      simp only [shl] at h
      simp only [toP]
      exact .lst (.inl h1) (rep_dp.all_dp n xs h h2)
  | ref _ => cases n <;> simp [shl] at h
  | non => exact rep_dp (M := M) n _ h r
  | bl _ => exact rep_dp (M := M) n _ h r
  | int _ => exact rep_dp (M := M) n _ h r
  | str _ => exact rep_dp (M := M) n _ h r
  | tup _ => exact rep_dp (M := M) n _ h r
  | exc _ _ => exact rep_dp (M := M) n _ h r
theorem dvw_dp {K : PySem.W.Frag} {M : Ms} {H : Hp} {st : Sto} (s : StoOk K M H st) : ∀ (n m : Nat) (d : D) {v : V}, shl m (dvw st n d) = true → Rep K M H d v → L2.Dp K H v (toP (dvw st n d))
  | 0, m, d, v, h, r => by
    have : dvw st 0 d = d := by cases d <;> rfl
    rw [this] at h ⊢
    exact rep_dp m d h r
  | n + 1, m, d, v, h, r => by
    have all_dp : ∀ (m : Nat) (xs : List D) {vs : List V}, (xs.map (dvw st n)).all (shl m) = true → Reps K M H xs vs → L2.DpAll K H vs (toPs (xs.map (dvw st n))) := fun m xs => by
      induction xs with
      | nil => intro vs _ hr; cases hr; simp only [List.map_nil, toPs]; exact .nil
      | cons x xs ih =>
        intro vs hh hr
        obtain ⟨u, r, rfl, h1, h2⟩ := hr
        simp only [List.map_cons, List.all_cons, Bool.and_eq_true] at hh
        simp only [List.map_cons, toPs]
        exact .cons (dvw_dp s n m x hh.1 h1) (ih hh.2 h2)
    cases d with
    | ref l =>
      obtain ⟨a, rfl, ha⟩ := r
      unfold dvw at h ⊢
      split
      · rename_i xs hx
        simp only [hx] at h
        obtain ⟨vs, h1, h2⟩ := s.lst ha hx
        cases m with
        | zero => simp [shl] at h
        | succ m =>
          simp only [shl] at h
          simp only [toP]
          exact .lst (.inl (.inl h1)) (all_dp m xs h h2)
      · rename_i hx
        exfalso
        split at h
        · rename_i xs hq
          exact hx xs hq
        · cases m <;> simp [shl] at h
    | tup xs =>
      obtain ⟨a, vs, rfl, h1, h2⟩ := r
      simp only [dvw] at h ⊢
      cases m with
      | zero => simp [shl] at h
      | succ m =>
        simp only [shl] at h
        simp only [toP]
        exact .tup h1 (all_dp m xs h h2)
    | lst xs =>
      obtain ⟨a, vs, rfl, h1, h2⟩ := r
      simp only [dvw] at h ⊢
      cases m with
      | zero => simp [shl] at h
      | succ m =>
        simp only [shl] at h
        simp only [toP]
        exact .lst (.inl h1.2) (all_dp m xs h h2)
    | non => exact rep_dp (M := M) m _ h r
    | bl _ => exact rep_dp (M := M) m _ h r
    | int _ => exact rep_dp (M := M) m _ h r
    | str _ => exact rep_dp (M := M) m _ h r
    | exc _ _ => exact rep_dp (M := M) m _ h r
theorem shl_shaped {d : D} (h : shl 60 d = true) : SeqAt.shaped (toP d) = true := by
  obtain ⟨h1, h2⟩ := shl_ok 60 d h
  unfold SeqAt.shaped
  rw [h1, decide_eq_true (by omega)]
  rfl
theorem if_some {α : Type} {c : Bool} {o : Option α} {r : α} (h : (if c = true then o else none) = some r) : c = true ∧ o = some r := by
  cases c with
  | false => cases h
  | true => exact ⟨rfl, h⟩
theorem anyEq_eqv (x : D) : ∀ (xs : List D) {r : Bool}, anyEq x xs = some r → (toPs xs).any (fun z => PyData.eqv z (toP x)) = r
  | [], _, h => by cases h; rfl
  | y :: ys, r, h => by
    simp only [anyEq] at h
    split at h
    · rename_i p q h1 h2
      cases h
      simp only [toPs, List.any_cons, deq_eqv y x h1, anyEq_eqv x ys h2]
    · cases h
theorem flat_V {K : PySem.W.Frag} {M : Ms} {H : Hp} {d : D} {v : V} (h : flat d = true) (r : RepW K M H d v) : flatV v = true := by
  cases d <;> first | (cases h; done) | (cases r; rfl)
theorem flat_rep {K : PySem.W.Frag} {M : Ms} {H : Hp} {d : D} {v : V} (h : flat d = true) (r : Rep K M H d v) : RepW K M H d v := by
  cases d <;> first | (cases h; done) | exact r
theorem flat_eq {K : PySem.W.Frag} {M : Ms} {H : Hp} {d e : D} {v w : V} (h : flat d = true) (h' : flat e = true) (r : RepW K M H d v) (r' : RepW K M H e w) : eqV v w = flatEq d e := by
  cases d <;> first | (cases h; done) | skip
  all_goals cases e <;> first | (cases h'; done) | skip
  all_goals (cases r; cases r'; first | rfl | (show (_ == _) = decide _; rw [Bool.eq_iff_iff]; simp [strV]; done))
theorem flat_all {K : PySem.W.Frag} {M : Ms} {H : Hp} {x : D} {v : V} (hx : flat x = true) (rx : RepW K M H x v) : ∀ {ds : List D} {vs : List V}, ds.all flat = true → Reps K M H ds vs → vs.all flatV = true ∧ inV v vs = ds.any fun y => flatEq y x
  | [], _, _, r => by cases r; exact ⟨rfl, rfl⟩
  | d :: ds, _, h, ⟨w, r, e, h1, h2⟩ => by
    subst e
    simp only [List.all_cons, Bool.and_eq_true] at h
    obtain ⟨q1, q2⟩ := flat_all hx rx h.2 h2
    refine ⟨?_, ?_⟩
    · rw [List.all_cons, flat_V h.1 (flat_rep h.1 h1), q1]; rfl
    · unfold inV at q2 ⊢
      rw [List.any_cons, List.any_cons, q2, flat_eq h.1 hx (flat_rep h.1 h1) rx]
theorem op_isB : OpR X (compareOp .Is) (fun x y H Q => ∃ a b, x = .bl a ∧ y = .bl b ∧ Q (.bl (a == b)) H) := by
  intro pins s σ H x y v u Q I rx ry h
  obtain ⟨a, b, rfl, rfl, q⟩ := h
  cases rx
  cases ry
  exact is_bool (fin_bl I q rfl)
theorem op_notB : OpR X (compareOp .IsNot) (fun x y H Q => ∃ a b, x = .bl a ∧ y = .bl b ∧ Q (.bl (a != b)) H) := by
  intro pins s σ H x y v u Q I rx ry h
  obtain ⟨a, b, rfl, rfl, q⟩ := h
  cases rx
  cases ry
  exact isnot_bool (fin_bl I q rfl)
theorem copS (x : Xk X k hot) : ∀ {op : Cop} {o : CmpOp}, copB op o = true → OpR X (compareOp o) (rD2 X.K CA W fun d e => (cop op d e).map .bl) := by
  intro op o ho pins s σ H a b v u Q I ra rb h
  obtain ⟨M, st, d, e, hs, hd, he, g0⟩ := h
  obtain ⟨r, hr, g⟩ := g0.lft
  clear g0
  obtain ⟨c, hc, rfl⟩ := Option.map_eq_some_iff.mp hr
  have hu : X.A.units + 64 < cLine := x.room.units
  have hu5 : X.A.units + 65 < cLine := by have := x.room.un; omega
  cases op with
  | eq =>
    cases o <;> first | (cases ho; done) | skip
    simp only [cop] at hc
    by_cases hh : (shl 60 d && shl 60 e) = true
    · rw [if_pos hh] at hc
      rw [Bool.and_eq_true] at hh
      refine op_eqD hu pins s σ H a b v u Q I ra rb ⟨_, _, repW_dp 60 d hh.1 hd, repW_dp 60 e hh.2 he, shl_shaped hh.1, shl_shaped hh.2, ?_⟩
      exact g.b hs (deq_eqv d e hc)
    · rw [if_neg hh] at hc; cases hc
  | ne =>
    cases o <;> first | (cases ho; done) | skip
    simp only [cop] at hc
    by_cases hh : (shl 60 d && shl 60 e) = true
    · rw [if_pos hh] at hc
      obtain ⟨c', hc', rfl⟩ := Option.map_eq_some_iff.mp hc
      rw [Bool.and_eq_true] at hh
      refine op_neD hu pins s σ H a b v u Q I ra rb ⟨_, _, repW_dp 60 d hh.1 hd, repW_dp 60 e hh.2 he, shl_shaped hh.1, shl_shaped hh.2, ?_⟩
      exact g.b hs (by rw [deq_eqv d e hc'])
    · rw [if_neg hh] at hc; cases hc
  | lt =>
    cases o <;> first | (cases ho; done) | skip
    cases d <;> cases e <;> first | (cases hc; done) | skip
    cases hc
    exact op_lt pins s σ H a b v u Q I ra rb ⟨_, _, hd, he, g.ok hs rfl⟩
  | le =>
    cases o <;> first | (cases ho; done) | skip
    cases d <;> cases e <;> first | (cases hc; done) | skip
    cases hc
    exact op_le pins s σ H a b v u Q I ra rb ⟨_, _, hd, he, g.ok hs rfl⟩
  | gt =>
    cases o <;> first | (cases ho; done) | skip
    cases d <;> cases e <;> first | (cases hc; done) | skip
    cases hc
    exact op_gt pins s σ H a b v u Q I ra rb ⟨_, _, hd, he, g.ok hs rfl⟩
  | ge =>
    cases o <;> first | (cases ho; done) | skip
    cases d <;> cases e <;> first | (cases hc; done) | skip
    cases hc
    exact op_ge pins s σ H a b v u Q I ra rb ⟨_, _, hd, he, g.ok hs rfl⟩
  | is =>
    cases o <;> first | (cases ho; done) | skip
    cases e with
    | non =>
      cases he
      refine op_isN pins s σ H a _ v u Q I ra rb ⟨rfl, ?_⟩
      have : decide (a = V.non) = c := by
        cases d <;> simp [cop] at hc <;> subst hc <;> first
          | (cases hd; simp; done)
          | (obtain ⟨p, xs, rfl, _⟩ := hd; simp; done)
          | (obtain ⟨p, rfl, _⟩ := hd; simp; done)
          | (obtain ⟨p, C, _, _, rfl, _⟩ := hd; simp; done)
      exact g.b hs (by rw [this])
    | bl y =>
      cases d <;> first | (simp [cop] at hc; done) | skip
      simp only [cop, Option.some.injEq] at hc
      subst hc
      cases hd
      cases he
      exact op_isB pins s σ H _ _ v u Q I ra rb ⟨_, _, rfl, rfl, g.b hs rfl⟩
    | _ => cases d <;> simp [cop] at hc
  | isnot =>
    cases o <;> first | (cases ho; done) | skip
    cases e with
    | non =>
      cases he
      refine op_notN pins s σ H a _ v u Q I ra rb ⟨rfl, ?_⟩
      have : (!decide (a = V.non)) = c := by
        cases d <;> simp [cop] at hc <;> subst hc <;> first
          | (cases hd; simp; done)
          | (obtain ⟨p, xs, rfl, _⟩ := hd; simp; done)
          | (obtain ⟨p, rfl, _⟩ := hd; simp; done)
          | (obtain ⟨p, C, _, _, rfl, _⟩ := hd; simp; done)
      exact g.b hs (by rw [this])
    | bl y =>
      cases d <;> first | (simp [cop] at hc; done) | skip
      simp only [cop, Option.some.injEq] at hc
      subst hc
      cases hd
      cases he
      exact op_notB pins s σ H _ _ v u Q I ra rb ⟨_, _, rfl, rfl, g.b hs rfl⟩
    | _ => cases d <;> simp [cop] at hc
  | isin =>
    cases o <;> first | (cases ho; done) | skip
    cases e with
    | tup xs =>
      simp only [cop, inSeq] at hc
      obtain ⟨hh, rfl⟩ := some_ite hc
      rw [Bool.and_eq_true] at hh
      obtain ⟨p, vs, rfl, h1, h2⟩ := he
      obtain ⟨f1, f2⟩ := flat_all hh.1 hd hh.2 h2
      refine op_in_seq pins s σ H a _ v u Q I ra rb ⟨p, vs, rfl, .inr h1, flat_V hh.1 hd, f1, ?_⟩
      rw [if_neg Bool.false_ne_true, f2]
      exact g.ok hs rfl
    | lst xs =>
      simp only [cop, inLst] at hc
      split at hc
      · rename_i b' hc'
        cases hc
        simp only [inSeq] at hc'
        obtain ⟨hh, rfl⟩ := some_ite hc'
        rw [Bool.and_eq_true] at hh
        obtain ⟨p, vs, rfl, h1, h2⟩ := he
        obtain ⟨f1, f2⟩ := flat_all hh.1 hd hh.2 h2
        refine op_in_seq pins s σ H a _ v u Q I ra rb ⟨p, vs, rfl, .inl (.inl h1), flat_V hh.1 hd, f1, ?_⟩
        rw [if_neg Bool.false_ne_true, f2]
        exact g.ok hs rfl
      · obtain ⟨hh, hc'⟩ := if_some hc
        rw [Bool.and_eq_true] at hh
        refine op_inD hu5 pins s σ H a b v u Q I ra rb ⟨_, toPs xs, repW_dp 60 d hh.1 hd, repW_dp 60 (.lst xs) hh.2 he, shl_shaped hh.1, shl_shaped (d := .lst xs) hh.2, ?_⟩
        exact g.b hs (anyEq_eqv d xs hc')
    | str z =>
      cases d with
      | str y =>
        match y, hc, hd with
        | [ch], hc, hd =>
          simp only [cop] at hc
          cases hc
          cases hd
          cases he
          exact op_in_sign pins s σ H _ _ v u Q I ra rb ⟨ch, strV z, rfl, rfl, by
            have : (strV z).cps.toList = z := by simp [strV]
            rw [this]; exact g.ok hs rfl⟩
        | [], hc, _ => simp [cop] at hc
        | _ :: _ :: _, hc, _ => simp [cop] at hc
      | _ => simp [cop] at hc
    | _ => simp [cop] at hc
  | notin =>
    cases o <;> first | (cases ho; done) | skip
    cases e with
    | tup xs =>
      simp only [cop, inSeq] at hc
      obtain ⟨c', hc', rfl⟩ := Option.map_eq_some_iff.mp hc
      obtain ⟨hh, rfl⟩ := some_ite hc'
      rw [Bool.and_eq_true] at hh
      obtain ⟨p, vs, rfl, h1, h2⟩ := he
      obtain ⟨f1, f2⟩ := flat_all hh.1 hd hh.2 h2
      refine op_notIn_seq pins s σ H a _ v u Q I ra rb ⟨p, vs, rfl, .inr h1, flat_V hh.1 hd, f1, ?_⟩
      rw [if_pos rfl, f2]
      exact g.ok hs rfl
    | lst xs =>
      simp only [cop, inLst] at hc
      obtain ⟨c', hc0, rfl⟩ := Option.map_eq_some_iff.mp hc
      split at hc0
      · rename_i b' hc'
        cases hc0
        simp only [inSeq] at hc'
        obtain ⟨hh, rfl⟩ := some_ite hc'
        rw [Bool.and_eq_true] at hh
        obtain ⟨p, vs, rfl, h1, h2⟩ := he
        obtain ⟨f1, f2⟩ := flat_all hh.1 hd hh.2 h2
        refine op_notIn_seq pins s σ H a _ v u Q I ra rb ⟨p, vs, rfl, .inl (.inl h1), flat_V hh.1 hd, f1, ?_⟩
        rw [if_pos rfl, f2]
        exact g.ok hs rfl
      · obtain ⟨hh, hc'⟩ := if_some hc0
        rw [Bool.and_eq_true] at hh
        refine op_notInD hu5 pins s σ H a b v u Q I ra rb ⟨_, toPs xs, repW_dp 60 d hh.1 hd, repW_dp 60 (.lst xs) hh.2 he, shl_shaped hh.1, shl_shaped (d := .lst xs) hh.2, ?_⟩
        exact g.b hs (by rw [anyEq_eqv d xs hc'])
    | str z =>
      cases d with
      | str y =>
        match y, hc, hd with
        | [ch], hc, hd =>
          simp only [cop] at hc
          cases hc
          cases hd
          cases he
          exact op_notIn_sign pins s σ H _ _ v u Q I ra rb ⟨ch, strV z, rfl, rfl, by
            have : (strV z).cps.toList = z := by simp [strV]
            rw [this]; exact g.ok hs rfl⟩
        | [], hc, _ => simp [cop] at hc
        | _ :: _ :: _, hc, _ => simp [cop] at hc
      | _ => simp [cop] at hc
    | _ => simp [cop] at hc
/-- of two data, all the way down -/
def rDv (K : PySem.W.Frag) (CA : Nat → Option Addr) (W : Value → Option Addr → Hp → Prop) (op : Cop) : R2 := fun x y H Q =>
  ∃ M st d e, StoOk K M H st ∧ Rep K M H d x ∧ Rep K M H e y ∧ Got K CA M H (Rep K) W (lft ((cop op (dvw st 60 d) (dvw st 60 e)).map .bl) st) Q
def eqB : Cop → Bool
  | .eq => true
  | .ne => true
  | _ => false
theorem dcopS (x : Xk X k hot) : ∀ {op : Cop} {o : CmpOp}, eqB op = true → copB op o = true → OpR X (compareOp o) (rDv X.K CA W op) := by
  intro op o he ho pins s σ H a b v u Q I ra rb h
  obtain ⟨M, st, d, e, hs, hd, he', g0⟩ := h
  obtain ⟨r, hr, g⟩ := g0.lft
  clear g0
  obtain ⟨c, hc, rfl⟩ := Option.map_eq_some_iff.mp hr
  have hu : X.A.units + 64 < cLine := x.room.units
  cases op <;> first | (cases he; done) | skip
  · cases o <;> first | (cases ho; done) | skip
    simp only [cop] at hc
    by_cases hh : (shl 60 (dvw st 60 d) && shl 60 (dvw st 60 e)) = true
    · rw [if_pos hh] at hc
      rw [Bool.and_eq_true] at hh
      refine op_eqD hu pins s σ H a b v u Q I ra rb ⟨_, _, dvw_dp hs 60 60 d hh.1 hd, dvw_dp hs 60 60 e hh.2 he', shl_shaped hh.1, shl_shaped hh.2, ?_⟩
      exact g.b hs (deq_eqv _ _ hc)
    · rw [if_neg hh] at hc; cases hc
  · cases o <;> first | (cases ho; done) | skip
    simp only [cop] at hc
    by_cases hh : (shl 60 (dvw st 60 d) && shl 60 (dvw st 60 e)) = true
    · rw [if_pos hh] at hc
      obtain ⟨c', hc', rfl⟩ := Option.map_eq_some_iff.mp hc
      rw [Bool.and_eq_true] at hh
      refine op_neD hu pins s σ H a b v u Q I ra rb ⟨_, _, dvw_dp hs 60 60 d hh.1 hd, dvw_dp hs 60 60 e hh.2 he', shl_shaped hh.1, shl_shaped hh.2, ?_⟩
      exact g.b hs (by rw [deq_eqv _ _ hc'])
    · rw [if_neg hh] at hc; cases hc
end
end Dp

end
section
set_option Elab.async false
set_option linter.all false
set_option maxRecDepth 100000
set_option maxHeartbeats 4000000
/-! Bf: built-in calls, items, slices, truth, kinds. -/
namespace Dp
open PySem PySem.Spec PyProof.Rows L2

theorem ints_map : ∀ {xs : List D} {ns : List Int}, intsOf xs = some ns → xs = ns.map D.int
  | [], ns, h => by cases h; rfl
  | .int i :: r, ns, h => by
    simp only [intsOf] at h
    obtain ⟨ms, e, rfl⟩ := Option.map_eq_some_iff.mp h
    rw [ints_map e]; rfl
  | .non :: _, _, h => by simp [intsOf] at h
  | .bl _ :: _, _, h => by simp [intsOf] at h
  | .str _ :: _, _, h => by simp [intsOf] at h
  | .tup _ :: _, _, h => by simp [intsOf] at h
  | .lst _ :: _, _, h => by simp [intsOf] at h
  | .ref _ :: _, _, h => by simp [intsOf] at h
  | .exc _ _ :: _, _, h => by simp [intsOf] at h
theorem bls_map : ∀ {xs : List D} {ns : List Bool}, blsOf xs = some ns → xs = ns.map D.bl
  | [], ns, h => by cases h; rfl
  | .bl i :: r, ns, h => by
    simp only [blsOf] at h
    obtain ⟨ms, e, rfl⟩ := Option.map_eq_some_iff.mp h
    rw [bls_map e]; rfl
  | .non :: _, _, h => by simp [blsOf] at h
  | .int _ :: _, _, h => by simp [blsOf] at h
  | .str _ :: _, _, h => by simp [blsOf] at h
  | .tup _ :: _, _, h => by simp [blsOf] at h
  | .lst _ :: _, _, h => by simp [blsOf] at h
  | .ref _ :: _, _, h => by simp [blsOf] at h
  | .exc _ _ :: _, _, h => by simp [blsOf] at h

section
variable {X : Cx} {k : Nat} {hot : Bool} {CA : Nat → Option Addr} {W : Value → Option Addr → Hp → Prop}

/-! ### any of ints -/
theorem truth_ints {prog : Program} {w : World} {A : Around} {ns : List Int} {its : List Value} (e : Vals (ns.map V.int) its) :
    TruthOf prog w A (fun i v => its.toArray[i]? = some v) (fun i => ns.getD i 0 != 0) := fun i v s Q E hv hq => by
  have hv' : its[i]? = some v := by simpa using hv
  have hl := e.length
  have hi : i < ns.length := by
    have := (List.getElem?_eq_some_iff.mp hv').1
    rw [List.length_map] at hl
    omega
  have h1 : (ns.map V.int)[i]? = some (.int ns[i]) := by rw [List.getElem?_map, List.getElem?_eq_getElem hi]; rfl
  obtain ⟨u, h2, h3⟩ := e.get h1
  rw [hv'] at h2
  cases h2
  obtain ⟨t, rfl⟩ := h3
  have hg : ns.getD i 0 = ns[i] := by rw [List.getD_eq_getElem?_getD, List.getElem?_eq_getElem hi] <;> rfl
  have hq' : Q (ns.getD i 0 != 0) s := hq
  rw [hg] at hq'
  exact PySem.P.truthy_int hq'
theorem any_rangeI : ∀ ns : List Int, (List.range ns.length).any (fun i => ns.getD i 0 != 0) = ns.any (· != 0)
  | [] => rfl
  | b :: bs => by
    rw [List.length_cons, List.range_succ_eq_map, List.any_cons, List.any_map, List.any_cons, ← any_rangeI bs]
    all_goals rfl
theorem cr_anyI (hc : X.calm = true) : CallR X (.builtin "any") (fun vs H Q => ∃ (a : Addr) (ns : List Int), vs = [V.ref a] ∧ SqL X.K H a (ns.map V.int) ∧ Q (.bl (ns.any (· != 0))) H) := by
  intro pins s σ H vs us Q I r h
  obtain ⟨a, ns, rfl, hs, q⟩ := h
  obtain ⟨its, rv, hl, _⟩ := I.list hs
  rw [Vals.ref1 r]
  have hlen := rv.length
  refine call_any_walk (iter_any hl.isList fun s₂ e2 st hne => ?_)
  subst e2
  refine ⟨_, _, _, _, _, _, _, rfl, Walks.list (A := X.A.in1) (I.ok.hd hc) _ a hne its.toArray, st, truth_ints rv, fun h' tk hk => ?_⟩
  refine ⟨.bl _, H, I.kept fun b o eo => hk b o (fun hmem => ?_) (Heap.get?_push_of_some _ eo), ?_, q⟩
  · rcases List.mem_cons.mp hmem with e1 | hmem
    · exact absurd (e1 ▸ Heap.lt_size eo) (Nat.lt_irrefl _)
    · cases hmem
  · show Value.bool _ = Value.bool _
    rw [List.length_map] at hlen
    rw [List.size_toArray, ← hlen, any_rangeI]
theorem cr_anyT (hc : X.calm = true) : CallR X (.builtin "any") (fun vs H Q => ∃ (a : Addr) (ns : List Int), vs = [V.ref a] ∧ SqT X.K H a (ns.map V.int) ∧ Q (.bl (ns.any (· != 0))) H) := by
  intro pins s σ H vs us Q I r h
  obtain ⟨a, ns, rfl, hs, q⟩ := h
  obtain ⟨its, rv, hl, _⟩ := I.tuple hs
  rw [Vals.ref1 r]
  have hlen := rv.length
  have ht : s.heap.IsTuple a its.toArray := hl
  have hlt : a < s.heap.objs.size := by obtain ⟨o, e, _⟩ := hl; exact Heap.lt_size e
  refine call_any_walk (wpAny_pyIter_tuple ht ?_)
  refine ⟨_, _, _, _, _, _, _, rfl, Walks.tuple (A := X.A.in1) (I.ok.hd hc) s.heap.objs.size a (Nat.ne_of_lt hlt) its.toArray, ⟨⟨_, Heap.get?_push_size _ rfl, rfl, rfl⟩, ht.push _⟩, truth_ints rv, fun h' tk hk => ?_⟩
  refine ⟨.bl _, H, I.kept fun b o eo => hk b o (fun hmem => ?_) (Heap.get?_push_of_some _ eo), ?_, q⟩
  · rcases List.mem_cons.mp hmem with e1 | hmem
    · exact absurd (e1 ▸ Heap.lt_size eo) (Nat.lt_irrefl _)
    · cases hmem
  · show Value.bool _ = Value.bool _
    rw [List.length_map] at hlen
    rw [List.size_toArray, ← hlen, any_rangeI]

/-! ### the greatest and the least of a tuple of ints -/
section
open PySem
variable {prog : Program} {w : World} {A : Around} {E : Value → Shared → Prop} {s : Shared} {l : Addr} {its : List Value} {ns : List Int} {Q : Value → Shared → Prop}
theorem maxT_raw (hh : A.handled = none) (hl : s.heap.IsTuple l its.toArray) (hi : IntsAre its ns) (hne : 0 < ns.length)
    (h : ∀ h' tk M t', (∀ b o, s.heap.get? b = some o → h'.get? b = some o) → M ∈ ns → (∀ a, a ∈ ns → a ≤ M) → Q (.int M t') { s with heap := h', toks := tk }) : wpAny (model prog w) A (call (.builtin "max") [.ref l]) Q E s := by
  obtain ⟨xs, e⟩ := hi.allInts.items
  have hn : numsOf (intItems xs).toList = ns := by rw [← e]; exact hi.numsOf
  rw [nums_intItems] at hn
  subst hn
  rw [e] at hl
  have hsz : 0 < xs.size := by simpa using hne
  have hlt : l < s.heap.objs.size := by obtain ⟨o, e, _⟩ := hl; exact Heap.lt_size e
  refine call_max_walk (wpAny_pyIter_tuple hl ?_)
  refine ⟨_, _, _, _, _, _, _, rfl, Walks.tuple (A := A.in1) hh s.heap.objs.size l (Nat.ne_of_lt hlt) (intItems xs), ⟨⟨_, Heap.get?_push_size _ rfl, rfl, rfl⟩, hl.push _⟩, fun b hb => ?_, by simpa [intItems] using hsz, CmpOf.ints_gt (numAt xs) (fun _ _ => intItems_at), fun v h' tk hv hk => ?_⟩
  · show b < (s.heap.push _).objs.size
    rw [Heap.size_push]
    rcases List.mem_cons.mp hb with rfl | hb
    · exact Nat.lt_succ_self _
    · rcases List.mem_cons.mp hb with rfl | hb
      · exact Nat.lt_succ_of_lt hlt
      · cases hb
  · have hv : (intItems xs)[argBest (fun i j => decide (numAt xs i > numAt xs j)) (xs.size - 1)]? = some v := by simpa [intItems] using hv
    obtain ⟨t, rfl⟩ := intItems_at hv
    obtain ⟨h1, h2⟩ := argBest_gt (numAt xs) (xs.size - 1)
    refine h h' tk _ t (fun b o eo => hk b o (fun hm => ?_) (Heap.get?_push_of_some _ eo)) ?_ fun a ha => ?_
    · rcases List.mem_cons.mp hm with e1 | hm
      · exact absurd (e1 ▸ Heap.lt_size eo) (Nat.lt_irrefl _)
      · cases hm
    · rw [numAt_eq]; exact PySem.getD_mem (by rw [List.length_map, Array.length_toList]; omega)
    · obtain ⟨j, hj, rfl⟩ := mem_getD ha
      rw [List.length_map, Array.length_toList] at hj
      rw [← numAt_eq]; exact h2 j (by omega)
theorem minT_raw (hh : A.handled = none) (hl : s.heap.IsTuple l its.toArray) (hi : IntsAre its ns) (hne : 0 < ns.length)
    (h : ∀ h' tk M t', (∀ b o, s.heap.get? b = some o → h'.get? b = some o) → M ∈ ns → (∀ a, a ∈ ns → M ≤ a) → Q (.int M t') { s with heap := h', toks := tk }) : wpAny (model prog w) A (call (.builtin "min") [.ref l]) Q E s := by
  obtain ⟨xs, e⟩ := hi.allInts.items
  have hn : numsOf (intItems xs).toList = ns := by rw [← e]; exact hi.numsOf
  rw [nums_intItems] at hn
  subst hn
  rw [e] at hl
  have hsz : 0 < xs.size := by simpa using hne
  have hlt : l < s.heap.objs.size := by obtain ⟨o, e, _⟩ := hl; exact Heap.lt_size e
  refine call_min_walk (wpAny_pyIter_tuple hl ?_)
  refine ⟨_, _, _, _, _, _, _, rfl, Walks.tuple (A := A.in1) hh s.heap.objs.size l (Nat.ne_of_lt hlt) (intItems xs), ⟨⟨_, Heap.get?_push_size _ rfl, rfl, rfl⟩, hl.push _⟩, fun b hb => ?_, by simpa [intItems] using hsz, CmpOf.ints_lt (numAt xs) (fun _ _ => intItems_at), fun v h' tk hv hk => ?_⟩
  · show b < (s.heap.push _).objs.size
    rw [Heap.size_push]
    rcases List.mem_cons.mp hb with rfl | hb
    · exact Nat.lt_succ_self _
    · rcases List.mem_cons.mp hb with rfl | hb
      · exact Nat.lt_succ_of_lt hlt
      · cases hb
  · have hv : (intItems xs)[argBest (fun i j => decide (numAt xs i < numAt xs j)) (xs.size - 1)]? = some v := by simpa [intItems] using hv
    obtain ⟨t, rfl⟩ := intItems_at hv
    obtain ⟨h1, h2⟩ := argBest_lt (numAt xs) (xs.size - 1)
    refine h h' tk _ t (fun b o eo => hk b o (fun hm => ?_) (Heap.get?_push_of_some _ eo)) ?_ fun a ha => ?_
    · rcases List.mem_cons.mp hm with e1 | hm
      · exact absurd (e1 ▸ Heap.lt_size eo) (Nat.lt_irrefl _)
      · cases hm
    · rw [numAt_eq]; exact PySem.getD_mem (by rw [List.length_map, Array.length_toList]; omega)
    · obtain ⟨j, hj, rfl⟩ := mem_getD ha
      rw [List.length_map, Array.length_toList] at hj
      rw [← numAt_eq]; exact h2 j (by omega)
theorem maxL_raw (hh : A.handled = none) (hl : s.heap.IsList l its.toArray) (hi : IntsAre its ns) (hne : 0 < ns.length)
    (h : ∀ h' tk M t', (∀ b o, s.heap.get? b = some o → h'.get? b = some o) → M ∈ ns → (∀ a, a ∈ ns → a ≤ M) → Q (.int M t') { s with heap := h', toks := tk }) : wpAny (model prog w) A (call (.builtin "max") [.ref l]) Q E s := by
  obtain ⟨xs, e⟩ := hi.allInts.items
  have hn : numsOf (intItems xs).toList = ns := by rw [← e]; exact hi.numsOf
  rw [nums_intItems] at hn
  subst hn
  rw [e] at hl
  have hsz : 0 < xs.size := by simpa using hne
  have hlt : l < s.heap.objs.size := by obtain ⟨o, e, _⟩ := hl; exact Heap.lt_size e
  refine call_max_walk (wpAny_pyIter_list hl ?_)
  refine ⟨_, _, _, _, _, _, _, rfl, Walks.list (A := A.in1) hh s.heap.objs.size l (Nat.ne_of_lt hlt) (intItems xs), ⟨⟨_, Heap.get?_push_size _ rfl, rfl, rfl⟩, hl.push _⟩, fun b hb => ?_, by simpa [intItems] using hsz, CmpOf.ints_gt (numAt xs) (fun _ _ => intItems_at), fun v h' tk hv hk => ?_⟩
  · show b < (s.heap.push _).objs.size
    rw [Heap.size_push]
    rcases List.mem_cons.mp hb with rfl | hb
    · exact Nat.lt_succ_self _
    · rcases List.mem_cons.mp hb with rfl | hb
      · exact Nat.lt_succ_of_lt hlt
      · cases hb
  · have hv : (intItems xs)[argBest (fun i j => decide (numAt xs i > numAt xs j)) (xs.size - 1)]? = some v := by simpa [intItems] using hv
    obtain ⟨t, rfl⟩ := intItems_at hv
    obtain ⟨h1, h2⟩ := argBest_gt (numAt xs) (xs.size - 1)
    refine h h' tk _ t (fun b o eo => hk b o (fun hm => ?_) (Heap.get?_push_of_some _ eo)) ?_ fun a ha => ?_
    · rcases List.mem_cons.mp hm with e1 | hm
      · exact absurd (e1 ▸ Heap.lt_size eo) (Nat.lt_irrefl _)
      · cases hm
    · rw [numAt_eq]; exact PySem.getD_mem (by rw [List.length_map, Array.length_toList]; omega)
    · obtain ⟨j, hj, rfl⟩ := mem_getD ha
      rw [List.length_map, Array.length_toList] at hj
      rw [← numAt_eq]; exact h2 j (by omega)
theorem minL_raw (hh : A.handled = none) (hl : s.heap.IsList l its.toArray) (hi : IntsAre its ns) (hne : 0 < ns.length)
    (h : ∀ h' tk M t', (∀ b o, s.heap.get? b = some o → h'.get? b = some o) → M ∈ ns → (∀ a, a ∈ ns → M ≤ a) → Q (.int M t') { s with heap := h', toks := tk }) : wpAny (model prog w) A (call (.builtin "min") [.ref l]) Q E s := by
  obtain ⟨xs, e⟩ := hi.allInts.items
  have hn : numsOf (intItems xs).toList = ns := by rw [← e]; exact hi.numsOf
  rw [nums_intItems] at hn
  subst hn
  rw [e] at hl
  have hsz : 0 < xs.size := by simpa using hne
  have hlt : l < s.heap.objs.size := by obtain ⟨o, e, _⟩ := hl; exact Heap.lt_size e
  refine call_min_walk (wpAny_pyIter_list hl ?_)
  refine ⟨_, _, _, _, _, _, _, rfl, Walks.list (A := A.in1) hh s.heap.objs.size l (Nat.ne_of_lt hlt) (intItems xs), ⟨⟨_, Heap.get?_push_size _ rfl, rfl, rfl⟩, hl.push _⟩, fun b hb => ?_, by simpa [intItems] using hsz, CmpOf.ints_lt (numAt xs) (fun _ _ => intItems_at), fun v h' tk hv hk => ?_⟩
  · show b < (s.heap.push _).objs.size
    rw [Heap.size_push]
    rcases List.mem_cons.mp hb with rfl | hb
    · exact Nat.lt_succ_self _
    · rcases List.mem_cons.mp hb with rfl | hb
      · exact Nat.lt_succ_of_lt hlt
      · cases hb
  · have hv : (intItems xs)[argBest (fun i j => decide (numAt xs i < numAt xs j)) (xs.size - 1)]? = some v := by simpa [intItems] using hv
    obtain ⟨t, rfl⟩ := intItems_at hv
    obtain ⟨h1, h2⟩ := argBest_lt (numAt xs) (xs.size - 1)
    refine h h' tk _ t (fun b o eo => hk b o (fun hm => ?_) (Heap.get?_push_of_some _ eo)) ?_ fun a ha => ?_
    · rcases List.mem_cons.mp hm with e1 | hm
      · exact absurd (e1 ▸ Heap.lt_size eo) (Nat.lt_irrefl _)
      · cases hm
    · rw [numAt_eq]; exact PySem.getD_mem (by rw [List.length_map, Array.length_toList]; omega)
    · obtain ⟨j, hj, rfl⟩ := mem_getD ha
      rw [List.length_map, Array.length_toList] at hj
      rw [← numAt_eq]; exact h2 j (by omega)
end
theorem greatest_ge : ∀ (ns : List Int) (n : Int), n ≤ greatest n ns ∧ (∀ a ∈ ns, a ≤ greatest n ns) ∧ greatest n ns ∈ n :: ns
  | [], n => ⟨Int.le_refl _, (fun _ h => (by cases h)), List.mem_cons_self⟩
  | x :: r, n => by
    have ih := greatest_ge r (if x > n then x else n)
    have e : greatest n (x :: r) = greatest (if x > n then x else n) r := rfl
    rw [e]
    obtain ⟨h1, h2, h3⟩ := ih
    have hx : (if x > n then x else n) = x ∧ x > n ∨ (if x > n then x else n) = n ∧ ¬ x > n := by
      by_cases q : x > n
      · exact .inl ⟨if_pos q, q⟩
      · exact .inr ⟨if_neg q, q⟩
    generalize (if x > n then x else n) = y at *
    refine ⟨by rcases hx with ⟨rfl, q⟩ | ⟨rfl, q⟩ <;> omega, fun a ha => ?_, ?_⟩
    · rcases List.mem_cons.mp ha with rfl | ha
      · rcases hx with ⟨rfl, q⟩ | ⟨rfl, q⟩ <;> omega
      · exact h2 a ha
    · rcases List.mem_cons.mp h3 with q | q
      · rw [q]
        rcases hx with ⟨rfl, _⟩ | ⟨rfl, _⟩
        · exact List.mem_cons_of_mem _ List.mem_cons_self
        · exact List.mem_cons_self
      · exact List.mem_cons_of_mem _ (List.mem_cons_of_mem _ q)
theorem least_le : ∀ (ns : List Int) (n : Int), least n ns ≤ n ∧ (∀ a ∈ ns, least n ns ≤ a) ∧ least n ns ∈ n :: ns
  | [], n => ⟨Int.le_refl _, (fun _ h => (by cases h)), List.mem_cons_self⟩
  | x :: r, n => by
    have ih := least_le r (if x < n then x else n)
    have e : least n (x :: r) = least (if x < n then x else n) r := rfl
    rw [e]
    obtain ⟨h1, h2, h3⟩ := ih
    have hx : (if x < n then x else n) = x ∧ x < n ∨ (if x < n then x else n) = n ∧ ¬ x < n := by
      by_cases q : x < n
      · exact .inl ⟨if_pos q, q⟩
      · exact .inr ⟨if_neg q, q⟩
    generalize (if x < n then x else n) = y at *
    refine ⟨by rcases hx with ⟨rfl, q⟩ | ⟨rfl, q⟩ <;> omega, fun a ha => ?_, ?_⟩
    · rcases List.mem_cons.mp ha with rfl | ha
      · rcases hx with ⟨rfl, q⟩ | ⟨rfl, q⟩ <;> omega
      · exact h2 a ha
    · rcases List.mem_cons.mp h3 with q | q
      · rw [q]
        rcases hx with ⟨rfl, _⟩ | ⟨rfl, _⟩
        · exact List.mem_cons_of_mem _ List.mem_cons_self
        · exact List.mem_cons_self
      · exact List.mem_cons_of_mem _ (List.mem_cons_of_mem _ q)
theorem cr_maxT (hc : X.calm = true) : CallR X (.builtin "max") (fun vs H Q => ∃ (a : Addr) (n : Int) (ns : List Int), vs = [V.ref a] ∧ SqT X.K H a ((n :: ns).map V.int) ∧ Q (.int (greatest n ns)) H) := by
  intro pins s σ H vs us Q I r h
  obtain ⟨a, n, ns, rfl, hs, q⟩ := h
  obtain ⟨its, rv, hl, _⟩ := I.tuple hs
  rw [Vals.ref1 r]
  refine maxT_raw (I.ok.hd hc) (show s.heap.IsTuple a its.toArray from hl) rv.ints (by simp) fun h' tk m t' hk h1 h2 => ?_
  obtain ⟨g1, g2, g3⟩ := greatest_ge ns n
  have : m = greatest n ns := Int.le_antisymm (by
    rcases List.mem_cons.mp h1 with e | e
    · omega
    · exact g2 m e) (h2 _ g3)
  subst this
  exact ⟨.int _, H, I.kept hk, ⟨_, rfl⟩, q⟩
theorem cr_minT (hc : X.calm = true) : CallR X (.builtin "min") (fun vs H Q => ∃ (a : Addr) (n : Int) (ns : List Int), vs = [V.ref a] ∧ SqT X.K H a ((n :: ns).map V.int) ∧ Q (.int (least n ns)) H) := by
  intro pins s σ H vs us Q I r h
  obtain ⟨a, n, ns, rfl, hs, q⟩ := h
  obtain ⟨its, rv, hl, _⟩ := I.tuple hs
  rw [Vals.ref1 r]
  refine minT_raw (I.ok.hd hc) (show s.heap.IsTuple a its.toArray from hl) rv.ints (by simp) fun h' tk m t' hk h1 h2 => ?_
  obtain ⟨g1, g2, g3⟩ := least_le ns n
  have : m = least n ns := Int.le_antisymm (h2 _ g3) (by
    rcases List.mem_cons.mp h1 with e | e
    · omega
    · exact g2 m e)
  subst this
  exact ⟨.int _, H, I.kept hk, ⟨_, rfl⟩, q⟩

theorem cr_maxL (hc : X.calm = true) : CallR X (.builtin "max") (fun vs H Q => ∃ (a : Addr) (n : Int) (ns : List Int), vs = [V.ref a] ∧ SqL X.K H a ((n :: ns).map V.int) ∧ Q (.int (greatest n ns)) H) := by
  intro pins s σ H vs us Q I r h
  obtain ⟨a, n, ns, rfl, hs, q⟩ := h
  obtain ⟨its, rv, hl, _⟩ := I.list hs
  rw [Vals.ref1 r]
  refine maxL_raw (I.ok.hd hc) hl.isList rv.ints (by simp) fun h' tk m t' hk h1 h2 => ?_
  obtain ⟨g1, g2, g3⟩ := greatest_ge ns n
  have : m = greatest n ns := Int.le_antisymm (by
    rcases List.mem_cons.mp h1 with e | e
    · omega
    · exact g2 m e) (h2 _ g3)
  subst this
  exact ⟨.int _, H, I.kept hk, ⟨_, rfl⟩, q⟩
theorem cr_minL (hc : X.calm = true) : CallR X (.builtin "min") (fun vs H Q => ∃ (a : Addr) (n : Int) (ns : List Int), vs = [V.ref a] ∧ SqL X.K H a ((n :: ns).map V.int) ∧ Q (.int (least n ns)) H) := by
  intro pins s σ H vs us Q I r h
  obtain ⟨a, n, ns, rfl, hs, q⟩ := h
  obtain ⟨its, rv, hl, _⟩ := I.list hs
  rw [Vals.ref1 r]
  refine minL_raw (I.ok.hd hc) hl.isList rv.ints (by simp) fun h' tk m t' hk h1 h2 => ?_
  obtain ⟨g1, g2, g3⟩ := least_le ns n
  have : m = least n ns := Int.le_antisymm (h2 _ g3) (by
    rcases List.mem_cons.mp h1 with e | e
    · omega
    · exact g2 m e)
  subst this
  exact ⟨.int _, H, I.kept hk, ⟨_, rfl⟩, q⟩

/-! ### lists of data as they are seen -/
theorem viewedL {K : PySem.W.Frag} {M : Ms} {H : Hp} {st : Sto} (s : StoOk K M H st) : ∀ {ds : List D} {vs : List V}, Reps K M H ds vs → Paired (RepW K M H) (ds.map (view st)) vs
  | [], _, h => by cases h; exact .nil
  | d :: ds, _, ⟨v, r, e, h1, h2⟩ => by subst e; exact .cons (viewed s h1) (viewedL s h2)
def rDl (K : PySem.W.Frag) (CA : Nat → Option Addr) (W : Value → Option Addr → Hp → Prop) (f : List D → Option D) : List V → Hp → VK → Prop := fun xs H Q =>
  ∃ M st ds, StoOk K M H st ∧ Paired (RepW K M H) ds xs ∧ Got K CA M H (Rep K) W (lft (f ds) st) Q
def biName : Bi → Str
  | .len => "len" | .abs => "abs" | .int => "int" | .str => "str" | .tuple => "tuple" | .list => "list" | .sum => "sum" | .any => "any" | .all => "all" | .max => "max" | .min => "min"
def biVal : Bi → Value
  | .len => .builtin "len" | .abs => .builtin "abs" | .int => .type "int" | .str => .type "str" | .tuple => .type "tuple" | .list => .type "list" | .sum => .builtin "sum" | .any => .builtin "any" | .all => .builtin "all" | .max => .builtin "max" | .min => .builtin "min"
theorem bi_boot : ∀ f : Bi, bootBuiltins (biName f) = some (biVal f) := by
  intro f
  cases f <;> decide +kernel
theorem some_ite' {c : Prop} [Decidable c] {α : Type} {x : Option α} {b : α} (h : (if c then x else none) = some b) : c ∧ x = some b := by
  by_cases hc : c
  · rw [if_pos hc] at h; exact ⟨hc, h⟩
  · rw [if_neg hc] at h; cases h
theorem digits_ok : ∀ (z : List Nat) (acc v : Nat), digitsVal acc z = some v → (∀ c ∈ z, 48 ≤ c ∧ c ≤ 57) ∧ v = z.foldl (fun a c => a * 10 + (c - 48)) acc
  | [], acc, v, h => by
    cases h
    exact ⟨fun _ h => (by cases h), rfl⟩
  | c :: r, acc, v, h => by
    unfold digitsVal at h
    obtain ⟨hc, e⟩ := some_ite' h
    obtain ⟨h1, h2⟩ := digits_ok r _ _ e
    refine ⟨fun d hd => ?_, h2⟩
    rcases List.mem_cons.mp hd with rfl | hd
    · exact hc
    · exact h1 d hd
theorem read_ok {z : List Nat} {n : Int} (h : readInt z = some n) : PySem.intText? (strV z) = some n ∧ (strV z).length ≤ 640 := by
  cases z with
  | nil => cases h
  | cons c r =>
    unfold readInt at h
    obtain ⟨hl, e⟩ := some_ite' h
    obtain ⟨v, hv, rfl⟩ := Option.map_eq_some_iff.mp e
    obtain ⟨h1, h2⟩ := digits_ok _ _ _ hv
    have hlen : (strV (c :: r)).length ≤ 640 := by
      show (c :: r).toArray.size ≤ 640
      rw [List.size_toArray]
      exact hl
    have := intText_digits (x := strV (c :: r)) h1 (by show c :: r ≠ []; simp) (Nat.le_trans hlen (by decide))
    refine ⟨?_, hlen⟩
    rw [this, h2]
    rfl
/-- what may be called within an except suite -/
def hotBi : Bi → Bool
  | .len => true
  | .abs => true
  | .int => true
  | .str => true
  | .tuple => true
  | .list => true
  | _ => false
theorem bfS (x : Xk X k hot) : ∀ (f : Bi), (hot = false ∨ hotBi f = true) → CallR X (biVal f) (rDl X.K CA W (bfn f)) := by
  intro f hh pins s σ H xs us Q I rs h
  obtain ⟨M, st, ds, hs, hd, g0⟩ := h
  obtain ⟨r, hr, g⟩ := g0.lft
  clear g0
  have bl := big_line
  have hcc : hotBi f = false → X.calm = true := fun z => x.calm (hh.resolve_right (by rw [z]; decide))
  cases f with
  | len =>
    match ds, hd, hr with
    | [d], .cons h1 .nil, hr =>
      cases d <;> first | (simp [bfn] at hr; done) | skip
      · rename_i z
        simp only [bfn] at hr
        obtain ⟨hl, e1⟩ := some_ite hr
        subst e1
        cases h1
        refine call_len_str pins s σ H _ us Q I rs ⟨strV z, rfl, ?_, ?_⟩
        · simp only [strV, Str.length, List.size_toArray]; omega
        · refine g.ok hs ?_
          show V.int _ = V.int _
          simp [strV, Str.length]
      · simp only [bfn] at hr
        cases hr
        obtain ⟨p, vs, rfl, h2, h3⟩ := h1
        refine call_len_seq pins s σ H _ us Q I rs ⟨p, vs, rfl, .inr h2, g.ok hs ?_⟩
        rw [h3.length]; rfl
      · simp only [bfn] at hr
        cases hr
        obtain ⟨p, vs, rfl, h2, h3⟩ := h1
        refine call_len_seq pins s σ H _ us Q I rs ⟨p, vs, rfl, .inl (.inl h2), g.ok hs ?_⟩
        rw [h3.length]; rfl
    | [], _, hr => simp [bfn] at hr
    | _ :: _ :: _, _, hr => simp [bfn] at hr
  | abs =>
    match ds, hd, hr with
    | [d], .cons h1 .nil, hr =>
      cases d <;> first | (simp [bfn] at hr; done) | skip
      simp only [bfn] at hr
      cases hr
      cases h1
      exact call_abs pins s σ H _ us Q I rs ⟨_, rfl, g.ok hs rfl⟩
    | [], _, hr => simp [bfn] at hr
    | _ :: _ :: _, _, hr => simp [bfn] at hr
  | int =>
    match ds, hd, hr with
    | [d], .cons h1 .nil, hr =>
      cases d <;> first | (simp [bfn] at hr; done) | skip
      · simp only [bfn] at hr
        cases hr
        cases h1
        exact call_int1 pins s σ H _ us Q I rs (.inr ⟨_, rfl, g.ok hs rfl⟩)
      · simp only [bfn] at hr
        cases hr
        cases h1
        exact call_int1 pins s σ H _ us Q I rs (.inl ⟨_, rfl, g.ok hs rfl⟩)
      · rename_i z
        simp only [bfn] at hr
        obtain ⟨n, hn, e1⟩ := Option.map_eq_some_iff.mp hr
        subst e1
        cases h1
        obtain ⟨h2, h3⟩ := read_ok hn
        exact call_int_str pins s σ H _ us Q I rs ⟨_, _, rfl, h2, h3, g.ok hs rfl⟩
    | [], _, hr => simp [bfn] at hr
    | _ :: _ :: _, _, hr => simp [bfn] at hr
  | str =>
    match ds, hd, hr with
    | [d], .cons h1 .nil, hr =>
      cases d <;> first | (simp [bfn] at hr; done) | skip
      rename_i i
      simp only [bfn] at hr
      obtain ⟨hl, e1⟩ := some_ite hr
      subst e1
      cases h1
      refine call_str_int pins s σ H _ us Q I rs ⟨_, rfl, hl, g.ok hs ?_⟩
      show V.str _ = V.str _
      congr 1
      show Str.ofString (toString i) = strV (showInt i)
      rw [Str.ofString_eq_toList]
      rfl
    | [], _, hr => simp [bfn] at hr
    | _ :: _ :: _, _, hr => simp [bfn] at hr
  | tuple =>
    match ds, hd, hr with
    | [d], .cons h1 .nil, hr =>
      cases d <;> first | (simp [bfn] at hr; done) | skip
      · simp only [bfn] at hr
        cases hr
        obtain ⟨p, vs, rfl, h2, h3⟩ := h1
        exact call_tuple_of pins s σ H _ us Q I rs ⟨p, vs, rfl, .inr ⟨h2, g.ok hs ⟨p, vs, rfl, h2, h3⟩⟩⟩
      · simp only [bfn] at hr
        cases hr
        obtain ⟨p, vs, rfl, h2, h3⟩ := h1
        exact call_tuple_of pins s σ H _ us Q I rs ⟨p, vs, rfl, .inl ⟨.inl h2, fun l hl => g.tup hs h3 l hl⟩⟩
    | [], _, hr => simp [bfn] at hr
    | _ :: _ :: _, _, hr => simp [bfn] at hr
  | list =>
    match ds, hd, hr with
    | [d], .cons h1 .nil, hr =>
      cases d <;> first | (simp [bfn] at hr; done) | skip
      · simp only [bfn] at hr
        cases hr
        obtain ⟨p, vs, rfl, h2, h3⟩ := h1
        exact call_list_of pins s σ H _ us Q I rs ⟨p, vs, rfl, .inr h2, fun l hl => g.fls hs h3 l hl⟩
      · simp only [bfn] at hr
        cases hr
        obtain ⟨p, vs, rfl, h2, h3⟩ := h1
        exact call_list_of pins s σ H _ us Q I rs ⟨p, vs, rfl, .inl (.inl h2), fun l hl => g.fls hs h3 l hl⟩
    | [], _, hr => simp [bfn] at hr
    | _ :: _ :: _, _, hr => simp [bfn] at hr
  | sum =>
    match ds, hd, hr with
    | [d], .cons h1 .nil, hr =>
      cases d <;> first | (simp [bfn] at hr; done) | skip
      simp only [bfn] at hr
      obtain ⟨ns, e1, rfl⟩ := Option.map_eq_some_iff.mp hr
      obtain ⟨p, vs, rfl, h2, h3⟩ := h1
      rw [ints_map e1] at h3
      have := h3.ints
      subst this
      exact cr_sum (hcc rfl) pins s σ H _ us Q I rs ⟨p, ns, rfl, .inl h2, g.ok hs rfl⟩
    | [], _, hr => simp [bfn] at hr
    | _ :: _ :: _, _, hr => simp [bfn] at hr
  | any =>
    match ds, hd, hr with
    | [d], .cons h1 .nil, hr =>
      cases d <;> first | (simp [bfn] at hr; done) | skip
      · simp only [bfn] at hr
        obtain ⟨ns, e1, rfl⟩ := Option.map_eq_some_iff.mp hr
        obtain ⟨p, vs, rfl, h2, h3⟩ := h1
        rw [ints_map e1] at h3
        have := h3.ints
        subst this
        exact cr_anyT (hcc rfl) pins s σ H _ us Q I rs ⟨p, ns, rfl, h2, g.ok hs rfl⟩
      · simp only [bfn] at hr
        obtain ⟨p, vs, rfl, h2, h3⟩ := h1
        split at hr
        · rename_i ns e1
          cases hr
          rw [ints_map e1] at h3
          have := h3.ints
          subst this
          exact cr_anyI (hcc rfl) pins s σ H _ us Q I rs ⟨p, ns, rfl, .inl h2, g.ok hs rfl⟩
        · obtain ⟨ns, e1, rfl⟩ := Option.map_eq_some_iff.mp hr
          rw [bls_map e1] at h3
          have := h3.bls
          subst this
          exact cr_any (hcc rfl) pins s σ H _ us Q I rs ⟨p, ns, rfl, .inl h2, g.ok hs rfl⟩
    | [], _, hr => simp [bfn] at hr
    | _ :: _ :: _, _, hr => simp [bfn] at hr
  | all =>
    match ds, hd, hr with
    | [d], .cons h1 .nil, hr =>
      cases d <;> first | (simp [bfn] at hr; done) | skip
      simp only [bfn] at hr
      obtain ⟨p, vs, rfl, h2, h3⟩ := h1
      obtain ⟨ns, e1, rfl⟩ := Option.map_eq_some_iff.mp hr
      rw [bls_map e1] at h3
      have := h3.bls
      subst this
      exact cr_all (hcc rfl) pins s σ H _ us Q I rs ⟨p, ns, rfl, .inl h2, g.ok hs rfl⟩
    | [], _, hr => simp [bfn] at hr
    | _ :: _ :: _, _, hr => simp [bfn] at hr
  | max =>
    match ds, hd, hr with
    | [d, e], .cons h1 (.cons h2 .nil), hr =>
      cases d <;> cases e <;> first | (simp [bfn] at hr; done) | skip
      simp only [bfn] at hr
      cases hr
      cases h1
      cases h2
      exact call_max2 (hcc rfl) pins s σ H _ us Q I rs ⟨_, _, rfl, g.ok hs rfl⟩
    | [d], .cons h1 .nil, hr =>
      cases d <;> first | (simp [bfn] at hr; done) | skip
      · simp only [bfn] at hr
        obtain ⟨p, vs, rfl, h2, h3⟩ := h1
        split at hr
        · rename_i n ns e1
          cases hr
          rw [ints_map e1] at h3
          have := h3.ints
          subst this
          exact cr_maxT (hcc rfl) pins s σ H _ us Q I rs ⟨p, n, ns, rfl, h2, g.ok hs rfl⟩
        · cases hr
      · simp only [bfn] at hr
        obtain ⟨p, vs, rfl, h2, h3⟩ := h1
        split at hr
        · rename_i n ns e1
          cases hr
          rw [ints_map e1] at h3
          have := h3.ints
          subst this
          exact cr_maxL (hcc rfl) pins s σ H _ us Q I rs ⟨p, n, ns, rfl, .inl h2, g.ok hs rfl⟩
        · cases hr
    | [], _, hr => simp [bfn] at hr
    | _ :: _ :: _ :: _, _, hr => simp [bfn] at hr
  | min =>
    match ds, hd, hr with
    | [d, e], .cons h1 (.cons h2 .nil), hr =>
      cases d <;> cases e <;> first | (simp [bfn] at hr; done) | skip
      simp only [bfn] at hr
      cases hr
      cases h1
      cases h2
      exact call_min2 (hcc rfl) pins s σ H _ us Q I rs ⟨_, _, rfl, g.ok hs rfl⟩
    | [d], .cons h1 .nil, hr =>
      cases d <;> first | (simp [bfn] at hr; done) | skip
      · simp only [bfn] at hr
        obtain ⟨p, vs, rfl, h2, h3⟩ := h1
        split at hr
        · rename_i n ns e1
          cases hr
          rw [ints_map e1] at h3
          have := h3.ints
          subst this
          exact cr_minT (hcc rfl) pins s σ H _ us Q I rs ⟨p, n, ns, rfl, h2, g.ok hs rfl⟩
        · cases hr
      · simp only [bfn] at hr
        obtain ⟨p, vs, rfl, h2, h3⟩ := h1
        split at hr
        · rename_i n ns e1
          cases hr
          rw [ints_map e1] at h3
          have := h3.ints
          subst this
          exact cr_minL (hcc rfl) pins s σ H _ us Q I rs ⟨p, n, ns, rfl, .inl h2, g.ok hs rfl⟩
        · cases hr
    | [], _, hr => simp [bfn] at hr
    | _ :: _ :: _ :: _, _, hr => simp [bfn] at hr

/-! ### items and slices -/
theorem ixN_eq (n : Nat) (i : Int) : ixN n i = L2.ixN n i := rfl
theorem ixS : IxR X (rD2 X.K CA W ixd) := by
  intro ve sle pins s σ H a b v u Q I ra rb h hsub
  obtain ⟨M, st, d, e, hs, hd, he, g0⟩ := h
  obtain ⟨r, hr, g⟩ := g0.lft
  clear g0
  have bl := big_line
  cases e <;> first | (cases d <;> simp [ixd] at hr; done) | skip
  rename_i i
  cases he
  have at2 : ∀ {M : Ms} {ds : List D} {vs : List V} {z : D}, Reps X.K M H ds vs → atI ds i = some z → ∃ w, L2.atI vs i = some w ∧ Rep X.K M H z w := fun {M ds vs z} h1 h2 => by
    unfold atI at h2
    unfold L2.atI
    rw [← ixN_eq, ← h1.length]
    cases q : ixN ds.length i with
    | none => rw [q] at h2; cases h2
    | some j => rw [q] at h2; exact h1.get h2
  cases d <;> first | (simp [ixd] at hr; done) | skip
  · rename_i z
    simp only [ixd] at hr
    obtain ⟨hl, e1⟩ : z.length ≤ 1000000 ∧ (atI z i).map (fun c => D.str [c]) = some r := by
      by_cases hz : z.length ≤ 1000000
      · rw [if_pos hz] at hr; exact ⟨hz, hr⟩
      · rw [if_neg hz] at hr; cases hr
    obtain ⟨c, e2, rfl⟩ := Option.map_eq_some_iff.mp e1
    cases hd
    have hl' : (strV z).cps.toList = z := by simp [strV]
    refine ix_str ve sle pins s σ H _ _ v u Q I ra rb ⟨strV z, i, c, rfl, rfl, ?_, ?_, g.ok hs rfl⟩ hsub
    · simp only [strV, Str.length, List.size_toArray]; omega
    · rw [hl']; exact e2
  · simp only [ixd] at hr
    obtain ⟨p, vs, rfl, h2, h3⟩ := hd
    obtain ⟨w, e1, e2⟩ := at2 h3 hr
    exact ix_tup ve sle pins s σ H _ _ v u Q I ra rb ⟨p, vs, i, w, rfl, rfl, h2, e1, g.ok hs e2⟩ hsub
  · simp only [ixd] at hr
    obtain ⟨p, vs, rfl, h2, h3⟩ := hd
    obtain ⟨w, e1, e2⟩ := at2 h3 hr
    exact ix_list ve sle pins s σ H _ _ v u Q I ra rb ⟨p, vs, i, w, rfl, rfl, .inl h2, e1, g.ok hs e2⟩ hsub
theorem sIx_eq (n d : Nat) (i : Option Int) : sIx n d i = HT.sIx n d i := by
  cases i with
  | none => rfl
  | some i =>
    show (if i < 0 then (i + n).toNat else min i.toNat n) = HT.sIx n d (some i)
    have h := HT.clip_eq i n d
    by_cases hi : i < 0
    · rw [if_pos hi] at h ⊢
      omega
    · rw [if_neg hi] at h ⊢
      omega
theorem cut_reps {K : PySem.W.Frag} {M : Ms} {H : Hp} {ds : List D} {vs : List V} (lo hi : Option Int) (h : Reps K M H ds vs) : Reps K M H (cut ds lo hi) (cutV vs lo hi) := by
  unfold cut cutV
  rw [sIx_eq, sIx_eq, h.length]
  exact (h.drop _).take _
/-- a slice of a datum, as the store shows it -/
def rDs (K : PySem.W.Frag) (CA : Nat → Option Addr) (W : Value → Option Addr → Hp → Prop) : V → Option Int → Option Int → Hp → VK → Prop := fun x lo hi H Q =>
  ∃ M st d, StoOk K M H st ∧ RepW K M H d x ∧ Got K CA M H (Rep K) W (lft (sld lo hi d) st) Q
theorem slS : SlR X (rDs X.K CA W) := by
  intro pins s σ H a v vl vu lo hi sl Q I ra is pl pu h
  obtain ⟨M, st, d, hs, hd, g0⟩ := h
  obtain ⟨r, hr, g⟩ := g0.lft
  clear g0
  have bl := big_line
  cases d <;> first | (simp [sld] at hr; done) | skip
  · rename_i z
    simp only [sld] at hr
    obtain ⟨hl, e1⟩ := some_ite hr
    subst e1
    cases hd
    refine sl_str pins s σ H _ v vl vu lo hi sl Q I ra is pl pu ⟨strV z, rfl, ?_, ?_⟩
    · simp only [strV, Str.length, List.size_toArray]; omega
    · refine g.ok hs ?_
      show V.str _ = V.str _
      refine congrArg V.str ?_
      unfold cutS strV cut
      rw [sIx_eq, sIx_eq]
      rfl
  · simp only [sld] at hr
    cases hr
    obtain ⟨p, vs, rfl, h2, h3⟩ := hd
    refine sl_tupA pins s σ H _ v vl vu lo hi sl Q I ra is pl pu ⟨p, vs, rfl, h2, fun z => g.ok hs ⟨p, vs, rfl, h2, ?_⟩, fun _ w hw => g.tup hs (cut_reps lo hi h3) w hw⟩
    have := cut_reps lo hi h3
    unfold cutV at this
    rw [z.1, z.2] at this
    simpa using this
  · simp only [sld] at hr
    cases hr
    obtain ⟨p, vs, rfl, h2, h3⟩ := hd
    exact sl_list pins s σ H _ v vl vu lo hi sl Q I ra is pl pu ⟨p, vs, rfl, .inl h2, fun w hw => g.fls hs (cut_reps lo hi h3) w hw⟩

/-! ### truth -/
theorem truS {M : Ms} {H : Hp} {d : D} {v : V} {b : Bool} (r : RepW X.K M H d v) (h : tru d = some b) : TruV X.K v H b := by
  have bl := big_line
  cases d <;> first | (simp [tru] at h; done) | skip
  · cases r; simp [tru] at h; subst h; rfl
  · cases r; simp [tru] at h; subst h; rfl
  · cases r; simp [tru] at h; subst h; rfl
  · rename_i z
    cases r
    simp only [tru] at h
    obtain ⟨hl, rfl⟩ := some_ite h
    refine ⟨?_, ?_⟩
    · simp only [strV, Str.length, List.size_toArray]; omega
    · rw [Bool.eq_iff_iff]; simp [strV, Str.length]
  · obtain ⟨p, vs, rfl, h2, h3⟩ := r
    simp only [tru] at h
    cases h
    refine .inr (.inl ⟨vs, h2, ?_⟩)
    have := h3.length
    rename_i xs
    cases xs <;> cases vs <;> simp at this ⊢
  · obtain ⟨p, vs, rfl, h2, h3⟩ := r
    simp only [tru] at h
    cases h
    refine .inl ⟨vs, .inl h2, ?_⟩
    have := h3.length
    rename_i xs
    cases xs <;> cases vs <;> simp at this ⊢
end
end Dp

end
section
set_option Elab.async false
set_option linter.all false
set_option maxRecDepth 100000
set_option maxHeartbeats 4000000
/-! Xi: an own error that keeps one thing: made, looked at. -/
namespace PySem.W
open PySem PySem.Spec PySem.Calls PyProof.Rows
section
variable {prog : Program} {w : World} {A : Around} {E : Value → Shared → Prop} {s : Shared} {K : Frag} {x D : Addr} {ox : Obj} {od : Option Obj}
theorem findObj_dataD {C : Addr} {name : Str} {a g : Value} (hc : (clsIn K C).isSome = true) (ha : findIn K (.ref C) name = some (some a)) (hg : specialIn K a "__get__" = some (some g)) (ht : takesIn K a = some true) : findObj K C od name = some (.bind g a) := by
  obtain ⟨cd, hc⟩ := Option.isSome_iff_exists.mp hc
  unfold findObj
  rw [hc, Option.bind_some, ha, Option.bind_some]
  simp [hg, ht]
theorem kin_classD {Q : Option Value → Shared → Prop} (hga : findIn K (.ref D) "__getattribute__" = some (some (.builtin "BaseException.__getattribute__"))) (hgt : findIn K (.ref D) "__getattr__" = some none) (hsub : subIn K (.ref D) (.type "BaseException") = some true)
    (hdct : hasDictIn K D = true) (ha : findIn K (.ref D) "__class__" = some (some (.builtin "object.__class__")))
    (hn : specialIn K (.builtin "object.__class__") "__get__" = some (some (.builtin "getset_descriptor.__get__"))) (htk : takesIn K (.builtin "object.__class__") = some true) (hm : mroIn K D (.type "object") = some true)
    (X : K.In s.heap) (I : InstAt s.heap x ox D od) (h : Q (some (.ref D)) { s with toks := s.toks + 1 }) : wpAny (model prog w) A (getAttr? (.ref x) "__class__") Q E s := by
  have hf : findObj K D od "__class__" = some (.bind (.builtin "getset_descriptor.__get__") (.builtin "object.__class__")) := findObj_dataD (by obtain ⟨cd, hc, _⟩ := any_some hdct; rw [hc]; rfl) ha hn htk
  obtain ⟨hp, g, d, t, os⟩ := s
  have L0 := I.type (M := model prog w)
  have L1 := looks_findIn (M := model prog w) X hga
  have L2 := looks_findIn (M := model prog w) X hgt
  have L3 := looks_find (M := model prog w) X I hf
  have sub : Looks (model prog w) hp (isInstance (.ref x) (.type "BaseException")) true := L0.andThen (looks_subIn X hsub)
  have hx0 : (false && onTheHeap (Value.builtin "BaseException.__getattribute__")) = false := rfl
  have hx2 : (Value.builtin "BaseException.__getattribute__" == Value.builtin "object.__getattribute__") = false := by decide +kernel
  have hx1 : (onTheHeap (Value.ref D) && Value.builtin "BaseException.__getattribute__" == Value.builtin "object.__getattribute__") = false := by rw [hx2]; rfl
  unfold getAttr? getAttrBy? getAttrBy
  refine wpAny_bind (wpAny_mkText (wpAny_bind (wpAny_attempt (wpAny_holding (wpAny_bind (L0.at (wpAny_bind (L1.at ?_))))))))
  show wpAny _ _ (if (onTheHeap (Value.ref D) && Value.builtin "BaseException.__getattribute__" == Value.builtin "object.__getattribute__") = true then _ else _) _ _ _
  rw [hx1, if_neg Bool.false_ne_true]
  unfold getAttrByItsOwn hookBefore
  refine wpAny_bind ?_
  rw [if_pos (show onTheHeap (Value.ref D) = true from rfl)]
  refine L2.at ?_
  refine wpAny_bind (wpAny_attempt (wpAny_holding ?_))
  unfold callGetattribute
  rw [hx0, if_neg Bool.false_ne_true]
  unfold boundAndCalled
  rw [PySem.F.excAttr_ValueError.ga.bind (.ref x)]
  refine wpAny_bind (wpAny_pure ?_)
  show wpAny _ _ (call (.builtin "BaseException.__getattribute__") [.ref x, .str "__class__" t]) _ _ _
  refine wpAny_call (codeAny_call_builtin PySem.F.excAttr_ValueError.ga.plain PySem.F.entry_bexc_ga ?_)
  refine @check_slot (model prog w) _ _ ⟨hp, g, d, t + 1, os⟩ "BaseException.__getattribute__" "BaseException" "__getattribute__" (.ref x) [.str "__class__" t] [] _ (by decide +kernel) (by decide +kernel) sub (PySem.F.args_bexc_ga (.ref x) (.str "__class__" t)) ?_
  unfold Builtin.«object.__getattribute__»
  refine wpAny_bind (wpAny_of_eq (a := ((Value.ref x : Value), [Value.str "__class__" t])) (by first | rfl | (simp only [slotArgs]; rfl)) ?_)
  refine wpAny_bind (wpAny_pure (wpAny_bind (L0.at (wpAny_bind (L3.at ?_)))))
  show wpAny _ _ (holding [Value.builtin "object.__class__"] (call (.builtin "getset_descriptor.__get__") [.builtin "object.__class__", .ref x, .ref D]) >>= ret) _ _ _
  refine wpAny_bind (wpAny_holding (wpAny_call (class_get (s := ⟨hp, g, d, t + 1, os⟩) (ox := ox) (od := od) X I hm ?_)))
  refine wpAny_pure ?_
  show wpAny _ _ (handedOut (.ref D)) _ _ _
  rw [handedOut_of (v := .ref D) rfl]
  first
    | exact wpAny_pure (wpAny_pure h)
    | exact wpAny_pure h
    | exact wpAny_pure (wpAny_bind (wpAny_pure (wpAny_pure h)))
theorem kitx_excD (hga : findIn K (.ref D) "__getattribute__" = some (some (.builtin "BaseException.__getattribute__"))) (hgt : findIn K (.ref D) "__getattr__" = some none) (hsub : subIn K (.ref D) (.type "BaseException") = some true) (hdct : hasDictIn K D = true) (ha : findIn K (.ref D) "__class__" = some (some (.builtin "object.__class__")))
    (hn : specialIn K (.builtin "object.__class__") "__get__" = some (some (.builtin "getset_descriptor.__get__"))) (htk : takesIn K (.builtin "object.__class__") = some true) (hm : mroIn K D (.type "object") = some true) :
    KitX K (.ref x) (.ref D) (fun h => InstAt h x ox D od) where
  ty := fun _ _ _ I => I.type
  it := fun _ _ X _ => by
    obtain ⟨cdD, hcD, _⟩ := any_some hdct
    unfold clsIn at hcD
    split at hcD
    · rename_i c' d' cd' sl' ho
      intro A' Q' E' s' k q
      unfold isType loadHead
      exact wpAny_bind (wpAny_loadPart (k _ _ (X _ _ ho)) (wpAny_pure q))
    · cases hcD
  ne := fun h tp dd its n sl X htp => by
    obtain ⟨cdD, hcD, _⟩ := any_some hdct
    refine Bool.eq_false_iff.mpr fun q => ?_
    have e : D = tp := Value.ref.inj (beq_iff_eq.mp q)
    subst e
    unfold clsIn at hcD
    split at hcD
    · rename_i c' d' cd' sl' ho
      have z := (X _ _ ho).symm.trans htp
      cases z
    · cases hcD
  ca := fun X I k => kin_classD hga hgt hsub hdct ha hn htk hm X I k
end
end PySem.W
namespace Dp
open PySem PySem.Spec PyProof.Rows L2
section
variable {X : Cx} {e : Expr} {es : List Expr} {ta : TA} {f x : Str} {p p1 p2 pos : Pos} {HE : Addr}
end
end Dp

end
section
set_option Elab.async false
set_option linter.all false
set_option maxRecDepth 100000
set_option maxHeartbeats 4000000
/-! Tr: a caught exception is kept: tracked from the suite's end on; isinstance of it. -/
namespace Dp
open PySem PySem.Spec PyProof.Rows L2

section
variable {X : Cx} {pins : List (Addr × Obj)} {σ : L2.St} {H : Hp} {s : Shared}
/-- an object that lies there, new since the start, is tracked from now on -/
theorem Inv.adopt {a : Addr} {oe : Obj} {fs : Array Value} {cls : Value} (I : Inv X pins σ H s) (he : s.heap.get? a = some oe) {d : Option Addr} (hc : oe.cls = cls) (hd : oe.dict = d) (hf : oe.data = .fields fs) (hn : H a = none)
    (h0 : X.s_0.heap.get? a = none) (hL : a ≠ X.env.locals) (hp : ∀ p ∈ X.pn ++ pins, p.1 ≠ a) : Inv X pins σ (upd H a (ExT cls d a)) s := by
  have ne : ∀ {b : Addr} {u : HO}, H b = some u → b ≠ a := fun {b u} e z => by rw [z, hn] at e; cases e
  refine ⟨I.ok, I.os, I.bare, ⟨I.base.keep, I.base.slot, fun b o e n x => ?_, I.base.there, fun b xs e => ?_, fun b o u e => ?_, fun b ps e => ?_⟩, I.loc, I.cell, ?_, fun x c h => ?_, fun p h => ?_, fun b o h => ?_, I.len⟩
  · have hb : b ≠ a := fun z => by rw [z, h0] at e; cases e
    rw [upd_ne hb]
    exact I.base.free b o e n x
  · have q := I.base.tups b xs e
    rw [upd_ne (ne q)]
    exact q
  · have q := I.base.frzs b o u e
    rw [upd_ne (ne q)]
    exact q
  · obtain ⟨more, q⟩ := I.base.tbls b ps e
    exact ⟨more, by rw [upd_ne (ne q)]; exact q⟩
  · rw [upd_ne (Ne.symm hL)]
    exact I.free
  · have hca : c ≠ a := fun z => by
      obtain ⟨v, o, e1, e2⟩ := I.cell x c h
      rw [z, he] at e1
      cases e1
      rw [hf] at e2
      cases e2
    rw [upd_ne hca]
    exact I.freeC x c h
  · obtain ⟨q1, q2, q3, q4, q5⟩ := I.pin p h
    exact ⟨q1, by rw [upd_ne (hp p h)]; exact q2, q3, q4, q5⟩
  · by_cases hb : b = a
    · subst hb
      rw [upd_same] at h
      cases h
      exact ⟨⟨oe, fs, he, hc, hd, hf⟩, ⟨oe, he⟩, fun h1 h2 ⟨o, f, q1, q2⟩ k => ⟨o, f, k o q1, q2⟩⟩
    · rw [upd_ne hb] at h
      exact (I.hok b o h).stay (fun _ _ _ q => q) (fun c q => by rw [upd_ne (ne q)]; exact q) fun c xs q => by rw [upd_ne (ne q)]; exact q
end
/-- what «try: .. except x as n: y = n» wishes of what the body raises: n's slot i, y's slot j -/
def wKeep (K : PySem.W.Frag) (c : Value) (i j : Nat) (Wout : WX) (Dn : Ends) : WX := fun cls d σ H => ∃ b, PySem.W.exmOne K cls c = some b ∧
  (b = true → ∀ a, H a = none → Dn.nx (((σ.set i (some (.ref a))).set j (some (.ref a))).set i none) (upd H a (ExT cls d a))) ∧ (b = false → Wout cls d σ H)
section
variable {X : Cx} {x n y : Str} {c : Value} {i j : Nat} {body : List Stmt} {np yp vp ap pos pos' : Pos} {tb : WX → TS} {Wout : WX}
theorem ps_try_keep (hst : X.stack = X.env :: X.outer) (hfm : X.env.frame = some X.env.locals) (hex : X.ex = []) (hN : X.N.Nodup) (hi : X.N[i]? = some n) (hln : X.env.kindOf n = some .local) (hj : X.N[j]? = some y) (hlj : X.env.kindOf y = some .local) (hc : Names X x c) (tk : Takes X Wout)
    (hnd : (n == ("__debug__" : Str)) = false) (hnc : (n == ("__classdict__" : Str)) = false)
    (hb : ∀ (W : WX) (pn : List (Addr × Obj)) (xe : Value → Shared → Prop), Takes (X.tr pn xe) W → PassesOwn (model X.prog X.w) X.A X.env xe → PSs (X.tr pn xe) body (tb W)) :
    PS X (.Try body [.ExceptHandler (some (.Name x np)) (some n) [.Assign [.Name y yp] (.Name n vp) ap] pos'] [] [] pos) (fun D σ H => tb (wKeep X.K c i j Wout D) D σ H) := by
  refine ⟨fun pins s σ H D I want => ?_⟩
  have okX := I.ok
  have frm : X.A.frames = some (X.env :: X.outer) := by rw [okX.frames, hst]
  let hand := [ExceptHandler.ExceptHandler (some (.Name x np)) (some n) [.Assign [.Name y yp] (.Name n vp) ap] pos']
  refine wpAny_Try_except ?_
  have bodyRuns := (hb (wKeep X.K c i j Wout D) (X.pn ++ pins)
    (fun e t => wpAny (model X.prog X.w) X.A (noteFrame e X.env)
      (fun _ t2 => wpAny (model X.prog X.w) X.A (setFlight e none)
        (fun _ t3 => wpAny (model X.prog X.w) X.A (handleBy e X.env hand) (SP X pins D) X.xe t3) X.xe t2) X.xe t)
    (fun u t air => ?_) PassesOwn.looking).run [] s σ H D (I.toTry _) want
  · refine wpAny_mono bodyRuns (fun fl t q => ?_) (fun e t q => q)
    cases fl with
    | next => obtain ⟨σ1, H1, J, q⟩ := q; exact wpAny_execs_nil ⟨σ1, H1, J.ofTry okX, q⟩
    | brk => obtain ⟨σ1, H1, J, q⟩ := q; exact ⟨σ1, H1, J.ofTry okX, q⟩
    | cont => obtain ⟨σ1, H1, J, q⟩ := q; exact ⟨σ1, H1, J.ofTry okX, q⟩
    | ret u => obtain ⟨v, σ1, H1, J, r, q⟩ := q; exact ⟨v, σ1, H1, J.ofTry okX, r, q⟩
  · -- an exception in the air
    obtain ⟨a, B, sI, pins1, σ1, H1, cls, d, rfl, J1, below, upto, sky, notIn, osE, agE, b, match1, yes, no⟩ := air
    have J : Inv X pins σ1 H1 sI := J1.ofTry okX
    have sky2 : Sky B (X.env :: X.outer) a (Zc cls d) X.env.locals t.heap := by rw [← hst]; exact sky
    show wpAny (model X.prog X.w) X.A (noteFrame (.ref a) X.env) _ _ _
    refine Sky.land Zc.steady frm hfm sky2 fun h2 fly2 up2 => ?_
    have J2 : Inv X pins σ1 H1 { t with heap := h2 } := J.landed below fly2.1 (upto.trans up2) osE agE
    obtain ⟨oe2, fs2, get2, zc2, dat2⟩ := fly2.there
    have noFrame : a ∉ frs (X.env :: X.outer) := fun hm => by
      obtain ⟨_, o2, g2, isFn⟩ := fly2.2.2.1.mem hm
      rw [get2] at g2
      cases g2
      exact isFn _ dat2
    have aL : a ≠ X.env.locals := fun z => noFrame (List.mem_filterMap.mpr ⟨X.env, List.mem_cons_self, by rw [hfm, z]⟩)
    have aF : a ∉ X.fs := fun hm => by
      obtain ⟨e, he, q⟩ := List.mem_filterMap.mp hm
      exact noFrame (List.mem_filterMap.mpr ⟨e, List.mem_cons_of_mem _ he, q⟩)
    -- it is new since the start
    have notThere : sI.heap.get? a = none := by
      cases q : sI.heap.get? a with
      | none => rfl
      | some o =>
        have := below a o q (by rw [hst]; exact noFrame)
        rw [fly2.2.1] at this
        cases this
    have a0 : X.s_0.heap.get? a = none := by
      cases q : X.s_0.heap.get? a with
      | none => rfl
      | some o =>
        obtain ⟨o2, q2⟩ := J.base.there a o q (by rw [hex]; exact List.not_mem_nil)
        rw [notThere] at q2
        cases q2
    have aP : ∀ p ∈ X.pn ++ pins, p.1 ≠ a := fun p hp z => by
      have := (J.pin p hp).1
      rw [z, notThere] at this
      cases this
    have S2 := J2.suite get2 dat2 notIn aL aF
    refine wpAny_handleBy_cons (codeAny_handlers_test ?_) (by intro q; cases q)
    have lookT : PySem.W.Looks (model X.prog X.w) h2 (typeOf (.ref a)) cls := fun A' Q' E' s' k q => wpAny_typeOf_ref (k _ _ get2) (by rw [zc2.1]; exact q)
    have lookM := PySem.W.exm_one (M := model X.prog X.w) (J2.kIn) lookT match1
    have named : ∀ {Q : Value → Shared → Prop} {E : Value → Shared → Prop}, Q c { t with heap := h2 } → wpAny (model X.prog X.w) (X.A.mark (some (.ref a))) (eval (.Name x np) X.env) Q E { t with heap := h2 } := fun {Q E} q => by
      obtain ⟨g1, g2, g3 | ⟨g3, g4, g5⟩⟩ := hc
      · exact ld_glob (X := X.suite a ((a, oe2) :: (X.pn ++ pins))) S2 g1 g3 q g2
      · exact ld_blt (X := X.suite a ((a, oe2) :: (X.pn ++ pins))) S2 g1 g3 g4 q g5 g2
    refine named (lookM.here ?_)
    cases b with
    | true =>
      have yes2 := yes rfl
      refine codeAny_handlers_suite_as ?_
      refine HandSPX.lands_againZ fly2 fun h3 fly3 up3 => ?_
      have J3 : Inv X pins σ1 H1 { t with heap := h3 } := J.landed below fly3.1 ((upto.trans up2).trans up3) osE agE
      obtain ⟨oe3, fs3, get3, zc3, dat3⟩ := fly3.there
      have S3 := J3.suite get3 dat3 notIn aL aF
      refine store_ok (X := X.suite a ((a, oe3) :: (X.pn ++ pins))) (v := .ref a) S3 hN hi (.inl hln) rfl (fun s4 S4 => ?_) (.inr hln)
      have hlen : i < σ1.length := by
        rw [S3.len]
        exact (List.getElem?_eq_some_iff.mp hi).1
      have suiteRuns : PSs (X.suite a ((a, oe3) :: (X.pn ++ pins))) [.Assign [.Name y yp] (.Name n vp) ap] (tAsg (tVar i) (gName j)) :=
        pss_one (ps_set hN hj (.inl hlj) (pe_var hi (.inl hln) hnd hnc) rfl (.inr hlj))
      refine wpAny_mono (suiteRuns.run [] s4 _ H1 { nx := fun σ5 H5 => σ5 = (σ1.set i (some (.ref a))).set j (some (.ref a)) ∧ H5 = H1, rt := fun _ _ => False } S4 ⟨.ref a, List.getElem?_set_self hlen, rfl, rfl⟩) (fun fl s5 q5 => ?_) (fun _ _ z => False.elim z)
      cases fl with
      | next =>
        obtain ⟨σ5, H5, S5, eσ, eH⟩ := q5
        rw [eσ, eH] at S5
        have pin5 := S5.pin (a, oe3) (List.mem_append_left _ List.mem_cons_self)
        have A5 := Inv.adopt (S5.unsuite okX) pin5.1 zc3.1 zc3.2 dat3 notIn a0 aL aP
        exact gone_ok A5 hN hi hln fun s6 J6 => ⟨_, _, J6, yes2 a notIn⟩
      | brk => obtain ⟨_, _, _, z⟩ := q5; exact z.elim
      | cont => obtain ⟨_, _, _, z⟩ := q5; exact z.elim
      | ret u => obtain ⟨_, _, _, _, _, z⟩ := q5; exact z.elim
    | false =>
      show wpAny _ X.A (handleBy (.ref a) X.env []) _ _ _
      refine wpAny_handleBy_nil ?_
      obtain ⟨k1, k2, k3, oe, fs, Tb, oT, tsl, he, hz, hd, h1, hr⟩ := id fly2
      unfold PySem.passOn
      refine wpAny_bind (wpAny_field he hd h1 ?_)
      rw [if_neg (show ¬ ((Value.ref Tb == Value.none) = true) from by simp)]
      have onward : wpAny (model X.prog X.w) X.A (setFlight (.ref a) X.env.frame) (fun _ s4 => wpAny (model X.prog X.w) X.A (throw (.ref a) : Sem Flow) (SP X pins D) X.xe s4) X.xe { t with heap := h2 } := by
        rw [hfm]
        refine HandSPX.setFlight_upZ fly2 fun h4 held up4 => wpAny_throw (tk _ _ ?_)
        exact ⟨a, B, sI, pins, σ1, H1, cls, d, rfl, J, below, (upto.trans up2).trans up4, .inr (.inr (by rw [hst]; exact held)), notIn, osE, agE, no rfl⟩
      first
        | exact wpAny_bind (wpAny_pure (wpAny_bind onward))
        | exact wpAny_bind onward
end
/-- isinstance of such a one -/
def rIsX (K : PySem.W.Frag) : List V → Hp → VK → Prop := fun xs H Q => ∃ (a D : Addr) (od : Option Addr) (c : V) (cv : Value) (b : Bool), xs = [.ref a, c] ∧ H a = some (ExT (.ref D) od a) ∧ (∀ dx, od = some dx → ∃ u f, H dx = some (.xd [(f, u)])) ∧ ExcC K D ∧ (∀ u, RelV c u → u = cv) ∧ PySem.W.kitOne K (.ref D) cv = some b ∧ Q (.bl b) H
theorem call_isX {X : Cx} : CallR X (.builtin "isinstance") (fun xs H Q => rIsi X.K xs H Q ∨ rIsX X.K xs H Q) := by
  intro pins s σ H xs us Q I r h
  rcases h with h | ⟨a, D, od, c, cv, b, rfl, hH, hX, C, hcv, e, q⟩
  · exact call_isi pins s σ H xs us Q I r h
  · obtain ⟨u1, u2, rfl, r1, r2⟩ := vals2 r
    cases (show u1 = Value.ref a from r1)
    have e2 := hcv _ r2
    subst e2
    obtain ⟨⟨oe, fs, g1, g2, g3, g4⟩, _⟩ := I.hok a _ hH
    obtain ⟨o', J⟩ : ∃ o', PySem.W.InstAt s.heap a oe D o' := by
      cases od with
      | none =>
        refine ⟨none, ?_⟩
        obtain ⟨oc, od, oda, osl⟩ := oe
        dsimp only at g2 g3 g4
        subst g2 g3 g4
        exact ⟨g1, rfl, rfl, trivial⟩
      | some dx =>
        obtain ⟨u, f, hd⟩ := hX dx rfl
        have hx : ObjOk X.prog X.w H s.heap dx (.xd [(f, u)]) := I.hok dx _ hd
        obtain ⟨mA, hns, hr⟩ := hx
        obtain ⟨od, ho, hl⟩ := lookIn_ns hns
        refine ⟨some od, g1, g2, by unfold PySem.W.notCls; rw [g4] <;> rfl, by rw [g3]; exact ho⟩
    exact PySem.W.kia_one (PySem.W.kitx_excD C.hg C.hk C.hs C.hd C.ha C.hn C.ht C.hm) I.kIn J e (fun z => nomatch z) fun tk => ⟨.bl b, H, I.kept (t' := tk) fun _ _ z => z, rfl, q⟩
/-- e.f, e an own error that was kept -/
def tAtt (K : PySem.W.Frag) (f : Str) (te : TE) : TE := fun σ H Q => te σ H fun x H1 => ∃ (a C dx : Addr) (v : V), x = .ref a ∧ H1 a = some (ExT (.ref C) (some dx) a) ∧ H1 dx = some (.xd [(f, v)]) ∧ ExcC K C ∧ PySem.W.findIn K (.ref C) f = some none ∧ Q v H1
theorem pe_att {X : Cx} {e : Expr} {te : TE} {f : Str} {pos : Pos} (he : PE X e te) (hb : attributeBase e f X.env (eval e X.env) = eval e X.env) : PE X (.Attribute e f pos) (tAtt X.K f te) := by
  refine ⟨fun pins s σ H Q I h => ?_⟩
  refine attr_of hb (thn (he.run pins s σ H _ I h) fun u s1 hh => ?_)
  obtain ⟨x, H1, I1, rx, a, C, dx, v, ex, ea, ed, T, hno, q⟩ := hh
  subst ex
  obtain rfl : u = Value.ref a := rx
  obtain ⟨⟨oe, fs, g1, g2, g3, g4⟩, _⟩ := I1.hok a _ ea
  have hx : ObjOk X.prog X.w H1 s1.heap dx (.xd [(f, v)]) := I1.hok dx _ ed
  obtain ⟨mA, hns, hr⟩ := hx
  obtain ⟨od, ho, hl⟩ := lookIn_ns hns
  have l : List.lookup f [(f, v)] = some v := by simp [List.lookup]
  obtain ⟨u, hu, ru⟩ := RelO.some_of (v := v) (o := mA f) (by rw [← l]; exact hr f)
  have J : PySem.W.InstAt s1.heap a oe C (some od) := ⟨g1, g2, by unfold PySem.W.notCls; rw [g4] <;> rfl, by rw [g3]; exact ho⟩
  exact PySem.HandSPX.exc_get I1.kIn J T.hg T.hk T.hs (PySem.W.findObj_own T.hd hno rfl (by rw [hl, hu])) (handed_of ru) ⟨v, H1, I1.tok _, ru, q⟩
end Dp

end
section
set_option Elab.async false
set_option linter.all false
set_option maxRecDepth 100000
set_option maxHeartbeats 4000000
/-! Xl: what a caught error keeps, taken out of it in the suite. -/
namespace Dp
open PySem PySem.Spec PyProof.Rows L2
/-- e.f, e an error whose suite runs -/
def tAttP (K : PySem.W.Frag) (a C dx : Addr) (f : Str) (te : TE) : TE := fun σ H Q => te σ H fun x H1 => ∃ v : V, x = .ref a ∧ H1 dx = some (.xd [(f, v)]) ∧ ExcC K C ∧ PySem.W.findIn K (.ref C) f = some none ∧ Q v H1
theorem pe_attP {X : Cx} {e : Expr} {te : TE} {f : Str} {pos : Pos} {a C dx : Addr} {oe : Obj} {fs : Array Value} (he : PE X e te) (hp : (a, oe) ∈ X.pn) (g2 : oe.cls = .ref C) (g3 : oe.dict = some dx) (g4 : oe.data = .fields fs) (hb : attributeBase e f X.env (eval e X.env) = eval e X.env) : PE X (.Attribute e f pos) (tAttP X.K a C dx f te) := by
  refine ⟨fun pins s σ H Q I h => ?_⟩
  refine attr_of hb (thn (he.run pins s σ H _ I h) fun u s1 hh => ?_)
  obtain ⟨x, H1, I1, rx, v, ex, ed, T, hno, q⟩ := hh
  subst ex
  obtain rfl : u = Value.ref a := rx
  have g1 := (I1.pin (a, oe) (List.mem_append_left _ hp)).1
  have hx : ObjOk X.prog X.w H1 s1.heap dx (.xd [(f, v)]) := I1.hok dx _ ed
  obtain ⟨mA, hns, hr⟩ := hx
  obtain ⟨od, ho, hl⟩ := lookIn_ns hns
  have l : List.lookup f [(f, v)] = some v := by simp [List.lookup]
  obtain ⟨u, hu, ru⟩ := RelO.some_of (v := v) (o := mA f) (by rw [← l]; exact hr f)
  have J : PySem.W.InstAt s1.heap a oe C (some od) := ⟨g1, g2, by unfold PySem.W.notCls; rw [g4] <;> rfl, by rw [g3]; exact ho⟩
  exact PySem.HandSPX.exc_get I1.kIn J T.hg T.hk T.hs (PySem.W.findObj_own T.hd hno rfl (by rw [hl, hu])) (handed_of ru) ⟨v, H1, I1.tok _, ru, q⟩
/-- what «try: .. except x as n: y = n.f» wishes of what the body raises: n's slot i, y's slot j -/
def wKeepF (K : PySem.W.Frag) (c : Value) (i j : Nat) (f : Str) (Wout : WX) (Dn : Ends) : WX := fun cls d σ H => ∃ b, PySem.W.exmOne K cls c = some b ∧
  (b = true → ∃ (C dx : Addr) (v : V), cls = .ref C ∧ d = some dx ∧ H dx = some (.xd [(f, v)]) ∧ ExcC K C ∧ PySem.W.findIn K (.ref C) f = some none ∧ ∀ a, H a = none → Dn.nx (((σ.set i (some (.ref a))).set j (some v)).set i none) H) ∧ (b = false → Wout cls d σ H)
section
variable {X : Cx} {x n y f : Str} {c : Value} {i j : Nat} {body : List Stmt} {np yp vp fp ap pos pos' : Pos} {tb : WX → TS} {Wout : WX}
theorem ps_try_keepF (hst : X.stack = X.env :: X.outer) (hfm : X.env.frame = some X.env.locals) (hex : X.ex = []) (hN : X.N.Nodup) (hi : X.N[i]? = some n) (hln : X.env.kindOf n = some .local) (hj : X.N[j]? = some y) (hlj : X.env.kindOf y = some .local) (hc : Names X x c) (tk : Takes X Wout)
    (hnd : (n == ("__debug__" : Str)) = false) (hnc : (n == ("__classdict__" : Str)) = false)
    (hb : ∀ (W : WX) (pn : List (Addr × Obj)) (xe : Value → Shared → Prop), Takes (X.tr pn xe) W → PassesOwn (model X.prog X.w) X.A X.env xe → PSs (X.tr pn xe) body (tb W)) :
    PS X (.Try body [.ExceptHandler (some (.Name x np)) (some n) [.Assign [.Name y yp] (.Attribute (.Name n vp) f fp) ap] pos'] [] [] pos) (fun D σ H => tb (wKeepF X.K c i j f Wout D) D σ H) := by
  refine ⟨fun pins s σ H D I want => ?_⟩
  have okX := I.ok
  have frm : X.A.frames = some (X.env :: X.outer) := by rw [okX.frames, hst]
  let hand := [ExceptHandler.ExceptHandler (some (.Name x np)) (some n) [.Assign [.Name y yp] (.Attribute (.Name n vp) f fp) ap] pos']
  refine wpAny_Try_except ?_
  have bodyRuns := (hb (wKeepF X.K c i j f Wout D) (X.pn ++ pins)
    (fun e t => wpAny (model X.prog X.w) X.A (noteFrame e X.env)
      (fun _ t2 => wpAny (model X.prog X.w) X.A (setFlight e none)
        (fun _ t3 => wpAny (model X.prog X.w) X.A (handleBy e X.env hand) (SP X pins D) X.xe t3) X.xe t2) X.xe t)
    (fun u t air => ?_) PassesOwn.looking).run [] s σ H D (I.toTry _) want
  · refine wpAny_mono bodyRuns (fun fl t q => ?_) (fun e t q => q)
    cases fl with
    | next => obtain ⟨σ1, H1, J, q⟩ := q; exact wpAny_execs_nil ⟨σ1, H1, J.ofTry okX, q⟩
    | brk => obtain ⟨σ1, H1, J, q⟩ := q; exact ⟨σ1, H1, J.ofTry okX, q⟩
    | cont => obtain ⟨σ1, H1, J, q⟩ := q; exact ⟨σ1, H1, J.ofTry okX, q⟩
    | ret u => obtain ⟨v, σ1, H1, J, r, q⟩ := q; exact ⟨v, σ1, H1, J.ofTry okX, r, q⟩
  · -- an exception in the air
    obtain ⟨a, B, sI, pins1, σ1, H1, cls, d, rfl, J1, below, upto, sky, notIn, osE, agE, b, match1, yes, no⟩ := air
    have J : Inv X pins σ1 H1 sI := J1.ofTry okX
    have sky2 : Sky B (X.env :: X.outer) a (Zc cls d) X.env.locals t.heap := by rw [← hst]; exact sky
    show wpAny (model X.prog X.w) X.A (noteFrame (.ref a) X.env) _ _ _
    refine Sky.land Zc.steady frm hfm sky2 fun h2 fly2 up2 => ?_
    have J2 : Inv X pins σ1 H1 { t with heap := h2 } := J.landed below fly2.1 (upto.trans up2) osE agE
    obtain ⟨oe2, fs2, get2, zc2, dat2⟩ := fly2.there
    have noFrame : a ∉ frs (X.env :: X.outer) := fun hm => by
      obtain ⟨_, o2, g2, isFn⟩ := fly2.2.2.1.mem hm
      rw [get2] at g2
      cases g2
      exact isFn _ dat2
    have aL : a ≠ X.env.locals := fun z => noFrame (List.mem_filterMap.mpr ⟨X.env, List.mem_cons_self, by rw [hfm, z]⟩)
    have aF : a ∉ X.fs := fun hm => by
      obtain ⟨e, he, q⟩ := List.mem_filterMap.mp hm
      exact noFrame (List.mem_filterMap.mpr ⟨e, List.mem_cons_of_mem _ he, q⟩)
    -- it is new since the start
    have notThere : sI.heap.get? a = none := by
      cases q : sI.heap.get? a with
      | none => rfl
      | some o =>
        have := below a o q (by rw [hst]; exact noFrame)
        rw [fly2.2.1] at this
        cases this
    have a0 : X.s_0.heap.get? a = none := by
      cases q : X.s_0.heap.get? a with
      | none => rfl
      | some o =>
        obtain ⟨o2, q2⟩ := J.base.there a o q (by rw [hex]; exact List.not_mem_nil)
        rw [notThere] at q2
        cases q2
    have aP : ∀ p ∈ X.pn ++ pins, p.1 ≠ a := fun p hp z => by
      have := (J.pin p hp).1
      rw [z, notThere] at this
      cases this
    have S2 := J2.suite get2 dat2 notIn aL aF
    refine wpAny_handleBy_cons (codeAny_handlers_test ?_) (by intro q; cases q)
    have lookT : PySem.W.Looks (model X.prog X.w) h2 (typeOf (.ref a)) cls := fun A' Q' E' s' k q => wpAny_typeOf_ref (k _ _ get2) (by rw [zc2.1]; exact q)
    have lookM := PySem.W.exm_one (M := model X.prog X.w) (J2.kIn) lookT match1
    have named : ∀ {Q : Value → Shared → Prop} {E : Value → Shared → Prop}, Q c { t with heap := h2 } → wpAny (model X.prog X.w) (X.A.mark (some (.ref a))) (eval (.Name x np) X.env) Q E { t with heap := h2 } := fun {Q E} q => by
      obtain ⟨g1, g2, g3 | ⟨g3, g4, g5⟩⟩ := hc
      · exact ld_glob (X := X.suite a ((a, oe2) :: (X.pn ++ pins))) S2 g1 g3 q g2
      · exact ld_blt (X := X.suite a ((a, oe2) :: (X.pn ++ pins))) S2 g1 g3 g4 q g5 g2
    refine named (lookM.here ?_)
    cases b with
    | true =>
      have yes2 := yes rfl
      refine codeAny_handlers_suite_as ?_
      refine HandSPX.lands_againZ fly2 fun h3 fly3 up3 => ?_
      have J3 : Inv X pins σ1 H1 { t with heap := h3 } := J.landed below fly3.1 ((upto.trans up2).trans up3) osE agE
      obtain ⟨oe3, fs3, get3, zc3, dat3⟩ := fly3.there
      have S3 := J3.suite get3 dat3 notIn aL aF
      refine store_ok (X := X.suite a ((a, oe3) :: (X.pn ++ pins))) (v := .ref a) S3 hN hi (.inl hln) rfl (fun s4 S4 => ?_) (.inr hln)
      have hlen : i < σ1.length := by
        rw [S3.len]
        exact (List.getElem?_eq_some_iff.mp hi).1
      obtain ⟨Cc, dx, vv, ecls, ed, hdx, TC, hno, yes3⟩ := yes2
      have suiteRuns : PSs (X.suite a ((a, oe3) :: (X.pn ++ pins))) [.Assign [.Name y yp] (.Attribute (.Name n vp) f fp) ap] (tAsg (tAttP X.K a Cc dx f (tVar i)) (gName j)) :=
        pss_one (ps_set hN hj (.inl hlj) (pe_attP (pe_var hi (.inl hln) hnd hnc) List.mem_cons_self (zc3.1.trans ecls) (zc3.2.trans ed) dat3 rfl) rfl (.inr hlj))
      refine wpAny_mono (suiteRuns.run [] s4 _ H1 { nx := fun σ5 H5 => σ5 = (σ1.set i (some (.ref a))).set j (some vv) ∧ H5 = H1, rt := fun _ _ => False } S4 ⟨.ref a, List.getElem?_set_self hlen, vv, rfl, hdx, TC, hno, rfl, rfl⟩) (fun fl s5 q5 => ?_) (fun _ _ z => False.elim z)
      cases fl with
      | next =>
        obtain ⟨σ5, H5, S5, eσ, eH⟩ := q5
        rw [eσ, eH] at S5
        exact gone_ok (S5.unsuite okX) hN hi hln fun s6 J6 => ⟨_, _, J6, yes3 a notIn⟩
      | brk => obtain ⟨_, _, _, z⟩ := q5; exact z.elim
      | cont => obtain ⟨_, _, _, z⟩ := q5; exact z.elim
      | ret u => obtain ⟨_, _, _, _, _, z⟩ := q5; exact z.elim
    | false =>
      show wpAny _ X.A (handleBy (.ref a) X.env []) _ _ _
      refine wpAny_handleBy_nil ?_
      obtain ⟨k1, k2, k3, oe, fs, Tb, oT, tsl, he, hz, hd, h1, hr⟩ := id fly2
      unfold PySem.passOn
      refine wpAny_bind (wpAny_field he hd h1 ?_)
      rw [if_neg (show ¬ ((Value.ref Tb == Value.none) = true) from by simp)]
      have onward : wpAny (model X.prog X.w) X.A (setFlight (.ref a) X.env.frame) (fun _ s4 => wpAny (model X.prog X.w) X.A (throw (.ref a) : Sem Flow) (SP X pins D) X.xe s4) X.xe { t with heap := h2 } := by
        rw [hfm]
        refine HandSPX.setFlight_upZ fly2 fun h4 held up4 => wpAny_throw (tk _ _ ?_)
        exact ⟨a, B, sI, pins, σ1, H1, cls, d, rfl, J, below, (upto.trans up2).trans up4, .inr (.inr (by rw [hst]; exact held)), notIn, osE, agE, no rfl⟩
      first
        | exact wpAny_bind (wpAny_pure (wpAny_bind onward))
        | exact wpAny_bind onward
end
end Dp

end
section
set_option Elab.async false
set_option linter.all false
set_option maxRecDepth 100000
set_option maxHeartbeats 8000000
/-! Yt: several clauses, with names or without; the caught error is tracked within the suite. -/
namespace Dp
open PySem PySem.Spec PyProof.Rows L2
/-- a clause's name, bound and gone -/
def begG (oi : Option Nat) (a : Addr) (σ : L2.St) : L2.St := match oi with
  | none => σ
  | some i => σ.set i (some (.ref a))
def gonG (oi : Option Nat) (σ : L2.St) : L2.St := match oi with
  | none => σ
  | some i => σ.set i none
def endG (D : Ends) (oi : Option Nat) : Ends := { nx := fun σ H => D.nx (gonG oi σ) H, rt := D.rt, bk := fun σ H => D.bk (gonG oi σ) H, ct := fun σ H => D.ct (gonG oi σ) H }
/-- what the clauses wish of an error of the body -/
def wG (K : PySem.W.Frag) (Wout : WX) (D : Ends) : List (Value × Option Nat × TS) → WX
  | [] => Wout
  | (c, oi, ts) :: r => fun cls d σ H => ∃ b, PySem.W.exmOne K cls c = some b ∧ (b = true → ∀ a, H a = none → ts (endG D oi) (begG oi a σ) (upd H a (ExT cls d a))) ∧ (b = false → wG K Wout D r cls d σ H)
inductive HdG (X : Cx) : List ExceptHandler → List (Value × Option Nat × TS) → Prop
  | nil : HdG X [] []
  | cons {x : Str} {c : Value} {on : Option Str} {oi : Option Nat} {ts : TS} {s0 : Stmt} {suite : List Stmt} {np ep : Pos} {hds : List ExceptHandler} {l : List (Value × Option Nat × TS)} (hc : Names X x c)
      (hn : (on = none ∧ oi = none) ∨ ∃ n i, on = some n ∧ oi = some i ∧ X.N[i]? = some n ∧ X.env.kindOf n = some .local)
      (hsu : ∀ (a : Addr) (pn : List (Addr × Obj)), PSs (X.suite a pn) (s0 :: suite) ts) (rest : HdG X hds l) : HdG X (.ExceptHandler (some (.Name x np)) on (s0 :: suite) ep :: hds) ((c, oi, ts) :: l)
section
variable {X : Cx} {body : List Stmt} {h0 : ExceptHandler} {hds : List ExceptHandler} {l : List (Value × Option Nat × TS)} {pos : Pos} {tb : WX → TS} {Wout : WX}
theorem ps_tryG (hst : X.stack = X.env :: X.outer) (hfm : X.env.frame = some X.env.locals) (hex : X.ex = []) (hN : X.N.Nodup) (tk : Takes X Wout)
    (hb : ∀ (W : WX) (pn : List (Addr × Obj)) (xe : Value → Shared → Prop), Takes (X.tr pn xe) W → PassesOwn (model X.prog X.w) X.A X.env xe → PSs (X.tr pn xe) body (tb W))
    (hh : HdG X (h0 :: hds) l) : PS X (.Try body (h0 :: hds) [] [] pos) (fun D σ H => tb (wG X.K Wout D l) D σ H) := by
  refine ⟨fun pins s σ H D I want => ?_⟩
  have okX := I.ok
  have frm : X.A.frames = some (X.env :: X.outer) := by rw [okX.frames, hst]
  refine wpAny_Try_except ?_
  have bodyRuns := (hb (wG X.K Wout D l) (X.pn ++ pins)
    (fun e t => wpAny (model X.prog X.w) X.A (noteFrame e X.env)
      (fun _ t2 => wpAny (model X.prog X.w) X.A (setFlight e none)
        (fun _ t3 => wpAny (model X.prog X.w) X.A (handleBy e X.env (h0 :: hds)) (SP X pins D) X.xe t3) X.xe t2) X.xe t)
    (fun u t air => ?_) PassesOwn.looking).run [] s σ H D (I.toTry _) want
  · refine wpAny_mono bodyRuns (fun fl t q => ?_) (fun e t q => q)
    cases fl with
    | next => obtain ⟨σ1, H1, J, q⟩ := q; exact wpAny_execs_nil ⟨σ1, H1, J.ofTry okX, q⟩
    | brk => obtain ⟨σ1, H1, J, q⟩ := q; exact ⟨σ1, H1, J.ofTry okX, q⟩
    | cont => obtain ⟨σ1, H1, J, q⟩ := q; exact ⟨σ1, H1, J.ofTry okX, q⟩
    | ret u => obtain ⟨v, σ1, H1, J, r, q⟩ := q; exact ⟨v, σ1, H1, J.ofTry okX, r, q⟩
  · -- an exception in the air
    obtain ⟨a, B, sI, pins1, σ1, H1, cls, d, rfl, J1, below, upto, sky, notIn, osE, agE, want1⟩ := air
    have J : Inv X pins σ1 H1 sI := J1.ofTry okX
    have sky2 : Sky B (X.env :: X.outer) a (Zc cls d) X.env.locals t.heap := by rw [← hst]; exact sky
    show wpAny (model X.prog X.w) X.A (noteFrame (.ref a) X.env) _ _ _
    refine Sky.land Zc.steady frm hfm sky2 fun h2 fly2 up2 => ?_
    have J2 : Inv X pins σ1 H1 { t with heap := h2 } := J.landed below fly2.1 (upto.trans up2) osE agE
    obtain ⟨oe2, fs2, get2, zc2, dat2⟩ := fly2.there
    have noFrame : a ∉ frs (X.env :: X.outer) := fun hm => by
      obtain ⟨_, o2, g2, isFn⟩ := fly2.2.2.1.mem hm
      rw [get2] at g2
      cases g2
      exact isFn _ dat2
    have aL : a ≠ X.env.locals := fun z => noFrame (List.mem_filterMap.mpr ⟨X.env, List.mem_cons_self, by rw [hfm, z]⟩)
    have aF : a ∉ X.fs := fun hm => by
      obtain ⟨e, he, q⟩ := List.mem_filterMap.mp hm
      exact noFrame (List.mem_filterMap.mpr ⟨e, List.mem_cons_of_mem _ he, q⟩)
    have notThere : sI.heap.get? a = none := by
      cases q : sI.heap.get? a with
      | none => rfl
      | some o =>
        have := below a o q (by rw [hst]; exact noFrame)
        rw [fly2.2.1] at this
        cases this
    have a0 : X.s_0.heap.get? a = none := by
      cases q : X.s_0.heap.get? a with
      | none => rfl
      | some o =>
        obtain ⟨o2, q2⟩ := J.base.there a o q (by rw [hex]; exact List.not_mem_nil)
        rw [notThere] at q2
        cases q2
    have aP : ∀ p ∈ X.pn ++ pins, p.1 ≠ a := fun p hp z => by
      have := (J.pin p hp).1
      rw [z, notThere] at this
      cases this
    have S2 := J2.suite get2 dat2 notIn aL aF
    -- the suite: the error is tracked, then it runs
    have suiteOf : ∀ {t4 : Shared} {σ4 : L2.St} {oe4 : Obj} {fs4 : Array Value} {oi : Option Nat} {ts : TS} {sts : List Stmt} {Q : Flow → Shared → Prop} {E : Value → Shared → Prop}, Inv (X.suite a ((a, oe4) :: (X.pn ++ pins))) [] σ4 H1 t4 → oe4.cls = cls → oe4.dict = d → oe4.data = .fields fs4 → PSs (X.suite a (X.pn ++ pins)) sts ts → ts (endG D oi) σ4 (upd H1 a (ExT cls d a)) →
        (∀ fl t5, SP X pins (endG D oi) fl t5 → Q fl t5) → wpAny (model X.prog X.w) (X.A.mark (some (.ref a))) (execs sts X.env) Q E t4 := fun {t4 σ4 oe4 fs4 oi ts sts Q E} S4 e1 e2 e3 hs wt hq => by
      have at4 := S4.pin (a, oe4) (List.mem_append_left _ List.mem_cons_self)
      have S5 : Inv (X.suite a (X.pn ++ pins)) [] σ4 H1 t4 := ⟨okX.suite _ _, S4.os, S4.bare, S4.base, S4.loc, S4.cell, S4.free, S4.freeC, fun p hp => S4.pin p (by
        rw [List.append_nil] at hp ⊢
        exact List.mem_cons_of_mem _ hp), S4.hok, S4.len⟩
      have S6 := Inv.adopt S5 at4.1 e1 e2 e3 notIn a0 aL (fun p hp => by rw [List.append_nil] at hp; exact aP p hp)
      have home : ∀ {σ7 : L2.St} {H7 : Hp} {t7 : Shared}, Inv (X.suite a (X.pn ++ pins)) [] σ7 H7 t7 → Inv X pins σ7 H7 t7 := fun {σ7 H7 t7} S7 =>
        ⟨okX, S7.os, S7.bare, S7.base, S7.loc, S7.cell, S7.free, S7.freeC, fun p hp => S7.pin p (by rw [List.append_nil]; exact hp), S7.hok, S7.len⟩
      refine wpAny_mono (hs.run [] t4 σ4 _ (endG D oi) S6 wt) (fun fl t5 q5 => hq fl t5 ?_) (fun _ _ z => False.elim z)
      cases fl with
      | next => obtain ⟨σ5, H5, S7, q7⟩ := q5; exact ⟨σ5, H5, home S7, q7⟩
      | brk => obtain ⟨σ5, H5, S7, q7⟩ := q5; exact ⟨σ5, H5, home S7, q7⟩
      | cont => obtain ⟨σ5, H5, S7, q7⟩ := q5; exact ⟨σ5, H5, home S7, q7⟩
      | ret u => obtain ⟨v, σ5, H5, S7, r7, q7⟩ := q5; exact ⟨v, σ5, H5, home S7, r7, q7⟩
    have go : ∀ {hs' : List ExceptHandler} {l' : List (Value × Option Nat × TS)}, HdG X hs' l' → wG X.K Wout D l' cls d σ1 H1 →
        wpAny (model X.prog X.w) X.A (handleBy (.ref a) X.env hs') (SP X pins D) X.xe { t with heap := h2 } := by
      intro hs' l' hk
      induction hk with
      | nil =>
        intro wt
        refine wpAny_handleBy_nil ?_
        obtain ⟨k1, k2, k3, oe, fs, Tb, oT, tsl, he, hz, hd, h1, hr⟩ := id fly2
        unfold PySem.passOn
        refine wpAny_bind (wpAny_field he hd h1 ?_)
        rw [if_neg (show ¬ ((Value.ref Tb == Value.none) = true) from by simp)]
        have onward : wpAny (model X.prog X.w) X.A (setFlight (.ref a) X.env.frame) (fun _ s4 => wpAny (model X.prog X.w) X.A (throw (.ref a) : Sem Flow) (SP X pins D) X.xe s4) X.xe { t with heap := h2 } := by
          rw [hfm]
          refine HandSPX.setFlight_upZ fly2 fun h4 held up4 => wpAny_throw (tk _ _ ?_)
          exact ⟨a, B, sI, pins, σ1, H1, cls, d, rfl, J, below, (upto.trans up2).trans up4, .inr (.inr (by rw [hst]; exact held)), notIn, osE, agE, wt⟩
        first
          | exact wpAny_bind (wpAny_pure (wpAny_bind onward))
          | exact wpAny_bind onward
      | @cons x c on oi ts s0 suite np ep hds2 l2 hc hn hsu rest ih =>
        intro wt
        obtain ⟨b, match1, yes, no⟩ := wt
        refine wpAny_handleBy_cons (codeAny_handlers_test ?_) (by intro q; cases q)
        have lookT : PySem.W.Looks (model X.prog X.w) h2 (typeOf (.ref a)) cls := fun A' Q' E' s' k q => wpAny_typeOf_ref (k _ _ get2) (by rw [zc2.1]; exact q)
        have lookM := PySem.W.exm_one (M := model X.prog X.w) (J2.kIn) lookT match1
        have named : ∀ {Q : Value → Shared → Prop} {E : Value → Shared → Prop}, Q c { t with heap := h2 } → wpAny (model X.prog X.w) (X.A.mark (some (.ref a))) (eval (.Name x np) X.env) Q E { t with heap := h2 } := fun {Q E} q => by
          obtain ⟨g1, g2, g3 | ⟨g3, g4, g5⟩⟩ := hc
          · exact ld_glob (X := X.suite a ((a, oe2) :: (X.pn ++ pins))) S2 g1 g3 q g2
          · exact ld_blt (X := X.suite a ((a, oe2) :: (X.pn ++ pins))) S2 g1 g3 g4 q g5 g2
        refine named (lookM.here ?_)
        cases b with
        | false =>
          show wpAny _ X.A (handleBy (.ref a) X.env hds2) _ _ _
          exact ih (no rfl)
        | true =>
          have yes2 := yes rfl a notIn
          rcases hn with ⟨rfl, rfl⟩ | ⟨n, i, rfl, rfl, hi, hln⟩
          · refine codeAny_handlers_suite ?_
            refine HandSPX.lands_againZ fly2 fun h3 fly3 up3 => ?_
            have J3 : Inv X pins σ1 H1 { t with heap := h3 } := J.landed below fly3.1 ((upto.trans up2).trans up3) osE agE
            obtain ⟨oe3, fs3, get3, zc3, dat3⟩ := fly3.there
            have S3 := J3.suite get3 dat3 notIn aL aF
            exact suiteOf (oi := none) S3 zc3.1 zc3.2 dat3 (hsu a _) yes2 fun fl t5 q5 => by
              cases fl with
              | next => exact q5
              | brk => exact q5
              | cont => exact q5
              | ret u => exact q5
          · refine codeAny_handlers_suite_as ?_
            refine HandSPX.lands_againZ fly2 fun h3 fly3 up3 => ?_
            have J3 : Inv X pins σ1 H1 { t with heap := h3 } := J.landed below fly3.1 ((upto.trans up2).trans up3) osE agE
            obtain ⟨oe3, fs3, get3, zc3, dat3⟩ := fly3.there
            have S3 := J3.suite get3 dat3 notIn aL aF
            refine store_ok (X := X.suite a ((a, oe3) :: (X.pn ++ pins))) (v := .ref a) S3 hN hi (.inl hln) rfl (fun s4 S4 => ?_) (.inr hln)
            refine suiteOf (oi := some i) S4 zc3.1 zc3.2 dat3 (hsu a _) yes2 fun fl t5 q5 => ?_
            cases fl with
            | next =>
              obtain ⟨σ5, H5, J5, q6⟩ := q5
              exact gone_ok J5 hN hi hln fun s6 J6 => ⟨_, _, J6, q6⟩
            | brk =>
              obtain ⟨σ5, H5, J5, q6⟩ := q5
              exact gone_ok J5 hN hi hln fun s6 J6 => ⟨_, _, J6, q6⟩
            | cont =>
              obtain ⟨σ5, H5, J5, q6⟩ := q5
              exact gone_ok J5 hN hi hln fun s6 J6 => ⟨_, _, J6, q6⟩
            | ret u =>
              obtain ⟨v, σ5, H5, J5, r5, q6⟩ := q5
              exact gone_ok J5 hN hi hln fun s6 J6 => ⟨_, _, _, J6, r5, q6⟩
    exact go hh want1
end
end Dp

end
section
set_option Elab.async false
set_option linter.all false
set_option maxRecDepth 100000
set_option maxHeartbeats 8000000
/-! Yc: objects made, their methods called; calls within a suite; errors without a context. -/
namespace Dp
open PySem PySem.Spec PyProof.Rows L2

/-! ### which errors leave a def -/
/-- nn: they have no context -/
def TK (nn : Bool) (X : Cx) (W : WX) : Prop := match nn with
  | false => L2.Takes X W
  | true => L2N.Takes X W
def CXb (nn : Bool) (P : Program) (w : World) : CXT := match nn with
  | false => L2.CX P w
  | true => L2N.CX P w
section
variable {X : Cx} {W : WX} {nn : Bool}
theorem tk_pass (tk : TK nn X W) (σ : L2.St) : PassesAt (CXb nn X.prog X.w) X σ (WE W σ) := by
  cases nn with
  | false => exact L2.passAt tk σ
  | true => exact L2N.passAt tk σ
theorem tk_none : TK nn X (fun _ _ _ _ => False) := by
  cases nn with
  | false => exact fun _ _ ⟨_, _, _, _, _, _, _, _, _, _, _, _, _, _, _, _, z⟩ => z.elim
  | true => exact fun _ _ ⟨_, _, _, _, _, _, _, _, _, _, _, _, _, _, _, _, z⟩ => z.elim
theorem tk_of {E : XK} (hs : X.stack = X.env :: X.outer) (hf : X.env.frame = some X.env.locals) (hex : X.ex = []) {E₁ : Value → Shared → Prop}
    (hx : X.xe = fun e s' => wpAny (model X.prog X.w) X.A (leaving X.env e) (fun _ s'' => CXb nn X.prog X.w X.outer X.H_0 X.s_0 E e s'') E₁ s') : TK nn X (fun cls d _ H => E cls d H) := by
  cases nn with
  | false => exact L2.takes_of hs hf hex hx
  | true => exact L2N.takes_of hs hf hex hx
/-- raise C('..') -/
theorem ps_raiseB {x m : Str} {j : _} {C : Addr} {bmB : List Value} {B newId initId : String} {p p2 pos pos' : Pos} (hc : X.calm = true) (tk : TK nn X W) (F : ExcBaseFacts B newId initId bmB) (q : PySem.W.excIn X.K C bmB newId = true) (gC : X.mg x = some (.ref C)) (kC : PySem.W.keepIn X.K (.ref C) = true) (r : Raises X (.ref C)) (hg : Gl X x)
    (hdb : (x == ("__debug__" : Str)) = false) : PS X (.Raise (some (.Call (.Name x p) [.Constant (.str m) j p2] [] pos)) none pos') (fun _ σ H => W (.ref C) none σ H) := by
  cases nn with
  | false => exact L2.ps_raise hc tk (L2.pmk_own F q gC kC r hg hdb)
  | true => exact L2N.ps_raise hc tk (L2N.pmk_own F q gC kC r hg hdb)
end

/-! ### raise .. from None, in an except suite -/
section
variable {X : Cx} {C : Addr} {bmB : List Value} {B newId initId : String}
theorem pmk_own5 {x m : Str} {j : _} {p p2 pos : Pos} (F : ExcBaseFacts B newId initId bmB) (q : PySem.W.excIn X.K C bmB newId = true) (gC : X.mg x = some (.ref C)) (kC : PySem.W.keepIn X.K (.ref C) = true) (r : Raises X (.ref C)) (hg : Gl X x)
    (hdb : (x == ("__debug__" : Str)) = false) : L2H.PMk5 X (.Call (.Name x p) [.Constant (.str m) j p2] [] pos) (fun _ H Q => Q (.ref C) none H) := by
  intro pins st σ H Q I want
  refine wpAny_Call_Name_kw (ld_glob I hg gC ?_ hdb)
  have text : PA X [.Constant (.str m) j p2] (tCons (tC (.str m)) tNil) := pa_cons pe_str pa_nil
  refine PySem.W.callWith_K (h₀ := X.base) I.ok.mod.kin kC (thn (text.run pos pins st σ H (fun vs H1 => vs = [V.str m] ∧ H = H1) I ⟨rfl, rfl⟩) fun us st1 hh => ?_)
  obtain ⟨vs, H1, J, rv, rfl, rfl⟩ := hh
  refine ⟨J.kIn, ?_⟩
  cases rv with
  | cons ru rn =>
    rename_i u rest
    cases rn
    show wpAny _ _ (call (.ref C) [u]) _ _ _
    obtain ⟨bm, N, nm, qn, bs, hdct, sn, sub, ab, col, dd, k0, k1, k2, k3, k5, mN, hC, hN, hni, TT⟩ := exc_obj J.kIn q
    exact wpAny_call_exc_subT F TT hC hN hni (fun h' e made => L2H.mk_of5 J made r want (J.hok.gone made.new)) (by show 1 ≤ sizeLine; rw [sizeLine_eq]; omega)
end

/-! ### calls within a suite: nothing is raised -/
structure FnQ (P : Program) (w : World) (K : PySem.W.Frag) (mg : Str → Option Value) (base : Heap) (k : Nat) (f : Addr) (fd : FuncData) (ps : List Str) (sp : Sp) : Prop where
  len : ∀ vs H Q E, sp vs H Q E → vs.length = ps.length
  run : ∀ (A : Around) (outer : List Env) (s : Shared) (H : Hp) (args : Args) (us : List Value) (vs : List V) (Q : VK), Rm k A → Env0 P w K mg base A outer s H → BindsTo s fd args (ps.zip us) → Vals vs us → sp vs H Q (fun _ _ _ => False) →
    codeAny (model P w) A (.call (.ref f) args) (CR (fun _ _ _ _ _ _ => False) outer P w H s Q (fun _ _ _ => False)) s
/-- the context of such a body -/
def cxQ (P : Program) (w : World) (K : PySem.W.Frag) (mg : Str → Option Value) (base : Heap) (N : List Str) (qual : Str) (scope : Scope) (f : Addr) (cd : Value) (A : Around) (outer : List Env) (s : Shared) (H : Hp) : Cx :=
  { cxOf (fun _ _ _ _ _ _ => False) P w K mg base N qual scope f cd A outer s H (fun _ _ _ => False) with calm := false, xe := fun _ _ => False }
theorem startQ {P : Program} {w : World} {K : PySem.W.Frag} {mg : Str → Option Value} {base : Heap} {N ps : List Str} {qual : Str} {scope : Scope} {f : Addr} {cd : Value} {A : Around} {outer : List Env} {s s1 : Shared} {H : Hp} {us : List Value} {vs : List V}
    (S : FnScope N ps scope) (e0 : Env0 P w K mg base A outer s H) (hl : vs.length = ps.length) (r : Vals vs us)
    (x : InCallC s s.heap.objs.size (bindL (envOfC qual scope s.heap.objs.size f cd).kindOf (ps.zip us) fun _ => none) (cellsFrom (s.heap.objs.size + 1) scope.names []) (bindC (envOfC qual scope s.heap.objs.size f cd).kindOf (ps.zip us) fun _ => none) s1) :
    Inv (cxQ P w K mg base N qual scope f cd A outer s H) [] (L2.start N vs) H s1 := by
  have J := inv_start (CX := fun _ _ _ _ _ _ => False) (E := fun _ _ _ => False) (A := { A with handled := none }) (cd := cd) (f := f) (qual := qual) S rfl ⟨e0.frames, e0.mod, e0.bs, e0.bsz, e0.funs, e0.frf, e0.hok, e0.bare⟩ hl r x
  have o := J.ok
  exact ⟨⟨o.mod, o.kind, o.glob, o.blt, o.above, o.inj, o.has, o.cab, (fun z => Bool.noConfusion (show false = true from z)), Around.frames_deeper e0.frames, o.stk, o.exf, o.bs, o.bsz, o.noex, o.exfs, o.funs, o.frf⟩,
    J.os, J.bare, J.base, J.loc, J.cell, J.free, J.freeC, J.pin, J.hok, J.len⟩
theorem Rm.deeper {k : Nat} {A : Around} (r : Rm (k + 1) A) (env : Env) : Rm k (A.deeper env) :=
  ⟨by have := r.dp; show A.depth + 1 + 3 * k + 5 < _; omega, by have := r.un; show A.units + 3 + 16 * k + 200 < _; omega⟩
theorem fnQ_of {P : Program} {w : World} {K : PySem.W.Frag} {mg : Str → Option Value} {base : Heap} {k : Nat} {f : Addr} {name qual : Str} {params : Arguments} {body : List Stmt} {scope : Scope} {dV kV doc pm cdv ct oc : Value} {an od : Option Addr}
    {osl : Array (Option Value)} {N ps : List Str} {sp : Sp} (lk : K.lookup f = some ⟨oc, od, .func (PySem.W.fnOf name qual params body scope dV kV doc pm an cdv ct), osl⟩) (hcd : PySem.W.codeIn K cdv qual = true) (S : FnScope N ps scope)
    (len : ∀ vs H Q E, sp vs H Q E → vs.length = ps.length)
    (hbody : ∀ (A : Around) (outer : List Env) (s : Shared) (H : Hp) (vs : List V) (Q : VK), Rm k (A.deeper (envOfC qual scope s.heap.objs.size f cdv)) → sp vs H Q (fun _ _ _ => False) →
      ∃ t, PSs (cxQ P w K mg base N qual scope f cdv A outer s H) body t ∧ t { nx := fun _ H' => Q .non H', rt := Q } (L2.start N vs) H) :
    FnQ P w K mg base (k + 1) f (PySem.W.fnOf name qual params body scope dV kV doc pm an cdv ct) ps sp := by
  refine ⟨len, fun A outer s H args us vs Q room e0 binds rel want => ?_⟩
  have hl := len _ _ _ _ want
  have KX : K.In s.heap := e0.mod.kin.keeps fun b o e => (e0.bs b o e).1
  have lim : s.heap.NoLimit := e0.mod.nolimit.keeps fun b o e => (e0.bs b o e).1
  have kinds : ∀ y ∈ ps.zip us, scope.names.lookup y.1 = some .local ∨ (scope.names.lookup y.1 = some .cell ∧ ((cellsFrom (s.heap.objs.size + 1) scope.names []).lookup y.1).isSome = true) := fun y hy =>
    (S.par y.1 (List.of_mem_zip (show (y.1, y.2) ∈ ps.zip us from hy)).1).imp id fun q => ⟨q, PySem.W.cellsFrom_some _ _ _ (.inl q)⟩
  have dep : A.depth < recursionLimit := by have := room.dp; omega
  refine codeAny_call_function dep (KX _ _ lk) rfl S.co S.gen rfl (PySem.W.codeRec_of KX hcd) (binds _ _ _ _ ?_)
  refine wpAny_newFunctionEnv_cells S.kind kinds fun env eq s1 inn => ?_
  subst eq
  refine ⟨lim.keeps inn.toInCall.keep, codeAny_func ?_⟩
  obtain ⟨t, runs, wt⟩ := hbody A outer s H vs Q (room.deeper _) want
  have I : Inv (cxQ P w K mg base N qual scope f cdv A outer s H) [] (L2.start N vs) H s1 := startQ S e0 hl rel inn
  refine wpAny_mono (runs.run [] s1 (L2.start N vs) H _ I wt) (fun fl s2 ends => ?_) fun e s2 z => False.elim z
  have fin : ∀ {σ2 : L2.St} {H2 : Hp} {v : V} {u : Value}, Inv (cxQ P w K mg base N qual scope f cdv A outer s H) [] σ2 H2 s2 → RelV v u → Q v H2 → CE outer P w H s Q u s2 :=
    fun {σ2 H2 v u} J rv q => ⟨v, H2, J.os, J.bare, J.base, J.hok, rv, q⟩
  cases fl with
  | next => obtain ⟨σ2, H2, J, q⟩ := ends; exact fin (v := V.non) (u := Value.none) J rfl q
  | ret u => obtain ⟨v, σ2, H2, J, rv, q⟩ := ends; exact fin J rv q
  | brk => obtain ⟨_, _, _, q⟩ := ends; exact q.elim
  | cont => obtain ⟨_, _, _, q⟩ := ends; exact q.elim
section
variable {X : Cx} {k : Nat} {f : Addr} {fd : FuncData} {ps : List Str} {sp : Sp} {x : Str} {q pos : Pos} {e : Expr} {es : List Expr} {t : TA}
def tCallQ (sp : Sp) (t : TA) : TE := fun σ H Q => t σ H fun vs H1 => sp vs H1 Q (fun _ _ _ => False)
theorem pe_callQ (F : FnQ X.prog X.w X.K X.mg X.base k f fd ps sp) (hr : Rm k X.A) (hg : Gl X x) (hm : X.mg x = some (.ref f)) (hk : PySem.W.keepIn X.K (.ref f) = true) (hb : Binds X.K fd ps [])
    (ha : PA X (e :: es) t) (hdb : (x == ("__debug__" : Str)) = false) (he : starEach (e :: es) X.env = (false, eval e X.env) :: starEach es X.env) (hpl : (backTo pos (starEach es X.env)).any (·.1) = false) :
    PE X (.Call (.Name x q) (e :: es) [] pos) (tCallQ sp t) := by
  refine ⟨fun pins st σ H Q I want => ?_⟩
  refine wpAny_Call_Name_kw (ld_glob I hg hm ?_ hdb)
  refine PySem.W.callWith_K (h₀ := X.base) I.ok.mod.kin hk (thn (ha.run pos pins st σ H _ I want) fun us st1 got => ?_) he hpl
  obtain ⟨vs, H1, J, rel, w1⟩ := got
  refine ⟨J.kIn, ?_⟩
  have hl : us.length = ps.length := by rw [← rel.length]; exact F.len _ _ _ _ w1
  have b := hb st1 us J.kIn (by rw [List.append_nil]; exact hl)
  rw [List.append_nil] at b
  refine wpAny_call (codeAny_mono (F.run X.A X.stack st1 H1 ⟨us, []⟩ us vs Q hr J.env0 b rel w1) fun res st2 hq => ?_)
  cases res with
  | error e => exact False.elim hq
  | ok fl =>
    cases fl with
    | ret u => exact J.after hq
    | next => exact False.elim hq
    | brk => exact False.elim hq
    | cont => exact False.elim hq
end

/-! ### methods, objects -/
section
variable {X : Cx} {CX : CXT} {pos apos : Pos} {o : Expr} {m : Str} {ta : TE} {t : TA} {args : List Expr} {pl : Sem Bool}
/-- o.m(..): the method as o's class has it -/
def tMthD (X : Cx) (CX : CXT) (m : Str) (ta : TE) (t : TA) (E : L2.St → XK) : TE := fun σ H Q => ta σ H fun x H1 => ∃ (a C dx : Addr) (fs : List (Str × V)) (g : Addr) (k : Nat) (fd : FuncData) (ps : List Str) (sp : Sp), x = .ref a ∧ H1 a = some (.ins C dx fs) ∧ Cls X.K C ∧ Meth X.K C m g ∧ fs.lookup m = none ∧
  FnOk X.prog X.w X.K X.mg X.base CX k g fd ps sp ∧ Room k X.A ∧ Binds X.K fd ps [] ∧ t σ H1 fun vs H2 => sp (x :: vs) H2 Q (E σ)
theorem pe_mthD {E : L2.St → XK} (he : PE X o ta) (ha : PA X args t) (hx : ∀ σ, PassesAt CX X σ (E σ))
    (hst : args = [] ∨ ∃ e es, args = e :: es ∧ starEach (e :: es) X.env = (false, eval e X.env) :: starEach es X.env ∧ (backTo pos (starEach es X.env)).any (·.1) = false)
    (ht : eval (.Call (.Attribute o m apos) args [] pos) X.env = (do
      let ov ← eval o X.env
      standAt apos.atName
      let (f, first) ← holding [ov] (getMethod ov m pl)
      callWith pos f first (backTo pos (starEach args X.env)) (backToKw pos (keywordEach [] X.env)))) : PE X (.Call (.Attribute o m apos) args [] pos) (tMthD X CX m ta t E) := by
  refine ⟨fun pins st σ H Q I want => ?_⟩
  refine methcall_of (pl := pl) (te := fun σ H R => tMthD X CX m ta t E σ H Q ∧ ∀ x H1, (∃ (a C dx : Addr) (fs : List (Str × V)) (g : Addr) (k : Nat) (fd : FuncData) (ps : List Str) (sp : Sp), x = V.ref a ∧ H1 a = some (.ins C dx fs) ∧ Cls X.K C ∧ Meth X.K C m g ∧ fs.lookup m = none ∧
    FnOk X.prog X.w X.K X.mg X.base CX k g fd ps sp ∧ Room k X.A ∧ Binds X.K fd ps [] ∧ t σ H1 fun vs H2 => sp (x :: vs) H2 Q (E σ)) → R x H1) ⟨fun pins2 st2 σ2 H2 R J hh => ?_⟩ I ⟨want, fun x H1 hh => ?_⟩ ht
  · refine thn (he.run pins2 st2 σ2 H2 _ J hh.1) fun u st3 got => ?_
    obtain ⟨v, H3, J3, rv, w3⟩ := got
    exact ⟨v, H3, J3, rv, hh.2 v H3 w3⟩
  · obtain ⟨a, C, dx, fs, g, k, fd, ps, sp, rfl, ea, c, mt, l, F, hr, hb, w1⟩ := hh
    refine ⟨a, C, dx, fs, g, rfl, ea, c, mt, l, fun st1 J => ?_⟩
    rcases hst with rfl | ⟨e, es, rfl, h1, h2⟩
    · refine PySem.W.callWith_K0 (first := [.ref a]) J.kIn mt.kp ?_
      have w2 := ha.run pos pins st1 σ H1 _ J w1
      have : wpAny (model X.prog X.w) X.A (call (.ref g) [.ref a]) (EP X pins σ Q) X.xe st1 := by
        have w3 := wpAny_bind (f := fun us => call (.ref g) (.ref a :: us)) (wpAny_mono w2 (Q' := fun us s' => wpAny (model X.prog X.w) X.A (call (.ref g) (.ref a :: us)) (EP X pins σ Q) X.xe s') (fun us st2 got => by
          obtain ⟨vs, H2, J2, rel, w4⟩ := got
          exact run_fnS (us := .ref a :: us) (vs := .ref a :: vs) F hr hb (hx σ) J2 (.cons rfl rel) w4) fun _ _ z => z)
        exact w3
      exact this
    · refine PySem.W.callWith_K (first := [.ref a]) (h₀ := X.base) I.ok.mod.kin mt.kp (thn (ha.run pos pins st1 σ H1 _ J w1) fun us st2 got => ?_) h1 h2
      obtain ⟨vs, H2, J2, rel, w2⟩ := got
      exact ⟨J2.kIn, run_fnS (us := .ref a :: us) (vs := .ref a :: vs) F hr hb (hx σ) J2 (.cons rfl rel) w2⟩
end
end Dp

end
section
set_option Elab.async false
set_option linter.all false
set_option maxRecDepth 100000
set_option maxHeartbeats 8000000
/-! Yd: objects made; the __init__ of a class above, called by the class's name. -/
namespace Dp
open PySem PySem.Spec PyProof.Rows L2
/-- the tree of a method's call -/
theorem meth_tree {o : Expr} {m : Str} {apos pos : Pos} {args : List Expr} {env : Env} (hb : attributeBase o m env (eval o env) = eval o env) (hs : (backTo pos (starEach args env)).any (·.1) = false) (hn : args.length < 30) (hl : apos.endLine = pos.line) :
    eval (.Call (.Attribute o m apos) args [] pos) env = (do
      let ov ← eval o env
      standAt apos.atName
      let (f, first) ← holding [ov] (getMethod ov m (do return (← importBound o env).getD true))
      callWith pos f first (backTo pos (starEach args env)) (backToKw pos (keywordEach [] env))) := by
  refine mcall_of hb fun ov => ?_
  have form : methodCallForm (args.length + ([] : List Keyword).length) (backTo pos (starEach args env)) (backToKw pos (keywordEach [] env)) = true := by
    unfold methodCallForm
    have h1 : (backTo pos (starEach args env)).all (!·.1) = true := by
      rw [List.any_eq_false] at hs
      rw [List.all_eq_true]
      intro x hx
      have := hs x hx
      simpa using this
    rw [h1]
    show (true && true && decide (args.length + 0 + 0 < 30)) = true
    simpa using hn
  unfold methodCall
  rw [form]
  have hp : methodCallPos true o env apos pos = pure pos := by
    unfold methodCallPos
    rw [hl]
    simp
  rw [hp]
  rfl
section
variable {X : Cx} {CX : CXT} {k : Nat} {f C : Addr} {fd : FuncData} {ps : List Str} {sp : Sp} {x : Str} {p pos apos : Pos} {t : TA} {args : List Expr}
theorem run_newD {pins : List (Addr × Obj)} {σ : L2.St} {H : Hp} {s : Shared} {Q : VK} {E : XK} {us : List Value} {vs : List V} (M : Mk X.K C f) (F : FnOk X.prog X.w X.K X.mg X.base CX k f fd ps sp) (hr : Room (k + 1) X.A) (hb : Binds X.K fd ps [])
    (hx : PassesAt CX X σ E) (I : Inv X pins σ H s) (r : Vals vs us)
    (want : ∀ x dx, H x = none → H dx = none → dx ≠ x → sp (.ref x :: vs) (upd (upd H dx (.own x)) x (.ins C dx [])) (fun v H2 => v = .non ∧ Q (.ref x) H2) E) :
    wpAny (model X.prog X.w) X.A (call (.ref C) us) (EP X pins σ Q) X.xe s := by
  have w1 := want (s.heap.objs.size + 1) s.heap.objs.size (I.hok.fresh (Nat.le_succ _)) (I.hok.fresh (Nat.le_refl _)) (Nat.ne_of_lt (Nat.lt_succ_self _))
  have J := Inv.made (C := C) I
  have rel : Vals (V.ref (s.heap.objs.size + 1) :: vs) (Value.ref (s.heap.objs.size + 1) :: us) := .cons rfl r
  have hl : ((Value.ref (s.heap.objs.size + 1) :: us) ++ []).length = ps.length := by
    have e := rel.length
    rw [F.len _ _ _ _ w1] at e
    rw [List.append_nil]
    exact e.symm
  have b := hb _ (Value.ref (s.heap.objs.size + 1) :: us) J.kIn hl
  rw [List.append_nil] at b
  refine wpAny_call (make_map (f := f) I.kIn M.makes M.init (beq_iff_eq.mp M.fn) (codeAny_mono (F.run _ X.stack _ _ ⟨Value.ref (s.heap.objs.size + 1) :: us, []⟩ _ _ _ E (hr.make C us []) (J.env0.make C us []) b rel w1) fun res s2 got => ?_))
  cases res with
  | error e => exact hx pins _ _ e s2 J got
  | ok fl =>
    cases fl with
    | ret u =>
      obtain ⟨v, H2, J2, rv, rfl, q⟩ := J.after got
      exact ⟨rv, ⟨V.ref (s.heap.objs.size + 1), H2, J2, rfl, q⟩⟩
    | next => exact False.elim got
    | brk => exact False.elim got
    | cont => exact False.elim got
def tNewD (C : Addr) (sp : Sp) (t : TA) (E : L2.St → XK) : TE := fun σ H Q => t σ H fun vs H1 => ∀ x dx, H1 x = none → H1 dx = none → dx ≠ x → sp (.ref x :: vs) (upd (upd H1 dx (.own x)) x (.ins C dx [])) (fun v H2 => v = .non ∧ Q (.ref x) H2) (E σ)
theorem pe_newD {E : L2.St → XK} (M : Mk X.K C f) (F : FnOk X.prog X.w X.K X.mg X.base CX k f fd ps sp) (hr : Room (k + 1) X.A) (hg : Gl X x) (hm : X.mg x = some (.ref C)) (hb : Binds X.K fd ps []) (hx : ∀ σ, PassesAt CX X σ (E σ))
    (ha : PA X args t) (hdb : (x == ("__debug__" : Str)) = false)
    (hst : args = [] ∨ ∃ e es, args = e :: es ∧ starEach (e :: es) X.env = (false, eval e X.env) :: starEach es X.env ∧ (backTo pos (starEach es X.env)).any (·.1) = false) :
    PE X (.Call (.Name x p) args [] pos) (tNewD C sp t E) := by
  refine ⟨fun pins st σ H Q I want => ?_⟩
  refine wpAny_Call_Name_kw (ld_glob I hg hm ?_ hdb)
  rcases hst with rfl | ⟨e, es, rfl, h1, h2⟩
  · refine PySem.W.callWith_K0 I.kIn M.kp ?_
    have w3 := wpAny_bind (f := fun us => call (.ref C) us) (wpAny_mono (ha.run pos pins st σ H _ I want) (Q' := fun us s' => wpAny (model X.prog X.w) X.A (call (.ref C) us) (EP X pins σ Q) X.xe s') (fun us st2 got => by
      obtain ⟨vs, H2, J2, rel, w4⟩ := got
      exact run_newD M F hr hb (hx σ) J2 rel w4) fun _ _ z => z)
    exact w3
  · refine PySem.W.callWith_K (h₀ := X.base) I.ok.mod.kin M.kp (thn (ha.run pos pins st σ H _ I want) fun us st2 got => ?_) h1 h2
    obtain ⟨vs, H2, J2, rel, w2⟩ := got
    exact ⟨J2.kIn, run_newD M F hr hb (hx σ) J2 rel w2⟩
/-- what of the text C.m(..) needs, C a class, m a plain def of it -/
structure CFun (K : PySem.W.Frag) (C : Addr) (m : Str) (g : Addr) : Prop where
  rd : PySem.W.readsIn K C (.type "type") = true
  ga : PySem.W.specialIn K (.ref C) "__getattribute__" = some (some (.builtin "type.__getattribute__"))
  at_ : PySem.W.findCls K (.ref C) (.type "type") m = some (.val (.ref g))
  kp : PySem.W.keepIn K (.ref g) = true
theorem pe_inbD {m : Str} {g : Addr} {pl : Sem Bool} {e : Expr} {es : List Expr} {E : L2.St → XK} (T : CFun X.K C m g) (F : FnOk X.prog X.w X.K X.mg X.base CX k g fd ps sp) (hr : Room k X.A) (hg : Gl X x) (hm : X.mg x = some (.ref C)) (hb : Binds X.K fd ps []) (hx : ∀ σ, PassesAt CX X σ (E σ))
    (ha : PA X (e :: es) t) (hdb : (x == ("__debug__" : Str)) = false) (h1 : starEach (e :: es) X.env = (false, eval e X.env) :: starEach es X.env) (h2 : (backTo pos (starEach es X.env)).any (·.1) = false)
    (ht : eval (.Call (.Attribute (.Name x p) m apos) (e :: es) [] pos) X.env = (do
      let ov ← eval (.Name x p) X.env
      standAt apos.atName
      let (f, first) ← holding [ov] (getMethod ov m pl)
      callWith pos f first (backTo pos (starEach (e :: es) X.env)) (backToKw pos (keywordEach [] X.env)))) : PE X (.Call (.Attribute (.Name x p) m apos) (e :: es) [] pos) (tCallS sp E t) := by
  refine ⟨fun pins st σ H Q I want => ?_⟩
  refine PySem.W.methodCall_KW (pl := pl) (ld_glob I hg hm ?_ hdb) ht
  refine PySem.W.method_cls I.kIn T.ga ?_
  refine PySem.W.cls_value I.kIn T.rd T.at_ rfl ?_
  have J := I.tok (st.toks + 1)
  refine PySem.W.callWith_K (first := []) (h₀ := X.base) I.ok.mod.kin T.kp (thn (ha.run pos pins _ σ H _ J want) fun us st2 got => ?_) h1 h2
  obtain ⟨vs, H2, J2, rel, w2⟩ := got
  exact ⟨J2.kIn, run_fnS F hr hb (hx σ) J2 rel w2⟩
end
end Dp

end
section
set_option Elab.async false
set_option linter.all false
set_option maxRecDepth 100000
set_option maxHeartbeats 4000000
/-! Xk: the place of a plain thing in a tuple; list(reversed(a list)). -/
namespace Dp
open PySem PySem.Spec PyProof.Rows L2
section
variable {X : Cx}
def rIndexT (K : PySem.W.Frag) : V → List V → Hp → VK → Prop := fun x xs H Q => ∃ (a : Addr) (ys : List V) (y : V) (j : Nat) (z : V), x = V.ref a ∧ xs = [y] ∧ SqT K H a ys ∧ flatV y = true ∧ ys.all flatV = true ∧ ys[j]? = some z ∧ eqV z y = true ∧ (∀ (m : Nat) (z' : V), m < j → ys[m]? = some z' → eqV z' y = false) ∧ Q (.int (j : Nat)) H
theorem mt_indexT : MtR X "tuple.index" (rIndexT X.K) := by
  intro pins s σ H x xs v us Q I rx rxs h
  obtain ⟨a, ys, y, j, z, rfl, rfl, hs, fy, fys, hz, hzj, hno, q⟩ := h
  cases rx
  cases rxs with
  | cons ry rt =>
    rename_i uy ut
    cases rt
    obtain ⟨its, rv, pl, hlen⟩ := I.tuple hs
    obtain ⟨⟨cls, dd, dt, sl⟩, ho, hc, n, hd⟩ := pl
    simp only at hc hd
    subst hc
    subst hd
    obtain ⟨u, hu, ru⟩ := rv.get hz
    obtain ⟨hjl, hje⟩ := List.getElem?_eq_some_iff.mp hu
    have hvl := rv.length
    have hj : j < its.toArray.size := by simpa using hjl
    refine call_meets PySem.F.slot_tuple_index ⟨_, ho, rfl⟩ PySem.F.entry_tuple_index (PySem.F.args_tuple_index_2 _ _)
      (TI.tuple_indexAt a its.toArray n dd sl uy (eqU y) j hj ?_ ?_) ⟨ho, fun u' hu' => mem_eqAt ry fy rv fys u' (by simpa using hu'), ?_⟩
    · have e1 : its.toArray[j] = u := by simpa using hje
      rw [e1, eqU_of ru (flat_at fys hz)]
      exact hzj
    · intro m hm hmj
      have hml : m < its.length := by simpa using hm
      have hmy : m < ys.length := by omega
      have hy' : ys[m]? = some ys[m] := List.getElem?_eq_getElem hmy
      obtain ⟨u2, hu2, ru2⟩ := rv.get hy'
      obtain ⟨_, hme⟩ := List.getElem?_eq_some_iff.mp hu2
      have e1 : its.toArray[m] = u2 := by simpa using hme
      rw [e1, eqU_of ru2 (flat_at fys hy')]
      exact hno m _ hmj hy'
    · exact ⟨.int (j : Nat), H, I.tok _, ⟨_, rfl⟩, q⟩
end
end Dp
namespace RT
open PySem PySem.Spec PyProof.Rows L2
section
variable {prog : Program} {w : World} {A : Around} {s : Shared}
theorem wpAny_extend_rev {R : Result → Shared → Prop} {it l : Addr} {items : Array Value} (hh : A.handled = none) (hit : s.heap.IsRevIter it l ((items.size : Int) - 1)) (hl : s.heap.IsList l items) (hne : l ≠ it) (hn : items.size ≤ sizeLine) (S : Addr) (res : Value) (c₀ : Nat)
    (hSi : S ≠ it) (hSl : S ≠ l) (hS : s.heap.get? S = some { cls := .type "list", data := .seq #[] c₀ })
    (hR : ∀ h' tk acc' c', (∀ b o, b ≠ it → b ≠ S → s.heap.get? b = some o → h'.get? b = some o) → h'.get? S = some { cls := .type "list", dict := none, data := .seq acc' c', slots := #[] } →
      ItemsOf (fun i v => items[items.size - 1 - i]? = some v) acc' items.size → R (.ok (.ret res)) { s with heap := h', toks := tk }) :
    wpAny (model prog w) A.in1 (Builtin.List.listExtendWith (.ref S) (.ref it) res)
      (fun fin s' => match fin with | .done f => R (.ok f) s' | .again c' => c'.quiet = true ∧ codeAny (model prog w) A c' R s') (fun e s' => R (.error e) s') s := by
  have W := (Walks.listRev (prog := prog) (w := w) (A := A.in1) hh it l hne items).toS
  have hSf : S ∉ [it, l] := by simp only [List.mem_cons, List.not_mem_nil, or_false, not_or]; exact ⟨hSi, hSl⟩
  have hT : s.TypeIs (.ref it) "list_reverseiterator" := Heap.IsRevIter.typeIs hit
  have h1 : Builtin.List.listSameRef (.ref S) (.ref it) = false := by simp [Builtin.List.listSameRef, hSi]
  unfold Builtin.List.listExtendWith
  refine wpAny_bind (wpAny_typeOf hT ?_)
  rw [if_neg (by rw [h1]; decide)]
  refine wpAny_bind (wpAny_pyIter_revIter hit ?_)
  refine wpAny_bind (wpAny_holding ?_)
  unfold Builtin.List.listLengthHint
  refine wpAny_bind (wpAny_specialOf hT nolen_lri ?_)
  show wpAny _ A.in1 (specialOf (Value.ref it) (Str.ofString "__length_hint__") >>= _) _ _ _
  refine wpAny_bind (wpAny_specialOf hT hint_lri ?_)
  generalize hid : ("list_reverseiterator.__length_hint__" : String) = id0
  wp_delta
  rw [show splitId id0 = some ("list_reverseiterator", "__length_hint__") from by subst hid; decide +kernel]
  subst hid
  refine wpAny_bind (wpAny_isInstance (b := true) hT (by rw [isSubtype_type]; kernel_rfl) ?_)
  refine wpAny_pure ?_
  rw [if_neg (by decide)]
  have e0 : ((items.size : Nat) : Int) - 1 - ((0 : Nat) : Int) = (items.size : Int) - 1 := by omega
  refine wpAny_pure ⟨plainId_quiet F.plain_extend_loop _, codeAny_extend_loopS W hn _ hSf _ items.size 0 _ _ _ rfl (Nat.zero_le _) ⟨Nat.zero_le _, by rw [e0]; exact hit, hl⟩ hS (ItemsOf.nil _) fun s' acc' c' hm hS' hacc => ?_⟩
  rw [Moved.eq_with hm]
  refine hR s'.heap s'.toks acc' c' (fun b o hb hbS e => hm.heap b o (fun hmem => ?_) e) hS' hacc
  rcases List.mem_cons.mp hmem with e' | hmem
  · exact hbS e'
  · exact hb (List.mem_singleton.mp hmem)
end
section
variable {prog : Program} {w : World} {A : Around} {E : Value → Shared → Prop} {s : Shared}
theorem call_list_rev {Q : Value → Shared → Prop} {it l : Addr} {items : Array Value} (hh : A.handled = none) (hit : s.heap.IsRevIter it l ((items.size : Int) - 1)) (hl : s.heap.IsList l items) (hne : l ≠ it) (hn : items.size ≤ sizeLine)
    (hQ : ∀ h' tk acc' c', (∀ b o, b ≠ it → s.heap.get? b = some o → h'.get? b = some o) →
      h'.get? s.heap.objs.size = some { cls := .type "list", dict := none, data := .seq acc' c', slots := #[] } → ItemsOf (fun i v => items[items.size - 1 - i]? = some v) acc' items.size → Q (.ref s.heap.objs.size) { s with heap := h', toks := tk }) :
    wpAny (model prog w) A (call (.type "list") [.ref it]) Q E s := by
  obtain ⟨oi, hoi, _⟩ := id hit
  obtain ⟨ol, hol, _⟩ := id hl
  have hSi : s.heap.objs.size ≠ it := Nat.ne_of_gt (Heap.lt_size hoi)
  have hSl : s.heap.objs.size ≠ l := Nat.ne_of_gt (Heap.lt_size hol)
  refine callType_codes (Q₁ := fun obj s₁ => obj = .ref s.heap.objs.size ∧ s₁ = { s with heap := s.heap.push { cls := .type "list", data := .seq #[] } }) F.called_list (F.typeCall_list_1 _) F.entry_list_init
    (code_list_new _ ⟨rfl, rfl⟩) fun obj s₁ h₁ => ?_
  obtain ⟨rfl, rfl⟩ := h₁
  have hS : (s.heap.push { cls := .type "list", data := .seq #[] }).get? s.heap.objs.size = some { cls := .type "list", data := .seq #[] } := Heap.get?_push_size _ rfl
  refine ⟨⟨_, hS, rfl⟩, F.args_list_init_2 _ _, ?_⟩
  show wpAny _ _ (do let old ← Builtin.List.listItems (.ref s.heap.objs.size); Builtin.List.listUpdate (.ref s.heap.objs.size) (fun _ => #[]); letGo old.toList.reverse; Builtin.List.listExtendWith (.ref s.heap.objs.size) (.ref it) .none) _ _ _
  refine wpAny_bind ?_
  unfold Builtin.List.listItems
  refine wpAny_bind (wpAny_seqItems hS rfl (wpAny_pure ?_))
  show wpAny _ _ (updateSeq s.heap.objs.size (fun _ => #[]) >>= fun _ => letGo (#[] : Array Value).toList.reverse >>= fun _ => Builtin.List.listExtendWith (.ref s.heap.objs.size) (.ref it) .none) _ _ _
  refine wpAny_bind (wpAny_updateSeq hS rfl ?_)
  have hS₂ := Heap.get?_update_self (Obj.mapSeq (fun _ => (#[] : Array Value))) hS rfl
  have oth : ∀ b o, s.heap.get? b = some o → ((s.heap.push { cls := .type "list", data := .seq #[] }).update s.heap.objs.size (Obj.mapSeq (fun _ => (#[] : Array Value)))).get? b = some o :=
    fun b o e => (Heap.get?_update_other _ _ (Nat.ne_of_gt (Heap.lt_size e))).trans (Heap.get?_push_of_some _ e)
  refine wpAny_bind (wpAny_letGo ?_)
  refine wpAny_extend_rev (A := A.in1) (s := { s with heap := (s.heap.push { cls := .type "list", data := .seq #[] }).update s.heap.objs.size (Obj.mapSeq (fun _ => (#[] : Array Value))) }) hh (hit.at fun o e => oth _ o e) (hl.at fun o e => oth _ o e) hne hn s.heap.objs.size .none _ hSi hSl hS₂ fun h' tk acc' c' hk hS' hacc => ?_
  exact ⟨rfl, hQ h' tk acc' c' (fun b o hb e => hk b o hb (Nat.ne_of_lt (Heap.lt_size e)) (oth b o e)) hS' hacc⟩
end
/-- list(reversed(x)), x a list: a new list -/
def tLstRev (K : PySem.W.Frag) (te : TE) : TE := fun σ H Q => te σ H fun v H1 => ∃ (a : Addr) (xs : List V), v = .ref a ∧ SqL K H1 a xs ∧ ∀ q, H1 q = none → Q (.ref q) (upd H1 q (.lst xs.reverse))
section
variable {X : Cx}
theorem pe_lstRev {e : Expr} {te : TE} {p p2 pos pos2 : Pos} (hc : X.calm = true) (hg : Gl X "list") (hm : X.mg "list" = none) (hg2 : Gl X "reversed") (hm2 : X.mg "reversed" = none) (he : PE X e te)
    (hs : starEach [e] X.env = (false, eval e X.env) :: starEach [] X.env := by rfl)
    (hs2 : starEach [.Call (.Name "reversed" p2) [e] [] pos2] X.env = (false, eval (.Call (.Name "reversed" p2) [e] [] pos2) X.env) :: starEach [] X.env := by rfl) :
    PE X (.Call (.Name "list" p) [.Call (.Name "reversed" p2) [e] [] pos2] [] pos) (tLstRev X.K te) := by
  refine ⟨fun pins s σ H Q I h => ?_⟩
  refine Call_ (ld_blt I hg hm PyProof.Rows.boot_list (PyProof.Rows.callWith_type1 (args_cons (Call_ (ld_blt I hg2 hm2 PyProof.Rows.boot_reversed (PyProof.Rows.callWith_type1 (args_cons (thn (he.run pins s σ H _ I h) fun u s1 ⟨v, H1, I1, r1, q1⟩ => args_nil ?_) hs) hs rfl))) hs2) hs2 rfl))
  obtain ⟨a, xs, ev, hq, q⟩ := q1
  subst ev
  obtain rfl : u = Value.ref a := r1
  obtain ⟨its, rv, p', hz⟩ := I1.list hq
  refine call_reversed_list p'.isList (args_nil ?_)
  have k0 : ∀ b o, s1.heap.get? b = some o → (s1.heap.push (revObj a ((its.toArray.size : Int) - 1))).get? b = some o := fun b o e => Heap.get?_push_of_some _ e
  have I2 : Inv X pins σ H1 { s1 with heap := s1.heap.push (revObj a ((its.toArray.size : Int) - 1)) } := I1.kept (t' := s1.toks) k0
  obtain ⟨f0, f1, f2, f3, f4, f5⟩ := I1.fpOk (H' := H1) (b := s1.heap.objs.size) (Nat.le_refl _) (I1.hok.fresh (Nat.le_refl _))
  have hl := p'.isList
  obtain ⟨ol, hol, _⟩ := id hl
  have hne : a ≠ s1.heap.objs.size := Nat.ne_of_lt (Heap.lt_size hol)
  have hn : its.toArray.size ≤ sizeLine := by rw [List.size_toArray, ← rv.length]; exact hz
  refine call_list_rev (s := { s1 with heap := s1.heap.push (revObj a ((its.toArray.size : Int) - 1)) }) (I1.ok.hd hc) ⟨_, Heap.get?_push_size _ rfl, rfl, rfl⟩ (hl.push _) hne hn fun h' tk acc c' hk hS' hi => ?_
  have hsz : s1.heap.objs.size ≤ (s1.heap.push (revObj a ((its.toArray.size : Int) - 1))).objs.size := by rw [Heap.size_push]; omega
  refine ⟨.ref (s1.heap.push (revObj a ((its.toArray.size : Int) - 1))).objs.size, _, I1.laid (t' := tk) (fun b u e => hk b u (Nat.ne_of_lt (Heap.lt_size e)) (k0 b u e)) hsz (show ObjOk X.prog X.w _ h' _ (.lst xs.reverse) from ⟨by rw [List.length_reverse]; exact hz, acc.toList, c', vals_rev rv hi, by rw [Array.toArray_toList]; exact hS'⟩), rfl, q _ (I1.hok.fresh hsz)⟩
end
end RT

/-! ### texts cut at a sign -/
namespace Dp
open PySem PySem.Spec PyProof.Rows L2
theorem pre_one (k c : Nat) (r : List Nat) : TL.pre [k] (c :: r) = decide (c = k) := by
  unfold TL.pre
  show ([c] == [k]) = _
  by_cases h : c = k
  · subst h; simp
  · simp [h]
theorem par_C (k : Nat) : ∀ (l acc : List Nat), TL.par [k] acc l = parC k acc l
  | [], acc => rfl
  | c :: r, acc => by
    show (if TL.pre [k] (c :: r) = true then some (acc, (c :: r).drop 1) else TL.par [k] (acc ++ [c]) r) = if c = k then some (acc, r) else parC k (acc ++ [c]) r
    rw [pre_one, par_C k r]
    by_cases h : c = k
    · rw [if_pos h, if_pos (by simp [h])]; rfl
    · rw [if_neg h, if_neg (by simp [h])]
theorem spl_C (k : Nat) : ∀ (l acc : List Nat), TL.spl [k] 0 acc l = splC k acc l
  | [], acc => rfl
  | c :: r, acc => by
    show (if TL.pre [k] (c :: r) = true then acc :: TL.spl [k] 0 [] r else TL.spl [k] 0 (acc ++ [c]) r) = if c = k then acc :: splC k [] r else splC k (acc ++ [c]) r
    rw [pre_one, spl_C k r, spl_C k r]
    by_cases h : c = k
    · rw [if_pos h, if_pos (by simp [h])]
    · rw [if_neg h, if_neg (by simp [h])]
theorem part_D (s : List Nat) (k : Nat) : Txt.partition (strV s) (strV [k]) = match parC k [] s with
    | some (p, q) => (strV p, strV [k], strV q)
    | none => (strV s, strV [], strV []) := by
  have e := TL.partition_par (strV s) (strV [k]) (by show [k] ≠ []; simp)
  have e1 : TL.par (TL.tl (strV [k])) [] (TL.tl (strV s)) = parC k [] s := par_C k s []
  rw [e1] at e
  rw [e]
  cases parC k [] s with
  | none => rfl
  | some p => rfl
theorem split_D (s : List Nat) {k : Nat} (hk : k < 256) : Txt.split (strV s) (strV [k]) = (splC k [] s).map strV := by
  have e := TL.split_spl (strV s) (strV [k]) (by show [k] ≠ []; simp) (TL.kind_ok (by
    show (#[k] : Array Nat).all (· < 256) = true
    simp [hk]))
  have e1 : TL.spl (TL.tl (strV [k])) 0 [] (TL.tl (strV s)) = splC k [] s := spl_C k s []
  rw [e1] at e
  refine TL.map_tl_inj ?_
  rw [e, List.map_map]
  have : (TL.tl ∘ strV) = id := by funext x; rfl
  rw [this, List.map_id]
end Dp

end
section
set_option Elab.async false
set_option linter.all false
set_option maxRecDepth 100000
set_option maxHeartbeats 8000000
/-! Ye: in a dict; isinstance of an instance; texts joined. -/
namespace Dp
open PySem PySem.Spec PyProof.Rows L2
section
variable {X : Cx}
/-- in, not in, of a dict -/
def rDin (n : Bool) : R2 := fun y x H Q => ∃ a o, x = .ref a ∧ DGet H a y o ∧ Q (.bl (n != o.isSome)) H
def dinB : CmpOp → Bool → Bool
  | .In, false => true
  | .NotIn, true => true
  | _, _ => false
theorem op_din {o : CmpOp} {n : Bool} (hu : X.A.units + 1 < cLine) (h : dinB o n = true) : OpR X (compareOp o) (rDin n) := by
  intro pins st σ H y x v u Q I ry rx hh
  obtain ⟨a, r, rfl, g, q⟩ := hh
  obtain rfl : u = Value.ref a := rx
  cases o <;> cases n <;> first | (cases h; done) | skip
  · exact d_in hu I g ry fun st2 J => ⟨.bl r.isSome, H, J, rfl, by simpa using q⟩
  · exact d_notIn hu I g ry fun st2 J => ⟨.bl (!r.isSome), H, J, rfl, by simpa using q⟩
theorem call_insT : CallR X (.builtin "isinstance") (fun xs H Q => ∃ (a C dx : Addr) (fs : List (Str × V)) (Dc : Addr) (b : Bool), xs = [.ref a, .ref Dc] ∧ H a = some (.ins C dx fs) ∧ Cls X.K C ∧ PySem.W.findIn X.K (.ref C) "__class__" = some (some (.builtin "object.__class__")) ∧
    PySem.W.specialIn X.K (.builtin "object.__class__") "__get__" = some (some (.builtin "getset_descriptor.__get__")) ∧ PySem.W.takesIn X.K (.builtin "object.__class__") = some true ∧ PySem.W.mroIn X.K C (.type "object") = some true ∧ PySem.W.kitOne X.K (.ref C) (.ref Dc) = some b ∧ Q (.bl b) H) := by
  intro pins st σ H xs us Q I r hh
  obtain ⟨a, C, dx, fs, Dc, b, rfl, ea, c, h1, h2, h3, h4, h5, q⟩ := hh
  obtain ⟨u1, u2, rfl, r1, r2⟩ := vals2 r
  obtain rfl : u2 = Value.ref Dc := r2
  exact isinst_ok I r1 (TyOf.ins ea c h1 h2 h3 h4) h5 fun tk => ⟨.bl b, H, I.kept (t' := tk) fun _ _ z => z, rfl, q⟩
end
theorem joinL_C (a : List Nat) : ∀ l : List (List Nat), TL.joinL a l = joinC a l
  | [] => rfl
  | [_] => rfl
  | x :: y :: r => by
    show x ++ (a ++ TL.joinL a (y :: r)) = x ++ a ++ joinC a (y :: r)
    rw [joinL_C a (y :: r), List.append_assoc]
theorem join_C (a : List Nat) (l : List (List Nat)) : Txt.join (strV a) (l.map strV) = strV (joinC a l) := by
  have e1 : (l.map strV).map TL.tl = l := by
    rw [List.map_map]
    have : (TL.tl ∘ strV) = id := by funext x; rfl
    rw [this, List.map_id]
  have e2 : TL.tl (Txt.join (strV a) (l.map strV)) = TL.tl (strV (joinC a l)) := by
    rw [TL.join_eq, TL.tl_join, e1]
    exact joinL_C a l
  have e3 : [Txt.join (strV a) (l.map strV)].map TL.tl = [strV (joinC a l)].map TL.tl := by
    simp only [List.map_cons, List.map_nil, e2]
  have e4 := TL.map_tl_inj e3
  simpa using e4
theorem strsOf_eq : ∀ {ds : List D} {ys : List (List Nat)}, strsOf ds = some ys → ds = ys.map D.str
  | [], ys, h => by cases h; rfl
  | d :: ds, ys, h => by
    cases d <;> first | (cases h; done) | skip
    simp only [strsOf] at h
    obtain ⟨zs, hz, rfl⟩ := Option.map_eq_some_iff.mp h
    rw [strsOf_eq hz]
    rfl
theorem Reps.strs {K : PySem.W.Frag} {M : Ms} {H : Hp} : ∀ {ys : List (List Nat)} {vs : List V}, Reps K M H (ys.map D.str) vs → vs = (ys.map strV).map V.str
  | [], _, h => by cases h; rfl
  | y :: ys, _, ⟨v, r, e, h1, h2⟩ => by
    subst e
    rw [Reps.strs h2, show v = V.str (strV y) from h1]
    rfl
theorem din_bl {w : Wd} {Φ : Nat → List D → Sto → Ans D} {n : Bool} {a b : Ex} {env : Nv} {st s : Sto} {x : D} (h : ev w Φ (.din n a b) env st = some (.ok x s)) : ∃ z, x = .bl z := by
  simp only [ev] at h
  cases ha : ev w Φ a env st with
  | none => rw [ha] at h; cases h
  | some r =>
    cases r with
    | ex _ _ => rw [ha] at h; cases h
    | ok d s1 =>
      rw [ha] at h
      simp only [bnd_ok] at h
      cases hb : ev w Φ b env s1 with
      | none => rw [hb] at h; cases h
      | some r =>
        cases r with
        | ex _ _ => rw [hb] at h; cases h
        | ok e s2 =>
          rw [hb] at h
          simp only [bnd_ok] at h
          cases d <;> cases e <;> first | (cases h; done) | skip
          rename_i kk l
          simp only at h
          cases hz : s2[l]? with
          | none => simp only [hz] at h; cases h
          | some c =>
            cases c with
            | lst _ => simp only [hz] at h; cases h
            | ins _ _ => simp only [hz] at h; cases h
            | dct kvs =>
              simp only [hz] at h
              cases h
              exact ⟨_, rfl⟩
end Dp

end
section
set_option Elab.async false
set_option linter.all false
set_option maxRecDepth 100000
set_option maxHeartbeats 4000000
/-! Ck: is this code that text of the program? -/
namespace Dp
open PySem PySem.Spec PyProof.Rows L2

/-- the names: those of the def by their places, the defs, the constants, the error classes -/
structure Ct where
  N : List Str
  fns : List (Nat × Str)
  gls : List (Nat × Str)
  cls : List (Nat × Str)
  pl : List Nat
  fl : List Nat
  df : List (Nat × Int) := []
  hot : Bool := false
  nn : Bool := false
  at0 : Bool := true
  nf : List (Nat × Str) := []
  hf : List (Nat × Str) := []
  ocl : List (Nat × Str) := []
  ib : List Nat := []
def okName (x : Str) : Bool := !decide (x = ("__debug__" : Str)) && !decide (x = ("__classdict__" : Str))
def visB (sc : Scope) (x : Str) : Bool := match sc.names.lookup x with
  | some .local => true
  | some .cell => true
  | some .free => true
  | _ => false
def locB (sc : Scope) (x : Str) : Bool := match sc.names.lookup x with
  | some .local => true
  | some .cell => true
  | _ => false
def glB (sc : Scope) (x : Str) : Bool := match sc.names.lookup x with
  | some .globalImplicit => true
  | _ => false
def lclB (sc : Scope) (x : Str) : Bool := match sc.names.lookup x with
  | some .local => true
  | _ => false
def cstB : D → Const → Bool
  | .non, .none => true
  | .bl b, .bool c => b == c
  | .int i, .int j => decide (i = j)
  | .str s, .str x => decide (x = strV s)
  | _, _ => false
def tyName : Ty → String
  | .int => "int" | .bool => "bool" | .str => "str" | .tuple => "tuple" | .list => "list" | .cls _ => ""
def tyB : Ty → Bool
  | .cls _ => false
  | _ => true
def notSet : Expr → Bool
  | .Set _ _ _ => false
  | _ => true
def ownN (N : List Str) (own : List Nat) : List (Str × Nat) := own.filterMap fun i => N[i]?.map fun x => (x, i)
def tgB (N : List Str) (sc : Scope) : Tg → Expr → Bool
  | .nm i, .Name x _ => decide (N[i]? = some x) && locB sc x
  | .tp is, .Tuple es _ _ => go is es
  | _, _ => false
where go : List Nat → List Expr → Bool
  | [], [] => true
  | i :: is, .Name x _ :: es => decide (N[i]? = some x) && locB sc x && go is es
  | _, _ => false
def stB (scope : Scope) : Expr → Bool
  | .Name x _ => locB scope x
  | .Tuple es _ _ => es.all fun e => match e with
    | .Name x _ => locB scope x
    | _ => false
  | _ => false
def tgOwn (own : List Nat) : Tg → Bool
  | .nm i => own.contains i
  | .tp is => is.all own.contains
/-- the class that is asked for -/
def tyC (C : Ct) : Ty → Str → Bool
  | .cls c, z => if c = 1000 then decide (z = "ValueError") else decide (C.cls.lookup c = some z) && okName z
  | t, z => decide (z = (tyName t : Str))
/-- what has attributes in the plain way -/
def attH : Expr → Bool
  | .Name _ _ => true
  | .Subscript _ _ _ => true
  | .Attribute _ _ _ => true
  | .Constant _ _ _ => true
  | .List _ _ => true
  | .Call (.Name _ _) (_ :: _) _ _ => true
  | .Call (.Attribute _ _ _) _ _ _ => true
  | _ => false
def isLit : Expr → Bool
  | .Name _ _ => true
  | .List _ _ => true
  | _ => false
section
variable (C : Ct)
mutual
def chkE : Ex → Scope → Expr → Bool
  | .var i, sc, e => match e with
    | .Name x _ => decide (C.N[i]? = some x) && visB sc x && okName x
    | _ => false
  | .cst c, _, e => match e with
    | .Constant k _ _ => cstB c k
    | _ => false
  | .glb g, sc, e => match e with
    | .Name x _ => decide (C.gls.lookup g = some x) && glB sc x && okName x
    | _ => false
  | .bin op a b, sc, e => match e with
    | .BinOp l o r _ => bopB op o && chkE a sc l && chkE b sc r
    | _ => false
  | .neg a, sc, e => match e with
    | .UnaryOp .USub x _ => chkE a sc x
    | _ => false
  | .not a, sc, e => match e with
    | .UnaryOp .Not x _ => chkE a sc x
    | _ => false
  | .one a, sc, e => match e with
    | .BoolOp _ [x] _ => chkE a sc x
    | _ => false
  | .and a b, sc, e => match e with
    | .BoolOp .And (x :: y :: r) p => chkE a sc x && chkE b sc (.BoolOp .And (y :: r) p)
    | _ => false
  | .or a b, sc, e => match e with
    | .BoolOp .Or (x :: y :: r) p => chkE a sc x && chkE b sc (.BoolOp .Or (y :: r) p)
    | _ => false
  | .cmp op a b, sc, e => match e with
    | .Compare l [o] [r] _ => copB op o && chkE a sc l && chkE b sc r
    | _ => false
  | .chn op op' a b c, sc, e => match e with
    | .Compare l [o, o'] [m, r] _ => copB op o && copB op' o' && chkE a sc l && chkE b sc m && chkE c sc r
    | _ => false
  | .ite c a b, sc, e => match e with
    | .IfExp t x y _ => chkE c sc t && chkE a sc x && chkE b sc y
    | _ => false
  | .call f as, sc, e => match e with
    | .Call (.Name x _) (a :: r) [] _ => (if C.hot then decide (C.hf.lookup f = some x) else decide (C.fns.lookup f = some x)) && glB sc x && okName x && chkEs as sc (a :: r)
    | _ => false
  | .bi f as, sc, e => match e with
    | .Call (.Name x _) (a :: r) [] _ => (!C.hot || hotBi f) && decide (x = biName f) && glB sc x && chkEs as sc (a :: r)
    | _ => false
  | .isi a t, sc, e => match e with
    | .Call (.Name x _) [y, .Name z _] [] _ => decide (x = "isinstance") && glB sc x && tyC C t z && glB sc z && chkE a sc y
    | _ => false
  | .tup as, sc, e => match e with
    | .Tuple es _ _ => chkEs as sc es
    | _ => false
  | .lst as, sc, e => match e with
    | .List es _ => chkEs as sc es
    | _ => false
  | .mls as, sc, e => match e with
    | .List es _ => chkEs as sc es
    | _ => false
  | .ix a i, sc, e => match e with
    | .Subscript x y _ => chkE a sc x && chkE i sc y
    | _ => false
  | .slc a lo hi, sc, e => match e with
    | .Subscript x (.Slice l h none _) _ => chkE a sc x && chkO lo sc l && chkO hi sc h
    | _ => false
  | .mad a b, sc, e => match e with
    | .BinOp l o r _ => bopB .add o && chkE a sc l && chkE b sc r
    | _ => false
  | .sls a lo hi k, sc, e => match e with
    | .Subscript x (.Slice l h (some y) _) _ => chkE a sc x && chkO lo sc l && chkO hi sc h && chkE k sc y
    | _ => false
  | .att f a, sc, e => match e with
    | .Attribute o x _ => decide (x = fldS f) && chkE a sc o && (match o with
      | .Name _ _ => true
      | _ => false)
    | _ => false
  | .rvl a, sc, e => match e with
    | .Call (.Name x _) [.Call (.Name y _) [z] [] _] [] _ => !C.hot && decide (x = "list") && glB sc x && decide (y = "reversed") && glB sc y && chkE a sc z
    | _ => false
  | .idt g b, sc, e => match e with
    | .Call (.Attribute (.Name o _) m ap) [y] [] p => decide (m = "index") && decide (ap.endLine = p.line) && decide (C.gls.lookup g = some o) && glB sc o && okName o && chkE b sc y
    | _ => false
  | .par a b, sc, e => match e with
    | .Call (.Attribute o m ap) [y] [] p => decide (m = "partition") && decide (ap.endLine = p.line) && (match o with
      | .Name _ _ => true
      | _ => false) && chkE a sc o && chkE b sc y
    | _ => false
  | .spl a b, sc, e => match e with
    | .Call (.Attribute o m ap) [y] [] p => decide (m = "split") && decide (ap.endLine = p.line) && (match o with
      | .Name _ _ => true
      | _ => false) && chkE a sc o && chkE b sc y
    | _ => false
  | .dcm op a b, sc, e => match e with
    | .Compare l [o] [r] _ => eqB op && copB op o && chkE a sc l && chkE b sc r
    | _ => false
  | .dch op op' a b c, sc, e => match e with
    | .Compare l [o, o'] [m, r] _ => eqB op && copB op o && eqB op' && copB op' o' && chkE a sc l && chkE b sc m && chkE c sc r
    | _ => false
  | .dnw, _, e => match e with
    | .Dict [] [] _ => true
    | _ => false
  | .upr a, sc, e => match e with
    | .Call (.Attribute o m ap) [] [] p => decide (m = "upper") && decide (ap.endLine = p.line) && attH o && chkE a sc o
    | _ => false
  | .cld f as d, sc, e => match e with
    | .Call (.Name x _) (a :: r) [] _ => !C.hot && !C.nn && decide (C.fns.lookup f = some x) && decide (C.df.lookup f = some d) && glB sc x && okName x && chkEs as sc (a :: r)
    | _ => false
  | .pop a, sc, e => match e with
    | .Call (.Attribute o m ap) [] [] p => decide (m = "pop") && decide (ap.endLine = p.line) && attH o && chkE a sc o
    | _ => false
  | .pop1 a b, sc, e => match e with
    | .Call (.Attribute o m ap) [y] [] p => decide (m = "pop") && decide (ap.endLine = p.line) && attH o && chkE a sc o && chkE b sc y
    | _ => false
  | .mrp a b, sc, e => match e with
    | .BinOp l o r _ => bopB .mul o && chkE a sc l && chkE b sc r
    | _ => false
  | .lrg a, sc, e => match e with
    | .Call (.Name x _) [.Call (.Name y _) [z] [] _] [] _ => !C.hot && decide (x = "list") && glB sc x && decide (y = "range") && glB sc y && chkE a sc z
    | _ => false
  | .fld f a, sc, e => match e with
    | .Attribute o x _ => decide (fieldN[f]? = some x) && attH o && chkE a sc o
    | _ => false
  | .mth m a as, sc, e => match e with
    | .Call (.Attribute o x ap) es [] p => !C.hot && !C.nn && decide (methN[m]? = some x) && decide (ap.endLine = p.line) && decide (es.length < 30) && attH o && chkE a sc o && chkEs as sc es
    | _ => false
  | .new c as, sc, e => match e with
    | .Call (.Name x _) es [] _ => !C.hot && !C.nn && decide (C.ocl.lookup c = some x) && glB sc x && okName x && chkEs as sc es
    | _ => false
  | .inb c as, sc, e => match e with
    | .Call (.Attribute (.Name x _) m ap) (a :: r) [] p => !C.hot && !C.nn && decide (m = "__init__") && C.ib.contains c && decide (ap.endLine = p.line) && decide ((a :: r).length < 30) && decide (C.ocl.lookup c = some x) && glB sc x && okName x && chkEs as sc (a :: r)
    | _ => false
  | .isn a c, sc, e => match e with
    | .Call (.Name x _) [y, .Name z _] [] _ => decide (x = "isinstance") && glB sc x && decide (C.ocl.lookup c = some z) && okName z && glB sc z && chkE a sc y
    | _ => false
  | .joi a b, sc, e => match e with
    | .Call (.Attribute o m ap) [y] [] p => decide (m = "join") && decide (ap.endLine = p.line) && attH o && chkE a sc o && chkE b sc y
    | _ => false
  | .lcp a, sc, e => match e with
    | .Call (.Name x _) [y] [] _ => decide (x = "list") && glB sc x && chkE a sc y
    | _ => false
  | .keys a, sc, e => match e with
    | .Call (.Name x _) [y] [] _ => !C.hot && decide (x = "list") && glB sc x && chkE a sc y
    | _ => false
  | .din n a b, sc, e => match e with
    | .Compare l [o] [r] _ => dinB o n && chkE a sc l && chkE b sc r
    | _ => false
  | .dsb a k, sc, e => match e with
    | .Subscript x y _ => chkE a sc x && chkE k sc y
    | _ => false
  | .rpl _ _ _, _, _ => false
  | .idx a b, sc, e => match e with
    | .Call (.Attribute o m ap) [y] [] p => decide (m = "index") && decide (ap.endLine = p.line) && isLit o && chkE a sc o && chkE b sc y
    | _ => false
  | .lc _ own e tg it c, sc, x => match x with
    | .ListComp elt [⟨t, iter, ifs, asy⟩] scope _ => !C.hot && decide (asy = 0) && blkC C.N sc scope (ownN C.N own) && decide ((ownN C.N own).map (·.2) = own) && tgB C.N (relS scope sc) tg t && stB scope t && tgOwn own tg && chkI it sc t iter && chkE e (relS scope sc) elt &&
        (match c, ifs with
          | .none, [] => true
          | .some k, [f] => chkE k (relS scope sc) f
          | _, _ => false)
    | _ => false
def chkEs : Exs → Scope → List Expr → Bool
  | .nil, _, es => match es with
    | [] => true
    | _ => false
  | .cons a r, sc, es => match es with
    | x :: xs => chkE a sc x && chkEs r sc xs
    | [] => false
def chkO : Exo → Scope → Option Expr → Bool
  | .none, _, o => match o with
    | none => true
    | _ => false
  | .some a, sc, o => match o with
    | some x => chkE a sc x
    | none => false
def chkI : Wk → Scope → Expr → Expr → Bool
  | .seq a, sc, _, e => chkE a sc e
  | .rng1 a, sc, _, e => match e with
    | .Call (.Name x _) [y] [] _ => decide (x = "range") && glB sc x && chkE a sc y
    | _ => false
  | .rng2 a b, sc, _, e => match e with
    | .Call (.Name x _) [y, z] [] _ => decide (x = "range") && glB sc x && chkE a sc y && chkE b sc z
    | _ => false
  | .rng3 a b d, sc, _, e => match e with
    | .Call (.Name x _) [y, z, u] [] _ => decide (x = "range") && glB sc x && chkE a sc y && chkE b sc z && chkE d sc u
    | _ => false
  | .enm a, sc, t, e => match t, e with
    | .Tuple _ _ _, .Call (.Name x _) [y] [] _ => decide (x = "enumerate") && glB sc x && chkE a sc y
    | _, _ => false
  | .zip a b, sc, t, e => match t, e with
    | .Tuple _ _ _, .Call (.Name x _) [y, z] [] _ => decide (x = "zip") && glB sc x && chkE a sc y && chkE b sc z
    | _, _ => false
  | .rev a, sc, _, e => match e with
    | .Call (.Name x _) [y] [] _ => decide (x = "reversed") && glB sc x && chkE a sc y
    | _ => false
end
end
/-- not a comprehension -/
def noLc : Ex → Bool
  | .lc _ _ _ _ _ _ => false
  | _ => true
def isName : Expr → Bool
  | .Name _ _ => true
  | _ => false
def tgNm : Tg → Bool
  | .nm _ => true
  | _ => false
mutual
def chkS (C : Ct) : Sm → Scope → Stmt → Bool
  | .asg tg e, sc, s => match s with
    | .Assign [t] v p => (!C.hot || tgNm tg) && tgB C.N sc tg t && chkE C e sc v && (match e, t, v with
      | .lc _ _ _ _ _ _, .Name y py, .ListComp _ _ scope pos => (match sc.names.lookup y with
        | some .local => true
        | _ => false) && decide (py.line = pos.line) && !(scope.names.any fun nk => nk.1 == y && (nk.2 == .local || nk.2 == .cell))
      | .lc _ _ _ _ _ _, _, _ => false
      | .tup _, .Tuple _ _ _, _ => false
      | _, _, _ => true)
    | _ => false
  | .ifs c a b, sc, s => match s with
    | .If t x y _ => chkE C c sc t && chkB C a sc x && chkB C b sc y
    | _ => false
  | .whl c b, sc, s => match s with
    | .While t x [] _ => !C.hot && chkE C c sc t && chkB C b sc x
    | _ => false
  | .fr tg it b, sc, s => match s with
    | .For t i x [] _ => !C.hot && notSet i && tgB C.N sc tg t && chkI C it sc t i && chkB C b sc x
    | _ => false
  | .ret e, sc, s => match s with
    | .Return (some x) _ => chkE C e sc x
    | _ => false
  | .retn, _, s => match s with
    | .Return none _ => true
    | _ => false
  | .exp e, sc, s => match s with
    | .Expr x _ => noLc e && chkE C e sc x
    | _ => false
  | .pass, _, s => match s with
    | .Pass _ => true
    | _ => false
  | .brk, _, s => match s with
    | .Break _ => true
    | _ => false
  | .cnt, _, s => match s with
    | .Continue _ => true
    | _ => false
  | .app x e, sc, s => match s with
    | .Expr (.Call (.Attribute o m ap) [a] [] p) _ => decide (m = "append") && decide (ap.endLine = p.line) && attH o && chkE C x sc o && chkE C e sc a
    | _ => false
  | .sti x i e, sc, s => match s with
    | .Assign [.Subscript o j _] v _ => noLc e && chkE C x sc o && chkE C i sc j && chkE C e sc v
    | _ => false
  | .rse c as, sc, s => match s, as with
    | .Raise (some (.Call (.Name x _) [.Constant (.str _) _ _] [] _)) none _, .nil => !C.hot && decide (C.cls.lookup c = some x) && glB sc x && okName x && C.pl.contains c
    | .Raise (some (.Call (.Name x _) [y] [] _)) none _, .cons a .nil => !C.hot && !C.nn && decide (C.cls.lookup c = some x) && glB sc x && okName x && C.fl.contains c && chkE C a sc y
    | _, _ => false
  | .tryk b c i j, sc, s => match s with
    | .Try body [.ExceptHandler (some (.Name x _)) (some n) [.Assign [.Name y _] (.Name n2 _) _] _] [] [] _ => !C.hot && !C.nn && decide (C.cls.lookup c = some x) && glB sc x && okName x && decide (C.N[i]? = some n) && decide (n2 = n) && okName n && lclB sc n && decide (C.N[j]? = some y) && lclB sc y && chkB { C with at0 := false } b sc body
    | _ => false
  | .trya b c i j f, sc, s => match s with
    | .Try body [.ExceptHandler (some (.Name x _)) (some n) [.Assign [.Name y _] (.Attribute (.Name n2 _) fs _) _] _] [] [] _ => !C.hot && !C.nn && decide (C.cls.lookup c = some x) && glB sc x && okName x && decide (C.N[i]? = some n) && decide (n2 = n) && okName n && lclB sc n && decide (C.N[j]? = some y) && lclB sc y && decide (fs = fldS f) && chkB { C with at0 := false } b sc body
    | _ => false
  | .fst f x e, sc, s => match s with
    | .Assign [.Attribute o y _] v _ => decide (fieldN[f]? = some y) && noLc e && chkE C x sc o && chkE C e sc v
    | _ => false
  | .dst x k e, sc, s => match s with
    | .Assign [.Subscript o j _] v _ => noLc e && chkE C x sc o && chkE C k sc j && chkE C e sc v
    | _ => false
  | .trym b hs, sc, s => match s with
    | .Try body (h :: hds) [] [] _ => !C.hot && !C.nn && chkB { C with at0 := false } b sc body && chkH C hs sc (h :: hds)
    | _ => false
  | .tryr b c c2, sc, s => match s with
    | .Try body [.ExceptHandler (some (.Name x _)) none [.Raise (some (.Call (.Name y _) [.Constant (.str _) _ _] [] _)) (some (.Constant .none _ _)) _] _] [] [] _ =>
      !C.hot && !C.nn && C.at0 && decide (C.cls.lookup c = some x) && glB sc x && okName x && decide (C.cls.lookup c2 = some y) && glB sc y && okName y && C.pl.contains c2 && chkB { C with at0 := false, nn := true, fns := C.nf } b sc body
    | _ => false
  | .nope, _, _ => true
  | _, _, _ => false
/-- a block -/
def chkB (C : Ct) : Sm → Scope → List Stmt → Bool
  | .nil, _, ss => match ss with
    | [] => true
    | _ => false
  | .seq a b, sc, ss => match ss with
    | s :: r => chkS C a sc s && chkB C b sc r
    | [] => false
  | _, _, _ => false
/-- the clauses of a try -/
def chkH (C : Ct) : Hds → Scope → List ExceptHandler → Bool
  | .nil, _, hs => match hs with
    | [] => true
    | _ => false
  | .cons c i b r, sc, hs => match hs with
    | .ExceptHandler (some (.Name x _)) on (s0 :: ss) _ :: hds => decide (C.cls.lookup c = some x) && glB sc x && okName x && (match on, i with
      | none, none => true
      | some n, some i => decide (C.N[i]? = some n) && lclB sc n && okName n
      | _, _ => false) && chkB { C with hot := true, at0 := false } b sc (s0 :: ss) && chkH C r sc hds
    | _ => false
end
end Dp

end
section
set_option Elab.async false
set_option linter.all false
set_option maxRecDepth 100000
set_option maxHeartbeats 4000000
/-! Xj: the __init__ of such an error. -/
namespace Dp
open PySem PySem.Spec PyProof.Rows L2
/-- what «HallError.__init__(self, text); self.f = f» does -/
def spI (K : PySem.W.Frag) (f : Str) : Sp := fun vs H Q E => ∃ (a C : Addr) (y : V), vs = [.ref a, y] ∧ OexC K C ∧ PySem.W.findIn K (.ref C) f = some none ∧ H a = some (exo a C none) ∧ ∀ dx, H dx = none → dx ≠ a → Q .non (upd (upd H dx (exd dx [(f, y)])) a (exo a C (some dx)))
section
variable {P : Program} {w : World} {K : PySem.W.Frag} {mg : Str → Option Value} {base : Heap}
/-- C(e), C such an own error -/
def tMkF (C : Addr) (f : Str) (ta : TA) : L2.St → Hp → XK → Prop := fun σ H Q => ta σ H fun vs H1 => ∃ y, vs = [y] ∧ ∀ d, H1 d = none → Q (.ref C) (some d) (upd H1 d (.xd [(f, y)]))
theorem pa_weak {X : Cx} {es : List Expr} {ta : TA} (ha : PA X es ta) : PA X es (fun σ H R => ∃ Q' : List V → Hp → Prop, ta σ H Q' ∧ ∀ vs H1, Q' vs H1 → R vs H1) :=
  ⟨fun pos pins s σ H R I ⟨Q', h, w⟩ => thn (ha.run pos pins s σ H Q' I h) fun us s1 ⟨vs, H1, I1, r, q⟩ => ⟨vs, H1, I1, r, w vs H1 q⟩⟩
theorem pmk_fld {X : Cx} {CX : CXT} {e : Expr} {ta : TA} {x f : Str} {C fI : Addr} {k : Nat} {fd : FuncData} {p pos : Pos} (T : OexC X.K C) (hno : PySem.W.findIn X.K (.ref C) f = some none) (iC : PySem.W.findIn X.K (.ref C) "__init__" = some (some (.ref fI))) (tI : PySem.W.typeIn X.K (.ref fI) = some (.type "function"))
    (F1 : FnOk X.prog X.w X.K X.mg X.base CX k fI fd ["self", f] (spI X.K f)) (hr : Room (k + 1) X.A) (hb : Binds X.K fd ["self", f] []) (hx : Passes CX X (fun _ _ _ => False)) (hg : Gl X x) (hm : X.mg x = some (.ref C)) (ha : PA X [e] ta)
    (hdb : (x == ("__debug__" : Str)) = false) (he : starEach (e :: []) X.env = (false, eval e X.env) :: starEach [] X.env) (hpl : (backTo pos (starEach [] X.env)).any (·.1) = false := by rfl) :
    PMk X (.Call (.Name x p) [e] [] pos) (tMkF C f ta) := by
  intro pins s σ H Q I h
  refine pmk_oex (dvs := []) T iC tI F1 hr hb .nil hx hg hm (pa_weak ha) hdb he hpl pins s σ H Q I ⟨_, h, fun vs H1 ⟨y, ev, hq⟩ => ?_⟩
  subst ev
  refine ⟨by simp, fun a na => ⟨a, C, y, rfl, T, hno, upd_same, fun dx nd nda => ?_⟩⟩
  have n1 : H1 dx = none := by
    rw [upd_ne nda] at nd
    exact nd
  refine ⟨rfl, dx, [(f, y)], upd_same, ?_, n1, ?_⟩
  · rw [upd_ne nda, upd_same]
  · have e1 : upd (del (upd (upd (upd H1 a (exo a C none)) dx (exd dx [(f, y)])) a (exo a C (some dx))) a) dx (.xd [(f, y)]) = upd H1 dx (.xd [(f, y)]) := by
      funext b
      by_cases h1 : b = dx
      · rw [h1, upd_same, upd_same]
      · rw [upd_ne h1, upd_ne h1]
        by_cases h2 : b = a
        · rw [h2, del_same, na]
        · rw [del_ne h2, upd_ne h2, upd_ne h1, upd_ne h2]
    rw [e1]
    exact hq dx n1
end
end Dp

end
section
set_option Elab.async false
set_option linter.all false
set_option maxRecDepth 100000
set_option maxHeartbeats 4000000
/-! Sl: slices of lists with a step. -/
namespace Dp
open PySem PySem.Spec PyProof.Rows L2
theorem pick_len {α : Type} (xs : List α) (ix : List Nat) : (pick xs ix).length ≤ ix.length := by
  unfold pick
  exact List.length_filterMap_le _ _
theorem pick_none {α : Type} {xs : List α} {i : Nat} {ix : List Nat} (h : xs[i]? = none) : pick xs (i :: ix) = pick xs ix := by
  unfold pick
  rw [List.filterMap_cons_none h]
theorem pick_some {α : Type} {xs : List α} {i : Nat} {ix : List Nat} {x : α} (h : xs[i]? = some x) : pick xs (i :: ix) = x :: pick xs ix := by
  unfold pick
  rw [List.filterMap_cons_some h]
theorem Reps.pick {K : PySem.W.Frag} {M : Ms} {H : Hp} {ds : List D} {vs : List V} (r : Reps K M H ds vs) : ∀ ix : List Nat, Reps K M H (pick ds ix) (Dp.pick vs ix)
  | [] => rfl
  | i :: ix => by
    have ih := Reps.pick r ix
    cases h : ds[i]? with
    | none =>
      have h2 : vs[i]? = none := by
        rw [List.getElem?_eq_none_iff] at h ⊢
        rw [← r.length]; exact h
      rw [pick_none h, pick_none h2]
      exact ih
    | some d =>
      obtain ⟨v, h2, h3⟩ := r.get h
      rw [pick_some h, pick_some h2]
      exact ⟨v, _, rfl, h3, ih⟩
theorem vals_pick {xs : List V} {us : List Value} (r : Vals xs us) : ∀ ix : List Nat, Vals (pick xs ix) (pick us ix)
  | [] => .nil
  | i :: ix => by
    have ih := vals_pick r ix
    cases h : xs[i]? with
    | none =>
      have h2 : us[i]? = none := by
        rw [List.getElem?_eq_none_iff] at h ⊢
        rw [← r.length]; exact h
      rw [pick_none h, pick_none h2]
      exact ih
    | some d =>
      obtain ⟨v, h2, h3⟩ := r.get h
      rw [pick_some h, pick_some h2]
      exact .cons h3 ih
theorem idxs_len {n : Nat} {lo hi : Option Int} {k : Int} {ix : List Nat} (h : idxs n lo hi k = some ix) : ix.length ≤ n := by
  unfold idxs at h
  split at h
  · cases h
    rw [List.length_map, List.length_range]
    have h1 := HT.sIx_le n n (Nat.le_refl _) hi
    rw [← sIx_eq] at h1
    rename_i hk
    obtain ⟨m, hm⟩ : ∃ m, k.toNat = m + 1 := ⟨k.toNat - 1, by omega⟩
    rw [hm]
    obtain ⟨c, hc⟩ : ∃ c, c = sIx n n hi - sIx n 0 lo := ⟨_, rfl⟩
    have hcn : c ≤ n := by omega
    rw [← hc]
    refine Nat.le_trans ?_ hcn
    by_cases h0 : c = 0
    · subst h0
      rw [Nat.div_eq_of_lt (by omega)]
      omega
    · refine Nat.div_le_of_le_mul ?_
      have h3 : m ≤ m * c := Nat.le_mul_of_pos_right m (by omega)
      rw [Nat.add_mul]
      omega
  · split at h
    · cases h
      rw [List.length_map, List.length_range]
      exact Nat.le_refl _
    · cases h
theorem slice_pick (us : List Value) (lo hi : Option Int) (k : Int) {ix : List Nat} (h : idxs us.length lo hi k = some ix) : slicePick us.toArray lo hi (some k) = (pick us ix).toArray := by
  unfold slicePick pick
  congr 1
  have key : sliceRange (sliceBounds lo hi (some k) us.toArray.size).1 (sliceBounds lo hi (some k) us.toArray.size).2.1 (sliceBounds lo hi (some k) us.toArray.size).2.2 = ix := by
    rw [List.size_toArray]
    unfold idxs at h
    split at h
    · rename_i hk
      cases h
      have e1 : (sliceBounds lo hi (some k) us.length).1 = ((sIx us.length 0 lo : Nat) : Int) := by
        rw [sIx_eq]
        cases lo with
        | none => simp [sliceBounds, HT.sIx, hk]
        | some i =>
          simp only [sliceBounds, HT.sIx, Option.getD_some, show k > 0 from hk, if_true]
          by_cases h : i < 0
          · simp only [h, if_true] <;> omega
          · simp only [h, if_false] <;> omega
      have e2 : (sliceBounds lo hi (some k) us.length).2.1 = ((sIx us.length us.length hi : Nat) : Int) := by
        rw [sIx_eq]
        cases hi with
        | none => simp [sliceBounds, HT.sIx, hk]
        | some i =>
          simp only [sliceBounds, HT.sIx, Option.getD_some, show k > 0 from hk, if_true]
          by_cases h : i < 0
          · simp only [h, if_true] <;> omega
          · simp only [h, if_false] <;> omega
      have e3 : (sliceBounds lo hi (some k) us.length).2.2 = k := rfl
      rw [e1, e2, e3]
      generalize sIx us.length 0 lo = a
      generalize sIx us.length us.length hi = b
      unfold sliceRange
      simp only [show k > 0 from hk, if_true]
      have hc : (if (a : Int) < b then ((b : Int) - a + k - 1) / k else 0).toNat = (b - a + k.toNat - 1) / k.toNat := by
        obtain ⟨m, rfl⟩ : ∃ m : Nat, k = m := ⟨k.toNat, by omega⟩
        rw [Int.toNat_natCast]
        split
        · have : (b : Int) - a + m - 1 = ((b - a + m - 1 : Nat) : Int) := by omega
          rw [this]
          rw [← Int.natCast_ediv, Int.toNat_natCast]
        · rw [Nat.div_eq_of_lt (by omega)]
          rfl
      rw [hc]
      refine List.map_congr_left fun j _ => ?_
      obtain ⟨m, rfl⟩ : ∃ m : Nat, k = m := ⟨k.toNat, by omega⟩
      rw [Int.toNat_natCast, ← Int.natCast_mul, ← Int.natCast_add, Int.toNat_natCast, Nat.mul_comm]
    · split at h
      · rename_i hk
        cases h
        obtain ⟨rfl, rfl, rfl⟩ := hk
        simp only [sliceBounds, Option.getD_some, show ¬ ((-1 : Int) > 0) by decide, if_false]
        unfold sliceRange
        simp only [show ¬ ((-1 : Int) > 0) by decide, if_false]
        have hc : (if ((us.length : Int) - 1) > -1 then ((us.length : Int) - 1 - -1 - -1 - 1) / - -1 else 0).toNat = us.length := by
          split
          · rw [show (- -1 : Int) = 1 by decide, Int.ediv_one]; omega
          · show (0 : Int).toNat = _; omega
        rw [hc]
        refine List.map_congr_left fun j hj => ?_
        omega
      · cases h
  rw [key]
  congr 1
  funext i
  simp
section
variable {X : Cx} {e : Expr} {te ts : TE} {lo hi : Option Expr} {tl th : TO} {pos p2 : Pos} {st : Expr}
/-- xs[lo:hi:k] of a list -/
def rSl3 (K : PySem.W.Frag) : V → Option Int → Option Int → V → Hp → VK → Prop := fun x lo hi y H Q => ∃ a xs k ix, x = .ref a ∧ y = .int k ∧ SqL K H a xs ∧ idxs xs.length lo hi k = some ix ∧ ∀ p, H p = none → Q (.ref p) (upd H p (.lst (pick xs ix)))
def tSl3 (K : PySem.W.Frag) (te : TE) (tl th : TO) (ts : TE) : TE := fun σ H Q => te σ H fun x H1 => tl σ H1 fun l H2 => th σ H2 fun u H3 => ts σ H3 fun y H4 => rSl3 K x l u y H4 Q
theorem pe_slice3 (he : PE X e te) (hl : PO X lo tl) (hu : PO X hi th) (hst : PE X st ts) : PE X (.Subscript e (.Slice lo hi (some st) p2) pos) (tSl3 X.K te tl th ts) := by
  refine ⟨fun pins s σ H Q I h => ?_⟩
  refine Subscript_ (thn (he.run pins s σ H _ I h) fun v s1 ⟨x, H1, I1, r1, q1⟩ => ?_)
  refine wpAny_Slice (thn (hl.run pins s1 σ H1 _ I1 q1) fun vl s2 ⟨l, H2, I2, pl, q2⟩ => thn (hu.run pins s2 σ H2 _ I2 q2) fun vu s3 ⟨u, H3, I3, pu, q3⟩ => ?_)
  rw [evalPart_some]
  refine thn (hst.run pins s3 σ H3 _ I3 q3) fun vk s4 ⟨y, H4, I4', r4, q4⟩ => ?_
  obtain ⟨a, xs, k, ix, rfl, rfl, hx, hix, q⟩ := q4
  obtain ⟨tk, rfl⟩ := r4
  have I4 : Inv X pins σ H4 { s4 with heap := s4.heap.push { cls := .type "slice", data := .fields #[vl, vu, .int k tk] } } := I4'.kept (t' := s4.toks) fun b ob q => Heap.get?_push_of_some _ q
  cases r1
  obtain ⟨its, r, ht, hz⟩ := I4.list hx
  have hlen := r.length
  have hk0 : k ≠ 0 := fun z => by subst z; unfold idxs at hix; simp at hix
  refine tail_any (ops := [.ref a, .ref s4.heap.objs.size]) ht.isList.typeIs slot_list_getitem.lookup ?_ (by with_unfolding_all rfl)
  refine wpAny_getItem_list_slice ht.isList (Heap.IsSliceOf.new ..) pl pu (.int k tk) (by simp [hk0]) ?_ (by rw [List.size_toArray] <;> omega)
  rw [slice_pick its l u k (by rw [← hlen]; exact hix)]
  refine ⟨.ref _, _, I4.laid (t' := s4.toks) (o := .lst (pick xs ix)) (fun b ob q => Heap.get?_push_of_some _ q) (Nat.le_refl _) ?_, rfl, q _ (I4.hok.fresh (Nat.le_refl _))⟩
  refine ⟨Nat.le_trans (pick_len xs ix) (Nat.le_trans (idxs_len hix) hz), _, 0, vals_pick r ix, Heap.get?_push_size _ rfl⟩
end
end Dp

end
section
set_option Elab.async false
set_option linter.all false
set_option maxRecDepth 100000
/-! Ez: enumerate of a tuple. -/
namespace PySem
open Sem (wp)
open AutoSeq1 (wpAny_loadPart')
theorem meets_enumerate_newT (l : Addr) (items : Array Value) :
    Meets (Builtin.«enumerate.__new__» ⟨[.type "enumerate", .ref l], []⟩) (fun _ R s => s.heap.IsTuple l items ∧
      R (.ok (.ret (.ref (s.heap.push { cls := .type "tuple_iterator", data := .fields #[.ref l, .int 0 0] }).objs.size)))
        { s with heap := (s.heap.push { cls := .type "tuple_iterator", data := .fields #[.ref l, .int 0 0] }).push { cls := .type "enumerate", data := .fields #[.none, .bool false, .ref s.heap.objs.size, rawInt 0, .none, .none] } }) :=
  .of_wp fun prog w A R s h => by
    obtain ⟨hp, g, d, tk, os⟩ := s; obtain ⟨hL, h⟩ := h
    have hsub := sub_enumerate
    have hL : Heap.IsTuple (Shared.heap ⟨hp, g, d, tk, os⟩) l items := hL
    wp_walk
    refine wpAny_stack_any fun st => wpAny_pure ?_
    split
    · rename_i c _ _ _ _ _
      cases (c == Value.type "enumerate")
      · wp_walk using wpAny_pyIter_tuple hL
        exact ⟨_, rfl, h⟩
      · wp_walk using wpAny_pyIter_tuple hL
        exact ⟨_, rfl, h⟩
    · wp_walk using wpAny_pyIter_tuple hL
      exact ⟨_, rfl, h⟩
section
variable {prog : Program} {w : World} {A : Around} {E : Value → Shared → Prop} {s : Shared}
theorem call_enumerate_tuple {l : Addr} {items : Array Value} {Q : Value → Shared → Prop} (hL : s.heap.IsTuple l items)
    (h : ∀ h', IsEnum h' (s.heap.objs.size + 1) s.heap.objs.size 0 .none → h'.IsTupleIter s.heap.objs.size l 0 → h'.objs.size = s.heap.objs.size + 2 →
      (∀ b o, s.heap.get? b = some o → h'.get? b = some o) → Q (.ref (s.heap.objs.size + 1)) { s with heap := h' }) :
    wpAny (model prog w) A (call (.type "enumerate") [.ref l]) Q E s := by
  refine callType_new F.called_enumerate (by decide) (F.typeCall_enumerate_1 _) (F.newCall_enumerate_1 _) (fun obj => F.args_object_init_2 obj _) F.entry_enumerate_new
    (meets_enumerate_newT l items) ⟨hL, ?_⟩
  have hz : (s.heap.push { cls := .type "tuple_iterator", data := .fields #[.ref l, .int 0 0] }).objs.size = s.heap.objs.size + 1 := Heap.size_push ..
  show _ ∧ _
  rw [hz]
  have he : IsEnum ((s.heap.push { cls := .type "tuple_iterator", data := .fields #[.ref l, .int 0 0] }).push
      { cls := .type "enumerate", data := .fields #[.none, .bool false, .ref s.heap.objs.size, rawInt 0, .none, .none] }) (s.heap.objs.size + 1) s.heap.objs.size 0 .none := by
    have := Heap.get?_push_size (s.heap.push { cls := .type "tuple_iterator", data := .fields #[.ref l, .int 0 0] })
      (o := { cls := .type "enumerate", data := .fields #[.none, .bool false, .ref s.heap.objs.size, rawInt 0, .none, .none] }) rfl
    rw [hz] at this; exact this
  refine ⟨⟨_, he, rfl⟩, h _ he ⟨_, Heap.get?_push_of_some _ (Heap.get?_push_size _ rfl), rfl, rfl⟩ (by rw [Heap.size_push, hz]) fun b o x => Heap.get?_push_of_some _ (Heap.get?_push_of_some _ x)⟩
end
end PySem
namespace Dp
open PySem PySem.Spec PyProof.Rows L2
/-- the tuple at a as it stands at each turn, each item in a new pair -/
def IteT (K : PySem.W.Frag) (a : Addr) : It :=
  ⟨fun i H => ∃ (xs : List V) (x : V), SqT K H a xs ∧ xs[i]? = some x, fun i H v H' => ∃ T x, v = .ref T ∧ H T = none ∧ H' = upd H T (.tup [.int (i : Nat), x]) ∧ ∀ xs, SqT K H a xs → xs[i]? = some x, fun i H => ∃ xs : List V, SqT K H a xs ∧ xs.length ≤ i⟩
theorem turn_enumT {P : Program} {w : World} {K : PySem.W.Frag} {elts : List Expr} {kk : Nat} {tpos : Pos} (a e it : Addr) :
    Turn P w K (.Tuple elts kk tpos) (IteT K a) [e, it] e (fun i h => (∃ old, IsEnum h e it ((i : Nat) : Int) old) ∧ h.IsTupleIter it a i ∧ e ≠ it) where
  mem := by simp
  obj := fun i h st b hb => by
    obtain ⟨⟨old, he⟩, ⟨o, ho, hc, hd⟩, _⟩ := st
    have e' : b = e ∨ b = it := by simpa using hb
    rcases e' with z | z
    · rw [z]; exact ⟨_, he, fun v q => nomatch q⟩
    · rw [z]; exact ⟨o, ho, fun v q => by rw [hd] at q; cases q⟩
  keep := fun i h h' st k => let ⟨⟨old, he⟩, hi, hne⟩ := st; ⟨⟨old, k e (by simp) _ he⟩, hi.at fun o q => k it (by simp) o q, hne⟩
  item := by
    intro X hP hw hK hc i pins s σ H E I hf st hg
    subst hP hw hK
    obtain ⟨⟨old, he⟩, hit, hne⟩ := st
    obtain ⟨xs, x, hq, hx⟩ := hg
    obtain ⟨its, rv, p, hz⟩ := I.tuple hq
    obtain ⟨u, hu, ru⟩ := rv.get hx
    have hel : e < s.heap.objs.size := Heap.lt_size he
    have hil : it < s.heap.objs.size := by obtain ⟨_, q, _⟩ := hit; exact Heap.lt_size q
    have hia : a ≠ it := fun q => by
      subst q
      obtain ⟨o1, h1, c1, _⟩ := hit
      obtain ⟨o2, h2, c2, _⟩ := p
      rw [h1] at h2
      cases h2
      rw [c1] at c2
      injection c2 with c2
      exact absurd c2 (by decide)
    have hea : e ≠ a := fun q => by
      subst q
      obtain ⟨o2, h2, c2, _⟩ := p
      have he' : s.heap.get? e = _ := he
      rw [he'] at h2
      cases h2
      injection c2 with c2
      exact absurd c2 (by decide)
    have D := Draws.tuple (prog := X.prog) (w := X.w) (A := X.A.in1) (by exact I.ok.hd hc) it a hia its.toArray
    have hlt : i < its.toArray.size := by
      have := (List.getElem?_eq_some_iff.mp hu).1
      simpa using this
    refine wpAny_pyNext_enum_itemD D he ⟨hit, p⟩ hlt hne (by simp [hne, hea]) fun x' h' tk hP' ho hs' hT hsz hk => ?_
    have hxu : x' = u := by
      have h1 : its.toArray[i]? = some x' := hP'
      rw [List.getElem?_toArray, hu] at h1
      cases h1
      rfl
    subst hxu
    obtain ⟨hit', _⟩ := hs'
    refine ⟨_, rfl, wpAny_letOwnedTupleGo_enum (s := { s with heap := h', toks := tk + 1 }) ho fun h'' he' sb => ?_⟩
    have hT2 : h''.get? s.heap.objs.size = some { cls := .type "tuple", data := .seq #[.int i tk, x'] } := (sb.2 _ (Nat.ne_of_gt hel)).trans hT
    have new : ObjOk X.prog X.w (upd H s.heap.objs.size (.tup [.int (i : Nat), x])) h'' s.heap.objs.size (.tup [.int (i : Nat), x]) :=
      ⟨by show 2 ≤ sizeLine; decide, [.int i tk, x'], .cons ⟨_, rfl⟩ (.cons ru .nil), ⟨_, hT2, rfl, _, rfl⟩⟩
    have I1 : Inv X pins σ (upd H s.heap.objs.size (.tup [.int (i : Nat), x])) { s with heap := h'', toks := tk + 1 } :=
      I.turnedNew (ch := [e, it]) (fun b ob hb q => (sb.2 b (fun z => hb (by simp [z]))).trans (hk b ob (fun z => hb (by simp [z])) (fun z => hb (by simp [z])) q)) hf (Nat.le_refl _) new
    refine ⟨.ref s.heap.objs.size, _, I1, rfl, ⟨_, x, rfl, I.hok.fresh (Nat.le_refl _), rfl, fun ys hy => by rw [I.tuple_inj hy hq]; exact hx⟩, ⟨⟨x', ?_⟩, hit'.at fun o q => (sb.2 it (Ne.symm hne)).trans q, hne⟩, fun b hb => ?_⟩
    · have e1 : ((i + 1 : Nat) : Int) = (i : Int) + 1 := by omega
      rw [e1]; exact he'
    · have hb' : b < s.heap.objs.size := by
        have e' : b = e ∨ b = it := by simpa using hb
        rcases e' with z | z
        · rw [z]; exact hel
        · rw [z]; exact hil
      rw [upd_ne (Nat.ne_of_lt hb')]
      exact (hf b hb).1
  done := by
    intro X hP hw hK hc i pins s σ H E I hf st hg
    subst hP hw hK
    obtain ⟨⟨old, he⟩, hit, hne⟩ := st
    obtain ⟨xs, hq, hx⟩ := hg
    obtain ⟨its, rv, p, hz⟩ := I.tuple hq
    obtain ⟨f0, f1, f2, f3, f4, f5⟩ := hf it (by simp)
    have hl := rv.length
    have hia : a ≠ it := fun q => by
      subst q
      obtain ⟨o1, h1, c1, _⟩ := hit
      obtain ⟨o2, h2, c2, _⟩ := p
      rw [h1] at h2
      cases h2
      rw [c1] at c2
      injection c2 with c2
      exact absurd c2 (by decide)
    have D : Draws X.prog X.w X.A.in1 it [it, a] i (fun _ _ => True) (fun j h => j = i ∧ h.IsTupleIter it a i ∧ h.IsTuple a its.toArray) := {
      live := fun _ _ st => let ⟨o, ho, _⟩ := st.2.1; ⟨o, ho⟩
      frame := fun _ _ _ st hk => ⟨st.1, st.2.1.at fun o e => hk it (by simp) o e, st.2.2.at fun o e => hk a (by simp) o e⟩
      item := fun j s Q E hi st hQ => by have := st.1; omega
      done := fun s Q E st hE => wpAny_nextOf_tuple_end (by exact I.ok.hd hc) st.2.1 st.2.2 (by simp; omega) hE }
    exact wpAny_pyNext_enum_endD D he ⟨rfl, hit, p⟩ fun h' eb => ⟨rfl, I.turned (t' := s.toks) (fun b o hb q => eb b o hb q) f0 f1 f3 f4 f5⟩
  self := fun A i s Q E st h => let ⟨⟨_, he⟩, _⟩ := st; wpAny_pyIter_enum he h
def iEnumA (K : PySem.W.Frag) (ta : TA) : TI := fun σ H R => ta σ H fun vs H1 => ∃ a xs, vs = [.ref a] ∧ ((SqL K H1 a xs ∧ R (Ite K a) H1) ∨ (SqT K H1 a xs ∧ R (IteT K a) H1))
theorem pi_enumA {X : Cx} {e : Expr} {ta : TA} {p pos tpos : Pos} {elts : List Expr} {kk : Nat} (hg : Gl X "enumerate") (hm : X.mg "enumerate" = none) (ha : PA X [e] ta) (hs : starEach [e] X.env = [(false, eval e X.env)] := by rfl) :
    PI X (.Tuple elts kk tpos) (.Call (.Name "enumerate" p) [e] [] pos) (iEnumA X.K ta) := by
  refine ⟨fun pins s σ H R I h => ?_⟩
  refine Call_ (ld_blt I hg hm boot_enumerate (PyProof.Rows.callWith_type1 (thn (ha.run pos pins s σ H _ I h) fun us s1 ⟨vs, H1, I1, r1, q1⟩ => ?_) hs rfl))
  obtain ⟨a, xs, ex, q1⟩ := q1
  subst ex
  cases r1 with
  | cons r rr =>
    cases rr
    cases r
    have fresh : ∀ b, b ∈ [s1.heap.objs.size + 1, s1.heap.objs.size] → FpOk X pins H1 b := fun b hb => by
      have e' : b = s1.heap.objs.size + 1 ∨ b = s1.heap.objs.size := by simpa using hb
      have hle : s1.heap.objs.size ≤ b := by
        rcases e' with z | z
        · rw [z]; exact Nat.le_add_right _ _
        · rw [z]; exact Nat.le_refl _
      exact I1.fpOk hle (I1.hok.fresh hle)
    rcases q1 with ⟨hq, q⟩ | ⟨hq, q⟩
    · obtain ⟨its, rv, p', hz⟩ := I1.list hq
      refine call_enumerate_list p'.isList fun h' he hit hsz hk => wpAny_pyIter_enum he ?_
      have I2 : Inv X pins σ H1 { s1 with heap := h' } := I1.kept (t' := s1.toks) hk
      exact ⟨s1.heap.objs.size + 1, [s1.heap.objs.size + 1, s1.heap.objs.size], _, _, H1, rfl, I2, turn_enum a (s1.heap.objs.size + 1) s1.heap.objs.size, ⟨⟨.none, he⟩, hit, Nat.succ_ne_self _⟩, fresh, q⟩
    · obtain ⟨its, rv, p', hz⟩ := I1.tuple hq
      refine call_enumerate_tuple p' fun h' he hit hsz hk => wpAny_pyIter_enum he ?_
      have I2 : Inv X pins σ H1 { s1 with heap := h' } := I1.kept (t' := s1.toks) hk
      exact ⟨s1.heap.objs.size + 1, [s1.heap.objs.size + 1, s1.heap.objs.size], _, _, H1, rfl, I2, turn_enumT a (s1.heap.objs.size + 1) s1.heap.objs.size, ⟨⟨.none, he⟩, hit, Nat.succ_ne_self _⟩, fresh, q⟩
end Dp

end
section
set_option Elab.async false
set_option linter.all false
set_option maxRecDepth 100000
set_option maxHeartbeats 4000000
/-! Snd: checked code does what its evaluation says. -/
namespace Dp
open PySem PySem.Spec PyProof.Rows L2

/-! ### heads -/
def goodHead : Expr → Bool
  | .Dict _ _ _ => true
  | .BoolOp _ _ _ => true
  | .BinOp _ _ _ _ => true
  | .UnaryOp _ _ _ => true
  | .IfExp _ _ _ _ => true
  | .ListComp _ _ _ _ => true
  | .Compare _ _ _ _ => true
  | .Call _ _ _ _ => true
  | .Constant _ _ _ => true
  | .Subscript _ _ _ => true
  | .Name _ _ => true
  | .List _ _ => true
  | .Tuple _ _ _ => true
  | .Attribute _ _ _ => true
  | _ => false
def compHead : Expr → Bool
  | .ListComp _ _ _ _ => true
  | _ => false
theorem chk_head {C : Ct} {e : Ex} {sc : Scope} {v : Expr} (h : chkE C e sc v = true) : goodHead v = true := by
  cases v <;> first | rfl | skip
  all_goals (cases e <;> simp [chkE] at h)
theorem chk_noLc {C : Ct} {e : Ex} {sc : Scope} {v : Expr} (h : chkE C e sc v = true) (n : noLc e = true) : compHead v = false := by
  cases v <;> first | rfl | skip
  cases e <;> first | (simp [noLc] at n; done) | (simp [chkE] at h; done)
section
variable {v : Expr} (h : goodHead v = true)
include h
theorem head_star (es : List Expr) (env : Env) : starEach (v :: es) env = (false, eval v env) :: starEach es env := by
  cases v <;> first | (cases h; done) | rfl
theorem head_ix : PlainIx v := by
  intro o i
  cases v <;> first | (cases h; done) | rfl
theorem head_fold (env : Env) (x : Value) : foldedSetIterable v env x = pure x := by
  cases v <;> first | (cases h; done) | rfl
theorem head_slice : NoSl v := by
  unfold NoSl
  intro ov iv
  cases v <;> first | (cases h; done) | rfl
theorem head_mark (op : CmpOp) : behindInMarks op v = false := by
  cases v <;> first | (cases h; done) | rfl
theorem head_sw (n : compHead v = false) (t : Option Expr) (l : Nat) (env : Env) : swapsWith v t l env = pure false := by
  cases v <;> first | (cases h; done) | (cases n; done) | rfl
end
theorem notSet_fold {v : Expr} (h : notSet v = true) (env : Env) (x : Value) : foldedSetIterable v env x = pure x := by
  cases v <;> first | (cases h; done) | rfl

/-! ### the context -/
def bltNames : List Str := ["len", "abs", "int", "str", "tuple", "list", "sum", "any", "all", "max", "min", "range", "enumerate", "zip", "reversed", "isinstance", "bool", "ValueError"]
/-- what a def promises, as its evaluation says -/
def spOf (K : PySem.W.Frag) (CA : Nat → Option Addr) (φ : List D → Sto → Ans D) (n : Nat) : Sp := fun vs H Q E =>
  ∃ M st ds, StoOk K M H st ∧ Reps K M H ds vs ∧ vs.length = n ∧ Got K CA M H (Rep K) E (φ ds st) Q
/-- what the classes say of one another -/
structure Xcs (K : PySem.W.Frag) (w : Wd) : Prop where
  exc : ∀ (c c' : Nat) (b : Bool) (D : Addr), w.sub c c' = some b → caOf K c = some D → ExcC K D
  em : ∀ (c c' : Nat) (b : Bool) (D D' : Addr), w.sub c c' = some b → caOf K c = some D → caOf K c' = some D' → PySem.W.exmOne K (.ref D) (.ref D') = some b ∧ PySem.W.kitOne K (.ref D) (.ref D') = some b
  ve : ∀ (c : Nat) (b : Bool) (D : Addr), w.sub c 1000 = some b → caOf K c = some D → PySem.W.kitOne K (.ref D) (.type "ValueError") = some b
  no : ∀ (c : Nat) (b : Bool) (D : Addr), w.sub c c = some b → caOf K c = some D → PySem.W.kitOne K (.type "NoneType") (.ref D) = some false
  nf : ∀ (c : Nat) (b : Bool) (D : Addr), w.sub c c = some b → caOf K c = some D → PySem.W.findIn K (.ref D) (fldS (fldOf c)) = some none
/-- a def that stands there: what it promises by its evaluation -/
structure FnC (P : Program) (w : World) (K : PySem.W.Frag) (mg : Str → Option Value) (base : Heap) (CX : CXT) (CA : Nat → Option Addr) (k : Nat) (fa : Addr) (fd : FuncData) (ps : List Str) (φ : List D → Sto → Ans D) : Prop where
  b : Binds K fd ps []
  ok : FnOk P w K mg base CX (2 * k + 40) fa fd ps (spOf K CA φ ps.length)
  len : ∀ xs st, φ xs st ≠ none → xs.length = ps.length
/-- what isinstance needs of the class of an instance -/
structure InsT (K : PySem.W.Frag) (C : Addr) : Prop where
  c : Cls K C
  ha : PySem.W.findIn K (.ref C) "__class__" = some (some (.builtin "object.__class__"))
  hn : PySem.W.specialIn K (.builtin "object.__class__") "__get__" = some (some (.builtin "getset_descriptor.__get__"))
  ht : PySem.W.takesIn K (.builtin "object.__class__") = some true
  hm : PySem.W.mroIn K C (.type "object") = some true
structure Cok (C : Ct) (w : Wd) (Φ : Nat → List D → Sto → Ans D) (CA : Nat → Option Addr) (X : Cx) (W : WX) (sc : Scope) (k : Nat) : Prop where
  xk : Xk X k C.hot
  hN : X.N = C.N
  nd : C.N.Nodup
  sc : X.env.scope = sc
  tk : TK C.nn X W
  hw : C.hot = true → ∀ cls d σ H, ¬ W cls d σ H
  fn : C.hot = false → ∀ (f : Nat) (x : Str), C.fns.lookup f = some x → ∃ (fa : Addr) (fd : FuncData) (ps : List Str), X.mg x = some (.ref fa) ∧ PySem.W.keepIn X.K (.ref fa) = true ∧ FnC X.prog X.w X.K X.mg X.base (CXb C.nn X.prog X.w) CA k fa fd ps (Φ f)
  fnN : ∀ (f : Nat) (x : Str), C.nf.lookup f = some x → ∃ (fa : Addr) (fd : FuncData) (ps : List Str), X.mg x = some (.ref fa) ∧ PySem.W.keepIn X.K (.ref fa) = true ∧ FnC X.prog X.w X.K X.mg X.base (CXb true X.prog X.w) CA k fa fd ps (Φ f)
  fnH : ∀ (f : Nat) (x : Str), C.hf.lookup f = some x → ∃ (fa : Addr) (fd : FuncData) (ps : List Str), X.mg x = some (.ref fa) ∧ PySem.W.keepIn X.K (.ref fa) = true ∧ Binds X.K fd ps [] ∧
    FnQ X.prog X.w X.K X.mg X.base (2 * k + 40) fa fd ps (spOf X.K CA (Φ f) ps.length) ∧ ∀ xs st, Φ f xs st ≠ none → xs.length = ps.length
  fo : ∀ (c f : Nat), w.fok c f = true → ∃ (Cc : Addr) (x : Str), CA c = some Cc ∧ fieldN[f]? = some x ∧ Cls X.K Cc ∧ NoAttr X.K Cc x
  mt : C.hot = false → C.nn = false → ∀ (c m g : Nat), w.mth c m = some g → ∃ (Cc fa : Addr) (fd : FuncData) (ps : List Str) (x : Str), CA c = some Cc ∧ methN[m]? = some x ∧ Cls X.K Cc ∧ Meth X.K Cc x fa ∧ FnC X.prog X.w X.K X.mg X.base (CXb C.nn X.prog X.w) CA k fa fd ps (Φ g)
  mkk : C.hot = false → C.nn = false → ∀ (c g : Nat) (x : Str), w.ini c = some g → C.ocl.lookup c = some x → ∃ (Cc fa : Addr) (fd : FuncData) (ps : List Str), CA c = some Cc ∧ X.mg x = some (.ref Cc) ∧ Mk X.K Cc fa ∧ FnC X.prog X.w X.K X.mg X.base (CXb C.nn X.prog X.w) CA k fa fd ps (Φ g)
  ib : C.hot = false → C.nn = false → ∀ (c g : Nat) (x : Str), w.ini c = some g → C.ib.contains c = true → C.ocl.lookup c = some x → ∃ (Cc fa : Addr) (fd : FuncData) (ps : List Str), CA c = some Cc ∧ X.mg x = some (.ref Cc) ∧ CFun X.K Cc "__init__" fa ∧ FnC X.prog X.w X.K X.mg X.base (CXb C.nn X.prog X.w) CA k fa fd ps (Φ g)
  isn : ∀ (c c' : Nat) (b : Bool) (Cc Dc : Addr), w.isn c c' = some b → CA c = some Cc → CA c' = some Dc → InsT X.K Cc ∧ PySem.W.kitOne X.K (.ref Cc) (.ref Dc) = some b
  oc : ∀ (c : Nat) (x : Str), C.ocl.lookup c = some x → ∃ Dc, CA c = some Dc ∧ X.mg x = some (.ref Dc)
  fnd : C.hot = false → C.nn = false → ∀ (f : Nat) (x : Str) (i : Int), C.fns.lookup f = some x → C.df.lookup f = some i → ∃ (fa : Addr) (fd : FuncData) (ps : List Str) (dvs : List Value), X.mg x = some (.ref fa) ∧ PySem.W.keepIn X.K (.ref fa) = true ∧ Binds X.K fd ps dvs ∧ Vals [V.int i] dvs ∧
    FnOk X.prog X.w X.K X.mg X.base (CXb C.nn X.prog X.w) (2 * k + 40) fa fd ps (spOf X.K CA (Φ f) ps.length) ∧ ∀ xs st, Φ f xs st ≠ none → xs.length = ps.length
  bl : ∀ x ∈ bltNames, X.mg x = none
  gl : ∀ (g : Nat) (x : Str) (d : D), C.gls.lookup g = some x → w.glb g = some d → ∃ (v : V) (u : Value), X.mg x = some u ∧ RelV v u ∧ (∀ M H, Rep X.K M H d v) ∧ (∀ ds, d = .tup ds → ∃ (p : Addr) (o : Obj), v = .ref p ∧ X.K.lookup p = some o ∧ o.cls = .type "tuple" ∧ o.dict = none)
  ca : CA = caOf X.K
  xs : Xcs X.K w
  cl : ∀ (c : Nat) (x : Str), C.cls.lookup c = some x → ∃ Cc, CA c = some Cc ∧ X.mg x = some (.ref Cc) ∧ PySem.W.keepIn X.K (.ref Cc) = true ∧ Raises X (.ref Cc) ∧
    (C.pl.contains c = true → PySem.W.excIn X.K Cc [.type "ValueError", .type "Exception", .type "BaseException", .type "object"] "ValueError.__new__" = true)
  fl : ∀ (c : Nat), C.fl.contains c = true → ∃ (Cc fI : Addr) (fd : FuncData), CA c = some Cc ∧ OexC X.K Cc ∧ PySem.W.findIn X.K (.ref Cc) (fldS (fldOf c)) = some none ∧ PySem.W.findIn X.K (.ref Cc) "__init__" = some (some (.ref fI)) ∧ PySem.W.typeIn X.K (.ref fI) = some (.type "function") ∧
    Binds X.K fd ["self", fldS (fldOf c)] [] ∧ ∀ j, FnOk X.prog X.w X.K X.mg X.base (L2.CX X.prog X.w) (j + 1) fI fd ["self", fldS (fldOf c)] (spI X.K (fldS (fldOf c)))
section
variable {C : Ct} {w : Wd} {Φ : Nat → List D → Sto → Ans D} {CA : Nat → Option Addr} {X : Cx} {W : WX} {sc : Scope} {k : Nat}
theorem Cok.vis (c : Cok C w Φ CA X W sc k) {x : Str} (h : visB sc x = true) : Vis X.env.scope x := by
  rw [c.sc]
  unfold visB at h
  split at h <;> first | exact .inl (by assumption) | exact .inr (.inl (by assumption)) | exact .inr (.inr (by assumption)) | cases h
theorem Cok.loc (c : Cok C w Φ CA X W sc k) {x : Str} (h : locB sc x = true) : Loc X.env.scope x := by
  rw [c.sc]
  unfold locB at h
  split at h <;> first | exact .inl (by assumption) | exact .inr (by assumption) | cases h
theorem Cok.gl' (c : Cok C w Φ CA X W sc k) {x : Str} (h : glB sc x = true) : Gl X x := by
  show X.env.scope.names.lookup x = _
  rw [c.sc]
  unfold glB at h
  split at h <;> first | assumption | cases h
theorem okName_d {x : Str} (h : okName x = true) : (x == ("__debug__" : Str)) = false := by
  unfold okName at h
  simp only [Bool.and_eq_true, Bool.not_eq_true', decide_eq_false_iff_not] at h
  exact beq_eq_false_iff_ne.mpr h.1
theorem okName_c {x : Str} (h : okName x = true) : (x == ("__classdict__" : Str)) = false := by
  unfold okName at h
  simp only [Bool.and_eq_true, Bool.not_eq_true', decide_eq_false_iff_not] at h
  exact beq_eq_false_iff_ne.mpr h.2
theorem Cok.blk (c : Cok C w Φ CA X W sc k) (s : Shared) (H : Hp) (scope : Scope) (cl : List (Str × Addr)) (Cd : Addr) (fp : List Addr) : Cok C w Φ CA (X.blk s H scope (compEnvC scope cl Cd X.env) fp) (fun _ _ _ _ => False) (relS scope sc) k :=
  ⟨⟨c.xk.calm, c.xk.cold, c.xk.room, c.xk.seer, c.xk.tree, c.xk.stk⟩, c.hN, c.nd, by rw [← c.sc]; rfl, tk_none, (fun _ _ _ _ _ z => z), c.fn, c.fnN, c.fnH, c.fo, c.mt, c.mkk, c.ib, c.isn, c.oc, c.fnd, c.bl, c.gl, c.ca, c.xs, c.cl, c.fl⟩
/-- which names may be stored -/
def Sto1 (X : Cx) (x : Str) : Prop := X.fn x = true ∨ X.env.scope.names.lookup x = some .local
theorem blk_sto {s : Shared} {H : Hp} {scope : Scope} {cl : List (Str × Addr)} {Cd : Addr} {fp : List Addr} {x : Str} (h : locB scope x = true) : Sto1 (X.blk s H scope (compEnvC scope cl Cd X.env) fp) x := by
  unfold locB at h
  split at h
  · exact .inr (lookup_relS_keep (by decide) (by assumption))
  · refine .inl ?_
    show (scope.names.lookup x == some .cell) = true
    rename_i hq
    rw [hq]; rfl
  · cases h

/-! ### readings -/
def isB (_ : Ms) (_ : Hp) (a b : Bool) : Prop := b = a
variable (C w Φ CA)
def tE (K : PySem.W.Frag) (W : WX) (c : Ex) : TE := fun σ H Q => ∃ M env st, StoOk K M H st ∧ EnvOk K M H env σ ∧ Got K CA M H (Rep K) (fun cls d H' => W cls d σ H') (ev w Φ c env st) Q
def tT (K : PySem.W.Frag) (W : WX) (c : Ex) : TT := fun σ H Q => ∃ M env st, StoOk K M H st ∧ EnvOk K M H env σ ∧ Got K CA M H isB (fun cls d H' => W cls d σ H') (evt w Φ c env st) Q
def tA (K : PySem.W.Frag) (W : WX) (c : Exs) : TA := fun σ H Q => ∃ M env st, StoOk K M H st ∧ EnvOk K M H env σ ∧ Got K CA M H (Reps K) (fun cls d H' => W cls d σ H') (evs w Φ c env st) Q
def RepO (K : PySem.W.Frag) (M : Ms) (H : Hp) : Option D → Option Int → Prop
  | none, o => o = none
  | some d, o => ∃ i, d = .int i ∧ o = some i
end
theorem PE.imp {X : Cx} {e : Expr} {t t' : TE} (h : PE X e t) (i : ∀ σ H Q, t' σ H Q → t σ H Q) : PE X e t' := ⟨fun pins s σ H Q I q => h.run pins s σ H Q I (i σ H Q q)⟩
theorem PT.imp {X : Cx} {e : Expr} {t t' : TT} (h : PT X e t) (i : ∀ σ H Q, t' σ H Q → t σ H Q) : PT X e t' := ⟨fun pins s σ H Q I q => h.run pins s σ H Q I (i σ H Q q)⟩
theorem PA.imp {X : Cx} {e : List Expr} {t t' : TA} (h : PA X e t) (i : ∀ σ H Q, t' σ H Q → t σ H Q) : PA X e t' := ⟨fun pos pins s σ H Q I q => h.run pos pins s σ H Q I (i σ H Q q)⟩
theorem PS.imp {X : Cx} {e : Stmt} {t t' : TS} (h : PS X e t) (i : ∀ D σ H, t' D σ H → t D σ H) : PS X e t' := ⟨fun pins s σ H D I q => h.run pins s σ H D I (i D σ H q)⟩
theorem PSs.imp {X : Cx} {e : List Stmt} {t t' : TS} (h : PSs X e t) (i : ∀ D σ H, t' D σ H → t D σ H) : PSs X e t' := ⟨fun pins s σ H D I q => h.run pins s σ H D I (i D σ H q)⟩
theorem PG.imp {X : Cx} {e : Expr} {t t' : TG} (h : PG X e t) (i : ∀ v σ H Q, t' v σ H Q → t v σ H Q) : PG X e t' := ⟨fun pins s σ H v u Q I r q => h.run pins s σ H v u Q I r (i v σ H Q q)⟩

/-! ### targets -/
section
variable {C : Ct} {w : Wd} {Φ : Nat → List D → Sto → Ans D} {CA : Nat → Option Addr} {X : Cx} {W : WX} {sc : Scope} {k : Nat}
def tgSto (X : Cx) : Expr → Prop
  | .Name x _ => Sto1 X x
  | .Tuple es _ _ => ∀ e ∈ es, ∀ x p, e = .Name x p → Sto1 X x
  | _ => True
def setV : List Nat → List V → L2.St → L2.St
  | i :: is, v :: vs, σ => setV is vs (σ.set i (some v))
  | _, _, σ => σ
def gDs (is : List Nat) : TGs := fun vs σ H Q => vs.length = is.length ∧ Q (setV is vs σ) H
theorem each_len : ∀ {is : List Nat} {es : List Expr} {N : List Str} {sc : Scope} {env : Env}, tgB.go N sc is es = true → (assignEach es env).length = is.length ∧ (assignEach es env).findIdx? (·.1) = none
  | [], [], _, _, _, _ => ⟨rfl, rfl⟩
  | [], _ :: _, _, _, _, h => by simp [tgB.go] at h
  | i :: is, [], _, _, _, h => by simp [tgB.go] at h
  | i :: is, e :: es, N, sc, env, h => by
    cases e <;> first | (simp [tgB.go] at h; done) | skip
    simp only [tgB.go, Bool.and_eq_true] at h
    obtain ⟨h1, h2⟩ := each_len (env := env) h.2
    refine ⟨?_, ?_⟩
    · show (assignEach es env).length + 1 = _
      rw [h1]; rfl
    · show ((false, _) :: assignEach es env).findIdx? (·.1) = none
      rw [List.findIdx?_cons, h2]
      rfl
theorem pgsD (c : Cok C w Φ CA X W sc k) : ∀ {is : List Nat} {es : List Expr}, tgB.go C.N sc is es = true → (∀ e ∈ es, ∀ x p, e = .Name x p → Sto1 X x) → PGs X es (gDs is)
  | [], [], _, _ => ⟨fun pins s σ H vs us Q I r h => by
    obtain ⟨hl, q⟩ := h
    cases vs with
    | nil => cases r; exact assignInOrder_nil ⟨σ, H, I, q⟩
    | cons _ _ => simp at hl⟩
  | [], _ :: _, h, _ => by simp [tgB.go] at h
  | i :: is, [], h, _ => by simp [tgB.go] at h
  | i :: is, e :: es, h, hf => by
    cases e <;> first | (simp [tgB.go] at h; done) | skip
    rename_i x p
    simp only [tgB.go, Bool.and_eq_true, decide_eq_true_eq] at h
    have h1 : PG X (.Name x p) (gName i) := pg_name (by rw [c.hN]; exact c.nd) (by rw [c.hN]; exact h.1.1) (c.loc h.1.2) (hf _ List.mem_cons_self x p rfl)
    have h2 := pgsD c h.2 (fun e he => hf e (List.mem_cons_of_mem _ he))
    have h3 := pgs_cons h1 h2
    refine ⟨fun pins s σ H vs us Q I r hq => h3.run pins s σ H vs us Q I r ?_⟩
    obtain ⟨hl, q⟩ := hq
    cases vs with
    | nil => simp at hl
    | cons v vs => exact ⟨v, vs, rfl, by simpa using hl, q⟩
/-- a, b = .. -/
def gT (K : PySem.W.Frag) (is : List Nat) : TG := fun v σ H Q => ∃ a vs, v = .ref a ∧ (SqT K H a vs ∨ Rd H a (.lst vs)) ∧ vs.length = is.length ∧ Q (setV is vs σ) H
def gA (K : PySem.W.Frag) : Tg → TG
  | .nm i => gName i
  | .tp is => gT K is
theorem setAll_len : ∀ {is : List Nat} {ds : List D} {env env' : Nv}, setAll is ds env = some env' → is.length = ds.length
  | [], [], _, _, _ => rfl
  | [], _ :: _, _, _, h => by simp [setAll] at h
  | _ :: _, [], _, _, h => by simp [setAll] at h
  | i :: is, d :: ds, env, env', h => by simp only [setAll] at h; simp [setAll_len h]
theorem setAll_ok {K : PySem.W.Frag} {M : Ms} {H : Hp} : ∀ {is : List Nat} {ds : List D} {vs : List V} {env env' : Nv} {σ : L2.St}, EnvOk K M H env σ → Reps K M H ds vs → setAll is ds env = some env' → EnvOk K M H env' (setV is vs σ)
  | [], [], _, _, _, _, he, hr, h => by cases hr; simp [setAll] at h; subst h; exact he
  | [], _ :: _, _, _, _, _, _, _, h => by simp [setAll] at h
  | _ :: _, [], _, _, _, _, _, _, h => by simp [setAll] at h
  | i :: is, d :: ds, _, env, env', σ, he, ⟨v, r, e, r1, r2⟩, h => by
    subst e
    simp only [setAll] at h
    exact setAll_ok (is := is) (he.set i r1) r2 h
theorem wipe_set {σ : L2.St} {i : Nat} {o : Option V} : ∀ {own : List Nat}, i ∈ own → L2.wipe (σ.set i o) own = L2.wipe σ own
  | v :: vs, h => by
    unfold L2.wipe
    by_cases hv : i = v
    · subst hv
      by_cases hm : i ∈ vs
      · rw [wipe_set hm]
      · have : ∀ (l : List Nat), L2.wipe (σ.set i o) l = (L2.wipe σ l).set i o ∨ L2.wipe (σ.set i o) l = L2.wipe σ l := fun l => by
          induction l with
          | nil => exact .inl rfl
          | cons a l ih =>
            unfold L2.wipe
            by_cases ha : a = i
            · subst ha
              rcases ih with ih | ih
              · rw [ih, List.set_set]; exact .inr rfl
              · rw [ih]; exact .inr rfl
            · rcases ih with ih | ih
              · rw [ih, List.set_comm _ _ (fun z => ha z.symm)]; exact .inl rfl
              · rw [ih]; exact .inr rfl
        rcases this vs with q | q
        · rw [q, List.set_set]
        · rw [q]
    · rw [wipe_set (List.mem_of_ne_of_mem hv h)]
  | [], h => by simp at h
theorem wipe_setV {own : List Nat} : ∀ {is : List Nat} {vs : List V} {σ : L2.St}, (∀ i ∈ is, i ∈ own) → L2.wipe (setV is vs σ) own = L2.wipe σ own
  | [], _, _, _ => by simp [setV]
  | i :: is, [], _, _ => by simp [setV]
  | i :: is, v :: vs, σ, h => by
    simp only [setV]
    rw [wipe_setV fun j hj => h j (List.mem_cons_of_mem _ hj), wipe_set (h i List.mem_cons_self)]
theorem pgA (c : Cok C w Φ CA X W sc k) {tg : Tg} {t : Expr} (hh : C.hot = false ∨ tgNm tg = true) (h : tgB C.N sc tg t = true) (hf : tgSto X t) : PG X t (gA X.K tg) := by
  cases tg with
  | nm i =>
    cases t <;> first | (simp [tgB] at h; done) | skip
    rename_i x p
    simp only [tgB, Bool.and_eq_true, decide_eq_true_eq] at h
    exact pg_name (by rw [c.hN]; exact c.nd) (by rw [c.hN]; exact h.1) (c.loc h.2) hf
  | tp is =>
    cases t <;> first | (simp [tgB] at h; done) | skip
    rename_i es kk p
    simp only [tgB] at h
    obtain ⟨h1, h2⟩ := each_len (env := X.env) h
    have hp := pgsD c h hf
    refine ⟨fun pins s σ H v u Q I r hq => ?_⟩
    obtain ⟨a, vs, rfl, hr, hl, q⟩ := hq
    have hl' : vs.length = (assignEach es X.env).length := by rw [h1, hl]
    rcases hr with hr | hr
    · exact (pg_tup (c.xk.calm (hh.resolve_right (by simp [tgNm]))) hp hl'.symm h2).run pins s σ H _ u Q I r ⟨a, vs, rfl, hr, rfl, hl, q⟩
    · exact (pg_lst (c.xk.calm (hh.resolve_right (by simp [tgNm]))) hp hl'.symm h2).run pins s σ H _ u Q I r ⟨a, vs, rfl, .inl hr, rfl, hl, q⟩
theorem repW_of {K : PySem.W.Frag} {M : Ms} {H : Hp} {d : D} {v : V} (r : Rep K M H d v) (h : ∀ l, d ≠ .ref l) : RepW K M H d v := by
  cases d with
  | ref l => exact absurd rfl (h l)
  | lst ds => obtain ⟨a, vs, e, h1, h2⟩ := r; exact ⟨a, vs, e, h1.2, h2⟩
  | _ => exact r
theorem gT_of {K : PySem.W.Frag} {M : Ms} {H : Hp} {env env' : Nv} {σ : L2.St} {d : D} {v : V} {is : List Nat} {Q : L2.St → Hp → Prop} (he : EnvOk K M H env σ) (r : RepW K M H d v) (ha : asgn (.tp is) d env = some env')
    (q : ∀ vs, EnvOk K M H env' (setV is vs σ) → Q (setV is vs σ) H) : gT K is v σ H Q := by
  cases d <;> first | (simp [asgn] at ha; done) | skip
  · obtain ⟨a, vs, rfl, r1, r2⟩ := r
    simp only [asgn] at ha
    exact ⟨a, vs, rfl, .inl r1, by rw [← r2.length, setAll_len ha], q vs (setAll_ok he r2 ha)⟩
  · obtain ⟨a, vs, rfl, r1, r2⟩ := r
    simp only [asgn] at ha
    exact ⟨a, vs, rfl, .inr r1, by rw [← r2.length, setAll_len ha], q vs (setAll_ok he r2 ha)⟩
theorem gA_of {K : PySem.W.Frag} {M : Ms} {H : Hp} {env env' : Nv} {σ : L2.St} {d : D} {v : V} {tg : Tg} {Q : L2.St → Hp → Prop} (he : EnvOk K M H env σ) (r : Rep K M H d v) (ha : asgn tg d env = some env')
    (q : ∀ σ', EnvOk K M H env' σ' → (∀ own, tgOwn own tg = true → L2.wipe σ' own = L2.wipe σ own) → Q σ' H) : gA K tg v σ H Q := by
  cases tg with
  | nm i =>
    simp only [asgn] at ha
    cases ha
    exact q _ (he.set i r) fun own ho => wipe_set (by simpa [tgOwn] using ho)
  | tp is =>
    refine gT_of he (repW_of r fun l e => ?_) ha fun vs hv => q _ hv fun own ho => wipe_setV fun i hi => ?_
    · subst e
      simp [asgn] at ha
    · simp only [tgOwn, List.all_eq_true] at ho
      simpa using ho i hi
end

/-! ### what is walked -/
/-- an iterator yields these data, whatever has happened to the cells -/
def Yields (K : PySem.W.Frag) (M : Ms) (H : Hp) (J : L2.It) (xs : List D) : Prop :=
  ∀ i M1 H1, ExtW M H M1 H1 → NoTup M1 H1 → match xs[i]? with
    | none => J.stop i H1
    | some d => J.go i H1 ∧ ∀ x H2, J.yld i H1 x H2 → ∃ o : Option (Addr × HO), (match o with
        | none => H2 = H1
        | some (p, u) => H1 p = none ∧ H2 = upd H1 p u) ∧ Rep K M1 H2 d x
/-- .. of a list of the store at a -/
def Walks1 (K : PySem.W.Frag) (J : L2.It) (a : Addr) : Prop := J = Itl K a
def SrcOk (K : PySem.W.Frag) (M : Ms) (H : Hp) (s : Src) (J : L2.It) : Prop := match s with
  | .its xs => Yields K M H J xs
  | .cel e l => ∃ a, M.c[l]? = some a ∧ J = if e then Ite K a else Itl K a
section
variable {K : PySem.W.Frag} {M : Ms} {H : Hp}
theorem yields_list {a : Addr} {vs : List V} {ds : List D} (f : FzL M H a vs) (r : Reps K M H ds vs) (n : NoTup M H) : Yields K M H (Itl K a) ds := by
  intro i M1 H1 e n1
  have f1 := e.fzL f
  have r1 := Reps.extW e n r
  split
  · rename_i h
    exact ⟨vs, f1.sqL, by rw [← r.length]; exact List.getElem?_eq_none_iff.mp h⟩
  · rename_i d h
    obtain ⟨v, hv, rv⟩ := r1.get h
    refine ⟨⟨vs, v, f1.sqL, hv⟩, fun x H2 y => ⟨none, y.1, ?_⟩⟩
    obtain ⟨rfl, y2⟩ := y
    have := y2 vs f1.sqL
    rw [hv] at this
    cases this
    exact rv
theorem yields_tup {a : Addr} {vs : List V} {ds : List D} (f : SqT K H a vs) (r : Reps K M H ds vs) (n : NoTup M H) : Yields K M H (Itt K a) ds := by
  intro i M1 H1 e n1
  have f1 := e.sqT n f
  have r1 := Reps.extW e n r
  split
  · rename_i h
    exact ⟨vs, f1, by rw [← r.length]; exact List.getElem?_eq_none_iff.mp h⟩
  · rename_i d h
    obtain ⟨v, hv, rv⟩ := r1.get h
    refine ⟨⟨vs, v, f1, hv⟩, fun x H2 y => ⟨none, y.1, ?_⟩⟩
    obtain ⟨rfl, y2⟩ := y
    have := y2 vs f1
    rw [hv] at this
    cases this
    exact rv
theorem yields_rng {lo : Int} {n : Nat} : Yields K M H (Itr lo n) ((List.range n).map fun (k : Nat) => D.int (lo + (k : Int))) := by
  intro i M1 H1 e n1
  by_cases hi : i < n
  · have : ((List.range n).map fun (k : Nat) => D.int (lo + (k : Int)))[i]? = some (D.int (lo + i)) := by simp [hi]
    rw [this]
    exact ⟨hi, fun x H2 y => ⟨none, y.1, y.2⟩⟩
  · have : ((List.range n).map fun (k : Nat) => D.int (lo + (k : Int)))[i]? = none := by simp; omega
    rw [this]
    exact Nat.le_of_not_lt hi
theorem yields_str {z : List Nat} : Yields K M H (Its (strV z)) (z.map fun c => .str [c]) := by
  intro i M1 H1 e n1
  by_cases hi : i < z.length
  · have : (z.map fun c => D.str [c])[i]? = some (D.str [z[i]]) := by simp [hi]
    rw [this]
    refine ⟨by show i < z.toArray.size; simpa using hi, fun x H2 y => ⟨none, y.1, ?_⟩⟩
    obtain ⟨_, c, hc, rfl⟩ := y
    have hc' : z.toArray[i]? = some c := hc
    simp [hi] at hc'
    subst hc'
    rfl
  · have : (z.map fun c => D.str [c])[i]? = none := by simp; omega
    rw [this]
    show z.toArray.size ≤ i
    simp; omega
theorem numbered_get : ∀ (xs : List D) (k i : Nat), (numbered k xs)[i]? = xs[i]?.map fun x => .tup [.int ((k + i : Nat) : Int), x]
  | [], _, _ => by simp [numbered]
  | x :: xs, k, 0 => by simp [numbered]
  | x :: xs, k, i + 1 => by
    simp only [numbered, List.getElem?_cons_succ]
    rw [numbered_get xs (k + 1) i]
    congr 1
    funext y
    congr 4
    omega
theorem yields_enm {a : Addr} {vs : List V} {ds : List D} (f : FzL M H a vs) (r : Reps K M H ds vs) (n : NoTup M H) : Yields K M H (Ite K a) (numbered 0 ds) := by
  intro i M1 H1 e n1
  have f1 := e.fzL f
  have r1 := Reps.extW e n r
  rw [numbered_get]
  cases h : ds[i]? with
  | none => exact ⟨vs, f1.sqL, by rw [← r.length]; exact List.getElem?_eq_none_iff.mp h⟩
  | some d =>
    obtain ⟨v, hv, rv⟩ := r1.get h
    refine ⟨⟨vs, v, f1.sqL, hv⟩, fun x H2 y => ?_⟩
    obtain ⟨T, z, rfl, hT, rfl, y2⟩ := y
    have := y2 vs f1.sqL
    rw [hv] at this
    cases this
    refine ⟨some (T, _), ⟨hT, rfl⟩, T, _, rfl, SqT.of upd_same, .int (i : Nat), [v], rfl, ?_, v, [], rfl, Rep.extW (ExtW.new hT) n1 rv, rfl⟩
    show V.int _ = V.int _
    simp
theorem yields_enmT {a : Addr} {vs : List V} {ds : List D} (f : SqT K H a vs) (r : Reps K M H ds vs) (n : NoTup M H) : Yields K M H (IteT K a) (numbered 0 ds) := by
  intro i M1 H1 e n1
  have f1 := e.sqT n f
  have r1 := Reps.extW e n r
  rw [numbered_get]
  cases h : ds[i]? with
  | none => exact ⟨vs, f1, by rw [← r.length]; exact List.getElem?_eq_none_iff.mp h⟩
  | some d =>
    obtain ⟨v, hv, rv⟩ := r1.get h
    refine ⟨⟨vs, v, f1, hv⟩, fun x H2 y => ?_⟩
    obtain ⟨T, z, rfl, hT, rfl, y2⟩ := y
    have := y2 vs f1
    rw [hv] at this
    cases this
    refine ⟨some (T, _), ⟨hT, rfl⟩, T, _, rfl, SqT.of upd_same, .int (i : Nat), [v], rfl, ?_, v, [], rfl, Rep.extW (ExtW.new hT) n1 rv, rfl⟩
    show V.int _ = V.int _
    simp
theorem zip_get (xs ys : List D) (i : Nat) : ((xs.zip ys).map fun p => D.tup [p.1, p.2])[i]? = match xs[i]?, ys[i]? with
    | some x, some y => some (.tup [x, y])
    | _, _ => none := by
  rw [List.getElem?_map]
  cases h1 : xs[i]? with
  | none =>
    have : (xs.zip ys)[i]? = none := by
      rw [List.getElem?_eq_none_iff] at h1 ⊢
      rw [List.length_zip]; omega
    rw [this]; rfl
  | some x =>
    cases h2 : ys[i]? with
    | none =>
      have : (xs.zip ys)[i]? = none := by
        rw [List.getElem?_eq_none_iff] at h2 ⊢
        rw [List.length_zip]; omega
      rw [this]; rfl
    | some y =>
      have : (xs.zip ys)[i]? = some (x, y) := by
        rw [List.getElem?_zip_eq_some]
        exact ⟨h1, h2⟩
      rw [this]; rfl
theorem reps_two {p q : D} {v w : V} (h1 : Rep K M H p v) (h2 : Rep K M H q w) : Reps K M H [p, q] [v, w] := ⟨v, [w], rfl, h1, w, [], rfl, h2, rfl⟩
theorem yields_zipL {a b : Addr} {vs ws : List V} {ds es : List D} (f : FzL M H a vs) (r : Reps K M H ds vs) (g : FzL M H b ws) (t : Reps K M H es ws) (n : NoTup M H) : Yields K M H (Itz K a b) ((ds.zip es).map fun p => .tup [p.1, p.2]) := by
  intro i M1 H1 e n1
  have f1 := e.fzL f
  have r1 := Reps.extW e n r
  have g1 := e.fzL g
  have t1 := Reps.extW e n t
  rw [zip_get]
  cases h : ds[i]? with
  | none => exact ⟨vs, ws, f1.sqL, g1.sqL, .inl (by rw [← r.length]; exact List.getElem?_eq_none_iff.mp h)⟩
  | some d =>
    cases h' : es[i]? with
    | none => exact ⟨vs, ws, f1.sqL, g1.sqL, .inr (by rw [← t.length]; exact List.getElem?_eq_none_iff.mp h')⟩
    | some d' =>
      obtain ⟨v, hv, rv⟩ := r1.get h
      obtain ⟨w, hw, rw'⟩ := t1.get h'
      refine ⟨⟨vs, ws, v, w, f1.sqL, g1.sqL, hv, hw⟩, fun x H2 y => ?_⟩
      obtain ⟨T, z, z', rfl, hT, rfl, y2, y3⟩ := y
      have q1 := y2 vs f1.sqL
      have q2 := y3 ws g1.sqL
      rw [hv] at q1
      rw [hw] at q2
      cases q1
      cases q2
      exact ⟨some (T, _), ⟨hT, rfl⟩, T, _, rfl, SqT.of upd_same, Reps.extW (ExtW.new hT) n1 (reps_two rv rw')⟩
theorem yields_zipT {a b : Addr} {vs ws : List V} {ds es : List D} (f : SqT K H a vs) (r : Reps K M H ds vs) (g : SqT K H b ws) (t : Reps K M H es ws) (n : NoTup M H) : Yields K M H (RZ.ItzT K a b) ((ds.zip es).map fun p => .tup [p.1, p.2]) := by
  intro i M1 H1 e n1
  have f1 := e.sqT n f
  have r1 := Reps.extW e n r
  have g1 := e.sqT n g
  have t1 := Reps.extW e n t
  rw [zip_get]
  cases h : ds[i]? with
  | none => exact ⟨vs, ws, f1, g1, .inl (by rw [← r.length]; exact List.getElem?_eq_none_iff.mp h)⟩
  | some d =>
    cases h' : es[i]? with
    | none => exact ⟨vs, ws, f1, g1, .inr (by rw [← t.length]; exact List.getElem?_eq_none_iff.mp h')⟩
    | some d' =>
      obtain ⟨v, hv, rv⟩ := r1.get h
      obtain ⟨w, hw, rw'⟩ := t1.get h'
      refine ⟨⟨vs, ws, v, w, f1, g1, hv, hw⟩, fun x H2 y => ?_⟩
      obtain ⟨T, z, z', rfl, hT, rfl, y2, y3⟩ := y
      have q1 := y2 vs f1
      have q2 := y3 ws g1
      rw [hv] at q1
      rw [hw] at q2
      cases q1
      cases q2
      exact ⟨some (T, _), ⟨hT, rfl⟩, T, _, rfl, SqT.of upd_same, Reps.extW (ExtW.new hT) n1 (reps_two rv rw')⟩
theorem rev_get {α : Type} (xs : List α) (i : Nat) (h : i < xs.length) : xs.reverse[i]? = xs[xs.length - 1 - i]? := by
  rw [List.getElem?_reverse h]
theorem yields_revL {a : Addr} {vs : List V} {ds : List D} (f : FzL M H a vs) (r : Reps K M H ds vs) (n : NoTup M H) : Yields K M H (Itv K a vs.length) ds.reverse := by
  intro i M1 H1 e n1
  have f1 := e.fzL f
  have r1 := Reps.extW e n r
  have hl := r.length
  by_cases hi : i < ds.length
  · rw [rev_get _ _ hi]
    obtain ⟨v, hv, rv⟩ := r1.get (List.getElem?_eq_getElem (show ds.length - 1 - i < ds.length by omega))
    rw [List.getElem?_eq_getElem (show ds.length - 1 - i < ds.length by omega)]
    rw [hl] at hv
    refine ⟨⟨by omega, vs, v, f1.sqL, hv⟩, fun x H2 y => ⟨none, y.1, ?_⟩⟩
    obtain ⟨rfl, y2⟩ := y
    have := y2 vs f1.sqL
    rw [hv] at this
    cases this
    exact rv
  · rw [List.getElem?_eq_none (by simp; omega)]
    show vs.length ≤ i
    omega
theorem yields_revT {a : Addr} {vs : List V} {ds : List D} (f : SqT K H a vs) (r : Reps K M H ds vs) (n : NoTup M H) : Yields K M H (RT.ItvT K a vs.length) ds.reverse := by
  intro i M1 H1 e n1
  have f1 := e.sqT n f
  have r1 := Reps.extW e n r
  have hl := r.length
  by_cases hi : i < ds.length
  · rw [rev_get _ _ hi]
    obtain ⟨v, hv, rv⟩ := r1.get (List.getElem?_eq_getElem (show ds.length - 1 - i < ds.length by omega))
    rw [List.getElem?_eq_getElem (show ds.length - 1 - i < ds.length by omega)]
    rw [hl] at hv
    refine ⟨⟨by omega, vs, v, f1, hv⟩, fun x H2 y => ⟨none, y.1, ?_⟩⟩
    obtain ⟨rfl, y2⟩ := y
    have := y2 vs f1
    rw [hv] at this
    cases this
    exact rv
  · rw [List.getElem?_eq_none (by simp; omega)]
    show vs.length ≤ i
    omega
theorem yields_rngD {hi : Int} {n : Nat} : Yields K M H (Itc hi (-1) n) ((List.range n).map fun (k : Nat) => D.int (hi + (k : Int) * -1)) := by
  intro i M1 H1 e n1
  by_cases hl : i < n
  · have : ((List.range n).map fun (k : Nat) => D.int (hi + (k : Int) * -1))[i]? = some (D.int (hi + (i : Int) * -1)) := by simp [hl]
    rw [this]
    exact ⟨hl, fun x H2 y => ⟨none, y.1, y.2⟩⟩
  · have : ((List.range n).map fun (k : Nat) => D.int (hi + (k : Int) * -1))[i]? = none := by simp; omega
    rw [this]
    exact Nat.le_of_not_lt hl
theorem yields_rngS {lo k : Int} {n : Nat} : Yields K M H (Itc lo k n) ((List.range n).map fun (q : Nat) => D.int (lo + (q : Int) * k)) := by
  intro i M1 H1 e n1
  by_cases hl : i < n
  · have : ((List.range n).map fun (q : Nat) => D.int (lo + (q : Int) * k))[i]? = some (D.int (lo + (i : Int) * k)) := by simp [hl]
    rw [this]
    exact ⟨hl, fun x H2 y => ⟨none, y.1, y.2⟩⟩
  · have : ((List.range n).map fun (q : Nat) => D.int (lo + (q : Int) * k))[i]? = none := by simp; omega
    rw [this]
    exact Nat.le_of_not_lt hl
theorem rgC_step {i j k : Int} (h : 0 ≤ i ∧ i ≤ 1000000 ∧ 0 ≤ j ∧ j ≤ 1000000 ∧ 0 < k ∧ k ≤ 1000) : RgC i j k (rngN i j k) := by
  obtain ⟨h1, h2, h3, h4, h5, h6⟩ := h
  have hs : Builtin.Range.rangeSize i j k = ((rngN i j k : Nat) : Int) := by
    unfold Builtin.Range.rangeSize rngN
    rw [if_pos (by omega : k > 0)]
    by_cases hij : i < j
    · rw [if_pos hij, if_pos hij]
      have := Int.ediv_nonneg (a := j - i - 1) (b := k) (by omega) (by omega)
      omega
    · rw [if_neg hij, if_neg hij]
      rfl
  refine ⟨by omega, by omega, ?_, hs⟩
  have hb : Builtin.Range.rangeSize i j k ≤ 1000000 := by
    unfold Builtin.Range.rangeSize
    rw [if_pos (by omega : k > 0)]
    by_cases hij : i < j
    · rw [if_pos hij]
      have := Int.ediv_le_self k (show (0 : Int) ≤ j - i - 1 by omega)
      omega
    · rw [if_neg hij]; omega
  have hm : Builtin.Range.rangeSize i j k * k ≤ 1000000 * 1000 := by
    refine Int.le_trans (Int.mul_le_mul_of_nonneg_right hb (by omega)) (Int.mul_le_mul_of_nonneg_left h6 (by omega))
  have h0 : 0 ≤ Builtin.Range.rangeSize i j k * k := Int.mul_nonneg (by rw [hs]; omega) (by omega)
  unfold Builtin.Range.small
  simp only [Builtin.Range.rangeFitsLong, Bool.and_eq_true, Bool.or_eq_true, decide_eq_true_eq, beq_iff_eq]
  rw [if_pos (by omega : k > 0)]
  simp only [Bool.and_eq_true, Bool.or_eq_true, decide_eq_true_eq]
  omega
/-- a step of a walk over data -/
theorem src_its {M0 : Ms} {H0 : Hp} {J : L2.It} {xs : List D} {st : Sto} (r : Yields K M0 H0 J xs) (e : ExtW M0 H0 M H) (s : StoOk K M H st) (i : Nat) :
    (xs[i]? = none → J.stop i H) ∧ ∀ d, xs[i]? = some d → J.go i H ∧ ∀ x H', J.yld i H x H' → Ext M H M H' ∧ StoOk K M H' st ∧ Rep K M H' d x ∧ ∀ b o, H b = some o → H' b = some o := by
  have h := r i M H e s.noTup
  constructor
  · intro hn
    rw [hn] at h
    exact h
  · intro d hd
    rw [hd] at h
    refine ⟨h.1, fun x H' y => ?_⟩
    obtain ⟨o, ho, hr⟩ := h.2 x H' y
    cases o with
    | none =>
      have ho : H' = H := ho
      subst ho
      exact ⟨Ext.refl _ _, s, hr, fun _ _ q => q⟩
    | some pu =>
      obtain ⟨p, u⟩ := pu
      obtain ⟨hp, rfl⟩ : H p = none ∧ H' = upd H p u := ho
      exact ⟨Ext.new s hp, s.ext_new hp, hr, fun b o q => by rw [upd_ne (ne_of_none q hp)]; exact q⟩
/-- .. over a list of the store -/
theorem src_cel {M0 : Ms} {H0 : Hp} {st : Sto} {l : Nat} {a : Addr} {xs : List D} (hm : M0.c[l]? = some a) (e : ExtW M0 H0 M H) (s : StoOk K M H st) (hx : st[l]? = some (.lst xs)) (en : Bool) (i : Nat) :
    (xs[i]? = none → (if en then Ite K a else Itl K a).stop i H) ∧ ∀ d, xs[i]? = some d → (if en then Ite K a else Itl K a).go i H ∧ ∀ x H', (if en then Ite K a else Itl K a).yld i H x H' → Ext M H M H' ∧ StoOk K M H' st ∧ Rep K M H' (itm en i d) x ∧ ∀ b o, H b = some o → H' b = some o := by
  obtain ⟨vs, h1, h2⟩ := s.lst (e.get hm) hx
  constructor
  · intro hn
    cases en with
    | false => exact ⟨vs, .inl (.inl h1), by rw [← h2.length]; exact List.getElem?_eq_none_iff.mp hn⟩
    | true => exact ⟨vs, .inl (.inl h1), by rw [← h2.length]; exact List.getElem?_eq_none_iff.mp hn⟩
  · intro d hd
    obtain ⟨v, hv, rv⟩ := h2.get hd
    cases en with
    | false =>
      refine ⟨⟨vs, v, .inl (.inl h1), hv⟩, fun x H' y => ?_⟩
      obtain ⟨rfl, y2⟩ := y
      have := y2 vs (.inl (.inl h1))
      rw [hv] at this
      cases this
      exact ⟨Ext.refl _ _, s, rv, fun _ _ q => q⟩
    | true =>
      refine ⟨⟨vs, v, .inl (.inl h1), hv⟩, fun x H' y => ?_⟩
      obtain ⟨T, z, rfl, hT, rfl, y2⟩ := y
      have := y2 vs (.inl (.inl h1))
      rw [hv] at this
      cases this
      refine ⟨Ext.new s hT, s.ext_new hT, ⟨T, _, rfl, SqT.of upd_same, .int (i : Nat), [v], rfl, rfl, v, [], rfl, rv.ext (Ext.new s hT) s.noTup, rfl⟩, fun b o q => by rw [upd_ne (ne_of_none q hT)]; exact q⟩
end
end Dp

end
section
set_option Elab.async false
set_option linter.all false
set_option maxRecDepth 100000
set_option maxHeartbeats 4000000
/-! Sn2: walked things, expressions. -/
namespace Dp
open PySem PySem.Spec PyProof.Rows L2
section
variable {X : Cx} {tg : Expr}
/-- a list, a tuple, a text -/
def iAny (K : PySem.W.Frag) (tl : TE) : TI := fun σ H R => tl σ H fun x H1 => (∃ a, x = .ref a ∧ (∃ xs, SqL K H1 a xs) ∧ R (Itl K a) H1) ∨ (∃ a, x = .ref a ∧ (∃ xs, SqT K H1 a xs) ∧ R (Itt K a) H1) ∨ (∃ z, x = .str z ∧ R (Its z) H1)
theorem pi_any {l : Expr} {tl : TE} (hl : PE X l tl) : PI X tg l (iAny X.K tl) := by
  refine ⟨fun pins s σ H R I h => ?_⟩
  refine L2.thn (hl.run pins s σ H _ I h) fun v s1 ⟨x, H1, I1, r1, q1⟩ => ?_
  rcases q1 with ⟨a, e, ⟨xs, hq⟩, q⟩ | ⟨a, e, ⟨xs, hq⟩, q⟩ | ⟨z, e, q⟩
  · subst e
    cases r1
    obtain ⟨its, rv, p, hz⟩ := I1.list hq
    refine wpAny_pyIter_list p.isList ?_
    refine ⟨s1.heap.objs.size, [s1.heap.objs.size], _, _, H1, rfl, I1.kept (t' := s1.toks) fun b o e => Heap.get?_push_of_some _ e, turn_list a _, ⟨_, Heap.get?_push_size _ rfl, rfl, rfl⟩, fun b hb => ?_, q⟩
    have e : b = s1.heap.objs.size := by simpa using hb
    subst e
    exact I1.fpOk (Nat.le_refl _) (I1.hok.fresh (Nat.le_refl _))
  · subst e
    cases r1
    obtain ⟨its, rv, p, hz⟩ := I1.tuple hq
    refine wpAny_pyIter_tuple (show s1.heap.IsTuple a its.toArray from p) ?_
    refine ⟨s1.heap.objs.size, [s1.heap.objs.size], _, _, H1, rfl, I1.kept (t' := s1.toks) fun b o e => Heap.get?_push_of_some _ e, turn_tuple a _, ⟨_, Heap.get?_push_size _ rfl, rfl, rfl⟩, fun b hb => ?_, q⟩
    have e : b = s1.heap.objs.size := by simpa using hb
    subst e
    exact I1.fpOk (Nat.le_refl _) (I1.hok.fresh (Nat.le_refl _))
  · have h2 := pi_str (tg := tg) (X := X) (e := l) (te := fun σ' H' Q => Q (.str z) H1) 
    subst e
    obtain ⟨t, rfl⟩ := r1
    cases ha : z.cps.all (· < 128)
    · exact wpAny_pyIter_wide ha (pi_one (tk := s1.toks) I1 _ (turn_str _ z t "str_iterator" (.inr rfl)) ⟨_, Heap.get?_push_size _ rfl, rfl, rfl⟩ q)
    · exact wpAny_pyIter_ascii ha (pi_one (tk := s1.toks) I1 _ (turn_str _ z t "str_ascii_iterator" (.inl rfl)) ⟨_, Heap.get?_push_size _ rfl, rfl, rfl⟩ q)
theorem PI.imp {e : Expr} {t t' : TI} (h : PI X tg e t) (i : ∀ σ H Q, t' σ H Q → t σ H Q) : PI X tg e t' := ⟨fun pins s σ H Q I q => h.run pins s σ H Q I (i σ H Q q)⟩
end
section
variable (C : Ct) (w : Wd) (Φ : Nat → List D → Sto → Ans D) (CA : Nat → Option Addr)
def tI (K : PySem.W.Frag) (W : WX) (it : Wk) : TI := fun σ H R => ∃ M env st, StoOk K M H st ∧ EnvOk K M H env σ ∧ Got K CA M H (SrcOk K) (fun cls d H' => W cls d σ H') (evi w Φ it env st) R
end
section
variable {C : Ct} {w : Wd} {Φ : Nat → List D → Sto → Ans D} {CA : Nat → Option Addr} {X : Cx} {W : WX} {sc : Scope} {k : Nat}
theorem nostar1 {v : Expr} (h : goodHead v = true) (env : Env) : starEach [v] env = [(false, eval v env)] := head_star h [] env
theorem chkEs_star (c : Ct) : ∀ {as : Exs} {sc : Scope} {es : List Expr}, chkEs c as sc es = true → ∀ env, (starEach es env).any (·.1) = false
  | .nil, _, es, h, env => by
    cases es with
    | nil => rfl
    | cons _ _ => simp [chkEs] at h
  | .cons a r, sc, es, h, env => by
    cases es with
    | nil => simp [chkEs] at h
    | cons x xs =>
      simp only [chkEs, Bool.and_eq_true] at h
      rw [head_star (chk_head h.1) xs env, List.any_cons, chkEs_star c h.2 env]
      rfl
theorem back_any (pos : Pos) (l : List (Bool × Sem Value)) (h : l.any (·.1) = false) : (backTo pos l).any (·.1) = false := by
  unfold backTo
  rw [List.any_map]
  exact h

/-- the sound expression -/
abbrev SE (C : Ct) (w : Wd) (Φ : Nat → List D → Sto → Ans D) (CA : Nat → Option Addr) (e : Ex) : Prop :=
  ∀ (X : Cx) (W : WX) (sc : Scope) (k : Nat) (x : Expr), Cok C w Φ CA X W sc k → chkE C e sc x = true → PE X x (tE w Φ CA X.K W e)
theorem piS (c : Cok C w Φ CA X W sc k) {it : Wk} {t x : Expr} (h : chkI C it sc t x = true)
    (h1 : ∀ a, (it = .seq a ∨ it = .rng1 a ∨ it = .enm a ∨ it = .rev a ∨ (∃ b, it = .rng2 a b ∨ it = .rng2 b a ∨ it = .zip a b ∨ it = .zip b a) ∨ (∃ b d, it = .rng3 a b d ∨ it = .rng3 b a d ∨ it = .rng3 b d a)) → SE C w Φ CA a) : PI X t x (tI w Φ CA X.K W it) := by
  cases it with
  | seq a =>
    simp only [chkI] at h
    have ha := h1 a (.inl rfl) X W sc k x c h
    refine PI.imp (pi_any ha) fun σ H R ⟨M, env, st, hs, he, g⟩ => ⟨M, env, st, hs, he, ?_⟩
    refine Got.bnd g fun d s1 M1 H1 v e1 hs1 r1 g1 => ?_
    obtain ⟨src, hsrc, g2⟩ := g1.lft
    cases d <;> simp [srcs] at hsrc
    rotate_left 3
    · obtain ⟨a, rfl, hm⟩ := r1
      unfold lcel at hsrc
      simp only at hsrc
      split at hsrc
      · rename_i ys hy
        cases hsrc
        obtain ⟨xs, hx, _⟩ := hs1.lst hm hy
        exact .inl ⟨a, rfl, ⟨xs, .inl (.inl hx)⟩, g2.ok hs1 ⟨a, hm, rfl⟩⟩
      · cases hsrc
    · subst hsrc
      cases r1
      exact .inr (.inr ⟨_, rfl, g2.ok hs1 yields_str⟩)
    · subst hsrc
      obtain ⟨a, vs, rfl, f, r⟩ := r1
      exact .inr (.inl ⟨a, rfl, ⟨vs, f⟩, g2.ok hs1 (yields_tup f r hs1.noTup)⟩)
    · subst hsrc
      obtain ⟨a, vs, rfl, f, r⟩ := r1
      exact .inl ⟨a, rfl, ⟨vs, f.sqL⟩, g2.ok hs1 (yields_list f r hs1.noTup)⟩
  | rng1 a =>
    simp only [chkI] at h
    split at h <;> first | (cases h; done) | skip
    rename_i nm p y pos
    simp only [Bool.and_eq_true, decide_eq_true_eq] at h
    obtain ⟨⟨rfl, hg⟩, ha⟩ := h
    have he := h1 a (.inr (.inl rfl)) X W sc k y c ha
    refine PI.imp (pi_range1 (c.gl' hg) (c.bl _ (by decide)) (pa_cons he pa_nil (head_star (chk_head ha) [] _)) (nostar1 (chk_head ha) _)) fun σ H R ⟨M, env, st, hs, hev, g⟩ => ⟨M, env, st, hs, hev, ?_⟩
    refine Got.bnd g fun d s1 M1 H1 v e1 hs1 r1 g1 => ?_
    cases d <;> first | exact g1.elim | skip
    rename_i j
    cases r1
    by_cases hj : small62 j = true
    · simp only [if_pos hj] at g1
      have hj' := of_decide_eq_true hj
      refine ⟨j, rfl, hj'.1, hj'.2, g1.ok hs1 ?_⟩
      have := yields_rng (K := X.K) (M := M1) (H := H1) (lo := 0) (n := j.toNat)
      show Yields X.K M1 H1 (Itr 0 j.toNat) (rngL 0 j)
      unfold rngL
      simpa using this
    · simp only [if_neg hj] at g1
      exact g1.elim
  | rng2 a b =>
    simp only [chkI] at h
    split at h <;> first | (cases h; done) | skip
    rename_i nm p y z pos
    simp only [Bool.and_eq_true, decide_eq_true_eq] at h
    obtain ⟨⟨⟨rfl, hg⟩, ha⟩, hb⟩ := h
    have he := h1 a (.inr (.inr (.inr (.inr (.inl ⟨b, .inl rfl⟩))))) X W sc k y c ha
    have hf := h1 b (.inr (.inr (.inr (.inr (.inl ⟨a, .inr (.inl rfl)⟩))))) X W sc k z c hb
    refine PI.imp (pi_range2 (c.gl' hg) (c.bl _ (by decide)) (pa_cons he (pa_cons hf pa_nil (head_star (chk_head hb) [] _)) (head_star (chk_head ha) _ _)) (by rw [head_star (chk_head ha), nostar1 (chk_head hb)]) (nostar1 (chk_head hb) _)) fun σ H R ⟨M, env, st, hs, hev, g⟩ => ⟨M, env, st, hs, hev, ?_⟩
    refine Got.bnd g fun d s1 M1 H1 v e1 hs1 r1 g1 => ⟨M1, env, s1, hs1, hev.ext e1 hs.noTup, ?_⟩
    refine Got.bnd g1 fun d2 s2 M2 H2 v2 e2 hs2 r2 g2 => ?_
    cases d <;> cases d2 <;> first | exact g2.elim | skip
    rename_i i j
    cases r1
    cases r2
    by_cases hj : small62 i = true ∧ small62 j = true
    · simp only [if_pos hj] at g2
      have hi' := of_decide_eq_true hj.1
      have hj' := of_decide_eq_true hj.2
      exact ⟨i, j, rfl, ⟨hi'.1, hi'.2, hj'.1, hj'.2⟩, g2.ok hs2 yields_rng⟩
    · simp only [if_neg hj] at g2
      exact g2.elim
  | rng3 a b d =>
    simp only [chkI] at h
    split at h <;> first | (cases h; done) | skip
    rename_i nm p y z u pos
    simp only [Bool.and_eq_true, decide_eq_true_eq] at h
    obtain ⟨⟨⟨⟨rfl, hg⟩, ha⟩, hb⟩, hd⟩ := h
    have he := h1 a (.inr (.inr (.inr (.inr (.inr ⟨b, d, .inl rfl⟩))))) X W sc k y c ha
    have hf := h1 b (.inr (.inr (.inr (.inr (.inr ⟨a, d, .inr (.inl rfl)⟩))))) X W sc k z c hb
    have hu := h1 d (.inr (.inr (.inr (.inr (.inr ⟨a, b, .inr (.inr rfl)⟩))))) X W sc k u c hd
    refine PI.imp (pi_range3 (c.gl' hg) (c.bl _ (by decide)) (pa_cons he (pa_cons hf (pa_cons hu pa_nil (head_star (chk_head hd) [] _)) (head_star (chk_head hb) _ _)) (by rw [head_star (chk_head ha), head_star (chk_head hb), nostar1 (chk_head hd)])) (head_star (chk_head ha) _ _) (back_any _ _ (by rw [head_star (chk_head hb), nostar1 (chk_head hd)]; rfl))) fun σ H R ⟨M, env, st, hs, hev, g⟩ => ⟨M, env, st, hs, hev, ?_⟩
    refine Got.bnd g fun e1' s1 M1 H1 v e1 hs1 r1 g1 => ⟨M1, env, s1, hs1, hev.ext e1 hs.noTup, ?_⟩
    refine Got.bnd g1 fun e2' s2 M2 H2 v2 e2 hs2 r2 g2 => ⟨M2, env, s2, hs2, (hev.ext e1 hs.noTup).ext e2 hs1.noTup, ?_⟩
    refine Got.bnd g2 fun e3' s3 M3 H3 v3 e3 hs3 r3 g3 => ?_
    cases e1' <;> cases e2' <;> cases e3' <;> first | exact g3.elim | skip
    rename_i i j l
    cases r1
    cases r2
    cases r3
    by_cases hj : small62 i = true ∧ small62 j = true ∧ l = -1
    · simp only [if_pos hj] at g3
      obtain ⟨hi, hj, rfl⟩ := hj
      have hi' := of_decide_eq_true hi
      have hj' := of_decide_eq_true hj
      exact ⟨i, j, -1, _, rfl, RgC.neg hi'.1 hi'.2 hj'.1 hj'.2, g3.ok hs3 yields_rngD⟩
    · simp only [if_neg hj] at g3
      by_cases hk : 0 ≤ i ∧ i ≤ 1000000 ∧ 0 ≤ j ∧ j ≤ 1000000 ∧ 0 < l ∧ l ≤ 1000
      · simp only [if_pos hk] at g3
        exact ⟨i, j, l, _, rfl, rgC_step hk, g3.ok hs3 yields_rngS⟩
      · simp only [if_neg hk] at g3
        exact g3.elim
  | enm a =>
    simp only [chkI] at h
    split at h <;> first | (cases h; done) | skip
    rename_i es kk tp nm p y pos
    simp only [Bool.and_eq_true, decide_eq_true_eq] at h
    obtain ⟨⟨rfl, hg⟩, ha⟩ := h
    have he := h1 a (.inr (.inr (.inl rfl))) X W sc k y c ha
    refine PI.imp (pi_enumA (c.gl' hg) (c.bl _ (by decide)) (pa_cons he pa_nil (head_star (chk_head ha) [] _)) (nostar1 (chk_head ha) _)) fun σ H R ⟨M, env, st, hs, hev, g⟩ => ⟨M, env, st, hs, hev, ?_⟩
    refine Got.bnd g fun d s1 M1 H1 v e1 hs1 r1 g1 => ?_
    cases d <;> first | exact g1.elim | skip
    · obtain ⟨a, vs, rfl, f, r⟩ := r1
      exact ⟨a, vs, rfl, .inr ⟨f, g1.ok hs1 (yields_enmT f r hs1.noTup)⟩⟩
    · obtain ⟨a, vs, rfl, f, r⟩ := r1
      exact ⟨a, vs, rfl, .inl ⟨f.sqL, g1.ok hs1 (yields_enm f r hs1.noTup)⟩⟩
    · obtain ⟨a, rfl, hm⟩ := r1
      obtain ⟨src, hsrc, g2⟩ := g1.lft
      unfold lcel at hsrc
      simp only at hsrc
      split at hsrc
      · rename_i ys hy
        cases hsrc
        obtain ⟨xs, hx, _⟩ := hs1.lst hm hy
        exact ⟨a, xs, rfl, .inl ⟨.inl (.inl hx), g2.ok hs1 ⟨a, hm, rfl⟩⟩⟩
      · cases hsrc
  | zip a b =>
    simp only [chkI] at h
    split at h <;> first | (cases h; done) | skip
    rename_i es kk tp nm p y z pos
    simp only [Bool.and_eq_true, decide_eq_true_eq] at h
    obtain ⟨⟨⟨rfl, hg⟩, ha⟩, hb⟩ := h
    have he := h1 a (.inr (.inr (.inr (.inr (.inl ⟨b, .inr (.inr (.inl rfl))⟩))))) X W sc k y c ha
    have hf := h1 b (.inr (.inr (.inr (.inr (.inl ⟨a, .inr (.inr (.inr rfl))⟩))))) X W sc k z c hb
    refine PI.imp (RZ.pi_zipA (c.gl' hg) (c.bl _ (by decide)) (pa_cons he (pa_cons hf pa_nil (head_star (chk_head hb) [] _)) (head_star (chk_head ha) _ _)) (head_star (chk_head ha) _ _) (back_any _ _ (by rw [nostar1 (chk_head hb)]; rfl))) fun σ H R ⟨M, env, st, hs, hev, g⟩ => ⟨M, env, st, hs, hev, ?_⟩
    refine Got.bnd g fun d s1 M1 H1 v e1 hs1 r1 g1 => ⟨M1, env, s1, hs1, hev.ext e1 hs.noTup, ?_⟩
    refine Got.bnd g1 fun d2 s2 M2 H2 v2 e2 hs2 r2 g2 => ?_
    obtain ⟨src, hsrc, g3⟩ := g2.lft
    obtain ⟨xs, hxs, rfl⟩ := Option.map_eq_some_iff.mp hsrc
    have r1' := r1.ext e2 hs1.noTup
    cases d <;> cases d2 <;> simp [zipT] at hxs
    · subst hxs
      obtain ⟨a, vs, rfl, f, r⟩ := r1'
      obtain ⟨b, ws, rfl, f', r'⟩ := r2
      exact ⟨a, b, vs, ws, rfl, .inr ⟨f, f', g3.ok hs2 (yields_zipT f r f' r' hs2.noTup)⟩⟩
    · subst hxs
      obtain ⟨a, vs, rfl, f, r⟩ := r1'
      obtain ⟨b, ws, rfl, f', r'⟩ := r2
      exact ⟨a, b, vs, ws, rfl, .inl ⟨f.sqL, f'.sqL, g3.ok hs2 (yields_zipL f r f' r' hs2.noTup)⟩⟩
  | rev a =>
    simp only [chkI] at h
    split at h <;> first | (cases h; done) | skip
    rename_i nm p y pos
    simp only [Bool.and_eq_true, decide_eq_true_eq] at h
    obtain ⟨⟨rfl, hg⟩, ha⟩ := h
    have he := h1 a (.inr (.inr (.inr (.inl rfl)))) X W sc k y c ha
    refine PI.imp (RT.pi_revA (c.gl' hg) (c.bl _ (by decide)) he (head_star (chk_head ha) [] _)) fun σ H R ⟨M, env, st, hs, hev, g⟩ => ⟨M, env, st, hs, hev, ?_⟩
    refine Got.bnd g fun d s1 M1 H1 v e1 hs1 r1 g1 => ?_
    obtain ⟨src, hsrc, g3⟩ := g1.lft
    obtain ⟨xs, hxs, rfl⟩ := Option.map_eq_some_iff.mp hsrc
    cases d <;> simp [items] at hxs
    · subst hxs
      obtain ⟨a, vs, rfl, f, r⟩ := r1
      exact ⟨a, vs, rfl, .inr ⟨f, g3.ok hs1 (yields_revT f r hs1.noTup)⟩⟩
    · subst hxs
      obtain ⟨a, vs, rfl, f, r⟩ := r1
      exact ⟨a, vs, rfl, .inl ⟨f.sqL, g3.ok hs1 (yields_revL f r hs1.noTup)⟩⟩
end
end Dp

end
section
set_option Elab.async false
set_option linter.all false
set_option maxRecDepth 100000
set_option maxHeartbeats 8000000
/-! Sn3: expressions. -/
namespace Dp
open PySem PySem.Spec PyProof.Rows L2
section
variable {w : Wd} {Φ : Nat → List D → Sto → Ans D} {env : Nv} {st : Sto}
theorem evt_and (a b : Ex) : evt w Φ (.and a b) env st = bnd (evt w Φ a env st) fun c s => if c = true then evt w Φ b env s else some (.ok false s) := by
  unfold evt
  simp only [ev]
  cases h : ev w Φ a env st with
  | none => rfl
  | some r =>
    cases r with
    | ex x s => rfl
    | ok x s =>
      simp only [bnd_ok]
      cases h2 : tru (view s x) with
      | none => rfl
      | some c =>
        simp only [lft_some, bnd_ok]
        cases c with
        | true => rfl
        | false => simp [h2]
theorem evt_or (a b : Ex) : evt w Φ (.or a b) env st = bnd (evt w Φ a env st) fun c s => if c = true then some (.ok true s) else evt w Φ b env s := by
  unfold evt
  simp only [ev]
  cases h : ev w Φ a env st with
  | none => rfl
  | some r =>
    cases r with
    | ex x s => rfl
    | ok x s =>
      simp only [bnd_ok]
      cases h2 : tru (view s x) with
      | none => rfl
      | some c =>
        simp only [lft_some, bnd_ok]
        cases c with
        | true => simp [h2]
        | false => rfl
theorem evt_not (a : Ex) : evt w Φ (.not a) env st = bnd (evt w Φ a env st) fun c s => some (.ok (!c) s) := by
  unfold evt
  simp only [ev]
  cases h : ev w Φ a env st with
  | none => rfl
  | some r =>
    cases r with
    | ex x s => rfl
    | ok x s =>
      simp only [bnd_ok]
      cases h2 : tru (view s x) with
      | none => rfl
      | some c => rfl
theorem evt_ite (c a b : Ex) : evt w Φ (.ite c a b) env st = bnd (evt w Φ c env st) fun k s => if k = true then evt w Φ a env s else evt w Φ b env s := by
  unfold evt
  simp only [ev]
  cases h : ev w Φ c env st with
  | none => rfl
  | some r =>
    cases r with
    | ex x s => rfl
    | ok x s =>
      simp only [bnd_ok]
      cases h2 : tru (view s x) with
      | none => rfl
      | some k =>
        simp only [lft_some, bnd_ok]
        cases k <;> rfl
end
section
variable (w : Wd) (Φ : Nat → List D → Sto → Ans D) (CA : Nat → Option Addr)
def isI (_ : Ms) (_ : Hp) (a b : Option Int) : Prop := b = a
def tO (K : PySem.W.Frag) (W : WX) (o : Exo) : TO := fun σ H Q => ∃ M env st, StoOk K M H st ∧ EnvOk K M H env σ ∧ Got K CA M H isI (fun cls d H' => W cls d σ H') (evo w Φ o env st) Q
end
section
variable {C : Ct} {w : Wd} {Φ : Nat → List D → Sto → Ans D} {CA : Nat → Option Addr}
theorem ty_of {K : PySem.W.Frag} {M : Ms} {H : Hp} {d : D} {v : V} {t : Ty} {b : Bool} {sub : Nat → Nat → Option Bool} (r : RepW K M H d v) (h : isTy sub t d = some b) (ht : tyB t = true) : ∃ ty, TyX K H v (.type ty) ∧ kitB ty (tyName t) = some b := by
  cases d with
  | ref _ => cases t <;> first | (cases ht; done) | (simp [isTy] at h; done)
  | exc _ _ => cases t <;> first | (cases ht; done) | (simp [isTy] at h; done)
  | non => cases r; refine ⟨_, .base .non, ?_⟩; cases t <;> first | (cases ht; done) | (simp [isTy] at h; subst h; decide +kernel)
  | bl b' => cases r; refine ⟨_, .base (.bl _), ?_⟩; cases t <;> first | (cases ht; done) | (simp [isTy] at h; subst h; decide +kernel)
  | int i => cases r; refine ⟨_, .base (.int _), ?_⟩; cases t <;> first | (cases ht; done) | (simp [isTy] at h; subst h; decide +kernel)
  | str z => cases r; refine ⟨_, .base (.str _), ?_⟩; cases t <;> first | (cases ht; done) | (simp [isTy] at h; subst h; decide +kernel)
  | tup ds =>
    obtain ⟨a, vs, rfl, h1, h2⟩ := r
    have ty : TyX K H (.ref a) (.type "tuple") := by
      rcases h1 with (h1 | ⟨o, h1⟩) | ⟨o, its, n, h1, h3, _⟩
      · exact .base (.tup h1)
      · exact .fTuple h1
      · exact .kTuple h1 h3
    refine ⟨_, ty, ?_⟩; cases t <;> first | (cases ht; done) | (simp [isTy] at h; subst h; decide +kernel)
  | lst ds =>
    obtain ⟨a, vs, rfl, h1, h2⟩ := r
    have ty : TyX K H (.ref a) (.type "list") := by
      rcases h1 with h1 | ⟨o, h1⟩
      · exact .base (.lst h1)
      · exact .base (.frz h1)
    refine ⟨_, ty, ?_⟩; cases t <;> first | (cases ht; done) | (simp [isTy] at h; subst h; decide +kernel)
theorem bl_test {K : PySem.W.Frag} {M : Ms} {H : Hp} {W : Value → Option Addr → Hp → Prop} {m : Ans D} {Q : Bool → Hp → Prop} (hb : ∀ a s, m = some (.ok a s) → ∃ b, a = .bl b) (g : Got K CA M H isB W (bnd m fun x s1 => lft (tru (view s1 x)) s1) Q) :
    Got K CA M H (Rep K) W m (fun v H' => ∃ k, v = .bl k ∧ Q k H') := by
  match m, g, hb with
  | none, g, _ => exact g
  | some (.ex x s), g, _ => exact g
  | some (.ok a s), g, hb =>
    obtain ⟨b, rfl⟩ := hb a s rfl
    have g' : Got K CA M H isB W (some (.ok b s)) Q := g
    exact fun M' H' v e s' r => ⟨b, r, g'.okE e s' rfl⟩
theorem chn_bl {op op' : Cop} {a b c : Ex} {env : Nv} {st : Sto} {x : D} {s : Sto} (h : ev w Φ (.chn op op' a b c) env st = some (.ok x s)) : ∃ z, x = .bl z := by
  simp only [ev] at h
  cases ha : ev w Φ a env st with
  | none => rw [ha] at h; cases h
  | some r =>
    cases r with
    | ex _ _ => rw [ha] at h; cases h
    | ok d s1 =>
      rw [ha] at h
      simp only [bnd_ok] at h
      cases hb : ev w Φ b env s1 with
      | none => rw [hb] at h; cases h
      | some r =>
        cases r with
        | ex _ _ => rw [hb] at h; cases h
        | ok e s2 =>
          rw [hb] at h
          simp only [bnd_ok] at h
          cases hc : cop op (view s2 d) (view s2 e) with
          | none => rw [hc] at h; cases h
          | some z =>
            rw [hc] at h
            simp only [lft_some, bnd_ok] at h
            cases z with
            | false => cases h; exact ⟨_, rfl⟩
            | true =>
              simp only [if_true] at h
              cases hd : ev w Φ c env s2 with
              | none => rw [hd] at h; cases h
              | some r =>
                cases r with
                | ex _ _ => rw [hd] at h; cases h
                | ok f s3 =>
                  rw [hd] at h
                  simp only [bnd_ok] at h
                  cases he : cop op' (view s3 e) (view s3 f) with
                  | none => rw [he] at h; cases h
                  | some z => rw [he] at h; cases h; exact ⟨_, rfl⟩
theorem dch_bl {op op' : Cop} {a b c : Ex} {env : Nv} {st : Sto} {x : D} {s : Sto} (h : ev w Φ (.dch op op' a b c) env st = some (.ok x s)) : ∃ z, x = .bl z := by
  simp only [ev] at h
  cases ha : ev w Φ a env st with
  | none => rw [ha] at h; cases h
  | some r =>
    cases r with
    | ex _ _ => rw [ha] at h; cases h
    | ok d s1 =>
      rw [ha] at h
      simp only [bnd_ok] at h
      cases hb : ev w Φ b env s1 with
      | none => rw [hb] at h; cases h
      | some r =>
        cases r with
        | ex _ _ => rw [hb] at h; cases h
        | ok e s2 =>
          rw [hb] at h
          simp only [bnd_ok] at h
          cases hc : cop op (dvw s2 60 d) (dvw s2 60 e) with
          | none => rw [hc] at h; cases h
          | some z =>
            rw [hc] at h
            simp only [lft_some, bnd_ok] at h
            cases z with
            | false => cases h; exact ⟨_, rfl⟩
            | true =>
              simp only [if_true] at h
              cases hd : ev w Φ c env s2 with
              | none => rw [hd] at h; cases h
              | some r =>
                cases r with
                | ex _ _ => rw [hd] at h; cases h
                | ok f s3 =>
                  rw [hd] at h
                  simp only [bnd_ok] at h
                  cases he : cop op' (dvw s3 60 e) (dvw s3 60 f) with
                  | none => rw [he] at h; cases h
                  | some z => rw [he] at h; cases h; exact ⟨_, rfl⟩
theorem chkI_fold {it : Wk} {sc : Scope} {t x : Expr} (h : chkI C it sc t x = true) (env : Env) (v : Value) : foldedSetIterable x env v = pure v := by
  cases it with
  | seq a => simp only [chkI] at h; exact head_fold (chk_head h) env v
  | rng3 a b d => cases x <;> first | rfl | (simp [chkI] at h)
  | enm a => cases t <;> cases x <;> first | rfl | (simp [chkI] at h)
  | zip a b => cases t <;> cases x <;> first | rfl | (simp [chkI] at h)
  | rng1 a => cases x <;> first | rfl | (simp [chkI] at h)
  | rng2 a b => cases x <;> first | rfl | (simp [chkI] at h)
  | rev a => cases x <;> first | rfl | (simp [chkI] at h)
theorem tgSto_blk {X : Cx} {s : Shared} {H : Hp} {scope : Scope} {cl : List (Str × Addr)} {Cd : Addr} {fp : List Addr} {t : Expr} (h : stB scope t = true) : tgSto (X.blk s H scope (compEnvC scope cl Cd X.env) fp) t := by
  cases t <;> first | trivial | skip
  · exact blk_sto h
  · rename_i es kk p
    intro e he x p' ee
    subst ee
    simp only [stB, List.all_eq_true] at h
    exact blk_sto (h _ he)
abbrev ST (C : Ct) (w : Wd) (Φ : Nat → List D → Sto → Ans D) (CA : Nat → Option Addr) (e : Ex) : Prop :=
  ∀ (X : Cx) (W : WX) (sc : Scope) (k : Nat) (x : Expr), Cok C w Φ CA X W sc k → chkE C e sc x = true → PT X x (tT w Φ CA X.K W e)
abbrev SW (C : Ct) (w : Wd) (Φ : Nat → List D → Sto → Ans D) (CA : Nat → Option Addr) (e : Ex) : Prop :=
  ∀ (X : Cx) (W : WX) (sc : Scope) (k : Nat) (op : BoolOp) (vs : List Expr) (p : Pos), Cok C w Φ CA X W sc k → chkE C e sc (.BoolOp op vs p) = true → PW X (.BoolOp op vs p) (tT w Φ CA X.K W e)
def plainHead : Expr → Bool
  | .BoolOp _ _ _ => false
  | .UnaryOp .Not _ _ => false
  | .IfExp _ _ _ _ => false
  | .Compare _ _ _ _ => false
  | _ => true
theorem head_tr {v : Expr} (h : plainHead v = true) (env : Env) : ∀ whole, isTrue v env whole = (do let v' ← whole; standAt v.pos; holding [v'] (truthy v')) := by
  intro whole
  cases v <;> first | (cases h; done) | rfl | skip
  rename_i op x p
  cases op <;> first | (cases h; done) | rfl
/-- from a value to its test -/
theorem st_plain {e : Ex} (h : SE C w Φ CA e) (hp : ∀ sc x, chkE C e sc x = true → plainHead x = true) : ST C w Φ CA e := by
  intro X W sc k x c hx
  refine PT.imp (pt_truth (h X W sc k x c hx) (head_tr (hp sc x hx) X.env)) fun σ H Q ⟨M, env, st, hs, he, g⟩ => ⟨M, env, st, hs, he, ?_⟩
  refine Got.bnd g fun d s1 M1 H1 v e1 hs1 r1 g1 => ?_
  obtain ⟨b, hb, g2⟩ := g1.lft
  exact ⟨b, truS (viewed hs1 r1) hb, g2.ok hs1 rfl⟩
theorem sw_no {e : Ex} (hp : ∀ sc op vs p, chkE C e sc (.BoolOp op vs p) = true → False) : SW C w Φ CA e := fun X W sc k op vs p c h => (hp sc op vs p h).elim
/-- the tests of a comprehension -/
def tTs (w : Wd) (Φ : Nat → List D → Sto → Ans D) (CA : Nat → Option Addr) (K : PySem.W.Frag) (o : Exo) : TT := match o with
  | .none => tYes
  | .some t => tT w Φ CA K (fun _ _ _ _ => False) t
theorem PTs.impN {X : Cx} (h : PTs X [] tYes) : PTs X [] (tTs w Φ CA X.K .none) := h
theorem PTs.impS {X : Cx} {f : Expr} {t : Ex} (h : PTs X [f] (tT w Φ CA X.K (fun _ _ _ _ => False) t)) : PTs X [f] (tTs w Φ CA X.K (.some t)) := h
theorem lcBody_noex {own : List Nat} {e : Ex} {tg : Tg} {o : Exo} {env : Nv} {x : D} {s : Sto} {z : D} {s' : Sto} : lcBody w Φ own e tg o env x s ≠ some (.ex z s') := by
  unfold lcBody noex
  split <;> simp_all
theorem comp_noex {body : D → Sto → Ans (Option D)} (hb : ∀ x s z s', body x s ≠ some (.ex z s')) : ∀ (xs : List D) (s : Sto) (z : D) (s' : Sto), comp body xs s ≠ some (.ex z s')
  | [], s, z, s', h => by simp [comp] at h
  | x :: xs, s, z, s', h => by
    simp only [comp] at h
    cases q : body x s with
    | none => rw [q] at h; cases h
    | some r =>
      cases r with
      | ex a b => exact hb x s a b q
      | ok o s1 =>
        rw [q] at h
        simp only [bnd_ok] at h
        cases q2 : comp body xs s1 with
        | none => rw [q2] at h; cases h
        | some r =>
          cases r with
          | ex a b => exact comp_noex hb xs s1 a b q2
          | ok ys s2 => rw [q2] at h; simp only [bnd_ok] at h; cases o <;> cases h
theorem compR_noex {f : Nat → D → D} {body : D → Sto → Ans (Option D)} {l : Nat} (hb : ∀ x s z s', body x s ≠ some (.ex z s')) : ∀ (n i : Nat) (s : Sto) (z : D) (s' : Sto), compR f body l i n s ≠ some (.ex z s')
  | n, i, s, z, s', h => by
    unfold compR at h
    split at h
    · split at h
      · cases h
      · rename_i x hx
        cases n with
        | zero => cases h
        | succ n =>
          simp only at h
          cases q : body (f i x) s with
          | none => rw [q] at h; cases h
          | some r =>
            cases r with
            | ex a b => exact hb (f i x) s a b q
            | ok o s1 =>
              rw [q] at h
              simp only [bnd_ok] at h
              cases q2 : compR f body l (i + 1) n s1 with
              | none => rw [q2] at h; cases h
              | some r =>
                cases r with
                | ex a b => exact compR_noex hb n (i + 1) s1 a b q2
                | ok ys s2 => rw [q2] at h; simp only [bnd_ok] at h; cases o <;> cases h
    · cases h
theorem wipe_nodup (σ : L2.St) : ∀ (own : List Nat) (i : Nat), i ∈ own → (L2.wipe σ own).set i none = L2.wipe σ own
  | [], _, h => by simp at h
  | v :: vs, i, h => by
    unfold L2.wipe
    by_cases hv : i = v
    · subst hv; rw [List.set_set]
    · rw [List.set_comm _ _ (Ne.symm hv), wipe_nodup σ vs i (List.mem_of_ne_of_mem hv h)]
theorem wipe_wipe (σ : L2.St) (own : List Nat) : ∀ (l : List Nat), (∀ i ∈ l, i ∈ own) → L2.wipe (L2.wipe σ own) l = L2.wipe σ own
  | [], _ => rfl
  | v :: vs, h => by
    show (L2.wipe (L2.wipe σ own) vs).set v none = _
    rw [wipe_wipe σ own vs fun i hi => h i (List.mem_cons_of_mem _ hi)]
    exact wipe_nodup σ own v (h v List.mem_cons_self)
theorem reps_one {K : PySem.W.Frag} {M : Ms} {H : Hp} {d : D} {v : V} (r : Rep K M H d v) : Reps K M H [d] [v] := ⟨v, [], rfl, r, rfl⟩
/-- the element, or nothing, that a turn gives is laid on the list at p -/
theorem lc_turn {K : PySem.W.Frag} {own : List Nat} {e : Ex} {tg : Tg} {o : Exo} {env : Nv} {σ : L2.St} {M : Ms} {H : Hp} {s s' : Sto} {d : D} {x : V} {p : Addr} {acc : List D} {vs : List V} {r : Option D} {Nx : Hp → Prop}
    (htow : tgOwn own tg = true) (hs : StoOk K M H s) (he : EnvOk K M H env σ) (rd : Rep K M H d x) (hp : p ∈ M.z) (hH : H p = some (.lst vs)) (ha : Reps K M H acc vs) (hl : acc.length ≤ 1000000)
    (hb : lcBody w Φ own e tg o env d s = some (.ok r s'))
    (nx : ∀ M' H' vs', ExtW M H M' H' → (∀ q ∈ M.z, q ≠ p → q ∈ M'.z ∧ H' q = H q) → p ∈ M'.z → StoOk K M' H' s' → H' p = some (.lst vs') → Reps K M' H' (acc ++ r.toList) vs' → Nx H') :
    gA K tg x (L2.wipe σ own) H fun σ2 H2 => L2.wipe σ2 own = L2.wipe σ own ∧ tTs w Φ CA K o σ2 H2 fun b H3 => if b = true then tE w Φ CA K (fun _ _ _ _ => False) e σ2 H3 fun y H4 => ∃ acc, H4 p = some (.lst acc) ∧ acc.length < sizeLine ∧ Nx (upd H4 p (.lst (acc ++ [y]))) else Nx H3 := by
  unfold lcBody at hb
  cases hasg : asgn tg d (wipe env own) with
  | none => rw [hasg] at hb; cases hb
  | some env' =>
    rw [hasg] at hb
    simp only at hb
    refine gA_of (he.wipe own) rd hasg fun σ' he' hw => ⟨?_, ?_⟩
    · rw [hw own htow]
      exact wipe_wipe σ own own fun _ h => h
    · -- the element's part, behind a test that says yes
      have elem : ∀ M1 H1 s1, Ext M H M1 H1 → StoOk K M1 H1 s1 → (noex (bnd (ev w Φ e env' s1) fun y s'' => some (.ok (some y) s''))) = some (.ok r s') →
          tE w Φ CA K (fun _ _ _ _ => False) e σ' H1 fun y H4 => ∃ acc, H4 p = some (.lst acc) ∧ acc.length < sizeLine ∧ Nx (upd H4 p (.lst (acc ++ [y]))) := by
        intro M1 H1 s1 e1 hs1 hq
        refine ⟨M1, env', s1, hs1, he'.ext e1 hs.noTup, ?_⟩
        cases hev : ev w Φ e env' s1 with
        | none => rw [hev] at hq; cases hq
        | some z =>
          cases z with
          | ex a b => rw [hev] at hq; cases hq
          | ok y s2 =>
            rw [hev] at hq
            cases hq
            intro M4 H4 v4 e4 hs4 r4
            have e14 := e1.trans e4
            obtain ⟨hz4, hH4⟩ := e14.hid p hp
            rw [hH] at hH4
            refine ⟨vs, hH4, ?_, ?_⟩
            · rw [← ha.length]
              have : 1000000 < sizeLine := by rw [sizeLine_eq]; decide
              omega
            · obtain ⟨hs5, e5⟩ := hs4.grow (vs := vs ++ [v4]) hz4
              refine nx M4 _ (vs ++ [v4]) (e14.toExtW.trans e5) (fun q hq hn => ?_) hz4 hs5 upd_same ?_
              · obtain ⟨q1, q2⟩ := e14.hid q hq
                exact ⟨q1, by rw [upd_ne hn]; exact q2⟩
              · exact Reps.extW e5 hs4.noTup ((ha.ext e14 hs.noTup).append (reps_one r4))
      cases o with
      | none =>
        simp only [bnd_ok, if_true] at hb
        simp only [tTs, tYes, if_true]
        exact elem M H s (Ext.refl _ _) hs hb
      | some t =>
        have hb' : noex (bnd (evt w Φ t env' s) fun b s' => if b = true then bnd (ev w Φ e env' s') fun y s'' => some (.ok (some y) s'') else some (.ok none s')) = some (.ok r s') := hb
        refine ⟨M, env', s, hs, he', ?_⟩
        cases hev : evt w Φ t env' s with
        | none => rw [hev] at hb'; cases hb'
        | some z =>
          cases z with
          | ex a b => rw [hev] at hb'; cases hb'
          | ok b s1 =>
            rw [hev] at hb'
            simp only [bnd_ok] at hb'
            intro M1 H1 b' e1 hs1 hbb
            cases hbb
            cases b with
            | true => exact iteT (elem M1 H1 s1 e1 hs1 hb')
            | false =>
              cases hb'
              refine iteF (nx M1 H1 vs e1.toExtW (fun q hq _ => e1.hid q hq) (e1.hid p hp).1 hs1 ((e1.hid p hp).2.trans hH) ?_)
              simpa using ha.ext e1 hs.noTup
theorem lc_read {X : Cx} {W : WX} {m : Bool} {own : List Nat} {e : Ex} {tg : Tg} {it : Wk} {o : Exo} (htow : tgOwn own tg = true) :
    ∀ σ H Q, tE w Φ CA X.K W (.lc m own e tg it o) σ H Q → tLc (tI w Φ CA X.K W it) (gA X.K tg) (tTs w Φ CA X.K o) (tE w Φ CA X.K (fun _ _ _ _ => False) e) own σ H Q := by
  intro σ H Q ⟨M, env, st, hs, hev, g⟩
  rw [ev_lc] at g
  refine ⟨M, env, st, hs, hev, Got.bnd g fun src s1 M1 H1 J e1 hs1 r1 g1 p hp => ?_⟩
  have hev1 := hev.ext e1 hs.noTup
  cases hc : compS (lcBody w Φ own e tg o env) src s1 with
  | none => rw [hc] at g1; exact g1.elim
  | some z =>
    cases z with
    | ex a b =>
      cases src with
      | its xs => exact (comp_noex (fun x s z s' => lcBody_noex) xs s1 a b hc).elim
      | cel en l => exact (compR_noex (fun x s z s' => lcBody_noex) _ 0 s1 a b hc).elim
    | ok ys s2 =>
      rw [hc] at g1
      simp only [bnd_ok] at g1
      by_cases hl : ys.length ≤ 1000000
      case neg => rw [if_neg hl] at g1; exact g1.elim
      rw [if_pos hl] at g1
      obtain ⟨hs0, e0⟩ := hs1.hide (vs := []) hp
      have fin : ∀ Mi H' vs, ExtW M1 H1 Mi H' → (∀ q ∈ M1.z, q ∈ Mi.z ∧ H' q = H1 q) → p ∈ Mi.z → StoOk X.K Mi H' s2 → H' p = some (.lst vs) → Reps X.K Mi H' ys vs → Q (.ref p) H' := by
        intro Mi H' vs ew hz hpz hsi hpi hr
        have hp1 : ∀ q ∈ M1.z, q ≠ p := fun q hq z => by
          obtain ⟨_, xs, e⟩ := hs1.hid q hq
          rw [z, hp] at e; cases e
        cases m with
        | true =>
          obtain ⟨hso, eo⟩ := hsi.own hpz hpi hr
          refine g1.okE (M1 := ⟨Mi.c ++ [p], (Mi.out p).z⟩) (b := V.ref p) ⟨ew.trans eo, fun q hq => ⟨Ms.in_out _ (hz q hq).1 (hp1 q hq), (hz q hq).2⟩⟩ hso ⟨p, rfl, ?_⟩
          rw [← hsi.len]
          simp
        | false =>
        obtain ⟨hso, eo⟩ := hsi.show p
        refine g1.okE (M1 := Mi.out p) (b := V.ref p) ⟨ew.trans eo, fun q hq => ⟨Ms.in_out _ (hz q hq).1 (hp1 q hq), (hz q hq).2⟩⟩ hso ⟨p, vs, rfl, ⟨Ms.not_out _ (hsi.hid p hpz).1, .inl hpi⟩, Reps.extW eo hsi.noTup hr⟩
      have hz0 : ∀ q ∈ M1.z, q ∈ (⟨M1.c, p :: M1.z⟩ : Ms).z ∧ upd H1 p (.lst []) q = H1 q := e0.hid
      cases src with
      | its xs =>
        refine ⟨fun i m H' => ∃ Mi si acc rest vs, ExtW M1 H1 Mi H' ∧ (∀ q ∈ M1.z, q ∈ Mi.z ∧ H' q = H1 q) ∧ p ∈ Mi.z ∧ StoOk X.K Mi H' si ∧ H' p = some (.lst vs) ∧ Reps X.K Mi H' acc vs ∧
            comp (lcBody w Φ own e tg o env) (xs.drop i) si = some (.ok rest s2) ∧ acc ++ rest = ys ∧ m = xs.length - i,
          ⟨xs.length, ⟨M1.c, p :: M1.z⟩, s1, [], ys, [], e0.toExtW, hz0, List.mem_cons_self, hs0, upd_same, rfl, hc, rfl, by simp⟩, ?_⟩
        rintro i m H' ⟨Mi, si, acc, rest, vs, ew, hz, hpz, hsi, hpi, hacc, hcomp, hys, rfl⟩
        obtain ⟨hstop, hgo⟩ := src_its r1 ew hsi i
        cases hx : xs[i]? with
        | none =>
          have hi : xs.length ≤ i := List.getElem?_eq_none_iff.mp hx
          rw [List.drop_eq_nil_of_le hi] at hcomp
          simp only [comp] at hcomp
          cases hcomp
          rw [List.append_nil] at hys
          subst hys
          exact .inl ⟨hstop hx, fin Mi H' vs ew hz hpz hsi hpi hacc⟩
        | some d =>
          obtain ⟨hi, rfl⟩ := List.getElem?_eq_some_iff.mp hx
          rw [List.drop_eq_getElem_cons hi] at hcomp
          simp only [comp] at hcomp
          obtain ⟨go1, g2⟩ := hgo _ hx
          cases hbd : lcBody w Φ own e tg o env xs[i] si with
          | none => rw [hbd] at hcomp; cases hcomp
          | some z =>
            cases z with
            | ex a b => rw [hbd] at hcomp; cases hcomp
            | ok r s' =>
              rw [hbd] at hcomp
              simp only [bnd_ok] at hcomp
              cases hcr : comp (lcBody w Φ own e tg o env) (xs.drop (i + 1)) s' with
              | none => rw [hcr] at hcomp; cases hcomp
              | some z =>
                cases z with
                | ex a b => rw [hcr] at hcomp; cases hcomp
                | ok rest' s3 =>
                  rw [hcr] at hcomp
                  simp only [bnd_ok] at hcomp
                  have hs3 : s3 = s2 ∧ rest = r.toList ++ rest' := by cases r <;> cases hcomp <;> exact ⟨rfl, rfl⟩
                  obtain ⟨rfl, rfl⟩ := hs3
                  refine .inr ⟨go1, fun H'' => ∃ Mi si acc rest vs, ExtW M1 H1 Mi H'' ∧ (∀ q ∈ M1.z, q ∈ Mi.z ∧ H'' q = H1 q) ∧ p ∈ Mi.z ∧ StoOk X.K Mi H'' si ∧ H'' p = some (.lst vs) ∧ Reps X.K Mi H'' acc vs ∧
                    comp (lcBody w Φ own e tg o env) (xs.drop (i + 1)) si = some (.ok rest s3) ∧ acc ++ rest = ys, fun H'' ⟨Mi', si', acc', rest'', vs', q1, q2, q3, q4, q5, q6, q7, q8⟩ => ⟨xs.length - (i + 1), by omega, Mi', si', acc', rest'', vs', q1, q2, q3, q4, q5, q6, q7, q8, rfl⟩, fun x H'' y => ?_⟩
                  obtain ⟨ey, hsy, rdx, hky⟩ := g2 x H'' y
                  refine lc_turn htow hsy (hev1.extW (ew.trans ey.toExtW) hs1.noTup) rdx (ey.hid p hpz).1 (hky p _ hpi) (hacc.ext ey hsi.noTup) (by rw [← hys] at hl; simp at hl; omega) hbd fun M' H3 vs' x1 x2 x3 x4 x5 x6 => ?_
                  refine ⟨M', s', acc ++ r.toList, rest', vs', (ew.trans ey.toExtW).trans x1, fun q hq => ?_, x3, x4, x5, x6, hcr, by rw [List.append_assoc]; exact hys⟩
                  have hqp : q ≠ p := fun z => by
                    obtain ⟨_, xs, e⟩ := hs1.hid q hq
                    rw [z, hp] at e; cases e
                  obtain ⟨z1, z2⟩ := hz q hq
                  obtain ⟨z3, z4⟩ := ey.hid q z1
                  obtain ⟨z5, z6⟩ := x2 q z3 hqp
                  exact ⟨z5, z6.trans (z4.trans z2)⟩
      | cel en l =>
        obtain ⟨a, hm, rfl⟩ := r1
        refine ⟨fun i m H' => ∃ Mi si acc rest vs, ExtW M1 H1 Mi H' ∧ (∀ q ∈ M1.z, q ∈ Mi.z ∧ H' q = H1 q) ∧ p ∈ Mi.z ∧ StoOk X.K Mi H' si ∧ H' p = some (.lst vs) ∧ Reps X.K Mi H' acc vs ∧
            compR (itm en) (lcBody w Φ own e tg o env) l i m si = some (.ok rest s2) ∧ acc ++ rest = ys,
          ⟨size s1 l, ⟨M1.c, p :: M1.z⟩, s1, [], ys, [], e0.toExtW, hz0, List.mem_cons_self, hs0, upd_same, rfl, hc, rfl⟩, ?_⟩
        rintro i m H' ⟨Mi, si, acc, rest, vs, ew, hz, hpz, hsi, hpi, hacc, hcomp, hys⟩
        unfold compR at hcomp
        cases hxl : si[l]? with
        | none => simp only [hxl] at hcomp; cases hcomp
        | some cl0 =>
        cases cl0 with
        | dct _ => simp only [hxl] at hcomp; cases hcomp
        | ins _ _ => simp only [hxl] at hcomp; cases hcomp
        | lst xs =>
        obtain ⟨hstop, hgo⟩ := src_cel hm ew hsi hxl en i
        simp only [hxl] at hcomp
        cases hx : xs[i]? with
        | none =>
          simp only [hx] at hcomp
          cases hcomp
          rw [List.append_nil] at hys
          subst hys
          exact .inl ⟨hstop hx, fin Mi H' vs ew hz hpz hsi hpi hacc⟩
        | some d =>
          simp only [hx] at hcomp
          obtain ⟨go1, g2⟩ := hgo _ hx
          cases m with
          | zero => cases hcomp
          | succ m =>
            simp only at hcomp
            cases hbd : lcBody w Φ own e tg o env (itm en i d) si with
            | none => rw [hbd] at hcomp; cases hcomp
            | some z =>
              cases z with
              | ex a b => rw [hbd] at hcomp; cases hcomp
              | ok r s' =>
                rw [hbd] at hcomp
                simp only [bnd_ok] at hcomp
                cases hcr : compR (itm en) (lcBody w Φ own e tg o env) l (i + 1) m s' with
                | none => rw [hcr] at hcomp; cases hcomp
                | some z =>
                  cases z with
                  | ex a b => rw [hcr] at hcomp; cases hcomp
                  | ok rest' s3 =>
                    rw [hcr] at hcomp
                    simp only [bnd_ok] at hcomp
                    have hs3 : s3 = s2 ∧ rest = r.toList ++ rest' := by cases r <;> cases hcomp <;> exact ⟨rfl, rfl⟩
                    obtain ⟨rfl, rfl⟩ := hs3
                    refine .inr ⟨go1, fun H'' => ∃ Mi si acc rest vs, ExtW M1 H1 Mi H'' ∧ (∀ q ∈ M1.z, q ∈ Mi.z ∧ H'' q = H1 q) ∧ p ∈ Mi.z ∧ StoOk X.K Mi H'' si ∧ H'' p = some (.lst vs) ∧ Reps X.K Mi H'' acc vs ∧
                      compR (itm en) (lcBody w Φ own e tg o env) l (i + 1) m si = some (.ok rest s3) ∧ acc ++ rest = ys, fun H'' ⟨Mi', si', acc', rest'', vs', q1, q2, q3, q4, q5, q6, q7, q8⟩ => ⟨m, by omega, Mi', si', acc', rest'', vs', q1, q2, q3, q4, q5, q6, q7, q8⟩, fun x H'' y => ?_⟩
                    obtain ⟨ey, hsy, rdx, hky⟩ := g2 x H'' y
                    refine lc_turn htow hsy (hev1.extW (ew.trans ey.toExtW) hs1.noTup) rdx (ey.hid p hpz).1 (hky p _ hpi) (hacc.ext ey hsi.noTup) (by rw [← hys] at hl; simp at hl; omega) hbd fun M' H3 vs' x1 x2 x3 x4 x5 x6 => ?_
                    refine ⟨M', s', acc ++ r.toList, rest', vs', (ew.trans ey.toExtW).trans x1, fun q hq => ?_, x3, x4, x5, x6, hcr, by rw [List.append_assoc]; exact hys⟩
                    have hqp : q ≠ p := fun z => by
                      obtain ⟨_, xs, e⟩ := hs1.hid q hq
                      rw [z, hp] at e; cases e
                    obtain ⟨z1, z2⟩ := hz q hq
                    obtain ⟨z3, z4⟩ := ey.hid q z1
                    obtain ⟨z5, z6⟩ := x2 q z3 hqp
                    exact ⟨z5, z6.trans (z4.trans z2)⟩
theorem lc_sound {X : Cx} {W : WX} {sc : Scope} {k : Nat} (c : Cok C w Φ CA X W sc k) (hhot : C.hot = false) {m : Bool} {own : List Nat} {e : Ex} {tg : Tg} {it : Wk} {o : Exo} {elt t iter : Expr} {ifs : List Expr} {scope : Scope} {pos : Pos}
    (hblk : blkC C.N sc scope (ownN C.N own) = true) (hown : (ownN C.N own).map (·.2) = own) (htg : tgB C.N (relS scope sc) tg t = true) (hsto : stB scope t = true) (htow : tgOwn own tg = true)
    (hf : ∀ x, foldedSetIterable iter X.env x = pure x) (hi : PI X t iter (tI w Φ CA X.K W it))
    (he : ∀ (s : Shared) (H : Hp) (cl : List (Str × Addr)) (Cd : Addr) (fp : List Addr), PE (X.blk s H scope (compEnvC scope cl Cd X.env) fp) elt (tE w Φ CA X.K (fun _ _ _ _ => False) e))
    (ho : ∀ (s : Shared) (H : Hp) (cl : List (Str × Addr)) (Cd : Addr) (fp : List Addr), PTs (X.blk s H scope (compEnvC scope cl Cd X.env) fp) ifs (tTs w Φ CA X.K o)) :
    PE X (.ListComp elt [⟨t, iter, ifs, 0⟩] scope pos) (tE w Φ CA X.K W (.lc m own e tg it o)) := by
  have hb : BlkOk X.N X.env.scope scope (ownN C.N own) := by rw [c.hN, c.sc]; exact blkOk_by hblk
  have hg : ∀ (s : Shared) (H : Hp) (Cd : Addr) (cl : List (Str × Addr)) (fp : List Addr), PG (X.blk s H scope (compEnvC scope cl Cd X.env) fp) t (gA X.K tg) := fun s H Cd cl fp => pgA (c.blk s H scope cl Cd fp) (.inl hhot) htg (tgSto_blk hsto)
  have hN : X.N.Nodup := by rw [c.hN]; exact c.nd
  refine PE.imp (pe_lc (c.xk.calm hhot) hN hi hb hg (fun s H Cd cl fp => ho s H cl Cd fp) (fun s H Cd cl fp => he s H cl Cd fp) hf) ?_
  rw [hown]
  exact lc_read htow
theorem lc_set {X : Cx} {W : WX} {sc : Scope} {k : Nat} (c : Cok C w Φ CA X W sc k) (hhot : C.hot = false) {m : Bool} {own : List Nat} {e : Ex} {tg : Tg} {it : Wk} {o : Exo} {elt t iter : Expr} {ifs : List Expr} {scope : Scope} {pos py spos : Pos} {i : Nat} {y : Str}
    (hblk : blkC C.N sc scope (ownN C.N own) = true) (hown : (ownN C.N own).map (·.2) = own) (htg : tgB C.N (relS scope sc) tg t = true) (hsto : stB scope t = true) (htow : tgOwn own tg = true)
    (hf : ∀ x, foldedSetIterable iter X.env x = pure x) (hi : PI X t iter (tI w Φ CA X.K W it)) (hy : C.N[i]? = some y) (hyl : sc.names.lookup y = some .local) (hln : py.line = pos.line) (hk : sc.kind = .function)
    (hany : (scope.names.any fun nk => nk.1 == y && (nk.2 == .local || nk.2 == .cell)) = false)
    (he : ∀ (s : Shared) (H : Hp) (cl : List (Str × Addr)) (Cd : Addr) (fp : List Addr), PE (X.blk s H scope (compEnvC scope cl Cd X.env) fp) elt (tE w Φ CA X.K (fun _ _ _ _ => False) e))
    (ho : ∀ (s : Shared) (H : Hp) (cl : List (Str × Addr)) (Cd : Addr) (fp : List Addr), PTs (X.blk s H scope (compEnvC scope cl Cd X.env) fp) ifs (tTs w Φ CA X.K o)) :
    PS X (.Assign [.Name y py] (.ListComp elt [⟨t, iter, ifs, 0⟩] scope pos) spos) (tAsg (tE w Φ CA X.K W (.lc m own e tg it o)) (gName i)) := by
  have hb : BlkOk X.N X.env.scope scope (ownN C.N own) := by rw [c.hN, c.sc]; exact blkOk_by hblk
  have hg : ∀ (s : Shared) (H : Hp) (Cd : Addr) (cl : List (Str × Addr)) (fp : List Addr), PG (X.blk s H scope (compEnvC scope cl Cd X.env) fp) t (gA X.K tg) := fun s H Cd cl fp => pgA (c.blk s H scope cl Cd fp) (.inl hhot) htg (tgSto_blk hsto)
  have hN : X.N.Nodup := by rw [c.hN]; exact c.nd
  refine PS.imp (ps_setLc (i := i) (c.xk.calm hhot) hN (by rw [c.hN]; exact hy) (by rw [c.sc]; exact hyl) (sw_true (by rw [c.sc]; exact hk) (by rw [c.sc]; exact hyl) (by rw [hln]; exact beq_self_eq_true _) hany) hi hb hg (fun s H Cd cl fp => ho s H cl Cd fp) (fun s H Cd cl fp => he s H cl Cd fp) hf) ?_
  rw [hown]
  exact fun Dn σ H q => lc_read htow σ H _ q

theorem hfew1 {a : Expr} {env : Env} {pos : Pos} (h : goodHead a = true) : ((backTo pos (starEach [a] env)).all (fun x => !x.1) && (backToKw pos (keywordEach [] env)).all (fun x => x.1.isSome)
      && decide ([a].length + ([] : List Keyword).length + (if ([] : List Keyword).isEmpty then 0 else 1) < 30)) = true := by
  rw [head_star h]
  rfl
theorem exf_dict {c : Nat} {od : Option Addr} {H : Hp} {us : List V} (h : ExF c od H us) : ∀ dx, od = some dx → ∃ u f, H dx = some (.xd [(f, u)]) := fun dx e => by
  rcases h with ⟨_, h⟩ | ⟨dx', u, _, h, h2⟩
  · rw [h] at e; cases e
  · rw [h] at e; cases e; exact ⟨_, _, h2⟩
theorem strs_rep {K : PySem.W.Frag} {M : Ms} {H : Hp} : ∀ l : List (List Nat), Reps K M H (l.map D.str) ((l.map strV).map V.str)
  | [] => rfl
  | _ :: l => ⟨_, _, rfl, rfl, strs_rep l⟩
theorem idx_facts {K : PySem.W.Frag} {M : Ms} {H : Hp} {x : D} {v : V} (hx : flat x = true) (rx : RepW K M H x v) {ds : List D} {vs : List V} (hds : ds.all flat = true) (r : Reps K M H ds vs) (ha : ds.any (fun y => flatEq y x) = true) :
    ∃ z, vs[ds.findIdx fun y => flatEq y x]? = some z ∧ eqV z v = true ∧ ∀ (m : Nat) (z' : V), m < (ds.findIdx fun y => flatEq y x) → vs[m]? = some z' → eqV z' v = false := by
  have hl : (ds.findIdx fun y => flatEq y x) < ds.length := by
    rw [List.findIdx_lt_length]
    rw [List.any_eq_true] at ha
    exact ha
  have g := List.findIdx_getElem (w := hl)
  have get := fun (i : Nat) (h : i < ds.length) => r.get (List.getElem?_eq_getElem h)
  have fl : ∀ (i : Nat) (h : i < ds.length), flat ds[i] = true := fun i h => List.all_eq_true.mp hds _ (List.getElem_mem h)
  have rw' : ∀ {d : D} {u : V}, flat d = true → Rep K M H d u → RepW K M H d u := fun h q => repW_of q fun l e => by subst e; cases h
  obtain ⟨z, h1, h2⟩ := get _ hl
  refine ⟨z, h1, by rw [flat_eq (fl _ hl) hx (rw' (fl _ hl) h2) rx]; exact g, fun m z' hm hz' => ?_⟩
  have hml : m < ds.length := by omega
  obtain ⟨u, h3, h4⟩ := get m hml
  rw [h3] at hz'
  cases hz'
  rw [flat_eq (fl _ hml) hx (rw' (fl _ hml) h4) rx]
  have := List.not_of_lt_findIdx hm
  simpa using this
mutual
theorem isTyS_cls {st : Sto} {sub : Nat → Nat → Option Bool} {c l : Nat} {b : Bool} (h : isTyS st sub (.cls c) (.ref l) = some b) : False := by
  unfold isTyS at h
  simp only at h
  split at h <;> cases h
theorem mul_lst {y1 y2 : D} {zs : List D} (h : bop .mul y1 y2 = some (.lst zs)) : ∃ ds k, y1 = .lst ds ∧ y2 = .int k ∧ k ≤ 1000 ∧ -1000 ≤ k ∧ ds.length ≤ 1000 ∧ zs = (List.replicate k.toNat ds).flatten := by
  unfold bop at h
  split at h <;> first | (cases h; done) | contradiction | skip
  · split at h <;> cases h
  · obtain ⟨_, e⟩ := some_ite h; cases e
  · obtain ⟨hl, e⟩ := some_ite h
    cases e
    exact ⟨_, _, rfl, rfl, hl.1, hl.2.1, hl.2.2, rfl⟩
theorem ty_ofS {K : PySem.W.Frag} {M : Ms} {H : Hp} {st : Sto} {d : D} {v : V} {t : Ty} {b : Bool} {sub : Nat → Nat → Option Bool} (s : StoOk K M H st) (r : Rep K M H d v) (h : isTyS st sub t (view st d) = some b) (ht : tyB t = true) : ∃ ty, TyX K H v (.type ty) ∧ kitB ty (tyName t) = some b := by
  have r2 := viewed s r
  cases hv : view st d with
  | ref l =>
    rw [hv] at h r2
    obtain ⟨a, rfl, ha⟩ := r2
    unfold isTyS at h
    simp only at h
    split at h
    · rename_i kvs hk
      obtain ⟨gs, h1, _⟩ := s.cell _ _ _ ha hk
      refine ⟨"dict", .base (.dK h1), ?_⟩
      cases t <;> first | (cases ht; done) | (simp at h; subst h; decide +kernel)
    · cases h
  | non => rw [hv] at h r2; exact ty_of r2 h ht
  | bl _ => rw [hv] at h r2; exact ty_of r2 h ht
  | int _ => rw [hv] at h r2; exact ty_of r2 h ht
  | str _ => rw [hv] at h r2; exact ty_of r2 h ht
  | tup _ => rw [hv] at h r2; exact ty_of r2 h ht
  | lst _ => rw [hv] at h r2; exact ty_of r2 h ht
  | exc _ _ => rw [hv] at h r2; exact ty_of r2 h ht
theorem attH_base {o : Expr} (h : attH o = true) (m : Str) (env : Env) : attributeBase o m env (eval o env) = eval o env := by
  cases o <;> first | (cases h; done) | rfl | skip
  rename_i f as ks p
  cases f <;> first | (cases h; done) | rfl | skip
  cases as <;> first | (cases h; done) | rfl
theorem uprD_ok {d z : D} (h : uprD d = some z) : ∃ s t, d = .str s ∧ z = .str t ∧ Txt.upper (strV s) = strV t ∧ (strV s).length ≤ 5592405 := by
  cases d <;> first | (cases h; done) | skip
  rename_i s
  simp only [uprD] at h
  split at h
  · cases h; rename_i e; subst e; exact ⟨_, _, rfl, rfl, by decide +kernel, by decide⟩
  split at h
  · cases h; rename_i e; subst e; exact ⟨_, _, rfl, rfl, by decide +kernel, by decide⟩
  split at h
  · cases h; rename_i e; subst e; exact ⟨_, _, rfl, rfl, by decide +kernel, by decide⟩
  split at h
  · cases h; rename_i e; subst e; exact ⟨_, _, rfl, rfl, by decide +kernel, by decide⟩
  split at h
  · cases h; rename_i e; subst e; exact ⟨_, _, rfl, rfl, by decide +kernel, by decide⟩
  · cases h
theorem Reps.dropLast {K : PySem.W.Frag} {M : Ms} {H : Hp} : ∀ {ds : List D} {vs : List V}, Reps K M H ds vs → Reps K M H ds.dropLast vs.dropLast
  | [], _, h => by cases h; rfl
  | [d], _, ⟨v, r, e, h1, h2⟩ => by cases h2; subst e; rfl
  | d :: d2 :: ds, _, ⟨v, _, e, h1, ⟨v2, r2, e2, h3, h4⟩⟩ => by
    subst e e2
    exact ⟨v, _, rfl, h1, Reps.dropLast (ds := d2 :: ds) ⟨v2, r2, rfl, h3, h4⟩⟩
theorem Reps.eraseIdx {K : PySem.W.Frag} {M : Ms} {H : Hp} : ∀ {ds : List D} {vs : List V} (n : Nat), Reps K M H ds vs → Reps K M H (ds.eraseIdx n) (vs.eraseIdx n)
  | [], _, _, h => by cases h; rfl
  | _ :: _, _, 0, ⟨_, _, e, _, h2⟩ => by subst e; exact h2
  | _ :: _, _, n + 1, ⟨v, _, e, h1, h2⟩ => by subst e; exact ⟨v, _, rfl, h1, Reps.eraseIdx n h2⟩
theorem snd : ∀ (e : Ex), SE C w Φ CA e ∧ ST C w Φ CA e ∧ SW C w Φ CA e
  | .var i => by
    have h1 : SE C w Φ CA (.var i) := fun X W sc k x c h => by
      simp only [chkE] at h
      split at h <;> first | (cases h; done) | skip
      simp only [Bool.and_eq_true, decide_eq_true_eq] at h
      refine PE.imp (pe_var (i := i) (by rw [c.hN]; exact h.1.1) (c.vis h.1.2) (okName_d h.2) (okName_c h.2)) fun σ H Q ⟨M, env, st, hs, he, g⟩ => ?_
      simp only [ev] at g
      split at g
      · rename_i d hd
        obtain ⟨v, h1, h2⟩ := he.get i d hd
        exact ⟨v, h1, g.ok hs h2⟩
      · exact g.elim
    exact ⟨h1, st_plain h1 (fun sc x h => by cases x <;> first | rfl | (simp [chkE] at h)), sw_no fun _ _ _ _ h => by simp [chkE] at h⟩
  | .cst d => by
    have h1 : SE C w Φ CA (.cst d) := fun X W sc k x c h => by
      simp only [chkE] at h
      split at h <;> first | (cases h; done) | skip
      rename_i cc kk pp
      have fin : ∀ (v : V), (∀ M H, Rep X.K M H d v) → ∀ σ H Q, tE w Φ CA X.K W (.cst d) σ H Q → tC v σ H Q := fun v hr σ H Q ⟨M, env, st, hs, he, g⟩ => by
        simp only [ev] at g
        exact g.ok hs (hr M H)
      cases d <;> cases cc <;> simp [cstB] at h
      · exact PE.imp pe_non (fin .non fun _ _ => rfl)
      · subst h; exact PE.imp pe_bl (fin _ fun _ _ => rfl)
      · subst h; exact PE.imp pe_int (fin _ fun _ _ => rfl)
      · subst h; exact PE.imp pe_str (fin _ fun _ _ => rfl)
    exact ⟨h1, st_plain h1 (fun sc x h => by cases x <;> first | rfl | (simp [chkE] at h)), sw_no fun _ _ _ _ h => by simp [chkE] at h⟩
  | .glb n => by
    have h1 : SE C w Φ CA (.glb n) := fun X W sc k x c h => by
      simp only [chkE] at h
      split at h <;> first | (cases h; done) | skip
      simp only [Bool.and_eq_true, decide_eq_true_eq] at h
      cases hd : w.glb n with
      | none =>
        refine ⟨fun pins s σ H Q I ⟨M, env, st, hs, he, g⟩ => ?_⟩
        simp only [ev, hd, lft_none] at g
        exact g.elim
      | some d =>
        obtain ⟨v, u, h3, h4, h5, _⟩ := c.gl n _ d h.1.1 hd
        refine PE.imp (pe_glob (c.gl' h.1.2) h3 h4 (okName_d h.2)) fun σ H Q ⟨M, env, st, hs, he, g⟩ => ?_
        simp only [ev, hd, lft_some] at g
        exact g.ok hs (h5 M H)
    exact ⟨h1, st_plain h1 (fun sc x h => by cases x <;> first | rfl | (simp [chkE] at h)), sw_no fun _ _ _ _ h => by simp [chkE] at h⟩
  | .bin op a b => by
    have ha := (snd a).1
    have hb := (snd b).1
    have h1 : SE C w Φ CA (.bin op a b) := fun X W sc k x c h => by
      simp only [chkE] at h
      split at h <;> first | (cases h; done) | skip
      simp only [Bool.and_eq_true] at h
      refine ⟨fun pins s σ H Q I hq => ?_⟩
      refine (pe_op (opS (W := fun cls d H' => W cls d σ H') (CA := CA) c.xk h.1.1) (ha X W sc k _ c h.1.2) (hb X W sc k _ c h.2)).run pins s σ H Q I ?_
      obtain ⟨M, env, st, hs, he, g⟩ := hq
      simp only [ev] at g
      refine ⟨M, env, st, hs, he, Got.bnd g fun d s1 M1 H1 v e1 hs1 r1 g1 => ⟨M1, env, s1, hs1, he.ext e1 hs.noTup, Got.bnd g1 fun d2 s2 M2 H2 v2 e2 hs2 r2 g2 => ?_⟩⟩
      exact ⟨M2, s2, _, _, hs2, viewed hs2 (r1.ext e2 hs1.noTup), viewed hs2 r2, g2⟩
    exact ⟨h1, st_plain h1 (fun sc x h => by cases x <;> first | rfl | (simp [chkE] at h)), sw_no fun _ _ _ _ h => by simp [chkE] at h⟩
  | .neg a => by
    have ha := (snd a).1
    have h1 : SE C w Φ CA (.neg a) := fun X W sc k x c h => by
      simp only [chkE] at h
      split at h <;> first | (cases h; done) | skip
      refine PE.imp (pe_un un_neg (ha X W sc k _ c h)) fun σ H Q ⟨M, env, st, hs, he, g⟩ => ?_
      simp only [ev] at g
      refine ⟨M, env, st, hs, he, Got.bnd g fun d s1 M1 H1 v e1 hs1 r1 g1 => ?_⟩
      cases d <;> first | exact g1.elim | skip
      exact ⟨_, r1, g1.ok hs1 rfl⟩
    exact ⟨h1, st_plain h1 (fun sc x h => by
      cases x <;> first | rfl | (simp [chkE] at h; done) | skip
      rename_i op _ _
      cases op <;> first | rfl | (simp [chkE] at h)), sw_no fun _ _ _ _ h => by simp [chkE] at h⟩
  | .not a => by
    have ha := (snd a).1
    have hat := (snd a).2.1
    refine ⟨fun X W sc k x c h => ?_, fun X W sc k x c h => ?_, sw_no fun _ _ _ _ h => by simp [chkE] at h⟩
    · simp only [chkE] at h
      split at h <;> first | (cases h; done) | skip
      refine PE.imp (pe_notT (ha X W sc k _ c h)) fun σ H Q ⟨M, env, st, hs, he, g⟩ => ?_
      simp only [ev] at g
      refine ⟨M, env, st, hs, he, Got.bnd g fun d s1 M1 H1 v e1 hs1 r1 g1 => ?_⟩
      obtain ⟨z, hz, g2⟩ := g1.lft
      obtain ⟨b, hb, rfl⟩ := Option.map_eq_some_iff.mp hz
      exact ⟨b, truS (viewed hs1 r1) hb, g2.ok hs1 rfl⟩
    · simp only [chkE] at h
      split at h <;> first | (cases h; done) | skip
      refine PT.imp (pt_not (hat X W sc k _ c h)) fun σ H Q ⟨M, env, st, hs, he, g⟩ => ?_
      rw [evt_not] at g
      refine ⟨M, env, st, hs, he, Got.bnd g fun d s1 M1 H1 v e1 hs1 r1 g1 => ?_⟩
      cases r1
      exact g1.ok hs1 rfl
  | .one a => by
    have ha := (snd a).1
    have hat := (snd a).2.1
    have e1 : ∀ env st, evt w Φ (.one a) env st = evt w Φ a env st := fun env st => by unfold evt; simp only [ev]
    have h2 : SW C w Φ CA (.one a) := fun X W sc k op vs p c h => by
      simp only [chkE] at h
      split at h <;> first | (cases h; done) | skip
      rename_i heq
      cases heq
      have ht := hat X W sc k _ c h
      have ht' : PT X _ (tT w Φ CA X.K W (.one a)) := PT.imp ht fun σ H Q ⟨M, env, st, hs, he, g⟩ => ⟨M, env, st, hs, he, by rw [e1] at g; exact g⟩
      cases op
      · exact pw_and1 ht'
      · exact pw_or1 ht'
    refine ⟨fun X W sc k x c h => ?_, fun X W sc k x c h => ?_, h2⟩
    · simp only [chkE] at h
      split at h <;> first | (cases h; done) | skip
      refine PE.imp (pe_one (ha X W sc k _ c h)) fun σ H Q ⟨M, env, st, hs, he, g⟩ => ⟨M, env, st, hs, he, ?_⟩
      simp only [ev] at g
      exact g
    · have h0 := h
      simp only [chkE] at h
      split at h <;> first | (cases h; done) | skip
      exact (h2 X W sc k _ _ _ c h0).pt
  | .and a b => by
    have ha := (snd a).1
    have hat := (snd a).2.1
    have hb := (snd b).1
    have hbw := (snd b).2.2
    have h2 : SW C w Φ CA (.and a b) := fun X W sc k op vs p c h => by
      simp only [chkE] at h
      split at h <;> first | (cases h; done) | skip
      rename_i heq
      cases heq
      simp only [Bool.and_eq_true] at h
      refine ⟨fun wh pins s σ H Q I hq => (pw_and (hat X W sc k _ c h.1) (hbw X W sc k _ _ _ c h.2)).run wh pins s σ H Q I ?_⟩
      obtain ⟨M, env, st, hs, he, g⟩ := hq
      rw [evt_and] at g
      refine ⟨M, env, st, hs, he, Got.bnd g fun d s1 M1 H1 v e1 hs1 r1 g1 => ?_⟩
      cases r1
      cases d with
      | true => exact iteT ⟨M1, env, s1, hs1, he.ext e1 hs.noTup, g1⟩
      | false => exact iteF (g1.ok hs1 rfl)
    refine ⟨fun X W sc k x c h => ?_, fun X W sc k x c h => ?_, h2⟩
    · simp only [chkE] at h
      split at h <;> first | (cases h; done) | skip
      simp only [Bool.and_eq_true] at h
      refine PE.imp (pe_andT (ha X W sc k _ c h.1) (hb X W sc k _ c h.2)) fun σ H Q ⟨M, env, st, hs, he, g⟩ => ?_
      simp only [ev] at g
      refine ⟨M, env, st, hs, he, Got.bnd g fun d s1 M1 H1 v e1 hs1 r1 g1 => ?_⟩
      cases ht : tru (view s1 d) with
      | none => rw [ht] at g1; exact g1.elim
      | some z =>
        rw [ht] at g1
        simp only [lft_some, bnd_ok] at g1
        refine ⟨z, truS (viewed hs1 r1) ht, ?_⟩
        cases z with
        | true => exact iteT ⟨M1, env, s1, hs1, he.ext e1 hs.noTup, g1⟩
        | false => exact iteF (g1.ok hs1 r1)
    · have h0 := h
      simp only [chkE] at h
      split at h <;> first | (cases h; done) | skip
      exact (h2 X W sc k _ _ _ c h0).pt
  | .or a b => by
    have ha := (snd a).1
    have hat := (snd a).2.1
    have hb := (snd b).1
    have hbw := (snd b).2.2
    have h2 : SW C w Φ CA (.or a b) := fun X W sc k op vs p c h => by
      simp only [chkE] at h
      split at h <;> first | (cases h; done) | skip
      rename_i heq
      cases heq
      simp only [Bool.and_eq_true] at h
      refine ⟨fun wh pins s σ H Q I hq => (pw_or (hat X W sc k _ c h.1) (hbw X W sc k _ _ _ c h.2)).run wh pins s σ H Q I ?_⟩
      obtain ⟨M, env, st, hs, he, g⟩ := hq
      rw [evt_or] at g
      refine ⟨M, env, st, hs, he, Got.bnd g fun d s1 M1 H1 v e1 hs1 r1 g1 => ?_⟩
      cases r1
      cases d with
      | true => exact iteT (g1.ok hs1 rfl)
      | false => exact iteF ⟨M1, env, s1, hs1, he.ext e1 hs.noTup, g1⟩
    refine ⟨fun X W sc k x c h => ?_, fun X W sc k x c h => ?_, h2⟩
    · simp only [chkE] at h
      split at h <;> first | (cases h; done) | skip
      simp only [Bool.and_eq_true] at h
      refine PE.imp (pe_orT (ha X W sc k _ c h.1) (hb X W sc k _ c h.2)) fun σ H Q ⟨M, env, st, hs, he, g⟩ => ?_
      simp only [ev] at g
      refine ⟨M, env, st, hs, he, Got.bnd g fun d s1 M1 H1 v e1 hs1 r1 g1 => ?_⟩
      cases ht : tru (view s1 d) with
      | none => rw [ht] at g1; exact g1.elim
      | some z =>
        rw [ht] at g1
        simp only [lft_some, bnd_ok] at g1
        refine ⟨z, truS (viewed hs1 r1) ht, ?_⟩
        cases z with
        | true => exact iteT (g1.ok hs1 r1)
        | false => exact iteF ⟨M1, env, s1, hs1, he.ext e1 hs.noTup, g1⟩
    · have h0 := h
      simp only [chkE] at h
      split at h <;> first | (cases h; done) | skip
      exact (h2 X W sc k _ _ _ c h0).pt
  | .cmp op a b => by
    have ha := (snd a).1
    have hb := (snd b).1
    refine ⟨fun X W sc k x c h => ?_, fun X W sc k x c h => ?_, sw_no fun _ _ _ _ h => by simp [chkE] at h⟩
    · simp only [chkE] at h
      split at h <;> first | (cases h; done) | skip
      simp only [Bool.and_eq_true] at h
      refine ⟨fun pins s σ H Q I hq => ?_⟩
      refine (pe_cmpR (copS (W := fun cls d H' => W cls d σ H') (CA := CA) c.xk h.1.1) (ha X W sc k _ c h.1.2) (hb X W sc k _ c h.2) (head_mark (chk_head h.2) _)).run pins s σ H Q I ?_
      obtain ⟨M, env, st, hs, he, g⟩ := hq
      simp only [ev] at g
      refine ⟨M, env, st, hs, he, Got.bnd g fun d s1 M1 H1 v e1 hs1 r1 g1 => ⟨M1, env, s1, hs1, he.ext e1 hs.noTup, Got.bnd g1 fun d2 s2 M2 H2 v2 e2 hs2 r2 g2 => ?_⟩⟩
      exact ⟨M2, s2, _, _, hs2, viewed hs2 (r1.ext e2 hs1.noTup), viewed hs2 r2, g2⟩
    · simp only [chkE] at h
      split at h <;> first | (cases h; done) | skip
      simp only [Bool.and_eq_true] at h
      refine ⟨fun pins s σ H Q I hq => ?_⟩
      refine (pt_cmpR (copS (W := fun cls d H' => W cls d σ H') (CA := CA) c.xk h.1.1) (ha X W sc k _ c h.1.2) (hb X W sc k _ c h.2) (head_mark (chk_head h.2) _)).run pins s σ H Q I ?_
      obtain ⟨M, env, st, hs, he, g⟩ := hq
      have g' : Got X.K CA M H isB (fun cls d H' => W cls d σ H') (bnd (ev w Φ a env st) fun x s1 => bnd (ev w Φ b env s1) fun y s2 => lft (cop op (view s2 x) (view s2 y)) s2) Q := by
        have e : evt w Φ (.cmp op a b) env st = bnd (ev w Φ a env st) fun x s1 => bnd (ev w Φ b env s1) fun y s2 => lft (cop op (view s2 x) (view s2 y)) s2 := by
          unfold evt
          simp only [ev]
          cases ev w Φ a env st with
          | none => rfl
          | some r =>
            cases r with
            | ex x s => rfl
            | ok x s =>
              simp only [bnd_ok]
              cases ev w Φ b env s with
              | none => rfl
              | some r =>
                cases r with
                | ex x s => rfl
                | ok y s2 =>
                  simp only [bnd_ok]
                  cases cop op (view s2 x) (view s2 y) with
                  | none => rfl
                  | some z => rfl
        rw [← e]; exact g
      refine ⟨M, env, st, hs, he, Got.bnd g' fun d s1 M1 H1 v e1 hs1 r1 g1 => ⟨M1, env, s1, hs1, he.ext e1 hs.noTup, Got.bnd g1 fun d2 s2 M2 H2 v2 e2 hs2 r2 g2 => ?_⟩⟩
      refine ⟨M2, s2, _, _, hs2, viewed hs2 (r1.ext e2 hs1.noTup), viewed hs2 r2, ?_⟩
      obtain ⟨z, hz, g3⟩ := g2.lft
      simp only [hz, Option.map_some, lft_some]
      exact fun M' H' v e s r => ⟨z, r, g3.okE e s rfl⟩
  | .chn op op' a b cc => by
    have ha := (snd a).1
    have hb := (snd b).1
    have hcc := (snd cc).1
    have core : ∀ (X : Cx) (W : WX) (σ : L2.St) (H : Hp) (Q : VK) M env st, StoOk X.K M H st → EnvOk X.K M H env σ → Got X.K CA M H (Rep X.K) (fun cls d H' => W cls d σ H') (ev w Φ (.chn op op' a b cc) env st) Q →
        tChain (rD2 X.K CA (fun cls d H' => W cls d σ H') fun d e => (cop op d e).map .bl) (rD2 X.K CA (fun cls d H' => W cls d σ H') fun d e => (cop op' d e).map .bl) (tE w Φ CA X.K W a) (tE w Φ CA X.K W b) (tE w Φ CA X.K W cc) σ H Q := by
      intro X W σ H Q M env st hs he g
      simp only [ev] at g
      refine ⟨M, env, st, hs, he, Got.bnd g fun d s1 M1 H1 v e1 hs1 r1 g1 => ⟨M1, env, s1, hs1, he.ext e1 hs.noTup, Got.bnd g1 fun d2 s2 M2 H2 v2 e2 hs2 r2 g2 => ?_⟩⟩
      refine ⟨M2, s2, _, _, hs2, viewed hs2 (r1.ext e2 hs1.noTup), viewed hs2 r2, ?_⟩
      cases hz : cop op (view s2 d) (view s2 d2) with
      | none => rw [hz] at g2; exact g2.elim
      | some z =>
        rw [hz] at g2
        simp only [lft_some, bnd_ok] at g2
        show Got X.K CA M2 H2 (Rep X.K) _ (lft ((cop op (view s2 d) (view s2 d2)).map .bl) s2) _
        rw [hz]
        show Got X.K CA M2 H2 (Rep X.K) _ (some (.ok (.bl z) s2)) _
        intro M3 H3 v3 e3 hs3 r3
        refine ⟨z, r3, ?_⟩
        cases z with
        | false => exact iteF (g2.okE e3 hs3 rfl)
        | true =>
          refine iteT ⟨M3, env, s2, hs3, (he.ext e1 hs.noTup).ext (e2.trans e3) hs1.noTup, Got.bnd (g2.ext e3) fun d4 s4 M4 H4 v4 e4 hs4 r4 g4 => ?_⟩
          exact ⟨M4, s4, _, _, hs4, viewed hs4 (r2.ext (e3.trans e4) hs2.noTup), viewed hs4 r4, g4⟩
    refine ⟨fun X W sc k x c h => ?_, fun X W sc k x c h => ?_, sw_no fun _ _ _ _ h => by simp [chkE] at h⟩
    · simp only [chkE] at h
      split at h <;> first | (cases h; done) | skip
      simp only [Bool.and_eq_true] at h
      refine ⟨fun pins s σ H Q I hq => ?_⟩
      obtain ⟨M, env, st, hs, he, g⟩ := hq
      have hm := head_mark (chk_head h.2)
      exact (pe_chain (copS (W := fun cls d H' => W cls d σ H') (CA := CA) c.xk h.1.1.1.1) (copS (W := fun cls d H' => W cls d σ H') (CA := CA) c.xk h.1.1.1.2) (ha X W sc k _ c h.1.1.2) (hb X W sc k _ c h.1.2) (hcc X W sc k _ c h.2) (by show behindInMarks _ _ = false; exact hm _)).run pins s σ H Q I (core X W σ H Q M env st hs he g)
    · simp only [chkE] at h
      split at h <;> first | (cases h; done) | skip
      simp only [Bool.and_eq_true] at h
      refine ⟨fun pins s σ H Q I hq => ?_⟩
      obtain ⟨M, env, st, hs, he, g⟩ := hq
      have hm := head_mark (chk_head h.2)
      refine (pt_chain (copS (W := fun cls d H' => W cls d σ H') (CA := CA) c.xk h.1.1.1.1) (copS (W := fun cls d H' => W cls d σ H') (CA := CA) c.xk h.1.1.1.2) (ha X W sc k _ c h.1.1.2) (hb X W sc k _ c h.1.2) (hcc X W sc k _ c h.2) (by show behindInMarks _ _ = false; exact hm _)).run pins s σ H Q I (core X W σ H _ M env st hs he ?_)
      unfold evt at g
      exact bl_test (fun x s hx => chn_bl hx) g
  | .dcm op a b => by
    have ha := (snd a).1
    have hb := (snd b).1
    refine ⟨fun X W sc k x c h => ?_, fun X W sc k x c h => ?_, sw_no fun _ _ _ _ h => by simp [chkE] at h⟩
    · simp only [chkE] at h
      split at h <;> first | (cases h; done) | skip
      simp only [Bool.and_eq_true] at h
      refine ⟨fun pins s σ H Q I hq => ?_⟩
      refine (pe_cmpR (dcopS (W := fun cls d H' => W cls d σ H') (CA := CA) c.xk h.1.1.1 h.1.1.2) (ha X W sc k _ c h.1.2) (hb X W sc k _ c h.2) (head_mark (chk_head h.2) _)).run pins s σ H Q I ?_
      obtain ⟨M, env, st, hs, he, g⟩ := hq
      simp only [ev] at g
      refine ⟨M, env, st, hs, he, Got.bnd g fun d s1 M1 H1 v e1 hs1 r1 g1 => ⟨M1, env, s1, hs1, he.ext e1 hs.noTup, Got.bnd g1 fun d2 s2 M2 H2 v2 e2 hs2 r2 g2 => ?_⟩⟩
      exact ⟨M2, s2, _, _, hs2, r1.ext e2 hs1.noTup, r2, g2⟩
    · simp only [chkE] at h
      split at h <;> first | (cases h; done) | skip
      simp only [Bool.and_eq_true] at h
      refine ⟨fun pins s σ H Q I hq => ?_⟩
      refine (pt_cmpR (dcopS (W := fun cls d H' => W cls d σ H') (CA := CA) c.xk h.1.1.1 h.1.1.2) (ha X W sc k _ c h.1.2) (hb X W sc k _ c h.2) (head_mark (chk_head h.2) _)).run pins s σ H Q I ?_
      obtain ⟨M, env, st, hs, he, g⟩ := hq
      have g' : Got X.K CA M H isB (fun cls d H' => W cls d σ H') (bnd (ev w Φ a env st) fun x s1 => bnd (ev w Φ b env s1) fun y s2 => lft (cop op (dvw s2 60 x) (dvw s2 60 y)) s2) Q := by
        have e : evt w Φ (.dcm op a b) env st = bnd (ev w Φ a env st) fun x s1 => bnd (ev w Φ b env s1) fun y s2 => lft (cop op (dvw s2 60 x) (dvw s2 60 y)) s2 := by
          unfold evt
          simp only [ev]
          cases ev w Φ a env st with
          | none => rfl
          | some r =>
            cases r with
            | ex x s => rfl
            | ok x s =>
              simp only [bnd_ok]
              cases ev w Φ b env s with
              | none => rfl
              | some r =>
                cases r with
                | ex x s => rfl
                | ok y s2 =>
                  simp only [bnd_ok]
                  cases cop op (dvw s2 60 x) (dvw s2 60 y) with
                  | none => rfl
                  | some z => rfl
        rw [← e]; exact g
      refine ⟨M, env, st, hs, he, Got.bnd g' fun d s1 M1 H1 v e1 hs1 r1 g1 => ⟨M1, env, s1, hs1, he.ext e1 hs.noTup, Got.bnd g1 fun d2 s2 M2 H2 v2 e2 hs2 r2 g2 => ?_⟩⟩
      refine ⟨M2, s2, _, _, hs2, r1.ext e2 hs1.noTup, r2, ?_⟩
      obtain ⟨z, hz, g3⟩ := g2.lft
      simp only [hz, Option.map_some, lft_some]
      exact fun M' H' v e s r => ⟨z, r, g3.okE e s rfl⟩
  | .dch op op' a b cc => by
    have ha := (snd a).1
    have hb := (snd b).1
    have hcc := (snd cc).1
    have core : ∀ (X : Cx) (W : WX) (σ : L2.St) (H : Hp) (Q : VK) M env st, StoOk X.K M H st → EnvOk X.K M H env σ → Got X.K CA M H (Rep X.K) (fun cls d H' => W cls d σ H') (ev w Φ (.dch op op' a b cc) env st) Q →
        tChain (rDv X.K CA (fun cls d H' => W cls d σ H') op) (rDv X.K CA (fun cls d H' => W cls d σ H') op') (tE w Φ CA X.K W a) (tE w Φ CA X.K W b) (tE w Φ CA X.K W cc) σ H Q := by
      intro X W σ H Q M env st hs he g
      simp only [ev] at g
      refine ⟨M, env, st, hs, he, Got.bnd g fun d s1 M1 H1 v e1 hs1 r1 g1 => ⟨M1, env, s1, hs1, he.ext e1 hs.noTup, Got.bnd g1 fun d2 s2 M2 H2 v2 e2 hs2 r2 g2 => ?_⟩⟩
      refine ⟨M2, s2, _, _, hs2, r1.ext e2 hs1.noTup, r2, ?_⟩
      cases hz : cop op (dvw s2 60 d) (dvw s2 60 d2) with
      | none => rw [hz] at g2; exact g2.elim
      | some z =>
        rw [hz] at g2
        simp only [lft_some, bnd_ok] at g2
        show Got X.K CA M2 H2 (Rep X.K) _ (some (.ok (.bl z) s2)) _
        intro M3 H3 v3 e3 hs3 r3
        refine ⟨z, r3, ?_⟩
        cases z with
        | false => exact iteF (g2.okE e3 hs3 rfl)
        | true =>
          refine iteT ⟨M3, env, s2, hs3, (he.ext e1 hs.noTup).ext (e2.trans e3) hs1.noTup, Got.bnd (g2.ext e3) fun d4 s4 M4 H4 v4 e4 hs4 r4 g4 => ?_⟩
          exact ⟨M4, s4, _, _, hs4, r2.ext (e3.trans e4) hs2.noTup, r4, g4⟩
    refine ⟨fun X W sc k x c h => ?_, fun X W sc k x c h => ?_, sw_no fun _ _ _ _ h => by simp [chkE] at h⟩
    · simp only [chkE] at h
      split at h <;> first | (cases h; done) | skip
      simp only [Bool.and_eq_true] at h
      refine ⟨fun pins s σ H Q I hq => ?_⟩
      obtain ⟨M, env, st, hs, he, g⟩ := hq
      have hm := head_mark (chk_head h.2)
      exact (pe_chain (dcopS (W := fun cls d H' => W cls d σ H') (CA := CA) c.xk h.1.1.1.1.1.1 h.1.1.1.1.1.2) (dcopS (W := fun cls d H' => W cls d σ H') (CA := CA) c.xk h.1.1.1.1.2 h.1.1.1.2) (ha X W sc k _ c h.1.1.2) (hb X W sc k _ c h.1.2) (hcc X W sc k _ c h.2) (by show behindInMarks _ _ = false; exact hm _)).run pins s σ H Q I (core X W σ H Q M env st hs he g)
    · simp only [chkE] at h
      split at h <;> first | (cases h; done) | skip
      simp only [Bool.and_eq_true] at h
      refine ⟨fun pins s σ H Q I hq => ?_⟩
      obtain ⟨M, env, st, hs, he, g⟩ := hq
      have hm := head_mark (chk_head h.2)
      refine (pt_chain (dcopS (W := fun cls d H' => W cls d σ H') (CA := CA) c.xk h.1.1.1.1.1.1 h.1.1.1.1.1.2) (dcopS (W := fun cls d H' => W cls d σ H') (CA := CA) c.xk h.1.1.1.1.2 h.1.1.1.2) (ha X W sc k _ c h.1.1.2) (hb X W sc k _ c h.1.2) (hcc X W sc k _ c h.2) (by show behindInMarks _ _ = false; exact hm _)).run pins s σ H Q I (core X W σ H _ M env st hs he ?_)
      unfold evt at g
      exact bl_test (fun x s hx => dch_bl hx) g
  | .dnw => by
    have h1 : SE C w Φ CA .dnw := fun X W sc k x c h => by
      simp only [chkE] at h
      split at h <;> first | (cases h; done) | skip
      refine PE.imp pe_dnewK fun σ H Q ⟨M, env, st, hs, he, g⟩ => ?_
      simp only [ev] at g
      intro p hp
      obtain ⟨s', x⟩ := hs.cellNewG (c := .dct []) (o := .dK []) hp fun _ => ⟨[], upd_same, rfl⟩
      refine g.okE x s' ⟨p, rfl, ?_⟩
      rw [← hs.len]
      simp
    exact ⟨h1, st_plain h1 (fun sc x h => by cases x <;> first | rfl | (simp [chkE] at h)), sw_no fun _ _ _ _ h => by simp [chkE] at h⟩
  | .upr a => by
    have ha := (snd a).1
    have h1 : SE C w Φ CA (.upr a) := fun X W sc k x c h => by
      simp only [chkE] at h
      split at h <;> first | (cases h; done) | skip
      rename_i o m ap p
      simp only [Bool.and_eq_true, decide_eq_true_eq] at h
      obtain ⟨⟨⟨rfl, hl⟩, hat⟩, hx⟩ := h
      refine PE.imp (pe_bm0 PySem.F.plainAttrs_str PySem.F.slot_str_upper PySem.F.type_str_upper mt_upper (ha X W sc k _ c hx) (attH_base hat _ _) (by rw [hl]; exact beq_self_eq_true _)) fun σ H Q ⟨M, env, st, hs, he, g⟩ => ?_
      simp only [ev] at g
      refine ⟨M, env, st, hs, he, Got.bnd g fun d s1 M1 H1 v e1 hs1 r1 g1 => ?_⟩
      obtain ⟨z, hz, g2⟩ := g1.lft
      obtain ⟨s, t, rfl, rfl, e3, e4⟩ := uprD_ok hz
      obtain rfl : v = .str (strV s) := r1
      exact ⟨rfl, _, rfl, rfl, e4, g2.ok hs1 (by rw [e3]; rfl)⟩
    exact ⟨h1, st_plain h1 (fun sc x h => by cases x <;> first | rfl | (simp [chkE] at h)), sw_no fun _ _ _ _ h => by simp [chkE] at h⟩
  | .cld f as dv => by
    have has := sndA as
    have h1 : SE C w Φ CA (.cld f as dv) := fun X W sc k x c h => by
      simp only [chkE] at h
      split at h <;> first | (cases h; done) | skip
      simp only [Bool.and_eq_true, decide_eq_true_eq, Bool.not_eq_true'] at h
      obtain ⟨⟨⟨⟨⟨⟨hhot, hnn⟩, hf⟩, hd⟩, hg⟩, hn⟩, ha⟩ := h
      obtain ⟨fa, fd, ps, dvs, hm, hk, hb, hdv, F, hl⟩ := c.fnd hhot hnn f _ _ hf hd
      refine PE.imp (pe_callSD F ((c.xk.cold hhot).mono (by omega)) (c.gl' hg) hm hk hb hdv (fun σ => tk_pass c.tk σ) (has X W sc k _ c ha) (okName_d hn) ?_ ?_) fun σ H Q ⟨M, env, st, hs, he, g⟩ => ?_
      · cases as with
        | nil => simp [chkEs] at ha
        | cons a r => simp only [chkEs, Bool.and_eq_true] at ha; exact head_star (chk_head ha.1) _ _
      · cases as with
        | nil => simp [chkEs] at ha
        | cons a r => simp only [chkEs, Bool.and_eq_true] at ha; exact back_any _ _ (chkEs_star C ha.2 _)
      · simp only [ev] at g
        refine ⟨M, env, st, hs, he, Got.bnd g fun ds s1 M1 H1 vs e1 hs1 r1 g1 => ⟨M1, s1, ds ++ [.int dv], hs1, r1.append (reps_one (d := .int dv) (v := .int dv) rfl), ?_, g1⟩⟩
        rw [show (vs ++ [V.int dv]).length = (ds ++ [D.int dv]).length by simp [r1.length]]
        refine hl _ s1 fun z => ?_
        rw [z] at g1
        exact g1.elim
    exact ⟨h1, st_plain h1 (fun sc x h => by cases x <;> first | rfl | (simp [chkE] at h)), sw_no fun _ _ _ _ h => by simp [chkE] at h⟩
  | .pop a => by
    have ha := (snd a).1
    have h1 : SE C w Φ CA (.pop a) := fun X W sc k x c h => by
      simp only [chkE] at h
      split at h <;> first | (cases h; done) | skip
      rename_i o m ap p
      simp only [Bool.and_eq_true, decide_eq_true_eq] at h
      obtain ⟨⟨⟨rfl, hl⟩, hat⟩, hx⟩ := h
      refine PE.imp (pe_bm0 PySem.F.plainAttrs_list PySem.F.slot_list_pop PySem.F.type_list_pop mt_pop (ha X W sc k _ c hx) (attH_base hat _ _) (by rw [hl]; exact beq_self_eq_true _)) fun σ H Q ⟨M, env, st, hs, he, g⟩ => ?_
      simp only [ev] at g
      refine ⟨M, env, st, hs, he, Got.bnd g fun d s1 M1 H1 v e1 hs1 r1 g1 => ?_⟩
      cases d <;> first | exact g1.elim | skip
      rename_i l
      obtain ⟨q, rfl, hq⟩ := r1
      cases hz : s1[l]? with
      | none => simp only [hz] at g1; exact g1.elim
      | some cc =>
      cases cc with
      | dct _ => simp only [hz] at g1; exact g1.elim
      | ins _ _ => simp only [hz] at g1; exact g1.elim
      | lst xs =>
      simp only [hz] at g1
      obtain ⟨vs, h2, h3⟩ := hs1.lst hq hz
      cases hy : xs[xs.length - 1]? with
      | none => simp only [hy] at g1; exact g1.elim
      | some y =>
      simp only [hy] at g1
      obtain ⟨u, hu, ru⟩ := h3.get hy
      obtain ⟨hs2, e2⟩ := hs1.cellSet hq (h3.dropLast)
      exact ⟨.inl ⟨rfl, vs, .inl (.inl h2)⟩, q, vs, u, rfl, rfl, h2, by rw [← h3.length]; exact hu, g1.okE e2 hs2 (ru.ext e2 hs1.noTup)⟩
    exact ⟨h1, st_plain h1 (fun sc x h => by cases x <;> first | rfl | (simp [chkE] at h)), sw_no fun _ _ _ _ h => by simp [chkE] at h⟩
  | .pop1 a b => by
    have ha := (snd a).1
    have hb := (snd b).1
    have h1 : SE C w Φ CA (.pop1 a b) := fun X W sc k x c h => by
      simp only [chkE] at h
      split at h <;> first | (cases h; done) | skip
      rename_i o m ap y p
      simp only [Bool.and_eq_true, decide_eq_true_eq] at h
      obtain ⟨⟨⟨⟨rfl, hl⟩, hat⟩, hx⟩, hy⟩ := h
      have hh := chk_head hy
      refine PE.imp (pe_bm PySem.F.plainAttrs_list PySem.F.slot_list_pop PySem.F.type_list_pop mt_popAt (ha X W sc k _ c hx) (pa_cons (hb X W sc k _ c hy) pa_nil (head_star hh _ _)) (attH_base hat _ _) (hfew1 hh) (by rw [hl]; exact beq_self_eq_true _) (head_star hh _ _) rfl) fun σ H Q ⟨M, env, st, hs, he, g⟩ => ?_
      simp only [ev] at g
      refine ⟨M, env, st, hs, he, Got.bnd g fun d s1 M1 H1 v e1 hs1 r1 g1 => ?_⟩
      cases d <;> first | exact g1.elim | skip
      rename_i l
      obtain ⟨q, rfl, hq⟩ := r1
      cases hz : s1[l]? with
      | none => simp only [hz] at g1; exact g1.elim
      | some cc =>
      cases cc with
      | dct _ => simp only [hz] at g1; exact g1.elim
      | ins _ _ => simp only [hz] at g1; exact g1.elim
      | lst xs =>
      simp only [hz] at g1
      obtain ⟨vs, h2, h3⟩ := hs1.lst hq hz
      refine ⟨.inl ⟨rfl, vs, .inl (.inl h2)⟩, M1, env, s1, hs1, he.ext e1 hs.noTup, Got.bnd g1 fun j s2 M2 H2 v2 e2 hs2 r2 g2 => ?_⟩
      cases j <;> first | exact g2.elim | skip
      rename_i j
      cases r2
      have hq2 := e2.toExtW.get hq
      cases hz2 : s2[l]? with
      | none => simp only [hz2] at g2; exact g2.elim
      | some cc =>
      cases cc with
      | dct _ => simp only [hz2] at g2; exact g2.elim
      | ins _ _ => simp only [hz2] at g2; exact g2.elim
      | lst ys =>
      simp only [hz2] at g2
      obtain ⟨us, h4, h5⟩ := hs2.lst hq2 hz2
      by_cases hj : small62 j = true
      case neg => rw [if_neg hj] at g2; exact g2.elim
      rw [if_pos hj] at g2
      cases hix : ixN ys.length j with
      | none => simp only [hix] at g2; exact g2.elim
      | some n =>
      simp only [hix] at g2
      cases hy2 : ys[n]? with
      | none => simp only [hy2] at g2; exact g2.elim
      | some z =>
      simp only [hy2] at g2
      obtain ⟨u, hu, ru⟩ := h5.get hy2
      obtain ⟨hs3, e3⟩ := hs2.cellSet hq2 (h5.eraseIdx n)
      unfold small62 at hj
      simp only [decide_eq_true_eq] at hj
      exact ⟨q, us, j, n, u, rfl, rfl, h4, by omega, by omega, by rw [← h5.length]; exact (ixN_seq (by rw [← ixN_eq]; exact hix)).1, hu, g2.okE e3 hs3 (ru.ext e3 hs2.noTup)⟩
    exact ⟨h1, st_plain h1 (fun sc x h => by cases x <;> first | rfl | (simp [chkE] at h)), sw_no fun _ _ _ _ h => by simp [chkE] at h⟩
  | .lrg a => by
    have ha := (snd a).1
    have h1 : SE C w Φ CA (.lrg a) := fun X W sc k x c h => by
      simp only [chkE] at h
      split at h <;> first | (cases h; done) | skip
      simp only [Bool.and_eq_true, decide_eq_true_eq, Bool.not_eq_true'] at h
      obtain ⟨⟨⟨⟨⟨hhot, rfl⟩, g1⟩, rfl⟩, g2⟩, hz⟩ := h
      have hh := chk_head hz
      refine PE.imp (pe_listRg (c.xk.calm hhot) (c.gl' g1) (c.bl _ (by decide)) (prg_1 (c.gl' g2) (c.bl _ (by decide)) (ha X W sc k _ c hz) (head_star hh _ _)) rfl) fun σ H Q ⟨M, env, st, hs, he, g⟩ => ?_
      simp only [ev] at g
      refine ⟨M, env, st, hs, he, Got.bnd g fun d s1 M1 H1 v e1 hs1 r1 g1 => ?_⟩
      cases d <;> first | exact g1.elim | skip
      rename_i j
      simp only at g1
      by_cases hj : 0 ≤ j ∧ j ≤ 1000
      case neg => rw [if_neg hj] at g1; exact g1.elim
      rw [if_pos hj] at g1
      cases r1
      have h62 : (2 : Int) ^ 62 = 4611686018427387904 := by decide
      refine ⟨j, rfl, ⟨by omega, by omega, by omega, by omega, by omega⟩, fun q hq => ?_⟩
      have e : rgV 0 j = ((List.range (j - 0).toNat).map fun (k : Nat) => (0 + (k : Int))).map V.int := by unfold rgV; rw [List.map_map]; rfl
      have e2 : rngL 0 j = ((List.range (j - 0).toNat).map fun (k : Nat) => (0 + (k : Int))).map D.int := by unfold rngL; rw [List.map_map]; rfl
      rw [e]
      rw [e2] at g1
      exact g1.fls hs1 (reps_ints _) q hq
    exact ⟨h1, st_plain h1 (fun sc x h => by cases x <;> first | rfl | (simp [chkE] at h)), sw_no fun _ _ _ _ h => by simp [chkE] at h⟩
  | .ite cc a b => by
    have hct := (snd cc).2.1
    have ha := (snd a)
    have hb := (snd b)
    refine ⟨fun X W sc k x c h => ?_, fun X W sc k x c h => ?_, sw_no fun _ _ _ _ h => by simp [chkE] at h⟩
    · simp only [chkE] at h
      split at h <;> first | (cases h; done) | skip
      simp only [Bool.and_eq_true] at h
      refine PE.imp (pe_ifExp (hct X W sc k _ c h.1.1) (ha.1 X W sc k _ c h.1.2) (hb.1 X W sc k _ c h.2)) fun σ H Q ⟨M, env, st, hs, he, g⟩ => ?_
      have e : ev w Φ (.ite cc a b) env st = bnd (evt w Φ cc env st) fun k s => if k = true then ev w Φ a env s else ev w Φ b env s := by
        unfold evt
        simp only [ev]
        cases ev w Φ cc env st with
        | none => rfl
        | some r => cases r <;> rfl
      rw [e] at g
      refine ⟨M, env, st, hs, he, Got.bnd g fun d s1 M1 H1 v e1 hs1 r1 g1 => ?_⟩
      cases r1
      cases d with
      | true => exact iteT ⟨M1, env, s1, hs1, he.ext e1 hs.noTup, g1⟩
      | false => exact iteF ⟨M1, env, s1, hs1, he.ext e1 hs.noTup, g1⟩
    · simp only [chkE] at h
      split at h <;> first | (cases h; done) | skip
      simp only [Bool.and_eq_true] at h
      refine ⟨fun pins s σ H Q I ⟨M, env, st, hs, he, g⟩ => ?_⟩
      rw [evt_ite] at g
      refine isTrue_IfExp (L2.thn ((hct X W sc k _ c h.1.1).run pins s σ H (fun d H1 => if d = true then tT w Φ CA X.K W a σ H1 Q else tT w Φ CA X.K W b σ H1 Q) I ⟨M, env, st, hs, he, Got.bnd g fun d s1 M1 H1 v e1 hs1 r1 g1 => ?_⟩) fun d s1 ⟨H1, I1, q1⟩ => ?_)
      · cases r1
        cases d with
        | true => exact iteT ⟨M1, env, s1, hs1, he.ext e1 hs.noTup, g1⟩
        | false => exact iteF ⟨M1, env, s1, hs1, he.ext e1 hs.noTup, g1⟩
      · cases d with
        | true => exact (ha.2.1 X W sc k _ c h.1.2).run pins s1 σ H1 Q I1 q1
        | false => exact (hb.2.1 X W sc k _ c h.2).run pins s1 σ H1 Q I1 q1
  | .call f as => by
    have has := sndA as
    have h1 : SE C w Φ CA (.call f as) := fun X W sc k x c h => by
      simp only [chkE] at h
      split at h <;> first | (cases h; done) | skip
      simp only [Bool.and_eq_true, decide_eq_true_eq] at h
      obtain ⟨⟨⟨hf, hg⟩, hn⟩, ha⟩ := h
      by_cases hhot : C.hot = true
      · rw [if_pos hhot] at hf
        obtain ⟨fa, fd, ps, hm, hk, hb, F, hl⟩ := c.fnH f _ (of_decide_eq_true hf)
        refine PE.imp (pe_callQ F ⟨by have := c.xk.room.dp; omega, by have := c.xk.room.un; omega⟩ (c.gl' hg) hm hk hb (has X W sc k _ c ha) (okName_d hn) ?_ ?_) fun σ H Q ⟨M, env, st, hs, he, g⟩ => ?_
        · cases as with
          | nil => simp [chkEs] at ha
          | cons a r => simp only [chkEs, Bool.and_eq_true] at ha; exact head_star (chk_head ha.1) _ _
        · cases as with
          | nil => simp [chkEs] at ha
          | cons a r => simp only [chkEs, Bool.and_eq_true] at ha; exact back_any _ _ (chkEs_star C ha.2 _)
        · simp only [ev] at g
          refine ⟨M, env, st, hs, he, Got.bnd g fun ds s1 M1 H1 vs e1 hs1 r1 g1 => ⟨M1, s1, ds, hs1, r1, ?_, ?_⟩⟩
          · rw [← r1.length]
            refine hl ds s1 fun z => ?_
            rw [z] at g1
            exact g1.elim
          · exact Got.noX (fun cls d H' => c.hw hhot cls d σ H') g1
      have hhot : C.hot = false := by simpa using hhot
      rw [if_neg (by rw [hhot]; decide)] at hf
      have hf := of_decide_eq_true hf
      obtain ⟨fa, fd, ps, hm, hk, FF⟩ := c.fn hhot f _ hf
      have hb := FF.b
      have F := FF.ok
      have hl := FF.len
      refine PE.imp (pe_callS F ((c.xk.cold hhot).mono (by omega)) (c.gl' hg) hm hk hb (fun σ => tk_pass c.tk σ) (has X W sc k _ c ha) (okName_d hn) ?_ ?_) fun σ H Q ⟨M, env, st, hs, he, g⟩ => ?_
      · cases as with
        | nil => simp [chkEs] at ha
        | cons a r => simp only [chkEs, Bool.and_eq_true] at ha; exact head_star (chk_head ha.1) _ _
      · cases as with
        | nil => simp [chkEs] at ha
        | cons a r => simp only [chkEs, Bool.and_eq_true] at ha; exact back_any _ _ (chkEs_star C ha.2 _)
      · simp only [ev] at g
        refine ⟨M, env, st, hs, he, Got.bnd g fun ds s1 M1 H1 vs e1 hs1 r1 g1 => ⟨M1, s1, ds, hs1, r1, ?_, g1⟩⟩
        rw [← r1.length]
        refine hl ds s1 fun z => ?_
        rw [z] at g1
        exact g1.elim
    exact ⟨h1, st_plain h1 (fun sc x h => by cases x <;> first | rfl | (simp [chkE] at h)), sw_no fun _ _ _ _ h => by simp [chkE] at h⟩
  | .bi f as => by
    have has := sndA as
    have h1 : SE C w Φ CA (.bi f as) := fun X W sc k x c h => by
      simp only [chkE] at h
      split at h <;> first | (cases h; done) | skip
      simp only [Bool.and_eq_true, decide_eq_true_eq, Bool.or_eq_true, Bool.not_eq_true'] at h
      obtain ⟨⟨⟨hhb, rfl⟩, hg⟩, ha⟩ := h
      have hm : X.mg (biName f) = none := c.bl _ (by cases f <;> decide)
      have hd : (biName f == ("__debug__" : Str)) = false := by cases f <;> decide
      have hnn : biName f ≠ "__name__" := by cases f <;> decide
      have hst : ∀ {a : Expr} {r : List Expr}, chkEs C as sc (a :: r) = true → starEach (a :: r) X.env = (false, eval a X.env) :: starEach r X.env := fun {a r} ha => by
        cases as with
        | nil => simp [chkEs] at ha
        | cons a r => simp only [chkEs, Bool.and_eq_true] at ha; exact head_star (chk_head ha.1) _ _
      have hpl : ∀ {a : Expr} {r : List Expr} (pos : Pos), chkEs C as sc (a :: r) = true → (backTo pos (starEach r X.env)).any (·.1) = false := fun {a r} pos ha => by
        cases as with
        | nil => simp [chkEs] at ha
        | cons a r => simp only [chkEs, Bool.and_eq_true] at ha; exact back_any _ _ (chkEs_star C ha.2 _)
      refine ⟨fun pins s σ H Q I hq => ?_⟩
      have cr := bfS (W := fun cls d H' => W cls d σ H') (CA := CA) c.xk f hhb
      have hv := bi_boot f
      have red : tCB (rDl X.K CA (fun cls d H' => W cls d σ H') (bfn f)) (tA w Φ CA X.K W as) σ H Q := by
        obtain ⟨M, env, st, hs, he, g⟩ := hq
        simp only [ev] at g
        exact ⟨M, env, st, hs, he, Got.bnd g fun ds s1 M1 H1 vs e1 hs1 r1 g1 => ⟨M1, s1, _, hs1, viewedL hs1 r1, g1⟩⟩
      cases f
      case int => exact (pe_callTy cr (c.gl' hg) hm hv (has X W sc k _ c ha) hnn hd (hst ha) (hpl _ ha)).run pins s σ H Q I red
      case str => exact (pe_callTy cr (c.gl' hg) hm hv (has X W sc k _ c ha) hnn hd (hst ha) (hpl _ ha)).run pins s σ H Q I red
      case tuple => exact (pe_callTy cr (c.gl' hg) hm hv (has X W sc k _ c ha) hnn hd (hst ha) (hpl _ ha)).run pins s σ H Q I red
      case list => exact (pe_callTy cr (c.gl' hg) hm hv (has X W sc k _ c ha) hnn hd (hst ha) (hpl _ ha)).run pins s σ H Q I red
      all_goals exact (pe_callB cr (c.gl' hg) hm hv (has X W sc k _ c ha) hnn hd (hst ha) (hpl _ ha)).run pins s σ H Q I red
    exact ⟨h1, st_plain h1 (fun sc x h => by cases x <;> first | rfl | (simp [chkE] at h)), sw_no fun _ _ _ _ h => by simp [chkE] at h⟩
  | .isi a t => by
    have ha := (snd a).1
    have h1 : SE C w Φ CA (.isi a t) := fun X W sc k x c h => by
      simp only [chkE] at h
      split at h <;> first | (cases h; done) | skip
      simp only [Bool.and_eq_true, decide_eq_true_eq] at h
      rename_i nm1 p1 y1 nm2 p2 p3
      obtain ⟨⟨⟨⟨e1, hg⟩, e2⟩, hg2⟩, hx⟩ := h
      subst e1
      by_cases htb : tyB t = true
      · have e2 : nm2 = (tyName t : Str) := by
          cases t <;> first | (cases htb; done) | (simpa only [tyC, decide_eq_true_eq] using e2)
        subst e2
        have hm2 : X.mg (tyName t : Str) = none := c.bl _ (by cases t <;> first | decide | cases htb)
        have hv2 : bootBuiltins (tyName t : Str) = some (.type (tyName t)) := by cases t <;> first | decide +kernel | cases htb
        have hd2 : ((tyName t : Str) == ("__debug__" : Str)) = false := by cases t <;> first | decide | cases htb
        have hn2 : (tyName t : Str) ≠ "__name__" := by cases t <;> first | decide | cases htb
        have hty : PE X (.Name (tyName t : Str) p2) (tC (.ty (tyName t))) := pe_bltn (c.gl' hg2) hm2 hv2 rfl hn2 hd2
        refine PE.imp (pe_callB call_isi (c.gl' hg) (c.bl _ (by decide)) (by decide +kernel) (pa_cons (ha X W sc k _ c hx) (pa_cons hty pa_nil) (head_star (chk_head hx) _ _)) (by decide) (by decide) (head_star (chk_head hx) _ _) (by rfl)) fun σ H Q ⟨M, env, st, hs, he, g⟩ => ?_
        simp only [ev] at g
        refine ⟨M, env, st, hs, he, Got.bnd g fun d s1 M1 H1 v e1 hs1 r1 g1 => ?_⟩
        obtain ⟨z, hz, g2⟩ := g1.lft
        obtain ⟨b, hb, rfl⟩ := Option.map_eq_some_iff.mp hz
        obtain ⟨ty, h3, h4⟩ := ty_ofS hs1 r1 hb htb
        exact ⟨v, .ty (tyName t), .type ty, .type (tyName t), b, rfl, .ty _, h3, kit_ty h4, g2.ok hs1 rfl⟩
      cases t with
      | cls n =>
        simp only [tyC] at e2
        by_cases hn : n = 1000
        · rw [if_pos hn] at e2
          have e2 := of_decide_eq_true e2
          subst e2 hn
          have hty : PE X (.Name "ValueError" p2) (tC (.ty "ValueError")) := pe_bltn (c.gl' hg2) (c.bl _ (by decide)) (by decide +kernel) rfl (by decide) (by decide)
          refine PE.imp (pe_callB call_isX (c.gl' hg) (c.bl _ (by decide)) (by decide +kernel) (pa_cons (ha X W sc k _ c hx) (pa_cons hty pa_nil) (head_star (chk_head hx) _ _)) (by decide) (by decide) (head_star (chk_head hx) _ _) (by rfl)) fun σ H Q ⟨M, env, st, hs, he, g⟩ => ?_
          simp only [ev] at g
          refine ⟨M, env, st, hs, he, Got.bnd g fun d s1 M1 H1 v e1 hs1 r1 g1 => ?_⟩
          obtain ⟨z, hz, g2⟩ := g1.lft
          obtain ⟨b, hb, rfl⟩ := Option.map_eq_some_iff.mp hz
          have r2 := viewed hs1 r1
          cases hv : view s1 d <;> rw [hv] at hb r2 <;> first | (exact (isTyS_cls hb).elim) | (simp [isTyS, isTy] at hb; done) | skip
          · simp only [isTyS, isTy] at hb
            obtain ⟨b', hb', rfl⟩ := Option.map_eq_some_iff.mp hb
            cases r2
            exact .inl ⟨.non, .ty "ValueError", .type "NoneType", .type "ValueError", false, rfl, .ty _, .base .non, kit_ty (by decide +kernel), g2.ok hs1 rfl⟩
          · simp only [isTyS, isTy] at hb
            obtain ⟨a', D', od', us', rfl, q1, q2, q3, q4⟩ := r2
            exact .inr ⟨a', D', od', .ty "ValueError", .type "ValueError", b, rfl, q2, exf_dict q3, c.xs.exc _ _ _ _ hb q1, fun u ru => ru, c.xs.ve _ _ _ hb q1, g2.ok hs1 rfl⟩
        · rw [if_neg hn] at e2
          simp only [Bool.and_eq_true, decide_eq_true_eq] at e2
          obtain ⟨e2, e3⟩ := e2
          obtain ⟨Cc, h1, h2, h3, h4, h5⟩ := c.cl n _ e2
          have hty : PE X (.Name nm2 p2) (tC (.ref Cc)) := pe_glob (c.gl' hg2) h2 (show RelV (V.ref Cc) (Value.ref Cc) from rfl) (okName_d e3)
          rw [c.ca] at h1
          refine PE.imp (pe_callB call_isX (c.gl' hg) (c.bl _ (by decide)) (by decide +kernel) (pa_cons (ha X W sc k _ c hx) (pa_cons hty pa_nil) (head_star (chk_head hx) _ _)) (by decide) (by decide) (head_star (chk_head hx) _ _) (by rfl)) fun σ H Q ⟨M, env, st, hs, he, g⟩ => ?_
          simp only [ev] at g
          refine ⟨M, env, st, hs, he, Got.bnd g fun d s1 M1 H1 v e1 hs1 r1 g1 => ?_⟩
          obtain ⟨z, hz, g2⟩ := g1.lft
          obtain ⟨b, hb, rfl⟩ := Option.map_eq_some_iff.mp hz
          have r2 := viewed hs1 r1
          cases hv : view s1 d <;> rw [hv] at hb r2 <;> first | (exact (isTyS_cls hb).elim) | (simp [isTyS, isTy] at hb; done) | skip
          · simp only [isTyS, isTy] at hb
            obtain ⟨b', hb', rfl⟩ := Option.map_eq_some_iff.mp hb
            cases r2
            exact .inl ⟨.non, .ref Cc, .type "NoneType", .ref Cc, false, rfl, .own _, .base .non, c.xs.no _ _ _ hb' h1, g2.ok hs1 rfl⟩
          · simp only [isTyS, isTy] at hb
            obtain ⟨a', D', od', us', rfl, q1, q2, q3, q4⟩ := r2
            exact .inr ⟨a', D', od', .ref Cc, .ref Cc, b, rfl, q2, exf_dict q3, c.xs.exc _ _ _ _ hb q1, fun u ru => ru, (c.xs.em _ _ _ _ _ hb q1 h1).2, g2.ok hs1 rfl⟩
      | _ => exact absurd rfl htb
    exact ⟨h1, st_plain h1 (fun sc x h => by cases x <;> first | rfl | (simp [chkE] at h)), sw_no fun _ _ _ _ h => by simp [chkE] at h⟩
  | .tup as => by
    have has := sndA as
    have h1 : SE C w Φ CA (.tup as) := fun X W sc k x c h => by
      simp only [chkE] at h
      split at h <;> first | (cases h; done) | skip
      refine PE.imp (pe_tup (has X W sc k _ c h)) fun σ H Q ⟨M, env, st, hs, he, g⟩ => ?_
      simp only [ev] at g
      refine ⟨M, env, st, hs, he, Got.bnd g fun ds s1 M1 H1 vs e1 hs1 r1 g1 => ?_⟩
      by_cases hl : ds.length ≤ 1000
      · rw [if_pos hl] at g1
        have := big_line
        exact ⟨by rw [← r1.length]; omega, fun p hp => g1.tup hs1 r1 p hp⟩
      · rw [if_neg hl] at g1; exact g1.elim
    exact ⟨h1, st_plain h1 (fun sc x h => by cases x <;> first | rfl | (simp [chkE] at h)), sw_no fun _ _ _ _ h => by simp [chkE] at h⟩
  | .lst as => by
    have has := sndA as
    have h1 : SE C w Φ CA (.lst as) := fun X W sc k x c h => by
      simp only [chkE] at h
      split at h <;> first | (cases h; done) | skip
      refine PE.imp (pe_lst (has X W sc k _ c h)) fun σ H Q ⟨M, env, st, hs, he, g⟩ => ?_
      simp only [ev] at g
      refine ⟨M, env, st, hs, he, Got.bnd g fun ds s1 M1 H1 vs e1 hs1 r1 g1 => ?_⟩
      by_cases hl : ds.length ≤ 1000
      · rw [if_pos hl] at g1
        have := big_line
        exact ⟨by rw [← r1.length]; omega, fun p hp => g1.fls hs1 r1 p hp⟩
      · rw [if_neg hl] at g1; exact g1.elim
    exact ⟨h1, st_plain h1 (fun sc x h => by cases x <;> first | rfl | (simp [chkE] at h)), sw_no fun _ _ _ _ h => by simp [chkE] at h⟩
  | .mls as => by
    have has := sndA as
    have h1 : SE C w Φ CA (.mls as) := fun X W sc k x c h => by
      simp only [chkE] at h
      split at h <;> first | (cases h; done) | skip
      refine PE.imp (pe_lst (has X W sc k _ c h)) fun σ H Q ⟨M, env, st, hs, he, g⟩ => ?_
      simp only [ev] at g
      refine ⟨M, env, st, hs, he, Got.bnd g fun ds s1 M1 H1 vs e1 hs1 r1 g1 => ?_⟩
      by_cases hl : ds.length ≤ 1000
      · rw [if_pos hl] at g1
        have := big_line
        exact ⟨by rw [← r1.length]; omega, fun p hp => g1.cel hs1 r1 p hp⟩
      · rw [if_neg hl] at g1; exact g1.elim
    exact ⟨h1, st_plain h1 (fun sc x h => by cases x <;> first | rfl | (simp [chkE] at h)), sw_no fun _ _ _ _ h => by simp [chkE] at h⟩
  | .ix a i => by
    have ha := (snd a).1
    have hb := (snd i).1
    have h1 : SE C w Φ CA (.ix a i) := fun X W sc k x c h => by
      simp only [chkE] at h
      split at h <;> first | (cases h; done) | skip
      simp only [Bool.and_eq_true] at h
      refine ⟨fun pins s σ H Q I hq => ?_⟩
      refine (pe_ix (ixS (W := fun cls d H' => W cls d σ H') (CA := CA)) (ha X W sc k _ c h.1) (hb X W sc k _ c h.2) (head_ix (chk_head h.2))).run pins s σ H Q I ?_
      obtain ⟨M, env, st, hs, he, g⟩ := hq
      simp only [ev] at g
      refine ⟨M, env, st, hs, he, Got.bnd g fun d s1 M1 H1 v e1 hs1 r1 g1 => ⟨M1, env, s1, hs1, he.ext e1 hs.noTup, Got.bnd g1 fun d2 s2 M2 H2 v2 e2 hs2 r2 g2 => ?_⟩⟩
      obtain ⟨z, hz, g3⟩ := g2.lft
      refine ⟨M2, s2, view s2 d, d2, hs2, viewed hs2 (r1.ext e2 hs1.noTup), repW_of r2 fun l e => ?_, by rw [hz]; exact g3⟩
      subst e
      cases hv : view s2 d <;> rw [hv] at hz <;> simp [ixd] at hz
    exact ⟨h1, st_plain h1 (fun sc x h => by cases x <;> first | rfl | (simp [chkE] at h)), sw_no fun _ _ _ _ h => by simp [chkE] at h⟩
  | .slc a lo hi => by
    have ha := (snd a).1
    have hlo := sndO lo
    have hhi := sndO hi
    have h1 : SE C w Φ CA (.slc a lo hi) := fun X W sc k x c h => by
      simp only [chkE] at h
      split at h <;> first | (cases h; done) | skip
      simp only [Bool.and_eq_true] at h
      refine ⟨fun pins s σ H Q I hq => ?_⟩
      refine (pe_slice (slS (W := fun cls d H' => W cls d σ H') (CA := CA)) (ha X W sc k _ c h.1.1) (hlo X W sc k _ c h.1.2) (hhi X W sc k _ c h.2)).run pins s σ H Q I ?_
      obtain ⟨M, env, st, hs, he, g⟩ := hq
      simp only [ev] at g
      refine ⟨M, env, st, hs, he, Got.bnd g fun d s1 M1 H1 v e1 hs1 r1 g1 => ⟨M1, env, s1, hs1, he.ext e1 hs.noTup, Got.bnd g1 fun l s2 M2 H2 v2 e2 hs2 r2 g2 => ?_⟩⟩
      refine ⟨M2, env, s2, hs2, (he.ext e1 hs.noTup).ext e2 hs1.noTup, Got.bnd g2 fun u s3 M3 H3 v3 e3 hs3 r3 g3 => ?_⟩
      cases r2
      cases r3
      exact ⟨M3, s3, view s3 d, hs3, viewed hs3 ((r1.ext e2 hs1.noTup).ext e3 hs2.noTup), g3⟩
    exact ⟨h1, st_plain h1 (fun sc x h => by cases x <;> first | rfl | (simp [chkE] at h)), sw_no fun _ _ _ _ h => by simp [chkE] at h⟩
  | .mad a b => by
    have ha := (snd a).1
    have hb := (snd b).1
    have h1 : SE C w Φ CA (.mad a b) := fun X W sc k x c h => by
      simp only [chkE] at h
      split at h <;> first | (cases h; done) | skip
      rename_i l o r pos
      simp only [Bool.and_eq_true] at h
      cases o <;> first | (exact absurd h.1.1 (by decide)) | skip
      refine ⟨fun pins s σ H Q I hq => ?_⟩
      refine (pe_op op_catR (ha X W sc k _ c h.1.2) (hb X W sc k _ c h.2)).run pins s σ H Q I ?_
      obtain ⟨M, env, st, hs, he, g⟩ := hq
      simp only [ev] at g
      refine ⟨M, env, st, hs, he, Got.bnd g fun d s1 M1 H1 v e1 hs1 r1 g1 => ⟨M1, env, s1, hs1, he.ext e1 hs.noTup, Got.bnd g1 fun d2 s2 M2 H2 v2 e2 hs2 r2 g2 => ?_⟩⟩
      have w1 := viewed hs2 (r1.ext e2 hs1.noTup)
      have w2 := viewed hs2 r2
      generalize view s2 d = y1 at *
      generalize view s2 d2 = y2 at *
      cases hbo : bop .add y1 y2 with
      | none => rw [hbo] at g2; exact g2.elim
      | some z =>
        rw [hbo] at g2
        cases y1 <;> cases y2 <;> first | (cases hbo; done) | skip
        · cases hbo; exact g2.elim
        · obtain ⟨_, e1⟩ := some_ite hbo
          subst e1; exact g2.elim
        · obtain ⟨_, e1⟩ := some_ite hbo
          subst e1; exact g2.elim
        · obtain ⟨hl, e1⟩ := some_ite hbo
          subst e1
          obtain ⟨p, xs, rfl, q1, q2⟩ := w1
          obtain ⟨q, ys, rfl, q3, q4⟩ := w2
          have l1 := q2.length
          have l2 := q4.length
          have := big_line
          exact ⟨p, q, xs, ys, rfl, rfl, q1, q3, by omega, fun w hw => g2.cel hs2 (q2.append q4) w hw⟩
    exact ⟨h1, st_plain h1 (fun sc x h => by cases x <;> first | rfl | (simp [chkE] at h)), sw_no fun _ _ _ _ h => by simp [chkE] at h⟩
  | .mrp a b => by
    have ha := (snd a).1
    have hb := (snd b).1
    have h1 : SE C w Φ CA (.mrp a b) := fun X W sc k x c h => by
      simp only [chkE] at h
      split at h <;> first | (cases h; done) | skip
      rename_i l o r pos
      simp only [Bool.and_eq_true] at h
      cases o <;> first | (exact absurd h.1.1 (by decide)) | skip
      refine ⟨fun pins s σ H Q I hq => ?_⟩
      refine (pe_op op_repR (ha X W sc k _ c h.1.2) (hb X W sc k _ c h.2)).run pins s σ H Q I ?_
      obtain ⟨M, env, st, hs, he, g⟩ := hq
      simp only [ev] at g
      refine ⟨M, env, st, hs, he, Got.bnd g fun d s1 M1 H1 v e1 hs1 r1 g1 => ⟨M1, env, s1, hs1, he.ext e1 hs.noTup, Got.bnd g1 fun d2 s2 M2 H2 v2 e2 hs2 r2 g2 => ?_⟩⟩
      have w1 := viewed hs2 (r1.ext e2 hs1.noTup)
      have w2 := viewed hs2 r2
      generalize view s2 d = y1 at *
      generalize view s2 d2 = y2 at *
      cases hbo : bop .mul y1 y2 with
      | none => rw [hbo] at g2; exact g2.elim
      | some z =>
        rw [hbo] at g2
        cases z <;> first | exact g2.elim | skip
        rename_i zs
        obtain ⟨ds, kk, rfl, rfl, hl1, hl2, hl3, rfl⟩ := mul_lst hbo
        · obtain ⟨p, xs, rfl, q1, q2⟩ := w1
          cases w2
          have l1 := q2.length
          have := big_line
          refine ⟨p, _, xs, rfl, rfl, q1, by omega, by omega, ?_, fun w hw => g2.cel hs2 (q2.rep _) w hw⟩
          rw [← l1]
          refine Nat.le_trans (Nat.mul_le_mul hl3 (show kk.toNat ≤ 1000 by omega)) (by omega)
    exact ⟨h1, st_plain h1 (fun sc x h => by cases x <;> first | rfl | (simp [chkE] at h)), sw_no fun _ _ _ _ h => by simp [chkE] at h⟩
  | .sls a lo hi st => by
    have ha := (snd a).1
    have hlo := sndO lo
    have hhi := sndO hi
    have hst := (snd st).1
    have h1 : SE C w Φ CA (.sls a lo hi st) := fun X W sc k x c h => by
      simp only [chkE] at h
      split at h <;> first | (cases h; done) | skip
      simp only [Bool.and_eq_true] at h
      refine PE.imp (pe_slice3 (ha X W sc k _ c h.1.1.1) (hlo X W sc k _ c h.1.1.2) (hhi X W sc k _ c h.1.2) (hst X W sc k _ c h.2)) fun σ H Q ⟨M, env, st, hs, he, g⟩ => ?_
      simp only [ev] at g
      refine ⟨M, env, st, hs, he, Got.bnd g fun d s1 M1 H1 v e1 hs1 r1 g1 => ⟨M1, env, s1, hs1, he.ext e1 hs.noTup, Got.bnd g1 fun l s2 M2 H2 v2 e2 hs2 r2 g2 => ?_⟩⟩
      refine ⟨M2, env, s2, hs2, (he.ext e1 hs.noTup).ext e2 hs1.noTup, Got.bnd g2 fun u s3 M3 H3 v3 e3 hs3 r3 g3 => ⟨M3, env, s3, hs3, ((he.ext e1 hs.noTup).ext e2 hs1.noTup).ext e3 hs2.noTup, Got.bnd g3 fun z s4 M4 H4 v4 e4 hs4 r4 g4 => ?_⟩⟩
      cases r2
      cases r3
      have w1 := viewed hs4 (((r1.ext e2 hs1.noTup).ext e3 hs2.noTup).ext e4 hs3.noTup)
      obtain ⟨r, hr, g5⟩ := g4.lft
      generalize view s4 d = y1 at *
      cases y1 <;> cases z <;> first | (cases hr; done) | skip
      simp only [slsd] at hr
      obtain ⟨ix, hix, rfl⟩ := Option.map_eq_some_iff.mp hr
      obtain ⟨p, vs, rfl, q1, q2⟩ := w1
      cases r4
      exact ⟨p, vs, _, ix, rfl, rfl, .inl q1, by rw [← q2.length]; exact hix, fun w hw => g5.fls hs4 (q2.pick ix) w hw⟩
    exact ⟨h1, st_plain h1 (fun sc x h => by cases x <;> first | rfl | (simp [chkE] at h)), sw_no fun _ _ _ _ h => by simp [chkE] at h⟩
  | .att f a => by
    have ha := (snd a).1
    have h1 : SE C w Φ CA (.att f a) := fun X W sc k x c h => by
      simp only [chkE] at h
      split at h <;> first | (cases h; done) | skip
      rename_i o x' p
      simp only [Bool.and_eq_true, decide_eq_true_eq] at h
      obtain ⟨⟨rfl, hx⟩, hlit⟩ := h
      refine PE.imp (pe_att (ha X W sc k _ c hx) ?_) fun σ H Q ⟨M, env, st, hs, he, g⟩ => ?_
      · cases o <;> first | (cases hlit; done) | rfl
      · simp only [ev] at g
        refine ⟨M, env, st, hs, he, Got.bnd g fun d s1 M1 H1 v e1 hs1 r1 g1 => ?_⟩
        cases d <;> first | exact g1.elim | skip
        rename_i cx ds
        cases ds with
        | nil => exact g1.elim
        | cons d ds =>
          cases ds with
          | cons _ _ => exact g1.elim
          | nil =>
            simp only at g1
            by_cases hf : fldOf cx = f ∧ (w.sub cx cx).isSome = true
            case neg => rw [if_neg hf] at g1; exact g1.elim
            · rw [if_pos hf] at g1
              obtain ⟨rfl, hsome⟩ := hf
              obtain ⟨bb, hb⟩ := Option.isSome_iff_exists.mp hsome
              obtain ⟨a', D', od', us', rfl, q1, q2, q3, q4⟩ := r1
              obtain ⟨u, r, rfl, q5, q6⟩ := q4
              cases q6
              rcases q3 with ⟨q3, _⟩ | ⟨dx, u', q3, rfl, q7⟩
              · cases q3
              · cases q3
                exact ⟨a', D', dx, u, rfl, q2, q7, c.xs.exc _ _ _ _ hb q1, c.xs.nf _ _ _ hb q1, g1.ok hs1 q5⟩
    exact ⟨h1, st_plain h1 (fun sc x h => by cases x <;> first | rfl | (simp [chkE] at h)), sw_no fun _ _ _ _ h => by simp [chkE] at h⟩
  | .fld f a => by
    have ha := (snd a).1
    have h1 : SE C w Φ CA (.fld f a) := fun X W sc k x c h => by
      simp only [chkE] at h
      split at h <;> first | (cases h; done) | skip
      rename_i o x' p
      simp only [Bool.and_eq_true, decide_eq_true_eq] at h
      obtain ⟨⟨hf, hat⟩, hx⟩ := h
      refine PE.imp (pe_fld (ha X W sc k _ c hx) (attH_base hat _ _)) fun σ H Q ⟨M, env, st, hs, he, g⟩ => ?_
      simp only [ev] at g
      refine ⟨M, env, st, hs, he, Got.bnd g fun d s1 M1 H1 v e1 hs1 r1 g1 => ?_⟩
      cases d <;> first | exact g1.elim | skip
      rename_i l
      obtain ⟨q, rfl, hq⟩ := r1
      cases hz : s1[l]? with
      | none => simp only [hz] at g1; exact g1.elim
      | some cc =>
      cases cc with
      | dct _ => simp only [hz] at g1; exact g1.elim
      | lst _ => simp only [hz] at g1; exact g1.elim
      | ins cn fs =>
      simp only [hz] at g1
      by_cases hok : w.fok cn f = true
      case neg => rw [if_neg hok] at g1; exact g1.elim
      rw [if_pos hok] at g1
      obtain ⟨y, hy, g2⟩ := g1.lft
      obtain ⟨C1, dx, gs, k1, k2, k3, k4⟩ := hs1.cell _ _ _ hq hz
      obtain ⟨C2, x2, q1, q2, q3, q4⟩ := c.fo _ _ hok
      rw [c.ca, k2] at q1
      cases q1
      rw [hf] at q2
      cases q2
      obtain ⟨x3, u, u1, u2, u3⟩ := k4.get hy
      rw [hf] at u1
      cases u1
      exact ⟨q, C1, dx, gs, u, rfl, k1, q3, q4, u2, g2.ok hs1 u3⟩
    exact ⟨h1, st_plain h1 (fun sc x h => by cases x <;> first | rfl | (simp [chkE] at h)), sw_no fun _ _ _ _ h => by simp [chkE] at h⟩
  | .mth m a as => by
    have ha := (snd a).1
    have has := sndA as
    have h1 : SE C w Φ CA (.mth m a as) := fun X W sc k x c h => by
      simp only [chkE] at h
      split at h <;> first | (cases h; done) | skip
      rename_i o x' ap es p
      simp only [Bool.and_eq_true, decide_eq_true_eq, Bool.not_eq_true'] at h
      obtain ⟨⟨⟨⟨⟨⟨⟨hhot, hnn⟩, hm⟩, hl⟩, h30⟩, hat⟩, hx⟩, hes⟩ := h
      have hpl : (backTo p (starEach es X.env)).any (·.1) = false := back_any _ _ (chkEs_star C hes _)
      refine PE.imp (pe_mthD (CX := CXb C.nn X.prog X.w) (ha X W sc k _ c hx) (has X W sc k _ c hes) (fun σ => tk_pass c.tk σ) ?_ (meth_tree (attH_base hat _ _) hpl h30 hl)) fun σ H Q ⟨M, env, st, hs, he, g⟩ => ?_
      · cases as with
        | nil =>
          cases es with
          | nil => exact .inl rfl
          | cons _ _ => simp [chkEs] at hes
        | cons a r =>
          cases es with
          | nil => simp [chkEs] at hes
          | cons e0 er =>
            simp only [chkEs, Bool.and_eq_true] at hes
            exact .inr ⟨_, _, rfl, head_star (chk_head hes.1) _ _, back_any _ _ (chkEs_star C hes.2 _)⟩
      simp only [ev] at g
      refine ⟨M, env, st, hs, he, Got.bnd g fun d s1 M1 H1 v e1 hs1 r1 g1 => ?_⟩
      cases d <;> first | exact g1.elim | skip
      rename_i l
      obtain ⟨q, rfl, hq⟩ := r1
      cases hz : s1[l]? with
      | none => simp only [hz] at g1; exact g1.elim
      | some cc =>
      cases cc with
      | dct _ => simp only [hz] at g1; exact g1.elim
      | lst _ => simp only [hz] at g1; exact g1.elim
      | ins cn fs =>
      simp only [hz] at g1
      cases hmt : w.mth cn m with
      | none => simp only [hmt] at g1; exact g1.elim
      | some gi =>
      simp only [hmt] at g1
      obtain ⟨C1, dx, gs, k1, k2, k3, k4⟩ := hs1.cell _ _ _ hq hz
      obtain ⟨C2, fa, fd, ps, x2, q1, q2, q3, q4, F⟩ := c.mt hhot hnn _ _ _ hmt
      rw [c.ca, k2] at q1
      cases q1
      rw [hm] at q2
      cases q2
      refine ⟨q, C1, dx, gs, fa, 2 * k + 40, fd, ps, _, rfl, k1, q3, q4, k4.none fun f y hf => meth_field hm hf, F.ok, (c.xk.cold hhot).mono (by omega), F.b, M1, env, s1, hs1, he.ext e1 hs.noTup, Got.bnd g1 fun ds s2 M2 H2 vs e2 hs2 r2 g2 => ⟨M2, s2, .ref l :: ds, hs2, ⟨_, _, rfl, ⟨q, rfl, e2.toExtW.get hq⟩, r2⟩, ?_, g2⟩⟩
      have := F.len _ s2 fun z => by rw [z] at g2; exact g2.elim
      rw [← this, List.length_cons, List.length_cons, r2.length]
    exact ⟨h1, st_plain h1 (fun sc x h => by cases x <;> first | rfl | (simp [chkE] at h)), sw_no fun _ _ _ _ h => by simp [chkE] at h⟩
  | .new cn as => by
    have has := sndA as
    have h1 : SE C w Φ CA (.new cn as) := fun X W sc k x c h => by
      simp only [chkE] at h
      split at h <;> first | (cases h; done) | skip
      rename_i x' p1 es p
      simp only [Bool.and_eq_true, decide_eq_true_eq, Bool.not_eq_true'] at h
      obtain ⟨⟨⟨⟨⟨hhot, hnn⟩, hcl⟩, hg⟩, hn⟩, hes⟩ := h
      cases hin : w.ini cn with
      | none => exact ⟨fun pins s σ H Q I ⟨M, env, st, hs, he, g⟩ => by
          simp only [ev, hin] at g
          exact g.elim⟩
      | some gi =>
      obtain ⟨Cc, fa, fd, ps, q1, q2, q3, F⟩ := c.mkk hhot hnn _ _ _ hin hcl
      refine PE.imp (pe_newD (CX := CXb C.nn X.prog X.w) q3 F.ok ((c.xk.cold hhot).mono (by omega)) (c.gl' hg) q2 F.b (fun σ => tk_pass c.tk σ) (has X W sc k _ c hes) (okName_d hn) ?_) fun σ H Q ⟨M, env, st, hs, he, g⟩ => ?_
      · cases as with
        | nil =>
          cases es with
          | nil => exact .inl rfl
          | cons _ _ => simp [chkEs] at hes
        | cons a r =>
          cases es with
          | nil => simp [chkEs] at hes
          | cons e0 er =>
            simp only [chkEs, Bool.and_eq_true] at hes
            exact .inr ⟨_, _, rfl, head_star (chk_head hes.1) _ _, back_any _ _ (chkEs_star C hes.2 _)⟩
      simp only [ev, hin] at g
      refine ⟨M, env, st, hs, he, Got.bnd g fun ds s1 M1 H1 vs e1 hs1 r1 g1 => fun y dx hy hdx hne => ?_⟩
      have e2 : Ext M1 H1 M1 (upd H1 dx (.own y)) := Ext.new hs1 hdx
      have hs2 := hs1.ext_new (o := .own y) hdx
      have hy2 : upd H1 dx (HO.own y) y = none := by rw [upd_ne (Ne.symm hne)]; exact hy
      rw [c.ca] at q1
      obtain ⟨hs3, e3⟩ := hs2.cellNewG (c := .ins cn []) (o := .ins Cc dx []) hy2 fun _ => ⟨Cc, dx, [], upd_same, q1, by rw [upd_ne hne, upd_same], rfl⟩
      have r3 : Reps X.K ⟨M1.c ++ [y], M1.z⟩ (upd (upd H1 dx (.own y)) y (.ins Cc dx [])) (.ref s1.length :: ds) (.ref y :: vs) := ⟨_, _, rfl, ⟨y, rfl, by
        rw [← hs1.len]
        simp⟩, (r1.ext e2 hs1.noTup).ext e3 hs2.noTup⟩
      have g2 := g1.ext (e2.trans e3)
      refine ⟨_, _, _, hs3, r3, ?_, (Got.bnd (R := Rep X.K) (Q := fun v H2 => v = .non ∧ Q (.ref y) H2) g2 fun z s4 M4 H4 v4 e4 hs4 r4 g4 => ?_)⟩
      · have := F.len (.ref s1.length :: ds) (s1 ++ [.ins cn []]) fun z => by rw [z] at g1; exact g1.elim
        rw [← this, List.length_cons, List.length_cons, r1.length]
      · cases z <;> first | exact g4.elim | skip
        have hv : v4 = .non := r4
        have hget : (⟨M1.c ++ [y], M1.z⟩ : Ms).c[s1.length]? = some y := by
          rw [← hs1.len]
          simp
        exact ⟨hv, g4.ok hs4 ⟨y, rfl, e4.toExtW.get hget⟩⟩
    exact ⟨h1, st_plain h1 (fun sc x h => by cases x <;> first | rfl | (simp [chkE] at h)), sw_no fun _ _ _ _ h => by simp [chkE] at h⟩
  | .inb cn as => by
    have has := sndA as
    have h1 : SE C w Φ CA (.inb cn as) := fun X W sc k x c h => by
      simp only [chkE] at h
      split at h <;> first | (cases h; done) | skip
      rename_i x' p1 m ap a0 r0 p
      simp only [Bool.and_eq_true, decide_eq_true_eq, Bool.not_eq_true'] at h
      obtain ⟨⟨⟨⟨⟨⟨⟨⟨⟨hhot, hnn⟩, hm⟩, hib⟩, hl⟩, h30⟩, hcl⟩, hg⟩, hn⟩, hes⟩ := h
      subst hm
      cases hin : w.ini cn with
      | none => exact ⟨fun pins s σ H Q I ⟨M, env, st, hs, he, g⟩ => by
          simp only [ev, hin] at g
          exact g.elim⟩
      | some gi =>
      obtain ⟨Cc, fa, fd, ps, q1, q2, q3, F⟩ := c.ib hhot hnn _ _ _ hin hib hcl
      have hpl : (backTo p (starEach (a0 :: r0) X.env)).any (·.1) = false := back_any _ _ (chkEs_star C hes _)
      refine PE.imp (pe_inbD (CX := CXb C.nn X.prog X.w) q3 F.ok ((c.xk.cold hhot).mono (by omega)) (c.gl' hg) q2 F.b (fun σ => tk_pass c.tk σ) (has X W sc k _ c hes) (okName_d hn) ?_ ?_ (meth_tree rfl hpl h30 hl)) fun σ H Q ⟨M, env, st, hs, he, g⟩ => ?_
      · cases as with
        | nil => simp [chkEs] at hes
        | cons a r => simp only [chkEs, Bool.and_eq_true] at hes; exact head_star (chk_head hes.1) _ _
      · cases as with
        | nil => simp [chkEs] at hes
        | cons a r => simp only [chkEs, Bool.and_eq_true] at hes; exact back_any _ _ (chkEs_star C hes.2 _)
      · simp only [ev, hin] at g
        refine ⟨M, env, st, hs, he, Got.bnd g fun ds s1 M1 H1 vs e1 hs1 r1 g1 => ⟨M1, s1, ds, hs1, r1, ?_, g1⟩⟩
        rw [← r1.length]
        exact F.len ds s1 fun z => by rw [z] at g1; exact g1.elim
    exact ⟨h1, st_plain h1 (fun sc x h => by cases x <;> first | rfl | (simp [chkE] at h)), sw_no fun _ _ _ _ h => by simp [chkE] at h⟩
  | .isn a cn => by
    have ha := (snd a).1
    have h1 : SE C w Φ CA (.isn a cn) := fun X W sc k x c h => by
      simp only [chkE] at h
      split at h <;> first | (cases h; done) | skip
      rename_i nm1 p1 y1 nm2 p2 p3
      simp only [Bool.and_eq_true, decide_eq_true_eq] at h
      obtain ⟨⟨⟨⟨⟨rfl, hg⟩, hcl⟩, hn⟩, hg2⟩, hx⟩ := h
      refine ⟨fun pins s σ H Q I hq => ?_⟩
      obtain ⟨M, env, st, hs, he, g⟩ := hq
      obtain ⟨Dc, q1, q2⟩ := c.oc _ _ hcl
      have hty : PE X (.Name nm2 p2) (tC (.ref Dc)) := pe_glob (c.gl' hg2) q2 (show RelV (V.ref Dc) (Value.ref Dc) from rfl) (okName_d hn)
      refine (pe_callB call_insT (c.gl' hg) (c.bl _ (by decide)) (by decide +kernel) (pa_cons (ha X W sc k _ c hx) (pa_cons hty pa_nil) (head_star (chk_head hx) _ _)) (by decide) (by decide) (head_star (chk_head hx) _ _) (by rfl)).run pins s σ H Q I ?_
      simp only [ev] at g
      refine ⟨M, env, st, hs, he, Got.bnd g fun d s1 M1 H1 v e1 hs1 r1 g1 => ?_⟩
      cases d <;> first | exact g1.elim | skip
      rename_i l
      obtain ⟨q, rfl, hq⟩ := r1
      cases hz : s1[l]? with
      | none => simp only [hz] at g1; exact g1.elim
      | some cc =>
      cases cc with
      | dct _ => simp only [hz] at g1; exact g1.elim
      | lst _ => simp only [hz] at g1; exact g1.elim
      | ins c2 fs =>
      simp only [hz] at g1
      obtain ⟨z, hzz, g2⟩ := g1.lft
      obtain ⟨b, hb, rfl⟩ := Option.map_eq_some_iff.mp hzz
      obtain ⟨C1, dx, gs, k1, k2, k3, k4⟩ := hs1.cell _ _ _ hq hz
      obtain ⟨w3, w4⟩ := c.isn _ _ _ C1 Dc hb (by rw [c.ca]; exact k2) q1
      exact ⟨q, C1, dx, gs, Dc, b, rfl, k1, w3.c, w3.ha, w3.hn, w3.ht, w3.hm, w4, g2.ok hs1 rfl⟩
    exact ⟨h1, st_plain h1 (fun sc x h => by cases x <;> first | rfl | (simp [chkE] at h)), sw_no fun _ _ _ _ h => by simp [chkE] at h⟩
  | .joi a b => by
    have ha := (snd a).1
    have hb := (snd b).1
    have h1 : SE C w Φ CA (.joi a b) := fun X W sc k x c h => by
      simp only [chkE] at h
      split at h <;> first | (cases h; done) | skip
      rename_i o m ap y p
      simp only [Bool.and_eq_true, decide_eq_true_eq] at h
      obtain ⟨⟨⟨⟨rfl, hl⟩, hat⟩, hx⟩, hy⟩ := h
      have hh := chk_head hy
      refine PE.imp (pe_bm PySem.F.plainAttrs_str PySem.F.slot_str_join PySem.F.type_str_join mt_join (ha X W sc k _ c hx) (pa_cons (hb X W sc k _ c hy) pa_nil (head_star hh _ _)) (attH_base hat _ _) (hfew1 hh) (by rw [hl]; exact beq_self_eq_true _) (head_star hh _ _) rfl) fun σ H Q ⟨M, env, st, hs, he, g⟩ => ?_
      simp only [ev] at g
      refine ⟨M, env, st, hs, he, Got.bnd g fun d s1 M1 H1 v e1 hs1 r1 g1 => ?_⟩
      cases d <;> first | exact g1.elim | skip
      rename_i z
      obtain rfl : v = .str (strV z) := r1
      refine ⟨rfl, M1, env, s1, hs1, he.ext e1 hs.noTup, Got.bnd g1 fun j s2 M2 H2 v2 e2 hs2 r2 g2 => ?_⟩
      have w2 := viewed hs2 r2
      obtain ⟨u, hu, g3⟩ := g2.lft
      generalize view s2 j = y1 at *
      cases y1 <;> first | (cases hu; done) | skip
      rename_i ds
      obtain ⟨q, vs, rfl, q1, q2⟩ := w2
      simp only [joinD] at hu
      cases hst : strsOf ds with
      | none => simp only [hst] at hu; cases hu
      | some ys =>
      simp only [hst] at hu
      obtain ⟨hsz, rfl⟩ := some_ite hu
      obtain rfl := strsOf_eq hst
      obtain rfl := q2.strs
      refine ⟨strV z, q, ys.map strV, rfl, rfl, .inl (.inl q1), ?_, g3.ok hs2 ?_⟩
      · rw [List.map_map, show ((fun (x : Str) => x.length) ∘ strV) = (fun (x : List Nat) => x.length) from by funext x; simp [strV, Str.length], List.length_map, show (strV z).length = z.length from by simp [strV, Str.length]]
        omega
      · show V.str _ = V.str _
        rw [join_C]
    exact ⟨h1, st_plain h1 (fun sc x h => by cases x <;> first | rfl | (simp [chkE] at h)), sw_no fun _ _ _ _ h => by simp [chkE] at h⟩
  | .lcp a => by
    have ha := (snd a).1
    have h1 : SE C w Φ CA (.lcp a) := fun X W sc k x c h => by
      simp only [chkE] at h
      split at h <;> first | (cases h; done) | skip
      simp only [Bool.and_eq_true, decide_eq_true_eq] at h
      obtain ⟨⟨rfl, hg⟩, hx⟩ := h
      have hh := chk_head hx
      refine PE.imp (pe_callTy call_list_of (c.gl' hg) (c.bl _ (by decide)) (by decide +kernel) (pa_cons (ha X W sc k _ c hx) pa_nil (head_star hh _ _)) (by decide) (by decide) (head_star hh _ _) rfl) fun σ H Q ⟨M, env, st, hs, he, g⟩ => ?_
      simp only [ev] at g
      refine ⟨M, env, st, hs, he, Got.bnd g fun d s1 M1 H1 v e1 hs1 r1 g1 => ?_⟩
      have w1 := viewed hs1 r1
      cases hv : view s1 d <;> rw [hv] at g1 w1 <;> first | exact g1.elim | skip
      · rename_i ds
        simp only at g1
        by_cases hlen : ds.length ≤ 1000000
        case neg => rw [if_neg hlen] at g1; exact g1.elim
        rw [if_pos hlen] at g1
        obtain ⟨q, vs, rfl, q1, q2⟩ := w1
        exact ⟨q, vs, rfl, .inr q1, fun l hl => g1.cel hs1 q2 l hl⟩
      · rename_i ds
        simp only at g1
        by_cases hlen : ds.length ≤ 1000000
        case neg => rw [if_neg hlen] at g1; exact g1.elim
        rw [if_pos hlen] at g1
        obtain ⟨q, vs, rfl, q1, q2⟩ := w1
        exact ⟨q, vs, rfl, .inl (.inl q1), fun l hl => g1.cel hs1 q2 l hl⟩
    exact ⟨h1, st_plain h1 (fun sc x h => by cases x <;> first | rfl | (simp [chkE] at h)), sw_no fun _ _ _ _ h => by simp [chkE] at h⟩
  | .keys a => by
    have ha := (snd a).1
    have h1 : SE C w Φ CA (.keys a) := fun X W sc k x c h => by
      simp only [chkE] at h
      split at h <;> first | (cases h; done) | skip
      simp only [Bool.and_eq_true, decide_eq_true_eq, Bool.not_eq_true'] at h
      obtain ⟨⟨⟨hhot, rfl⟩, hg⟩, hx⟩ := h
      have hh := chk_head hx
      refine PE.imp (pe_callTy (call_list_dK (c.xk.calm hhot)) (c.gl' hg) (c.bl _ (by decide)) (by decide +kernel) (pa_cons (ha X W sc k _ c hx) pa_nil (head_star hh _ _)) (by decide) (by decide) (head_star hh _ _) rfl) fun σ H Q ⟨M, env, st, hs, he, g⟩ => ?_
      simp only [ev] at g
      refine ⟨M, env, st, hs, he, Got.bnd g fun d s1 M1 H1 v e1 hs1 r1 g1 => ?_⟩
      cases d <;> first | exact g1.elim | skip
      rename_i l
      obtain ⟨q, rfl, hq⟩ := r1
      cases hz : s1[l]? with
      | none => simp only [hz] at g1; exact g1.elim
      | some cc =>
      cases cc with
      | lst _ => simp only [hz] at g1; exact g1.elim
      | ins _ _ => simp only [hz] at g1; exact g1.elim
      | dct kvs =>
      simp only [hz] at g1
      by_cases hlen : kvs.length ≤ 1000000
      case neg => rw [if_neg hlen] at g1; exact g1.elim
      rw [if_pos hlen] at g1
      obtain ⟨gs, k1, k2⟩ := hs1.cell _ _ _ hq hz
      exact ⟨q, gs, rfl, k1, fun l hl => g1.fls hs1 k2.keys l hl⟩
    exact ⟨h1, st_plain h1 (fun sc x h => by cases x <;> first | rfl | (simp [chkE] at h)), sw_no fun _ _ _ _ h => by simp [chkE] at h⟩
  | .din n a b => by
    have ha := (snd a).1
    have hb := (snd b).1
    have core : ∀ (X : Cx) (W : WX) (σ : L2.St) (H : Hp) (Q : VK) M env st, StoOk X.K M H st → EnvOk X.K M H env σ → Got X.K CA M H (Rep X.K) (fun cls d H' => W cls d σ H') (ev w Φ (.din n a b) env st) Q →
        tOp (rDin n) (tE w Φ CA X.K W a) (tE w Φ CA X.K W b) σ H Q := by
      intro X W σ H Q M env st hs he g
      simp only [ev] at g
      refine ⟨M, env, st, hs, he, Got.bnd g fun d s1 M1 H1 v e1 hs1 r1 g1 => ⟨M1, env, s1, hs1, he.ext e1 hs.noTup, Got.bnd g1 fun d2 s2 M2 H2 v2 e2 hs2 r2 g2 => ?_⟩⟩
      cases d <;> cases d2 <;> first | exact g2.elim | skip
      rename_i kk l
      obtain ⟨q, rfl, hq⟩ := r2
      obtain rfl : v = .str (strV kk) := r1
      cases hz : s2[l]? with
      | none => simp only [hz] at g2; exact g2.elim
      | some cc =>
      cases cc with
      | lst _ => simp only [hz] at g2; exact g2.elim
      | ins _ _ => simp only [hz] at g2; exact g2.elim
      | dct kvs =>
      simp only [hz] at g2
      obtain ⟨gs, k1, k2⟩ := hs2.cell _ _ _ hq hz
      have g3 : Q (.bl (n != (dget kvs kk).isSome)) H2 := g2.ok hs2 (show V.bl _ = V.bl _ from rfl)
      obtain ⟨i1, i2⟩ := k2.get kk
      refine ⟨q, valV gs (.inr (strV kk)), rfl, DGet.k (k := .inr (strV kk)) k1, ?_⟩
      cases hd : dget kvs kk with
      | none => rw [i2 hd]; rw [hd] at g3; exact g3
      | some d =>
        obtain ⟨u, hu, _⟩ := i1 d hd
        rw [hu]; rw [hd] at g3; exact g3
    refine ⟨fun X W sc k x c h => ?_, fun X W sc k x c h => ?_, sw_no fun _ _ _ _ h => by simp [chkE] at h⟩
    · simp only [chkE] at h
      split at h <;> first | (cases h; done) | skip
      simp only [Bool.and_eq_true] at h
      have hu : X.A.units + 1 < cLine := by have := c.xk.room.un; omega
      exact PE.imp (pe_cmpR (op_din hu h.1.1) (ha X W sc k _ c h.1.2) (hb X W sc k _ c h.2) (head_mark (chk_head h.2) _)) fun σ H Q ⟨M, env, st, hs, he, g⟩ => core X W σ H Q M env st hs he g
    · simp only [chkE] at h
      split at h <;> first | (cases h; done) | skip
      simp only [Bool.and_eq_true] at h
      have hu : X.A.units + 1 < cLine := by have := c.xk.room.un; omega
      refine PT.imp (pt_cmpR (op_din hu h.1.1) (ha X W sc k _ c h.1.2) (hb X W sc k _ c h.2) (head_mark (chk_head h.2) _)) fun σ H Q ⟨M, env, st, hs, he, g⟩ => core X W σ H _ M env st hs he ?_
      unfold evt at g
      exact bl_test (fun x s hx => din_bl hx) g
  | .dsb a i => by
    have ha := (snd a).1
    have hb := (snd i).1
    have h1 : SE C w Φ CA (.dsb a i) := fun X W sc k x c h => by
      simp only [chkE] at h
      split at h <;> first | (cases h; done) | skip
      simp only [Bool.and_eq_true] at h
      have hu : X.A.units + 1 < cLine := by have := c.xk.room.un; omega
      refine PE.imp (pe_dget hu (ha X W sc k _ c h.1) (hb X W sc k _ c h.2) (head_slice (chk_head h.2))) fun σ H Q ⟨M, env, st, hs, he, g⟩ => ?_
      simp only [ev] at g
      refine ⟨M, env, st, hs, he, Got.bnd g fun d s1 M1 H1 v e1 hs1 r1 g1 => ⟨M1, env, s1, hs1, he.ext e1 hs.noTup, Got.bnd g1 fun d2 s2 M2 H2 v2 e2 hs2 r2 g2 => ?_⟩⟩
      cases d <;> cases d2 <;> first | exact g2.elim | skip
      rename_i l kk
      obtain ⟨q, rfl, hq⟩ := r1.ext e2 hs1.noTup
      obtain rfl : v2 = .str (strV kk) := r2
      cases hz : s2[l]? with
      | none => simp only [hz] at g2; exact g2.elim
      | some cc =>
      cases cc with
      | lst _ => simp only [hz] at g2; exact g2.elim
      | ins _ _ => simp only [hz] at g2; exact g2.elim
      | dct kvs =>
      simp only [hz] at g2
      obtain ⟨gs, k1, k2⟩ := hs2.cell _ _ _ hq hz
      obtain ⟨z, hzz, g3⟩ := g2.lft
      obtain ⟨u, hu2, ru⟩ := (k2.get kk).1 z hzz
      exact ⟨q, u, rfl, by
        have := DGet.k (k := .inr (strV kk)) k1
        rw [hu2] at this
        exact this, g3.ok hs2 ru⟩
    exact ⟨h1, st_plain h1 (fun sc x h => by cases x <;> first | rfl | (simp [chkE] at h)), sw_no fun _ _ _ _ h => by simp [chkE] at h⟩
  | .rpl a b cc => by
    have h1 : SE C w Φ CA (.rpl a b cc) := fun X W sc k x c h => by
      simp [chkE] at h
    exact ⟨h1, st_plain h1 (fun sc x h => by cases x <;> first | rfl | (simp [chkE] at h)), sw_no fun _ _ _ _ h => by simp [chkE] at h⟩
  | .rvl a => by
    have ha := (snd a).1
    have h1 : SE C w Φ CA (.rvl a) := fun X W sc k x c h => by
      simp only [chkE] at h
      split at h <;> first | (cases h; done) | skip
      simp only [Bool.and_eq_true, decide_eq_true_eq, Bool.not_eq_true'] at h
      obtain ⟨⟨⟨⟨⟨hhot, rfl⟩, g1⟩, rfl⟩, g2⟩, hz⟩ := h
      refine PE.imp (RT.pe_lstRev (c.xk.calm hhot) (c.gl' g1) (c.bl _ (by decide)) (c.gl' g2) (c.bl _ (by decide)) (ha X W sc k _ c hz) (head_star (chk_head hz) _ _) rfl) fun σ H Q ⟨M, env, st, hs, he, g⟩ => ?_
      simp only [ev] at g
      refine ⟨M, env, st, hs, he, Got.bnd g fun d s1 M1 H1 v e1 hs1 r1 g1 => ?_⟩
      have w1 := viewed hs1 r1
      cases hd : view s1 d <;> rw [hd] at g1 w1 <;> first | exact g1.elim | skip
      rename_i xs
      simp only at g1
      by_cases hl : xs.length ≤ 1000000
      case neg => rw [if_neg hl] at g1; exact g1.elim
      · rw [if_pos hl] at g1
        obtain ⟨p, vs, rfl, q1, q2⟩ := w1
        refine ⟨p, vs, rfl, .inl q1, fun q hq => g1.fls hs1 q2.reverse q hq⟩
    exact ⟨h1, st_plain h1 (fun sc x h => by cases x <;> first | rfl | (simp [chkE] at h)), sw_no fun _ _ _ _ h => by simp [chkE] at h⟩
  | .idt g b => by
    have hb := (snd b).1
    have h1 : SE C w Φ CA (.idt g b) := fun X W sc k x c h => by
      simp only [chkE] at h
      split at h <;> first | (cases h; done) | skip
      rename_i o op m ap y p
      simp only [Bool.and_eq_true, decide_eq_true_eq] at h
      obtain ⟨⟨⟨⟨⟨rfl, hl⟩, hg⟩, hgl⟩, hok⟩, hy⟩ := h
      have hh := chk_head hy
      refine ⟨fun pins s σ H Q I ⟨M, env, st, hs, he, gg⟩ => ?_⟩
      simp only [ev] at gg
      cases hw : w.glb g with
      | none => rw [hw] at gg; exact gg.elim
      | some d =>
        rw [hw] at gg
        simp only at gg
        by_cases hT : isT d = true
        case neg => rw [if_neg hT] at gg; exact gg.elim
        · rw [if_pos hT] at gg
          cases d <;> first | (cases hT; done) | skip
          rename_i xs
          obtain ⟨v, u, m1, m2, m3, m4⟩ := c.gl g _ _ hg hw
          obtain ⟨q, oq, rfl, k1, k2, k3⟩ := m4 xs rfl
          have hn := head_star hh [] X.env
          refine (pe_bm PySem.F.plainAttrs_tuple PySem.F.slot_tuple_index PySem.F.type_tuple_index mt_indexT (pe_glob (v := .ref q) (c.gl' hgl) m1 m2 (okName_d hok)) (pa_cons (hb X W sc k _ c hy) pa_nil (head_star hh _ _)) rfl (hfew1 hh) (by rw [hl]; exact beq_self_eq_true _) (head_star hh _ _) rfl).run pins s σ H Q I ?_
          refine ⟨.inr (.inl ⟨rfl, oq, k1, k2, k3⟩), M, env, st, hs, he, Got.bnd gg fun d2 s2 M2 H2 v2 e2 hs2 r2 g2 => ?_⟩
          obtain ⟨z, hz, g3⟩ := g2.lft
          simp only [idxt] at hz
          obtain ⟨hf, e3⟩ := some_ite hz
          subst e3
          simp only [Bool.and_eq_true] at hf
          obtain ⟨p', ws, e4, hw1, hw2⟩ := m3 M2 H2
          cases e4
          have rd2 : RepW X.K M2 H2 d2 v2 := repW_of r2 fun l e => by subst e; cases hf.1.1
          obtain ⟨f1, _⟩ := flat_all hf.1.1 rd2 hf.1.2 hw2
          obtain ⟨z, i1, i2, i3⟩ := idx_facts hf.1.1 rd2 hf.1.2 hw2 hf.2
          exact ⟨q, ws, v2, _, z, rfl, rfl, hw1, flat_V hf.1.1 rd2, f1, i1, i2, i3, g3.ok hs2 rfl⟩
    exact ⟨h1, st_plain h1 (fun sc x h => by cases x <;> first | rfl | (simp [chkE] at h)), sw_no fun _ _ _ _ h => by simp [chkE] at h⟩
  | .par a b => by
    have ha := (snd a).1
    have hb := (snd b).1
    have h1 : SE C w Φ CA (.par a b) := fun X W sc k x c h => by
      simp only [chkE] at h
      split at h <;> first | (cases h; done) | skip
      rename_i o m ap y p
      simp only [Bool.and_eq_true, decide_eq_true_eq] at h
      obtain ⟨⟨⟨⟨rfl, hl⟩, hnm⟩, hx⟩, hy⟩ := h
      have hh := chk_head hy
      refine PE.imp (pe_partition (ha X W sc k _ c hx) (hb X W sc k _ c hy) (head_star hh _ _) ?_ (by rw [hl]; exact beq_self_eq_true _)) fun σ H Q ⟨M, env, st, hs, he, g⟩ => ?_
      · cases o <;> first | (cases hnm; done) | rfl
      · simp only [ev] at g
        refine ⟨M, env, st, hs, he, Got.bnd g fun d s1 M1 H1 v e1 hs1 r1 g1 => ?_⟩
        cases d <;> first | exact g1.elim | skip
        rename_i s
        obtain rfl : v = .str (strV s) := r1
        refine ⟨⟨_, rfl⟩, M1, env, s1, hs1, he.ext e1 hs.noTup, Got.bnd g1 fun d2 s2 M2 H2 v2 e2 hs2 r2 g2 => ?_⟩
        obtain ⟨z, hz, g3⟩ := g2.lft
        unfold parD at hz
        split at hz <;> first | (cases hz; done) | skip
        rename_i k
        obtain rfl : v2 = .str (strV [k]) := r2
        obtain ⟨hlen, e3⟩ := some_ite hz
        subst e3
        refine ⟨_, _, rfl, rfl, rfl, Nat.le_trans (show s.length ≤ 1000000 from hlen) (by rw [sizeLine_eq]; decide), fun q hq => ?_⟩
        rw [part_D]
        cases hp : parC k [] s with
        | none => rw [hp] at g3; exact g3.tup hs2 ⟨_, _, rfl, rfl, _, _, rfl, rfl, _, _, rfl, rfl, rfl⟩ q hq
        | some z => obtain ⟨p1, p2⟩ := z; rw [hp] at g3; exact g3.tup hs2 ⟨_, _, rfl, rfl, _, _, rfl, rfl, _, _, rfl, rfl, rfl⟩ q hq
    exact ⟨h1, st_plain h1 (fun sc x h => by cases x <;> first | rfl | (simp [chkE] at h)), sw_no fun _ _ _ _ h => by simp [chkE] at h⟩
  | .spl a b => by
    have ha := (snd a).1
    have hb := (snd b).1
    have h1 : SE C w Φ CA (.spl a b) := fun X W sc k x c h => by
      simp only [chkE] at h
      split at h <;> first | (cases h; done) | skip
      rename_i o m ap y p
      simp only [Bool.and_eq_true, decide_eq_true_eq] at h
      obtain ⟨⟨⟨⟨rfl, hl⟩, hnm⟩, hx⟩, hy⟩ := h
      have hh := chk_head hy
      refine PE.imp (pe_split (ha X W sc k _ c hx) (hb X W sc k _ c hy) (head_star hh _ _) ?_ (by rw [hl]; exact beq_self_eq_true _)) fun σ H Q ⟨M, env, st, hs, he, g⟩ => ?_
      · cases o <;> first | (cases hnm; done) | rfl
      · simp only [ev] at g
        refine ⟨M, env, st, hs, he, Got.bnd g fun d s1 M1 H1 v e1 hs1 r1 g1 => ?_⟩
        cases d <;> first | exact g1.elim | skip
        rename_i s
        obtain rfl : v = .str (strV s) := r1
        refine ⟨⟨_, rfl⟩, M1, env, s1, hs1, he.ext e1 hs.noTup, Got.bnd g1 fun d2 s2 M2 H2 v2 e2 hs2 r2 g2 => ?_⟩
        obtain ⟨z, hz, g3⟩ := g2.lft
        unfold splD at hz
        split at hz <;> first | (cases hz; done) | skip
        rename_i k
        obtain rfl : v2 = .str (strV [k]) := r2
        obtain ⟨hlen, e3⟩ := some_ite hz
        subst e3
        refine ⟨_, _, rfl, rfl, rfl, Nat.le_trans (show s.length + 2 ≤ 1000002 from Nat.add_le_add_right hlen.1 2) (by rw [sizeLine_eq]; decide), fun q hq => ?_⟩
        rw [split_D s hlen.2]
        exact g3.fls hs2 (strs_rep _) q hq
    exact ⟨h1, st_plain h1 (fun sc x h => by cases x <;> first | rfl | (simp [chkE] at h)), sw_no fun _ _ _ _ h => by simp [chkE] at h⟩
  | .idx a b => by
    have ha := (snd a).1
    have hb := (snd b).1
    have h1 : SE C w Φ CA (.idx a b) := fun X W sc k x c h => by
      simp only [chkE] at h
      split at h <;> first | (cases h; done) | skip
      rename_i o m ap y p
      simp only [Bool.and_eq_true, decide_eq_true_eq] at h
      obtain ⟨⟨⟨⟨rfl, hl⟩, hlit⟩, hx⟩, hy⟩ := h
      have hh := chk_head hy
      refine PE.imp (pe_bm PySem.F.plainAttrs_list PySem.F.slot_list_index PySem.F.type_list_index mt_index (ha X W sc k _ c hx) (pa_cons (hb X W sc k _ c hy) pa_nil (head_star hh _ _)) ?_ (hfew1 hh) (by rw [hl]; exact beq_self_eq_true _) (head_star hh _ _) rfl) fun σ H Q ⟨M, env, st, hs, he, g⟩ => ?_
      · cases o <;> first | (cases hlit; done) | rfl
      · simp only [ev] at g
        refine ⟨M, env, st, hs, he, Got.bnd g fun d s1 M1 H1 v e1 hs1 r1 g1 => ?_⟩
        have w0 := viewed hs1 r1
        by_cases hd : isL (view s1 d) = true
        case neg => rw [if_neg hd] at g1; exact g1.elim
        · rw [if_pos hd] at g1
          cases hd' : view s1 d <;> rw [hd'] at hd <;> first | (cases hd; done) | skip
          rename_i xs0
          rw [hd'] at w0
          obtain ⟨q, ws0, rfl, hq0, _⟩ := w0
          refine ⟨.inl ⟨rfl, ws0, .inl hq0⟩, M1, env, s1, hs1, he.ext e1 hs.noTup, Got.bnd g1 fun d2 s2 M2 H2 v2 e2 hs2 r2 g2 => ?_⟩
          obtain ⟨z, hz, g3⟩ := g2.lft
          have w1 := viewed hs2 (r1.ext e2 hs1.noTup)
          cases hd2 : view s2 d <;> rw [hd2] at hz <;> first | (cases hz; done) | skip
          rename_i xs
          rw [hd2] at w1
          simp only [idxd] at hz
          obtain ⟨hf, e3⟩ := some_ite hz
          subst e3
          simp only [Bool.and_eq_true] at hf
          obtain ⟨p', ws, e4, hw1, hw2⟩ := w1
          cases e4
          have rd2 : RepW X.K M2 H2 d2 v2 := repW_of r2 fun l e => by subst e; cases hf.1.1
          obtain ⟨f1, _⟩ := flat_all hf.1.1 rd2 hf.1.2 hw2
          obtain ⟨z, i1, i2, i3⟩ := idx_facts hf.1.1 rd2 hf.1.2 hw2 hf.2
          exact ⟨q, ws, v2, _, z, rfl, rfl, .inl hw1, flat_V hf.1.1 rd2, f1, i1, i2, i3, g3.ok hs2 rfl⟩
    exact ⟨h1, st_plain h1 (fun sc x h => by cases x <;> first | rfl | (simp [chkE] at h)), sw_no fun _ _ _ _ h => by simp [chkE] at h⟩
  | .lc m own e tg it o => by
    have hee := snd e
    have hit := sndI it
    have hoo : ∀ t, o = .some t → ST C w Φ CA t := fun t q => by
      cases o with
      | none => cases q
      | some t' => cases q; exact (snd t).2.1
    have h1 : SE C w Φ CA (.lc m own e tg it o) := fun X W sc k x c h => by
      unfold chkE at h
      split at h <;> first | (cases h; done) | skip
      rename_i elt t iter ifs asy scope pos
      simp only [Bool.and_eq_true, decide_eq_true_eq, Bool.not_eq_true'] at h
      obtain ⟨⟨⟨⟨⟨⟨⟨⟨⟨hhot, rfl⟩, hblk⟩, hown⟩, htg⟩, hsto⟩, htow⟩, hi⟩, he⟩, hif⟩ := h
      exact lc_sound c hhot hblk hown htg hsto htow (chkI_fold hi X.env) (hit X W sc k t iter c hi) (fun s H cl Cd fp => hee.1 _ _ _ k elt (c.blk s H scope cl Cd fp) he) (o := o) (ifs := ifs) (by
        cases o with
        | none =>
          cases ifs with
          | nil => exact fun s H cl Cd fp => PTs.impN pts_nil
          | cons _ _ => cases hif
        | some t' =>
          cases ifs with
          | nil => cases hif
          | cons f r =>
            cases r with
            | cons _ _ => cases hif
            | nil => exact fun s H cl Cd fp => PTs.impS (pts_one (hoo t' rfl _ _ _ k f (c.blk s H scope cl Cd fp) hif)))
    exact ⟨h1, st_plain h1 (fun sc x h => by cases x <;> first | rfl | (simp [chkE] at h)), sw_no fun _ _ _ _ h => by simp [chkE] at h⟩
theorem sndI : ∀ (it : Wk) (X : Cx) (W : WX) (sc : Scope) (k : Nat) (t x : Expr), Cok C w Φ CA X W sc k → chkI C it sc t x = true → PI X t x (tI w Φ CA X.K W it)
  | .seq a, X, W, sc, k, t, x, c, h => piS c h fun b hb => by
    have := (snd a).1
    rcases hb with h | h | h | h | ⟨y, h | h | h | h⟩ | ⟨y, z, h | h | h⟩ <;> cases h
    exact this
  | .rng1 a, X, W, sc, k, t, x, c, h => piS c h fun b hb => by
    have := (snd a).1
    rcases hb with h | h | h | h | ⟨y, h | h | h | h⟩ | ⟨y, z, h | h | h⟩ <;> cases h
    exact this
  | .enm a, X, W, sc, k, t, x, c, h => piS c h fun b hb => by
    have := (snd a).1
    rcases hb with h | h | h | h | ⟨y, h | h | h | h⟩ | ⟨y, z, h | h | h⟩ <;> cases h
    exact this
  | .rev a, X, W, sc, k, t, x, c, h => piS c h fun b hb => by
    have := (snd a).1
    rcases hb with h | h | h | h | ⟨y, h | h | h | h⟩ | ⟨y, z, h | h | h⟩ <;> cases h
    exact this
  | .rng2 a a', X, W, sc, k, t, x, c, h => piS c h fun b hb => by
    have h1 := (snd a).1
    have h2 := (snd a').1
    rcases hb with h | h | h | h | ⟨y, h | h | h | h⟩ | ⟨y, z, h | h | h⟩ <;> cases h
    · exact h1
    · exact h2
  | .zip a a', X, W, sc, k, t, x, c, h => piS c h fun b hb => by
    have h1 := (snd a).1
    have h2 := (snd a').1
    rcases hb with h | h | h | h | ⟨y, h | h | h | h⟩ | ⟨y, z, h | h | h⟩ <;> cases h
    · exact h1
    · exact h2
  | .rng3 a a' a'', X, W, sc, k, t, x, c, h => piS c h fun b hb => by
    have h1 := (snd a).1
    have h2 := (snd a').1
    have h3 := (snd a'').1
    rcases hb with h | h | h | h | ⟨y, h | h | h | h⟩ | ⟨y, z, h | h | h⟩ <;> cases h
    · exact h1
    · exact h2
    · exact h3
theorem sndA : ∀ (as : Exs) (X : Cx) (W : WX) (sc : Scope) (k : Nat) (xs : List Expr), Cok C w Φ CA X W sc k → chkEs C as sc xs = true → PA X xs (tA w Φ CA X.K W as)
  | .nil, X, W, sc, k, xs, c, h => by
    cases xs with
    | cons _ _ => simp [chkEs] at h
    | nil =>
      refine PA.imp pa_nil fun σ H Q ⟨M, env, st, hs, he, g⟩ => ?_
      simp only [evs] at g
      exact g.ok hs rfl
  | .cons a r, X, W, sc, k, xs, c, h => by
    cases xs with
    | nil => simp [chkEs] at h
    | cons x xs =>
      simp only [chkEs, Bool.and_eq_true] at h
      refine PA.imp (pa_cons ((snd a).1 X W sc k x c h.1) (sndA r X W sc k xs c h.2) (head_star (chk_head h.1) _ _)) fun σ H Q ⟨M, env, st, hs, he, g⟩ => ?_
      simp only [evs] at g
      refine ⟨M, env, st, hs, he, Got.bnd g fun d s1 M1 H1 v e1 hs1 r1 g1 => ⟨M1, env, s1, hs1, he.ext e1 hs.noTup, Got.bnd g1 fun ds s2 M2 H2 vs e2 hs2 r2 g2 => ?_⟩⟩
      exact g2.ok hs2 ⟨v, vs, rfl, r1.ext e2 hs1.noTup, r2⟩
theorem sndO : ∀ (o : Exo) (X : Cx) (W : WX) (sc : Scope) (k : Nat) (x : Option Expr), Cok C w Φ CA X W sc k → chkO C o sc x = true → PO X x (tO w Φ CA X.K W o)
  | .none, X, W, sc, k, x, c, h => by
    cases x with
    | some _ => simp [chkO] at h
    | none =>
      refine ⟨fun pins s σ H Q I ⟨M, env, st, hs, he, g⟩ => po_none.run pins s σ H Q I ?_⟩
      simp only [evo] at g
      exact g.ok hs rfl
  | .some a, X, W, sc, k, x, c, h => by
    cases x with
    | none => simp [chkO] at h
    | some x =>
      simp only [chkO] at h
      refine ⟨fun pins s σ H Q I ⟨M, env, st, hs, he, g⟩ => (po_some ((snd a).1 X W sc k x c h)).run pins s σ H Q I ?_⟩
      simp only [evo] at g
      refine ⟨M, env, st, hs, he, Got.bnd g fun d s1 M1 H1 v e1 hs1 r1 g1 => ?_⟩
      cases d <;> first | exact g1.elim | skip
      exact ⟨_, r1, g1.ok hs1 rfl⟩
end
end
end Dp

end
section
set_option Elab.async false
set_option linter.all false
set_option maxRecDepth 100000
set_option maxHeartbeats 8000000
/-! Sn4: statements. -/
namespace Dp
open PySem PySem.Spec PyProof.Rows L2
theorem EnvOk.over {K : PySem.W.Frag} {M : Ms} {H : Hp} {env : Nv} {σ : L2.St} (x : EnvOk K M H env σ) {d : D} {v : V} (r : Rep K M H d v) (i j : Nat) (X : Option D) (Y : Option V) : EnvOk K M H (((env.set i X).set j (some d)).set i none) (((σ.set i Y).set j (some v)).set i none) := by
  refine ⟨by simp [x.len], fun m e h => ?_⟩
  by_cases hm : i = m
  · subst hm
    by_cases hi : i < ((env.set i X).set j (some d)).length
    · rw [List.getElem?_set_self hi] at h
      cases h
    · rw [List.getElem?_eq_none (by simpa using hi)] at h
      cases h
  · rw [List.getElem?_set_ne hm] at h ⊢
    by_cases hj : j = m
    · subst hj
      by_cases hi : j < (env.set i X).length
      · rw [List.getElem?_set_self hi] at h
        cases h
        have hl := x.len
        refine ⟨v, List.getElem?_set_self ?_, r⟩
        rw [List.length_set] at hi ⊢
        omega
      · rw [List.getElem?_eq_none (by simpa using hi)] at h
        cases h
    · rw [List.getElem?_set_ne hj, List.getElem?_set_ne hm] at h
      rw [List.getElem?_set_ne hj, List.getElem?_set_ne hm]
      exact x.get m e h

/-! ### what a statement asks -/
section
variable (K : PySem.W.Frag) (CA : Nat → Option Addr)
def GotS (M : Ms) (H : Hp) (W : WX) (Dn : Ends) (r : Out) : Prop :=
  match r with
  | none => False
  | some (.nx e, st') => ∀ M' H' σ', Ext M H M' H' → StoOk K M' H' st' → EnvOk K M' H' e σ' → Dn.nx σ' H'
  | some (.rt d, st') => ∀ M' H' v, Ext M H M' H' → StoOk K M' H' st' → Rep K M' H' d v → Dn.rt v H'
  | some (.bk e, st') => ∀ M' H' σ', Ext M H M' H' → StoOk K M' H' st' → EnvOk K M' H' e σ' → Dn.bk σ' H'
  | some (.ct e, st') => ∀ M' H' σ', Ext M H M' H' → StoOk K M' H' st' → EnvOk K M' H' e σ' → Dn.ct σ' H'
  | some (.xc x e, st') => ∀ M' H' cls od σ', Ext M H M' H' → StoOk K M' H' st' → XRep K CA M' H' x cls od → EnvOk K M' H' e σ' → W cls od σ' H'
end
section
variable {K : PySem.W.Frag} {CA : Nat → Option Addr} {α β : Type} {M M1 : Ms} {H H1 : Hp} {R : Ms → Hp → α → β → Prop} {W : WX} {Dn : Ends} {st : Sto} {env : Nv} {σ : L2.St}
theorem GotS.ext {r : Out} (g : GotS K CA M H W Dn r) (e : Ext M H M1 H1) : GotS K CA M1 H1 W Dn r := by
  match r, g with
  | some (.nx a, st'), g => exact fun M' H' b e' s r => g M' H' b (e.trans e') s r
  | some (.rt a, st'), g => exact fun M' H' b e' s r => g M' H' b (e.trans e') s r
  | some (.bk a, st'), g => exact fun M' H' b e' s r => g M' H' b (e.trans e') s r
  | some (.ct a, st'), g => exact fun M' H' b e' s r => g M' H' b (e.trans e') s r
  | some (.xc x a, st'), g => exact fun M' H' cls od b e' s r => g M' H' cls od b (e.trans e') s r
theorem GotS.bnS {m : Ans α} {f : α → Sto → Out} {Q : β → Hp → Prop} (g : GotS K CA M H W Dn (bnS m env f)) (he : EnvOk K M H env σ) (hn : NoTup M H)
    (k : ∀ a st1 M1 H1 b, Ext M H M1 H1 → StoOk K M1 H1 st1 → R M1 H1 a b → GotS K CA M1 H1 W Dn (f a st1) → Q b H1) : Got K CA M H R (fun cls d H' => W cls d σ H') m Q := by
  match m, g with
  | some (.ok a st'), g => exact fun M' H' b e s r => k a st' M' H' b e s r (GotS.ext (r := f a st') g e)
  | some (.ex x st'), g => exact fun M' H' cls od e s r => g M' H' cls od σ e s r (he.ext e hn)
/-- the end of a statement, where it goes on -/
def Aft (K : PySem.W.Frag) (CA : Nat → Option Addr) (M : Ms) (H : Hp) (W : WX) (Dn : Ends) (f : Nv → Sto → Out) : L2.St → Hp → Prop := fun σ' H' => ∃ M' e st', Ext M H M' H' ∧ StoOk K M' H' st' ∧ EnvOk K M' H' e σ' ∧ GotS K CA M' H' W Dn (f e st')
theorem GotS.sqn {m : Out} {f : Nv → Sto → Out} (g : GotS K CA M H W Dn (sqn m f)) : GotS K CA M H W { Dn with nx := Aft K CA M H W Dn f } m := by
  match m, g with
  | some (.nx e, st'), g => exact fun M' H' σ' ex s en => ⟨M', e, st', ex, s, en, GotS.ext (r := f e st') g ex⟩
  | some (.rt a, st'), g => exact g
  | some (.bk a, st'), g => exact g
  | some (.ct a, st'), g => exact g
  | some (.xc x a, st'), g => exact g
theorem GotS.trn {m : Out} {f : Nv → Sto → Out} (g : GotS K CA M H W Dn (trn m f)) : GotS K CA M H W { Dn with nx := Aft K CA M H W Dn f, ct := Aft K CA M H W Dn f, bk := Dn.nx } m := by
  match m, g with
  | some (.nx e, st'), g => exact fun M' H' σ' ex s en => ⟨M', e, st', ex, s, en, GotS.ext (r := f e st') g ex⟩
  | some (.ct e, st'), g => exact fun M' H' σ' ex s en => ⟨M', e, st', ex, s, en, GotS.ext (r := f e st') g ex⟩
  | some (.rt a, st'), g => exact g
  | some (.bk a, st'), g => exact g
  | some (.xc x a, st'), g => exact g
/-- weaker wishes -/
theorem GotS.imp {r : Out} {Dn' : Ends} (g : GotS K CA M H W Dn r) (h1 : ∀ M' σ' H' e st', Ext M H M' H' → StoOk K M' H' st' → EnvOk K M' H' e σ' → Dn.nx σ' H' → Dn'.nx σ' H') (h2 : ∀ v H', Dn.rt v H' → Dn'.rt v H') (h3 : ∀ σ H', Dn.bk σ H' → Dn'.bk σ H')
    (h4 : ∀ M' σ' H' e st', Ext M H M' H' → StoOk K M' H' st' → EnvOk K M' H' e σ' → Dn.ct σ' H' → Dn'.ct σ' H') : GotS K CA M H W Dn' r := by
  match r, g with
  | some (.nx e, st'), g => exact fun M' H' σ' ex s en => h1 M' σ' H' e st' ex s en (g M' H' σ' ex s en)
  | some (.ct e, st'), g => exact fun M' H' σ' ex s en => h4 M' σ' H' e st' ex s en (g M' H' σ' ex s en)
  | some (.rt a, st'), g => exact fun M' H' v ex s en => h2 v H' (g M' H' v ex s en)
  | some (.bk a, st'), g => exact fun M' H' v ex s en => h3 v H' (g M' H' v ex s en)
  | some (.xc x a, st'), g => exact g
theorem GotS.nx {e : Nv} (g : GotS K CA M H W Dn (some (.nx e, st))) (s : StoOk K M H st) (en : EnvOk K M H e σ) : Dn.nx σ H := g M H σ (Ext.refl M H) s en
end

section
variable {K : PySem.W.Frag} {CA : Nat → Option Addr} {M : Ms} {H : Hp} {W : WX} {Dn : Ends}
theorem EnvOk.gon {env : Nv} {σ : L2.St} (x : EnvOk K M H env σ) : ∀ i : Option Nat, EnvOk K M H (gon i env) (gonG i σ)
  | none => x
  | some i => EnvOk.wipe x [i]
theorem GotS.suE {i : Option Nat} {m : Out} (g : GotS K CA M H W Dn (suE i m)) : GotS K CA M H (fun _ _ _ _ => False) (endG Dn i) m := by
  match m, g with
  | some (.nx e, st'), g => exact fun M' H' σ' ex s en => g M' H' _ ex s (en.gon i)
  | some (.bk e, st'), g => exact fun M' H' σ' ex s en => g M' H' _ ex s (en.gon i)
  | some (.ct e, st'), g => exact fun M' H' σ' ex s en => g M' H' _ ex s (en.gon i)
  | some (.rt d, st'), g => exact g
end
/-! ### readings -/
section
variable (w : Wd) (Φ : Nat → List D → Sto → Ans D) (CA : Nat → Option Addr)
def tS (K : PySem.W.Frag) (W : WX) (c : Sm) : TS := fun Dn σ H => ∃ M env st, StoOk K M H st ∧ EnvOk K M H env σ ∧ GotS K CA M H W Dn (run w Φ c env st)
end
section
variable {C : Ct} {w : Wd} {Φ : Nat → List D → Sto → Ans D} {CA : Nat → Option Addr} {X : Cx} {W : WX} {sc : Scope} {k : Nat}
/-- what the context of a def's body grants -/
def Dfx (X : Cx) : Prop := PassesOwn (model X.prog X.w) X.A X.env X.xe ∧ X.stack = X.env :: X.outer ∧ X.env.frame = some X.env.locals ∧ X.ex = []
/-- .. of a body that stands in no try -/
def Dfa (X : Cx) : Prop := ∀ hd : Option Value, PassesOwnAt (model X.prog X.w) (X.A.mark hd) X.A X.env X.xe
def Dfy (C : Ct) (X : Cx) : Prop := (C.hot = false → Dfx X) ∧ (C.at0 = true → Dfa X)
def SSt (w : Wd) (Φ : Nat → List D → Sto → Ans D) (CA : Nat → Option Addr) (c : Sm) : Prop :=
  ∀ (C : Ct) (X : Cx) (W : WX) (sc : Scope) (k : Nat) (s : Stmt), Cok C w Φ CA X W sc k → (∀ x, X.fn x = true) → Dfy C X → sc.kind = .function → chkS C c sc s = true → PS X s (tS w Φ CA X.K W c)
def SBl (w : Wd) (Φ : Nat → List D → Sto → Ans D) (CA : Nat → Option Addr) (c : Sm) : Prop :=
  ∀ (C : Ct) (X : Cx) (W : WX) (sc : Scope) (k : Nat) (s : List Stmt), Cok C w Φ CA X W sc k → (∀ x, X.fn x = true) → Dfy C X → sc.kind = .function → chkB C c sc s = true → PSs X s (tS w Φ CA X.K W c)
def SHd (w : Wd) (Φ : Nat → List D → Sto → Ans D) (CA : Nat → Option Addr) (hs : Hds) : Prop :=
  ∀ (C : Ct) (X : Cx) (W : WX) (sc : Scope) (k : Nat) (hds : List ExceptHandler), Cok C w Φ CA X W sc k → (∀ x, X.fn x = true) → C.nn = false → sc.kind = .function → chkH C hs sc hds = true → ∃ l, HdG X hds l ∧
    ∀ (Dn : Ends) (M : Ms) (H : Hp) (cls : Value) (od : Option Addr) (σ : L2.St) (env : Nv) (st : Sto) (x : Nat) (vs : List D), StoOk X.K M H st → XRep X.K CA M H (.exc x vs) cls od → EnvOk X.K M H env σ → GotS X.K CA M H W Dn (runH w Φ hs x vs env st) → wG X.K W Dn l cls od σ H
theorem tgSto_all (hf : ∀ x, X.fn x = true) (t : Expr) : tgSto X t := by
  cases t <;> first | exact .inl (hf _) | exact fun _ _ x p _ => .inl (hf x) | trivial
theorem chk_notTup {C : Ct} {e : Ex} {sc : Scope} {v : Expr} (h : chkE C e sc v = true) (n : ∀ as, e ≠ .tup as) (ts : List Expr) (k : Nat) (p : Pos) (env : Env) : swappedStores [.Tuple ts k p] v env = pure none := by
  cases v <;> first | rfl | skip
  cases e <;> first | (simp [chkE] at h; done) | skip
  exact absurd rfl (n _)
theorem sw_name {x : Str} {p : Pos} {v : Expr} {env : Env} : swappedStores [.Name x p] v env = pure none := by
  cases v <;> rfl
theorem asg_red {K : PySem.W.Frag} {tg : Tg} {e : Ex} (Dn : Ends) (σ : L2.St) (H : Hp) : tS w Φ CA K W (.asg tg e) Dn σ H → tAsg (tE w Φ CA K W e) (gA K tg) Dn σ H := by
  intro ⟨M, env, st, hs, en, g⟩
  refine ⟨M, env, st, hs, en, ?_⟩
  simp only [run] at g
  refine GotS.bnS g en hs.noTup fun d s1 M1 H1 v e1 hs1 r1 g1 => ?_
  have en1 := en.ext e1 hs.noTup
  cases tg with
  | nm i => exact GotS.nx g1 hs1 (en1.set i r1)
  | tp is =>
    simp only at g1
    cases ha : asgn (.tp is) (view s1 d) env with
    | none => rw [ha] at g1; exact g1.elim
    | some env' =>
      rw [ha] at g1
      exact gT_of en1 (viewed hs1 r1) ha fun vs hv => GotS.nx g1 hs1 hv
theorem noLc_ex {e : Ex} (h : ¬ noLc e = true) : ∃ m own el tg it o, e = .lc m own el tg it o := by
  cases e <;> first | exact absurd rfl h | exact ⟨_, _, _, _, _, _, rfl⟩
theorem lc_parts {o : Exo} {ifs : List Expr} {scope sc : Scope} (hif : (match o, ifs with
          | .none, [] => true
          | .some k, [f] => chkE C k (relS scope sc) f
          | _, _ => false) = true) (c : Cok C w Φ CA X W sc k) (s : Shared) (H : Hp) (cl : List (Str × Addr)) (Cd : Addr) (fp : List Addr) : PTs (X.blk s H scope (compEnvC scope cl Cd X.env) fp) ifs (tTs w Φ CA X.K o) := by
  cases o with
  | none =>
    cases ifs with
    | nil => exact PTs.impN pts_nil
    | cons _ _ => cases hif
  | some t' =>
    cases ifs with
    | nil => cases hif
    | cons f r =>
      cases r with
      | cons _ _ => cases hif
      | nil => exact PTs.impS (pts_one ((snd t').2.1 _ _ _ k f (c.blk s H scope cl Cd fp) hif))
mutual
theorem sndS : ∀ c : Sm, SSt w Φ CA c ∧ SBl w Φ CA c
  | .nil => ⟨fun C X W sc k s c hf hp hk h => by simp [chkS] at h, fun C X W sc k s c hf hp hk h => by
    cases s with
    | cons _ _ => simp [chkB] at h
    | nil =>
      refine PSs.imp pss_nil fun Dn σ H ⟨M, env, st, s, en, g⟩ => ?_
      exact GotS.nx (by simpa only [run] using g) s en⟩
  | .seq a b => by
    have ha := (sndS a).1
    have hb := (sndS b).2
    exact ⟨fun C X W sc k s c hf hp hk h => by simp [chkS] at h, fun C X W sc k s c hf hp hk h => by
    cases s with
    | nil => simp [chkB] at h
    | cons x r =>
      simp only [chkB, Bool.and_eq_true] at h
      refine PSs.imp (pss_cons (ha C X W sc k x c hf hp hk h.1) (hb C X W sc k r c hf hp hk h.2)) fun Dn σ H ⟨M, env, st, s, en, g⟩ => ?_
      simp only [run] at g
      refine ⟨M, env, st, s, en, (GotS.sqn g).imp (fun M' σ' H' e st' _ _ _ q => ?_) (fun _ _ q => q) (fun _ _ q => q) (fun _ _ _ _ _ _ _ _ q => q)⟩
      obtain ⟨M2, e2, st2, _, s2, en2, g2⟩ := q
      exact ⟨M2, e2, st2, s2, en2, g2⟩⟩
  | .asg tg e => ⟨fun C X W sc k s c hf hp hkd h => by
    unfold chkS at h
    split at h <;> first | (cases h; done) | skip
    rename_i t v p
    simp only [Bool.and_eq_true] at h
    obtain ⟨⟨⟨hht, htg⟩, he⟩, hx⟩ := h
    have hht : C.hot = false ∨ tgNm tg = true := by simpa using hht
    by_cases hlc : noLc e = true
    · have hn := chk_noLc he hlc
      have hh := chk_head he
      refine PS.imp (ps_asg ((snd e).1 X W sc k v c he) (pgA c hht htg (tgSto_all hf t)) ?_ ?_ ?_) asg_red
      · exact head_sw hh hn _ _ _
      · cases tg <;> cases t <;> first | (simp [tgB] at htg; done) | exact sw_name | skip
        refine chk_notTup he (fun as q => ?_) _ _ _ _
        subst q
        simp at hx
      · cases tg <;> cases t <;> first | (simp [tgB] at htg; done) | rfl
    · obtain ⟨m, own, el, tg', it, o, rfl⟩ := noLc_ex hlc
      split at hx <;> first | (rename_i n1 n2 n3; exact (n1 _ _ _ _ _ _ rfl).elim) | (cases hx; done) | skip
      rename_i m1 own1 el1 tg1 it1 o1 y py elt gens scope pos heq
      cases heq
      simp only [Bool.and_eq_true, decide_eq_true_eq, Bool.not_eq_true'] at hx
      obtain ⟨⟨hyl, hln⟩, hany⟩ := hx
      have hyl' : sc.names.lookup y = some .local := by
        split at hyl <;> first | assumption | cases hyl
      unfold chkE at he
      split at he <;> first | (cases he; done) | skip
      rename_i elt2 t iter ifs asy scope2 pos2 heq2
      cases heq2
      simp only [Bool.and_eq_true, decide_eq_true_eq, Bool.not_eq_true'] at he
      obtain ⟨⟨⟨⟨⟨⟨⟨⟨⟨hhot, rfl⟩, hblk⟩, hown⟩, htg'⟩, hsto⟩, htow⟩, hi⟩, hel⟩, hif⟩ := he
      cases tg with
      | tp is => simp [tgB] at htg
      | nm i =>
        simp only [tgB, Bool.and_eq_true, decide_eq_true_eq] at htg
        exact PS.imp (lc_set c hhot hblk hown htg' hsto htow (chkI_fold hi X.env) (sndI it X W sc k t iter c hi) htg.1 hyl' hln hkd hany (fun s H cl Cd fp => (snd el).1 _ _ _ k elt (c.blk s H scope cl Cd fp) hel) (lc_parts hif c)) asg_red,
    fun C X W sc k s c hf hp hk h => by simp [chkB] at h⟩
  | .ifs cc a b => by
    have ha := (sndS a).2
    have hb := (sndS b).2
    exact ⟨fun C X W sc k s c hf hp hk h => by
    unfold chkS at h
    split at h <;> first | (cases h; done) | skip
    simp only [Bool.and_eq_true] at h
    refine PS.imp (ps_if ((snd cc).2.1 X W sc k _ c h.1.1) (ha C X W sc k _ c hf hp hk h.1.2) (hb C X W sc k _ c hf hp hk h.2)) fun Dn σ H ⟨M, env, st, hs, en, g⟩ => ?_
    simp only [run] at g
    refine ⟨M, env, st, hs, en, GotS.bnS g en hs.noTup fun d s1 M1 H1 v e1 hs1 r1 g1 => ?_⟩
    have en1 := en.ext e1 hs.noTup
    cases r1
    cases d with
    | true => exact iteT ⟨M1, env, s1, hs1, en1, g1⟩
    | false => exact iteF ⟨M1, env, s1, hs1, en1, g1⟩, fun C X W sc k s c hf hp hk h => by simp [chkB] at h⟩
  | .whl cc b => by
    have hb := (sndS b).2
    exact ⟨fun C X W sc k s c hf hp hk h => by
    unfold chkS at h
    split at h <;> first | (cases h; done) | skip
    simp only [Bool.and_eq_true, Bool.not_eq_true'] at h
    refine PS.imp (ps_while (hp.1 h.1.1).1 ((snd cc).2.1 X W sc k _ c h.1.2) (hb C X W sc k _ c hf hp hk h.2)) fun Dn σ H ⟨M, env, st, hs, en, g⟩ => ?_
    simp only [run] at g
    cases hw : whle (evt w Φ cc) (run w Φ b) env st with
    | none => rw [hw] at g; exact g.elim
    | some r =>
      rw [hw] at g
      obtain ⟨n, hn⟩ := whle_spec hw
      rw [← hn] at g
      refine ⟨fun m σ H => ∃ M env st, StoOk X.K M H st ∧ EnvOk X.K M H env σ ∧ GotS X.K CA M H W Dn (loop (evt w Φ cc) (run w Φ b) m env st), ⟨n, M, env, st, hs, en, g⟩, ?_⟩
      rintro m σ H ⟨M, env, st, hs, en, g⟩
      cases m with
      | zero => exact g.elim
      | succ m =>
        unfold loop at g
        refine ⟨M, env, st, hs, en, GotS.bnS g en hs.noTup fun d s1 M1 H1 v e1 hs1 r1 g1 => ?_⟩
        have en1 := en.ext e1 hs.noTup
        cases r1
        cases d with
        | true =>
          simp only [if_true] at g1
          refine iteT ⟨fun σ' H' => ∃ M' env' st', StoOk X.K M' H' st' ∧ EnvOk X.K M' H' env' σ' ∧ GotS X.K CA M' H' W Dn (loop (evt w Φ cc) (run w Φ b) m env' st'), fun σ' H' q => ⟨m, Nat.lt_succ_self _, q⟩, M1, env, s1, hs1, en1, (GotS.trn g1).imp (fun M' σ' H' e st' _ _ _ q => ?_) (fun _ _ q => q) (fun _ _ q => q) (fun M' σ' H' e st' _ _ _ q => ?_)⟩
          · obtain ⟨M2, e2, st2, _, s2, en2, g2⟩ := q
            exact ⟨M2, e2, st2, s2, en2, g2⟩
          · obtain ⟨M2, e2, st2, _, s2, en2, g2⟩ := q
            exact ⟨M2, e2, st2, s2, en2, g2⟩
        | false => exact iteF (GotS.nx g1 hs1 en1), fun C X W sc k s c hf hp hk h => by simp [chkB] at h⟩
  | .fr tg it b => by
    have hb := (sndS b).2
    exact ⟨fun C X W sc k s c hf hp hk h => by
    unfold chkS at h
    split at h <;> first | (cases h; done) | skip
    rename_i t iter body p
    simp only [Bool.and_eq_true, Bool.not_eq_true'] at h
    obtain ⟨⟨⟨⟨hhot, hn⟩, htg⟩, hi⟩, hbb⟩ := h
    refine PS.imp (ps_for (hp.1 hhot).1 (c.xk.calm hhot) (sndI it X W sc k t iter c hi) (pgA c (.inl hhot) htg (tgSto_all hf t)) (hb C X W sc k _ c hf hp hk hbb) (notSet_fold hn X.env)) fun Dn σ H ⟨M, env, st, hs, en, g⟩ => ?_
    simp only [run] at g
    refine ⟨M, env, st, hs, en, GotS.bnS g en hs.noTup fun src s1 M1 H1 J e1 hs1 r1 g1 => ?_⟩
    have en1 := en.ext e1 hs.noTup
    cases src with
    | its xs =>
      simp only [walkS] at g1
      refine ⟨fun i m σ H => ∃ M' env' st', ExtW M1 H1 M' H ∧ StoOk X.K M' H st' ∧ EnvOk X.K M' H env' σ ∧ GotS X.K CA M' H W Dn (walk (fun x e s => match asgn tg x e with
        | some e' => run w Φ b e' s
        | none => none) (xs.drop i) env' st') ∧ m = xs.length - i, ⟨xs.length, M1, env, s1, (Ext.refl _ _).toExtW, hs1, en1, g1, by simp⟩, ?_⟩
      rintro i m σ H ⟨M', env', st', ew, hs', en', g', rfl⟩
      obtain ⟨hstop, hgo⟩ := src_its r1 ew hs' i
      cases hx : xs[i]? with
      | none =>
        have hi : xs.length ≤ i := List.getElem?_eq_none_iff.mp hx
        rw [List.drop_eq_nil_of_le hi] at g'
        simp only [walk] at g'
        exact .inl ⟨hstop hx, GotS.nx g' hs' en'⟩
      | some d =>
        obtain ⟨hi, rfl⟩ := List.getElem?_eq_some_iff.mp hx
        rw [List.drop_eq_getElem_cons hi] at g'
        simp only [walk] at g'
        obtain ⟨go1, g2⟩ := hgo _ hx
        refine .inr ⟨go1, fun σ' H' => ∃ M'' env'' st'', ExtW M1 H1 M'' H' ∧ StoOk X.K M'' H' st'' ∧ EnvOk X.K M'' H' env'' σ' ∧ GotS X.K CA M'' H' W Dn (walk (fun x e s => match asgn tg x e with
          | some e' => run w Φ b e' s
          | none => none) (xs.drop (i + 1)) env'' st''), fun σ' H' ⟨a1, a2, a3, a4, a5, a6, a7⟩ => ⟨xs.length - (i + 1), by omega, a1, a2, a3, a4, a5, a6, a7, rfl⟩, fun x H' y => ?_⟩
        obtain ⟨ey, hsy, rdx, hky⟩ := g2 x H' y
        cases ha : asgn tg xs[i] env' with
        | none => rw [ha] at g'; exact g'.elim
        | some e' =>
          rw [ha] at g'
          simp only at g'
          refine gA_of (en'.ext ey hs'.noTup) rdx ha fun σ'' en'' _ => ⟨M', e', st', hsy, en'', (GotS.trn (g'.ext ey)).imp (fun M2 σ2 H2 e2 st2 _ _ _ q => ?_) (fun _ _ q => q) (fun _ _ q => q) (fun M2 σ2 H2 e2 st2 _ _ _ q => ?_)⟩
          · obtain ⟨M3, e3, st3, x3, s3, en3, g3⟩ := q
            exact ⟨M3, e3, st3, (ew.trans ey.toExtW).trans x3.toExtW, s3, en3, g3⟩
          · obtain ⟨M3, e3, st3, x3, s3, en3, g3⟩ := q
            exact ⟨M3, e3, st3, (ew.trans ey.toExtW).trans x3.toExtW, s3, en3, g3⟩
    | cel en l =>
      obtain ⟨a, hm, rfl⟩ := r1
      simp only [walkS] at g1
      refine ⟨fun i m σ H => ∃ M' env' st', ExtW M1 H1 M' H ∧ StoOk X.K M' H st' ∧ EnvOk X.K M' H env' σ ∧ GotS X.K CA M' H W Dn (walkR (itm en) (fun x e s => match asgn tg x e with
        | some e' => run w Φ b e' s
        | none => none) l i m env' st'), ⟨size s1 l, M1, env, s1, (Ext.refl _ _).toExtW, hs1, en1, g1⟩, ?_⟩
      rintro i m σ H ⟨M', env', st', ew, hs', en', g'⟩
      unfold walkR at g'
      cases hxl : st'[l]? with
      | none => simp only [hxl] at g'; exact g'.elim
      | some cl0 =>
      cases cl0 with
      | dct _ => simp only [hxl] at g'; exact g'.elim
      | ins _ _ => simp only [hxl] at g'; exact g'.elim
      | lst xs =>
      obtain ⟨hstop, hgo⟩ := src_cel hm ew hs' hxl en i
      simp only [hxl] at g'
      cases hx : xs[i]? with
      | none =>
        simp only [hx] at g'
        exact .inl ⟨hstop hx, GotS.nx g' hs' en'⟩
      | some d =>
        simp only [hx] at g'
        obtain ⟨go1, g2⟩ := hgo _ hx
        cases m with
        | zero => exact g'.elim
        | succ m =>
          simp only at g'
          refine .inr ⟨go1, fun σ' H' => ∃ M'' env'' st'', ExtW M1 H1 M'' H' ∧ StoOk X.K M'' H' st'' ∧ EnvOk X.K M'' H' env'' σ' ∧ GotS X.K CA M'' H' W Dn (walkR (itm en) (fun x e s => match asgn tg x e with
            | some e' => run w Φ b e' s
            | none => none) l (i + 1) m env'' st''), fun σ' H' q => ⟨m, Nat.lt_succ_self _, q⟩, fun x H' y => ?_⟩
          obtain ⟨ey, hsy, rdx, hky⟩ := g2 x H' y
          cases ha : asgn tg (itm en i d) env' with
          | none => rw [ha] at g'; exact g'.elim
          | some e' =>
            rw [ha] at g'
            simp only at g'
            refine gA_of (en'.ext ey hs'.noTup) rdx ha fun σ'' en'' _ => ⟨M', e', st', hsy, en'', (GotS.trn (g'.ext ey)).imp (fun M2 σ2 H2 e2 st2 _ _ _ q => ?_) (fun _ _ q => q) (fun _ _ q => q) (fun M2 σ2 H2 e2 st2 _ _ _ q => ?_)⟩
            · obtain ⟨M3, e3, st3, x3, s3, en3, g3⟩ := q
              exact ⟨M3, e3, st3, (ew.trans ey.toExtW).trans x3.toExtW, s3, en3, g3⟩
            · obtain ⟨M3, e3, st3, x3, s3, en3, g3⟩ := q
              exact ⟨M3, e3, st3, (ew.trans ey.toExtW).trans x3.toExtW, s3, en3, g3⟩, fun C X W sc k s c hf hp hk h => by simp [chkB] at h⟩
  | .ret e => ⟨fun C X W sc k s c hf hp hk h => by
    unfold chkS at h
    split at h <;> first | (cases h; done) | skip
    refine PS.imp (ps_ret ((snd e).1 X W sc k _ c h)) fun Dn σ H ⟨M, env, st, hs, en, g⟩ => ?_
    simp only [run] at g
    exact ⟨M, env, st, hs, en, GotS.bnS g en hs.noTup fun d s1 M1 H1 v e1 hs1 r1 g1 => g1 M1 H1 v (Ext.refl _ _) hs1 r1⟩, fun C X W sc k s c hf hp hk h => by simp [chkB] at h⟩
  | .retn => ⟨fun C X W sc k s c hf hp hk h => by
    unfold chkS at h
    split at h <;> first | (cases h; done) | skip
    refine PS.imp ps_retN fun Dn σ H ⟨M, env, st, hs, en, g⟩ => ?_
    simp only [run] at g
    exact g M H .non (Ext.refl _ _) hs rfl, fun C X W sc k s c hf hp hk h => by simp [chkB] at h⟩
  | .exp e => ⟨fun C X W sc k s c hf hp hk h => by
    unfold chkS at h
    split at h <;> first | (cases h; done) | skip
    simp only [Bool.and_eq_true] at h
    refine PS.imp (ps_expr ((snd e).1 X W sc k _ c h.2) (head_sw (chk_head h.2) (chk_noLc h.2 h.1) _ _ _)) fun Dn σ H ⟨M, env, st, hs, en, g⟩ => ?_
    simp only [run] at g
    exact ⟨M, env, st, hs, en, GotS.bnS g en hs.noTup fun d s1 M1 H1 v e1 hs1 r1 g1 => GotS.nx g1 hs1 (en.ext e1 hs.noTup)⟩, fun C X W sc k s c hf hp hk h => by simp [chkB] at h⟩
  | .pass => ⟨fun C X W sc k s c hf hp hk h => by
    unfold chkS at h
    split at h <;> first | (cases h; done) | skip
    exact PS.imp ps_pass fun Dn σ H ⟨M, env, st, hs, en, g⟩ => GotS.nx (by simpa only [run] using g) hs en, fun C X W sc k s c hf hp hk h => by simp [chkB] at h⟩
  | .brk => ⟨fun C X W sc k s c hf hp hk h => by
    unfold chkS at h
    split at h <;> first | (cases h; done) | skip
    refine PS.imp ps_break fun Dn σ H ⟨M, env, st, hs, en, g⟩ => ?_
    simp only [run] at g
    exact g M H σ (Ext.refl _ _) hs en, fun C X W sc k s c hf hp hk h => by simp [chkB] at h⟩
  | .cnt => ⟨fun C X W sc k s c hf hp hk h => by
    unfold chkS at h
    split at h <;> first | (cases h; done) | skip
    refine PS.imp ps_continue fun Dn σ H ⟨M, env, st, hs, en, g⟩ => ?_
    simp only [run] at g
    exact g M H σ (Ext.refl _ _) hs en, fun C X W sc k s c hf hp hk h => by simp [chkB] at h⟩
  | .app x e => ⟨fun C X W sc k s c hf hp hk h => by
    unfold chkS at h
    split at h <;> first | (cases h; done) | skip
    rename_i o m ap a p pp
    simp only [Bool.and_eq_true, decide_eq_true_eq] at h
    obtain ⟨⟨⟨⟨rfl, hl⟩, hat⟩, hx⟩, he⟩ := h
    have hh := chk_head he
    refine PS.imp (ps_expr (pe_bm PySem.F.plainAttrs_list PySem.F.slot_list_append PySem.F.type_list_append mt_append ((snd x).1 X W sc k _ c hx) (pa_cons ((snd e).1 X W sc k _ c he) pa_nil (head_star hh _ _)) (attH_base (C := C) (w := w) (Φ := Φ) (CA := CA) hat _ _) (hfew1 hh) (by rw [hl]; exact beq_self_eq_true _) (head_star hh _ _) rfl) rfl) fun Dn σ H ⟨M, env, st, hs, en, g⟩ => ?_
    · simp only [run] at g
      refine ⟨M, env, st, hs, en, GotS.bnS g en hs.noTup fun d s1 M1 H1 v e1 hs1 r1 g1 => ?_⟩
      have en1 := en.ext e1 hs.noTup
      cases d <;> first | exact g1.elim | skip
      rename_i l
      obtain ⟨q, rfl, hq⟩ := r1
      cases hz1 : s1[l]? with
      | none => simp only [hz1] at g1; exact g1.elim
      | some c1 =>
      cases c1 with
      | dct _ => simp only [hz1] at g1; exact g1.elim
      | ins _ _ => simp only [hz1] at g1; exact g1.elim
      | lst xs =>
      simp only [hz1] at g1
      obtain ⟨ws, hx2, hx3⟩ := hs1.lst hq hz1
      refine ⟨.inl ⟨rfl, ws, .inl (.inl hx2)⟩, M1, env, s1, hs1, en1, GotS.bnS g1 en1 hs1.noTup fun d2 s2 M2 H2 v2 e2 hs2 r2 g2 => ?_⟩
      have en2 := en1.ext e2 hs1.noTup
      have hq2 := e2.toExtW.get hq
      cases hy1 : s2[l]? with
      | none => simp only [hy1] at g2; exact g2.elim
      | some c2 =>
      cases c2 with
      | dct _ => simp only [hy1] at g2; exact g2.elim
      | ins _ _ => simp only [hy1] at g2; exact g2.elim
      | lst ys =>
      simp only [hy1] at g2
      obtain ⟨us, hy2, hy3⟩ := hs2.lst hq2 hy1
      by_cases hlen : ys.length ≤ 1000000
      · rw [if_pos hlen] at g2
        have : 1000000 < sizeLine := by rw [sizeLine_eq]; decide
        refine ⟨q, us, v2, rfl, rfl, hy2, by rw [← hy3.length]; omega, ?_⟩
        obtain ⟨hs3, e3⟩ := hs2.cellSet hq2 (hy3.append (reps_one r2))
        exact g2 M2 _ σ e3 hs3 (en2.ext e3 hs2.noTup)
      · rw [if_neg hlen] at g2; exact g2.elim, fun C X W sc k s c hf hp hk h => by simp [chkB] at h⟩
  | .sti x i e => ⟨fun C X W sc k s c hf hp hk h => by
    unfold chkS at h
    split at h <;> first | (cases h; done) | skip
    rename_i o j sp v p
    simp only [Bool.and_eq_true] at h
    obtain ⟨⟨⟨hn, hx⟩, hi⟩, he⟩ := h
    refine PS.imp (ps_asg ((snd e).1 X W sc k _ c he) (pg_sub ((snd x).1 X W sc k _ c hx) ((snd i).1 X W sc k _ c hi) set_list (fun u => ?_)) ?_ ?_ rfl) fun Dn σ H ⟨M, env, st, hs, en, g⟩ => ?_
    · have := chk_head hi
      cases j <;> first | (cases this; done) | rfl
    · show swapsWith v (some (.Subscript o j sp)) p.line X.env = pure false
      exact head_sw (chk_head he) (chk_noLc he hn) _ _ _
    · cases v <;> rfl
    · simp only [run] at g
      refine ⟨M, env, st, hs, en, GotS.bnS g en hs.noTup fun d s1 M1 H1 v1 e1 hs1 r1 g1 => ?_⟩
      have en1 := en.ext e1 hs.noTup
      refine ⟨M1, env, s1, hs1, en1, GotS.bnS g1 en1 hs1.noTup fun d2 s2 M2 H2 v2 e2 hs2 r2 g2 => ?_⟩
      have en2 := en1.ext e2 hs1.noTup
      refine ⟨M2, env, s2, hs2, en2, GotS.bnS g2 en2 hs2.noTup fun d3 s3 M3 H3 v3 e3 hs3 r3 g3 => ?_⟩
      have en3 := en2.ext e3 hs2.noTup
      cases d2 <;> cases d3 <;> first | exact g3.elim | skip
      rename_i l jj
      obtain ⟨q, rfl, hq⟩ := r2
      cases r3
      have hq3 := e3.toExtW.get hq
      cases hy1 : s3[l]? with
      | none => simp only [hy1] at g3; exact g3.elim
      | some c2 =>
      cases c2 with
      | dct _ => simp only [hy1] at g3; exact g3.elim
      | ins _ _ => simp only [hy1] at g3; exact g3.elim
      | lst ys =>
      simp only [hy1] at g3
      obtain ⟨us, hy2, hy3⟩ := hs3.lst hq3 hy1
      cases hix : ixN ys.length jj with
      | none => simp only [hix] at g3; exact g3.elim
      | some n =>
        simp only [hix] at g3
        obtain ⟨hs4, e4⟩ := hs3.cellSet hq3 (hy3.set n ((r1.ext e2 hs1.noTup).ext e3 hs2.noTup))
        exact ⟨q, us, jj, n, rfl, rfl, hy2, by rw [← hy3.length, ← ixN_eq]; exact hix, g3 M3 _ σ e4 hs4 (en3.ext e4 hs3.noTup)⟩, fun C X W sc k s c hf hp hk h => by simp [chkB] at h⟩
  | .rse n as => by
    match as with
    | .nil => exact ⟨fun C X W sc k s c hf hp hk h => by
        unfold chkS at h
        split at h <;> first | (cases h; done) | contradiction | skip
        simp only [Bool.and_eq_true, decide_eq_true_eq, Bool.not_eq_true'] at h
        obtain ⟨⟨⟨⟨hhot, hc⟩, hg⟩, hn⟩, hpl⟩ := h
        obtain ⟨Cc, h1, h2, h3, h4, h5⟩ := c.cl n _ hc
        have h5 := h5 hpl
        refine PS.imp (ps_raiseB (c.xk.calm hhot) c.tk PySem.F.excBase_ValueError h5 h2 h3 h4 (c.gl' hg) (okName_d hn)) fun Dn σ H ⟨M, env, st, hs, en, g⟩ => ?_
        simp only [run] at g
        exact g M H _ none σ (Ext.refl _ _) hs ⟨Cc, [], h1, rfl, .inl ⟨rfl, rfl⟩, rfl⟩ en, fun C X W sc k s c hf hp hk h => by simp [chkB] at h⟩
    | .cons a .nil =>
      exact ⟨fun C X W sc k s c hf hp hk h => by
        have ha : SE C w Φ CA a := (snd a).1
        unfold chkS at h
        split at h <;> first | (cases h; done) | contradiction | skip
        rename_i aa hq
        cases hq
        simp only [Bool.and_eq_true, decide_eq_true_eq, Bool.not_eq_true'] at h
        obtain ⟨⟨⟨⟨⟨⟨hhot, hnn⟩, hc⟩, hg⟩, hn⟩, hpl⟩, hx⟩ := h
        have tk : L2.Takes X W := by
          have := c.tk
          rw [hnn] at this
          exact this
        obtain ⟨Cc, h1, h2, h3, h4, h5⟩ := c.cl n _ hc
        obtain ⟨Cf, fI, fd, f1, f2, f3, f4, f5, f6, f7⟩ := c.fl n hpl
        rw [h1] at f1
        cases f1
        have hh := chk_head hx
        refine PS.imp (ps_raise (c.xk.calm hhot) tk (pmk_fld f2 f3 f4 f5 (f7 0) ((c.xk.cold hhot).mono (by omega)) f6 (passes_call tk fun _ _ _ _ z => z.elim) (c.gl' hg) h2 (pa_cons (ha X W sc k _ c hx) pa_nil (head_star hh _ _)) (okName_d hn) (head_star hh _ _))) fun Dn σ H ⟨M, env, st, hs, en, g⟩ => ?_
        simp only [run] at g
        refine ⟨M, env, st, hs, en, GotS.bnS g en hs.noTup fun d s1 M1 H1 v e1 hs1 r1 g1 => ?_⟩
        refine ⟨v, rfl, fun dd hdd => ?_⟩
        have ex2 : Ext M1 H1 M1 (upd H1 dd (.xd [(fldS (fldOf n), v)])) := Ext.new hs1 hdd
        exact g1 M1 _ _ (some dd) σ ex2 (hs1.ext_new hdd) ⟨Cc, [v], h1, rfl, .inr ⟨dd, v, rfl, rfl, upd_same⟩, v, [], rfl, r1.ext ex2 hs1.noTup, rfl⟩ ((en.ext e1 hs.noTup).ext ex2 hs1.noTup), fun C X W sc k s c hf hp hk h => by simp [chkB] at h⟩
    | .cons a (.cons b r) => exact ⟨fun C X W sc k s c hf hp hk h => by
        unfold chkS at h
        split at h <;> first | (cases h; done) | contradiction | (rename_i aa hq; cases hq; done), fun C X W sc k s c hf hp hk h => by simp [chkB] at h⟩
  | .tryk b n i j => by
    have hb := (sndS b).2
    exact ⟨fun C X W sc k s c hf hp hk h => by
    unfold chkS at h
    split at h <;> first | (cases h; done) | skip
    rename_i body x np nm y yp n2 vp ap pos' pos
    simp only [Bool.and_eq_true, decide_eq_true_eq, Bool.not_eq_true'] at h
    obtain ⟨⟨⟨⟨⟨⟨⟨⟨⟨⟨⟨hhot, hnn⟩, h1⟩, h2⟩, h3⟩, h4⟩, rfl⟩, h6⟩, h7⟩, h8⟩, h9⟩, h10⟩ := h
    have tk : L2.Takes X W := by
      have := c.tk
      rw [hnn] at this
      exact this
    obtain ⟨Cc, q1, q2, q3, q4, q5⟩ := c.cl n _ h1
    have q1' := q1
    rw [c.ca] at q1'
    have lcl : ∀ {z : Str}, lclB sc z = true → X.env.kindOf z = some .local := fun {z} hz => by
      show X.env.scope.names.lookup z = _
      rw [c.sc]
      unfold lclB at hz
      split at hz <;> first | assumption | cases hz
    refine PS.imp (ps_try_keep (tb := fun W' => tS w Φ CA X.K W' b) (hp.1 hhot).2.1 (hp.1 hhot).2.2.1 (hp.1 hhot).2.2.2 (by rw [c.hN]; exact c.nd) (by rw [c.hN]; exact h4) (lcl h7) (by rw [c.hN]; exact h8) (lcl h9) ⟨c.gl' h2, okName_d h3, .inl q2⟩ tk (okName_d h6) (okName_c h6) (fun W' pn xe tk' hpo => ?_)) fun Dn σ H ⟨M, env, st, hs, en, g⟩ => ?_
    · exact hb { C with at0 := false } (X.tr pn xe) W' sc k body ⟨⟨c.xk.calm, c.xk.cold, c.xk.room, c.xk.seer, c.xk.tree, c.xk.stk⟩, c.hN, c.nd, c.sc, (by show TK C.nn _ _; rw [hnn]; exact tk'), (fun z => by have z : C.hot = true := z; rw [hhot] at z; cases z), c.fn, c.fnN, c.fnH, c.fo, c.mt, c.mkk, c.ib, c.isn, c.oc, c.fnd, c.bl, c.gl, c.ca, c.xs, c.cl, c.fl⟩ hf ⟨fun _ => ⟨hpo, (hp.1 hhot).2⟩, fun z => by cases z⟩ hk h10
    · refine ⟨M, env, st, hs, en, ?_⟩
      simp only [run] at g
      cases hr : run w Φ b env st with
      | none => rw [hr] at g; exact g.elim
      | some z =>
        rw [hr] at g
        obtain ⟨fl, s1⟩ := z
        cases fl with
        | nx e => exact g
        | rt d => exact g
        | bk e => exact g
        | ct e => exact g
        | xc x e =>
          cases x with
          | exc cx vs =>
            intro M' H' cls od σ' ex hs' xr en'
            obtain ⟨Cx, us, r1, rfl, r2, r3⟩ := xr
            have r1' := r1
            rw [c.ca] at r1'
            simp only at g
            cases hsb : w.sub cx n with
            | none => rw [hsb] at g; exact g.elim
            | some bb =>
              rw [hsb] at g
              obtain ⟨m1, m2⟩ := c.xs.em cx n bb Cx Cc hsb r1' q1'
              refine ⟨bb, m1, fun hbb a na => ?_, fun hbb => ?_⟩
              · subst hbb
                simp only at g
                have ex2 : Ext M' H' M' (upd H' a (ExT (.ref Cx) od a)) := Ext.new hs' na
                have hs2 : StoOk X.K M' (upd H' a (ExT (.ref Cx) od a)) s1 := hs'.ext_new na
                have rx : Rep X.K M' (upd H' a (ExT (.ref Cx) od a)) (.exc cx vs) (.ref a) := ⟨a, Cx, od, us, rfl, r1', upd_same, ExF.extW ex2.toExtW hs'.noTup r2, Reps.extW ex2.toExtW hs'.noTup r3⟩
                refine g M' _ _ (ex.trans ex2) hs2 ?_
                have e1 := (en'.ext ex2 hs'.noTup)
                have e2 := EnvOk.set e1 i rx
                have e3 := EnvOk.set e2 j rx
                exact EnvOk.wipe e3 [i]
              · subst hbb
                simp only at g
                exact g M' H' _ _ σ' ex hs' ⟨Cx, us, r1, rfl, r2, r3⟩ en'
          | _ => exact fun M' H' cls od σ' ex hs' xr en' => xr.elim, fun C X W sc k s c hf hp hk h => by simp [chkB] at h⟩
  | .trya b n i j f => by
    have hb := (sndS b).2
    exact ⟨fun C X W sc k s c hf hp hk h => by
    unfold chkS at h
    split at h <;> first | (cases h; done) | skip
    rename_i body x np nm y yp n2 vp fs fp ap pos' pos
    simp only [Bool.and_eq_true, decide_eq_true_eq, Bool.not_eq_true'] at h
    obtain ⟨⟨⟨⟨⟨⟨⟨⟨⟨⟨⟨⟨hhot, hnn⟩, h1⟩, h2⟩, h3⟩, h4⟩, rfl⟩, h6⟩, h7⟩, h8⟩, h9⟩, hfs⟩, h10⟩ := h
    have tk : L2.Takes X W := by
      have := c.tk
      rw [hnn] at this
      exact this
    subst hfs
    obtain ⟨Cc, q1, q2, q3, q4, q5⟩ := c.cl n _ h1
    have q1' := q1
    rw [c.ca] at q1'
    have lcl : ∀ {z : Str}, lclB sc z = true → X.env.kindOf z = some .local := fun {z} hz => by
      show X.env.scope.names.lookup z = _
      rw [c.sc]
      unfold lclB at hz
      split at hz <;> first | assumption | cases hz
    refine PS.imp (ps_try_keepF (tb := fun W' => tS w Φ CA X.K W' b) (hp.1 hhot).2.1 (hp.1 hhot).2.2.1 (hp.1 hhot).2.2.2 (by rw [c.hN]; exact c.nd) (by rw [c.hN]; exact h4) (lcl h7) (by rw [c.hN]; exact h8) (lcl h9) ⟨c.gl' h2, okName_d h3, .inl q2⟩ tk (okName_d h6) (okName_c h6) (fun W' pn xe tk' hpo => ?_)) fun Dn σ H ⟨M, env, st, hs, en, g⟩ => ?_
    · exact hb { C with at0 := false } (X.tr pn xe) W' sc k body ⟨⟨c.xk.calm, c.xk.cold, c.xk.room, c.xk.seer, c.xk.tree, c.xk.stk⟩, c.hN, c.nd, c.sc, (by show TK C.nn _ _; rw [hnn]; exact tk'), (fun z => by have z : C.hot = true := z; rw [hhot] at z; cases z), c.fn, c.fnN, c.fnH, c.fo, c.mt, c.mkk, c.ib, c.isn, c.oc, c.fnd, c.bl, c.gl, c.ca, c.xs, c.cl, c.fl⟩ hf ⟨fun _ => ⟨hpo, (hp.1 hhot).2⟩, fun z => by cases z⟩ hk h10
    · refine ⟨M, env, st, hs, en, ?_⟩
      simp only [run] at g
      cases hr : run w Φ b env st with
      | none => rw [hr] at g; exact g.elim
      | some z =>
        rw [hr] at g
        obtain ⟨fl, s1⟩ := z
        cases fl with
        | nx e => exact g
        | rt d => exact g
        | bk e => exact g
        | ct e => exact g
        | xc x e =>
          cases x with
          | exc cx vs =>
            intro M' H' cls od σ' ex hs' xr en'
            obtain ⟨Cx, us, r1, rfl, r2, r3⟩ := xr
            have r1' := r1
            rw [c.ca] at r1'
            simp only at g
            cases hsb : w.sub cx n with
            | none => rw [hsb] at g; exact g.elim
            | some bb =>
              rw [hsb] at g
              obtain ⟨m1, m2⟩ := c.xs.em cx n bb Cx Cc hsb r1' q1'
              refine ⟨bb, m1, fun hbb => ?_, fun hbb => ?_⟩
              · subst hbb
                simp only at g
                cases vs with
                | nil => exact g.elim
                | cons dd r =>
                  cases r with
                  | cons _ _ => exact g.elim
                  | nil =>
                    simp only at g
                    by_cases hfw : fldOf cx = f ∧ (w.sub cx cx).isSome = true
                    case neg => rw [if_neg hfw] at g; exact g.elim
                    · rw [if_pos hfw] at g
                      obtain ⟨hff, hsome⟩ := hfw
                      obtain ⟨bb2, hb2⟩ := Option.isSome_iff_exists.mp hsome
                      obtain ⟨u, rr, rfl, q5, q6⟩ := r3
                      cases q6
                      rcases r2 with ⟨q3, _⟩ | ⟨dx, u', q3, rfl, q7⟩
                      · cases q3
                      · cases q3
                        rw [← hff]
                        exact ⟨Cx, dx, u, rfl, rfl, q7, c.xs.exc _ _ _ _ hb2 r1', c.xs.nf _ _ _ hb2 r1', fun a na => g M' _ _ ex hs' (en'.over q5 i j _ _)⟩
              · subst hbb
                simp only at g
                exact g M' H' _ _ σ' ex hs' ⟨Cx, us, r1, rfl, r2, r3⟩ en'
          | _ => exact fun M' H' cls od σ' ex hs' xr en' => xr.elim, fun C X W sc k s c hf hp hk h => by simp [chkB] at h⟩
  | .fst f x e => ⟨fun C X W sc k s c hf hp hk h => by
    unfold chkS at h
    split at h <;> first | (cases h; done) | skip
    rename_i o y ap v p
    simp only [Bool.and_eq_true, decide_eq_true_eq] at h
    obtain ⟨⟨⟨hfn, hn⟩, hx⟩, he⟩ := h
    refine PS.imp (ps_fld ((snd x).1 X W sc k _ c hx) ((snd e).1 X W sc k _ c he) (head_sw (chk_head he) (chk_noLc he hn) _ _ _)) fun Dn σ H ⟨M, env, st, hs, en, g⟩ => ?_
    simp only [run] at g
    refine ⟨M, env, st, hs, en, GotS.bnS g en hs.noTup fun d s1 M1 H1 v1 e1 hs1 r1 g1 => ?_⟩
    have en1 := en.ext e1 hs.noTup
    refine ⟨M1, env, s1, hs1, en1, GotS.bnS g1 en1 hs1.noTup fun d2 s2 M2 H2 v2 e2 hs2 r2 g2 => ?_⟩
    have en2 := en1.ext e2 hs1.noTup
    cases d2 <;> first | exact g2.elim | skip
    rename_i l
    obtain ⟨q, rfl, hq⟩ := r2
    cases hz : s2[l]? with
    | none => simp only [hz] at g2; exact g2.elim
    | some cc =>
    cases cc with
    | dct _ => simp only [hz] at g2; exact g2.elim
    | lst _ => simp only [hz] at g2; exact g2.elim
    | ins cn fs =>
    simp only [hz] at g2
    by_cases hok : w.fok cn f = true ∧ fs.length < 900
    case neg => rw [if_neg hok] at g2; exact g2.elim
    rw [if_pos hok] at g2
    obtain ⟨C1, dx, gs, k1, k2, k3, k4⟩ := hs2.cell _ _ _ hq hz
    obtain ⟨C2, x2, q1, q2, q3, q4⟩ := c.fo _ _ hok.1
    rw [c.ca, k2] at q1
    cases q1
    rw [hfn] at q2
    cases q2
    refine ⟨q, C1, dx, gs, rfl, k1, q3, q4, by rw [k4.length]; omega, ?_⟩
    obtain ⟨hs3, e3⟩ := hs2.cellSetG (o := .ins C1 dx (putF y v1 gs)) (c := .ins cn (fput f d fs)) hq fun ex => ⟨C1, dx, _, upd_same, k2, (ex.toExtW.keep _ _ k3 (hs2.noTup.no k3 id)).1, Flds.put (Flds.extW ex.toExtW hs2.noTup k4) hfn (Rep.ext (r1.ext e2 hs1.noTup) ex hs2.noTup)⟩
    exact g2 M2 _ σ e3 hs3 (en2.ext e3 hs2.noTup), fun C X W sc k s c hf hp hk h => by simp [chkB] at h⟩
  | .dst x i e => ⟨fun C X W sc k s c hf hp hk h => by
    unfold chkS at h
    split at h <;> first | (cases h; done) | skip
    rename_i o j sp v p
    simp only [Bool.and_eq_true] at h
    obtain ⟨⟨⟨hn, hx⟩, hi⟩, he⟩ := h
    have hu : X.A.units + 1 < cLine := by have := c.xk.room.un; omega
    refine PS.imp (ps_dput hu ((snd x).1 X W sc k _ c hx) ((snd i).1 X W sc k _ c hi) ((snd e).1 X W sc k _ c he) (head_sw (chk_head he) (chk_noLc he hn) _ _ _)) fun Dn σ H ⟨M, env, st, hs, en, g⟩ => ?_
    simp only [run] at g
    refine ⟨M, env, st, hs, en, GotS.bnS g en hs.noTup fun d s1 M1 H1 v1 e1 hs1 r1 g1 => ?_⟩
    have en1 := en.ext e1 hs.noTup
    refine ⟨M1, env, s1, hs1, en1, GotS.bnS g1 en1 hs1.noTup fun d2 s2 M2 H2 v2 e2 hs2 r2 g2 => ?_⟩
    have en2 := en1.ext e2 hs1.noTup
    refine ⟨M2, env, s2, hs2, en2, GotS.bnS g2 en2 hs2.noTup fun d3 s3 M3 H3 v3 e3 hs3 r3 g3 => ?_⟩
    have en3 := en2.ext e3 hs2.noTup
    cases d2 <;> cases d3 <;> first | exact g3.elim | skip
    rename_i l kk
    obtain ⟨q, rfl, hq⟩ := r2
    obtain rfl : v3 = .str (strV kk) := r3
    have hq3 := e3.toExtW.get hq
    cases hy1 : s3[l]? with
    | none => simp only [hy1] at g3; exact g3.elim
    | some c2 =>
    cases c2 with
    | lst _ => simp only [hy1] at g3; exact g3.elim
    | ins _ _ => simp only [hy1] at g3; exact g3.elim
    | dct kvs =>
    simp only [hy1] at g3
    by_cases hlen : kvs.length < 1000000
    case neg => rw [if_neg hlen] at g3; exact g3.elim
    rw [if_pos hlen] at g3
    obtain ⟨gs, k1, k2⟩ := hs3.cell _ _ _ hq3 hy1
    have := big_line
    have rv := (r1.ext e2 hs1.noTup).ext e3 hs2.noTup
    obtain ⟨hs4, e4⟩ := hs3.cellSetG (o := .dK (putK gs (.inr (strV kk)) v1)) (c := .dct (dput kvs kk d)) hq3 fun ex => ⟨_, upd_same, Dcts.put kk (Dcts.extW ex.toExtW hs3.noTup k2) (Rep.ext rv ex hs3.noTup)⟩
    exact ⟨q, _, rfl, .inl ⟨gs, .inr (strV kk), k1, rfl, by rw [k2.length]; omega, rfl⟩, g3 M3 _ σ e4 hs4 (en3.ext e4 hs3.noTup)⟩, fun C X W sc k s c hf hp hk h => by simp [chkB] at h⟩
  | .trym b hs0 => by
    have hb := (sndS b).2
    have hh := sndH hs0
    exact ⟨fun C X W sc k s c hf hp hk h => by
    unfold chkS at h
    split at h <;> first | (cases h; done) | skip
    rename_i body h0 hds pos
    simp only [Bool.and_eq_true, Bool.not_eq_true'] at h
    obtain ⟨⟨⟨hhot, hnn⟩, h10⟩, h11⟩ := h
    have tk : L2.Takes X W := by
      have := c.tk
      rw [hnn] at this
      exact this
    obtain ⟨l, hl, hw⟩ := hh C X W sc k _ c hf hnn hk h11
    refine PS.imp (ps_tryG (tb := fun W' => tS w Φ CA X.K W' b) (hp.1 hhot).2.1 (hp.1 hhot).2.2.1 (hp.1 hhot).2.2.2 (by rw [c.hN]; exact c.nd) tk (fun W' pn xe tk' hpo => ?_) hl) fun Dn σ H ⟨M, env, st, hs, en, g⟩ => ?_
    · exact hb { C with at0 := false } (X.tr pn xe) W' sc k body ⟨⟨c.xk.calm, c.xk.cold, c.xk.room, c.xk.seer, c.xk.tree, c.xk.stk⟩, c.hN, c.nd, c.sc, (by show TK C.nn _ _; rw [hnn]; exact tk'), (fun z => by have z : C.hot = true := z; rw [hhot] at z; cases z), c.fn, c.fnN, c.fnH, c.fo, c.mt, c.mkk, c.ib, c.isn, c.oc, c.fnd, c.bl, c.gl, c.ca, c.xs, c.cl, c.fl⟩ hf ⟨fun _ => ⟨hpo, (hp.1 hhot).2⟩, fun z => by cases z⟩ hk h10
    · refine ⟨M, env, st, hs, en, ?_⟩
      simp only [run] at g
      cases hr : run w Φ b env st with
      | none => rw [hr] at g; exact g.elim
      | some z =>
        rw [hr] at g
        obtain ⟨fl, s1⟩ := z
        cases fl with
        | nx e => exact g
        | rt d => exact g
        | bk e => exact g
        | ct e => exact g
        | xc x e =>
          cases x with
          | exc cx vs => exact fun M' H' cls od σ' ex hs' xr en' => hw Dn M' H' cls od σ' e s1 cx vs hs' xr en' (GotS.ext g ex)
          | _ => exact fun M' H' cls od σ' ex hs' xr en' => xr.elim, fun C X W sc k s c hf hp hk h => by simp [chkB] at h⟩
  | .tryr b n n2 => by
    have hb := (sndS b).2
    exact ⟨fun C X W sc k s c hf hp hk h => by
    unfold chkS at h
    split at h <;> first | (cases h; done) | skip
    rename_i body x np y yp tx tk0 tp rp np2 rk rp2 ep pos
    simp only [Bool.and_eq_true, decide_eq_true_eq, Bool.not_eq_true'] at h
    obtain ⟨⟨⟨⟨⟨⟨⟨⟨⟨⟨hhot, hnn⟩, hat0⟩, h1⟩, h2⟩, h3⟩, h4⟩, h5⟩, h6⟩, h7⟩, h10⟩ := h
    have tk : L2.Takes X W := by
      have := c.tk
      rw [hnn] at this
      exact this
    obtain ⟨Cc, q1, q2, q3, q4, q5⟩ := c.cl n _ h1
    obtain ⟨C2, z1, z2, z3, z4, z5⟩ := c.cl n2 _ h4
    have q1' := q1
    rw [c.ca] at q1'
    refine PS.imp (L2H.ps_try_onlyX (tb := fun W' => tS w Φ CA X.K W' b) (ts := fun _ _ _ _ σ H => W (.ref C2) none σ H) (hp.1 hhot).2.1 (hp.1 hhot).2.2.1 ⟨c.gl' h2, okName_d h3, .inl q2⟩ (hp.2 hat0) tk (fun W' pn xe tk' _ hpo => ?_) (fun a oe cls d pn hz hd tkS hot => ?_)) fun Dn σ H ⟨M, env, st, hs, en, g⟩ => ?_
    · exact hb { C with at0 := false, nn := true, fns := C.nf } (X.tr pn xe) W' sc k body ⟨⟨c.xk.calm, c.xk.cold, c.xk.room, c.xk.seer, c.xk.tree, c.xk.stk⟩, c.hN, c.nd, c.sc, tk', (fun z => by have z : C.hot = true := z; rw [hhot] at z; cases z), fun _ => c.fnN, c.fnN, c.fnH, c.fo, (fun _ z => by cases z), (fun _ z => by cases z), (fun _ z => by cases z), c.isn, c.oc, (fun _ z => by cases z), c.bl, c.gl, c.ca, c.xs, c.cl, c.fl⟩ hf ⟨fun _ => ⟨hpo, (hp.1 hhot).2⟩, fun z => by cases z⟩ hk h10
    · exact pss_one (L2H.ps_raiseHN hot tkS (pmk_own5 PySem.F.excBase_ValueError (z5 h7) z2 z3 z4 (c.gl' h5) (okName_d h6)))
    · refine ⟨M, env, st, hs, en, ?_⟩
      simp only [run] at g
      cases hr : run w Φ b env st with
      | none => rw [hr] at g; exact g.elim
      | some z =>
        rw [hr] at g
        obtain ⟨fl, s1⟩ := z
        cases fl with
        | nx e => exact g
        | rt d => exact g
        | bk e => exact g
        | ct e => exact g
        | xc x e =>
          cases x with
          | exc cx vs =>
            intro M' H' cls od σ' ex hs' xr en'
            obtain ⟨Cx, us, r1, rfl, r2, r3⟩ := xr
            have r1' := r1
            rw [c.ca] at r1'
            simp only at g
            cases hsb : w.sub cx n with
            | none => rw [hsb] at g; exact g.elim
            | some bb =>
              rw [hsb] at g
              obtain ⟨m1, m2⟩ := c.xs.em cx n bb Cx Cc hsb r1' q1'
              refine ⟨bb, m1, fun hbb a na => ?_, fun hbb => ?_⟩
              · subst hbb
                simp only at g
                exact g M' H' _ none σ' ex hs' ⟨C2, [], z1, rfl, .inl ⟨rfl, rfl⟩, rfl⟩ en'
              · subst hbb
                simp only at g
                exact g M' H' _ _ σ' ex hs' ⟨Cx, us, r1, rfl, r2, r3⟩ en'
          | _ => exact fun M' H' cls od σ' ex hs' xr en' => xr.elim, fun C X W sc k s c hf hp hk h => by simp [chkB] at h⟩
  | .nope => ⟨fun C X W sc k s c hf hp hk h => ⟨fun pins s σ H D I ⟨M, env, st, hs, en, g⟩ => by
    simp only [run] at g
    exact g.elim⟩, fun C X W sc k s c hf hp hk h => by simp [chkB] at h⟩
theorem sndH : ∀ hs : Hds, SHd w Φ CA hs
  | .nil => fun C X W sc k hds c hf hnn hk h => by
    cases hds with
    | cons _ _ => simp [chkH] at h
    | nil =>
      refine ⟨[], .nil, fun Dn M H cls od σ env st x vs hs xr en g => ?_⟩
      simp only [runH] at g
      exact g M H cls od σ (Ext.refl _ _) hs xr en
  | .cons n i b r => by
    have hb := (sndS b).2
    have hr := sndH r
    intro C X W sc k hds c hf hnn hk h
    cases hds with
    | nil => simp [chkH] at h
    | cons h0 hds =>
      unfold chkH at h
      split at h <;> first | (cases h; done) | skip
      rename_i x np on s0 ss ep hds' heq
      cases heq
      simp only [Bool.and_eq_true, decide_eq_true_eq] at h
      obtain ⟨⟨⟨⟨⟨h1, h2⟩, h3⟩, h4⟩, h5⟩, h6⟩ := h
      obtain ⟨Cc, q1, q2, q3, q4, q5⟩ := c.cl n _ h1
      have q1' := q1
      rw [c.ca] at q1'
      obtain ⟨l, hl, hw⟩ := hr C X W sc k _ c hf hnn hk h6
      have lcl : ∀ {z : Str}, lclB sc z = true → X.env.kindOf z = some .local := fun {z} hz => by
        show X.env.scope.names.lookup z = _
        rw [c.sc]
        unfold lclB at hz
        split at hz <;> first | assumption | cases hz
      refine ⟨(.ref Cc, i, tS w Φ CA X.K (fun _ _ _ _ => False) b) :: l, .cons ⟨c.gl' h2, okName_d h3, .inl q2⟩ ?_ (fun a pn => ?_) hl, fun Dn M H cls od σ env st x vs hs xr en g => ?_⟩
      · cases on with
        | none =>
          cases i with
          | none => exact .inl ⟨rfl, rfl⟩
          | some _ => cases h4
        | some nm =>
          cases i with
          | none => cases h4
          | some j =>
            simp only [Bool.and_eq_true, decide_eq_true_eq] at h4
            exact .inr ⟨nm, j, rfl, rfl, by rw [c.hN]; exact h4.1.1, lcl h4.1.2⟩
      · exact hb { C with hot := true, at0 := false } (X.suite a pn) (fun _ _ _ _ => False) sc k _ ⟨⟨(fun z => by cases z), (fun z => by cases z), ⟨c.xk.room.dp, c.xk.room.un⟩, c.xk.seer, c.xk.tree, c.xk.stk⟩, c.hN, c.nd, c.sc, tk_none, (fun _ _ _ _ _ z => z), (fun z => by cases z), c.fnN, c.fnH, c.fo, (fun z => by cases z), (fun z => by cases z), (fun z => by cases z), c.isn, c.oc, (fun z => by cases z), c.bl, c.gl, c.ca, c.xs, c.cl, c.fl⟩ hf ⟨(fun z => by cases z), (fun z => by cases z)⟩ hk h5
      · obtain ⟨Cx, us, r1, rfl, r2, r3⟩ := xr
        have r1' := r1
        rw [c.ca] at r1'
        simp only [runH] at g
        cases hsb : w.sub x n with
        | none => rw [hsb] at g; exact g.elim
        | some bb =>
          rw [hsb] at g
          obtain ⟨m1, m2⟩ := c.xs.em x n bb Cx Cc hsb r1' q1'
          refine ⟨bb, m1, fun hbb a na => ?_, fun hbb => ?_⟩
          · subst hbb
            simp only at g
            have ex2 : Ext M H M (upd H a (ExT (.ref Cx) od a)) := Ext.new hs na
            have hs2 : StoOk X.K M (upd H a (ExT (.ref Cx) od a)) st := hs.ext_new na
            have rx : Rep X.K M (upd H a (ExT (.ref Cx) od a)) (.exc x vs) (.ref a) := ⟨a, Cx, od, us, rfl, r1', upd_same, ExF.extW ex2.toExtW hs.noTup r2, Reps.extW ex2.toExtW hs.noTup r3⟩
            refine ⟨M, beg i (.exc x vs) env, st, hs2, ?_, GotS.suE (GotS.ext g ex2)⟩
            cases i with
            | none => exact en.ext ex2 hs.noTup
            | some j => exact (en.ext ex2 hs.noTup).set j rx
          · subst hbb
            simp only at g
            exact hw Dn M H _ od σ env st x vs hs ⟨Cx, us, r1, rfl, r2, r3⟩ en g
end
end
end Dp

end
section
set_option Elab.async false
set_option linter.all false
set_option maxRecDepth 100000
set_option maxHeartbeats 8000000
/-! Sn5: defs, the law. -/
namespace Dp
open PySem PySem.Spec PyProof.Rows L2

/-- a def of the text, and its code -/
structure Df where
  x : Str
  q : Str
  st : Stmt
  N : List Str
  ps : List Str
  fn : Fn
  dfl : List Int
def scB (N ps : List Str) (sc : Scope) : Bool :=
  (match sc.kind with
    | .function => true
    | _ => false) && !sc.isCoroutine && !sc.isGenerator && decide N.Nodup && decide (N.take ps.length = ps) && ps.all (locB sc) && sc.names.all fun y => match y.2 with
      | .free => false
      | _ => true
def okB (C : Ct) (d : Df) : Bool := scB d.N d.ps (defScope d.st) && chkB { C with N := d.N } d.fn.body (defScope d.st) (defBody d.st) && decide (d.fn.ar = d.ps.length) && decide (d.fn.nm = d.N.length)
/-- the context of the defs whose errors have no context; of those that are called within suites -/
def Ct.cn (C : Ct) : Ct := { C with nn := true, fns := C.nf }
def Ct.ch (C : Ct) : Ct := { C with hot := true, at0 := false }
theorem scB_ok {N ps : List Str} {sc : Scope} (h : scB N ps sc = true) : FnScope N ps sc := by
  unfold scB at h
  simp only [Bool.and_eq_true, Bool.not_eq_true', decide_eq_true_eq, List.all_eq_true] at h
  obtain ⟨⟨⟨⟨⟨⟨h1, h2⟩, h3⟩, h4⟩, h5⟩, h6⟩, h7⟩ := h
  refine ⟨?_, h2, h3, h4, h5, fun x hx => ?_, fun y hy e => ?_⟩
  · split at h1 <;> first | assumption | cases h1
  · have := h6 x hx
    unfold locB at this
    split at this <;> first | exact .inl (by assumption) | exact .inr (by assumption) | cases this
  · have := h7 y hy
    rw [e] at this
    cases this
theorem alu_mem {α : Type} {l : List (Nat × α)} {k : Nat} {v : α} (h : l.lookup k = some v) : (k, v) ∈ l := by
  induction l with
  | nil => cases h
  | cons p r ih =>
    obtain ⟨j, u⟩ := p
    rw [List.lookup_cons] at h
    split at h
    · rename_i e
      cases h
      have : k = j := by simpa using e
      subst this
      exact List.mem_cons_self
    · exact List.mem_cons_of_mem _ (ih h)
theorem alu_map_eq {α β : Type} {g : α → β} (l : List (Nat × α)) (k : Nat) : (l.lookup k).map g = (l.map fun p => (p.1, g p.2)).lookup k := by
  induction l with
  | nil => rfl
  | cons p r ih =>
    obtain ⟨j, u⟩ := p
    rw [List.map_cons, List.lookup_cons, List.lookup_cons]
    cases h : k == j with
    | true => rfl
    | false => exact ih
/-- the table of the defs -/
def tab (Ds : List (Nat × Df)) (f : Nat) : Option Fn := (Ds.lookup f).map (·.fn)

section
variable {P : Program} {w : World} {K : PySem.W.Frag} {mg : Str → Option Value} {base : Heap} {C : Ct} {Ds : List (Nat × Df)} {wd : Wd} {CA : Nat → Option Addr}
/-- d stands at fa -/
abbrev DfAt (K : PySem.W.Frag) (d : Df) (fa : Addr) (fd : FuncData) : Prop := FunD K d.x d.q (defArgs d.st) (defBody d.st) (defScope d.st) (d.dfl.map V.int) [] fa fd
/-- what the head tells of the defs, of the built-ins, of the constants and of the classes -/
structure Hd (K : PySem.W.Frag) (mg : Str → Option Value) (C : Ct) (Ds : List (Nat × Df)) (wd : Wd) (CA : Nat → Option Addr) : Prop where
  hot : C.hot = false
  nn : C.nn = false
  at0 : C.at0 = true
  fns : ∀ (f : Nat) (x : Str), C.fns.lookup f = some x → ∃ (d : Df) (fa : Addr) (fd : FuncData), Ds.lookup f = some d ∧ okB C d = true ∧ mg x = some (.ref fa) ∧ DfAt K d fa fd ∧ Binds K fd d.ps []
  nfs : ∀ (f : Nat) (x : Str), C.nf.lookup f = some x → ∃ (d : Df) (fa : Addr) (fd : FuncData), Ds.lookup f = some d ∧ okB C.cn d = true ∧ mg x = some (.ref fa) ∧ DfAt K d fa fd ∧ Binds K fd d.ps []
  hfs : ∀ (f : Nat) (x : Str), C.hf.lookup f = some x → ∃ (d : Df) (fa : Addr) (fd : FuncData), Ds.lookup f = some d ∧ okB C.ch d = true ∧ mg x = some (.ref fa) ∧ DfAt K d fa fd ∧ Binds K fd d.ps []
  fo : ∀ (c f : Nat), wd.fok c f = true → ∃ (Cc : Addr) (x : Str), CA c = some Cc ∧ fieldN[f]? = some x ∧ Cls K Cc ∧ NoAttr K Cc x
  mt : ∀ (c m g : Nat), wd.mth c m = some g → ∃ (Cc fa : Addr) (fd : FuncData) (d : Df) (x : Str), CA c = some Cc ∧ methN[m]? = some x ∧ Cls K Cc ∧ Meth K Cc x fa ∧ Ds.lookup g = some d ∧ okB C d = true ∧ DfAt K d fa fd ∧ Binds K fd d.ps []
  mkk : ∀ (c g : Nat) (x : Str), wd.ini c = some g → C.ocl.lookup c = some x → ∃ (Cc fa : Addr) (fd : FuncData) (d : Df), CA c = some Cc ∧ mg x = some (.ref Cc) ∧ Mk K Cc fa ∧ Ds.lookup g = some d ∧ okB C d = true ∧ DfAt K d fa fd ∧ Binds K fd d.ps []
  ib : ∀ (c g : Nat) (x : Str), wd.ini c = some g → C.ib.contains c = true → C.ocl.lookup c = some x → ∃ (Cc fa : Addr) (fd : FuncData) (d : Df), CA c = some Cc ∧ mg x = some (.ref Cc) ∧ CFun K Cc "__init__" fa ∧ Ds.lookup g = some d ∧ okB C d = true ∧ DfAt K d fa fd ∧ Binds K fd d.ps []
  isn : ∀ (c c' : Nat) (b : Bool) (Cc Dc : Addr), wd.isn c c' = some b → CA c = some Cc → CA c' = some Dc → InsT K Cc ∧ PySem.W.kitOne K (.ref Cc) (.ref Dc) = some b
  oc : ∀ (c : Nat) (x : Str), C.ocl.lookup c = some x → ∃ Dc, CA c = some Dc ∧ mg x = some (.ref Dc)
  bl : ∀ x ∈ bltNames, mg x = none
  gl : ∀ (g : Nat) (x : Str) (d : D), C.gls.lookup g = some x → wd.glb g = some d → ∃ (v : V) (u : Value), mg x = some u ∧ RelV v u ∧ (∀ M H, Rep K M H d v) ∧ (∀ ds, d = .tup ds → ∃ (p : Addr) (o : Obj), v = .ref p ∧ K.lookup p = some o ∧ o.cls = .type "tuple" ∧ o.dict = none)
  ca : CA = caOf K
  xs : Xcs K wd
  cl : ∀ (c : Nat) (x : Str), C.cls.lookup c = some x → ∃ Cc, CA c = some Cc ∧ mg x = some (.ref Cc) ∧ PySem.W.keepIn K (.ref Cc) = true ∧ PySem.W.subIn K (.ref Cc) (.type "BaseException") = some true ∧ PySem.W.typeIn K (.ref Cc) = some (.type "type") ∧
    (C.pl.contains c = true → PySem.W.excIn K Cc [.type "ValueError", .type "Exception", .type "BaseException", .type "object"] "ValueError.__new__" = true)
  fl : ∀ (c : Nat), C.fl.contains c = true → ∃ (Cc fI : Addr) (fd : FuncData), CA c = some Cc ∧ OexC K Cc ∧ PySem.W.findIn K (.ref Cc) (fldS (fldOf c)) = some none ∧ PySem.W.findIn K (.ref Cc) "__init__" = some (some (.ref fI)) ∧ PySem.W.typeIn K (.ref fI) = some (.type "function") ∧
    Binds K fd ["self", fldS (fldOf c)] [] ∧ ∀ (P : Program) (w : World) (base : Heap) (k : Nat), FnOk P w K mg base (L2.CX P w) (k + 1) fI fd ["self", fldS (fldOf c)] (spI K (fldS (fldOf c)))
  dfd : ∀ (f : Nat) (i : Int), C.df.lookup f = some i → ∃ d : Df, Ds.lookup f = some d ∧ ∀ (fa : Addr) (fd : FuncData), DfAt K d fa fd → ∃ dvs, Vals [V.int i] dvs ∧ Binds K fd d.ps dvs
theorem start_ok {M : Ms} {H : Hp} {ds : List D} {vs : List V} {N : List Str} {ar : Nat} (r : Reps K M H ds vs) (hl : ds.length = ar) : EnvOk K M H (ds.map some ++ List.replicate (N.length - ar) none) (L2.start N vs) := by
  have hv := r.length
  refine ⟨by unfold L2.start; simp only [List.length_append, List.length_map, List.length_replicate]; omega, fun i d h => ?_⟩
  by_cases hi : i < ds.length
  · rw [List.getElem?_append_left (by simpa using hi), List.getElem?_map] at h
    cases e : ds[i]? with
    | none => rw [e] at h; cases h
    | some d' =>
      rw [e] at h
      cases h
      obtain ⟨v, h1, h2⟩ := r.get e
      refine ⟨v, ?_, h2⟩
      unfold L2.start
      rw [List.getElem?_append_left (by simp; omega), List.getElem?_map, h1]
      rfl
  · rw [List.getElem?_append_right (by simp; omega), List.getElem?_replicate] at h
    split at h <;> cases h
/-- what a level promises -/
def Lev (P : Program) (w : World) (K : PySem.W.Frag) (mg : Str → Option Value) (base : Heap) (Ds : List (Nat × Df)) (wd : Wd) (CA : Nat → Option Addr) (C : Ct) (k : Nat) : Prop := ∀ (f : Nat) (d : Df) (fa : Addr) (fd : FuncData), Ds.lookup f = some d → okB C d = true → DfAt K d fa fd → Binds K fd d.ps [] →
  FnC P w K mg base (CXb C.nn P w) CA k fa fd d.ps (den wd (tab Ds) k f)
def LevQ (P : Program) (w : World) (K : PySem.W.Frag) (mg : Str → Option Value) (base : Heap) (Ds : List (Nat × Df)) (wd : Wd) (CA : Nat → Option Addr) (C : Ct) (k : Nat) : Prop := ∀ (f : Nat) (d : Df) (fa : Addr) (fd : FuncData), Ds.lookup f = some d → okB C d = true → DfAt K d fa fd →
  FnQ P w K mg base (2 * k + 40) fa fd d.ps (spOf K CA (den wd (tab Ds) k f) d.ps.length) ∧ ∀ xs st, den wd (tab Ds) k f xs st ≠ none → xs.length = d.ps.length
theorem den_len {C : Ct} {k f : Nat} {d : Df} (hd : Ds.lookup f = some d) (hok : okB C d = true) : ∀ xs st, den wd (tab Ds) k f xs st ≠ none → xs.length = d.ps.length := by
  intro xs st n
  unfold okB at hok
  simp only [Bool.and_eq_true, decide_eq_true_eq] at hok
  obtain ⟨⟨⟨hsc, hck⟩, har⟩, hnm⟩ := hok
  have eT : tab Ds f = some d.fn := by unfold tab; rw [hd]; rfl
  cases k with
  | zero => exact absurd rfl n
  | succ k =>
    have eD : den wd (tab Ds) (k + 1) f xs st = apply wd (den wd (tab Ds) k) d.fn xs st := by
      show (match tab Ds f with
        | none => none
        | some fn => apply wd (den wd (tab Ds) k) fn xs st) = _
      rw [eT]
    rw [eD] at n
    unfold apply at n
    by_cases hx : xs.length = d.fn.ar
    · rw [hx, har]
    · rw [if_neg hx] at n
      exact absurd rfl n
/-- the body's end is the call's -/
theorem body_end {K : PySem.W.Frag} {CA : Nat → Option Addr} {M : Ms} {H : Hp} {Q : VK} {E : XK} {ds : List D} {st : Sto} {k f : Nat} {d : Df} (hd : Ds.lookup f = some d) (hdl : ds.length = d.fn.ar) (hnm : d.fn.nm = d.N.length)
    (g : Got K CA M H (Rep K) E (den wd (tab Ds) (k + 1) f ds st) Q) : GotS K CA M H (fun cls d _ H' => E cls d H') { nx := fun _ H' => Q .non H', rt := Q } (run wd (den wd (tab Ds) k) d.fn.body (ds.map some ++ List.replicate (d.N.length - d.fn.ar) none) st) := by
  have eT : tab Ds f = some d.fn := by unfold tab; rw [hd]; rfl
  have eD : den wd (tab Ds) (k + 1) f ds st = apply wd (den wd (tab Ds) k) d.fn ds st := by
    show (match tab Ds f with
      | none => none
      | some fn => apply wd (den wd (tab Ds) k) fn ds st) = _
    rw [eT]
  rw [eD] at g
  unfold apply at g
  rw [if_pos hdl, hnm] at g
  cases hrun : run wd (den wd (tab Ds) k) d.fn.body (ds.map some ++ List.replicate (d.N.length - d.fn.ar) none) st with
  | none => rw [hrun] at g; exact g.elim
  | some z =>
    rw [hrun] at g
    obtain ⟨fl, st'⟩ := z
    cases fl with
    | nx e => exact fun M' H' σ' ex s en => g M' H' .non ex s rfl
    | rt v => exact fun M' H' v ex s r => g M' H' v ex s r
    | bk e => exact g.elim
    | ct e => exact g.elim
    | xc x e => exact fun M' H' cls od σ' ex s r en => g M' H' cls od ex s r
theorem all_lev (h : Hd K mg C Ds wd CA) (hs : base.NoSeer) (ht : P.given.tree = none) : ∀ k, LevQ P w K mg base Ds wd CA C.ch k ∧ Lev P w K mg base Ds wd CA C.cn k ∧ Lev P w K mg base Ds wd CA C k
  | 0 => by
    have triv : ∀ C : Ct, Lev P w K mg base Ds wd CA C 0 := fun C f d fa fd hd hok F hb => by
      refine ⟨hb, ⟨fun vs H Q E q => ?_, fun A outer s H args us vs Q E hr he hb hv q => ?_⟩, fun xs st n => absurd rfl n⟩
      · obtain ⟨_, _, _, _, _, q, _⟩ := q
        exact q
      · obtain ⟨_, _, _, _, _, _, q⟩ := q
        exact q.elim
    refine ⟨fun f d fa fd hd hok F => ⟨⟨fun vs H Q E q => ?_, fun A outer s H args us vs Q hr he hb hv q => ?_⟩, fun xs st n => absurd rfl n⟩, triv _, triv _⟩
    · obtain ⟨_, _, _, _, _, q, _⟩ := q
      exact q
    · obtain ⟨_, _, _, _, _, _, q⟩ := q
      exact q.elim
  | k + 1 => by
    obtain ⟨ihQ, ihN, ih⟩ := all_lev h hs ht k
    have fnN : ∀ (f : Nat) (x : Str), C.nf.lookup f = some x → ∃ (fa : Addr) (fd : FuncData) (ps : List Str), mg x = some (.ref fa) ∧ PySem.W.keepIn K (.ref fa) = true ∧ FnC P w K mg base (CXb true P w) CA k fa fd ps (den wd (tab Ds) k f) := fun f x hx => by
      obtain ⟨d, fa, fd, q1, q2, q3, q4, q5⟩ := h.nfs f x hx
      exact ⟨fa, fd, d.ps, q3, q4.kp, ihN f d fa fd q1 q2 q4 q5⟩
    have fnH : ∀ (f : Nat) (x : Str), C.hf.lookup f = some x → ∃ (fa : Addr) (fd : FuncData) (ps : List Str), mg x = some (.ref fa) ∧ PySem.W.keepIn K (.ref fa) = true ∧ Binds K fd ps [] ∧
        FnQ P w K mg base (2 * k + 40) fa fd ps (spOf K CA (den wd (tab Ds) k f) ps.length) ∧ ∀ xs st, den wd (tab Ds) k f xs st ≠ none → xs.length = ps.length := fun f x hx => by
      obtain ⟨d, fa, fd, q1, q2, q3, q4, q5⟩ := h.hfs f x hx
      obtain ⟨z1, z2⟩ := ihQ f d fa fd q1 q2 q4
      exact ⟨fa, fd, d.ps, q3, q4.kp, q5, z1, z2⟩
    have fn : ∀ (f : Nat) (x : Str), C.fns.lookup f = some x → ∃ (fa : Addr) (fd : FuncData) (ps : List Str), mg x = some (.ref fa) ∧ PySem.W.keepIn K (.ref fa) = true ∧ FnC P w K mg base (CXb C.nn P w) CA k fa fd ps (den wd (tab Ds) k f) := fun f x hx => by
      obtain ⟨d, fa, fd, q1, q2, q3, q4, q5⟩ := h.fns f x hx
      exact ⟨fa, fd, d.ps, q3, q4.kp, ih f d fa fd q1 q2 q4 q5⟩
    have clX : ∀ (X : Cx), X.K = K → X.mg = mg → ∀ (c : Nat) (x : Str), C.cls.lookup c = some x → ∃ Cc, CA c = some Cc ∧ X.mg x = some (.ref Cc) ∧ PySem.W.keepIn X.K (.ref Cc) = true ∧ Raises X (.ref Cc) ∧
        (C.pl.contains c = true → PySem.W.excIn X.K Cc [.type "ValueError", .type "Exception", .type "BaseException", .type "object"] "ValueError.__new__" = true) := fun X e1 e2 c x hx => by
      subst e1 e2
      obtain ⟨Cc, q1, q2, q3, q4, q5, q6⟩ := h.cl c x hx
      exact ⟨Cc, q1, q2, q3, raises_own q4 q5, q6⟩
    refine ⟨fun f d fa fd hd hok F => ⟨?_, den_len hd hok⟩, fun f d fa fd hd hok F hb => ⟨hb, ?_, den_len hd hok⟩, fun f d fa fd hd hok F hb => ⟨hb, ?_, den_len hd hok⟩⟩
    · unfold okB at hok
      simp only [Bool.and_eq_true, decide_eq_true_eq] at hok
      obtain ⟨⟨⟨hsc, hck⟩, har⟩, hnm⟩ := hok
      have S := scB_ok hsc
      obtain ⟨oc, od, dV, kV, doc, pm, an, cdv, ct, osl, rfl, lk, hcd, _, _⟩ := F.ex
      refine fnQ_of (k := 2 * k + 41) lk hcd S (fun vs H Q E q => ?_) (fun A outer s H vs Q hr q => ?_)
      · obtain ⟨_, _, _, _, _, q, _⟩ := q
        exact q
      · have cok : Cok { C.ch with N := d.N } wd (den wd (tab Ds) k) CA (cxQ P w K mg base d.N d.q (defScope d.st) fa cdv A outer s H) (fun _ _ _ _ => False) (defScope d.st) k := by
          refine ⟨⟨(fun z => (by cases z)), (fun z => (by cases z)), hr, hs, ht, ⟨_, _, rfl, S.gen, S.co, rfl, rfl⟩⟩, rfl, S.nd, rfl, tk_none, fun _ _ _ _ _ z => z, (fun z => (by cases z)), fnN, fnH, h.fo, (fun z => (by cases z)), (fun z => (by cases z)), (fun z => (by cases z)), h.isn, h.oc, (fun z => (by cases z)), h.bl, h.gl, h.ca, h.xs, clX _ rfl rfl, fun c hx => ?_⟩
          obtain ⟨Cc, fI, fd, q1, q2, q3, q4, q5, q6, q7⟩ := h.fl c hx
          exact ⟨Cc, fI, fd, q1, q2, q3, q4, q5, q6, fun j => q7 _ _ _ _⟩
        obtain ⟨M, st, ds, hst, hrep, hlen, g⟩ := q
        have hdl : ds.length = d.fn.ar := by rw [har, ← hlen, hrep.length]
        exact ⟨_, (sndS d.fn.body).2 _ _ _ _ k _ cok (fun _ => rfl) ⟨(fun z => (by cases z)), (fun z => (by cases z))⟩ S.kind hck, M, _, st, hst, start_ok (N := d.N) hrep hdl, body_end hd hdl hnm g⟩
    · unfold okB at hok
      simp only [Bool.and_eq_true, decide_eq_true_eq] at hok
      obtain ⟨⟨⟨hsc, hck⟩, har⟩, hnm⟩ := hok
      have S := scB_ok hsc
      refine FunD.ok (k := 2 * k + 41) F S (fun vs H Q E q => ?_) (fun cdv A outer s H vs Q E hr q => ?_)
      · obtain ⟨_, _, _, _, _, q, _⟩ := q
        exact q
      · have cok : Cok { C.cn with N := d.N } wd (den wd (tab Ds) k) CA (cxOf (CXb true P w) P w K mg base d.N d.q (defScope d.st) fa cdv A outer s H E) (fun cls d _ H' => E cls d H') (defScope d.st) k := by
          refine ⟨⟨fun _ => rfl, fun _ => hr, Rm.of hr, hs, ht, ⟨_, _, rfl, S.gen, S.co, rfl, rfl⟩⟩, rfl, S.nd, rfl, tk_of (nn := true) rfl rfl rfl rfl, (fun z => by have z : C.hot = true := z; rw [h.hot] at z; cases z), fun _ => fnN, fnN, fnH, h.fo, (fun _ z => (by cases z)), (fun _ z => (by cases z)), (fun _ z => (by cases z)), h.isn, h.oc, (fun _ z => (by cases z)), h.bl, h.gl, h.ca, h.xs, clX _ rfl rfl, fun c hx => ?_⟩
          obtain ⟨Cc, fI, fd, q1, q2, q3, q4, q5, q6, q7⟩ := h.fl c hx
          exact ⟨Cc, fI, fd, q1, q2, q3, q4, q5, q6, fun j => q7 _ _ _ _⟩
        obtain ⟨M, st, ds, hst, hrep, hlen, g⟩ := q
        have hdl : ds.length = d.fn.ar := by rw [har, ← hlen, hrep.length]
        exact ⟨_, (sndS d.fn.body).2 _ _ _ _ k _ cok (fun _ => rfl) ⟨fun _ => ⟨passes_of rfl, rfl, rfl, rfl⟩, fun _ => L2H.passesAt_of rfl⟩ S.kind hck, M, _, st, hst, start_ok (N := d.N) hrep hdl, body_end hd hdl hnm g⟩
    · unfold okB at hok
      simp only [Bool.and_eq_true, decide_eq_true_eq] at hok
      obtain ⟨⟨⟨hsc, hck⟩, har⟩, hnm⟩ := hok
      have S := scB_ok hsc
      refine FunD.ok (k := 2 * k + 41) F S (fun vs H Q E q => ?_) (fun cdv A outer s H vs Q E hr q => ?_)
      · obtain ⟨_, _, _, _, _, q, _⟩ := q
        exact q
      · have cok : Cok { C with N := d.N } wd (den wd (tab Ds) k) CA (cxOf (CXb C.nn P w) P w K mg base d.N d.q (defScope d.st) fa cdv A outer s H E) (fun cls d _ H' => E cls d H') (defScope d.st) k := by
          refine ⟨⟨fun _ => rfl, fun _ => hr, Rm.of hr, hs, ht, ⟨_, _, rfl, S.gen, S.co, rfl, rfl⟩⟩, rfl, S.nd, rfl, tk_of (nn := C.nn) rfl rfl rfl rfl, (fun z => by have z : C.hot = true := z; rw [h.hot] at z; cases z), fun _ => fn, fnN, fnH, h.fo, fun _ _ c m g hm => ?_, fun _ _ c g x hm hx => ?_, fun _ _ c g x hm hb hx => ?_, h.isn, h.oc, fun _ _ g x i hx hi => ?_, h.bl, h.gl, h.ca, h.xs, clX _ rfl rfl, fun c hx => ?_⟩
          · obtain ⟨Cc, fa, fd, d, x, q1, q2, q3, q4, q5, q6, q7, q8⟩ := h.mt c m g hm
            exact ⟨Cc, fa, fd, d.ps, x, q1, q2, q3, q4, ih g d fa fd q5 q6 q7 q8⟩
          · obtain ⟨Cc, fa, fd, d, q1, q2, q3, q5, q6, q7, q8⟩ := h.mkk c g x hm hx
            exact ⟨Cc, fa, fd, d.ps, q1, q2, q3, ih g d fa fd q5 q6 q7 q8⟩
          · obtain ⟨Cc, fa, fd, d, q1, q2, q3, q5, q6, q7, q8⟩ := h.ib c g x hm hb hx
            exact ⟨Cc, fa, fd, d.ps, q1, q2, q3, ih g d fa fd q5 q6 q7 q8⟩
          · obtain ⟨d, fa, fd, q1, q2, q3, q4, q5⟩ := h.fns g x hx
            obtain ⟨e', hg', hb⟩ := h.dfd g i hi
            rw [q1] at hg'
            cases hg'
            obtain ⟨dvs, b1, b2⟩ := hb fa fd q4
            have F2 := ih g d fa fd q1 q2 q4 q5
            exact ⟨fa, fd, d.ps, dvs, q3, q4.kp, b2, b1, F2.ok, F2.len⟩
          · obtain ⟨Cc, fI, fd, q1, q2, q3, q4, q5, q6, q7⟩ := h.fl c hx
            exact ⟨Cc, fI, fd, q1, q2, q3, q4, q5, q6, fun j => q7 _ _ _ _⟩
        obtain ⟨M, st, ds, hst, hrep, hlen, g⟩ := q
        have hdl : ds.length = d.fn.ar := by rw [har, ← hlen, hrep.length]
        exact ⟨_, (sndS d.fn.body).2 _ _ _ _ k _ cok (fun _ => rfl) ⟨fun _ => ⟨passes_of rfl, rfl, rfl, rfl⟩, fun _ => L2H.passesAt_of rfl⟩ S.kind hck, M, _, st, hst, start_ok (N := d.N) hrep hdl, body_end hd hdl hnm g⟩
end

/-- a def, from the head's four rows -/
theorem df_mk {K : PySem.W.Frag} {h : Heap} {mg : Str → Option Value} {y : Str} (X : K.In h) (G : h.Ns mainGlobals mg) (x : Str) (st : Stmt) (ps : List Str) {f : Addr} {od an : Option Addr} {sl : Array (Option Value)} {oc kV dc pm cd ct : Value}
    (a : PySem.W.nsIn K mainGlobals y = some (some (.ref f))) (l : K.lookup f = some ⟨oc, od, .func (PySem.W.fnOf x x (defArgs st) (defBody st) (defScope st) .none kV dc pm an cd ct), sl⟩) (c : PySem.W.codeIn K cd x = true) (k : PySem.W.keepIn K (.ref f) = true)
    (b : ∀ (kV doc pm : Value) (an : Option Addr) (cdv ct : Value) (us : List Value), us.length = ps.length → bindArgs (PySem.W.fnOf x x (defArgs st) (defBody st) (defScope st) .none kV doc pm an cdv ct) ⟨us, []⟩ = pure (ps.zip us)) :
    ∃ (fa : Addr) (fd : FuncData), mg y = some (.ref fa) ∧ FunD K x x (defArgs st) (defBody st) (defScope st) (([] : List Int).map V.int) [] fa fd ∧ Binds K fd ps [] :=
  ⟨f, _, PySem.W.mg_of X G a, ⟨⟨_, _, _, _, _, _, _, _, _, _, rfl, l, c, .inl ⟨rfl, rfl⟩, .inl rfl⟩, k⟩, (fun_mk l c k).binds b⟩
/-- a method, from the head's rows -/
theorem df_mkm {K : PySem.W.Frag} (x q : Str) (st : Stmt) (ps : List Str) {f : Addr} {od an : Option Addr} {sl : Array (Option Value)} {oc kV dc pm cd ct : Value}
    (l : K.lookup f = some ⟨oc, od, .func (PySem.W.fnOf x q (defArgs st) (defBody st) (defScope st) .none kV dc pm an cd ct), sl⟩) (c : PySem.W.codeIn K cd q = true) (k : PySem.W.keepIn K (.ref f) = true)
    (b : ∀ (kV doc pm : Value) (an : Option Addr) (cdv ct : Value) (us : List Value), us.length = ps.length → bindArgs (PySem.W.fnOf x q (defArgs st) (defBody st) (defScope st) .none kV doc pm an cdv ct) ⟨us, []⟩ = pure (ps.zip us)) :
    ∃ fd : FuncData, FunD K x q (defArgs st) (defBody st) (defScope st) (([] : List Int).map V.int) [] f fd ∧ Binds K fd ps [] :=
  ⟨_, ⟨⟨_, _, _, _, _, _, _, _, _, _, rfl, l, c, .inl ⟨rfl, rfl⟩, .inl rfl⟩, k⟩, (fun_mk l c k).binds b⟩
/-- the law's def, from all of them -/
theorem law_fn {P : Program} {w : World} {K : PySem.W.Frag} {mg : Str → Option Value} {C : Ct} {Ds : List (Nat × Df)} {wd : Wd} {CA : Nat → Option Addr} {fa : Addr} {j : Nat} {d : Df} {x y : Str} (k : Nat) (H : Hd K mg C Ds wd CA) (ht : P.given.tree = none) (hj : C.fns.lookup j = some y) (hd : Ds.lookup j = some d) (hfa : mg y = some (.ref fa)) (hp : d.ps = [x]) (hdf : d.dfl = [])
    (hb : ∀ (kV doc pm : Value) (an : Option Addr) (cdv ct : Value) (s : Shared) (u : Value), BindsTo s (PySem.W.fnOf d.x d.q (defArgs d.st) (defBody d.st) (defScope d.st) .none kV doc pm an cdv ct) ⟨[u], []⟩ [(x, u)]) :
    ∃ fd : FuncData, (∀ (s : Shared) (u : Value), BindsTo s fd ⟨[u], []⟩ [(x, u)]) ∧ ∀ base : Heap, K.In base → base.Ns mainGlobals mg → base.NoSeer → FnOk P w K mg base (L2.CX P w) (2 * k + 40) fa fd [x] (spOf K CA (den wd (tab Ds) k j) 1) := by
  obtain ⟨d', fa', fd, h0, h4, h1, h2, h3⟩ := H.fns j y hj
  obtain rfl : fa = fa' := by rw [hfa] at h1; cases h1; rfl
  obtain rfl : d = d' := by rw [hd] at h0; cases h0; rfl
  refine ⟨fd, fun s u => ?_, fun base hB hN hS => ?_⟩
  · obtain ⟨oc, od, dV, kV, doc, pm, an, cdv, ct, osl, rfl, lk, hcd, hD, _⟩ := h2.ex
    rcases hD with ⟨_, rfl⟩ | ⟨hn, _⟩
    · exact hb kV doc pm an cdv ct s u
    · exact absurd (by rw [hdf]; rfl) hn
  · have q := ((all_lev (P := P) (w := w) H hS ht k).2.2 j d fa fd hd h4 h2 h3).ok
    rw [H.nn, hp] at q
    exact q

theorem gl_int {K : PySem.W.Frag} {h : Heap} {mg : Str → Option Value} (X : K.In h) (G : h.Ns mainGlobals mg) {x : Str} {i : Int} {t : Tok} (a : PySem.W.nsIn K mainGlobals x = some (some (.int i t))) : ∃ (v : V) (u : Value), mg x = some u ∧ RelV v u ∧ (∀ M H, Rep K M H (.int i) v) ∧ (∀ ds, D.int i = .tup ds → ∃ (p : Addr) (o : Obj), v = .ref p ∧ K.lookup p = some o ∧ o.cls = .type "tuple" ∧ o.dict = none) :=
  ⟨.int i, _, PySem.W.mg_of X G a, ⟨t, rfl⟩, fun _ _ => rfl, fun _ h => (by cases h)⟩
theorem gl_str {K : PySem.W.Frag} {h : Heap} {mg : Str → Option Value} (X : K.In h) (G : h.Ns mainGlobals mg) {x z : Str} {s : List Nat} {t : Tok} (a : PySem.W.nsIn K mainGlobals x = some (some (.str z t))) (hz : z = strV s) : ∃ (v : V) (u : Value), mg x = some u ∧ RelV v u ∧ (∀ M H, Rep K M H (.str s) v) ∧ (∀ ds, D.str s = .tup ds → ∃ (p : Addr) (o : Obj), v = .ref p ∧ K.lookup p = some o ∧ o.cls = .type "tuple" ∧ o.dict = none) :=
  ⟨.str z, _, PySem.W.mg_of X G a, ⟨t, rfl⟩, fun _ _ => (by subst hz; rfl), fun _ h => (by cases h)⟩
theorem caOf_of {K : PySem.W.Frag} {c : Nat} {x : Str} {e : Addr} (h : clsN[c]? = some x) (a : PySem.W.nsIn K mainGlobals x = some (some (.ref e))) : caOf K c = some e := by
  unfold caOf
  rw [h]
  simp only [a]
/-! ### the law -/
def isLst (v : Value) : Bool := match v with
  | .type s => s == "list"
  | _ => false
/-- none of the written objects is a list -/
def noList (K : PySem.W.Frag) : Bool := K.all fun p => !isLst p.2.cls
theorem lookup_mem {K : PySem.W.Frag} {a : Addr} {o : Obj} (h : K.lookup a = some o) : (a, o) ∈ K := by
  induction K with
  | nil => cases h
  | cons p r ih =>
    obtain ⟨b, q⟩ := p
    rw [List.lookup_cons] at h
    split at h
    · rename_i e
      cases h
      have : a = b := by simpa using e
      subst this
      exact List.mem_cons_self
    · exact List.mem_cons_of_mem _ (ih h)
theorem noList_of {K : PySem.W.Frag} (n : noList K = true) {a : Addr} {o : Obj} (h : K.lookup a = some o) : o.cls ≠ .type "list" := fun e => by
  have := List.all_eq_true.mp n _ (lookup_mem h)
  simp only [e, isLst] at this
  cases this
theorem lookup_some {K : PySem.W.Frag} {a : Addr} {o : Obj} (h : (a, o) ∈ K) : ∃ o', K.lookup a = some o' := by
  induction K with
  | nil => cases h
  | cons p r ih =>
    obtain ⟨b, q⟩ := p
    rw [List.lookup_cons]
    split
    · exact ⟨_, rfl⟩
    · rename_i e
      rcases List.mem_cons.mp h with z | z
      · cases z
        simp at e
      · exact ih z
theorem lookup_app {K L : PySem.W.Frag} {a : Addr} : (K ++ L).lookup a = (K.lookup a).or (L.lookup a) := by
  induction K with
  | nil => rfl
  | cons p r ih =>
    obtain ⟨b, q⟩ := p
    rw [List.cons_append, List.lookup_cons, List.lookup_cons]
    split
    · rfl
    · exact ih
/-- more is written: the promise stands -/
theorem fnOk_wider {P : Program} {w : World} {K L : PySem.W.Frag} {mg : Str → Option Value} {base : Heap} {CX : CXT} {k : Nat} {f : Addr} {fd : FuncData} {ps : List Str} {sp : Sp} (F : FnOk P w K mg base CX k f fd ps sp) : FnOk P w (K ++ L) mg base CX k f fd ps sp := by
  refine ⟨F.len, fun A outer s H args us vs Q E hr e hb hv hs => F.run A outer s H args us vs Q E hr ?_ hb hv hs⟩
  exact { e with mod := { e.mod with kin := fun a o h => e.mod.kin a o (by rw [lookup_app, h]; rfl) } }
theorem bits_log {z : Int} (h : Builtin.Int.intBits z ≤ 1048576) : z.natAbs.log2 < 1048576 := by
  unfold Builtin.Int.intBits at h
  split at h
  · rename_i hz
    have : z = 0 := by simpa using hz
    subst this
    decide
  · omega
theorem walkD {l : PySem.W.OpenLaw} {n k : Nat} {q : Program} {loose : List Str} {XP : (Str → Option Value) → Heap → Prop} {YP : World → Heap → Prop} {d : DefRec} {K : Params → PySem.W.Frag} {x : Str} {φ : List D → Sto → Ans D}
    (hn : l.most = some n) (hn2 : n ≤ sizeLine) (hdf : d.params.defaults = []) (hr : Room k callerA) (hi : importsNone q = true)
    (hY : ∀ (w : World) (h : Heap), YP w h → (K w.params).In h) (nl : ∀ w : World, noList (K w.params) = true)
    (F : ∀ (w : World) (mg : Str → Option Value) (fa : Addr) (h : Heap), (K w.params).In h → h.Ns mainGlobals mg → mg d.name = some (.ref fa) →
      ∃ (CA : Nat → Option Addr) (fd : FuncData), (∀ (s : Shared) (u : Value), BindsTo s fd ⟨[u], []⟩ [(x, u)]) ∧
        ∀ base : Heap, (K w.params).In base → base.Ns mainGlobals mg → base.NoSeer → FnOk l.prog w (K w.params) mg base (L2.CX l.prog w) k fa fd [x] (spOf (K w.params) CA φ 1))
    (hφ : ∀ ns : List Int, ns.length ≤ n → (∀ z ∈ ns, z.natAbs.log2 < 1048576) → ∃ g, φ [.lst (ns.map .int)] [] = some (.ok (.bl true) g)) :
    PySem.W.WalkO q loose XP YP l.row.toRowW d [] (fun f vs => PySem.call f vs) := by
  refine Att.attach_callB hn hdf fun w s₀ s₁ mg mb fa o pm cd doc a vs ns G Y ho hd hcd hmg hobj hints hlen hbits hg => ?_
  have KX := hY w _ Y
  obtain ⟨CA, fd, hb, hF⟩ := F w mg fa _ KX G.T.g hmg
  have NS := G.T.seer hi
  obtain ⟨mc, ⟨o1, es1, ep1, g1, dt1, r1⟩, a1, a2⟩ := NS.statics
  obtain ⟨mm, ⟨o2, es2, ep2, g2, dt2, r2⟩, b1⟩ := NS.mods
  obtain ⟨mi, ⟨o3, es3, ep3, g3, dt3, r3⟩, c1⟩ := NS.imp
  obtain ⟨mg', bm, ob, ⟨o4, es4, ep4, g4, dt4, r4⟩, e1, e2, e3, e4⟩ := NS.main
  have KX' : PySem.W.Frag.In (K w.params ++ [(cStatics, o1), (sysModules, o2), (builtinsNs, o3), (mainGlobals, o4), (bm, ob)]) s₁.heap := fun b u h => by
    rw [lookup_app] at h
    cases hk : (K w.params).lookup b with
    | some u' =>
      rw [hk] at h
      cases h
      exact KX b _ hk
    | none =>
      rw [hk] at h
      have hm := lookup_mem (K := [(cStatics, o1), (sysModules, o2), (builtinsNs, o3), (mainGlobals, o4), (bm, ob)]) h
      simp only [List.mem_cons, Prod.mk.injEq, List.not_mem_nil, or_false] at hm
      rcases hm with ⟨rfl, rfl⟩ | ⟨rfl, rfl⟩ | ⟨rfl, rfl⟩ | ⟨rfl, rfl⟩ | ⟨rfl, rfl⟩ <;> assumption
  have inB : ∀ base : Heap, PySem.W.Frag.In (K w.params ++ [(cStatics, o1), (sysModules, o2), (builtinsNs, o3), (mainGlobals, o4), (bm, ob)]) base → ∀ b u, (b, u) ∈ [(cStatics, o1), (sysModules, o2), (builtinsNs, o3), (mainGlobals, o4), (bm, ob)] → s₁.heap.get? b = some u → base.get? b = some u := fun base hB b u hm hg => by
    obtain ⟨u', hu⟩ := lookup_some (K := K w.params ++ [(cStatics, o1), (sysModules, o2), (builtinsNs, o3), (mainGlobals, o4), (bm, ob)]) (List.mem_append_right _ hm)
    have := KX' _ _ hu
    rw [hg] at this
    cases this
    exact hB _ _ hu
  refine law_call KX' G.T.g G.T.b G.T.builtins G.T.nolimit hg hobj hints (Nat.le_trans hlen hn2) hr (fun base hB hN => fnOk_wider (hF base (fun b u h => hB b u (by rw [lookup_app, h]; rfl)) hN ?_)) hb (fun H hO hS => ?_) fun H e s' z => ?_
  · exact ⟨⟨mc, ⟨o1, es1, ep1, inB base hB _ _ (by simp) g1, dt1, r1⟩, a1, a2⟩, ⟨mm, ⟨o2, es2, ep2, inB base hB _ _ (by simp) g2, dt2, r2⟩, b1⟩, ⟨mi, ⟨o3, es3, ep3, inB base hB _ _ (by simp) g3, dt3, r3⟩, c1⟩,
      ⟨mg', bm, ob, ⟨o4, es4, ep4, inB base hB _ _ (by simp) g4, dt4, r4⟩, e1, inB base hB _ _ (by simp) e2, e3, e4⟩⟩
  · have hR : Rd H a (.lst (ns.map V.int)) := by
      rcases hS with h | ⟨o', its, m, h1, h2, _, h4, _⟩
      · exact h
      · rw [lookup_app] at h1
        cases hk : (K w.params).lookup a with
        | some u' =>
          rw [hk] at h1
          cases h1
          exact absurd h2 (noList_of (nl w) hk)
        | none =>
          rw [hk] at h1
          have hm := lookup_mem (K := [(cStatics, o1), (sysModules, o2), (builtinsNs, o3), (mainGlobals, o4), (bm, ob)]) h1
          simp only [List.mem_cons, Prod.mk.injEq, List.not_mem_nil, or_false] at hm
          rcases hm with ⟨_, rfl⟩ | ⟨_, rfl⟩ | ⟨_, rfl⟩ | ⟨_, rfl⟩ | ⟨_, rfl⟩
          · rw [h4] at dt1; cases dt1
          · rw [h4] at dt2; cases dt2
          · rw [h4] at dt3; cases dt3
          · rw [h4] at dt4; cases dt4
          · rw [h2] at e3; exact absurd (Value.type.inj e3) (by decide)
    obtain ⟨g, hg⟩ := hφ ns hlen fun z hz => bits_log (hbits z hz)
    refine ⟨⟨[], []⟩, [], [.lst (ns.map .int)], ⟨rfl, List.nodup_nil, fun l a c h _ => by simp at h, fun a h => by simp at h⟩, ⟨.ref a, [], rfl, ⟨a, _, rfl, ⟨by simp [Ms.all], hR⟩, reps_ints ns⟩, rfl⟩, rfl, ?_⟩
    rw [hg]
    exact fun M' H' b _ _ r => r
  · obtain ⟨_, _, _, _, _, _, _, _, _, _, _, _, z⟩ := z
    exact z
end Dp

end
section
set_option linter.all false
set_option maxRecDepth 100000
/-! the code of the defs of the laws with classes, printed by mklaw.py -/
namespace Dp
noncomputable def fokB (T : List (Nat × List Nat)) (c f : Nat) : Bool := match T.lookup c with | some l => l.contains f | none => false
theorem fokB_mem {T : List (Nat × List Nat)} {c f : Nat} (h : fokB T c f = true) : ∃ l, (c, l) ∈ T ∧ f ∈ l := by
  unfold fokB at h
  split at h
  · rename_i l hl
    refine ⟨l, ?_, by simpa using h⟩
    clear h
    induction T with
    | nil => cases hl
    | cons p r ih =>
      obtain ⟨a, b⟩ := p
      rw [List.lookup_cons] at hl
      split at hl
      · rename_i e
        cases hl
        have : c = a := by simpa using e
        subst this
        exact List.mem_cons_self
      · exact List.mem_cons_of_mem _ (ih hl)
  · cases h
noncomputable abbrev g_Step___init__ : Nat := 6000
noncomputable abbrev g_Step_named : Nat := 6001
noncomputable abbrev g_Step_needs : Nat := 6002
noncomputable abbrev g_Step_text : Nat := 6003
noncomputable abbrev g_LineThrough_word : Nat := 6007
noncomputable abbrev g_FirstPoint___init__ : Nat := 6009
noncomputable abbrev g_FirstPoint_text : Nat := 6010
noncomputable abbrev g_RingThrough_word : Nat := 6013
noncomputable abbrev g_RingBy___init__ : Nat := 6015
noncomputable abbrev g_RingBy_text : Nat := 6016
noncomputable abbrev g_Cross_word : Nat := 6019
noncomputable abbrev g_Meet___init__ : Nat := 6022
noncomputable abbrev g_Meet_text : Nat := 6023
noncomputable def b_is_name_0_0 : Sm := (.seq (.ifs (.cmp .notin (.var 1) (.glb 4)) (.seq (.ret (.cst (.bl false))) .nil) .nil) .nil)
noncomputable def l_is_name_0_0 : Sm := (.fr (.nm 1) (.seq (.var 0)) b_is_name_0_0)
noncomputable def f_is_name_0 : Fn := ⟨1, 2, (.seq (.ifs (.not (.chn .le .le (.cst (.int 1)) (.bi .len (.cons (.var 0) .nil)) (.cst (.int 6)))) (.seq (.ret (.cst (.bl false))) .nil) .nil) (.seq l_is_name_0_0 (.seq (.ret (.cst (.bl true))) .nil)))⟩
noncomputable def f_read_point : Fn := ⟨1, 3, (.seq (.tryr (.seq (.asg (.nm 1) (.call 7 (.cons (.ix (.var 0) (.cst (.int 2))) .nil))) (.seq (.asg (.nm 2) (.call 7 (.cons (.ix (.var 0) (.cst (.int 3))) .nil))) .nil)) 2 7) (.seq (.ret (.new 17 (.cons (.ix (.var 0) (.cst (.int 1))) (.cons (.var 1) (.cons (.var 2) .nil))))) .nil))⟩
noncomputable def f_read_span : Fn := ⟨1, 2, (.seq (.tryr (.seq (.asg (.nm 1) (.call 7 (.cons (.ix (.var 0) (.cst (.int 4))) .nil))) .nil) 2 7) (.seq (.ret (.new 19 (.cons (.ix (.var 0) (.cst (.int 1))) (.cons (.lst (.cons (.ix (.var 0) (.cst (.int 2))) .nil)) (.cons (.var 1) .nil))))) .nil))⟩
noncomputable def b_all_names_0_0 : Sm := (.seq (.ifs (.not (.call 147 (.cons (.var 1) .nil))) (.seq (.ret (.cst (.bl false))) .nil) .nil) .nil)
noncomputable def l_all_names_0_0 : Sm := (.fr (.nm 1) (.seq (.var 0)) b_all_names_0_0)
noncomputable def f_all_names_0 : Fn := ⟨1, 2, (.seq l_all_names_0_0 (.seq (.ret (.cst (.bl true))) .nil))⟩
noncomputable def f_short_row_0 : Fn := ⟨1, 1, (.seq (.ifs (.and (.cmp .eq (.ix (.var 0) (.cst (.int 0))) (.cst (.str [112, 111, 105, 110, 116]))) (.one (.call 147 (.cons (.ix (.var 0) (.cst (.int 1))) .nil)))) (.seq (.ret (.call 148 (.cons (.var 0) .nil))) .nil) .nil) (.seq (.ifs (.not (.call 150 (.cons (.slc (.var 0) (.some (.cst (.int 1))) .none) .nil))) (.seq (.ret (.cst .non)) .nil) .nil) (.seq (.ifs (.cmp .eq (.ix (.var 0) (.cst (.int 0))) (.cst (.str [108, 105, 110, 101]))) (.seq (.ret (.new 16 (.cons (.ix (.var 0) (.cst (.int 1))) (.cons (.slc (.var 0) (.some (.cst (.int 2))) .none) .nil)))) .nil) .nil) (.seq (.ifs (.cmp .eq (.ix (.var 0) (.cst (.int 0))) (.cst (.str [114, 105, 110, 103]))) (.seq (.ret (.new 18 (.cons (.ix (.var 0) (.cst (.int 1))) (.cons (.slc (.var 0) (.some (.cst (.int 2))) .none) .nil)))) .nil) .nil) (.seq (.ifs (.cmp .eq (.ix (.var 0) (.cst (.int 0))) (.cst (.str [109, 101, 101, 116]))) (.seq (.ret (.new 20 (.cons (.ix (.var 0) (.cst (.int 1))) (.cons (.slc (.var 0) (.some (.cst (.int 2))) .none) .nil)))) .nil) .nil) (.seq (.ret (.cst .non)) .nil))))))⟩
noncomputable def f_long_row : Fn := ⟨1, 1, (.seq (.ifs (.and (.cmp .eq (.ix (.var 0) (.cst (.int 0))) (.cst (.str [114, 105, 110, 103]))) (.and (.cmp .eq (.ix (.var 0) (.cst (.int 3))) (.cst (.str [98, 121]))) (.one (.call 150 (.cons (.slc (.var 0) (.some (.cst (.int 1))) (.some (.cst (.int 3)))) .nil))))) (.seq (.ret (.call 149 (.cons (.var 0) .nil))) .nil) .nil) (.seq (.ifs (.and (.cmp .eq (.ix (.var 0) (.cst (.int 0))) (.cst (.str [109, 101, 101, 116]))) (.and (.cmp .isin (.ix (.var 0) (.cst (.int 4))) (.tup (.cons (.cst (.str [102, 105, 114, 115, 116])) (.cons (.cst (.str [115, 101, 99, 111, 110, 100])) .nil)))) (.one (.call 150 (.cons (.slc (.var 0) (.some (.cst (.int 1))) (.some (.cst (.int 4)))) .nil))))) (.seq (.ret (.new 21 (.cons (.ix (.var 0) (.cst (.int 1))) (.cons (.slc (.var 0) (.some (.cst (.int 2))) (.some (.cst (.int 4)))) (.cons (.ix (.var 0) (.cst (.int 4))) .nil))))) .nil) .nil) (.seq (.ret (.cst .non)) .nil)))⟩
noncomputable def f_step_of : Fn := ⟨1, 3, (.seq (.ifs (.not (.isi (.var 0) .str)) (.seq (.rse 7 .nil) .nil) .nil) (.seq (.asg (.nm 1) (.spl (.var 0) (.cst (.str [32])))) (.seq (.asg (.nm 2) (.cst .non)) (.seq (.ifs (.cmp .eq (.bi .len (.cons (.var 1) .nil)) (.cst (.int 4))) (.seq (.asg (.nm 2) (.call 151 (.cons (.var 1) .nil))) .nil) (.seq (.ifs (.cmp .eq (.bi .len (.cons (.var 1) .nil)) (.cst (.int 5))) (.seq (.asg (.nm 2) (.call 152 (.cons (.var 1) .nil))) .nil) .nil) .nil)) (.seq (.ifs (.cmp .is (.var 2) (.cst .non)) (.seq (.rse 7 .nil) .nil) .nil) (.seq (.ret (.var 2)) .nil))))))⟩
noncomputable def f__law_stir_0 : Fn := ⟨2, 5, (.seq (.asg (.nm 2) (.cst (.int 170141183460469231731687303715884105727))) (.seq (.asg (.nm 3) (.bin .add (.cst (.int 123457890123456789012345678901234567891)) (.bin .mul (.var 1) (.cst (.int 31415926535897932384626433832795028841))))) (.seq (.asg (.nm 4) (.bin .mul (.bin .add (.bin .mod (.var 0) (.var 2)) (.cst (.int 1))) (.var 3))) (.seq (.ret (.bin .mod (.bin .mul (.bin .mod (.var 4) (.var 2)) (.cst (.int 98767890123456789012345678901234567))) (.var 2))) .nil))))⟩
noncomputable def f__law_cell_1 : Fn := ⟨2, 2, (.seq (.ifs (.cmp .lt (.var 1) (.bi .len (.cons (.var 0) .nil))) (.seq (.ret (.ix (.var 0) (.var 1))) .nil) .nil) (.seq (.ret (.call 154 (.cons (.cst (.int 0)) (.cons (.var 1) .nil)))) .nil))⟩
noncomputable def b__law_name_0 : Sm := (.seq (.asg (.nm 2) (.bin .mod (.bin .mul (.bin .add (.var 2) (.cst (.int 3))) (.cst (.int 48271))) (.cst (.int 2147483647)))) (.seq (.asg (.nm 3) (.bin .add (.var 3) (.ix (.var 1) (.bin .mod (.bin .fdiv (.var 2) (.cst (.int 8))) (.cst (.int 26)))))) .nil))
noncomputable def l__law_name_0 : Sm := (.fr (.nm 4) (.rng1 (.bin .mod (.bin .fdiv (.var 2) (.cst (.int 26))) (.cst (.int 6)))) b__law_name_0)
noncomputable def f__law_name : Fn := ⟨1, 5, (.seq (.asg (.nm 1) (.cst (.str [97, 98, 99, 100, 101, 102, 103, 104, 105, 106, 107, 108, 109, 110, 111, 112, 113, 114, 115, 116, 117, 118, 119, 120, 121, 122]))) (.seq (.ifs (.cmp .eq (.bin .mod (.var 0) (.cst (.int 7))) (.cst (.int 3))) (.seq (.ret (.ix (.lst (.cons (.cst (.str [98, 121])) (.cons (.cst (.str [102, 105, 114, 115, 116])) (.cons (.cst (.str [115, 101, 99, 111, 110, 100])) (.cons (.cst (.str [112, 111, 105, 110, 116])) (.cons (.cst (.str [114, 105, 110, 103])) (.cons (.cst (.str [108, 105, 110, 101])) (.cons (.cst (.str [109, 101, 101, 116])) .nil)))))))) (.bin .mod (.bin .fdiv (.var 0) (.cst (.int 7))) (.cst (.int 7))))) .nil) .nil) (.seq (.asg (.nm 2) (.bin .mod (.bin .fdiv (.var 0) (.cst (.int 7))) (.cst (.int 2147483629)))) (.seq (.asg (.nm 3) (.ix (.var 1) (.bin .mod (.var 2) (.cst (.int 26))))) (.seq l__law_name_0 (.seq (.ret (.var 3)) .nil))))))⟩
noncomputable def f__law_fraction_text : Fn := ⟨2, 4, (.seq (.asg (.nm 2) (.call 9 (.cons (.var 0) (.cons (.var 1) .nil)))) (.seq (.asg (.nm 3) (.bi .str (.cons (.bin .fdiv (.bi .abs (.cons (.var 0) .nil)) (.var 2)) .nil))) (.seq (.ifs (.cmp .lt (.var 0) (.cst (.int 0))) (.seq (.asg (.nm 3) (.bin .add (.cst (.str [45])) (.var 3))) .nil) .nil) (.seq (.ifs (.cmp .ne (.bin .fdiv (.var 1) (.var 2)) (.cst (.int 1))) (.seq (.asg (.nm 3) (.bin .add (.bin .add (.var 3) (.cst (.str [47]))) (.bi .str (.cons (.bin .fdiv (.var 1) (.var 2)) .nil)))) .nil) .nil) (.seq (.ret (.var 3)) .nil)))))⟩
noncomputable def f__law_fraction_0 : Fn := ⟨2, 5, (.seq (.asg (.nm 2) (.bin .sub (.bin .mod (.var 0) (.bin .add (.bin .mul (.cst (.int 2)) (.bin .pow (.cst (.int 10)) (.cst (.int 20)))) (.cst (.int 1)))) (.bin .pow (.cst (.int 10)) (.cst (.int 20))))) (.seq (.asg (.nm 3) (.bin .add (.cst (.int 1)) (.bin .mod (.bin .fdiv (.var 0) (.cst (.int 7))) (.bin .pow (.cst (.int 10)) (.cst (.int 20)))))) (.seq (.ifs (.cmp .eq (.bin .mod (.var 1) (.cst (.int 3))) (.cst (.int 0))) (.seq (.asg (.nm 2) (.bin .sub (.bin .mod (.var 0) (.cst (.int 41))) (.cst (.int 20)))) (.seq (.asg (.nm 3) (.bin .add (.cst (.int 1)) (.bin .mod (.bin .fdiv (.var 0) (.cst (.int 41))) (.cst (.int 12))))) .nil)) .nil) (.seq (.ifs (.cmp .eq (.bin .mod (.var 1) (.cst (.int 3))) (.cst (.int 1))) (.seq (.asg (.nm 3) (.cst (.int 1))) .nil) .nil) (.seq (.asg (.nm 4) (.bi .str (.cons (.var 2) .nil))) (.seq (.ifs (.or (.cmp .eq (.bin .mod (.var 1) (.cst (.int 2))) (.cst (.int 0))) (.one (.cmp .ne (.var 3) (.cst (.int 1))))) (.seq (.asg (.nm 4) (.bin .add (.bin .add (.var 4) (.cst (.str [47]))) (.bi .str (.cons (.var 3) .nil)))) .nil) .nil) (.seq (.ret (.tup (.cons (.var 4) (.cons (.call 156 (.cons (.var 2) (.cons (.var 3) .nil))) .nil)))) .nil)))))))⟩
noncomputable def e__law_row_0_0 : Ex := (.call 155 (.cons (.bin .fdiv (.call 2 (.cons (.var 0) (.cons (.var 9) .nil))) (.cst (.int 7))) .nil))
noncomputable def c__law_row_0_0 : Ex := (.lc false [9] e__law_row_0_0 (.nm 9) (.rng1 (.cst (.int 4))) .none)
noncomputable def f__law_row_0 : Fn := ⟨1, 10, (.seq (.asg (.nm 1) (.bin .mod (.call 2 (.cons (.var 0) (.cons (.cst (.int 0)) .nil))) (.cst (.int 7)))) (.seq (.asg (.nm 2) c__law_row_0_0) (.seq (.ifs (.cmp .eq (.var 1) (.cst (.int 0))) (.seq (.asg (.nm 3) (.call 157 (.cons (.call 2 (.cons (.var 0) (.cons (.cst (.int 1)) .nil))) (.cons (.bin .mod (.bin .fdiv (.call 2 (.cons (.var 0) (.cons (.cst (.int 0)) .nil))) (.cst (.int 7))) (.cst (.int 6))) .nil)))) (.seq (.asg (.nm 4) (.call 157 (.cons (.call 2 (.cons (.var 0) (.cons (.cst (.int 2)) .nil))) (.cons (.bin .mod (.call 2 (.cons (.var 0) (.cons (.cst (.int 3)) .nil))) (.cst (.int 6))) .nil)))) (.seq (.asg (.nm 5) (.bin .add (.bin .add (.cst (.str [112, 111, 105, 110, 116, 32])) (.ix (.var 2) (.cst (.int 3)))) (.cst (.str [32])))) (.seq (.ret (.lst (.cons (.bin .add (.bin .add (.bin .add (.var 5) (.ix (.var 3) (.cst (.int 0)))) (.cst (.str [32]))) (.ix (.var 4) (.cst (.int 0)))) (.cons (.bin .add (.bin .add (.bin .add (.var 5) (.ix (.var 3) (.cst (.int 1)))) (.cst (.str [32]))) (.ix (.var 4) (.cst (.int 1)))) (.cons (.slc (.var 2) (.some (.cst (.int 3))) .none) .nil))))) .nil)))) .nil) (.seq (.ifs (.cmp .eq (.var 1) (.cst (.int 1))) (.seq (.asg (.nm 6) (.call 157 (.cons (.call 2 (.cons (.var 0) (.cons (.cst (.int 1)) .nil))) (.cons (.bin .mod (.call 2 (.cons (.var 0) (.cons (.cst (.int 2)) .nil))) (.cst (.int 6))) .nil)))) (.seq (.asg (.nm 5) (.bin .add (.bin .add (.bin .add (.bin .add (.cst (.str [114, 105, 110, 103, 32])) (.ix (.var 2) (.cst (.int 3)))) (.cst (.str [32]))) (.ix (.var 2) (.cst (.int 0)))) (.cst (.str [32, 98, 121, 32])))) (.seq (.ret (.lst (.cons (.bin .add (.var 5) (.ix (.var 6) (.cst (.int 0)))) (.cons (.bin .add (.var 5) (.ix (.var 6) (.cst (.int 1)))) (.cons (.lst (.cons (.ix (.var 2) (.cst (.int 3))) (.cons (.ix (.var 2) (.cst (.int 0))) .nil))) .nil))))) .nil))) .nil) (.seq (.asg (.nm 7) (.ix (.lst (.cons (.cst (.str [108, 105, 110, 101])) (.cons (.cst (.str [114, 105, 110, 103])) (.cons (.cst (.str [109, 101, 101, 116])) (.cons (.cst (.str [109, 101, 101, 116])) (.cons (.cst (.str [109, 101, 101, 116])) .nil)))))) (.bin .sub (.var 1) (.cst (.int 2))))) (.seq (.asg (.nm 8) (.bin .add (.bin .add (.bin .add (.bin .add (.bin .add (.bin .add (.var 7) (.cst (.str [32]))) (.ix (.var 2) (.cst (.int 3)))) (.cst (.str [32]))) (.ix (.var 2) (.cst (.int 0)))) (.cst (.str [32]))) (.ix (.var 2) (.cst (.int 1))))) (.seq (.ifs (.cmp .gt (.var 1) (.cst (.int 4))) (.seq (.asg (.nm 8) (.bin .add (.bin .add (.var 8) (.cst (.str [32]))) (.ix (.lst (.cons (.cst (.str [102, 105, 114, 115, 116])) (.cons (.cst (.str [115, 101, 99, 111, 110, 100])) .nil))) (.bin .sub (.var 1) (.cst (.int 5)))))) .nil) .nil) (.seq (.ret (.lst (.cons (.var 8) (.cons (.var 8) (.cons (.lst (.cons (.ix (.var 2) (.cst (.int 3))) (.cons (.ix (.var 2) (.cst (.int 0))) (.cons (.ix (.var 2) (.cst (.int 1))) .nil)))) .nil))))) .nil))))))))⟩
noncomputable def f__law_alike_1 : Fn := ⟨2, 3, (.seq (.ifs (.or (.not (.isn (.var 0) 15)) (.or (.not (.isi (.mth 2 (.var 0) .nil) .str)) (.one (.not (.isi (.mth 0 (.var 0) .nil) .str))))) (.seq (.ret (.cst (.bl false))) .nil) .nil) (.seq (.asg (.nm 2) (.mth 1 (.var 0) .nil)) (.seq (.ifs (.or (.not (.isi (.var 2) .list)) (.one (.cmp .ne (.var 2) (.slc (.ix (.var 1) (.cst (.int 2))) (.some (.cst (.int 1))) .none)))) (.seq (.ret (.cst (.bl false))) .nil) .nil) (.seq (.app (.var 2) (.cst (.str [122, 122]))) (.seq (.ret (.and (.cmp .eq (.mth 2 (.var 0) .nil) (.ix (.var 1) (.cst (.int 1)))) (.and (.cmp .eq (.mth 0 (.var 0) .nil) (.ix (.ix (.var 1) (.cst (.int 2))) (.cst (.int 0)))) (.one (.cmp .eq (.mth 1 (.var 0) .nil) (.slc (.ix (.var 1) (.cst (.int 2))) (.some (.cst (.int 1))) .none)))))) .nil)))))⟩
noncomputable def f_Step___init__ : Fn := ⟨3, 3, (.seq (.fst 0 (.var 0) (.var 1)) (.seq (.fst 1 (.var 0) (.var 2)) .nil))⟩
noncomputable def f_Step_named : Fn := ⟨1, 1, (.seq (.ret (.fld 0 (.var 0))) .nil)⟩
noncomputable def f_Step_needs_m : Fn := ⟨1, 1, (.seq (.ret (.lcp (.fld 1 (.var 0)))) .nil)⟩
noncomputable def f_Step_text : Fn := ⟨1, 1, (.seq (.ret (.joi (.cst (.str [32])) (.bin .add (.lst (.cons (.mth 3 (.var 0) .nil) (.cons (.fld 0 (.var 0)) .nil))) (.fld 1 (.var 0))))) .nil)⟩
noncomputable def f_Step_word : Fn := ⟨1, 1, (.seq (.ret (.cst (.str []))) .nil)⟩
noncomputable def f_Step_wants_0 : Fn := ⟨1, 1, (.seq .nope .nil)⟩
noncomputable def f_Step_done_0 : Fn := ⟨3, 3, (.seq .nope .nil)⟩
noncomputable def f_LineThrough_word : Fn := ⟨1, 1, (.seq (.ret (.cst (.str [108, 105, 110, 101]))) .nil)⟩
noncomputable def f_LineThrough_done_0 : Fn := ⟨3, 3, (.seq .nope .nil)⟩
noncomputable def f_FirstPoint___init__ : Fn := ⟨4, 4, (.seq (.exp (.inb 15 (.cons (.var 0) (.cons (.var 1) (.cons (.lst .nil) .nil))))) (.seq (.fst 2 (.var 0) (.var 2)) (.seq (.fst 3 (.var 0) (.var 3)) .nil)))⟩
noncomputable def f_FirstPoint_text : Fn := ⟨1, 1, (.seq (.ret (.bin .add (.bin .add (.bin .add (.bin .add (.bin .add (.cst (.str [112, 111, 105, 110, 116, 32])) (.fld 0 (.var 0))) (.cst (.str [32]))) (.call 8 (.cons (.fld 2 (.var 0)) .nil))) (.cst (.str [32]))) (.call 8 (.cons (.fld 3 (.var 0)) .nil)))) .nil)⟩
noncomputable def f_FirstPoint_wants_0 : Fn := ⟨1, 1, (.seq .nope .nil)⟩
noncomputable def f_FirstPoint_done_0 : Fn := ⟨3, 3, (.seq .nope .nil)⟩
noncomputable def f_RingThrough_word : Fn := ⟨1, 1, (.seq (.ret (.cst (.str [114, 105, 110, 103]))) .nil)⟩
noncomputable def f_RingThrough_done_0 : Fn := ⟨3, 3, (.seq .nope .nil)⟩
noncomputable def f_RingBy___init__ : Fn := ⟨4, 4, (.seq (.exp (.inb 15 (.cons (.var 0) (.cons (.var 1) (.cons (.var 2) .nil))))) (.seq (.fst 4 (.var 0) (.var 3)) .nil))⟩
noncomputable def f_RingBy_text : Fn := ⟨1, 1, (.seq (.ret (.bin .add (.bin .add (.bin .add (.bin .add (.bin .add (.cst (.str [114, 105, 110, 103, 32])) (.fld 0 (.var 0))) (.cst (.str [32]))) (.ix (.fld 1 (.var 0)) (.cst (.int 0)))) (.cst (.str [32, 98, 121, 32]))) (.call 8 (.cons (.fld 4 (.var 0)) .nil)))) .nil)⟩
noncomputable def f_RingBy_wants_0 : Fn := ⟨1, 1, (.seq .nope .nil)⟩
noncomputable def f_RingBy_done_0 : Fn := ⟨3, 3, (.seq .nope .nil)⟩
noncomputable def f_Cross_word : Fn := ⟨1, 1, (.seq (.ret (.cst (.str [109, 101, 101, 116]))) .nil)⟩
noncomputable def f_Cross_wants_0 : Fn := ⟨1, 1, (.seq .nope .nil)⟩
noncomputable def f_Cross_done_0 : Fn := ⟨3, 3, (.seq .nope .nil)⟩
noncomputable def f_Meet___init__ : Fn := ⟨4, 4, (.seq (.exp (.inb 15 (.cons (.var 0) (.cons (.var 1) (.cons (.var 2) .nil))))) (.seq (.fst 5 (.var 0) (.var 3)) .nil))⟩
noncomputable def f_Meet_text : Fn := ⟨1, 1, (.seq (.ret (.bin .add (.bin .add (.bin .add (.bin .add (.bin .add (.bin .add (.bin .add (.cst (.str [109, 101, 101, 116, 32])) (.fld 0 (.var 0))) (.cst (.str [32]))) (.ix (.fld 1 (.var 0)) (.cst (.int 0)))) (.cst (.str [32]))) (.ix (.fld 1 (.var 0)) (.cst (.int 1)))) (.cst (.str [32]))) (.fld 5 (.var 0)))) .nil)⟩
noncomputable def f_Meet_wants_0 : Fn := ⟨1, 1, (.seq .nope .nil)⟩
noncomputable def f_Meet_done_0 : Fn := ⟨3, 3, (.seq .nope .nil)⟩
noncomputable def f__law_which : Fn := ⟨1, 2, (.seq (.asg (.nm 1) (.lst (.cons (.isi (.var 0) (.cls 1)) (.cons (.isi (.var 0) (.cls 2)) (.cons (.isi (.var 0) (.cls 3)) (.cons (.isi (.var 0) (.cls 4)) .nil)))))) (.seq (.asg (.nm 1) (.bin .add (.var 1) (.lst (.cons (.isi (.var 0) (.cls 5)) (.cons (.isi (.var 0) (.cls 6)) (.cons (.isi (.var 0) (.cls 7)) (.cons (.isi (.var 0) (.cls 8)) .nil))))))) (.seq (.asg (.nm 1) (.bin .add (.var 1) (.lst (.cons (.isi (.var 0) (.cls 9)) (.cons (.isi (.var 0) (.cls 22)) (.cons (.isi (.var 0) (.cls 23)) (.cons (.isi (.var 0) (.cls 24)) .nil))))))) (.seq (.asg (.nm 1) (.bin .add (.var 1) (.lst (.cons (.isi (.var 0) (.cls 25)) (.cons (.isi (.var 0) (.cls 10)) (.cons (.isi (.var 0) (.cls 11)) (.cons (.isi (.var 0) (.cls 12)) .nil))))))) (.seq (.ret (.bin .add (.var 1) (.lst (.cons (.isi (.var 0) (.cls 13)) (.cons (.isi (.var 0) (.cls 14)) (.cons (.isi (.var 0) (.cls 0)) (.cons (.isi (.var 0) (.cls 1000)) .nil))))))) .nil)))))⟩
noncomputable def e__law_class_0 : Ex := (.cmp .eq (.var 0) (.var 2))
noncomputable def c__law_class_0 : Ex := (.lc false [2] e__law_class_0 (.nm 2) (.seq (.var 1)) .none)
noncomputable def f__law_class : Fn := ⟨1, 3, (.seq (.asg (.nm 1) (.lst (.cons (.cst (.str [66, 101, 108, 111, 119])) (.cons (.cst (.str [78, 111, 84, 101, 120, 116])) (.cons (.cst (.str [78, 111, 79, 118, 101, 114])) (.cons (.cst (.str [78, 111, 82, 111, 111, 109])) (.cons (.cst (.str [78, 111, 76, 105, 110, 101])) (.cons (.cst (.str [78, 111, 82, 105, 110, 103])) (.cons (.cst (.str [78, 111, 82, 111, 119])) (.cons (.cst (.str [84, 111, 111, 77, 97, 110, 121])) (.cons (.cst (.str [84, 111, 111, 71, 114, 101, 97, 116])) (.cons (.cst (.str [78, 111, 67, 108, 97, 105, 109])) .nil)))))))))))) (.seq (.asg (.nm 1) (.bin .add (.var 1) (.lst (.cons (.cst (.str [78, 111, 77, 111, 118, 101])) (.cons (.cst (.str [78, 111, 67, 104, 97, 110, 103, 101])) (.cons (.cst (.str [78, 111, 65, 115, 107])) (.cons (.cst (.str [78, 111, 77, 101, 101, 116])) (.cons (.cst (.str [84, 119, 105, 99, 101])) (.cons (.cst (.str [78, 111, 78, 97, 109, 101])) (.cons (.cst (.str [78, 111, 75, 105, 110, 100])) (.cons (.cst (.str [78, 111, 67, 97, 114, 114, 121])) .nil))))))))))) (.seq (.ret (.bin .add c__law_class_0 (.lst (.cons (.cst (.bl true)) (.cons (.cst (.bl true)) .nil))))) .nil)))⟩
noncomputable def f_Step_needs : Fn := ⟨1, 1, (.seq (.ret (.bi .list (.cons (.fld 1 (.var 0)) .nil))) .nil)⟩
noncomputable def f_changed : Fn := ⟨2, 3, (.seq (.ifs (.not (.chn .le .le (.cst (.int 0)) (.var 1) (.bin .sub (.bi .len (.cons (.var 0) .nil)) (.cst (.int 2))))) (.seq (.rse 24 .nil) .nil) .nil) (.seq (.ifs (.cmp .isin (.mth 0 (.call 153 (.cons (.ix (.var 0) (.var 1)) .nil)) .nil) (.mth 1 (.call 153 (.cons (.ix (.var 0) (.bin .add (.var 1) (.cst (.int 1)))) .nil)) .nil)) (.seq (.rse 24 .nil) .nil) .nil) (.seq (.asg (.nm 2) (.lcp (.var 0))) (.seq (.sti (.var 2) (.var 1) (.ix (.var 0) (.bin .add (.var 1) (.cst (.int 1))))) (.seq (.sti (.var 2) (.bin .add (.var 1) (.cst (.int 1))) (.ix (.var 0) (.var 1))) (.seq (.ret (.var 2)) .nil))))))⟩
noncomputable def e__law_row_3_0 : Ex := (.ix (.var 2) (.bin .mod (.bin .fdiv (.call 2 (.cons (.var 0) (.cons (.cst (.int 1)) .nil))) (.ix (.lst (.cons (.cst (.int 1)) (.cons (.cst (.int 26)) (.cons (.cst (.int 676)) .nil)))) (.var 9))) (.var 3)))
noncomputable def c__law_row_3_0 : Ex := (.lc false [9] e__law_row_3_0 (.nm 9) (.rng1 (.cst (.int 3))) .none)
noncomputable def f__law_row_3 : Fn := ⟨1, 10, (.seq (.asg (.nm 1) (.call 2 (.cons (.var 0) (.cons (.cst (.int 0)) .nil)))) (.seq (.asg (.nm 2) (.cst (.str [97, 98, 99, 100, 101, 102, 103, 104, 105, 106, 107, 108, 109, 110, 111, 112, 113, 114, 115, 116, 117, 118, 119, 120, 121, 122]))) (.seq (.asg (.nm 3) (.ix (.lst (.cons (.cst (.int 4)) (.cons (.cst (.int 26)) .nil))) (.bin .mod (.bin .fdiv (.var 1) (.cst (.int 7))) (.cst (.int 2))))) (.seq (.asg (.nm 4) c__law_row_3_0) (.seq (.asg (.nm 5) (.bin .add (.bin .add (.bi .str (.cons (.bin .sub (.bin .mod (.bin .fdiv (.var 1) (.cst (.int 14))) (.cst (.int 19))) (.cst (.int 9))) .nil)) (.cst (.str [47]))) (.bi .str (.cons (.bin .add (.cst (.int 1)) (.bin .mod (.bin .fdiv (.var 1) (.cst (.int 14))) (.cst (.int 5)))) .nil)))) (.seq (.asg (.nm 6) (.bin .mod (.var 1) (.cst (.int 7)))) (.seq (.ifs (.cmp .eq (.var 6) (.cst (.int 0))) (.seq (.ret (.lst (.cons (.ix (.var 4) (.cst (.int 0))) (.cons (.lst .nil) (.cons (.bin .add (.bin .add (.bin .add (.bin .add (.cst (.str [112, 111, 105, 110, 116, 32])) (.ix (.var 4) (.cst (.int 0)))) (.cst (.str [32]))) (.var 5)) (.cst (.str [32, 52, 47, 50]))) .nil))))) .nil) .nil) (.seq (.ifs (.cmp .eq (.var 6) (.cst (.int 1))) (.seq (.ret (.lst (.cons (.ix (.var 4) (.cst (.int 0))) (.cons (.slc (.var 4) (.some (.cst (.int 1))) (.some (.cst (.int 2)))) (.cons (.bin .add (.bin .add (.bin .add (.bin .add (.bin .add (.cst (.str [114, 105, 110, 103, 32])) (.ix (.var 4) (.cst (.int 0)))) (.cst (.str [32]))) (.ix (.var 4) (.cst (.int 1)))) (.cst (.str [32, 98, 121, 32]))) (.var 5)) .nil))))) .nil) .nil) (.seq (.asg (.nm 7) (.ix (.lst (.cons (.cst (.str [108, 105, 110, 101])) (.cons (.cst (.str [114, 105, 110, 103])) (.cons (.cst (.str [109, 101, 101, 116])) (.cons (.cst (.str [109, 101, 101, 116])) (.cons (.cst (.str [109, 101, 101, 116])) .nil)))))) (.bin .sub (.var 6) (.cst (.int 2))))) (.seq (.asg (.nm 8) (.ix (.lst (.cons (.cst (.str [])) (.cons (.cst (.str [])) (.cons (.cst (.str [])) (.cons (.cst (.str [32, 102, 105, 114, 115, 116])) (.cons (.cst (.str [32, 115, 101, 99, 111, 110, 100])) .nil)))))) (.bin .sub (.var 6) (.cst (.int 2))))) (.seq (.ret (.lst (.cons (.ix (.var 4) (.cst (.int 0))) (.cons (.slc (.var 4) (.some (.cst (.int 1))) .none) (.cons (.bin .add (.bin .add (.bin .add (.var 7) (.cst (.str [32]))) (.joi (.cst (.str [32])) (.var 4))) (.var 8)) .nil))))) .nil)))))))))))⟩
noncomputable def f__law_asked_5 : Fn := ⟨2, 4, (.seq (.asg (.nm 2) (.cst .non)) (.seq (.trym (.seq (.asg (.nm 2) (.call 236 (.cons (.var 0) (.cons (.var 1) .nil)))) .nil) (.cons 0 (some 3) (.seq (.asg (.nm 2) (.call 164 (.cons (.var 3) .nil))) .nil) .nil)) (.seq (.ret (.var 2)) .nil)))⟩
noncomputable def e__law_due_6_0 : Ex := (.ix (.var 3) (.cst (.int 2)))
noncomputable def c__law_due_6_0 : Ex := (.lc false [3] e__law_due_6_0 (.nm 3) (.seq (.var 0)) .none)
noncomputable def f__law_due_6 : Fn := ⟨2, 4, (.seq (.ifs (.or (.cmp .lt (.var 1) (.cst (.int 0))) (.or (.cmp .gt (.var 1) (.bin .sub (.bi .len (.cons (.var 0) .nil)) (.cst (.int 2)))) (.one (.cmp .isin (.ix (.ix (.var 0) (.var 1)) (.cst (.int 0))) (.ix (.ix (.var 0) (.bin .add (.var 1) (.cst (.int 1)))) (.cst (.int 1))))))) (.seq (.ret (.call 165 (.cons (.cst (.str [78, 111, 67, 104, 97, 110, 103, 101])) .nil))) .nil) .nil) (.seq (.asg (.nm 2) c__law_due_6_0) (.seq (.ret (.bin .add (.bin .add (.slc (.var 2) .none (.some (.var 1))) (.lst (.cons (.ix (.var 2) (.bin .add (.var 1) (.cst (.int 1)))) (.cons (.ix (.var 2) (.var 1)) .nil)))) (.slc (.var 2) (.some (.bin .add (.var 1) (.cst (.int 2)))) .none))) .nil)))⟩
end Dp

end
section
set_option linter.all false
set_option maxRecDepth 100000
/-! the code of k37_rows_changed, printed by mklaw.py -/
namespace Dp.K37
open Dp
noncomputable def e_law_0 : Ex := (.call 154 (.cons (.var 10) (.cons (.var 2) .nil)))
noncomputable def c_law_0 : Ex := (.lc false [2, 10] e_law_0 (.tp [2, 10]) (.enm (.var 0)) .none)
noncomputable def b_law_0 : Sm := (.seq (.app (.var 1) (.call 158 (.cons (.slc (.var 0) (.some (.var 2)) (.some (.bin .add (.var 2) (.cst (.int 2))))) .nil))) .nil)
noncomputable def l_law_0 : Sm := (.fr (.nm 2) (.rng3 (.cst (.int 2)) (.bi .min (.cons (.bi .len (.cons (.var 0) .nil)) (.cons (.cst (.int 62)) .nil))) (.cst (.int 2))) b_law_0)
noncomputable def e_law_1 : Ex := (.ix (.var 11) (.cst (.int 2)))
noncomputable def c_law_1 : Ex := (.lc false [11] e_law_1 (.nm 11) (.seq (.var 1)) .none)
noncomputable def b_law_1 : Sm := (.seq (.asg (.nm 7) (.call 17 (.cons (.var 1) (.cons (.var 6) .nil)))) (.seq (.asg (.nm 8) (.call 84 (.cons (.var 4) (.cons (.var 6) .nil)))) (.seq (.ifs (.or (.cmp .ne (.var 8) (.var 7)) (.one (.cmp .ne (.var 4) (.var 3)))) (.seq (.ret (.cst (.bl false))) .nil) .nil) (.seq (.ifs (.cmp .ne (.var 7) (.call 165 (.cons (.cst (.str [78, 111, 67, 104, 97, 110, 103, 101])) .nil))) (.seq (.asg (.nm 9) (.bin .add (.bin .add (.slc (.var 1) .none (.some (.var 6))) (.lst (.cons (.ix (.var 1) (.bin .add (.var 6) (.cst (.int 1)))) (.cons (.ix (.var 1) (.var 6)) .nil)))) (.slc (.var 1) (.some (.bin .add (.var 6) (.cst (.int 2)))) .none))) (.seq (.ifs (.cmp .ne (.call 84 (.cons (.var 8) (.cons (.var 6) .nil))) (.call 17 (.cons (.var 9) (.cons (.var 6) .nil)))) (.seq (.ret (.cst (.bl false))) .nil) .nil) .nil)) .nil) .nil))))
noncomputable def l_law_1 : Sm := (.fr (.nm 6) (.seq (.lst (.cons (.bin .sub (.bin .mod (.call 2 (.cons (.var 0) (.cons (.cst (.int 1)) .nil))) (.bin .add (.bi .len (.cons (.var 1) .nil)) (.cst (.int 4)))) (.cst (.int 2))) (.cons (.cst (.int 0)) (.cons (.bin .sub (.bi .len (.cons (.var 1) .nil)) (.cst (.int 2))) (.cons (.bin .sub (.bi .len (.cons (.var 1) .nil)) (.cst (.int 1))) (.cons (.var 5) .nil))))))) b_law_1)
noncomputable def n_law_0 : Sm := (.seq (.asg (.nm 3) c_law_1) (.seq (.asg (.nm 4) (.bi .list (.cons (.var 3) .nil))) (.seq (.asg (.nm 5) (.bin .sub (.bin .mod (.call 2 (.cons (.var 0) (.cons (.cst (.int 0)) .nil))) (.bin .add (.bin .mul (.cst (.int 2)) (.bin .pow (.cst (.int 10)) (.cst (.int 20)))) (.cst (.int 1)))) (.bin .pow (.cst (.int 10)) (.cst (.int 20))))) (.seq l_law_1 (.seq (.ret (.cst (.bl true))) .nil)))))
noncomputable def f_law : Fn := ⟨1, 12, (.seq (.asg (.nm 0) c_law_0) (.seq (.asg (.nm 1) (.mls .nil)) (.seq l_law_0 n_law_0)))⟩
noncomputable def Fs : List (Nat × Fn) := [(0, f_common), (6, f_whole_of_0), (7, f_fraction_read), (8, f_fraction_text), (147, f_is_name_0), (148, f_read_point), (149, f_read_span), (150, f_all_names_0), (151, f_short_row_0), (152, f_long_row), (153, f_step_of), (236, f_changed), (154, f__law_stir_0), (2, f__law_cell_1), (164, f__law_which), (165, f__law_class), (158, f__law_row_3), (84, f__law_asked_5), (17, f__law_due_6), (5, f_law), (6000, f_Step___init__), (6001, f_Step_named), (6002, f_Step_needs), (6003, f_Step_text), (6004, f_Step_word), (6005, f_Step_wants_0), (6006, f_Step_done_0), (6007, f_LineThrough_word), (6008, f_LineThrough_done_0), (6009, f_FirstPoint___init__), (6010, f_FirstPoint_text), (6011, f_FirstPoint_wants_0), (6012, f_FirstPoint_done_0), (6013, f_RingThrough_word), (6014, f_RingThrough_done_0), (6015, f_RingBy___init__), (6016, f_RingBy_text), (6017, f_RingBy_wants_0), (6018, f_RingBy_done_0), (6019, f_Cross_word), (6020, f_Cross_wants_0), (6021, f_Cross_done_0), (6022, f_Meet___init__), (6023, f_Meet_text), (6024, f_Meet_wants_0), (6025, f_Meet_done_0)]
noncomputable def subT : List (Nat × List (Nat × Bool)) := [(2, [(0, true), (1, false), (2, true), (3, false), (4, false), (5, false), (6, false), (7, false), (8, false), (9, false), (22, false), (23, false), (24, false), (25, false), (10, false), (11, false), (12, false), (13, false), (14, false), (1000, true)]), (7, [(0, true), (1, false), (2, false), (3, false), (4, false), (5, false), (6, false), (7, true), (8, false), (9, false), (22, false), (23, false), (24, false), (25, false), (10, false), (11, false), (12, false), (13, false), (14, false), (1000, true)]), (24, [(0, true), (1, false), (2, false), (3, false), (4, false), (5, false), (6, false), (7, false), (8, false), (9, false), (22, false), (23, false), (24, true), (25, false), (10, false), (11, false), (12, false), (13, false), (14, false), (1000, true)])]
noncomputable def mthT : List (Nat × List (Nat × Nat)) := [(15, [(0, 6001), (1, 6002), (2, 6003), (3, 6004), (4, 6005), (5, 6006)]), (16, [(0, 6001), (1, 6002), (2, 6003), (3, 6007), (4, 6005), (5, 6008)]), (17, [(0, 6001), (1, 6002), (2, 6010), (3, 6004), (4, 6011), (5, 6012)]), (18, [(0, 6001), (1, 6002), (2, 6003), (3, 6013), (4, 6005), (5, 6014)]), (19, [(0, 6001), (1, 6002), (2, 6016), (3, 6004), (4, 6017), (5, 6018)]), (20, [(0, 6001), (1, 6002), (2, 6003), (3, 6019), (4, 6020), (5, 6021)]), (21, [(0, 6001), (1, 6002), (2, 6023), (3, 6004), (4, 6024), (5, 6025)])]
noncomputable def iniT : List (Nat × Nat) := [(15, 6000), (16, 6000), (17, 6009), (18, 6000), (19, 6015), (20, 6000), (21, 6022)]
noncomputable def fokT : List (Nat × List Nat) := [(15, [0, 1]), (16, [0, 1]), (17, [0, 1, 2, 3]), (18, [0, 1]), (19, [0, 1, 4]), (20, [0, 1]), (21, [0, 1, 5])]
noncomputable def isnT : List (Nat × List (Nat × Bool)) := [(15, []), (16, []), (17, []), (18, []), (19, []), (20, []), (21, [])]
noncomputable def wd : Wd := { glb := fun g => ([(0, .str [48, 49, 50, 51, 52, 53, 54, 55, 56, 57]), (1, .int 60), (4, .str [97, 98, 99, 100, 101, 102, 103, 104, 105, 106, 107, 108, 109, 110, 111, 112, 113, 114, 115, 116, 117, 118, 119, 120, 121, 122])] : List (Nat × D)).lookup g, sub := fun a b => (subT.lookup a).bind fun l => l.lookup b, fok := fun c f => fokB fokT c f, mth := fun c m => (mthT.lookup c).bind fun l => l.lookup m, ini := fun c => iniT.lookup c, isn := fun a b => (isnT.lookup a).bind fun l => l.lookup b }
noncomputable def T (f : Nat) : Option Fn := Fs.lookup f
end Dp.K37

end
section
set_option linter.all false
set_option maxRecDepth 100000
/-! Pl: plain tools to reckon what code comes to. -/
namespace Dp
/-- the end of a def -/
def fin (o : Out) : Ans D := match o with
  | some (.nx _, s1) => some (.ok .non s1)
  | some (.rt d, s1) => some (.ok d s1)
  | some (.xc x _, s1) => some (.ex x s1)
  | _ => none
@[simp] theorem fin_nx (e : Nv) (s : Sto) : fin (some (.nx e, s)) = some (.ok .non s) := rfl
@[simp] theorem fin_rt (d : D) (s : Sto) : fin (some (.rt d, s)) = some (.ok d s) := rfl
@[simp] theorem fin_xc (x : D) (e : Nv) (s : Sto) : fin (some (.xc x e, s)) = some (.ex x s) := rfl
theorem den_eq {w : Wd} {T : Nat → Option Fn} {f : Nat} {fn : Fn} (h : T f = some fn) (k : Nat) (xs : List D) (st : Sto) (hl : xs.length = fn.ar) :
    den w T (k + 1) f xs st = fin (run w (den w T k) fn.body (xs.map some ++ List.replicate (fn.nm - fn.ar) none) st) := by
  show (match T f with
    | none => none
    | some fn => apply w (den w T k) fn xs st) = _
  rw [h]
  simp only [apply, hl, if_true]
  cases run w (den w T k) fn.body (xs.map some ++ List.replicate (fn.nm - fn.ar) none) st with
  | none => rfl
  | some z =>
    obtain ⟨f, s⟩ := z
    cases f <;> rfl
/-- .. the names as they stand at the start told out: the kernel then has nothing to look for -/
theorem den_run {w : Wd} {T : Nat → Option Fn} {f : Nat} {fn : Fn} (h : T f = some fn) (k : Nat) (xs : List D) (st : Sto) (env : Nv) (henv : xs.map some ++ List.replicate (fn.nm - fn.ar) none = env) (hl : xs.length = fn.ar) :
    den w T (k + 1) f xs st = fin (run w (den w T k) fn.body env st) := by
  rw [den_eq h k xs st hl, henv]
@[simp] theorem sqn_ite {p : Prop} [Decidable p] (a b : Out) (f : Nv → Sto → Out) : sqn (if p then a else b) f = if p then sqn a f else sqn b f := by split <;> rfl
@[simp] theorem fin_ite {p : Prop} [Decidable p] (a b : Out) : fin (if p then a else b) = if p then fin a else fin b := by split <;> rfl
@[simp] theorem bnd_ite {α β : Type} {p : Prop} [Decidable p] (a b : Ans α) (f : α → Sto → Ans β) : bnd (if p then a else b) f = if p then bnd a f else bnd b f := by split <;> rfl
@[simp] theorem bnS_ite {α : Type} {p : Prop} [Decidable p] (a b : Ans α) (e : Nv) (f : α → Sto → Out) : bnS (if p then a else b) e f = if p then bnS a e f else bnS b e f := by split <;> rfl
/-! ### operations by their arguments -/
@[simp] theorem view_int (st : Sto) (i : Int) : view st (.int i) = .int i := rfl
@[simp] theorem view_bl (st : Sto) (b : Bool) : view st (.bl b) = .bl b := rfl
@[simp] theorem view_str (st : Sto) (s : List Nat) : view st (.str s) = .str s := rfl
@[simp] theorem view_tup (st : Sto) (xs : List D) : view st (.tup xs) = .tup xs := rfl
@[simp] theorem view_lst (st : Sto) (xs : List D) : view st (.lst xs) = .lst xs := rfl
@[simp] theorem view_non (st : Sto) : view st .non = .non := rfl
@[simp] theorem view_exc (st : Sto) (c : Nat) (xs : List D) : view st (.exc c xs) = .exc c xs := rfl
@[simp] theorem bop_add (i j : Int) : bop .add (.int i) (.int j) = some (.int (i + j)) := rfl
@[simp] theorem bop_sub (i j : Int) : bop .sub (.int i) (.int j) = some (.int (i - j)) := rfl
@[simp] theorem bop_mul (i j : Int) : bop .mul (.int i) (.int j) = if sm i && sm j then some (.int (i * j)) else none := rfl
@[simp] theorem bop_fdiv (i j : Int) : bop .fdiv (.int i) (.int j) = if j = 0 then none else some (.int (i.fdiv j)) := rfl
@[simp] theorem bop_mod (i j : Int) : bop .mod (.int i) (.int j) = if j = 0 then none else some (.int (i.fmod j)) := rfl
@[simp] theorem bop_pow (i j : Int) : bop .pow (.int i) (.int j) = if 0 ≤ j ∧ j ≤ 1000000 ∧ i.natAbs < 2 ^ 64 then some (.int (i ^ j.toNat)) else none := rfl
@[simp] theorem bop_tup (a b : List D) : bop .add (.tup a) (.tup b) = if a.length + b.length ≤ 1000000 then some (.tup (a ++ b)) else none := rfl
@[simp] theorem bop_lst (a b : List D) : bop .add (.lst a) (.lst b) = if a.length + b.length ≤ 1000000 then some (.lst (a ++ b)) else none := rfl
@[simp] theorem bop_str (a b : List Nat) : bop .add (.str a) (.str b) = if a.length + b.length ≤ 1000000 then some (.str (a ++ b)) else none := rfl
@[simp] theorem bop_rep (a : List D) (k : Int) : bop .mul (.lst a) (.int k) = if k ≤ 1000 ∧ -1000 ≤ k ∧ a.length ≤ 1000 then some (.lst (List.replicate k.toNat a).flatten) else none := rfl
@[simp] theorem cop_lt (i j : Int) : cop .lt (.int i) (.int j) = some (decide (i < j)) := rfl
@[simp] theorem cop_le (i j : Int) : cop .le (.int i) (.int j) = some (decide (i ≤ j)) := rfl
@[simp] theorem cop_gt (i j : Int) : cop .gt (.int i) (.int j) = some (decide (j < i)) := rfl
@[simp] theorem cop_ge (i j : Int) : cop .ge (.int i) (.int j) = some (decide (j ≤ i)) := rfl
@[simp] theorem cop_eq_int (a b : Int) : cop .eq (.int a) (.int b) = some (decide (a = b)) := by simp [cop, shl, deq]
@[simp] theorem cop_ne_int (a b : Int) : cop .ne (.int a) (.int b) = some (!decide (a = b)) := by simp [cop, shl, deq]
@[simp] theorem cop_eq_bl (a b : Bool) : cop .eq (.bl a) (.bl b) = some (a == b) := by simp [cop, shl, deq]
@[simp] theorem cop_ne_bl (a b : Bool) : cop .ne (.bl a) (.bl b) = some (!(a == b)) := by simp [cop, shl, deq]
@[simp] theorem tru_bl (b : Bool) : tru (.bl b) = some b := rfl
@[simp] theorem tru_int (i : Int) : tru (.int i) = some (i != 0) := rfl
@[simp] theorem tru_non : tru .non = some false := rfl
@[simp] theorem tru_tup (xs : List D) : tru (.tup xs) = some (!xs.isEmpty) := rfl
@[simp] theorem tru_lst (xs : List D) : tru (.lst xs) = some (!xs.isEmpty) := rfl
@[simp] theorem bfn_len_tup (xs : List D) : bfn .len [.tup xs] = some (.int xs.length) := rfl
@[simp] theorem bfn_len_lst (xs : List D) : bfn .len [.lst xs] = some (.int xs.length) := rfl
@[simp] theorem bfn_len_str (s : List Nat) : bfn .len [.str s] = if s.length ≤ 1000000 then some (.int s.length) else none := rfl
@[simp] theorem bfn_abs (i : Int) : bfn .abs [.int i] = some (.int (i.natAbs : Int)) := by
  show some (D.int (if i < 0 then -i else i)) = _
  congr 2
  split <;> omega
@[simp] theorem bfn_int_int (i : Int) : bfn .int [.int i] = some (.int i) := rfl
@[simp] theorem bfn_int_bl (b : Bool) : bfn .int [.bl b] = some (.int (if b then 1 else 0)) := rfl
@[simp] theorem bfn_str (i : Int) : bfn .str [.int i] = if i.natAbs.log2 < 1920 then some (.str (showInt i)) else none := rfl
@[simp] theorem bfn_tuple_tup (xs : List D) : bfn .tuple [.tup xs] = some (.tup xs) := rfl
@[simp] theorem bfn_tuple_lst (xs : List D) : bfn .tuple [.lst xs] = some (.tup xs) := rfl
@[simp] theorem bfn_list_tup (xs : List D) : bfn .list [.tup xs] = some (.lst xs) := rfl
@[simp] theorem bfn_list_lst (xs : List D) : bfn .list [.lst xs] = some (.lst xs) := rfl
@[simp] theorem bfn_sum (xs : List D) : bfn .sum [.lst xs] = (intsOf xs).map fun ns => .int ns.sum := rfl
@[simp] theorem bfn_all (xs : List D) : bfn .all [.lst xs] = (blsOf xs).map fun bs => .bl (bs.all id) := rfl
@[simp] theorem bfn_max (i j : Int) : bfn .max [.int i, .int j] = some (.int (if j > i then j else i)) := rfl
@[simp] theorem bfn_min (i j : Int) : bfn .min [.int i, .int j] = some (.int (if j < i then j else i)) := rfl
@[simp] theorem ixd_tup (xs : List D) (i : Int) : ixd (.tup xs) (.int i) = atI xs i := rfl
@[simp] theorem ixd_lst (xs : List D) (i : Int) : ixd (.lst xs) (.int i) = atI xs i := rfl
@[simp] theorem isTy_ce (s : Nat → Nat → Option Bool) (c x : Nat) (xs : List D) : isTy s (.cls c) (.exc x xs) = s x c := rfl
@[simp] theorem isTy_cn (s : Nat → Nat → Option Bool) (c : Nat) : isTy s (.cls c) .non = (s c c).map fun _ => false := rfl
@[simp] theorem isTy_ii (s : Nat → Nat → Option Bool) (i : Int) : isTy s .int (.int i) = some true := rfl
@[simp] theorem isTy_ib (s : Nat → Nat → Option Bool) (b : Bool) : isTy s .int (.bl b) = some true := rfl
@[simp] theorem isTy_bi (s : Nat → Nat → Option Bool) (i : Int) : isTy s .bool (.int i) = some false := rfl
@[simp] theorem isTy_bb (s : Nat → Nat → Option Bool) (b : Bool) : isTy s .bool (.bl b) = some true := rfl
@[simp] theorem isTy_tt (s : Nat → Nat → Option Bool) (xs : List D) : isTy s .tuple (.tup xs) = some true := rfl
@[simp] theorem isTy_ti (s : Nat → Nat → Option Bool) (i : Int) : isTy s .tuple (.int i) = some false := rfl
@[simp] theorem isTy_ss (s : Nat → Nat → Option Bool) (z : List Nat) : isTy s .str (.str z) = some true := rfl
@[simp] theorem isTy_ll (s : Nat → Nat → Option Bool) (xs : List D) : isTy s .list (.lst xs) = some true := rfl
@[simp] theorem isTyS_int (st : Sto) (s : Nat → Nat → Option Bool) (t : Ty) (i : Int) : isTyS st s t (.int i) = isTy s t (.int i) := rfl
@[simp] theorem isTyS_bl (st : Sto) (s : Nat → Nat → Option Bool) (t : Ty) (i : Bool) : isTyS st s t (.bl i) = isTy s t (.bl i) := rfl
@[simp] theorem isTyS_str (st : Sto) (s : Nat → Nat → Option Bool) (t : Ty) (i : List Nat) : isTyS st s t (.str i) = isTy s t (.str i) := rfl
@[simp] theorem isTyS_tup (st : Sto) (s : Nat → Nat → Option Bool) (t : Ty) (i : List D) : isTyS st s t (.tup i) = isTy s t (.tup i) := rfl
@[simp] theorem isTyS_lst (st : Sto) (s : Nat → Nat → Option Bool) (t : Ty) (i : List D) : isTyS st s t (.lst i) = isTy s t (.lst i) := rfl
@[simp] theorem isTyS_non (st : Sto) (s : Nat → Nat → Option Bool) (t : Ty) : isTyS st s t .non = isTy s t .non := rfl
@[simp] theorem isTyS_exc (st : Sto) (s : Nat → Nat → Option Bool) (t : Ty) (c : Nat) (xs : List D) : isTyS st s t (.exc c xs) = isTy s t (.exc c xs) := rfl
@[simp] theorem sld_tup (lo hi : Option Int) (xs : List D) : sld lo hi (.tup xs) = some (.tup (cut xs lo hi)) := rfl
@[simp] theorem sld_lst (lo hi : Option Int) (xs : List D) : sld lo hi (.lst xs) = some (.lst (cut xs lo hi)) := rfl
@[simp] theorem srcs_tup (xs : List D) : srcs (.tup xs) = some (.its xs) := rfl
@[simp] theorem srcs_lst (xs : List D) : srcs (.lst xs) = some (.its xs) := rfl
/-! ### sizes -/
/-- below 2^n off nought -/
def Lt (n : Nat) (i : Int) : Prop := i.natAbs < 2 ^ n
theorem sm_of {n : Nat} {i : Int} (h : Lt n i) (hn : n ≤ 67000000) : sm i = true := by
  unfold sm
  simp only [decide_eq_true_eq]
  by_cases h0 : i.natAbs = 0
  · rw [h0]; decide
  · exact Nat.lt_of_lt_of_le ((Nat.log2_lt h0).mpr h) hn
theorem Lt.mono {n m : Nat} {i : Int} (h : Lt n i) (hm : n ≤ m) : Lt m i := Nat.lt_of_lt_of_le h (Nat.pow_le_pow_right (by decide) hm)
theorem Lt.mul {n m : Nat} {i j : Int} (h : Lt n i) (g : Lt m j) : Lt (n + m) (i * j) := by
  unfold Lt
  rw [Int.natAbs_mul, Nat.pow_add]
  exact Nat.mul_lt_mul'' h g
theorem Lt.add {n : Nat} {i j : Int} (h : Lt n i) (g : Lt n j) : Lt (n + 1) (i + j) := by
  unfold Lt at *
  have := Int.natAbs_add_le i j
  rw [Nat.pow_succ]
  omega
theorem Lt.sub {n : Nat} {i j : Int} (h : Lt n i) (g : Lt n j) : Lt (n + 1) (i - j) := by
  unfold Lt at *
  have := Int.natAbs_sub_le i j
  rw [Nat.pow_succ]
  omega
theorem Lt.neg {n : Nat} {i : Int} (h : Lt n i) : Lt n (-i) := by
  unfold Lt at *
  omega
theorem Lt.fdiv {n : Nat} {i j : Int} (h : Lt n i) : Lt (n + 1) (i.fdiv j) := by
  unfold Lt at *
  have h1 : (i.fdiv j).natAbs ≤ i.natAbs + 1 := by
    have := Int.natAbs_fdiv_le_natAbs i j
    omega
  rw [Nat.pow_succ]
  omega
@[simp] theorem sm_m1 : sm (-1) = true := by decide
@[simp] theorem sm_zero : sm 0 = true := by decide
@[simp] theorem sm_one : sm 1 = true := by decide
@[simp] theorem sm_two : sm 2 = true := by decide
/-! ### loops -/
theorem walk_inv {body : D → Nv → Sto → Out} (I : Nv → Sto → Prop) : ∀ (xs : List D) (env : Nv) (st : Sto), I env st → (∀ x ∈ xs, ∀ e s, I e s → ∃ e' s', body x e s = some (.nx e', s') ∧ I e' s') → ∃ e' s', walk body xs env st = some (.nx e', s') ∧ I e' s'
  | [], env, st, h, _ => ⟨env, st, rfl, h⟩
  | x :: xs, env, st, h, hb => by
    obtain ⟨e1, s1, h1, i1⟩ := hb x List.mem_cons_self env st h
    obtain ⟨e2, s2, h2, i2⟩ := walk_inv I xs e1 s1 i1 fun y hy => hb y (List.mem_cons_of_mem _ hy)
    exact ⟨e2, s2, by simp only [walk, h1, trn_nx, h2], i2⟩
theorem walk_fold {α β : Type} {body : D → Nv → Sto → Out} (f : α → β → α) (E : α → Nv) (d : β → D) (st : Sto) : ∀ (xs : List β) (a : α), (∀ x ∈ xs, ∀ a, body (d x) (E a) st = some (.nx (E (f a x)), st)) → walk body (xs.map d) (E a) st = some (.nx (E (xs.foldl f a)), st)
  | [], a, _ => rfl
  | x :: xs, a, h => by
    simp only [List.map_cons, walk, h x List.mem_cons_self a, trn_nx, List.foldl_cons]
    exact walk_fold f E d st xs (f a x) fun y hy => h y (List.mem_cons_of_mem _ hy)
theorem comp_map {α : Type} {body : D → Sto → Ans (Option D)} (d : α → D) (g : α → D) (st : Sto) : ∀ (xs : List α), (∀ x ∈ xs, body (d x) st = some (.ok (some (g x)) st)) → comp body (xs.map d) st = some (.ok (xs.map g) st)
  | [], _ => rfl
  | x :: xs, h => by
    simp only [List.map_cons, comp, h x List.mem_cons_self, bnd_ok, comp_map d g st xs fun y hy => h y (List.mem_cons_of_mem _ hy)]
@[simp] theorem atI_nat {α : Type} (xs : List α) (i : Nat) : atI xs (i : Int) = xs[i]? := by
  unfold atI ixN
  rw [if_pos (by omega)]
  by_cases h : i < xs.length
  · rw [if_pos (by omega)]
    simp
  · rw [if_neg (by omega)]
    simp
    omega
@[simp] theorem atI_0 {α : Type} (xs : List α) : atI xs 0 = xs[0]? := atI_nat xs 0
@[simp] theorem atI_1 {α : Type} (xs : List α) : atI xs 1 = xs[1]? := atI_nat xs 1
@[simp] theorem atI_2 {α : Type} (xs : List α) : atI xs 2 = xs[2]? := atI_nat xs 2
@[simp] theorem atI_3 {α : Type} (xs : List α) : atI xs 3 = xs[3]? := atI_nat xs 3
@[simp] theorem atI_4 {α : Type} (xs : List α) : atI xs 4 = xs[4]? := atI_nat xs 4
@[simp] theorem atI_5 {α : Type} (xs : List α) : atI xs 5 = xs[5]? := atI_nat xs 5
@[simp] theorem atI_6 {α : Type} (xs : List α) : atI xs 6 = xs[6]? := atI_nat xs 6
@[simp] theorem atI_7 {α : Type} (xs : List α) : atI xs 7 = xs[7]? := atI_nat xs 7
@[simp] theorem atI_8 {α : Type} (xs : List α) : atI xs 8 = xs[8]? := atI_nat xs 8
@[simp] theorem atI_9 {α : Type} (xs : List α) : atI xs 9 = xs[9]? := atI_nat xs 9
@[simp] theorem atI_10 {α : Type} (xs : List α) : atI xs 10 = xs[10]? := atI_nat xs 10
@[simp] theorem atI_11 {α : Type} (xs : List α) : atI xs 11 = xs[11]? := atI_nat xs 11
@[simp] theorem atI_12 {α : Type} (xs : List α) : atI xs 12 = xs[12]? := atI_nat xs 12
@[simp] theorem atI_13 {α : Type} (xs : List α) : atI xs 13 = xs[13]? := atI_nat xs 13
@[simp] theorem atI_14 {α : Type} (xs : List α) : atI xs 14 = xs[14]? := atI_nat xs 14
@[simp] theorem atI_15 {α : Type} (xs : List α) : atI xs 15 = xs[15]? := atI_nat xs 15
@[simp] theorem atI_16 {α : Type} (xs : List α) : atI xs 16 = xs[16]? := atI_nat xs 16
@[simp] theorem atI_17 {α : Type} (xs : List α) : atI xs 17 = xs[17]? := atI_nat xs 17
@[simp] theorem atI_18 {α : Type} (xs : List α) : atI xs 18 = xs[18]? := atI_nat xs 18
@[simp] theorem atI_19 {α : Type} (xs : List α) : atI xs 19 = xs[19]? := atI_nat xs 19
/-- for, over items as they stand -/
theorem fr_fold {α β : Type} {w : Wd} {Φ : Nat → List D → Sto → Ans D} {tg : Tg} {it : Wk} {b : Sm} {env : Nv} {st s1 : Sto} {d : β → D} (f : α → β → α) (E : α → Nv) (xs : List β) (a : α) (h1 : evi w Φ it env st = some (.ok (.its (xs.map d)) s1)) (he : env = E a)
    (h2 : ∀ x ∈ xs, ∀ a, ∃ e', asgn tg (d x) (E a) = some e' ∧ run w Φ b e' s1 = some (.nx (E (f a x)), s1)) : run w Φ (.fr tg it b) env st = some (.nx (E (xs.foldl f a)), s1) := by
  subst he
  simp only [run, h1, bnS_ok, walkS]
  refine walk_fold f E d s1 xs a fun x hx a => ?_
  obtain ⟨e', q1, q2⟩ := h2 x hx a
  simp only [q1, q2]
/-- [e for tg in ..] over items as they stand -/
theorem lc_its {α : Type} {w : Wd} {Φ : Nat → List D → Sto → Ans D} {own : List Nat} {e : Ex} {tg : Tg} {it : Wk} {env : Nv} {st s1 : Sto} {d : α → D} (xs : List α) (g : α → D) (h1 : evi w Φ it env st = some (.ok (.its (xs.map d)) s1))
    (h2 : ∀ x ∈ xs, ∃ env', asgn tg (d x) (wipe env own) = some env' ∧ ev w Φ e env' s1 = some (.ok (g x) s1)) (hl : xs.length ≤ 1000000) : ev w Φ (.lc false own e tg it .none) env st = some (.ok (.lst (xs.map g)) s1) := by
  rw [ev_lc, h1]
  simp only [bnd_ok, compS]
  rw [comp_map d g s1 xs fun x hx => ?_]
  · simp only [bnd_ok, List.length_map, if_pos hl]
    rfl
  · obtain ⟨env', e1, e2⟩ := h2 x hx
    unfold lcBody
    simp only [e1, bnd_ok, if_true, e2, noex_ok]
end Dp

end
section
set_option linter.all false
set_option maxRecDepth 100000
/-! Pa: what the defs of sums.py and the law's own come to. -/
namespace Dp
variable {w : Wd} {T : Nat → Option Fn}
def tupI (l : List Int) : D := .tup (l.map .int)
def numD (t : List Int) (b : Int) : D := .tup [tupI t, .int b]

/-! ### greatest common divisors -/
def gl (b : Nat) (t : List Int) : Nat := t.foldl (fun s x => Nat.gcd s x.natAbs) b

section
variable {Φ : Nat → List D → Sto → Ans D}
theorem euclid_loop (st : Sto) (v0 v1 : Option D) : ∀ (n : Nat) (a b : Nat) (v : Option D), b ≤ n →
    ∃ v', run w Φ l_common_0 [v0, v1, some (.int a), some (.int b), v] st
      = some (.nx [v0, v1, some (.int (Nat.gcd a b)), some (.int 0), v'], st) := by
  show ∀ (n : Nat) (a b : Nat) (v : Option D), b ≤ n → ∃ v', whle (evt w Φ t_common_0) (run w Φ b_common_0) _ st = _
  have hW := @whle_eq (evt w Φ t_common_0) (run w Φ b_common_0)
  generalize whle (evt w Φ t_common_0) (run w Φ b_common_0) = W at hW ⊢
  intro n
  induction n with
  | zero =>
    intro a b v hb
    obtain rfl : b = 0 := by omega
    refine ⟨v, ?_⟩
    rw [hW]
    simp [t_common_0, evt, ev]
  | succ n ih =>
    intro a b v hb
    by_cases h0 : b = 0
    · subst h0
      refine ⟨v, ?_⟩
      rw [hW]
      simp [t_common_0, evt, ev]
    · have hlt : a % b < b := Nat.mod_lt _ (Nat.pos_of_ne_zero h0)
      obtain ⟨v', hv⟩ := ih b (a % b) (some (.int (a % b : Nat))) (by omega)
      refine ⟨v', ?_⟩
      have e1 : ((b : Int) ≠ 0) := by omega
      have e2 : ((a : Int).fmod b) = ((a % b : Nat) : Int) := by
        rw [Int.fmod_eq_emod_of_nonneg _ (by omega)]
        rfl
      rw [show Nat.gcd a b = Nat.gcd b (a % b) by rw [Nat.gcd_comm a b, Nat.gcd_rec b a, Nat.gcd_comm]]
      rw [hW]
      simp [t_common_0, b_common_0, evt, ev, run, e1, h0, e2]
      exact hv
end
theorem abs_nat (x : Int) : (if x < 0 then -x else x) = (x.natAbs : Int) := by split <;> omega
theorem common_spec (h : T g_common = some f_common) (k : Nat) (a b : Int) (st : Sto) : den w T (k + 1) g_common [.int a, .int b] st = some (.ok (.int (Nat.gcd a.natAbs b.natAbs)) st) := by
  rw [den_eq h _ _ _ rfl]
  obtain ⟨v', hv⟩ := euclid_loop (w := w) (Φ := den w T k) st (some (.int a)) (some (.int b)) b.natAbs a.natAbs b.natAbs none (Nat.le_refl _)
  simp [f_common, run, ev, evs, abs_nat, hv]
/-! ### lists of whole numbers -/
theorem shl_tupI (n : Nat) (l : List Int) : shl (n + 1) (tupI l) = true := by
  unfold tupI
  simp [shl]
theorem deqs_ints : ∀ l m : List Int, deqs (l.map D.int) (m.map D.int) = some (decide (l = m))
  | [], [] => by simp [deqs]
  | [], _ :: _ => by simp [deqs]
  | _ :: _, [] => by simp [deqs]
  | x :: l, y :: m => by
    simp only [List.map_cons, deqs, deqs_ints l m, deq]
    congr 1
    by_cases h : x = y <;> by_cases h2 : l = m <;> simp [h, h2]
theorem deq_tupI (l m : List Int) : deq (tupI l) (tupI m) = some (decide (l = m)) := by
  unfold tupI
  simp only [deq, deqs_ints]
theorem deq_numD (l m : List Int) (a b : Int) : deq (numD l a) (numD m b) = some (decide (l = m) && decide (a = b)) := by
  unfold numD
  simp only [deq, deqs, deq_tupI]
  simp
theorem shl_numD (n : Nat) (l : List Int) (b : Int) : shl (n + 2) (numD l b) = true := by
  unfold numD
  simp [shl, shl_tupI]
@[simp] theorem view_tupI (st : Sto) (l : List Int) : view st (tupI l) = tupI l := rfl
@[simp] theorem view_numD (st : Sto) (l : List Int) (b : Int) : view st (numD l b) = numD l b := rfl
@[simp] theorem ixd_num0 (l : List Int) (b : Int) : ixd (numD l b) (.int 0) = some (tupI l) := rfl
@[simp] theorem ixd_num1 (l : List Int) (b : Int) : ixd (numD l b) (.int 1) = some (.int b) := rfl
@[simp] theorem cop_eq_tupI (l m : List Int) : cop .eq (tupI l) (tupI m) = some (decide (l = m)) := by
  have h : ∀ l, shl 60 (tupI l) = true := fun l => shl_tupI 59 l
  simp [cop, h, deq_tupI]
@[simp] theorem cop_ne_tupI (l m : List Int) : cop .ne (tupI l) (tupI m) = some (!decide (l = m)) := by
  have h : ∀ l, shl 60 (tupI l) = true := fun l => shl_tupI 59 l
  simp [cop, h, deq_tupI]
@[simp] theorem cop_eq_numD (l m : List Int) (a b : Int) : cop .eq (numD l a) (numD m b) = some (decide (l = m) && decide (a = b)) := by
  have h : ∀ l a, shl 60 (numD l a) = true := fun l a => shl_numD 58 l a
  simp [cop, h, deq_numD]
@[simp] theorem cop_ne_numD (l m : List Int) (a b : Int) : cop .ne (numD l a) (numD m b) = some (!(decide (l = m) && decide (a = b))) := by
  have h : ∀ l a, shl 60 (numD l a) = true := fun l a => shl_numD 58 l a
  simp [cop, h, deq_numD]
@[simp] theorem isTy_num (s : Nat → Nat → Option Bool) (l : List Int) (b : Int) : isTy s .tuple (numD l b) = some true := rfl
@[simp] theorem isTy_tupI (s : Nat → Nat → Option Bool) (l : List Int) : isTy s .tuple (tupI l) = some true := rfl
@[simp] theorem len_tupI (l : List Int) : bfn .len [tupI l] = some (.int l.length) := by simp [bfn, tupI]
@[simp] theorem len_num (l : List Int) (b : Int) : bfn .len [numD l b] = some (.int 2) := rfl
def addL (l m : List Int) : List Int := (l.zip m).map fun p => p.1 + p.2
/-! ### made -/
/-- in lowest terms, the bottom from 1 on -/
structure Low (t : List Int) (b : Int) : Prop where
  pos : 1 ≤ b
  one : gl b.natAbs t = 1
end Dp

end
section
set_option linter.all false
namespace Dp
/-! Qd: numbers over one root more; ring laws. -/
section
variable {A : Type} [i : Lean.Grind.CommRing A] (r : A)
@[reducible] local instance ca_nat : NatCast A := Lean.Grind.Semiring.natCast
@[reducible] local instance ca_int : IntCast A := Lean.Grind.Ring.intCast
@[reducible] local instance ca_nsm : SMul Nat A := Lean.Grind.Semiring.nsmul
@[reducible] local instance ca_zsm : SMul Int A := Lean.Grind.Ring.zsmul
@[reducible] def quad : Lean.Grind.CommRing (A × A) where
  add x y := (x.1 + y.1, x.2 + y.2)
  mul x y := (x.1 * y.1 + r * (x.2 * y.2), x.1 * y.2 + x.2 * y.1)
  neg x := (-x.1, -x.2)
  sub x y := (x.1 - y.1, x.2 - y.2)
  natCast := ⟨fun n => ((NatCast.natCast n : A), 0)⟩
  ofNat n := ⟨(OfNat.ofNat n, 0)⟩
  nsmul := ⟨fun n x => (n • x.1, n • x.2)⟩
  npow := ⟨fun x n => Nat.rec ((1, 0) : A × A) (fun _ y => (y.1 * x.1 + r * (y.2 * x.2), y.1 * x.2 + y.2 * x.1)) n⟩
  intCast := ⟨fun n => ((IntCast.intCast n : A), 0)⟩
  zsmul := ⟨fun n x => (n • x.1, n • x.2)⟩
  add_zero := by intro ⟨a, b⟩; show (a + 0, b + 0) = (a, b); rw [Lean.Grind.Semiring.add_zero, Lean.Grind.Semiring.add_zero]
  add_comm := by intro ⟨a, b⟩ ⟨c, d⟩; show (a + c, b + d) = (c + a, d + b); congr 1 <;> grind
  add_assoc := by intro ⟨a, b⟩ ⟨c, d⟩ ⟨e, f⟩; show (a + c + e, b + d + f) = (a + (c + e), b + (d + f)); congr 1 <;> grind
  mul_assoc := by intro ⟨a, b⟩ ⟨c, d⟩ ⟨e, f⟩; show ((a * c + r * (b * d)) * e + r * ((a * d + b * c) * f), (a * c + r * (b * d)) * f + (a * d + b * c) * e) = (a * (c * e + r * (d * f)) + r * (b * (c * f + d * e)), a * (c * f + d * e) + b * (c * e + r * (d * f))); congr 1 <;> grind
  mul_one := by intro ⟨a, b⟩; show (a * 1 + r * (b * 0), a * 0 + b * 1) = (a, b); congr 1 <;> grind
  one_mul := by intro ⟨a, b⟩; show (1 * a + r * (0 * b), 1 * b + 0 * a) = (a, b); congr 1 <;> grind
  left_distrib := by intro ⟨a, b⟩ ⟨c, d⟩ ⟨e, f⟩; show (a * (c + e) + r * (b * (d + f)), a * (d + f) + b * (c + e)) = (a * c + r * (b * d) + (a * e + r * (b * f)), a * d + b * c + (a * f + b * e)); congr 1 <;> grind
  right_distrib := by intro ⟨a, b⟩ ⟨c, d⟩ ⟨e, f⟩; show ((a + c) * e + r * ((b + d) * f), (a + c) * f + (b + d) * e) = (a * e + r * (b * f) + (c * e + r * (d * f)), a * f + b * e + (c * f + d * e)); congr 1 <;> grind
  zero_mul := by intro ⟨a, b⟩; show ((0 : A) * a + r * (0 * b), 0 * b + 0 * a) = (0, 0); congr 1 <;> grind
  mul_zero := by intro ⟨a, b⟩; show (a * 0 + r * (b * 0), a * 0 + b * 0) = (0, 0); congr 1 <;> grind
  mul_comm := by intro ⟨a, b⟩ ⟨c, d⟩; show (a * c + r * (b * d), a * d + b * c) = (c * a + r * (d * b), c * b + d * a); congr 1 <;> grind
  pow_zero := by intro x; rfl
  pow_succ := by intro x n; rfl
  ofNat_succ := by intro n; show ((OfNat.ofNat (n + 1) : A), (0 : A)) = ((OfNat.ofNat n : A) + 1, 0 + 0); congr 1 <;> first | rw [Lean.Grind.Semiring.ofNat_succ] | grind
  ofNat_eq_natCast := by intro n; show ((OfNat.ofNat n : A), (0 : A)) = ((NatCast.natCast n : A), 0); congr 1; exact Lean.Grind.Semiring.ofNat_eq_natCast n
  nsmul_eq_natCast_mul := by
    intro n ⟨a, b⟩
    show (n • a, n • b) = ((Nat.cast n : A) * a + r * (0 * b), (Nat.cast n : A) * b + 0 * a)
    have h1 := Lean.Grind.Semiring.nsmul_eq_natCast_mul n a
    have h2 := Lean.Grind.Semiring.nsmul_eq_natCast_mul n b
    rw [h1, h2]
    generalize (Nat.cast n : A) = c
    congr 1 <;> grind
  neg_add_cancel := by intro ⟨a, b⟩; show (-a + a, -b + b) = (0, 0); congr 1 <;> grind
  sub_eq_add_neg := by intro ⟨a, b⟩ ⟨c, d⟩; show (a - c, b - d) = (a + -c, b + -d); congr 1 <;> grind
  neg_zsmul := by intro n ⟨a, b⟩; show ((-n) • a, (-n) • b) = (-(n • a), -(n • b)); rw [Lean.Grind.Ring.neg_zsmul, Lean.Grind.Ring.neg_zsmul]
  zsmul_natCast_eq_nsmul := by intro n ⟨a, b⟩; show ((n : Int) • a, (n : Int) • b) = (n • a, n • b); rw [Lean.Grind.Ring.zsmul_natCast_eq_nsmul, Lean.Grind.Ring.zsmul_natCast_eq_nsmul]
  intCast_ofNat := by intro n; show ((IntCast.intCast (OfNat.ofNat n : Int) : A), (0 : A)) = ((OfNat.ofNat n : A), 0); congr 1; exact Lean.Grind.Ring.intCast_ofNat n
  intCast_neg := by intro n; show ((IntCast.intCast (-n) : A), (0 : A)) = (-(IntCast.intCast n : A), -0); congr 1 <;> first | exact Lean.Grind.Ring.intCast_neg n | grind
end
/-- numbers over n roots: whole numbers, pairs, pairs of pairs .. -/
def E : Nat → Type
  | 0 => Int
  | n + 1 => E n × E n
/-- the roots -/
abbrev Rt := (n : Nat) → E n
/-- the ring over the first n of the roots R -/
def Q (R : Rt) (n : Nat) : Type := E n
@[reducible] def Qring (R : Rt) : (n : Nat) → Lean.Grind.CommRing (E n)
  | 0 => (inferInstance : Lean.Grind.CommRing Int)
  | n + 1 => @quad (E n) (Qring R n) (R n)
instance (R : Rt) (n : Nat) : Lean.Grind.CommRing (Q R n) := Qring R n
example (R : Rt) (n : Nat) (x y z : Q R n) : (x + y) * z = z * y + x * z := by grind
end Dp

end
section
set_option linter.all false
set_option maxRecDepth 100000
/-! Pb: products over roots. -/
namespace Dp
variable {w : Wd} {T : Nat → Option Fn}
def flaE : (n : Nat) → E n → List Int
  | 0, x => [x]
  | n + 1, x => flaE n x.1 ++ flaE n x.2
def fla {R : Rt} (n : Nat) (x : Q R n) : List Int := flaE n x
/-- a list of the right length is a number -/
def unfla : (n : Nat) → List Int → E n
  | 0, l => l.headD 0
  | n + 1, l => (unfla n (l.take (2 ^ n)), unfla n (l.drop (2 ^ n)))
abbrev q (R : Rt) {n : Nat} (x : E n) : Q R n := x
def pr {R : Rt} {n : Nat} (a b : Q R n) : Q R (n + 1) := (a, b)
/-- a whole number -/
def kon (R : Rt) : (n : Nat) → Int → Q R n
  | 0, c => c
  | n + 1, c => pr (kon R n c) (0 : Q R n)
/-! ### sizes -/
def B (b : Nat) (l : List Int) : Prop := ∀ i ∈ l, Lt b i
theorem B.mono {b c : Nat} {l : List Int} (h : B b l) (hc : b ≤ c) : B c l := fun i hi => (h i hi).mono hc
theorem B.app {b : Nat} {l m : List Int} (h : B b l) (g : B b m) : B b (l ++ m) := fun i hi => by
  rcases List.mem_append.mp hi with q | q
  · exact h i q
  · exact g i q
theorem B.left {b : Nat} {l m : List Int} (h : B b (l ++ m)) : B b l := fun i hi => h i (List.mem_append_left _ hi)
theorem B.right {b : Nat} {l m : List Int} (h : B b (l ++ m)) : B b m := fun i hi => h i (List.mem_append_right _ hi)
theorem B.add {b : Nat} : ∀ {l m : List Int}, B b l → B b m → B (b + 1) (addL l m) := fun {l m} h g i hi => by
  unfold addL at hi
  obtain ⟨p, hp, rfl⟩ := List.mem_map.mp hi
  have := List.of_mem_zip (a := p.1) (b := p.2) hp
  exact (h _ this.1).add (g _ this.2)
def grw (r : Nat) : Nat → Nat
  | 0 => 0
  | n + 1 => 2 * grw r n + r + 1
/-! ### the roots as they are told -/
def rts (R : Rt) : Nat → List D
  | 0 => []
  | n + 1 => rts R n ++ [tupI (fla n (q R (R n)))]
theorem cut_to {α : Type} (l m : List α) (k : Nat) (h : l.length = k) : cut (l ++ m) none (some (k : Int)) = l := by
  have e1 : sIx (l ++ m).length 0 none = 0 := rfl
  have e2 : sIx (l ++ m).length (l ++ m).length (some (k : Int)) = k := by
    simp only [sIx, List.length_append]
    rw [if_neg (by omega)]
    omega
  unfold cut
  rw [e1, e2]
  simp [← h]
theorem cut_from {α : Type} (l m : List α) (k : Nat) (h : l.length = k) : cut (l ++ m) (some (k : Int)) none = m := by
  have e1 : sIx (l ++ m).length 0 (some (k : Int)) = k := by
    simp only [sIx, List.length_append]
    rw [if_neg (by omega)]
    omega
  have e2 : sIx (l ++ m).length (l ++ m).length none = l.length + m.length := by simp [sIx]
  unfold cut
  rw [e1, e2, ← h]
  simp
end Dp

end
section
set_option linter.all false
set_option maxRecDepth 100000
/-! Pc: the products of the program and of the laws. -/
namespace Dp
variable {w : Wd} {T : Nat → Option Fn}
theorem B.of_scl {b : Nat} {s : Int} {t t' : List Int} (h : B b t) (e : t = t'.map (s * ·)) (hs : s ≠ 0) : B b t' := fun i hi => by
  have h1 := h (s * i) (by rw [e]; exact List.mem_map.mpr ⟨i, hi, rfl⟩)
  unfold Lt at *
  rw [Int.natAbs_mul] at h1
  exact Nat.lt_of_le_of_lt (Nat.le_mul_of_pos_left _ (by omega)) h1
theorem Lt.of_scl {b : Nat} {s i j : Int} (h : Lt b j) (e : j = s * i) (hs : s ≠ 0) : Lt b i := by
  subst e
  unfold Lt at *
  rw [Int.natAbs_mul] at h
  exact Nat.lt_of_le_of_lt (Nat.le_mul_of_pos_left _ (by omega)) h
theorem B.sm {b : Nat} {t : List Int} (h : B b t) (hb : b ≤ 67000000) : ∀ x ∈ t, sm x = true := fun x hx => sm_of (h x hx) hb
end Dp

end
section
set_option linter.all false
set_option maxRecDepth 100000
/-! Pd: what the laws draw of a script. -/
namespace Dp
variable {w : Wd} {T : Nat → Option Fn}
/-- the script -/
def scr (ns : List Int) : D := .lst (ns.map .int)
def cel (ns : List Int) (i : Nat) : Int := ns[i]?.getD 0
@[simp] theorem view_scr (st : Sto) (ns : List Int) : view st (scr ns) = scr ns := rfl
theorem fmod_rng (a : Int) {m : Int} (h : 0 < m) : 0 ≤ a.fmod m ∧ a.fmod m < m := by
  rw [Int.fmod_eq_emod_of_nonneg _ (by omega)]
  exact ⟨Int.emod_nonneg _ (by omega), Int.emod_lt_of_pos _ h⟩
def mixC : List Int := [271828183, 314159269, 161803399, 141421357, 173205081, 223606797, 244948975, 264575131, 331662479, 360555127]
def mix (z : Int) (k : Nat) (m : Int) : Int := (((z + 1) * (mixC[k]?.getD 0)).fmod 1000000007).fmod m
/-! ### scaffolds -/
def mkR (m a b c0 c1 c2 c3 : Int) : Rt
  | 0 => m
  | 1 => (a, b)
  | 2 => ((c0, c1), (c2, c3))
  | n + 3 => unfla (n + 3) []
def primes6 : List Int := [2, 3, 5, 7, 11, 13]
/-- what a drawn scaffold is like -/
inductive Scf : Rt → Prop where
  | nest (r u a b c k : Int) (hr : 1 ≤ r ∧ r ≤ 6) (hu : 0 ≤ u ∧ u < 2 * r) (hb : 1 ≤ b ∧ b ≤ 3) (hk : 1 ≤ k ∧ k ≤ 3) (ha : 0 ≤ a ∧ a ≤ b * r) (hc : 0 ≤ c ∧ c < k) : Scf (mkR (r * r + 1 + u) a b c 0 k 0)
  | prim (i : Nat) (hi : i < 6) : Scf (mkR (primes6[i]?.getD 0) (primes6[(i + 1) % 6]?.getD 0) 0 (primes6[(i + 2) % 6]?.getD 0) 0 0 0)
theorem Lt.small {n : Nat} {i : Int} (h : -(2 ^ n : Nat) < i ∧ i < (2 ^ n : Nat)) : Lt n i := by
  unfold Lt
  omega
theorem Scf.B {R : Rt} (h : Scf R) : ∀ i < 3, B 6 (fla i (q R (R i))) := by
  have key : ∀ (m a b c0 c1 c2 c3 : Int), (∀ x ∈ [m, a, b, c0, c1, c2, c3], -64 < x ∧ x < 64) → ∀ i < 3, Dp.B 6 (fla i (q (mkR m a b c0 c1 c2 c3) (mkR m a b c0 c1 c2 c3 i))) := by
    intro m a b c0 c1 c2 c3 hx i hi y hy
    refine Lt.small (n := 6) ?_
    rcases i with _ | _ | _ | i
    · have hy : y ∈ [m] := hy
      exact hx y (by simp at hy ⊢; exact .inl hy)
    · have hy : y ∈ [a, b] := hy
      exact hx y (by simp at hy ⊢; rcases hy with h | h <;> simp [h])
    · have hy : y ∈ [c0, c1, c2, c3] := hy
      exact hx y (by simp at hy ⊢; rcases hy with h | h | h | h <;> simp [h])
    · omega
  cases h with
  | nest r u a b c k hr hu hb hk ha hc =>
    refine key _ _ _ _ _ _ _ fun x hx => ?_
    have h1 : r * r ≤ 36 := by
      have : r * r ≤ 6 * 6 := Int.mul_le_mul hr.2 hr.2 (by omega) (by omega)
      omega
    have h0 : 0 ≤ r * r := Int.mul_nonneg (by omega) (by omega)
    have h2 : b * r ≤ 18 := by
      have : b * r ≤ 3 * 6 := Int.mul_le_mul hb.2 hr.2 (by omega) (by omega)
      omega
    simp only [List.mem_cons, List.not_mem_nil, or_false] at hx
    rcases hx with rfl | rfl | rfl | rfl | rfl | rfl | rfl <;> omega
  | prim i hi =>
    have : ∀ j : Fin 6, ∀ x ∈ [primes6[j.1]?.getD 0, primes6[(j.1 + 1) % 6]?.getD 0, 0, primes6[(j.1 + 2) % 6]?.getD 0, 0, 0, 0], -64 < x ∧ x < 64 := by decide
    exact key _ _ _ _ _ _ _ (this ⟨i, hi⟩)
/-! ### numbers -/
def numI (z : Int) : Int := if z.fmod 3 = 0 then (z.fdiv 3).fmod 19 - 9 else if z.fmod 3 = 1 then (z.fdiv 3).fmod 2001 - 1000 else (z.fdiv 3).fmod 20000000000000000001 - 10000000000000000000
theorem evi_rng1 {Φ : Nat → List D → Sto → Ans D} {a : Ex} {env : Nv} {st : Sto} {j : Int} (h : ev w Φ a env st = some (.ok (.int j) st)) (h1 : small62 j = true) : evi w Φ (.rng1 a) env st = some (.ok (.its (rngL 0 j)) st) := by
  simp only [evi, h, bnd_ok, h1, if_true]
end Dp

end
section
set_option linter.all false
set_option maxRecDepth 100000
/-! Sa: figures, fractions read and written. -/
namespace Dp
variable {w : Wd} {T : Nat → Option Fn}
def dg (n : Nat) : List Nat := (Nat.toDigits 10 n).map Char.toNat
theorem showInt_nat (n : Nat) : showInt (n : Int) = dg n := by
  unfold showInt dg
  show (Nat.repr n).toList.map Char.toNat = _
  simp
theorem showInt_neg (n : Nat) (h : 0 < n) : showInt (-(n : Int)) = 45 :: dg n := by
  obtain ⟨m, rfl⟩ : ∃ m, n = m + 1 := ⟨n - 1, by omega⟩
  unfold showInt dg
  rw [show -((m + 1 : Nat) : Int) = Int.negSucc m from rfl]
  show (("-" ++ Nat.repr (m + 1) : String)).toList.map Char.toNat = _
  simp
theorem digitChar_n : ∀ d : Nat, d < 10 → (Nat.digitChar d).toNat = 48 + d := by decide
theorem dg_lt {n : Nat} (h : n < 10) : dg n = [48 + n] := by
  unfold dg
  rw [Nat.toDigits_of_lt_base h]
  show [(Nat.digitChar n).toNat] = _
  rw [digitChar_n n h]
theorem dg_step {n : Nat} (h : 10 ≤ n) : dg n = dg (n / 10) ++ [48 + n % 10] := by
  have hm : n % 10 < 10 := Nat.mod_lt n (by decide)
  have t : Nat.toDigits 10 (n / 10) ++ Nat.toDigits 10 (n % 10) = Nat.toDigits 10 (10 * (n / 10) + n % 10) := Nat.toDigits_append_toDigits (by decide) (by omega) hm
  rw [Nat.div_add_mod] at t
  show (Nat.toDigits 10 n).map Char.toNat = _
  rw [← t, List.map_append, Nat.toDigits_of_lt_base hm]
  show (Nat.toDigits 10 (n / 10)).map Char.toNat ++ [(Nat.digitChar (n % 10)).toNat] = _
  rw [digitChar_n _ hm]
  rfl
theorem dg_dig (n : Nat) : ∀ c ∈ dg n, 48 ≤ c ∧ c ≤ 57 := by
  induction n using Nat.strongRecOn with
  | _ n ih =>
    by_cases h : n < 10
    · rw [dg_lt h]
      intro c hc
      rw [List.mem_singleton.mp hc]
      omega
    · rw [dg_step (by omega)]
      intro c hc
      rcases List.mem_append.mp hc with hc | hc
      · exact ih (n / 10) (by omega) c hc
      · have hm : n % 10 < 10 := Nat.mod_lt n (by decide)
        rw [List.mem_singleton.mp hc]
        omega
theorem dg_len : ∀ (k n : Nat), n < 10 ^ (k + 1) → 1 ≤ (dg n).length ∧ (dg n).length ≤ k + 1
  | 0, n, h => by
    rw [dg_lt (by simpa using h)]
    simp
  | k + 1, n, h => by
    by_cases h10 : n < 10
    · rw [dg_lt h10]
      simp
    · have := dg_len k (n / 10) (by rw [Nat.pow_succ] at h; omega)
      rw [dg_step (by omega), List.length_append]
      simp only [List.length_singleton]
      omega
theorem dv_app : ∀ (l : List Nat) (acc d : Nat), d < 10 → digitsVal acc (l ++ [48 + d]) = (digitsVal acc l).map fun v => v * 10 + d
  | [], acc, d, hd => by
    show (if 48 ≤ 48 + d ∧ 48 + d ≤ 57 then digitsVal (acc * 10 + (48 + d - 48)) [] else none) = _
    rw [if_pos (by omega), show 48 + d - 48 = d by omega]
    rfl
  | c :: r, acc, d, hd => by
    show (if 48 ≤ c ∧ c ≤ 57 then digitsVal (acc * 10 + (c - 48)) (r ++ [48 + d]) else none) = (if 48 ≤ c ∧ c ≤ 57 then digitsVal (acc * 10 + (c - 48)) r else none).map _
    rw [dv_app r _ d hd]
    split <;> rfl
theorem dg_val (n : Nat) : digitsVal 0 (dg n) = some n := by
  induction n using Nat.strongRecOn with
  | _ n ih =>
    by_cases h : n < 10
    · rw [dg_lt h]
      show (if 48 ≤ 48 + n ∧ 48 + n ≤ 57 then digitsVal (0 * 10 + (48 + n - 48)) [] else none) = _
      rw [if_pos (by omega), show 0 * 10 + (48 + n - 48) = n by omega]
      rfl
    · rw [dg_step (by omega), dv_app _ _ _ (Nat.mod_lt n (by decide)), ih (n / 10) (by omega)]
      show some (n / 10 * 10 + n % 10) = _
      congr 1
      omega
theorem dg_head (n : Nat) (h : 0 < n) : ∃ c r, dg n = c :: r ∧ c ≠ 48 := by
  induction n using Nat.strongRecOn with
  | _ n ih =>
    by_cases h10 : n < 10
    · exact ⟨48 + n, [], dg_lt h10, by omega⟩
    · obtain ⟨c, r, e, hc⟩ := ih (n / 10) (by omega) (by omega)
      exact ⟨c, r ++ [48 + n % 10], by rw [dg_step (by omega), e]; rfl, hc⟩
theorem read_dv {s : List Nat} {n : Nat} (h1 : 1 ≤ s.length) (h2 : s.length ≤ 640) (h : digitsVal 0 s = some n) : readInt s = some (n : Int) := by
  cases s with
  | nil => simp at h1
  | cons c r =>
    show (if (c :: r).length ≤ 640 then (digitsVal 0 (c :: r)).map (Int.ofNat ·) else none) = _
    rw [if_pos h2, h]
    rfl
/-! ### the whole numbers of a text -/
def figs : D := .str [48, 49, 50, 51, 52, 53, 54, 55, 56, 57]
theorem fig_mem {c : Nat} : c ∈ [48, 49, 50, 51, 52, 53, 54, 55, 56, 57] ↔ 48 ≤ c ∧ c ≤ 57 := by
  simp only [List.mem_cons, List.not_mem_nil, or_false]
  omega
section
variable (hF : w.glb 0 = some figs) (hM : w.glb 1 = some (.int 60)) (Φ : Nat → List D → Sto → Ans D) (st : Sto)
include hF
theorem wh_body (s : D) (c : Nat) (hc : 48 ≤ c ∧ c ≤ 57) : run w Φ b_whole_of_0_0 [some s, some (.str [c])] st = some (.nx [some s, some (.str [c])], st) := by
  have e : cop .notin (.str [c]) figs = some false := by
    show some (!decide (c ∈ [48, 49, 50, 51, 52, 53, 54, 55, 56, 57])) = _
    rw [decide_eq_true (fig_mem.mpr hc)]
    rfl
  have vf : view st figs = figs := rfl
  simp -implicitDefEqProofs [b_whole_of_0_0, run, ev, evs, evt, hF, vf, e]
include hM
theorem who_run (s : List Nat) (o : Option D) (n : Int) (x0 : D) (e : Bool) (L : bfn .len [.str s] = some (.int (s.length : Nat))) (hl1 : ¬ (s.length : Int) < 1) (hl2 : ¬ 60 < (s.length : Int)) (I : ixd (.str s) (.int 0) = some x0) (E : cop .eq x0 (.str [48]) = some e) (vx : view st x0 = x0) (he : e = false ∨ (e = true ∧ ¬ 1 < (s.length : Int)))
    (LP : run w Φ l_whole_of_0_0 [some (.str s), none] st = some (.nx [some (.str s), o], st)) (RI : bfn .int [.str s] = some (.int n)) : fin (run w Φ f_whole_of_0.body [some (.str s), none] st) = some (.ok (.int n) st) := by
  generalize (s.length : Int) = N at *
  rcases he with rfl | ⟨rfl, h⟩
  · simp -implicitDefEqProofs [f_whole_of_0, run, ev, evs, evt, L, hl1, hl2, hM, I, vx, E, LP, RI]
  · simp -implicitDefEqProofs [f_whole_of_0, run, ev, evs, evt, L, hl1, hl2, hM, I, vx, E, h, LP, RI]
end
theorem whole_ok (hF : w.glb 0 = some figs) (hM : w.glb 1 = some (.int 60)) (h : T g_whole_of = some f_whole_of_0) (k : Nat) (s : List Nat) (n : Nat) (h1 : 1 ≤ s.length) (h2 : s.length ≤ 60) (hd : ∀ c ∈ s, 48 ≤ c ∧ c ≤ 57) (h0 : s.length = 1 ∨ s.head? ≠ some 48) (hv : digitsVal 0 s = some n) (st : Sto) : den w T (k + 1) g_whole_of [.str s] st = some (.ok (.int n) st) := by
  rw [den_run h k _ st [some (.str s), none] rfl rfl]
  have LP := fr_fold (w := w) (Φ := den w T k) (tg := .nm 1) (it := .seq (.var 0)) (b := b_whole_of_0_0) (env := [some (.str s), none]) (st := st) (s1 := st) (d := fun c : Nat => D.str [c]) (fun _ c => some (D.str [c])) (fun o : Option D => [some (.str s), o]) s none (by simp [evi, ev, srcs]) rfl (fun c hc o => ⟨_, rfl, wh_body hF _ st _ c (hd c hc)⟩)
  cases s with
  | nil => simp at h1
  | cons c r =>
    have L : bfn .len [.str (c :: r)] = some (.int ((c :: r).length : Nat)) := by
      show (if (c :: r).length ≤ 1000000 then _ else none) = _
      rw [if_pos (by omega)]
    have I : ixd (.str (c :: r)) (.int 0) = some (.str [c]) := by
      show (if (c :: r).length ≤ 1000000 then (atI (c :: r) ((0 : Nat) : Int)).map fun c => D.str [c] else none) = _
      rw [if_pos (by omega), atI_nat]
      rfl
    have hc := hd c List.mem_cons_self
    have E : cop .eq (.str [c]) (.str [48]) = some (decide (c = 48)) := by
      have s1 : shl 60 (.str [c]) = true := by
        show [c].all (· < 1114112) = true
        simp; omega
      show (if (shl 60 (.str [c]) && shl 60 (.str [48])) = true then deq (.str [c]) (.str [48]) else none) = _
      rw [s1, show shl 60 (.str [48]) = true from rfl]
      show some (decide ([c] = [48])) = _
      simp
    refine who_run hF hM _ st _ _ n _ _ L (by omega) (by omega) I E rfl ?_ LP (by
      show (readInt (c :: r)).map D.int = _
      rw [read_dv h1 (by omega) hv]
      rfl)
    by_cases h48 : c = 48
    · right
      refine ⟨decide_eq_true h48, ?_⟩
      rcases h0 with h0 | h0
      · omega
      · exact absurd (by rw [h48]; rfl) h0
    · exact .inl (decide_eq_false h48)
theorem whole_dg (hF : w.glb 0 = some figs) (hM : w.glb 1 = some (.int 60)) (h : T g_whole_of = some f_whole_of_0) (k n : Nat) (hn : n < 10 ^ 60) (st : Sto) : den w T (k + 1) g_whole_of [.str (dg n)] st = some (.ok (.int n) st) := by
  obtain ⟨l1, l2⟩ := dg_len 59 n hn
  refine whole_ok hF hM h k _ n l1 l2 (dg_dig n) ?_ (dg_val n) st
  by_cases h0 : n = 0
  · left
    rw [h0, dg_lt (by decide)]
    rfl
  · right
    obtain ⟨c, r, e, hc⟩ := dg_head n (by omega)
    rw [e]
    simpa using hc
/-! ### the fractions of a text -/
theorem frd_run (Φ : Nat → List D → Sto → Ans D) (st : Sto) (t wd' t1 up sk lo : List Nat) (neg b : Bool) (top bot sh r1 r2 : Int) (S1 : sld none (some 1) (.str t) = some (.str t1)) (E1 : cop .eq (.str t1) (.str [45]) = some neg) (hw : (neg = true ∧ sld (some 1) none (.str t) = some (.str wd')) ∨ (neg = false ∧ wd' = t)) (PR : parD wd' (.str [47]) = some (.tup [.str up, .str sk, .str lo])) (W1 : Φ g_whole_of [.str up] st = some (.ok (.int top) st)) (E2 : cop .ne (.str sk) (.str []) = some b)
    (hb : (b = true ∧ Φ g_whole_of [.str lo] st = some (.ok (.int bot) st)) ∨ (b = false ∧ bot = 1)) (h0 : bot ≠ 0) (C : Φ g_common [.int top, .int bot] st = some (.ok (.int sh) st)) (hs : sh ≠ 0) (E3 : cop .ne (.str wd') (.str t) = some neg) (e1 : (if neg = true then -top else top).fdiv sh = r1) (e2 : bot.fdiv sh = r2) :
    fin (run w Φ f_fraction_read.body [some (.str t), none, none, none, none, none, none, none] st) = some (.ok (.tup [.tup [.int r1], .int r2]) st) := by
  have e0 : cop .eq (.int bot) (.int 0) = some false := by
    show some (decide (bot = 0)) = _
    rw [decide_eq_false h0]
  have e10 : cop .eq (.int 1) (.int 0) = some false := rfl
  rcases hw with ⟨rfl, hw⟩ | ⟨rfl, rfl⟩
  · rw [if_pos rfl] at e1
    rcases hb with ⟨rfl, hb⟩ | ⟨rfl, rfl⟩
    · simp -implicitDefEqProofs [f_fraction_read, run, ev, evs, evo, evt, asgn, setAll, S1, E1, hw, PR, W1, E2, hb, e0, C, hs, E3, e1, e2]
    · simp -implicitDefEqProofs [f_fraction_read, run, ev, evs, evo, evt, asgn, setAll, S1, E1, hw, PR, W1, E2, e10, C, hs, E3, e1, e2]
  · rw [if_neg (by decide)] at e1
    rcases hb with ⟨rfl, hb⟩ | ⟨rfl, rfl⟩
    · simp -implicitDefEqProofs [f_fraction_read, run, ev, evs, evo, evt, asgn, setAll, S1, E1, PR, W1, E2, hb, e0, C, hs, E3, e1, e2]
    · simp -implicitDefEqProofs [f_fraction_read, run, ev, evs, evo, evt, asgn, setAll, S1, E1, PR, W1, E2, e10, C, hs, E3, e1, e2]
theorem parC_hit (k : Nat) : ∀ (l acc r : List Nat), k ∉ l → parC k acc (l ++ k :: r) = some (acc ++ l, r)
  | [], acc, r, _ => by
    show (if k = k then some (acc, r) else _) = _
    rw [if_pos rfl, List.append_nil]
  | c :: l, acc, r, h => by
    show (if c = k then some (acc, l ++ k :: r) else parC k (acc ++ [c]) (l ++ k :: r)) = _
    rw [if_neg (fun e => h (by rw [e]; exact List.mem_cons_self)), parC_hit k l _ r (fun e => h (List.mem_cons_of_mem _ e)), List.append_assoc]
    rfl
theorem parC_miss (k : Nat) : ∀ (l acc : List Nat), k ∉ l → parC k acc l = none
  | [], acc, _ => rfl
  | c :: l, acc, h => by
    show (if c = k then some (acc, l) else parC k (acc ++ [c]) l) = _
    rw [if_neg (fun e => h (by rw [e]; exact List.mem_cons_self)), parC_miss k l _ (fun e => h (List.mem_cons_of_mem _ e))]
def sgs (s : List Nat) : Prop := ∀ c ∈ s, c < 1114112
theorem sgs_shl {s : List Nat} (h : sgs s) (n : Nat) : shl n (.str s) = true := by
  cases n <;> (show s.all (· < 1114112) = true; rw [List.all_eq_true]; intro c hc; exact decide_eq_true (h c hc))
theorem str_eq {a b : List Nat} (ha : sgs a) (hb : sgs b) : cop .eq (.str a) (.str b) = some (decide (a = b)) := by
  show (if (shl 60 (.str a) && shl 60 (.str b)) = true then deq (.str a) (.str b) else none) = _
  rw [sgs_shl ha, sgs_shl hb]
  rfl
theorem str_ne {a b : List Nat} (ha : sgs a) (hb : sgs b) : cop .ne (.str a) (.str b) = some (!decide (a = b)) := by
  show (if (shl 60 (.str a) && shl 60 (.str b)) = true then (deq (.str a) (.str b)).map (!·) else none) = _
  rw [sgs_shl ha, sgs_shl hb]
  rfl
theorem dg_sgs (n : Nat) : sgs (dg n) := fun c hc => by
  have := dg_dig n c hc
  omega
theorem dg_no (n : Nat) {k : Nat} (h : k < 48) : k ∉ dg n := fun hm => by
  have := dg_dig n k hm
  omega
theorem one_sg {k : Nat} (h : k < 1114112) : sgs [k] := fun c hc => by
  rw [List.mem_singleton.mp hc]
  exact h
/-- a fraction's text: a sign or none, the top, the bottom or none -/
def ftx (neg wB : Bool) (A B : Nat) : List Nat := (if neg = true then [45] else []) ++ (dg A ++ if wB = true then 47 :: dg B else [])
theorem ftx_sgs (neg wB : Bool) (A B : Nat) : sgs (ftx neg wB A B) := fun c hc => by
  unfold ftx at hc
  rcases List.mem_append.mp hc with hc | hc
  · split at hc
    · rw [List.mem_singleton.mp hc]; decide
    · cases hc
  · rcases List.mem_append.mp hc with hc | hc
    · exact dg_sgs A c hc
    · split at hc
      · rcases List.mem_cons.mp hc with rfl | hc
        · decide
        · exact dg_sgs B c hc
      · cases hc
theorem ftx_len (neg wB : Bool) {A B : Nat} (hA : A < 10 ^ 60) (hB : B < 10 ^ 60) : (ftx neg wB A B).length ≤ 200 := by
  have h1 := dg_len 59 A hA
  have h2 := dg_len 59 B hB
  unfold ftx
  rw [List.length_append, List.length_append]
  have a1 : (if neg = true then [45] else ([] : List Nat)).length ≤ 1 := by split <;> simp
  have a2 : (if wB = true then 47 :: dg B else ([] : List Nat)).length ≤ 61 := by
    split
    · rw [List.length_cons]; omega
    · simp
  omega
theorem rd_ok (hF : w.glb 0 = some figs) (hM : w.glb 1 = some (.int 60)) (hw : T g_whole_of = some f_whole_of_0) (hc : T g_common = some f_common) (hr : T g_fraction_read = some f_fraction_read) {k : Nat} (hk : 2 ≤ k) (neg wB : Bool) (A B : Nat) (hA : A < 10 ^ 60) (hB : B < 10 ^ 60) (h1 : 1 ≤ B) (hwB : wB = false → B = 1) (st : Sto) :
    den w T k g_fraction_read [.str (ftx neg wB A B)] st = some (.ok (.tup [.tup [.int ((if neg = true then -(A : Int) else (A : Int)).fdiv ((Nat.gcd A B : Nat) : Int))], .int ((B : Int).fdiv ((Nat.gcd A B : Nat) : Int))]) st) := by
  obtain ⟨k, rfl⟩ : ∃ j, k = j + 2 := ⟨k - 2, by omega⟩
  have hlen := ftx_len neg wB hA hB
  have hsg := ftx_sgs neg wB A B
  obtain ⟨wd', hwd⟩ : ∃ wd', wd' = dg A ++ if wB = true then 47 :: dg B else [] := ⟨_, rfl⟩
  have hft : ftx neg wB A B = (if neg = true then [45] else []) ++ wd' := by rw [hwd]; rfl
  obtain ⟨c, r, hcr, hneg⟩ : ∃ c r, ftx neg wB A B = c :: r ∧ decide (c = 45) = neg := by
    cases neg with
    | true => exact ⟨45, wd', hft, rfl⟩
    | false =>
      have h2 := (dg_len 59 A hA).1
      cases e : dg A with
      | nil => rw [e] at h2; simp at h2
      | cons c r =>
        refine ⟨c, r ++ if wB = true then 47 :: dg B else [], by rw [hft, hwd, e]; rfl, decide_eq_false fun h => ?_⟩
        have := dg_dig A c (by rw [e]; exact List.mem_cons_self)
        omega
  have hwl : wd'.length ≤ 200 := by
    rw [hft, List.length_append] at hlen
    omega
  have hws : sgs wd' := fun c hc => hsg c (by rw [hft]; exact List.mem_append_right _ hc)
  have S1 : sld none (some 1) (.str (ftx neg wB A B)) = some (.str [c]) := by
    show (if (ftx neg wB A B).length ≤ 1000000 then _ else none) = _
    rw [if_pos (by omega), hcr, show cut (c :: r) none (some 1) = [c] from cut_to [c] r 1 rfl]
  have cs : sgs [c] := one_sg (hsg c (by rw [hcr]; exact List.mem_cons_self))
  have E1 : cop .eq (.str [c]) (.str [45]) = some neg := by
    rw [str_eq cs (one_sg (by decide)), ← hneg]
    simp
  have hww : (neg = true ∧ sld (some 1) none (.str (ftx neg wB A B)) = some (.str wd')) ∨ (neg = false ∧ wd' = ftx neg wB A B) := by
    cases neg with
    | true =>
      left
      refine ⟨rfl, ?_⟩
      show (if (ftx true wB A B).length ≤ 1000000 then _ else none) = _
      rw [if_pos (by omega), hft, if_pos rfl, show cut ([45] ++ wd') (some 1) none = wd' from cut_from [45] wd' 1 rfl]
    | false => exact .inr ⟨rfl, hft.symm⟩
  have E3 : cop .ne (.str wd') (.str (ftx neg wB A B)) = some neg := by
    rw [str_ne hws hsg]
    cases neg with
    | true =>
      rw [decide_eq_false fun h => ?_]
      · rfl
      · have := congrArg List.length h
        rw [hft, List.length_append] at this
        simp at this
    | false =>
      rw [decide_eq_true (by rw [hft]; rfl)]
      rfl
  have W1 := whole_dg hF hM hw (k := k) A hA st
  have C := common_spec (w := w) (T := T) hc k (A : Int) (B : Int) st
  have hg : Nat.gcd A B ≠ 0 := fun h => by
    have := Nat.gcd_pos_of_pos_right A (show 0 < B by omega)
    omega
  rw [den_run hr (k + 1) _ st [some (.str (ftx neg wB A B)), none, none, none, none, none, none, none] rfl rfl]
  cases wB with
  | true =>
    have PR : parD wd' (.str [47]) = some (.tup [.str (dg A), .str [47], .str (dg B)]) := by
      show (if wd'.length ≤ 1000000 then some _ else none) = _
      rw [if_pos (by omega), hwd, if_pos rfl, parC_hit 47 (dg A) [] (dg B) (dg_no A (by decide))]
      rfl
    exact frd_run _ st _ wd' [c] (dg A) [47] (dg B) neg true A B _ _ _ S1 E1 hww PR W1 (by rw [str_ne (one_sg (by decide)) (fun _ h => by cases h)]; rfl) (.inl ⟨rfl, whole_dg hF hM hw (k := k) B hB st⟩) (by omega) C (by simp only [Int.natAbs_natCast]; omega) E3 rfl rfl
  | false =>
    have PR : parD wd' (.str [47]) = some (.tup [.str (dg A), .str [], .str []]) := by
      show (if wd'.length ≤ 1000000 then some _ else none) = _
      rw [if_pos (by omega), hwd, if_neg (by decide), List.append_nil, parC_miss 47 (dg A) [] (dg_no A (by decide))]
    have hB1 := hwB rfl
    subst hB1
    exact frd_run _ st _ wd' [c] (dg A) [] [] neg false A 1 _ _ _ S1 E1 hww PR W1 (by rw [str_ne (fun _ h => by cases h) (fun _ h => by cases h)]; rfl) (.inr ⟨rfl, rfl⟩) (by decide) C (by simp only [Int.natAbs_natCast]; exact Int.ofNat_ne_zero.mpr hg) E3 rfl rfl
end Dp

end
section
set_option linter.all false
set_option maxRecDepth 100000
/-! Ra: rows, read to steps. -/
namespace Dp
/-- a step of a drawing -/
inductive Stp where
  | pnt (n : List Nat) (x y : Int × Int)
  | rby (n o : List Nat) (s : Int × Int)
  | lin (n a b : List Nat)
  | rng (n a b : List Nat)
  | crs (n a b : List Nat)
  | met (n a b wh : List Nat)
  deriving Inhabited, DecidableEq
def fq (x : Int × Int) : D := .tup [.tup [.int x.1], .int x.2]
def strL (l : List (List Nat)) : D := .lst (l.map .str)
def Stp.cell : Stp → Cell
  | .pnt n x y => .ins 17 [(0, .str n), (1, .lst []), (2, fq x), (3, fq y)]
  | .rby n o s => .ins 19 [(0, .str n), (1, .lst [.str o]), (4, fq s)]
  | .lin n a b => .ins 16 [(0, .str n), (1, .lst [.str a, .str b])]
  | .rng n a b => .ins 18 [(0, .str n), (1, .lst [.str a, .str b])]
  | .crs n a b => .ins 20 [(0, .str n), (1, .lst [.str a, .str b])]
  | .met n a b wh => .ins 21 [(0, .str n), (1, .lst [.str a, .str b]), (5, .str wh)]
def Stp.name : Stp → List Nat
  | .pnt n _ _ => n
  | .rby n _ _ => n
  | .lin n _ _ => n
  | .rng n _ _ => n
  | .crs n _ _ => n
  | .met n _ _ _ => n
def Stp.others : Stp → List (List Nat)
  | .pnt _ _ _ => []
  | .rby _ o _ => [o]
  | .lin _ a b => [a, b]
  | .rng _ a b => [a, b]
  | .crs _ a b => [a, b]
  | .met _ a b _ => [a, b]
/-- written words -/
def wPoint : List Nat := [112, 111, 105, 110, 116]
def wLine : List Nat := [108, 105, 110, 101]
def wRing : List Nat := [114, 105, 110, 103]
def wMeet : List Nat := [109, 101, 101, 116]
def wBy : List Nat := [98, 121]
def wFirst : List Nat := [102, 105, 114, 115, 116]
def wSecond : List Nat := [115, 101, 99, 111, 110, 100]
/-- a fraction as it is written -/
def txF (x : Int × Int) : List Nat := ftx (decide (x.1 < 0)) (decide (x.2 ≠ 1)) x.1.natAbs x.2.natAbs
/-- a row's words -/
def Stp.words : Stp → List (List Nat)
  | .pnt n x y => [wPoint, n, txF x, txF y]
  | .rby n o s => [wRing, n, o, wBy, txF s]
  | .lin n a b => [wLine, n, a, b]
  | .rng n a b => [wRing, n, a, b]
  | .crs n a b => [wMeet, n, a, b]
  | .met n a b wh => [wMeet, n, a, b, wh]
def Stp.text (p : Stp) : List Nat := joinC [32] p.words
/-! ### names -/
def ltr (c : Nat) : Bool := decide (97 ≤ c ∧ c ≤ 122)
def isNm (s : List Nat) : Bool := decide (1 ≤ s.length) && decide (s.length ≤ 6) && s.all ltr
def letters : D := .str [97, 98, 99, 100, 101, 102, 103, 104, 105, 106, 107, 108, 109, 110, 111, 112, 113, 114, 115, 116, 117, 118, 119, 120, 121, 122]
theorem let_mem {c : Nat} : c ∈ [97, 98, 99, 100, 101, 102, 103, 104, 105, 106, 107, 108, 109, 110, 111, 112, 113, 114, 115, 116, 117, 118, 119, 120, 121, 122] ↔ 97 ≤ c ∧ c ≤ 122 := by
  simp only [List.mem_cons, List.not_mem_nil, or_false]
  omega
theorem isNm_len {s : List Nat} (h : isNm s = true) : 1 ≤ s.length ∧ s.length ≤ 6 ∧ ∀ c ∈ s, 97 ≤ c ∧ c ≤ 122 := by
  unfold isNm at h
  simp only [Bool.and_eq_true, decide_eq_true_eq, List.all_eq_true, ltr] at h
  exact ⟨h.1.1, h.1.2, h.2⟩
theorem isNm_sgs {s : List Nat} (h : isNm s = true) : sgs s := fun c hc => by
  have := (isNm_len h).2.2 c hc
  omega
theorem isNm_no {s : List Nat} (h : isNm s = true) {k : Nat} (hk : k < 97) : k ∉ s := fun hm => by
  have := (isNm_len h).2.2 k hm
  omega
section
variable {w : Wd} {T : Nat → Option Fn}
/-- one turn of a for -/
noncomputable def frB (w : Wd) (Φ : Nat → List D → Sto → Ans D) (tg : Tg) (b : Sm) (x : D) (e : Nv) (s : Sto) : Out := match asgn tg x e with
  | some e' => run w Φ b e' s
  | none => none
theorem run_fr (Φ : Nat → List D → Sto → Ans D) (tg : Tg) (it : Wk) (b : Sm) (env : Nv) (st : Sto) : run w Φ (.fr tg it b) env st = bnS (evi w Φ it env st) env fun xs s1 => walkS (frB w Φ tg b) xs env s1 := by
  simp only [run]
  rfl
theorem frB_nm (Φ : Nat → List D → Sto → Ans D) (i : Nat) (b : Sm) (x : D) (e : Nv) (s : Sto) : frB w Φ (.nm i) b x e s = run w Φ b (e.set i (some x)) s := rfl
theorem nm_turn (hL : w.glb 4 = some letters) (Φ : Nat → List D → Sto → Ans D) (st : Sto) (S : D) (o : Option D) (c : Nat) : run w Φ b_is_name_0_0 [some S, some (.str [c])] st = if ltr c = true then some (.nx [some S, some (.str [c])], st) else some (.rt (.bl false), st) := by
  have e : cop .notin (.str [c]) letters = some (!ltr c) := by
    show some (!decide (c ∈ [97, 98, 99, 100, 101, 102, 103, 104, 105, 106, 107, 108, 109, 110, 111, 112, 113, 114, 115, 116, 117, 118, 119, 120, 121, 122])) = _
    congr 2
    rw [Bool.eq_iff_iff]
    simp only [decide_eq_true_eq, ltr]
    exact let_mem
  have vf : view st letters = letters := rfl
  cases h : ltr c <;> rw [h] at e <;> simp -implicitDefEqProofs [b_is_name_0_0, run, ev, evs, evt, hL, vf, e]
theorem nm_walk (hL : w.glb 4 = some letters) (Φ : Nat → List D → Sto → Ans D) (st : Sto) (S : D) : ∀ (s : List Nat) (o : Option D), ∃ o', walk (frB w Φ (.nm 1) b_is_name_0_0) (s.map fun c => D.str [c]) [some S, o] st = if s.all ltr = true then some (.nx [some S, o'], st) else some (.rt (.bl false), st)
  | [], o => ⟨o, rfl⟩
  | c :: s, o => by
    obtain ⟨o', ih⟩ := nm_walk hL Φ st S s (some (.str [c]))
    refine ⟨o', ?_⟩
    simp only [List.map_cons, walk, frB_nm, List.set_cons_succ, List.set_cons_zero]
    rw [nm_turn hL Φ st S o c, List.all_cons]
    cases h : ltr c with
    | false => simp
    | true => simpa using ih
theorem nm_run (Φ : Nat → List D → Sto → Ans D) (s : List Nat) (o' : Option D) (st : Sto) (L : bfn .len [.str s] = some (.int (s.length : Nat))) (LP : run w Φ l_is_name_0_0 [some (.str s), none] st = if s.all ltr = true then some (.nx [some (.str s), o'], st) else some (.rt (.bl false), st)) :
    fin (run w Φ f_is_name_0.body [some (.str s), none] st) = some (.ok (.bl (isNm s)) st) := by
  unfold isNm
  have e1 : decide (1 ≤ s.length) = decide (1 ≤ (s.length : Int)) := by rw [Bool.eq_iff_iff]; simp only [decide_eq_true_eq]; omega
  have e2 : decide (s.length ≤ 6) = decide ((s.length : Int) ≤ 6) := by rw [Bool.eq_iff_iff]; simp only [decide_eq_true_eq]; omega
  rw [e1, e2]
  generalize (s.length : Int) = N at *
  by_cases h1 : 1 ≤ N
  · by_cases h2 : N ≤ 6
    · cases ha : s.all ltr <;> rw [ha] at LP <;> simp -implicitDefEqProofs [f_is_name_0, run, ev, evs, evt, L, h1, h2, LP]
    · simp -implicitDefEqProofs [f_is_name_0, run, ev, evs, evt, L, h1, h2]
  · simp -implicitDefEqProofs [f_is_name_0, run, ev, evs, evt, L, h1]
theorem nm_ok (hL : w.glb 4 = some letters) (h : T g_is_name = some f_is_name_0) (k : Nat) (s : List Nat) (hl : s.length ≤ 1000) (st : Sto) : den w T (k + 1) g_is_name [.str s] st = some (.ok (.bl (isNm s)) st) := by
  rw [den_run h k _ st [some (.str s), none] rfl rfl]
  obtain ⟨o', hw⟩ := nm_walk hL (den w T k) st (.str s) s none
  refine nm_run (den w T k) s o' st (by
    show (if s.length ≤ 1000000 then _ else none) = _
    rw [if_pos (by omega)]) ?_
  rw [← hw, l_is_name_0_0, run_fr]
  simp -implicitDefEqProofs [evi, ev, srcs, walkS]
end
end Dp

end
section
set_option linter.all false
set_option maxRecDepth 100000
/-! Rb0: texts of rows read to steps. -/
namespace Dp
/-- what of the tables the reading of rows needs -/
structure Rw0 (w : Wd) (T : Nat → Option Fn) : Prop where
  nm : ∀ (k : Nat) (s : List Nat) (st : Sto), s.length ≤ 1000 → den w T (k + 1) g_is_name [.str s] st = some (.ok (.bl (isNm s)) st)
  al : T g_all_names = some f_all_names_0
  sh : T g_short_row = some f_short_row_0
  lo : T g_long_row = some f_long_row
  rp : T g_read_point = some f_read_point
  rs : T g_read_span = some f_read_span
  so : T g_step_of = some f_step_of
  i0 : T g_Step___init__ = some f_Step___init__
  i1 : T g_FirstPoint___init__ = some f_FirstPoint___init__
  i2 : T g_RingBy___init__ = some f_RingBy___init__
  i3 : T g_Meet___init__ = some f_Meet___init__
  n15 : w.ini 15 = some g_Step___init__
  n16 : w.ini 16 = some g_Step___init__
  n17 : w.ini 17 = some g_FirstPoint___init__
  n18 : w.ini 18 = some g_Step___init__
  n19 : w.ini 19 = some g_RingBy___init__
  n20 : w.ini 20 = some g_Step___init__
  n21 : w.ini 21 = some g_Meet___init__
  f0 : ∀ c, 16 ≤ c → c ≤ 21 → w.fok c 0 = true ∧ w.fok c 1 = true
  f17 : w.fok 17 2 = true ∧ w.fok 17 3 = true
  f19 : w.fok 19 4 = true
  f21 : w.fok 21 5 = true
section
variable {w : Wd} {T : Nat → Option Fn} (R : Rw0 w T)
include R
theorem Rw0.turn (k : Nat) (S : D) (o : Option D) (s : List Nat) (hs : s.length ≤ 1000) (st : Sto) : run w (den w T (k + 1)) b_all_names_0_0 [some S, some (.str s)] st = if isNm s = true then some (.nx [some S, some (.str s)], st) else some (.rt (.bl false), st) := by
  have := R.nm k s st hs
  cases h : isNm s <;> rw [h] at this <;> simp -implicitDefEqProofs [b_all_names_0_0, run, ev, evs, evt, this]
theorem Rw0.walk (k : Nat) (S : D) (st : Sto) : ∀ (l : List (List Nat)) (o : Option D), (∀ s ∈ l, s.length ≤ 1000) → ∃ o', Dp.walk (frB w (den w T (k + 1)) (.nm 1) b_all_names_0_0) (l.map .str) [some S, o] st = if l.all isNm = true then some (.nx [some S, o'], st) else some (.rt (.bl false), st)
  | [], o, _ => ⟨o, rfl⟩
  | s :: l, o, h => by
    obtain ⟨o', ih⟩ := Rw0.walk k S st l (some (.str s)) fun x hx => h x (List.mem_cons_of_mem _ hx)
    refine ⟨o', ?_⟩
    simp only [List.map_cons, Dp.walk, frB_nm, List.set_cons_succ, List.set_cons_zero]
    rw [R.turn k S o s (h s List.mem_cons_self), List.all_cons]
    cases h : isNm s with
    | false => simp
    | true => simpa using ih
theorem Rw0.all (k : Nat) (l : List (List Nat)) (h : ∀ s ∈ l, s.length ≤ 1000) (st : Sto) : den w T (k + 2) g_all_names [strL l] st = some (.ok (.bl (l.all isNm)) st) := by
  rw [den_run R.al (k + 1) _ st [some (strL l), none] rfl rfl]
  obtain ⟨o', hw⟩ := R.walk k (strL l) st l none h
  have LP : run w (den w T (k + 1)) l_all_names_0_0 [some (strL l), none] st = if l.all isNm = true then some (.nx [some (strL l), o'], st) else some (.rt (.bl false), st) := by
    rw [← hw, l_all_names_0_0, run_fr]
    simp -implicitDefEqProofs [strL, evi, ev, srcs, walkS]
  cases h2 : l.all isNm <;> rw [h2] at LP <;> simp -implicitDefEqProofs [f_all_names_0, run, ev, evs, evt, LP]
/-! ### objects -/
theorem Rw0.base (k : Nat) (c : Nat) (h1 : 16 ≤ c) (h2 : c ≤ 21) (n o : D) (st : Sto) : den w T (k + 1) g_Step___init__ [.ref st.length, n, o] (st ++ [.ins c []]) = some (.ok .non (st ++ [.ins c [(0, n), (1, o)]])) := by
  rw [den_run R.i0 k _ _ [some (.ref st.length), some n, some o] rfl rfl]
  obtain ⟨f0, f1⟩ := R.f0 c h1 h2
  simp -implicitDefEqProofs [f_Step___init__, run, ev, evs, f0, f1, fput]
theorem Rw0.pnt (k : Nat) (n x y : D) (st : Sto) : den w T (k + 2) g_FirstPoint___init__ [.ref st.length, n, x, y] (st ++ [.ins 17 []]) = some (.ok .non (st ++ [.ins 17 [(0, n), (1, .lst []), (2, x), (3, y)]])) := by
  rw [den_run R.i1 (k + 1) _ _ [some (.ref st.length), some n, some x, some y] rfl rfl]
  have B := R.base k 17 (by decide) (by decide) n (.lst []) st
  obtain ⟨f2, f3⟩ := R.f17
  simp -implicitDefEqProofs [f_FirstPoint___init__, run, ev, evs, R.n15, B, f2, f3, fput]
theorem Rw0.rby (k : Nat) (n o x : D) (st : Sto) : den w T (k + 2) g_RingBy___init__ [.ref st.length, n, o, x] (st ++ [.ins 19 []]) = some (.ok .non (st ++ [.ins 19 [(0, n), (1, o), (4, x)]])) := by
  rw [den_run R.i2 (k + 1) _ _ [some (.ref st.length), some n, some o, some x] rfl rfl]
  have B := R.base k 19 (by decide) (by decide) n o st
  have f2 := R.f19
  simp -implicitDefEqProofs [f_RingBy___init__, run, ev, evs, R.n15, B, f2, fput]
theorem Rw0.met (k : Nat) (n o x : D) (st : Sto) : den w T (k + 2) g_Meet___init__ [.ref st.length, n, o, x] (st ++ [.ins 21 []]) = some (.ok .non (st ++ [.ins 21 [(0, n), (1, o), (5, x)]])) := by
  rw [den_run R.i3 (k + 1) _ _ [some (.ref st.length), some n, some o, some x] rfl rfl]
  have B := R.base k 21 (by decide) (by decide) n o st
  have f2 := R.f21
  simp -implicitDefEqProofs [f_Meet___init__, run, ev, evs, R.n15, B, f2, fput]
end
end Dp

end
section
set_option linter.all false
set_option maxRecDepth 100000
/-! Rc0: rows of four and of five words; a text split. -/
namespace Dp
theorem cut4_1 {α : Type} (a b c d : α) : cut [a, b, c, d] (some 1) none = [b, c, d] := rfl
theorem cut4_2 {α : Type} (a b c d : α) : cut [a, b, c, d] (some 2) none = [c, d] := rfl
theorem cut5_13 {α : Type} (a b c d e : α) : cut [a, b, c, d, e] (some 1) (some 3) = [b, c] := rfl
theorem cut5_14 {α : Type} (a b c d e : α) : cut [a, b, c, d, e] (some 1) (some 4) = [b, c, d] := rfl
theorem cut5_24 {α : Type} (a b c d e : α) : cut [a, b, c, d, e] (some 2) (some 4) = [c, d] := rfl
theorem splC_word (k : Nat) : ∀ (l acc r : List Nat), k ∉ l → splC k acc (l ++ k :: r) = (acc ++ l) :: splC k [] r
  | [], acc, r, _ => by
    show (if k = k then acc :: splC k [] r else _) = _
    rw [if_pos rfl, List.append_nil]
  | c :: l, acc, r, h => by
    show (if c = k then acc :: splC k [] (l ++ k :: r) else splC k (acc ++ [c]) (l ++ k :: r)) = _
    rw [if_neg (fun e => h (by rw [e]; exact List.mem_cons_self)), splC_word k l _ r (fun e => h (List.mem_cons_of_mem _ e)), List.append_assoc]
    rfl
theorem splC_last (k : Nat) : ∀ (l acc : List Nat), k ∉ l → splC k acc l = [acc ++ l]
  | [], acc, _ => by
    show [acc] = _
    rw [List.append_nil]
  | c :: l, acc, h => by
    show (if c = k then acc :: splC k [] l else splC k (acc ++ [c]) l) = _
    rw [if_neg (fun e => h (by rw [e]; exact List.mem_cons_self)), splC_last k l _ (fun e => h (List.mem_cons_of_mem _ e)), List.append_assoc]
    rfl
theorem splC_join : ∀ (ws : List (List Nat)), ws ≠ [] → (∀ u ∈ ws, 32 ∉ u) → splC 32 [] (joinC [32] ws) = ws
  | [], h, _ => absurd rfl h
  | [u], _, h => by
    show splC 32 [] u = [u]
    rw [splC_last 32 u [] (h u List.mem_cons_self)]
    rfl
  | u :: v :: r, _, h => by
    show splC 32 [] (u ++ [32] ++ joinC [32] (v :: r)) = _
    rw [List.append_assoc, show [32] ++ joinC [32] (v :: r) = 32 :: joinC [32] (v :: r) from rfl, splC_word 32 u [] _ (h u List.mem_cons_self), splC_join (v :: r) (by simp) (fun x hx => h x (List.mem_cons_of_mem _ hx))]
    rfl
theorem joinC_len (n : Nat) : ∀ (ws : List (List Nat)), (∀ u ∈ ws, u.length ≤ n) → (joinC [32] ws).length ≤ (n + 1) * ws.length
  | [], _ => by simp [joinC]
  | [u], h => by
    have := h u List.mem_cons_self
    show u.length ≤ (n + 1) * 1
    omega
  | u :: v :: r, h => by
    have h1 := h u List.mem_cons_self
    have h2 := joinC_len n (v :: r) fun x hx => h x (List.mem_cons_of_mem _ hx)
    show (u ++ [32] ++ joinC [32] (v :: r)).length ≤ _
    rw [List.length_append, List.length_append, List.length_cons (as := v :: r), Nat.mul_add]
    show _ + 1 + _ ≤ _
    omega
theorem spl_ok (ws : List (List Nat)) (h0 : ws ≠ []) (h : ∀ u ∈ ws, 32 ∉ u) (hl : (joinC [32] ws).length ≤ 1000000) : splD (joinC [32] ws) (.str [32]) = some (strL ws) := by
  show (if (joinC [32] ws).length ≤ 1000000 ∧ 32 < 256 then some (D.lst ((splC 32 [] (joinC [32] ws)).map D.str)) else none) = _
  rw [if_pos ⟨hl, by decide⟩, splC_join ws h0 h]
  rfl
/-- a text that is read to a fraction -/
def Frd (w : Wd) (T : Nat → Option Fn) (t : List Nat) (x : Int × Int) : Prop := ∀ (k : Nat) (st : Sto), den w T (k + 2) g_fraction_read [.str t] st = some (.ok (fq x) st)
section
variable {w : Wd} {T : Nat → Option Fn} (R : Rw0 w T)
include R
theorem Rw0.rdp (k : Nat) (n tx ty : List Nat) (x y : Int × Int) (hx : Frd w T tx x) (hy : Frd w T ty y) (st : Sto) : den w T (k + 3) g_read_point [strL [wPoint, n, tx, ty]] st = some (.ok (.ref st.length) (st ++ [(Stp.pnt n x y).cell])) := by
  rw [den_run R.rp (k + 2) _ st [some (strL [wPoint, n, tx, ty]), none, none] rfl rfl]
  have h1 := hx k st
  have h2 := hy k st
  have P := R.pnt k (.str n) (fq x) (fq y) st
  simp -implicitDefEqProofs [f_read_point, run, ev, evs, strL, h1, h2, R.n17, P, Stp.cell]
theorem Rw0.rds (k : Nat) (n o tx : List Nat) (x : Int × Int) (hx : Frd w T tx x) (st : Sto) : den w T (k + 3) g_read_span [strL [wRing, n, o, wBy, tx]] st = some (.ok (.ref st.length) (st ++ [(Stp.rby n o x).cell])) := by
  rw [den_run R.rs (k + 2) _ st [some (strL [wRing, n, o, wBy, tx]), none] rfl rfl]
  have h1 := hx k st
  have P := R.rby k (.str n) (.lst [.str o]) (fq x) st
  simp -implicitDefEqProofs [f_read_span, run, ev, evs, strL, h1, R.n19, P, Stp.cell]
theorem Rw0.short_pnt (k : Nat) (n tx ty : List Nat) (x y : Int × Int) (hn : isNm n = true) (hx : Frd w T tx x) (hy : Frd w T ty y) (st : Sto) : den w T (k + 4) g_short_row [strL [wPoint, n, tx, ty]] st = some (.ok (.ref st.length) (st ++ [(Stp.pnt n x y).cell])) := by
  rw [den_run R.sh (k + 3) _ st [some (strL [wPoint, n, tx, ty])] rfl rfl]
  have P := R.rdp k n tx ty x y hx hy st
  have N := R.nm (k + 2) n st (by have := (isNm_len hn).2.1; omega)
  rw [hn] at N
  have e : cop .eq (.str wPoint) (.str [112, 111, 105, 110, 116]) = some true := rfl
  simp only [strL, List.map_cons, List.map_nil] at P ⊢
  simp -implicitDefEqProofs [f_short_row_0, run, ev, evs, evt, e, N, P]
theorem nm3 {n a b : List Nat} (hn : isNm n = true) (ha : isNm a = true) (hb : isNm b = true) : ([n, a, b] : List (List Nat)).all isNm = true ∧ ∀ s ∈ [n, a, b], s.length ≤ 1000 := by
  refine ⟨by simp [hn, ha, hb], fun s hs => ?_⟩
  simp only [List.mem_cons, List.not_mem_nil, or_false] at hs
  rcases hs with rfl | rfl | rfl
  · have := (isNm_len hn).2.1; omega
  · have := (isNm_len ha).2.1; omega
  · have := (isNm_len hb).2.1; omega
theorem Rw0.short_lin (k : Nat) (n a b : List Nat) (hn : isNm n = true) (ha : isNm a = true) (hb : isNm b = true) (st : Sto) : den w T (k + 4) g_short_row [strL [wLine, n, a, b]] st = some (.ok (.ref st.length) (st ++ [(Stp.lin n a b).cell])) := by
  rw [den_run R.sh (k + 3) _ st [some (strL [wLine, n, a, b])] rfl rfl]
  obtain ⟨h1, h2⟩ := nm3 R hn ha hb
  have A := R.all (k + 1) [n, a, b] h2 st
  rw [h1] at A
  have B := R.base (k + 2) 16 (by decide) (by decide) (.str n) (.lst [.str a, .str b]) st
  have e1 : cop .eq (.str wLine) (.str [112, 111, 105, 110, 116]) = some false := rfl
  have e2 : cop .eq (.str wLine) (.str [108, 105, 110, 101]) = some true := rfl
  simp only [strL, List.map_cons, List.map_nil] at A ⊢
  simp -implicitDefEqProofs [f_short_row_0, run, ev, evs, evo, evt, e1, e2, A, B, cut4_1, cut4_2, R.n16, Stp.cell]
theorem Rw0.short_rng (k : Nat) (n a b : List Nat) (hn : isNm n = true) (ha : isNm a = true) (hb : isNm b = true) (st : Sto) : den w T (k + 4) g_short_row [strL [wRing, n, a, b]] st = some (.ok (.ref st.length) (st ++ [(Stp.rng n a b).cell])) := by
  rw [den_run R.sh (k + 3) _ st [some (strL [wRing, n, a, b])] rfl rfl]
  obtain ⟨h1, h2⟩ := nm3 R hn ha hb
  have A := R.all (k + 1) [n, a, b] h2 st
  rw [h1] at A
  have B := R.base (k + 2) 18 (by decide) (by decide) (.str n) (.lst [.str a, .str b]) st
  have e1 : cop .eq (.str wRing) (.str [112, 111, 105, 110, 116]) = some false := rfl
  have e2 : cop .eq (.str wRing) (.str [108, 105, 110, 101]) = some false := rfl
  have e3 : cop .eq (.str wRing) (.str [114, 105, 110, 103]) = some true := rfl
  simp only [strL, List.map_cons, List.map_nil] at A ⊢
  simp -implicitDefEqProofs [f_short_row_0, run, ev, evs, evo, evt, e1, e2, e3, A, B, cut4_1, cut4_2, R.n18, Stp.cell]
theorem Rw0.short_crs (k : Nat) (n a b : List Nat) (hn : isNm n = true) (ha : isNm a = true) (hb : isNm b = true) (st : Sto) : den w T (k + 4) g_short_row [strL [wMeet, n, a, b]] st = some (.ok (.ref st.length) (st ++ [(Stp.crs n a b).cell])) := by
  rw [den_run R.sh (k + 3) _ st [some (strL [wMeet, n, a, b])] rfl rfl]
  obtain ⟨h1, h2⟩ := nm3 R hn ha hb
  have A := R.all (k + 1) [n, a, b] h2 st
  rw [h1] at A
  have B := R.base (k + 2) 20 (by decide) (by decide) (.str n) (.lst [.str a, .str b]) st
  have e1 : cop .eq (.str wMeet) (.str [112, 111, 105, 110, 116]) = some false := rfl
  have e2 : cop .eq (.str wMeet) (.str [108, 105, 110, 101]) = some false := rfl
  have e3 : cop .eq (.str wMeet) (.str [114, 105, 110, 103]) = some false := rfl
  have e4 : cop .eq (.str wMeet) (.str [109, 101, 101, 116]) = some true := rfl
  simp only [strL, List.map_cons, List.map_nil] at A ⊢
  simp -implicitDefEqProofs [f_short_row_0, run, ev, evs, evo, evt, e1, e2, e3, e4, A, B, cut4_1, cut4_2, R.n20, Stp.cell]
theorem Rw0.long_rby (k : Nat) (n o tx : List Nat) (x : Int × Int) (hn : isNm n = true) (ho : isNm o = true) (hx : Frd w T tx x) (st : Sto) : den w T (k + 4) g_long_row [strL [wRing, n, o, wBy, tx]] st = some (.ok (.ref st.length) (st ++ [(Stp.rby n o x).cell])) := by
  rw [den_run R.lo (k + 3) _ st [some (strL [wRing, n, o, wBy, tx])] rfl rfl]
  have P := R.rds k n o tx x hx st
  have A := R.all (k + 1) [n, o] (fun s hs => by
    simp only [List.mem_cons, List.not_mem_nil, or_false] at hs
    rcases hs with rfl | rfl
    · have := (isNm_len hn).2.1; omega
    · have := (isNm_len ho).2.1; omega) st
  rw [show ([n, o] : List (List Nat)).all isNm = true by simp [hn, ho]] at A
  have e1 : cop .eq (.str wRing) (.str [114, 105, 110, 103]) = some true := rfl
  have e2 : cop .eq (.str wBy) (.str [98, 121]) = some true := rfl
  simp only [strL, List.map_cons, List.map_nil] at A P ⊢
  simp -implicitDefEqProofs [f_long_row, run, ev, evs, evo, evt, e1, e2, A, P, cut5_13]
theorem Rw0.long_met (k : Nat) (n a b wh : List Nat) (hn : isNm n = true) (ha : isNm a = true) (hb : isNm b = true) (hw : wh = wFirst ∨ wh = wSecond) (st : Sto) : den w T (k + 4) g_long_row [strL [wMeet, n, a, b, wh]] st = some (.ok (.ref st.length) (st ++ [(Stp.met n a b wh).cell])) := by
  rw [den_run R.lo (k + 3) _ st [some (strL [wMeet, n, a, b, wh])] rfl rfl]
  obtain ⟨h1, h2⟩ := nm3 R hn ha hb
  have A := R.all (k + 1) [n, a, b] h2 st
  rw [h1] at A
  have B := R.met (k + 1) (.str n) (.lst [.str a, .str b]) (.str wh) st
  have e1 : cop .eq (.str wMeet) (.str [114, 105, 110, 103]) = some false := rfl
  have e3 : cop .eq (.str wMeet) (.str [109, 101, 101, 116]) = some true := rfl
  have e4 : cop .isin (.str wh) (.tup [.str [102, 105, 114, 115, 116], .str [115, 101, 99, 111, 110, 100]]) = some true := by
    rcases hw with rfl | rfl <;> rfl
  simp only [strL, List.map_cons, List.map_nil] at A ⊢
  simp -implicitDefEqProofs [f_long_row, run, ev, evs, evo, evt, e1, e3, e4, A, B, cut5_14, cut5_24, R.n21, Stp.cell]
/-! ### the whole text -/
theorem Rw0.so4 (k : Nat) (t : List Nat) (a b c d : List Nat) (l : Nat) (st st' : Sto) (hs : splD t (.str [32]) = some (strL [a, b, c, d])) (h : den w T (k + 4) g_short_row [strL [a, b, c, d]] st = some (.ok (.ref l) st')) : den w T (k + 5) g_step_of [.str t] st = some (.ok (.ref l) st') := by
  rw [den_run R.so (k + 4) _ st [some (.str t), none, none] rfl rfl]
  have e : cop .is (view st' (.ref l)) .non = some false := by
    unfold view
    split <;> first | rfl | (split <;> rfl)
  simp only [strL, List.map_cons, List.map_nil] at hs h
  simp -implicitDefEqProofs [f_step_of, run, ev, evs, evt, hs, h, e]
theorem Rw0.so5 (k : Nat) (t : List Nat) (a b c d f : List Nat) (l : Nat) (st st' : Sto) (hs : splD t (.str [32]) = some (strL [a, b, c, d, f])) (h : den w T (k + 4) g_long_row [strL [a, b, c, d, f]] st = some (.ok (.ref l) st')) : den w T (k + 5) g_step_of [.str t] st = some (.ok (.ref l) st') := by
  rw [den_run R.so (k + 4) _ st [some (.str t), none, none] rfl rfl]
  have e : cop .is (view st' (.ref l)) .non = some false := by
    unfold view
    split <;> first | rfl | (split <;> rfl)
  simp only [strL, List.map_cons, List.map_nil] at hs h
  simp -implicitDefEqProofs [f_step_of, run, ev, evs, evt, hs, h, e]
end
end Dp

end
section
set_option linter.all false
set_option maxRecDepth 100000
/-! Rd0: what steps tell: their names, their texts. -/
namespace Dp
theorem add_str1 {a b : List Nat} (h : a.length + b.length ≤ 1000000) : bop .add (.str a) (.str b) = some (.str (a ++ b)) := by
  show (if a.length + b.length ≤ 1000000 then _ else none) = _
  rw [if_pos h]
theorem log60 {n : Nat} (h : n < 10 ^ 60) : n.log2 < 1920 := by
  by_cases h0 : n = 0
  · rw [h0]; decide
  · have h1 := Nat.log2_lt h0 (k := 1920)
    rw [h1]
    exact Nat.lt_trans h (by decide)
theorem str_int {i : Int} (h : i.natAbs < 10 ^ 60) : bfn .str [.int i] = some (.str (ftx (decide (i < 0)) false i.natAbs 1)) := by
  show (if i.natAbs.log2 < 1920 then some (D.str (showInt i)) else none) = _
  rw [if_pos (log60 h)]
  by_cases h0 : i < 0
  · rw [decide_eq_true h0]
    obtain ⟨n, hn⟩ : ∃ n : Nat, i = -(n : Int) := ⟨i.natAbs, by omega⟩
    subst hn
    rw [Int.natAbs_neg, Int.natAbs_natCast, showInt_neg n (by omega)]
    simp [ftx]
  · rw [decide_eq_false h0]
    obtain ⟨n, hn⟩ : ∃ n : Nat, i = (n : Int) := ⟨i.natAbs, by omega⟩
    subst hn
    rw [Int.natAbs_natCast, showInt_nat]
    simp [ftx]
/-- a fraction of at most sixty figures -/
structure F60 (x : Int × Int) : Prop where
  a : x.1.natAbs < 10 ^ 60
  b : x.2.natAbs < 10 ^ 60
  p : 1 ≤ x.2
theorem ftx_no (neg wB : Bool) (A B : Nat) {k : Nat} (hk : k < 45) : k ∉ ftx neg wB A B := fun hc => by
  unfold ftx at hc
  rcases List.mem_append.mp hc with hc | hc
  · split at hc
    · have := List.mem_singleton.mp hc; omega
    · cases hc
  · rcases List.mem_append.mp hc with hc | hc
    · exact dg_no A (by omega) hc
    · split at hc
      · rcases List.mem_cons.mp hc with e | hc
        · omega
        · exact dg_no B (by omega) hc
      · cases hc
section
variable {w : Wd} {T : Nat → Option Fn}
/-- what of the tables the telling of steps needs -/
structure Rt0 (w : Wd) (T : Nat → Option Fn) : Prop where
  ft : T g_fraction_text = some f_fraction_text
  nm : T g_Step_named = some f_Step_named
  tx : T g_Step_text = some f_Step_text
  t1 : T g_FirstPoint_text = some f_FirstPoint_text
  t2 : T g_RingBy_text = some f_RingBy_text
  t3 : T g_Meet_text = some f_Meet_text
  w1 : T g_LineThrough_word = some f_LineThrough_word
  w2 : T g_RingThrough_word = some f_RingThrough_word
  w3 : T g_Cross_word = some f_Cross_word
  m0 : ∀ c, 16 ≤ c → c ≤ 21 → w.mth c 0 = some g_Step_named
  m16 : w.mth 16 2 = some g_Step_text ∧ w.mth 16 3 = some g_LineThrough_word
  m17 : w.mth 17 2 = some g_FirstPoint_text
  m18 : w.mth 18 2 = some g_Step_text ∧ w.mth 18 3 = some g_RingThrough_word
  m19 : w.mth 19 2 = some g_RingBy_text
  m20 : w.mth 20 2 = some g_Step_text ∧ w.mth 20 3 = some g_Cross_word
  m21 : w.mth 21 2 = some g_Meet_text
  f0 : ∀ c, 16 ≤ c → c ≤ 21 → w.fok c 0 = true ∧ w.fok c 1 = true
  f17 : w.fok 17 2 = true ∧ w.fok 17 3 = true
  f19 : w.fok 19 4 = true
  f21 : w.fok 21 5 = true
/-- a step's class -/
def Stp.cls : Stp → Nat
  | .pnt _ _ _ => 17
  | .rby _ _ _ => 19
  | .lin _ _ _ => 16
  | .rng _ _ _ => 18
  | .crs _ _ _ => 20
  | .met _ _ _ _ => 21
def Stp.flds (p : Stp) : List (Nat × D) := match p.cell with
  | .ins _ fs => fs
  | _ => []
theorem Stp.cell_eq (p : Stp) : p.cell = .ins p.cls p.flds := by cases p <;> rfl
theorem Stp.cls_rg (p : Stp) : 16 ≤ p.cls ∧ p.cls ≤ 21 := by cases p <;> (constructor <;> (simp only [Stp.cls]; decide))
/-- its texts are not long, its fractions neither -/
structure StpOk (p : Stp) : Prop where
  n : p.name.length ≤ 6
  o : ∀ s ∈ p.others, s.length ≤ 6
  f : match p with
    | .pnt _ x y => F60 x ∧ F60 y
    | .rby _ _ s => F60 s
    | .met _ _ _ wh => wh.length ≤ 6
    | _ => True
variable (R : Rt0 w T)
include R
theorem Rt0.named (k : Nat) (p : Stp) (l : Nat) (st : Sto) (h : st[l]? = some p.cell) : den w T (k + 1) g_Step_named [.ref l] st = some (.ok (.str p.name) st) := by
  rw [den_run R.nm k _ st [some (.ref l)] rfl rfl]
  obtain ⟨c1, c2⟩ := p.cls_rg
  obtain ⟨f0, f1⟩ := R.f0 _ c1 c2
  cases p <;> simp only [Stp.cls] at f0 <;> simp only [Stp.cell] at h <;> simp -implicitDefEqProofs [f_Step_named, run, ev, h, f0, Stp.name, List.lookup]
end
end Dp

end
section
set_option linter.all false
set_option maxRecDepth 100000
/-! Sz: stirred scripts, drawn names, drawn fractions. -/
namespace Dp
def big : Int := 170141183460469231731687303715884105727
def stirV (c k : Int) : Int := (((c.fmod big + 1) * (123457890123456789012345678901234567891 + k * 31415926535897932384626433832795028841)).fmod big * 98767890123456789012345678901234567).fmod big
theorem stirV_rng (c k : Int) : 0 ≤ stirV c k ∧ stirV c k < big := fmod_rng _ (by decide)
/-- in the range of stirred cells -/
def Stir (v : Int) : Prop := 0 ≤ v ∧ v < big
/-- the stirred script -/
def stirL (ns : List Int) : List Int := ns.zipIdx.map fun p => stirV p.1 (p.2 : Int)
theorem stirL_len (ns : List Int) : (stirL ns).length = ns.length := by simp [stirL]
theorem stirL_rng {ns : List Int} : ∀ v ∈ stirL ns, Stir v := fun v hv => by
  obtain ⟨p, _, rfl⟩ := List.mem_map.mp hv
  exact stirV_rng _ _
theorem num_map : ∀ (ns : List Int) (k : Nat), numbered k (ns.map .int) = (ns.zipIdx k).map fun p => D.tup [.int (p.2 : Int), .int p.1]
  | [], k => rfl
  | n :: ns, k => by
    simp only [List.map_cons, numbered, List.zipIdx_cons, num_map ns (k + 1)]
section
variable {w : Wd} {T : Nat → Option Fn}
theorem stir_ok (h : T g__law_stir = some f__law_stir_0) (k : Nat) (c i : Int) (h0 : 0 ≤ i) (h1 : i < 1000) (st : Sto) : den w T (k + 1) g__law_stir [.int c, .int i] st = some (.ok (.int (stirV c i)) st) := by
  rw [den_run h k _ st [some (.int c), some (.int i), none, none, none] rfl rfl]
  have f0 := fmod_rng c (m := big) (by decide)
  have f1 := fmod_rng ((c.fmod big + 1) * (123457890123456789012345678901234567891 + i * 31415926535897932384626433832795028841)) (m := big) (by decide)
  have b : big = 170141183460469231731687303715884105727 := rfl
  have s1 : sm i = true := sm_of (n := 10) (Lt.small ⟨by omega, by omega⟩) (by decide)
  have s2 : sm 31415926535897932384626433832795028841 = true := by decide +kernel
  have s3 : sm (c.fmod big + 1) = true := sm_of (n := 200) (Lt.small ⟨by rw [b] at f0 ⊢; omega, by rw [b] at f0 ⊢; omega⟩) (by decide)
  have s4 : sm (123457890123456789012345678901234567891 + i * 31415926535897932384626433832795028841) = true := sm_of (n := 200) (Lt.small ⟨by omega, by omega⟩) (by decide)
  have s5 : sm (((c.fmod big + 1) * (123457890123456789012345678901234567891 + i * 31415926535897932384626433832795028841)).fmod big) = true := sm_of (n := 200) (Lt.small ⟨by rw [b] at f1 ⊢; omega, by rw [b] at f1 ⊢; omega⟩) (by decide)
  have s6 : sm 98767890123456789012345678901234567 = true := by decide +kernel
  have hb0 : ((170141183460469231731687303715884105727 : Int) = 0) = False := by simp
  rw [b] at s3 s5
  simp -implicitDefEqProofs [f__law_stir_0, run, ev, evs, s1, s2, s3, s4, s5, s6, stirV, b]
theorem cell1_ok (hs : T g__law_stir = some f__law_stir_0) (h : T g__law_cell = some f__law_cell_1) (k : Nat) (vs : List Int) (hv : ∀ v ∈ vs, Stir v) (i : Nat) (hi : i < 1000) (st : Sto) : ∃ v, Stir v ∧ den w T (k + 2) g__law_cell [scr vs, .int (i : Int)] st = some (.ok (.int v) st) := by
  rw [den_run h (k + 1) _ st [some (scr vs), some (.int (i : Int))] rfl rfl]
  by_cases hl : i < vs.length
  · refine ⟨vs[i], hv _ (List.getElem_mem hl), ?_⟩
    have e : ixd (scr vs) (.int (i : Int)) = some (.int vs[i]) := by
      show atI (vs.map D.int) (i : Int) = _
      rw [atI_nat, List.getElem?_map, List.getElem?_eq_getElem hl]
      rfl
    have L : bfn .len [scr vs] = some (.int (vs.length : Int)) := by
      show some (D.int ((vs.map D.int).length : Int)) = _
      rw [List.length_map]
    have hl2 : (i : Int) < (vs.length : Int) := by omega
    generalize (vs.length : Int) = N at *
    generalize vs[i] = u at *
    simp -implicitDefEqProofs [f__law_cell_1, run, ev, evs, evt, L, hl2, e]
  · refine ⟨stirV 0 i, stirV_rng _ _, ?_⟩
    have L : bfn .len [scr vs] = some (.int (vs.length : Int)) := by
      show some (D.int ((vs.map D.int).length : Int)) = _
      rw [List.length_map]
    have hl2 : ¬ (i : Int) < (vs.length : Int) := by omega
    have S := stir_ok (w := w) hs k 0 (i : Int) (by omega) (by omega) st
    generalize (vs.length : Int) = N at *
    simp -implicitDefEqProofs [f__law_cell_1, run, ev, evs, evt, L, hl2, S]
/-! ### names -/
def odd7 : List (List Nat) := [[98, 121], [102, 105, 114, 115, 116], [115, 101, 99, 111, 110, 100], [112, 111, 105, 110, 116], [114, 105, 110, 103], [108, 105, 110, 101], [109, 101, 101, 116]]
def abc : List Nat := [97, 98, 99, 100, 101, 102, 103, 104, 105, 106, 107, 108, 109, 110, 111, 112, 113, 114, 115, 116, 117, 118, 119, 120, 121, 122]
theorem atI_of {α : Type} {l : List α} {i : Int} (h0 : 0 ≤ i) (h1 : i < (l.length : Int)) : ∃ x, atI l i = some x ∧ x ∈ l := by
  obtain ⟨n, rfl⟩ : ∃ n : Nat, i = (n : Int) := ⟨i.toNat, by omega⟩
  have hn : n < l.length := by omega
  exact ⟨l[n], by rw [atI_nat, List.getElem?_eq_getElem hn], List.getElem_mem hn⟩
theorem abc_at {i : Int} (h0 : 0 ≤ i) (h1 : i < 26) : ∃ c, ixd (.str abc) (.int i) = some (.str [c]) ∧ ltr c = true := by
  obtain ⟨c, h, hm⟩ := atI_of (l := abc) h0 (by show i < 26; exact h1)
  refine ⟨c, ?_, ?_⟩
  · show (if abc.length ≤ 1000000 then (atI abc i).map fun c => D.str [c] else none) = _
    rw [if_pos (by decide), h]
    rfl
  · have : abc.all ltr = true := by decide
    exact List.all_eq_true.mp this c hm
end
end Dp

end
section
set_option linter.all false
set_option maxRecDepth 100000
/-! Ta: a fraction told, its lowest terms. -/
namespace Dp
/-- t tells the fraction x -/
def Told (t : List Nat) (x : Int × Int) : Prop := ∃ (neg wB : Bool) (A B : Nat), t = ftx neg wB A B ∧ A < 10 ^ 60 ∧ B < 10 ^ 60 ∧ 1 ≤ B ∧ (wB = false → B = 1) ∧ x = ((if neg = true then -(A : Int) else (A : Int)).fdiv ((Nat.gcd A B : Nat) : Int), (B : Int).fdiv ((Nat.gcd A B : Nat) : Int))
/-- in lowest terms -/
def Lw (x : Int × Int) : Prop := Nat.gcd x.1.natAbs x.2.natAbs = 1
theorem fdivN {A g : Nat} (hg : 0 < g) (h : g ∣ A) (neg : Bool) : (if neg = true then -(A : Int) else (A : Int)).fdiv (g : Int) = (if neg = true then -((A / g : Nat) : Int) else ((A / g : Nat) : Int)) := by
  obtain ⟨q, rfl⟩ := h
  rw [Nat.mul_div_cancel_left q hg, Int.natCast_mul, Int.fdiv_eq_ediv_of_nonneg _ (by omega)]
  cases neg with
  | false => exact Int.mul_ediv_cancel_left _ (by omega)
  | true => rw [if_pos rfl, if_pos rfl, ← Int.mul_neg]; exact Int.mul_ediv_cancel_left _ (by omega)
theorem gcd_div {A B : Nat} (hB : 1 ≤ B) : Nat.gcd (A / Nat.gcd A B) (B / Nat.gcd A B) = 1 := by
  have g0 : 0 < Nat.gcd A B := Nat.gcd_pos_of_pos_right A (by omega)
  have h : Nat.gcd A B * Nat.gcd (A / Nat.gcd A B) (B / Nat.gcd A B) = Nat.gcd A B * 1 := by
    rw [← Nat.gcd_mul_left, Nat.mul_div_cancel' (Nat.gcd_dvd_left A B), Nat.mul_div_cancel' (Nat.gcd_dvd_right A B), Nat.mul_one]
  exact Nat.eq_of_mul_eq_mul_left g0 h
theorem Told.facts {t : List Nat} {x : Int × Int} (h : Told t x) : F60 x ∧ Lw x ∧ t.length ≤ 200 ∧ sgs t ∧ 32 ∉ t := by
  obtain ⟨neg, wB, A, B, rfl, hA, hB, h1, hw, rfl⟩ := h
  have g0 : 0 < Nat.gcd A B := Nat.gcd_pos_of_pos_right A (by omega)
  have e1 := fdivN g0 (Nat.gcd_dvd_left A B) neg
  have e2 := fdivN g0 (Nat.gcd_dvd_right A B) false
  simp only [Bool.false_eq_true, if_false] at e2
  rw [e1, e2]
  have n1 : (if neg = true then -((A / Nat.gcd A B : Nat) : Int) else ((A / Nat.gcd A B : Nat) : Int)).natAbs = A / Nat.gcd A B := by
    cases neg with
    | false => rw [if_neg (by decide), Int.natAbs_natCast]
    | true => rw [if_pos rfl, Int.natAbs_neg, Int.natAbs_natCast]
  have hb1 : 1 ≤ B / Nat.gcd A B := Nat.div_pos (Nat.le_of_dvd (by omega) (Nat.gcd_dvd_right A B)) g0
  refine ⟨⟨?_, ?_, ?_⟩, ?_, ftx_len neg wB hA hB, ftx_sgs _ _ _ _, ftx_no _ _ _ _ (by decide)⟩
  · show (if neg = true then _ else _ : Int).natAbs < _
    rw [n1]
    exact Nat.lt_of_le_of_lt (Nat.div_le_self _ _) hA
  · show ((B / Nat.gcd A B : Nat) : Int).natAbs < _
    rw [Int.natAbs_natCast]
    exact Nat.lt_of_le_of_lt (Nat.div_le_self _ _) hB
  · show (1 : Int) ≤ ((B / Nat.gcd A B : Nat) : Int)
    omega
  · show Nat.gcd (if neg = true then _ else _ : Int).natAbs ((B / Nat.gcd A B : Nat) : Int).natAbs = 1
    rw [n1, Int.natAbs_natCast]
    exact gcd_div h1
/-- what is written tells it -/
theorem told_self {x : Int × Int} (h : F60 x) (l : Lw x) : Told (txF x) x := by
  have hp := h.p
  refine ⟨decide (x.1 < 0), decide (x.2 ≠ 1), x.1.natAbs, x.2.natAbs, rfl, h.a, h.b, by omega, fun z => ?_, ?_⟩
  · have := of_decide_eq_false z
    omega
  · rw [show Nat.gcd x.1.natAbs x.2.natAbs = 1 from l]
    obtain ⟨a, b⟩ := x
    simp only at hp ⊢
    refine Prod.ext ?_ ?_
    · show a = (if decide (a < 0) = true then _ else _ : Int).fdiv 1
      rw [Int.fdiv_one]
      by_cases h0 : a < 0
      · rw [if_pos (decide_eq_true h0)]; omega
      · rw [if_neg (by simpa using h0)]; omega
    · show b = (b.natAbs : Int).fdiv 1
      rw [Int.fdiv_one]; omega
section
variable {w : Wd} {T : Nat → Option Fn}
theorem Told.frd (hF : w.glb 0 = some figs) (hM : w.glb 1 = some (.int 60)) (hw : T g_whole_of = some f_whole_of_0) (hc : T g_common = some f_common) (hr : T g_fraction_read = some f_fraction_read) {t : List Nat} {x : Int × Int} (h : Told t x) : Frd w T t x := by
  obtain ⟨neg, wB, A, B, rfl, hA, hB, h1, hwb, rfl⟩ := h
  intro k st
  exact rd_ok hF hM hw hc hr (by omega) neg wB A B hA hB h1 hwb st
end
end Dp

end
section
set_option linter.all false
set_option maxRecDepth 100000
/-! Tb: the words of a step, told; the law's fractions and rows. -/
namespace Dp
/-- words that tell a step -/
inductive Tws : Stp → List (List Nat) → Prop where
  | pnt (n tx ty : List Nat) (x y : Int × Int) : isNm n = true → Told tx x → Told ty y → Tws (.pnt n x y) [wPoint, n, tx, ty]
  | rby (n o tx : List Nat) (x : Int × Int) : isNm n = true → isNm o = true → Told tx x → Tws (.rby n o x) [wRing, n, o, wBy, tx]
  | lin (n a b : List Nat) : isNm n = true → isNm a = true → isNm b = true → Tws (.lin n a b) [wLine, n, a, b]
  | rng (n a b : List Nat) : isNm n = true → isNm a = true → isNm b = true → Tws (.rng n a b) [wRing, n, a, b]
  | crs (n a b : List Nat) : isNm n = true → isNm a = true → isNm b = true → Tws (.crs n a b) [wMeet, n, a, b]
  | met (n a b wh : List Nat) : isNm n = true → isNm a = true → isNm b = true → (wh = wFirst ∨ wh = wSecond) → Tws (.met n a b wh) [wMeet, n, a, b, wh]
theorem told_txt {t : List Nat} {x : Int × Int} (h : Told t x) : Told (txF x) x := told_self h.facts.1 h.facts.2.1
theorem Tws.self {p : Stp} {ws : List (List Nat)} (h : Tws p ws) : Tws p p.words := by
  cases h with
  | pnt n tx ty x y h1 h2 h3 => exact .pnt _ _ _ _ _ h1 (told_txt h2) (told_txt h3)
  | rby n o tx x h1 h2 h3 => exact .rby _ _ _ _ h1 h2 (told_txt h3)
  | lin n a b h1 h2 h3 => exact .lin _ _ _ h1 h2 h3
  | rng n a b h1 h2 h3 => exact .rng _ _ _ h1 h2 h3
  | crs n a b h1 h2 h3 => exact .crs _ _ _ h1 h2 h3
  | met n a b wh h1 h2 h3 h4 => exact .met _ _ _ _ h1 h2 h3 h4
theorem Tws.ok {p : Stp} {ws : List (List Nat)} (h : Tws p ws) : StpOk p := by
  cases h with
  | pnt n tx ty x y h1 h2 h3 => exact ⟨(isNm_len h1).2.1, (fun s hs => by cases hs), h2.facts.1, h3.facts.1⟩
  | rby n o tx x h1 h2 h3 => exact ⟨(isNm_len h1).2.1, fun s hs => by
      simp only [Stp.others, List.mem_cons, List.not_mem_nil, or_false] at hs
      rw [hs]; exact (isNm_len h2).2.1, h3.facts.1⟩
  | lin n a b h1 h2 h3 => exact ⟨(isNm_len h1).2.1, fun s hs => by
      simp only [Stp.others, List.mem_cons, List.not_mem_nil, or_false] at hs
      rcases hs with rfl | rfl
      · exact (isNm_len h2).2.1
      · exact (isNm_len h3).2.1, trivial⟩
  | rng n a b h1 h2 h3 => exact ⟨(isNm_len h1).2.1, fun s hs => by
      simp only [Stp.others, List.mem_cons, List.not_mem_nil, or_false] at hs
      rcases hs with rfl | rfl
      · exact (isNm_len h2).2.1
      · exact (isNm_len h3).2.1, trivial⟩
  | crs n a b h1 h2 h3 => exact ⟨(isNm_len h1).2.1, fun s hs => by
      simp only [Stp.others, List.mem_cons, List.not_mem_nil, or_false] at hs
      rcases hs with rfl | rfl
      · exact (isNm_len h2).2.1
      · exact (isNm_len h3).2.1, trivial⟩
  | met n a b wh h1 h2 h3 h4 => exact ⟨(isNm_len h1).2.1, fun s hs => by
      simp only [Stp.others, List.mem_cons, List.not_mem_nil, or_false] at hs
      rcases hs with rfl | rfl
      · exact (isNm_len h2).2.1
      · exact (isNm_len h3).2.1, by
      show wh.length ≤ 6
      rcases h4 with rfl | rfl <;> decide⟩
theorem nm_no {s : List Nat} (h : isNm s = true) : 32 ∉ s ∧ s.length ≤ 200 := ⟨isNm_no h (by decide), by have := (isNm_len h).2.1; omega⟩
theorem Tws.wds {p : Stp} {ws : List (List Nat)} (h : Tws p ws) : ws ≠ [] ∧ (∀ u ∈ ws, 32 ∉ u ∧ u.length ≤ 200) ∧ ws.length ≤ 5 := by
  have c1 : 32 ∉ wPoint ∧ wPoint.length ≤ 200 := by decide
  have c2 : 32 ∉ wRing ∧ wRing.length ≤ 200 := by decide
  have c3 : 32 ∉ wLine ∧ wLine.length ≤ 200 := by decide
  have c4 : 32 ∉ wMeet ∧ wMeet.length ≤ 200 := by decide
  have c5 : 32 ∉ wBy ∧ wBy.length ≤ 200 := by decide
  cases h with
  | pnt n tx ty x y h1 h2 h3 => exact ⟨by simp, fun u hu => by
      simp only [List.mem_cons, List.not_mem_nil, or_false] at hu
      rcases hu with rfl | rfl | rfl | rfl
      · exact c1
      · exact nm_no h1
      · exact ⟨h2.facts.2.2.2.2, h2.facts.2.2.1⟩
      · exact ⟨h3.facts.2.2.2.2, h3.facts.2.2.1⟩, by simp⟩
  | rby n o tx x h1 h2 h3 => exact ⟨by simp, fun u hu => by
      simp only [List.mem_cons, List.not_mem_nil, or_false] at hu
      rcases hu with rfl | rfl | rfl | rfl | rfl
      · exact c2
      · exact nm_no h1
      · exact nm_no h2
      · exact c5
      · exact ⟨h3.facts.2.2.2.2, h3.facts.2.2.1⟩, by simp⟩
  | lin n a b h1 h2 h3 => exact ⟨by simp, fun u hu => by
      simp only [List.mem_cons, List.not_mem_nil, or_false] at hu
      rcases hu with rfl | rfl | rfl | rfl
      · exact c3
      · exact nm_no h1
      · exact nm_no h2
      · exact nm_no h3, by simp⟩
  | rng n a b h1 h2 h3 => exact ⟨by simp, fun u hu => by
      simp only [List.mem_cons, List.not_mem_nil, or_false] at hu
      rcases hu with rfl | rfl | rfl | rfl
      · exact c2
      · exact nm_no h1
      · exact nm_no h2
      · exact nm_no h3, by simp⟩
  | crs n a b h1 h2 h3 => exact ⟨by simp, fun u hu => by
      simp only [List.mem_cons, List.not_mem_nil, or_false] at hu
      rcases hu with rfl | rfl | rfl | rfl
      · exact c4
      · exact nm_no h1
      · exact nm_no h2
      · exact nm_no h3, by simp⟩
  | met n a b wh h1 h2 h3 h4 => exact ⟨by simp, fun u hu => by
      simp only [List.mem_cons, List.not_mem_nil, or_false] at hu
      rcases hu with rfl | rfl | rfl | rfl | rfl
      · exact c4
      · exact nm_no h1
      · exact nm_no h2
      · exact nm_no h3
      · rcases h4 with rfl | rfl <;> decide, by simp⟩
theorem Tws.len {p : Stp} {ws : List (List Nat)} (h : Tws p ws) : (joinC [32] ws).length ≤ 1005 := by
  obtain ⟨_, h1, h2⟩ := h.wds
  have := joinC_len 200 ws fun u hu => (h1 u hu).2
  have : (200 + 1) * ws.length ≤ 201 * 5 := Nat.mul_le_mul_left _ h2
  omega
theorem Tws.spl {p : Stp} {ws : List (List Nat)} (h : Tws p ws) : splD (joinC [32] ws) (.str [32]) = some (strL ws) :=
  spl_ok ws h.wds.1 (fun u hu => (h.wds.2.1 u hu).1) (by have := h.len; omega)
section
variable {w : Wd} {T : Nat → Option Fn}
/-- words told are read to their step -/
theorem Tws.read (R : Rw0 w T) (F : ∀ t x, Told t x → Frd w T t x) {p : Stp} {ws : List (List Nat)} (h : Tws p ws) (k : Nat) (st : Sto) : den w T (k + 5) g_step_of [.str (joinC [32] ws)] st = some (.ok (.ref st.length) (st ++ [p.cell])) := by
  have S := h.spl
  cases h with
  | pnt n tx ty x y h1 h2 h3 => exact R.so4 k _ _ _ _ _ _ st _ S (R.short_pnt k n tx ty x y h1 (F _ _ h2) (F _ _ h3) st)
  | rby n o tx x h1 h2 h3 => exact R.so5 k _ _ _ _ _ _ _ st _ S (R.long_rby k n o tx x h1 h2 (F _ _ h3) st)
  | lin n a b h1 h2 h3 => exact R.so4 k _ _ _ _ _ _ st _ S (R.short_lin k n a b h1 h2 h3 st)
  | rng n a b h1 h2 h3 => exact R.so4 k _ _ _ _ _ _ st _ S (R.short_rng k n a b h1 h2 h3 st)
  | crs n a b h1 h2 h3 => exact R.so4 k _ _ _ _ _ _ st _ S (R.short_crs k n a b h1 h2 h3 st)
  | met n a b wh h1 h2 h3 h4 => exact R.so5 k _ _ _ _ _ _ _ st _ S (R.long_met k n a b wh h1 h2 h3 h4 st)
theorem told_of (A B : Int) (s : Bool) (hA : A.natAbs < 10 ^ 60) (hB : B.natAbs < 10 ^ 60) (h1 : 1 ≤ B) (hs : s = false → B = 1) : Told (ftx (decide (A < 0)) s A.natAbs B.natAbs) (A.fdiv (Nat.gcd A.natAbs B.natAbs : Nat), B.fdiv (Nat.gcd A.natAbs B.natAbs : Nat)) := by
  refine ⟨decide (A < 0), s, A.natAbs, B.natAbs, rfl, hA, hB, by omega, fun z => by have := hs z; omega, ?_⟩
  have e : (if decide (A < 0) = true then -((A.natAbs : Nat) : Int) else (A.natAbs : Int)) = A := by
    by_cases h0 : A < 0
    · rw [if_pos (decide_eq_true h0)]; omega
    · rw [if_neg (by simpa using h0)]; omega
  rw [e, show ((B.natAbs : Nat) : Int) = B by omega]
end
end Dp

end
section
set_option linter.all false
set_option maxRecDepth 100000
/-! Tc: the law's rows; what the law asks of a step. -/
namespace Dp
/-- what of the tables the law's rows need -/
structure Lr0 (T : Nat → Option Fn) : Prop where
  stir : T g__law_stir = some f__law_stir_0
  cell : T g__law_cell = some f__law_cell_1
  com : T g__law_common = some f__law_common
  name : T g__law_name = some f__law_name
  ftx : T g__law_fraction_text = some f__law_fraction_text
  frac : T g__law_fraction = some f__law_fraction_0
/-- what a row tells -/
def dueD (ws : List (List Nat)) (p : Stp) : D := .lst [.str (joinC [32] ws), .str p.text, strL (p.name :: p.others)]
section
variable {w : Wd} {T : Nat → Option Fn}
end
end Dp

end
section
set_option linter.all false
set_option maxRecDepth 100000
/-! Td: texts and lists of texts compared; what a law asks of a step. -/
namespace Dp
theorem strs_shl {l : List (List Nat)} (h : ∀ s ∈ l, sgs s) : shl 60 (strL l) = true := by
  show ((l.map D.str).all (shl 59)) = true
  rw [List.all_eq_true]
  intro x hx
  obtain ⟨s, hs, rfl⟩ := List.mem_map.mp hx
  exact sgs_shl (h s hs) 59
theorem strs_deqs : ∀ (a b : List (List Nat)), deqs (a.map .str) (b.map .str) = some (decide (a = b))
  | [], [] => rfl
  | [], _ :: _ => by simp [deqs]
  | _ :: _, [] => by simp [deqs]
  | x :: a, y :: b => by
    simp only [List.map_cons, deqs, deq, strs_deqs a b]
    rw [← Bool.decide_and]
    congr 1
    rw [Bool.eq_iff_iff]
    simp
theorem strs_ne {a b : List (List Nat)} (ha : ∀ s ∈ a, sgs s) (hb : ∀ s ∈ b, sgs s) : cop .ne (strL a) (strL b) = some (!decide (a = b)) := by
  show (if shl 60 (strL a) && shl 60 (strL b) then (deq (strL a) (strL b)).map (!·) else none) = _
  rw [strs_shl ha, strs_shl hb, show deq (strL a) (strL b) = _ from strs_deqs a b]
  rfl
theorem joinC_sgs : ∀ (ws : List (List Nat)), (∀ u ∈ ws, sgs u) → sgs (joinC [32] ws)
  | [], _ => fun c hc => by cases hc
  | [u], h => h u List.mem_cons_self
  | u :: v :: r, h => by
    intro c hc
    have ih := joinC_sgs (v :: r) fun x hx => h x (List.mem_cons_of_mem _ hx)
    rcases List.mem_append.mp (show c ∈ (u ++ [32]) ++ joinC [32] (v :: r) from hc) with hc | hc
    · rcases List.mem_append.mp hc with hc | hc
      · exact h u List.mem_cons_self c hc
      · have := List.mem_singleton.mp hc; omega
    · exact ih c hc
theorem nms_sgs : sgs wPoint ∧ sgs wLine ∧ sgs wRing ∧ sgs wMeet ∧ sgs wBy ∧ sgs wFirst ∧ sgs wSecond := by
  unfold sgs
  decide
theorem Tws.sgs {p : Stp} {ws : List (List Nat)} (h : Tws p ws) : Dp.sgs (joinC [32] ws) := by
  obtain ⟨c1, c2, c3, c4, c5, c6, c7⟩ := nms_sgs
  refine joinC_sgs ws fun u hu => ?_
  cases h with
  | pnt n tx ty x y h1 h2 h3 =>
    simp only [List.mem_cons, List.not_mem_nil, or_false] at hu
    rcases hu with rfl | rfl | rfl | rfl
    · exact c1
    · exact isNm_sgs h1
    · exact h2.facts.2.2.2.1
    · exact h3.facts.2.2.2.1
  | rby n o tx x h1 h2 h3 =>
    simp only [List.mem_cons, List.not_mem_nil, or_false] at hu
    rcases hu with rfl | rfl | rfl | rfl | rfl
    · exact c3
    · exact isNm_sgs h1
    · exact isNm_sgs h2
    · exact c5
    · exact h3.facts.2.2.2.1
  | lin n a b h1 h2 h3 =>
    simp only [List.mem_cons, List.not_mem_nil, or_false] at hu
    rcases hu with rfl | rfl | rfl | rfl
    · exact c2
    · exact isNm_sgs h1
    · exact isNm_sgs h2
    · exact isNm_sgs h3
  | rng n a b h1 h2 h3 =>
    simp only [List.mem_cons, List.not_mem_nil, or_false] at hu
    rcases hu with rfl | rfl | rfl | rfl
    · exact c3
    · exact isNm_sgs h1
    · exact isNm_sgs h2
    · exact isNm_sgs h3
  | crs n a b h1 h2 h3 =>
    simp only [List.mem_cons, List.not_mem_nil, or_false] at hu
    rcases hu with rfl | rfl | rfl | rfl
    · exact c4
    · exact isNm_sgs h1
    · exact isNm_sgs h2
    · exact isNm_sgs h3
  | met n a b wh h1 h2 h3 h4 =>
    simp only [List.mem_cons, List.not_mem_nil, or_false] at hu
    rcases hu with rfl | rfl | rfl | rfl | rfl
    · exact c4
    · exact isNm_sgs h1
    · exact isNm_sgs h2
    · exact isNm_sgs h3
    · rcases h4 with rfl | rfl
      · exact c6
      · exact c7
section
variable {w : Wd} {T : Nat → Option Fn}
/-- needs told as a list of one's own -/
theorem Rt0.needs (R : Rt0 w T) {f : Fn} (hf : f = f_Step_needs_m) (hn : T g_Step_needs = some f) (k : Nat) (p : Stp) (l : Nat) (st : Sto) (h : st[l]? = some p.cell) : den w T (k + 1) g_Step_needs [.ref l] st = some (.ok (.ref st.length) (st ++ [.lst (p.others.map .str)])) := by
  subst hf
  rw [den_run hn k _ st [some (.ref l)] rfl rfl]
  obtain ⟨c1, c2⟩ := p.cls_rg
  obtain ⟨f0, f1⟩ := R.f0 _ c1 c2
  cases p <;> simp only [Stp.cls] at f1 <;> simp only [Stp.cell] at h <;> simp -implicitDefEqProofs [f_Step_needs_m, run, ev, h, f1, Stp.others, List.lookup, lstR]
theorem view_at2 {st : Sto} {l : Nat} {xs : List D} (h : st[l]? = some (.lst xs)) : view st (.ref l) = .lst xs := by
  show (match st[l]? with | some (.lst xs) => D.lst xs | _ => D.ref l) = _
  rw [h]
end
end Dp

end
section
set_option linter.all false
set_option maxRecDepth 100000
/-! Te: what a refusal is; lists of truths. -/
namespace Dp
/-- the classes that are asked, in their order -/
def clsO : List Nat := [1, 2, 3, 4, 5, 6, 7, 8, 9, 22, 23, 24, 25, 10, 11, 12, 13, 14, 0, 1000]
/-- their names -/
def clNm : List (List Nat) := [[66, 101, 108, 111, 119], [78, 111, 84, 101, 120, 116], [78, 111, 79, 118, 101, 114], [78, 111, 82, 111, 111, 109], [78, 111, 76, 105, 110, 101], [78, 111, 82, 105, 110, 103], [78, 111, 82, 111, 119], [84, 111, 111, 77, 97, 110, 121], [84, 111, 111, 71, 114, 101, 97, 116], [78, 111, 67, 108, 97, 105, 109], [78, 111, 77, 111, 118, 101], [78, 111, 67, 104, 97, 110, 103, 101], [78, 111, 65, 115, 107], [78, 111, 77, 101, 101, 116], [84, 119, 105, 99, 101], [78, 111, 78, 97, 109, 101], [78, 111, 75, 105, 110, 100], [78, 111, 67, 97, 114, 114, 121]]
def bls (l : List Bool) : D := .lst (l.map .bl)
/-- what a refusal of a class is told by its name -/
def clsB (u : List Nat) : List Bool := (clNm.map fun n => decide (u = n)) ++ [true, true]
theorem clNm_sgs : ∀ n ∈ clNm, sgs n := by
  unfold sgs
  decide
section
variable {w : Wd} {T : Nat → Option Fn}
theorem class_ok (h : T g__law_class = some f__law_class) (k : Nat) (u : List Nat) (hu : sgs u) (st : Sto) : den w T (k + 1) g__law_class [.str u] st = some (.ok (bls (clsB u)) st) := by
  rw [den_run h k _ st [some (.str u), none, none] rfl rfl]
  have C : ev w (den w T k) c__law_class_0 [some (.str u), some (.lst (clNm.map .str)), none] st = _ := lc_its (w := w) (Φ := den w T k) (own := [2]) (e := e__law_class_0) (tg := .nm 2) (it := .seq (.var 1)) (env := [some (.str u), some (.lst (clNm.map .str)), none]) (st := st) (s1 := st) (d := D.str) clNm (fun n => D.bl (decide (u = n))) rfl (fun n hn => ⟨_, rfl, by
    have := str_eq hu (clNm_sgs n hn)
    simp -implicitDefEqProofs [e__law_class_0, ev, wipe, this]⟩) (by decide)
  simp only [clNm, List.map_cons, List.map_nil] at C
  simp -implicitDefEqProofs [f__law_class, run, ev, evs, C, bls, clsB, clNm]
theorem which_ok (h : T g__law_which = some f__law_which) (k : Nat) (x : Nat) (vs : List D) (b : Nat → Bool) (hs : ∀ c ∈ clsO, w.sub x c = some (b c)) (st : Sto) : den w T (k + 1) g__law_which [.exc x vs] st = some (.ok (bls (clsO.map b)) st) := by
  rw [den_run h k _ st [some (.exc x vs), none] rfl rfl]
  simp only [clsO, List.mem_cons, List.not_mem_nil, or_false, forall_eq_or_imp, forall_eq] at hs
  obtain ⟨h1, h2, h3, h4, h5, h6, h7, h8, h9, h10, h11, h12, h13, h14, h15, h16, h17, h18, h19, h20⟩ := hs
  simp -implicitDefEqProofs [f__law_which, run, ev, evs, isTyS, isTy, h1, h2, h3, h4, h5, h6, h7, h8, h9, h10, h11, h12, h13, h14, h15, h16, h17, h18, h19, h20, bls, clsO]
end
theorem bls_deqs : ∀ (a b : List Bool), deqs (a.map .bl) (b.map .bl) = some (decide (a = b))
  | [], [] => rfl
  | [], _ :: _ => by simp [deqs]
  | _ :: _, [] => by simp [deqs]
  | x :: a, y :: b => by
    simp only [List.map_cons, deqs, deq, bls_deqs a b]
    congr 1
    rw [Bool.eq_iff_iff]
    simp
theorem bls_shl (l : List Bool) : shl 60 (bls l) = true := by
  show ((l.map D.bl).all (shl 59)) = true
  rw [List.all_eq_true]
  intro x hx
  obtain ⟨s, hs, rfl⟩ := List.mem_map.mp hx
  rfl
theorem mix_deqs : ∀ (a : List (List Nat)) (b : List Bool), deqs (a.map .str) (b.map .bl) = some (decide (a = [] ∧ b = []))
  | [], [] => rfl
  | [], _ :: _ => by simp [deqs]
  | _ :: _, [] => by simp [deqs]
  | x :: a, y :: b => by
    simp only [List.map_cons, deqs, deq, mix_deqs a b]
    simp
/-- texts, or the truths of a refusal -/
inductive Dv where
  | s (l : List (List Nat))
  | b (l : List Bool)
  deriving DecidableEq
def Dv.d : Dv → D
  | .s l => strL l
  | .b l => bls l
def Dv.ok : Dv → Prop
  | .s l => l ≠ [] ∧ ∀ s ∈ l, sgs s
  | .b l => True
theorem Dv.shl {v : Dv} (h : v.ok) : Dp.shl 60 v.d = true := by
  cases v with
  | s l => exact strs_shl h.2
  | b l => exact bls_shl l
theorem Dv.deq_same {v : Dv} : deq v.d v.d = some true := by
  cases v with
  | s l => exact (strs_deqs l l).trans (by simp)
  | b l => exact (bls_deqs l l).trans (by simp)
theorem Dv.ne_same {v : Dv} (h : v.ok) : cop .ne v.d v.d = some false := by
  show (if Dp.shl 60 v.d && Dp.shl 60 v.d then (deq v.d v.d).map (!·) else none) = _
  rw [Dv.shl h, Dv.deq_same]
  rfl
theorem Dv.ne_b {v : Dv} (h : v.ok) (l : List Bool) : cop .ne v.d (bls l) = some (!decide (v = .b l)) := by
  show (if Dp.shl 60 v.d && Dp.shl 60 (bls l) then (deq v.d (bls l)).map (!·) else none) = _
  rw [Dv.shl h, bls_shl]
  cases v with
  | s a =>
    rw [show deq (Dv.s a).d (bls l) = _ from mix_deqs a l]
    have : ¬ (a = [] ∧ l = []) := fun z => h.1 z.1
    simp [this]
  | b a =>
    rw [show deq (Dv.b a).d (bls l) = _ from bls_deqs a l]
    simp
end Dp

end
section
set_option linter.all false
set_option maxRecDepth 100000
/-! Tf: two neighbours changed about: rows by letters. -/
namespace Dp
/-- a row as the law keeps it -/
def rowK (r : Stp × List (List Nat)) : D := .lst [.str r.1.name, strL r.1.others, .str (joinC [32] r.2)]
section
variable {w : Wd} {T : Nat → Option Fn}
theorem isNm1 {c : Nat} (h : ltr c = true) : isNm [c] = true := by
  unfold isNm
  simp [h]
theorem nine_ok (z : Int) : Told (ftx (decide (z.fmod 19 - 9 < 0)) true (z.fmod 19 - 9).natAbs (1 + z.fmod 5).natAbs) ((z.fmod 19 - 9).fdiv (Nat.gcd (z.fmod 19 - 9).natAbs (1 + z.fmod 5).natAbs : Nat), (1 + z.fmod 5).fdiv (Nat.gcd (z.fmod 19 - 9).natAbs (1 + z.fmod 5).natAbs : Nat)) := by
  have f1 := fmod_rng z (m := 19) (by decide)
  have f2 := fmod_rng z (m := 5) (by decide)
  have : (10 : Nat) ^ 60 = 1000000000000000000000000000000000000000000000000000000000000 := by decide
  exact told_of _ _ true (by omega) (by omega) (by omega) (by simp)
set_option maxHeartbeats 4000000 in
theorem row3_ok (L1 : T g__law_stir = some f__law_stir_0) (L2 : T g__law_cell = some f__law_cell_1) (h : T g__law_row = some f__law_row_3) (k : Nat) (vs : List Int) (hv : ∀ v ∈ vs, Stir v) (st : Sto) : ∃ r : Stp × List (List Nat), Tws r.1 r.2 ∧ den w T (k + 3) g__law_row [scr vs] st = some (.ok (rowK r) st) := by
  rw [den_run h (k + 2) _ st [some (scr vs), none, none, none, none, none, none, none, none, none] rfl rfl]
  obtain ⟨v0, _, C0⟩ := cell1_ok (w := w) L1 L2 k vs hv 0 (by decide) st
  obtain ⟨v1, _, C1⟩ := cell1_ok (w := w) L1 L2 k vs hv 1 (by decide) st
  simp only [Int.natCast_zero, Int.natCast_one, Int.cast_ofNat_Int] at C0 C1
  generalize scr vs = S at *
  have f2 := fmod_rng (v0.fdiv 7) (m := 2) (by decide)
  obtain ⟨M, hM, hI⟩ : ∃ M : Int, (1 ≤ M ∧ M ≤ 26) ∧ ixd (.lst [.int 4, .int 26]) (.int ((v0.fdiv 7).fmod 2)) = some (.int M) := by
    have : (v0.fdiv 7).fmod 2 = 0 ∨ (v0.fdiv 7).fmod 2 = 1 := by omega
    rcases this with e | e
    · exact ⟨4, by omega, by rw [e]; rfl⟩
    · exact ⟨26, by omega, by rw [e]; rfl⟩
  have nme : ∀ z : Int, ∃ c, ltr c = true ∧ ixd (.str abc) (.int (z.fmod M)) = some (.str [c]) := fun z => by
    have := fmod_rng z (m := M) (by omega)
    obtain ⟨c, h1, h2⟩ := abc_at this.1 (show z.fmod M < 26 by omega)
    exact ⟨c, h2, h1⟩
  obtain ⟨c0, l0, N0⟩ := nme (v1.fdiv 1)
  obtain ⟨c1, l1, N1⟩ := nme (v1.fdiv 26)
  obtain ⟨c2, l2, N2⟩ := nme (v1.fdiv 676)
  have hM0 : ¬ M = 0 := by omega
  have K : ev w (den w T (k + 2)) c__law_row_3_0 [some S, some (.int v0), some (.str abc), some (.int M), none, none, none, none, none, none] st = some (.ok (.lst [.str [c0], .str [c1], .str [c2]]) st) := by
    refine lc_its [((0 : Int), c0), (1, c1), (2, c2)] (fun p => D.str [p.2]) (d := fun p => D.int p.1) ?_ (fun p hp => ?_) (by simp)
    · rw [evi_rng1 (j := 3) rfl (by decide)]
      rfl
    · refine ⟨_, rfl, ?_⟩
      generalize abc = ab at *
      simp only [List.mem_cons, List.not_mem_nil, or_false] at hp
      rcases hp with rfl | rfl | rfl
      · simp -implicitDefEqProofs only [e__law_row_3_0, ev, evs, wipe, C1, N0, hM0, bnd_ok, lft_some, List.set_cons_succ, List.set_cons_zero, List.getElem?_cons_zero, List.getElem?_cons_succ, view_str, view_int, view_lst, List.length_cons, List.length_nil, Nat.reduceAdd, Nat.reduceLeDiff, if_true, if_false, ixd_lst, atI_0, bop_fdiv, bop_mod, List.foldl, Int.reduceEq, reduceIte]
      · simp -implicitDefEqProofs only [e__law_row_3_0, ev, evs, wipe, C1, N1, hM0, bnd_ok, lft_some, List.set_cons_succ, List.set_cons_zero, List.getElem?_cons_zero, List.getElem?_cons_succ, view_str, view_int, view_lst, List.length_cons, List.length_nil, Nat.reduceAdd, Nat.reduceLeDiff, if_true, if_false, ixd_lst, atI_1, bop_fdiv, bop_mod, List.foldl, Int.reduceEq, reduceIte]
      · have e2 : atI [D.int 1, .int 26, .int 676] 2 = some (.int 676) := rfl
        simp -implicitDefEqProofs only [e__law_row_3_0, ev, evs, wipe, C1, N2, hM0, bnd_ok, lft_some, List.set_cons_succ, List.set_cons_zero, List.getElem?_cons_zero, List.getElem?_cons_succ, view_str, view_int, view_lst, List.length_cons, List.length_nil, Nat.reduceAdd, Nat.reduceLeDiff, if_true, if_false, ixd_lst, e2, bop_fdiv, bop_mod, List.foldl, Int.reduceEq, reduceIte]
  have NT := nine_ok (v0.fdiv 14)
  have g1 := fmod_rng (v0.fdiv 14) (m := 19) (by decide)
  have g2 := fmod_rng (v0.fdiv 14) (m := 5) (by decide)
  obtain ⟨A, hA⟩ : ∃ A, (v0.fdiv 14).fmod 19 - 9 = A := ⟨_, rfl⟩
  obtain ⟨B, hB⟩ : ∃ B, 1 + (v0.fdiv 14).fmod 5 = B := ⟨_, rfl⟩
  rw [hA, hB] at NT
  have P60 : (10 : Nat) ^ 60 = 1000000000000000000000000000000000000000000000000000000000000 := by decide
  have A6 : A.natAbs < 10 ^ 60 := by omega
  have B6 : B.natAbs < 10 ^ 60 := by omega
  have SA := str_int A6
  have SB := str_int B6
  have lA := ftx_len (decide (A < 0)) false A6 (show 1 < 10 ^ 60 by decide)
  have lB := ftx_len (decide (B < 0)) false B6 (show 1 < 10 ^ 60 by decide)
  have et : ftx (decide (A < 0)) true A.natAbs B.natAbs = ftx (decide (A < 0)) false A.natAbs 1 ++ [47] ++ ftx (decide (B < 0)) false B.natAbs 1 := by
    simp [ftx, show ¬ B < 0 by omega]
  rw [et] at NT
  obtain ⟨x, hx⟩ : ∃ x, Told (ftx (decide (A < 0)) false A.natAbs 1 ++ [47] ++ ftx (decide (B < 0)) false B.natAbs 1) x := ⟨_, NT⟩
  clear NT et
  generalize ftx (decide (A < 0)) false A.natAbs 1 = ta at *
  generalize ftx (decide (B < 0)) false B.natAbs 1 = tb at *
  have a1 := add_str1 (a := ta) (b := [47]) (by simp; omega)
  have a2 := add_str1 (a := ta ++ [47]) (b := tb) (by simp; omega)
  have l3 : (ta ++ [47] ++ tb).length ≤ 401 := by simp; omega
  generalize ta ++ [47] ++ tb = tf at *
  obtain ⟨y, hy⟩ : ∃ y, Told [52, 47, 50] y := ⟨_, told_of 4 2 true (by decide) (by decide) (by decide) (by simp)⟩
  have f7 := fmod_rng v0 (m := 7) (by decide)
  obtain ⟨r, hr⟩ : ∃ r, v0.fmod 7 = r := ⟨_, rfl⟩
  rw [hr] at f7
  have fr : r = 0 ∨ r = 1 ∨ r = 2 ∨ r = 3 ∨ r = 4 ∨ r = 5 ∨ r = 6 := by omega
  have m0 := isNm1 l0
  have m1 := isNm1 l1
  have m2 := isNm1 l2
  have s1 : cut [D.str [c0], D.str [c1], D.str [c2]] (some 1) (some 2) = [.str [c1]] := rfl
  have s2 : cut [D.str [c0], D.str [c1], D.str [c2]] (some 1) none = [.str [c1], .str [c2]] := rfl
  have s3 : joinD [32] (.lst [D.str [c0], D.str [c1], D.str [c2]]) = some (.str [c0, 32, c1, 32, c2]) := rfl
  unfold abc at K
  have tail : ∀ (wd tl : List Nat), wd.length ≤ 10 → tl.length ≤ 10 → ¬ r = 0 → ¬ r = 1 → ixd (.lst [.str [108, 105, 110, 101], .str [114, 105, 110, 103], .str [109, 101, 101, 116], .str [109, 101, 101, 116], .str [109, 101, 101, 116]]) (.int (r - 2)) = some (.str wd) → ixd (.lst [.str [], .str [], .str [], .str [32, 102, 105, 114, 115, 116], .str [32, 115, 101, 99, 111, 110, 100]]) (.int (r - 2)) = some (.str tl) →
      fin (run w (den w T (k + 2)) f__law_row_3.body [some S, none, none, none, none, none, none, none, none, none] st) = some (.ok (.lst [.str [c0], .lst [.str [c1], .str [c2]], .str (wd ++ [32, c0, 32, c1, 32, c2] ++ tl)]) st) := fun wd tl h1 h2 r0 r1 hw ht => by
    have d1 := add_str1 (a := wd) (b := [32]) (by simp; omega)
    have d2 := add_str1 (a := wd ++ [32]) (b := [c0, 32, c1, 32, c2]) (by simp; omega)
    have d3 := add_str1 (a := wd ++ [32, c0, 32, c1, 32, c2]) (b := tl) (by simp; omega)
    have n0 : ixd (.lst [.str [c0], .str [c1], .str [c2]]) (.int 0) = some (.str [c0]) := rfl
    simp -implicitDefEqProofs [f__law_row_3, run, ev, evs, evo, evt, C0, hr, hI, K, hA, hB, SA, SB, a1, a2, r0, r1, n0, hw, ht, d1, d2, d3, s2, s3, -bop_str, -bfn_str, -ixd_lst]
  rcases fr with h0 | h0 | h0 | h0 | h0 | h0 | h0
  · refine ⟨(.pnt [c0] x y, _), .pnt [c0] tf _ x y m0 hx hy, ?_⟩
    subst h0
    have b1 := add_str1 (a := [112, 111, 105, 110, 116, 32]) (b := [c0]) (by simp)
    have b2 := add_str1 (a := [112, 111, 105, 110, 116, 32, c0]) (b := [32]) (by simp)
    have b3 := add_str1 (a := [112, 111, 105, 110, 116, 32, c0, 32]) (b := tf) (by simp; omega)
    have b4 := add_str1 (a := 112 :: 111 :: 105 :: 110 :: 116 :: 32 :: c0 :: 32 :: tf) (b := [32, 52, 47, 50]) (by simp; omega)
    clear tail
    simp only [rowK, Stp.name, Stp.others, strL, List.map_cons, List.map_nil]
    simp -implicitDefEqProofs [f__law_row_3, run, ev, evs, evo, evt, C0, hr, hI, K, hA, hB, SA, SB, a1, a2, b1, b2, b3, b4, joinC, wPoint, -bop_str, -bfn_str]
  · refine ⟨(.rby [c0] [c1] x, _), .rby [c0] [c1] tf x m0 m1 hx, ?_⟩
    subst h0
    have b1 := add_str1 (a := [114, 105, 110, 103, 32]) (b := [c0]) (by simp)
    have b2 := add_str1 (a := [114, 105, 110, 103, 32, c0]) (b := [32]) (by simp)
    have b3 := add_str1 (a := [114, 105, 110, 103, 32, c0, 32]) (b := [c1]) (by simp)
    have b4 := add_str1 (a := [114, 105, 110, 103, 32, c0, 32, c1]) (b := [32, 98, 121, 32]) (by simp)
    have b5 := add_str1 (a := [114, 105, 110, 103, 32, c0, 32, c1, 32, 98, 121, 32]) (b := tf) (by simp; omega)
    clear tail
    simp only [rowK, Stp.name, Stp.others, strL, List.map_cons, List.map_nil]
    simp -implicitDefEqProofs [f__law_row_3, run, ev, evs, evo, evt, C0, hr, hI, K, hA, hB, SA, SB, a1, a2, b1, b2, b3, b4, b5, joinC, wRing, wBy, s1, -bop_str, -bfn_str]
  · refine ⟨(.lin [c0] [c1] [c2], _), .lin [c0] [c1] [c2] m0 m1 m2, ?_⟩
    have := tail wLine [] (by decide) (by decide) (by omega) (by omega) (by rw [h0]; rfl) (by rw [h0]; rfl)
    rw [this]
    rfl
  · refine ⟨(.rng [c0] [c1] [c2], _), .rng [c0] [c1] [c2] m0 m1 m2, ?_⟩
    have := tail wRing [] (by decide) (by decide) (by omega) (by omega) (by rw [h0]; rfl) (by rw [h0]; rfl)
    rw [this]
    rfl
  · refine ⟨(.crs [c0] [c1] [c2], _), .crs [c0] [c1] [c2] m0 m1 m2, ?_⟩
    have := tail wMeet [] (by decide) (by decide) (by omega) (by omega) (by rw [h0]; rfl) (by rw [h0]; rfl)
    rw [this]
    rfl
  · refine ⟨(.met [c0] [c1] [c2] wFirst, _), .met [c0] [c1] [c2] wFirst m0 m1 m2 (.inl rfl), ?_⟩
    have := tail wMeet (32 :: wFirst) (by decide) (by decide) (by omega) (by omega) (by rw [h0]; rfl) (by rw [h0]; rfl)
    rw [this]
    rfl
  · refine ⟨(.met [c0] [c1] [c2] wSecond, _), .met [c0] [c1] [c2] wSecond m0 m1 m2 (.inr rfl), ?_⟩
    have := tail wMeet (32 :: wSecond) (by decide) (by decide) (by omega) (by omega) (by rw [h0]; rfl) (by rw [h0]; rfl)
    rw [this]
    rfl
end
end Dp

end
section
set_option linter.all false
set_option maxRecDepth 100000
/-! Pr: loops over lists of the store. -/
namespace Dp
theorem compR_map {α : Type} {en : Bool} {body : D → Sto → Ans (Option D)} (d : α → D) (g : Nat → α → D) (st : Sto) (l : Nat) (xs : List α) (hl : st[l]? = some (.lst (xs.map d))) : ∀ (ys : List α) (i : Nat), xs.drop i = ys → i ≤ xs.length →
    (∀ j x, i ≤ j → xs[j]? = some x → body (itm en j (d x)) st = some (.ok (some (g j x)) st)) → compR (itm en) body l i ys.length st = some (.ok (ys.mapIdx fun j x => g (i + j) x) st)
  | [], i, hd, hi, h => by
    have : xs.length ≤ i := by
      have := congrArg List.length hd
      rw [List.length_drop] at this
      simp at this
      omega
    unfold compR
    simp only [hl, List.getElem?_map, List.getElem?_eq_none this, Option.map_none, List.length_nil, List.mapIdx_nil]
  | y :: ys, i, hd, hi, h => by
    have hlt : i < xs.length := by
      have := congrArg List.length hd
      rw [List.length_drop] at this
      simp at this
      omega
    rw [List.drop_eq_getElem_cons hlt] at hd
    cases hd
    have e := List.getElem?_eq_getElem hlt
    have ih := compR_map (en := en) (body := body) d g st l xs hl _ (i + 1) rfl hlt fun j x hj hx => h j x (by omega) hx
    unfold compR
    simp only [hl, List.getElem?_map, e, Option.map_some, List.length_cons, h i _ (Nat.le_refl _) e, bnd_ok, ih, List.mapIdx_cons]
    congr 4
    funext j x
    congr 1
    omega
/-- [e for tg in ..] over a list of the store that stays -/
theorem lc_cel {α : Type} {w : Wd} {Φ : Nat → List D → Sto → Ans D} {m : Bool} {own : List Nat} {e : Ex} {tg : Tg} {it : Wk} {env : Nv} {st s1 : Sto} {d : α → D} {en : Bool} {l : Nat} (xs : List α) (g : Nat → α → D) (h1 : evi w Φ it env st = some (.ok (.cel en l) s1)) (hl : s1[l]? = some (.lst (xs.map d)))
    (h2 : ∀ (j : Nat) (x : α), xs[j]? = some x → ∃ env', asgn tg (itm en j (d x)) (wipe env own) = some env' ∧ ev w Φ e env' s1 = some (.ok (g j x) s1)) (hn : xs.length ≤ 1000000) : ev w Φ (.lc m own e tg it .none) env st = some (lstR m (xs.mapIdx g) s1) := by
  have hs : size s1 l = xs.length := by
    unfold size
    rw [hl]
    simp
  rw [ev_lc, h1]
  simp only [bnd_ok, compS, hs]
  rw [compR_map d g s1 l xs hl xs 0 rfl (Nat.zero_le _) fun j x _ hx => ?_]
  · simp only [bnd_ok, List.length_mapIdx, if_pos hn, Nat.zero_add]
  · obtain ⟨env', e1, e2⟩ := h2 j x hx
    unfold lcBody
    simp only [e1, bnd_ok, if_true, e2, noex_ok]
theorem mapIdx_const {α β : Type} (g : α → β) (xs : List α) : (xs.mapIdx fun _ x => g x) = xs.map g := by
  apply List.ext_getElem <;> simp
end Dp

end
section
set_option linter.all false
set_option maxRecDepth 100000
/-! Tg: two neighbours changed about: what is due, what is done. -/
namespace Dp
theorem view_ref {st : Sto} {l : Nat} {xs : List D} (h : view st (.ref l) = .lst xs) : st[l]? = some (.lst xs) := by
  have e : view st (.ref l) = (match st[l]? with | some (.lst xs) => D.lst xs | _ => D.ref l) := rfl
  rw [e] at h
  split at h
  · rename_i h2
    cases h
    exact h2
  · cases h
theorem view_lt {st : Sto} {l : Nat} {xs : List D} (h : st[l]? = some (.lst xs)) : l < st.length := by
  rcases Nat.lt_or_ge l st.length with h' | h'
  · exact h'
  · rw [List.getElem?_eq_none h'] at h; cases h
theorem view_ext {st : Sto} {X : D} {xs : List D} (e : Sto) (h : view st X = .lst xs) : view (st ++ e) X = .lst xs := by
  cases X with
  | ref l =>
    have h1 := view_ref h
    exact view_at2 (by rw [List.getElem?_append_left (view_lt h1), h1])
  | lst ys => exact h
  | tup ys => cases h
  | int i => cases h
  | bl b => cases h
  | str s => cases h
  | non => cases h
  | exc c v => cases h
theorem cut_take {α : Type} (l : List α) (j : Nat) : cut l none (some (j : Int)) = l.take j := by
  have e : sIx l.length l.length (some (j : Int)) = min j l.length := by
    show (if ((j : Nat) : Int) < 0 then (((j : Nat) : Int) + (l.length : Int)).toNat else min ((j : Nat) : Int).toNat l.length) = _
    rw [if_neg (by omega), Int.toNat_natCast]
  unfold cut
  rw [e]
  show List.take (min j l.length - 0) (List.drop 0 l) = _
  rw [Nat.sub_zero, List.drop_zero]
  rcases Nat.le_total j l.length with h | h
  · rw [Nat.min_eq_left h]
  · rw [Nat.min_eq_right h, List.take_length, List.take_of_length_le h]
theorem cut_drop {α : Type} (l : List α) (j : Nat) : cut l (some (j : Int)) none = l.drop j := by
  have e : sIx l.length 0 (some (j : Int)) = min j l.length := by
    show (if ((j : Nat) : Int) < 0 then (((j : Nat) : Int) + (l.length : Int)).toNat else min ((j : Nat) : Int).toNat l.length) = _
    rw [if_neg (by omega), Int.toNat_natCast]
  unfold cut
  rw [e]
  show List.take (l.length - min j l.length) (List.drop (min j l.length) l) = _
  rcases Nat.le_total j l.length with h | h
  · rw [Nat.min_eq_left h, List.take_of_length_le (by simp)]
  · rw [Nat.min_eq_right h, List.drop_length, List.drop_of_length_le h]
    simp
/-- two neighbours changed about -/
def swp {α : Type} (j : Nat) (l : List α) : List α := match l[j]?, l[j + 1]? with
  | some a, some b => l.take j ++ [b, a] ++ l.drop (j + 2)
  | _, _ => l
theorem swp_of {α : Type} {j : Nat} {l : List α} {a b : α} (ha : l[j]? = some a) (hb : l[j + 1]? = some b) : swp j l = l.take j ++ [b, a] ++ l.drop (j + 2) := by
  unfold swp
  rw [ha, hb]
theorem swp_map {α β : Type} (f : α → β) (j : Nat) (l : List α) : swp j (l.map f) = (swp j l).map f := by
  unfold swp
  rw [List.getElem?_map, List.getElem?_map]
  cases l[j]? with
  | none => rfl
  | some a => cases l[j + 1]? with
    | none => rfl
    | some b => simp [List.map_take, List.map_drop]
theorem swp_set {α : Type} {j : Nat} {l : List α} {a b : α} (ha : l[j]? = some a) (hb : l[j + 1]? = some b) : (l.set j b).set (j + 1) a = swp j l := by
  rw [swp_of ha hb]
  have h1 : j + 1 < l.length := by
    rcases Nat.lt_or_ge (j + 1) l.length with h' | h'
    · exact h'
    · rw [List.getElem?_eq_none h'] at hb; cases hb
  apply List.ext_getElem?
  intro i
  rw [List.getElem?_set, List.getElem?_set, List.append_assoc, List.getElem?_append]
  have lt : (l.take j).length = j := by rw [List.length_take]; omega
  rw [lt]
  by_cases c1 : i < j
  · rw [if_neg (by omega), if_neg (by omega), if_pos c1, List.getElem?_take, if_pos c1]
  · rw [if_neg c1]
    by_cases c2 : i = j
    · subst c2
      rw [if_neg (by omega), if_pos rfl, if_pos (by omega), Nat.sub_self]
      rfl
    · by_cases c3 : i = j + 1
      · subst c3
        rw [if_pos rfl, if_pos (by rw [List.length_set]; omega), show j + 1 - j = 1 by omega]
        rfl
      · rw [if_neg (by omega), if_neg (by omega), List.getElem?_append_right (by show 2 ≤ _; omega), List.getElem?_drop]
        congr 1
        show i = j + 2 + (i - j - 2)
        omega
theorem swp_len {α : Type} (j : Nat) (l : List α) : (swp j l).length = l.length := by
  unfold swp
  split
  · rename_i a b h1 h2
    have h1 : j + 1 < l.length := by
      rcases Nat.lt_or_ge (j + 1) l.length with h' | h'
      · exact h'
      · rw [List.getElem?_eq_none h'] at h2; cases h2
    simp
    omega
  · rfl
theorem swp_mem {α : Type} {j : Nat} {l : List α} {x : α} (h : x ∈ swp j l) : x ∈ l := by
  unfold swp at h
  split at h
  · rename_i a b h1 h2
    simp only [List.mem_append, List.mem_cons, List.not_mem_nil, or_false] at h
    rcases h with (h | rfl | rfl) | h
    · exact List.mem_of_mem_take h
    · exact List.mem_of_getElem? h2
    · exact List.mem_of_getElem? h1
    · exact List.mem_of_mem_drop h
  · exact h
theorem in_strs (n : List Nat) (l : List (List Nat)) : cop .isin (.str n) (strL l) = some (decide (n ∈ l)) := by
  show inLst (.str n) (l.map .str) = _
  have e : inSeq (.str n) (l.map .str) = some (decide (n ∈ l)) := by
    unfold inSeq
    rw [if_pos ?_]
    · congr 1
      induction l with
      | nil => rfl
      | cons a l ih =>
        rw [List.map_cons, List.any_cons, ih]
        have : flatEq (.str a) (.str n) = decide (n = a) := by
          show decide (a = n) = _
          exact decide_eq_decide.mpr ⟨Eq.symm, Eq.symm⟩
        rw [this, ← Bool.decide_or, decide_eq_decide, List.mem_cons]
    · have : (l.map D.str).all flat = true := by
        rw [List.all_eq_true]
        intro x hx
        obtain ⟨s, _, rfl⟩ := List.mem_map.mp hx
        rfl
      rw [this]
      rfl
  unfold inLst
  rw [e]
section
variable {w : Wd} {T : Nat → Option Fn}
/-- [e for tg in ..] over what is told as a list, of the store or not -/
theorem lc_view {α : Type} {Φ : Nat → List D → Sto → Ans D} {own : List Nat} {e e0 : Ex} {tg : Tg} {env : Nv} {st s1 : Sto} {d : α → D} {X : D} (xs : List α) (g : α → D) (h1 : ev w Φ e0 env st = some (.ok X s1)) (hX : view s1 X = .lst (xs.map d))
    (h2 : ∀ x ∈ xs, ∃ env', asgn tg (d x) (wipe env own) = some env' ∧ ev w Φ e env' s1 = some (.ok (g x) s1)) (hl : xs.length ≤ 1000000) : ev w Φ (.lc false own e tg (.seq e0) .none) env st = some (.ok (.lst (xs.map g)) s1) := by
  cases X with
  | ref l =>
    have h3 := view_ref hX
    have := lc_cel (w := w) (Φ := Φ) (m := false) (own := own) (e := e) (tg := tg) (it := .seq e0) (env := env) (st := st) (s1 := s1) (d := d) (en := false) (l := l) xs (fun _ => g) (by
      simp only [evi, h1, bnd_ok, srcs, lcel_cel h3, lft_some]) h3 (fun j x hx => h2 x (List.mem_of_getElem? hx)) hl
    rw [this, mapIdx_const]
    rfl
  | lst ys =>
    have : ys = xs.map d := by
      cases hX
      rfl
    subst this
    exact lc_its xs g (by simp only [evi, h1, bnd_ok, srcs, lcel_its, lft_some]) h2 hl
  | tup ys => cases hX
  | int i => cases hX
  | bl b => cases hX
  | str s => cases hX
  | non => cases hX
  | exc c v => cases hX
end
end Dp

end
section
set_option linter.all false
set_option maxRecDepth 100000
/-! Th: what is due where two rows are changed about, and that it is so. -/
namespace Dp
abbrev Rw := Stp × List (List Nat)
def txR (r : Rw) : List Nat := joinC [32] r.2
def noch : List Nat := [78, 111, 67, 104, 97, 110, 103, 101]
/-- there are two such rows, the first at j, and which -/
def At2 (rs : List Rw) (at' : Int) (j : Nat) (a b : Rw) : Prop := at' = (j : Int) ∧ rs[j]? = some a ∧ rs[j + 1]? = some b
theorem at2_or (rs : List Rw) (i : Int) : (i < 0 ∨ i > (rs.length : Int) - 2) ∨ ∃ j a b, At2 rs i j a b := by
  by_cases h : i < 0 ∨ i > (rs.length : Int) - 2
  · exact .inl h
  · right
    have h1 : i.toNat < rs.length := by omega
    have h2 : i.toNat + 1 < rs.length := by omega
    exact ⟨i.toNat, rs[i.toNat], rs[i.toNat + 1], by omega, List.getElem?_eq_getElem h1, List.getElem?_eq_getElem h2⟩
/-- what is due -/
def dueV (rs : List Rw) (i : Int) : Dv := if i < 0 ∨ i > (rs.length : Int) - 2 then .b (clsB noch) else match rs[i.toNat]?, rs[i.toNat + 1]? with
  | some a, some b => if a.1.name ∈ b.1.others then .b (clsB noch) else .s (swp i.toNat (rs.map txR))
  | _, _ => .b (clsB noch)
theorem dueV_out {rs : List Rw} {i : Int} (h : i < 0 ∨ i > (rs.length : Int) - 2) : dueV rs i = .b (clsB noch) := by
  unfold dueV
  rw [if_pos h]
theorem At2.lt {rs : List Rw} {i : Int} {j : Nat} {a b : Rw} (h : At2 rs i j a b) : j + 1 < rs.length := by
  obtain ⟨_, _, h2⟩ := h
  rcases Nat.lt_or_ge (j + 1) rs.length with h' | h'
  · exact h'
  · rw [List.getElem?_eq_none h'] at h2; cases h2
theorem dueV_at {rs : List Rw} {i : Int} {j : Nat} {a b : Rw} (h : At2 rs i j a b) : dueV rs i = if a.1.name ∈ b.1.others then .b (clsB noch) else .s (swp j (rs.map txR)) := by
  have hl := h.lt
  obtain ⟨e, h1, h2⟩ := h
  unfold dueV
  rw [if_neg (by omega)]
  have : i.toNat = j := by omega
  rw [this]
  simp only [h1, h2]
theorem dueV_ok {rs : List Rw} (hr : ∀ r ∈ rs, Tws r.1 r.2) (i : Int) : (dueV rs i).ok := by
  rcases at2_or rs i with h | ⟨j, a, b, h⟩
  · rw [dueV_out h]
    exact trivial
  · rw [dueV_at h]
    split
    · exact trivial
    · refine ⟨fun e => ?_, fun s hs => ?_⟩
      · have := swp_len j (rs.map txR)
        rw [e, List.length_map] at this
        have := h.lt
        simp at *
        omega
      · obtain ⟨r, h1, rfl⟩ := List.mem_map.mp (swp_mem hs)
        exact (hr r h1).sgs
section
variable {w : Wd} {T : Nat → Option Fn}
theorem due6_ok (hcl : T g__law_class = some f__law_class) (h : T g__law_due = some f__law_due_6) (k : Nat) (rs : List Rw) (hl : rs.length ≤ 1000) (X : D) (i : Int) (st : Sto) (hX : view st X = .lst (rs.map rowK)) : den w T (k + 2) g__law_due [X, .int i] st = some (.ok (dueV rs i).d st) := by
  rw [den_run h (k + 1) _ st [some X, some (.int i), none, none] rfl rfl]
  have CL := class_ok (w := w) hcl k noch (by unfold sgs noch; decide) st
  unfold noch at CL
  have L : bfn .len [D.lst (rs.map rowK)] = some (.int (rs.length : Int)) := by
    show some (D.int ((rs.map rowK).length : Int)) = _
    rw [List.length_map]
  rcases at2_or rs i with ho | ⟨j, a, b, hat⟩
  · rw [dueV_out ho]
    show _ = some (Rs.ok (bls (clsB noch)) st)
    unfold noch
    generalize bls _ = bb at *
    generalize (rs.length : Int) = n at *
    generalize rs.map rowK = rl at *
    by_cases h0 : i < 0
    · simp -implicitDefEqProofs [f__law_due_6, run, ev, evs, evo, evt, hX, L, h0, CL, -bfn_len_lst]
    · have h1 : n - 2 < i := by omega
      simp -implicitDefEqProofs [f__law_due_6, run, ev, evs, evo, evt, hX, L, h0, h1, CL, -bfn_len_lst]
  · rw [dueV_at hat]
    have hlt := hat.lt
    obtain ⟨rfl, ha, hb⟩ := hat
    have I := in_strs a.1.name b.1.others
    have X1 : ixd (.lst (rs.map rowK)) (.int (j : Int)) = some (rowK a) := by
      show atI (rs.map rowK) (j : Int) = _
      rw [atI_nat, List.getElem?_map, ha]
      rfl
    have X2 : ixd (.lst (rs.map rowK)) (.int ((j : Int) + 1)) = some (rowK b) := by
      show atI (rs.map rowK) ((j : Int) + 1) = _
      rw [show ((j : Int) + 1) = ((j + 1 : Nat) : Int) by omega, atI_nat, List.getElem?_map, hb]
      rfl
    have Y1 : ixd (rowK a) (.int 0) = some (.str a.1.name) := rfl
    have Y2 : ixd (rowK b) (.int 1) = some (strL b.1.others) := rfl
    have V1 : view st (rowK a) = rowK a := rfl
    have V2 : view st (rowK b) = rowK b := rfl
    have V3 : view st (strL b.1.others) = strL b.1.others := rfl
    have h0 : ¬ (j : Int) < 0 := by omega
    have h1 : ¬ (rs.length : Int) - 2 < (j : Int) := by omega
    by_cases hin : a.1.name ∈ b.1.others
    · rw [if_pos hin]
      rw [decide_eq_true hin] at I
      show _ = some (Rs.ok (bls (clsB noch)) st)
      unfold noch
      generalize bls _ = bb at *
      generalize (rs.length : Int) = n at *
      generalize rs.map rowK = rl at *
      generalize rowK a = ra at *
      generalize rowK b = rb at *
      generalize strL b.1.others = so at *
      generalize (j : Int) = ji at *
      simp -implicitDefEqProofs [f__law_due_6, run, ev, evs, evo, evt, hX, L, h0, h1, CL, X1, X2, Y1, Y2, V1, V2, V3, I, -bfn_len_lst, -ixd_lst]
    · rw [if_neg hin]
      rw [decide_eq_false hin] at I
      have C : ev w (den w T (k + 1)) c__law_due_6_0 [some X, some (.int (j : Int)), none, none] st = some (.ok (.lst (rs.map fun r => D.str (txR r))) st) :=
        lc_view (X := X) (d := rowK) rs (fun r => D.str (txR r)) (by simp -implicitDefEqProofs [ev]) hX (fun r hr => ⟨_, rfl, by
          have Y3 : ixd (rowK r) (.int 2) = some (.str (txR r)) := rfl
          have V4 : view st (rowK r) = rowK r := rfl
          generalize rowK r = rr at *
          simp -implicitDefEqProofs [e__law_due_6_0, ev, wipe, Y3, V4, -ixd_lst]⟩) (by omega)
      have ta : (rs.map fun r => D.str (txR r))[j]? = some (.str (txR a)) := by rw [List.getElem?_map, ha]; rfl
      have tb : (rs.map fun r => D.str (txR r))[j + 1]? = some (.str (txR b)) := by rw [List.getElem?_map, hb]; rfl
      have lt : (rs.map fun r => D.str (txR r)).length = rs.length := List.length_map _
      have Z1 : ixd (.lst (rs.map fun r => D.str (txR r))) (.int (j : Int)) = some (.str (txR a)) := by
        show atI (rs.map fun r => D.str (txR r)) (j : Int) = _
        rw [atI_nat, ta]
      have Z2 : ixd (.lst (rs.map fun r => D.str (txR r))) (.int ((j : Int) + 1)) = some (.str (txR b)) := by
        show atI (rs.map fun r => D.str (txR r)) ((j : Int) + 1) = _
        rw [show ((j : Int) + 1) = ((j + 1 : Nat) : Int) by omega, atI_nat, tb]
      have Z3 : sld none (some (j : Int)) (.lst (rs.map fun r => D.str (txR r))) = some (.lst ((rs.map fun r => D.str (txR r)).take j)) := by
        show some (D.lst (cut _ _ _)) = _
        rw [cut_take]
      have Z4 : sld (some ((j : Int) + 2)) none (.lst (rs.map fun r => D.str (txR r))) = some (.lst ((rs.map fun r => D.str (txR r)).drop (j + 2))) := by
        show some (D.lst (cut _ _ _)) = _
        rw [show ((j : Int) + 2) = ((j + 2 : Nat) : Int) by omega, cut_drop]
      have e : (Dv.s (swp j (rs.map txR))).d = .lst ((rs.map fun r => D.str (txR r)).take j ++ [.str (txR b), .str (txR a)] ++ (rs.map fun r => D.str (txR r)).drop (j + 2)) := by
        show D.lst ((swp j (rs.map txR)).map .str) = _
        rw [← swp_map, List.map_map]
        show D.lst (swp j (rs.map fun r => D.str (txR r))) = _
        rw [swp_of ta tb]
      rw [e]
      generalize hts : (rs.map fun r => D.str (txR r)) = ts at *
      have B1 : bop .add (.lst (ts.take j)) (.lst [.str (txR b), .str (txR a)]) = some (.lst (ts.take j ++ [.str (txR b), .str (txR a)])) := by
        show (if (ts.take j).length + 2 ≤ 1000000 then _ else none) = _
        rw [if_pos (by rw [List.length_take]; omega)]
      have B2 : bop .add (.lst (ts.take j ++ [.str (txR b), .str (txR a)])) (.lst (ts.drop (j + 2))) = some (.lst (ts.take j ++ [.str (txR b), .str (txR a)] ++ ts.drop (j + 2))) := by
        show (if (ts.take j ++ [D.str (txR b), D.str (txR a)]).length + (ts.drop (j + 2)).length ≤ 1000000 then _ else none) = _
        rw [if_pos (by rw [List.length_append, List.length_take, List.length_drop]; show _ + 2 + _ ≤ _; omega)]
      generalize ts.take j ++ [D.str (txR b), D.str (txR a)] ++ ts.drop (j + 2) = res at *
      generalize ts.take j ++ [D.str (txR b), D.str (txR a)] = res0 at *
      generalize ts.take j = tj at *
      generalize ts.drop (j + 2) = td at *
      generalize (rs.length : Int) = n at *
      generalize rs.map rowK = rl at *
      generalize rowK a = ra at *
      generalize rowK b = rb at *
      generalize strL b.1.others = so at *
      generalize (j : Int) = ji at *
      simp -implicitDefEqProofs [f__law_due_6, run, ev, evs, evo, evt, optI, hX, L, h0, h1, C, X1, X2, Y1, Y2, V1, V2, V3, I, Z1, Z2, Z3, Z4, B1, B2, -bfn_len_lst, -ixd_lst, -bop_lst]
end
end Dp

end
section
set_option linter.all false
set_option maxRecDepth 100000
/-! Ti: rows are changed about, or refused. -/
namespace Dp
theorem ixN_nat {n j : Nat} (h : j < n) : ixN n (j : Int) = some j := by
  unfold ixN
  rw [if_pos (by omega), if_pos (by omega), Int.toNat_natCast]
section
variable {w : Wd} {T : Nat → Option Fn}
theorem Rt0.needs0 (R : Rt0 w T) (hn : T g_Step_needs = some f_Step_needs) (k : Nat) (p : Stp) (l : Nat) (st : Sto) (h : st[l]? = some p.cell) : den w T (k + 1) g_Step_needs [.ref l] st = some (.ok (strL p.others) st) := by
  rw [den_run hn k _ st [some (.ref l)] rfl rfl]
  obtain ⟨c1, c2⟩ := p.cls_rg
  obtain ⟨f0, f1⟩ := R.f0 _ c1 c2
  cases p <;> simp only [Stp.cls] at f1 <;> simp only [Stp.cell] at h <;> simp -implicitDefEqProofs [f_Step_needs, run, ev, evs, h, f1, Stp.others, List.lookup, strL]
/-- one change, nothing of rows in sight -/
theorem chg_run (k : Nat) (h : T g_changed = some f_changed) (X : D) (ts : List D) (j n l1 l2 ca cb gn : Nat) (fa fb : List (Nat × D)) (ta tb na : List Nat) (ob : D) (st st1 st2 : Sto) (bi : Bool) (hn : ts.length = n) (hj : j + 1 < n) (hm : n ≤ 1000000)
    (v0 : view st X = .lst ts) (v1 : view st1 X = .lst ts) (v2 : view st2 X = .lst ts) (v3 : ∀ c, view (st2 ++ [c]) X = .lst ts)
    (xa : ixd (.lst ts) (.int (j : Int)) = some (.str ta)) (xb : ixd (.lst ts) (.int ((j : Int) + 1)) = some (.str tb))
    (S1 : den w T k g_step_of [.str ta] st = some (.ok (.ref l1) st1)) (c1 : st1[l1]? = some (.ins ca fa)) (m1 : w.mth ca 0 = some g_Step_named) (N1 : den w T k g_Step_named [.ref l1] st1 = some (.ok (.str na) st1))
    (S2 : den w T k g_step_of [.str tb] st1 = some (.ok (.ref l2) st2)) (c2 : st2[l2]? = some (.ins cb fb)) (m2 : w.mth cb 1 = some gn) (N2 : den w T k gn [.ref l2] st2 = some (.ok ob st2)) (vo : view st2 ob = ob) (hb : cop .isin (.str na) ob = some bi) :
    den w T (k + 1) g_changed [X, .int (j : Int)] st = if bi = true then some (.ex (.exc 24 []) st2) else some (.ok (.ref st2.length) (st2 ++ [.lst ((ts.set j (.str tb)).set (j + 1) (.str ta))])) := by
  rw [den_run h k _ st [some X, some (.int (j : Int)), none] rfl rfl]
  have L : bfn .len [D.lst ts] = some (.int (n : Int)) := by
    show some (D.int (ts.length : Int)) = _
    rw [hn]
  have h0 : (0 : Int) ≤ (j : Int) := by omega
  have h1 : (j : Int) ≤ (n : Int) - 2 := by omega
  have i1 : ixN ts.length (j : Int) = some j := ixN_nat (by omega)
  have i2 : ixN (ts.set j (.str tb)).length ((j : Int) + 1) = some (j + 1) := by
    rw [List.length_set, show ((j : Int) + 1) = ((j + 1 : Nat) : Int) by omega]
    exact ixN_nat (by omega)
  have lm : ts.length ≤ 1000000 := by omega
  rw [List.length_set] at i2
  generalize hji : (j : Int) = ji at *
  generalize (n : Int) = ni at *
  cases bi with
  | true => simp -implicitDefEqProofs [f_changed, run, ev, evs, evt, v0, v1, v2, v3, xa, xb, S1, c1, m1, N1, S2, c2, m2, N2, vo, hb, L, h0, h1, -bfn_len_lst, -ixd_lst]
  | false => simp -implicitDefEqProofs [f_changed, run, ev, evs, evt, v0, v1, v2, v3, xa, xb, S1, c1, m1, N1, S2, c2, m2, N2, vo, hb, L, h0, h1, lm, lstR, i1, i2, -bfn_len_lst, -ixd_lst]
theorem chg_out (k : Nat) (h : T g_changed = some f_changed) (X : D) (ts : List D) (i : Int) (st : Sto) (v0 : view st X = .lst ts) (ho : i < 0 ∨ i > (ts.length : Int) - 2) : den w T (k + 1) g_changed [X, .int i] st = some (.ex (.exc 24 []) st) := by
  rw [den_run h k _ st [some X, some (.int i), none] rfl rfl]
  have L : bfn .len [D.lst ts] = some (.int (ts.length : Int)) := rfl
  generalize (ts.length : Int) = ni at *
  by_cases h0 : 0 ≤ i
  · have h1 : ¬ i ≤ ni - 2 := by omega
    simp -implicitDefEqProofs [f_changed, run, ev, evs, evt, v0, L, h0, h1, -bfn_len_lst]
  · simp -implicitDefEqProofs [f_changed, run, ev, evs, evt, v0, L, h0, -bfn_len_lst]
theorem changed_ok (R : Rw0 w T) (F : ∀ t x, Told t x → Frd w T t x) (R2 : Rt0 w T) (hn : T g_Step_needs = some f_Step_needs) (hm : ∀ c, 16 ≤ c → c ≤ 21 → w.mth c 1 = some g_Step_needs) (h : T g_changed = some f_changed) (k : Nat) (rs : List Rw) (hr : ∀ r ∈ rs, Tws r.1 r.2) (hl : rs.length ≤ 1000) (X : D) (i : Int) (st : Sto) (hX : view st X = strL (rs.map txR)) :
    (∃ e, den w T (k + 6) g_changed [X, .int i] st = some (.ex (.exc 24 []) (st ++ e)) ∧ dueV rs i = .b (clsB noch)) ∨ ∃ e R, den w T (k + 6) g_changed [X, .int i] st = some (.ok R (st ++ e)) ∧ view (st ++ e) R = (dueV rs i).d := by
  have hX' : view st X = .lst ((rs.map txR).map .str) := hX
  rcases at2_or rs i with ho | ⟨j, a, b, hat⟩
  · refine .inl ⟨[], ?_, dueV_out ho⟩
    rw [List.append_nil]
    exact chg_out (k + 5) h X _ i st hX' (by rw [List.length_map, List.length_map]; exact ho)
  · have hlt := hat.lt
    rw [dueV_at hat]
    obtain ⟨rfl, ha, hb⟩ := hat
    have ta : ((rs.map txR).map D.str)[j]? = some (.str (txR a)) := by rw [List.getElem?_map, List.getElem?_map, ha]; rfl
    have tb : ((rs.map txR).map D.str)[j + 1]? = some (.str (txR b)) := by rw [List.getElem?_map, List.getElem?_map, hb]; rfl
    have twa := hr a (List.mem_of_getElem? ha)
    have twb := hr b (List.mem_of_getElem? hb)
    have c1 : (st ++ [a.1.cell])[st.length]? = some a.1.cell := by simp
    have c2 : (st ++ [a.1.cell] ++ [b.1.cell])[(st ++ [a.1.cell]).length]? = some b.1.cell := by simp
    have N1 := R2.named (k + 4) a.1 st.length _ c1
    have N2 := R2.needs0 hn (k + 4) b.1 _ _ c2
    have c1' := c1
    have c2' := c2
    rw [a.1.cell_eq] at c1'
    rw [b.1.cell_eq] at c2'
    have Z := chg_run (w := w) (T := T) (k + 5) h X ((rs.map txR).map .str) j rs.length st.length (st ++ [a.1.cell]).length a.1.cls b.1.cls g_Step_needs a.1.flds b.1.flds (txR a) (txR b) a.1.name (strL b.1.others) st (st ++ [a.1.cell]) (st ++ [a.1.cell] ++ [b.1.cell]) (decide (a.1.name ∈ b.1.others)) (by rw [List.length_map, List.length_map]) hlt (by omega) hX' (view_ext _ hX') (view_ext _ (view_ext _ hX')) (fun c => view_ext _ (view_ext _ (view_ext _ hX')))
      (by show atI ((rs.map txR).map D.str) (j : Int) = _; rw [atI_nat, ta]) (by show atI ((rs.map txR).map D.str) ((j : Int) + 1) = _; rw [show ((j : Int) + 1) = ((j + 1 : Nat) : Int) by omega, atI_nat, tb])
      (twa.read R F k st) (by rw [c1]; exact congrArg some a.1.cell_eq) (R2.m0 _ a.1.cls_rg.1 a.1.cls_rg.2) N1 (twb.read R F k _) (by rw [c2]; exact congrArg some b.1.cell_eq) (hm _ b.1.cls_rg.1 b.1.cls_rg.2) N2 rfl (in_strs _ _)
    by_cases hin : a.1.name ∈ b.1.others
    · rw [if_pos hin]
      rw [decide_eq_true hin, if_pos rfl] at Z
      exact .inl ⟨[a.1.cell, b.1.cell], by rw [Z]; simp, rfl⟩
    · rw [if_neg hin]
      rw [decide_eq_false hin, if_neg (by decide), swp_set ta tb] at Z
      refine .inr ⟨[a.1.cell, b.1.cell, .lst (swp j ((rs.map txR).map D.str))], .ref (st ++ [a.1.cell] ++ [b.1.cell]).length, by rw [Z]; simp only [List.append_assoc, List.cons_append, List.nil_append], ?_⟩
      show view _ _ = D.lst ((swp j (rs.map txR)).map .str)
      rw [← swp_map]
      exact view_at2 (by simp)
theorem asked5_ok (R : Rw0 w T) (F : ∀ t x, Told t x → Frd w T t x) (R2 : Rt0 w T) (hn : T g_Step_needs = some f_Step_needs) (hm : ∀ c, 16 ≤ c → c ≤ 21 → w.mth c 1 = some g_Step_needs) (hc : T g_changed = some f_changed) (hwh : T g__law_which = some f__law_which) (hs : ∀ c ∈ clsO, w.sub 24 c = some (decide (c = 24 ∨ c = 0 ∨ c = 1000))) (h : T g__law_asked = some f__law_asked_5) (k : Nat) (rs : List Rw) (hr : ∀ r ∈ rs, Tws r.1 r.2) (hl : rs.length ≤ 1000) (X : D) (i : Int) (st : Sto) (hX : view st X = strL (rs.map txR)) :
    ∃ e R, den w T (k + 7) g__law_asked [X, .int i] st = some (.ok R (st ++ e)) ∧ view (st ++ e) R = (dueV rs i).d := by
  rw [den_run h (k + 6) _ st [some X, some (.int i), none, none] rfl rfl]
  rcases changed_ok R F R2 hn hm hc k rs hr hl X i st hX with ⟨e, h1, h2⟩ | ⟨e, Q, h1, h2⟩
  · refine ⟨e, bls (clsB noch), ?_, by rw [h2]; rfl⟩
    have W := which_ok (w := w) (T := T) hwh (k + 5) 24 [] _ hs (st ++ e)
    have e2 : (clsO.map fun c => decide (c = 24 ∨ c = 0 ∨ c = 1000)) = clsB noch := by decide
    rw [e2] at W
    have s0 : w.sub 24 0 = some true := by
      have := hs 0 (by decide)
      simpa using this
    generalize bls (clsB noch) = bb at *
    simp -implicitDefEqProofs [f__law_asked_5, run, ev, evs, h1, W, runH, s0, suE, beg, gon]
  · refine ⟨e, Q, ?_, h2⟩
    simp -implicitDefEqProofs [f__law_asked_5, run, ev, evs, h1]
end
end Dp

end
section
set_option linter.all false
set_option maxRecDepth 100000
namespace Dp.K37
open Dp
theorem rw0 : Rw0 wd T where
  nm := fun k s st h => nm_ok rfl rfl k s h st
  al := rfl
  sh := rfl
  lo := rfl
  rp := rfl
  rs := rfl
  so := rfl
  i0 := rfl
  i1 := rfl
  i2 := rfl
  i3 := rfl
  n15 := rfl
  n16 := rfl
  n17 := rfl
  n18 := rfl
  n19 := rfl
  n20 := rfl
  n21 := rfl
  f0 := fun c h1 h2 => by
    have : c = 16 ∨ c = 17 ∨ c = 18 ∨ c = 19 ∨ c = 20 ∨ c = 21 := by omega
    rcases this with rfl | rfl | rfl | rfl | rfl | rfl <;> exact ⟨rfl, rfl⟩
  f17 := ⟨rfl, rfl⟩
  f19 := rfl
  f21 := rfl
theorem rt0 : Rt0 wd T where
  ft := rfl
  nm := rfl
  tx := rfl
  t1 := rfl
  t2 := rfl
  t3 := rfl
  w1 := rfl
  w2 := rfl
  w3 := rfl
  m0 := fun c h1 h2 => by
    have : c = 16 ∨ c = 17 ∨ c = 18 ∨ c = 19 ∨ c = 20 ∨ c = 21 := by omega
    rcases this with rfl | rfl | rfl | rfl | rfl | rfl <;> rfl
  m16 := ⟨rfl, rfl⟩
  m17 := rfl
  m18 := ⟨rfl, rfl⟩
  m19 := rfl
  m20 := ⟨rfl, rfl⟩
  m21 := rfl
  f0 := rw0.f0
  f17 := rw0.f17
  f19 := rw0.f19
  f21 := rw0.f21
theorem frd : ∀ t x, Told t x → Frd wd T t x := fun t x h => h.frd rfl rfl rfl rfl rfl
theorem mths : ∀ c, 16 ≤ c → c ≤ 21 → wd.mth c 1 = some g_Step_needs := fun c h1 h2 => by
  have : c = 16 ∨ c = 17 ∨ c = 18 ∨ c = 19 ∨ c = 20 ∨ c = 21 := by omega
  rcases this with rfl | rfl | rfl | rfl | rfl | rfl <;> rfl
theorem subs : ∀ c ∈ clsO, wd.sub 24 c = some (decide (c = 24 ∨ c = 0 ∨ c = 1000)) := by
  intro c hc
  simp only [clsO, List.mem_cons, List.not_mem_nil, or_false] at hc
  rcases hc with rfl | rfl | rfl | rfl | rfl | rfl | rfl | rfl | rfl | rfl | rfl | rfl | rfl | rfl | rfl | rfl | rfl | rfl | rfl | rfl <;> rfl
theorem cut_map {α β : Type} (f : α → β) (l : List α) (lo hi : Option Int) : cut (l.map f) lo hi = (cut l lo hi).map f := by
  unfold cut
  rw [List.length_map, List.map_take, List.map_drop]
theorem cut_mem {α : Type} {l : List α} {lo hi : Option Int} {x : α} (h : x ∈ cut l lo hi) : x ∈ l := List.mem_of_mem_drop (List.mem_of_mem_take h)
theorem stirs (ns : List Int) (hn : ns.length ≤ 63) : ev wd (den wd T 39) c_law_0 [some (scr ns), none, none, none, none, none, none, none, none, none, none, none] [] = some (.ok (scr (stirL ns)) []) := by
  have := lc_its (w := wd) (Φ := den wd T 39) (own := [2, 10]) (e := e_law_0) (tg := .tp [2, 10]) (it := .enm (.var 0)) (env := [some (scr ns), none, none, none, none, none, none, none, none, none, none, none]) (st := []) (s1 := []) (d := fun p : Int × Nat => D.tup [.int (p.2 : Int), .int p.1]) ns.zipIdx (fun p => D.int (stirV p.1 (p.2 : Int))) (by
    rw [← num_map ns 0]
    simp -implicitDefEqProofs [evi, ev, scr]) (fun p hp => ⟨_, rfl, by
      have hlt : p.2 < ns.length := by
        have := List.snd_lt_of_mem_zipIdx hp
        omega
      have S := stir_ok (w := wd) (T := T) rfl 38 p.1 (p.2 : Int) (by omega) (by omega) []
      simp -implicitDefEqProofs [e_law_0, ev, evs, wipe, S]⟩) (by rw [List.length_zipIdx]; omega)
  rw [c_law_0, this, scr, stirL, List.map_map]
  rfl
theorem row_turn (vs : List Int) (hv : ∀ v ∈ vs, Stir v) (i : Int) (rs : List Rw) (hl : rs.length ≤ 1000) (x3 x4 x5 x6 x7 x8 x9 x10 x11 : Option D) : ∃ r : Rw, Tws r.1 r.2 ∧ run wd (den wd T 39) b_law_0 [some (scr vs), some (.ref 0), some (.int i), x3, x4, x5, x6, x7, x8, x9, x10, x11] [.lst (rs.map rowK)] = some (.nx [some (scr vs), some (.ref 0), some (.int i), x3, x4, x5, x6, x7, x8, x9, x10, x11], [.lst ((rs ++ [r]).map rowK)]) := by
  obtain ⟨r, h1, ROW⟩ := row3_ok (w := wd) (T := T) rfl rfl rfl 36 (cut vs (some i) (some (i + 2))) (fun v h => hv v (cut_mem h)) [.lst (rs.map rowK)]
  refine ⟨r, h1, ?_⟩
  have e : sld (some i) (some (i + 2)) (scr vs) = some (scr (cut vs (some i) (some (i + 2)))) := by
    show some (D.lst (cut (vs.map D.int) _ _)) = _
    rw [cut_map]
    rfl
  have lm : (rs.map rowK).length ≤ 1000000 := by rw [List.length_map]; omega
  have em : (rs ++ [r]).map rowK = rs.map rowK ++ [rowK r] := by simp
  rw [em]
  have vS : ∀ s, view s (scr vs) = scr vs := fun _ => rfl
  generalize scr vs = S at *
  generalize scr (cut vs _ _) = S2 at *
  generalize rowK r = rr at *
  generalize rs.map rowK = rl at *
  simp -implicitDefEqProofs [b_law_0, run, ev, evs, evo, optI, vS, e, ROW, lm]
theorem row_walk (vs : List Int) (hv : ∀ v ∈ vs, Stir v) (x3 x4 x5 x6 x7 x8 x9 x10 x11 : Option D) : ∀ (xs : List D), (∀ x ∈ xs, ∃ i : Int, x = .int i) → ∀ (rs : List Rw) (x2 : Option D), (∀ r ∈ rs, Tws r.1 r.2) → rs.length + xs.length ≤ 1000 → ∃ (rs' : List Rw) (x2' : Option D), (∀ r ∈ rs', Tws r.1 r.2) ∧ rs'.length ≤ 1000 ∧
    Dp.walk (frB wd (den wd T 39) (.nm 2) b_law_0) xs [some (scr vs), some (.ref 0), x2, x3, x4, x5, x6, x7, x8, x9, x10, x11] [.lst (rs.map rowK)] = some (.nx [some (scr vs), some (.ref 0), x2', x3, x4, x5, x6, x7, x8, x9, x10, x11], [.lst (rs'.map rowK)])
  | [], _, rs, x2, h1, h2 => ⟨rs, x2, h1, by simpa using h2, rfl⟩
  | x :: xs, hx, rs, x2, h1, h2 => by
    obtain ⟨i, rfl⟩ := hx x List.mem_cons_self
    have h2' : rs.length + (xs.length + 1) ≤ 1000 := h2
    obtain ⟨r, t1, t2⟩ := row_turn vs hv i rs (by omega) x3 x4 x5 x6 x7 x8 x9 x10 x11
    obtain ⟨rs', x2', q1, q2, q3⟩ := row_walk vs hv x3 x4 x5 x6 x7 x8 x9 x10 x11 xs (fun y hy => hx y (List.mem_cons_of_mem _ hy)) (rs ++ [r]) (some (.int i)) (fun s hs => by
      rcases List.mem_append.mp hs with hs | hs
      · exact h1 s hs
      · rw [List.mem_singleton.mp hs]; exact t1) (by rw [List.length_append]; show _ + 1 + _ ≤ _; omega)
    refine ⟨rs', x2', q1, q2, ?_⟩
    simp only [Dp.walk, frB_nm, List.set_cons_succ, List.set_cons_zero]
    rw [t2]
    simpa using q3
/-- one turn where nothing is changed about -/
theorem no_run (S X1 X3 R d cl : D) (x2 x5 x7 x8 x9 x10 x11 : Option D) (i : Int) (st st' : Sto) (vR : D)
    (DUE : den wd T 39 g__law_due [X1, .int i] st = some (.ok d st)) (ASK : den wd T 39 g__law_asked [X3, .int i] st = some (.ok R st')) (hR : view st' R = vR) (hd : ∀ s, view s d = d) (h3 : ∀ s, view s X3 = X3) (n1 : cop .ne vR d = some false) (n2 : cop .ne X3 X3 = some false)
    (CL : den wd T 39 g__law_class [.str noch] st' = some (.ok cl st')) (hcl : ∀ s, view s cl = cl) (n3 : cop .ne d cl = some false) :
    run wd (den wd T 39) b_law_1 [some S, some X1, x2, some X3, some X3, x5, some (.int i), x7, x8, x9, x10, x11] st = some (.nx [some S, some X1, x2, some X3, some X3, x5, some (.int i), some d, some R, x9, x10, x11], st') := by
  unfold noch at CL
  simp -implicitDefEqProofs [b_law_1, run, ev, evs, evo, evt, DUE, ASK, hR, hd, h3, n1, n2, CL, hcl, n3]
/-- one turn where two are -/
theorem yes_run (S X1 X3 R d cl R2 d2 vR2 : D) (rl tj td res res0 : List D) (ra rb : D) (x2 x5 x7 x8 x9 x10 x11 : Option D) (i : Int) (st st' st2 : Sto) (vR : D)
    (DUE : den wd T 39 g__law_due [X1, .int i] st = some (.ok d st)) (ASK : den wd T 39 g__law_asked [X3, .int i] st = some (.ok R st')) (hR : view st' R = vR) (hd : ∀ s, view s d = d) (h3 : ∀ s, view s X3 = X3) (n1 : cop .ne vR d = some false) (n2 : cop .ne X3 X3 = some false)
    (CL : den wd T 39 g__law_class [.str noch] st' = some (.ok cl st')) (hcl : ∀ s, view s cl = cl) (n3 : cop .ne d cl = some true)
    (hX1 : view st' X1 = .lst rl) (Z1 : ixd (.lst rl) (.int i) = some ra) (Z2 : ixd (.lst rl) (.int (i + 1)) = some rb) (Z3 : sld none (some i) (.lst rl) = some (.lst tj)) (Z4 : sld (some (i + 2)) none (.lst rl) = some (.lst td))
    (B1 : bop .add (.lst tj) (.lst [rb, ra]) = some (.lst res0)) (B2 : bop .add (.lst res0) (.lst td) = some (.lst res))
    (ASK2 : den wd T 39 g__law_asked [R, .int i] st' = some (.ok R2 st2)) (DUE2 : den wd T 39 g__law_due [.lst res, .int i] st2 = some (.ok d2 st2)) (hR2 : view st2 R2 = vR2) (hd2 : ∀ s, view s d2 = d2) (n4 : cop .ne vR2 d2 = some false) :
    run wd (den wd T 39) b_law_1 [some S, some X1, x2, some X3, some X3, x5, some (.int i), x7, x8, x9, x10, x11] st = some (.nx [some S, some X1, x2, some X3, some X3, x5, some (.int i), some d, some R, some (.lst res), x10, x11], st2) := by
  unfold noch at CL
  simp -implicitDefEqProofs [b_law_1, run, ev, evs, evo, evt, optI, DUE, ASK, hR, hd, h3, n1, n2, CL, hcl, n3, hX1, Z1, Z2, Z3, Z4, B1, B2, ASK2, DUE2, hR2, hd2, n4, -ixd_lst, -bop_lst]
theorem Dv_view (v : Dv) (s : Sto) : view s v.d = v.d := by cases v <;> rfl
theorem at_turn (S : D) (rs : List Rw) (hr : ∀ r ∈ rs, Tws r.1 r.2) (hl : rs.length ≤ 1000) (x2 x5 x7 x8 x9 x10 x11 : Option D) (i : Int) (st : Sto) (hst : view st (.ref 0) = .lst (rs.map rowK)) :
    ∃ y7 y8 y9 st', run wd (den wd T 39) b_law_1 [some S, some (.ref 0), x2, some (strL (rs.map txR)), some (strL (rs.map txR)), x5, some (.int i), x7, x8, x9, x10, x11] st = some (.nx [some S, some (.ref 0), x2, some (strL (rs.map txR)), some (strL (rs.map txR)), x5, some (.int i), y7, y8, y9, x10, x11], st') ∧ view st' (.ref 0) = .lst (rs.map rowK) := by
  have DUE := due6_ok (w := wd) (T := T) rfl rfl 37 rs hl (.ref 0) i st hst
  have ASKp : ∀ (ps : List Rw) (X : D) (s : Sto), (∀ r ∈ ps, Tws r.1 r.2) → ps.length ≤ 1000 → view s X = strL (ps.map txR) → ∃ e R, den wd T 39 g__law_asked [X, .int i] s = some (.ok R (s ++ e)) ∧ view (s ++ e) R = (dueV ps i).d := fun ps X s h1 h2 h3 =>
    asked5_ok rw0 frd rt0 rfl mths rfl rfl subs rfl 32 ps h1 h2 X i s h3
  obtain ⟨e, R, ASK, hR⟩ := ASKp rs (strL (rs.map txR)) st hr hl rfl
  have CL := class_ok (w := wd) (T := T) rfl 38 noch (by unfold sgs noch; decide) (st ++ e)
  have ok := dueV_ok hr i
  have n1 := Dv.ne_same ok
  have n2 : cop .ne (strL (rs.map txR)) (strL (rs.map txR)) = some false := by
    have h : ∀ s ∈ rs.map txR, sgs s := fun s hs => by
      obtain ⟨r, h1, rfl⟩ := List.mem_map.mp hs
      exact (hr r h1).sgs
    rw [strs_ne h h, decide_eq_true rfl]
    rfl
  have n3 := Dv.ne_b ok (clsB noch)
  by_cases hb : dueV rs i = .b (clsB noch)
  · rw [decide_eq_true hb] at n3
    exact ⟨_, _, _, _, no_run S (.ref 0) (strL (rs.map txR)) R _ _ x2 x5 x7 x8 x9 x10 x11 i st _ _ DUE ASK hR (Dv_view _) (fun _ => rfl) n1 n2 CL (fun _ => rfl) n3, view_ext e hst⟩
  · rw [decide_eq_false hb] at n3
    rcases at2_or rs i with ho | ⟨j, a, b, hat⟩
    · exact absurd (dueV_out ho) hb
    · have hd := dueV_at hat
      by_cases hin : a.1.name ∈ b.1.others
      · rw [if_pos hin] at hd
        exact absurd hd hb
      · rw [if_neg hin] at hd
        have hlt := hat.lt
        obtain ⟨rfl, ha, hbb⟩ := hat
        have hr2 : ∀ r ∈ swp j rs, Tws r.1 r.2 := fun r h => hr r (swp_mem h)
        have hl2 : (swp j rs).length ≤ 1000 := by rw [swp_len]; exact hl
        obtain ⟨e2, R2, ASK2, hR2⟩ := ASKp (swp j rs) R (st ++ e) hr2 hl2 (by
          rw [hR, hd]
          show D.lst ((swp j (rs.map txR)).map .str) = D.lst (((swp j rs).map txR).map .str)
          rw [swp_map])
        have DUE2 := due6_ok (w := wd) (T := T) rfl rfl 37 (swp j rs) hl2 (.lst ((swp j rs).map rowK)) (j : Int) (st ++ e ++ e2) rfl
        have ra : (rs.map rowK)[j]? = some (rowK a) := by rw [List.getElem?_map, ha]; rfl
        have rb : (rs.map rowK)[j + 1]? = some (rowK b) := by rw [List.getElem?_map, hbb]; rfl
        have Z1 : ixd (.lst (rs.map rowK)) (.int (j : Int)) = some (rowK a) := by
          show atI (rs.map rowK) (j : Int) = _
          rw [atI_nat, ra]
        have Z2 : ixd (.lst (rs.map rowK)) (.int ((j : Int) + 1)) = some (rowK b) := by
          show atI (rs.map rowK) ((j : Int) + 1) = _
          rw [show ((j : Int) + 1) = ((j + 1 : Nat) : Int) by omega, atI_nat, rb]
        have Z3 : sld none (some (j : Int)) (.lst (rs.map rowK)) = some (.lst ((rs.map rowK).take j)) := by
          show some (D.lst (cut _ _ _)) = _
          rw [cut_take]
        have Z4 : sld (some ((j : Int) + 2)) none (.lst (rs.map rowK)) = some (.lst ((rs.map rowK).drop (j + 2))) := by
          show some (D.lst (cut _ _ _)) = _
          rw [show ((j : Int) + 2) = ((j + 2 : Nat) : Int) by omega, cut_drop]
        have lr : (rs.map rowK).length = rs.length := List.length_map _
        have B1 : bop .add (.lst ((rs.map rowK).take j)) (.lst [rowK b, rowK a]) = some (.lst ((rs.map rowK).take j ++ [rowK b, rowK a])) := by
          show (if ((rs.map rowK).take j).length + 2 ≤ 1000000 then _ else none) = _
          rw [if_pos (by rw [List.length_take]; omega)]
        have B2 : bop .add (.lst ((rs.map rowK).take j ++ [rowK b, rowK a])) (.lst ((rs.map rowK).drop (j + 2))) = some (.lst ((swp j rs).map rowK)) := by
          show (if ((rs.map rowK).take j ++ [rowK b, rowK a]).length + ((rs.map rowK).drop (j + 2)).length ≤ 1000000 then some (D.lst ((rs.map rowK).take j ++ [rowK b, rowK a] ++ (rs.map rowK).drop (j + 2))) else none) = _
          rw [if_pos (by rw [List.length_append, List.length_take, List.length_drop]; show _ + 2 + _ ≤ _; omega), ← swp_map, swp_of ra rb]
        have n4 := Dv.ne_same (dueV_ok hr2 (j : Int))
        exact ⟨_, _, _, _, yes_run S (.ref 0) (strL (rs.map txR)) R _ _ R2 _ _ (rs.map rowK) _ _ _ _ _ _ x2 x5 x7 x8 x9 x10 x11 (j : Int) st _ _ _ DUE ASK hR (Dv_view _) (fun _ => rfl) n1 n2 CL (fun _ => rfl) n3 (view_ext e hst) Z1 Z2 Z3 Z4 B1 B2 ASK2 DUE2 hR2 (Dv_view _) n4, view_ext e2 (view_ext e hst)⟩
theorem law_true (ns : List Int) (hn : ns.length ≤ 63) (hb : ∀ z ∈ ns, z.natAbs.log2 < 1048576) : ∃ g, den wd T 40 g_law [.lst (ns.map .int)] [] = some (.ok (.bl true) g) := by
  have C := stirs ns hn
  have hl : (stirL ns).length = ns.length := stirL_len ns
  have hv := stirL_rng (ns := ns)
  generalize stirL ns = vs at *
  obtain ⟨J, hJ⟩ : ∃ J : Int, (if (62 : Int) < (vs.length : Int) then 62 else (vs.length : Int)) = J := ⟨_, rfl⟩
  have j0 : 0 ≤ J ∧ J ≤ 62 := by
    rw [← hJ]
    split <;> omega
  have lr : (rngS 2 J 2).length ≤ 1000 := by
    unfold rngS rngN
    rw [List.length_map, List.length_range]
    split <;> omega
  obtain ⟨rs, x2, r1, r2, r3⟩ := row_walk vs hv none none none none none none none none none (rngS 2 J 2) (fun x hx => by
    obtain ⟨q, _, rfl⟩ := List.mem_map.mp hx
    exact ⟨_, rfl⟩) [] none (fun r hr => by cases hr) (by simpa using lr)
  have IT : evi wd (den wd T 39) (.rng3 (.cst (.int 2)) (.bi .min (.cons (.bi .len (.cons (.var 0) .nil)) (.cons (.cst (.int 62)) .nil))) (.cst (.int 2))) [some (scr vs), some (.ref 0), none, none, none, none, none, none, none, none, none, none] [.lst []] = some (.ok (.its (rngS 2 J 2)) [.lst []]) := by
    have L : bfn .len [scr vs] = some (.int (vs.length : Int)) := by
      show some (D.int ((vs.map D.int).length : Int)) = _
      rw [List.length_map]
    have vS : view [.lst []] (scr vs) = scr vs := rfl
    generalize scr vs = S at *
    simp -implicitDefEqProofs only [evi, ev, evs, List.getElem?_cons_zero, lft_some, bnd_ok, vS, L, List.map_cons, List.map_nil, view_int, bfn_min, hJ]
    rw [if_neg (by simp), if_pos (by omega)]
  have LP0 : run wd (den wd T 39) l_law_0 [some (scr vs), some (.ref 0), none, none, none, none, none, none, none, none, none, none] [.lst []] = some (.nx [some (scr vs), some (.ref 0), x2, none, none, none, none, none, none, none, none, none], [.lst (rs.map rowK)]) := by
    rw [l_law_0, run_fr, IT]
    simpa only [bnS_ok, walkS, List.map_nil] using r3
  have hst : view [.lst (rs.map rowK)] (.ref 0) = .lst (rs.map rowK) := rfl
  have C1 : ev wd (den wd T 39) c_law_1 [some (scr vs), some (.ref 0), x2, none, none, none, none, none, none, none, none, none] [.lst (rs.map rowK)] = some (.ok (strL (rs.map txR)) [.lst (rs.map rowK)]) := by
    have := lc_view (w := wd) (Φ := den wd T 39) (own := [11]) (e := e_law_1) (e0 := .var 1) (tg := .nm 11) (env := [some (scr vs), some (.ref 0), x2, none, none, none, none, none, none, none, none, none]) (st := [.lst (rs.map rowK)]) (s1 := [.lst (rs.map rowK)]) (X := .ref 0) (d := rowK) rs (fun r => D.str (txR r)) (by simp -implicitDefEqProofs [ev]) hst (fun r hr => ⟨_, rfl, by
      have Y3 : ixd (rowK r) (.int 2) = some (.str (txR r)) := rfl
      have V4 : ∀ s, view s (rowK r) = rowK r := fun _ => rfl
      generalize rowK r = rr at *
      simp -implicitDefEqProofs [e_law_1, ev, wipe, Y3, V4, -ixd_lst]⟩) (by omega)
    rw [c_law_1, this]
    show _ = some (Rs.ok (D.lst ((rs.map txR).map .str)) _)
    rw [List.map_map]
    rfl
  obtain ⟨c0, _, CE0⟩ := cell1_ok (w := wd) (T := T) rfl rfl 37 vs hv 0 (by decide) [.lst (rs.map rowK)]
  obtain ⟨c1, _, CE1⟩ := cell1_ok (w := wd) (T := T) rfl rfl 37 vs hv 1 (by decide) [.lst (rs.map rowK)]
  simp only [Int.natCast_zero, Int.natCast_one] at CE0 CE1
  obtain ⟨B, hB⟩ : ∃ B : Int, c0.fmod 200000000000000000001 - 100000000000000000000 = B := ⟨_, rfl⟩
  obtain ⟨A, hA⟩ : ∃ A : Int, c1.fmod ((rs.length : Int) + 4) - 2 = A := ⟨_, rfl⟩
  obtain ⟨e', s', h1, h2⟩ := walk_inv (body := frB wd (den wd T 39) (.nm 6) b_law_1) (fun e s => (∃ x6 x7 x8 x9, e = [some (scr vs), some (.ref 0), x2, some (strL (rs.map txR)), some (strL (rs.map txR)), some (.int B), x6, x7, x8, x9, none, none]) ∧ view s (.ref 0) = .lst (rs.map rowK)) [.int A, .int 0, .int ((rs.length : Int) - 2), .int ((rs.length : Int) - 1), .int B] [some (scr vs), some (.ref 0), x2, some (strL (rs.map txR)), some (strL (rs.map txR)), some (.int B), none, none, none, none, none, none] [.lst (rs.map rowK)] ⟨⟨_, _, _, _, rfl⟩, hst⟩ (fun x hx e s he => by
    obtain ⟨⟨x6, x7, x8, x9, rfl⟩, hs⟩ := he
    have : ∃ i : Int, x = .int i := by
      simp only [List.mem_cons, List.not_mem_nil, or_false] at hx
      rcases hx with rfl | rfl | rfl | rfl | rfl <;> exact ⟨_, rfl⟩
    obtain ⟨i, rfl⟩ := this
    obtain ⟨y7, y8, y9, st', h, hs'⟩ := at_turn (scr vs) rs r1 r2 x2 (some (.int B)) x7 x8 x9 none none i s hs
    exact ⟨_, st', by rw [frB_nm]; exact h, ⟨_, _, _, _, rfl⟩, hs'⟩)
  obtain ⟨⟨x6, x7, x8, x9, rfl⟩, _⟩ := h2
  have LP1 : run wd (den wd T 39) l_law_1 [some (scr vs), some (.ref 0), x2, some (strL (rs.map txR)), some (strL (rs.map txR)), some (.int B), none, none, none, none, none, none] [.lst (rs.map rowK)] = some (.nx [some (scr vs), some (.ref 0), x2, some (strL (rs.map txR)), some (strL (rs.map txR)), some (.int B), x6, x7, x8, x9, none, none], s') := by
    rw [l_law_1, run_fr]
    have L : bfn .len [D.lst (rs.map rowK)] = some (.int (rs.length : Int)) := by
      show some (D.int ((rs.map rowK).length : Int)) = _
      rw [List.length_map]
    have vS : ∀ s, view s (scr vs) = scr vs := fun _ => rfl
    have h4 : ¬ (rs.length : Int) + 4 = 0 := by omega
    generalize scr vs = S at *
    generalize strL (rs.map txR) = tt at *
    generalize hrl : rs.map rowK = rl at *
    have vr : view [.lst rl] (.ref 0) = .lst rl := rfl
    simp -implicitDefEqProofs [evi, ev, evs, CE1, L, vr, h4, hA, srcs, walkS, h1, -bfn_len_lst]
  refine ⟨s', ?_⟩
  rw [den_run (fn := f_law) rfl 39 _ [] [some (scr ns), none, none, none, none, none, none, none, none, none, none, none] rfl rfl]
  have q1 : sm 2 = true := by decide +kernel
  have q2 : sm 100000000000000000000 = true := by decide +kernel
  have bl : bfn .list [strL (rs.map txR)] = some (strL (rs.map txR)) := rfl
  have vt : ∀ s, view s (strL (rs.map txR)) = strL (rs.map txR) := fun _ => rfl
  generalize strL (rs.map txR) = tt at *
  simp -implicitDefEqProofs [f_law, n_law_0, run, ev, evs, C, LP0, C1, bl, vt, CE0, hB, q1, q2, LP1]
end Dp.K37

end
section
set_option Elab.async false
set_option linter.all false
set_option maxRecDepth 100000
set_option maxHeartbeats 4000000
/-! the head and the end of k37_rows_changed, printed by mklaw.py -/
namespace Dp.K37
open PySem PySem.Spec PyProof.Rows L2 Dp
noncomputable def topS (i : Nat) : Stmt := PySem.Challenge.pw_compasshall_k37_rows_changed.main.body.getD i (.Pass ⟨0, 0, 0, 0⟩)
noncomputable def methS (i j : Nat) : Stmt := match topS i with | .ClassDef _ _ _ body _ _ _ _ _ _ _ => body.getD j (.Pass ⟨0, 0, 0, 0⟩) | s => s
noncomputable abbrev s_common : Stmt := topS 22
noncomputable def d_common : Df := ⟨"common", "common", s_common, ["a", "b", "one", "other", "left"], ["a", "b"], f_common, []⟩
noncomputable abbrev s_whole_of : Stmt := topS 26
noncomputable def d_whole_of : Df := ⟨"whole_of", "whole_of", s_whole_of, ["word", "sign"], ["word"], f_whole_of_0, []⟩
noncomputable abbrev s_fraction_read : Stmt := topS 27
noncomputable def d_fraction_read : Df := ⟨"fraction_read", "fraction_read", s_fraction_read, ["text", "word", "upper", "stroke", "lower", "top", "bottom", "shared"], ["text"], f_fraction_read, []⟩
noncomputable abbrev s_fraction_text : Stmt := topS 28
noncomputable def d_fraction_text : Df := ⟨"fraction_text", "fraction_text", s_fraction_text, ["x"], ["x"], f_fraction_text, []⟩
noncomputable abbrev s_is_name : Stmt := topS 31
noncomputable def d_is_name : Df := ⟨"is_name", "is_name", s_is_name, ["word", "sign"], ["word"], f_is_name_0, []⟩
noncomputable abbrev s_read_point : Stmt := topS 39
noncomputable def d_read_point : Df := ⟨"read_point", "read_point", s_read_point, ["words", "x", "y"], ["words"], f_read_point, []⟩
noncomputable abbrev s_read_span : Stmt := topS 40
noncomputable def d_read_span : Df := ⟨"read_span", "read_span", s_read_span, ["words", "square"], ["words"], f_read_span, []⟩
noncomputable abbrev s_all_names : Stmt := topS 41
noncomputable def d_all_names : Df := ⟨"all_names", "all_names", s_all_names, ["words", "word"], ["words"], f_all_names_0, []⟩
noncomputable abbrev s_short_row : Stmt := topS 42
noncomputable def d_short_row : Df := ⟨"short_row", "short_row", s_short_row, ["words"], ["words"], f_short_row_0, []⟩
noncomputable abbrev s_long_row : Stmt := topS 43
noncomputable def d_long_row : Df := ⟨"long_row", "long_row", s_long_row, ["words"], ["words"], f_long_row, []⟩
noncomputable abbrev s_step_of : Stmt := topS 44
noncomputable def d_step_of : Df := ⟨"step_of", "step_of", s_step_of, ["thing", "words", "step"], ["thing"], f_step_of, []⟩
noncomputable abbrev s_changed : Stmt := topS 46
noncomputable def d_changed : Df := ⟨"changed", "changed", s_changed, ["rows", "at", "told"], ["rows", "at"], f_changed, []⟩
noncomputable abbrev s__law_stir : Stmt := topS 48
noncomputable def d__law_stir : Df := ⟨"_law_stir", "_law_stir", s__law_stir, ["_law_cell_here", "_law_k", "_law_big", "_law_by", "_law_left"], ["_law_cell_here", "_law_k"], f__law_stir_0, []⟩
noncomputable abbrev s__law_cell : Stmt := topS 49
noncomputable def d__law_cell : Df := ⟨"_law_cell", "_law_cell", s__law_cell, ["_law_script", "_law_k"], ["_law_script", "_law_k"], f__law_cell_1, []⟩
noncomputable abbrev s__law_which : Stmt := topS 50
noncomputable def d__law_which : Df := ⟨"_law_which", "_law_which", s__law_which, ["_law_e", "_law_some"], ["_law_e"], f__law_which, []⟩
noncomputable abbrev s__law_class : Stmt := topS 51
noncomputable def d__law_class : Df := ⟨"_law_class", "_law_class", s__law_class, ["_law_word", "_law_some", "_law_one"], ["_law_word"], f__law_class, []⟩
noncomputable abbrev s__law_row : Stmt := topS 52
noncomputable def d__law_row : Df := ⟨"_law_row", "_law_row", s__law_row, ["_law_cells", "_law_cell_here", "_law_letters", "_law_room", "_law_names", "_law_fraction", "_law_kind", "_law_word", "_law_tail", "_law_k"], ["_law_cells"], f__law_row_3, []⟩
noncomputable abbrev s__law_asked : Stmt := topS 53
noncomputable def d__law_asked : Df := ⟨"_law_asked", "_law_asked", s__law_asked, ["_law_rows", "_law_at", "_law_said", "_law_e"], ["_law_rows", "_law_at"], f__law_asked_5, []⟩
noncomputable abbrev s__law_due : Stmt := topS 54
noncomputable def d__law_due : Df := ⟨"_law_due", "_law_due", s__law_due, ["_law_rows", "_law_at", "_law_texts", "_law_row_here"], ["_law_rows", "_law_at"], f__law_due_6, []⟩
noncomputable abbrev s_law : Stmt := topS 55
noncomputable def d_law : Df := ⟨"law", "law", s_law, ["_law_script", "_law_rows", "_law_k", "_law_texts", "_law_mine", "_law_beyond", "_law_at", "_law_due_here", "_law_said", "_law_other", "_law_cell_here", "_law_row_here"], ["_law_script"], f_law, []⟩
noncomputable abbrev s_Step___init__ : Stmt := methS 32 0
noncomputable def d_Step___init__ : Df := ⟨"__init__", "Step.__init__", s_Step___init__, ["self", "name", "others"], ["self", "name", "others"], f_Step___init__, []⟩
noncomputable abbrev s_Step_named : Stmt := methS 32 1
noncomputable def d_Step_named : Df := ⟨"named", "Step.named", s_Step_named, ["self"], ["self"], f_Step_named, []⟩
noncomputable abbrev s_Step_needs : Stmt := methS 32 2
noncomputable def d_Step_needs : Df := ⟨"needs", "Step.needs", s_Step_needs, ["self"], ["self"], f_Step_needs, []⟩
noncomputable abbrev s_Step_text : Stmt := methS 32 3
noncomputable def d_Step_text : Df := ⟨"text", "Step.text", s_Step_text, ["self"], ["self"], f_Step_text, []⟩
noncomputable abbrev s_Step_word : Stmt := methS 32 4
noncomputable def d_Step_word : Df := ⟨"word", "Step.word", s_Step_word, ["self"], ["self"], f_Step_word, []⟩
noncomputable abbrev s_Step_wants : Stmt := methS 32 5
noncomputable def d_Step_wants : Df := ⟨"wants", "Step.wants", s_Step_wants, ["self"], ["self"], f_Step_wants_0, []⟩
noncomputable abbrev s_Step_done : Stmt := methS 32 6
noncomputable def d_Step_done : Df := ⟨"done", "Step.done", s_Step_done, ["self", "roots", "things"], ["self", "roots", "things"], f_Step_done_0, []⟩
noncomputable abbrev s_LineThrough_word : Stmt := methS 33 0
noncomputable def d_LineThrough_word : Df := ⟨"word", "LineThrough.word", s_LineThrough_word, ["self"], ["self"], f_LineThrough_word, []⟩
noncomputable abbrev s_LineThrough_done : Stmt := methS 33 1
noncomputable def d_LineThrough_done : Df := ⟨"done", "LineThrough.done", s_LineThrough_done, ["self", "roots", "things"], ["self", "roots", "things"], f_LineThrough_done_0, []⟩
noncomputable abbrev s_FirstPoint___init__ : Stmt := methS 34 0
noncomputable def d_FirstPoint___init__ : Df := ⟨"__init__", "FirstPoint.__init__", s_FirstPoint___init__, ["self", "name", "x", "y"], ["self", "name", "x", "y"], f_FirstPoint___init__, []⟩
noncomputable abbrev s_FirstPoint_text : Stmt := methS 34 1
noncomputable def d_FirstPoint_text : Df := ⟨"text", "FirstPoint.text", s_FirstPoint_text, ["self"], ["self"], f_FirstPoint_text, []⟩
noncomputable abbrev s_FirstPoint_wants : Stmt := methS 34 2
noncomputable def d_FirstPoint_wants : Df := ⟨"wants", "FirstPoint.wants", s_FirstPoint_wants, ["self"], ["self"], f_FirstPoint_wants_0, []⟩
noncomputable abbrev s_FirstPoint_done : Stmt := methS 34 3
noncomputable def d_FirstPoint_done : Df := ⟨"done", "FirstPoint.done", s_FirstPoint_done, ["self", "roots", "things"], ["self", "roots", "things"], f_FirstPoint_done_0, []⟩
noncomputable abbrev s_RingThrough_word : Stmt := methS 35 0
noncomputable def d_RingThrough_word : Df := ⟨"word", "RingThrough.word", s_RingThrough_word, ["self"], ["self"], f_RingThrough_word, []⟩
noncomputable abbrev s_RingThrough_done : Stmt := methS 35 1
noncomputable def d_RingThrough_done : Df := ⟨"done", "RingThrough.done", s_RingThrough_done, ["self", "roots", "things"], ["self", "roots", "things"], f_RingThrough_done_0, []⟩
noncomputable abbrev s_RingBy___init__ : Stmt := methS 36 0
noncomputable def d_RingBy___init__ : Df := ⟨"__init__", "RingBy.__init__", s_RingBy___init__, ["self", "name", "others", "square"], ["self", "name", "others", "square"], f_RingBy___init__, []⟩
noncomputable abbrev s_RingBy_text : Stmt := methS 36 1
noncomputable def d_RingBy_text : Df := ⟨"text", "RingBy.text", s_RingBy_text, ["self"], ["self"], f_RingBy_text, []⟩
noncomputable abbrev s_RingBy_wants : Stmt := methS 36 2
noncomputable def d_RingBy_wants : Df := ⟨"wants", "RingBy.wants", s_RingBy_wants, ["self"], ["self"], f_RingBy_wants_0, []⟩
noncomputable abbrev s_RingBy_done : Stmt := methS 36 3
noncomputable def d_RingBy_done : Df := ⟨"done", "RingBy.done", s_RingBy_done, ["self", "roots", "things"], ["self", "roots", "things"], f_RingBy_done_0, []⟩
noncomputable abbrev s_Cross_word : Stmt := methS 37 0
noncomputable def d_Cross_word : Df := ⟨"word", "Cross.word", s_Cross_word, ["self"], ["self"], f_Cross_word, []⟩
noncomputable abbrev s_Cross_wants : Stmt := methS 37 1
noncomputable def d_Cross_wants : Df := ⟨"wants", "Cross.wants", s_Cross_wants, ["self"], ["self"], f_Cross_wants_0, []⟩
noncomputable abbrev s_Cross_done : Stmt := methS 37 2
noncomputable def d_Cross_done : Df := ⟨"done", "Cross.done", s_Cross_done, ["self", "roots", "things"], ["self", "roots", "things"], f_Cross_done_0, []⟩
noncomputable abbrev s_Meet___init__ : Stmt := methS 38 0
noncomputable def d_Meet___init__ : Df := ⟨"__init__", "Meet.__init__", s_Meet___init__, ["self", "name", "others", "which"], ["self", "name", "others", "which"], f_Meet___init__, []⟩
noncomputable abbrev s_Meet_text : Stmt := methS 38 1
noncomputable def d_Meet_text : Df := ⟨"text", "Meet.text", s_Meet_text, ["self"], ["self"], f_Meet_text, []⟩
noncomputable abbrev s_Meet_wants : Stmt := methS 38 2
noncomputable def d_Meet_wants : Df := ⟨"wants", "Meet.wants", s_Meet_wants, ["self"], ["self"], f_Meet_wants_0, []⟩
noncomputable abbrev s_Meet_done : Stmt := methS 38 3
noncomputable def d_Meet_done : Df := ⟨"done", "Meet.done", s_Meet_done, ["self", "roots", "things"], ["self", "roots", "things"], f_Meet_done_0, []⟩
noncomputable def Ds : List (Nat × Df) := [(0, d_common), (6, d_whole_of), (7, d_fraction_read), (8, d_fraction_text), (147, d_is_name), (148, d_read_point), (149, d_read_span), (150, d_all_names), (151, d_short_row), (152, d_long_row), (153, d_step_of), (236, d_changed), (154, d__law_stir), (2, d__law_cell), (164, d__law_which), (165, d__law_class), (158, d__law_row), (84, d__law_asked), (17, d__law_due), (5, d_law), (6000, d_Step___init__), (6001, d_Step_named), (6002, d_Step_needs), (6003, d_Step_text), (6004, d_Step_word), (6005, d_Step_wants), (6006, d_Step_done), (6007, d_LineThrough_word), (6008, d_LineThrough_done), (6009, d_FirstPoint___init__), (6010, d_FirstPoint_text), (6011, d_FirstPoint_wants), (6012, d_FirstPoint_done), (6013, d_RingThrough_word), (6014, d_RingThrough_done), (6015, d_RingBy___init__), (6016, d_RingBy_text), (6017, d_RingBy_wants), (6018, d_RingBy_done), (6019, d_Cross_word), (6020, d_Cross_wants), (6021, d_Cross_done), (6022, d_Meet___init__), (6023, d_Meet_text), (6024, d_Meet_wants), (6025, d_Meet_done)]
noncomputable def Ctx : Ct := { N := [], fns := [(0, ("common" : PySem.Str)), (6, ("whole_of" : PySem.Str)), (7, ("fraction_read" : PySem.Str)), (8, ("fraction_text" : PySem.Str)), (147, ("is_name" : PySem.Str)), (148, ("read_point" : PySem.Str)), (149, ("read_span" : PySem.Str)), (150, ("all_names" : PySem.Str)), (151, ("short_row" : PySem.Str)), (152, ("long_row" : PySem.Str)), (153, ("step_of" : PySem.Str)), (236, ("changed" : PySem.Str)), (154, ("_law_stir" : PySem.Str)), (2, ("_law_cell" : PySem.Str)), (164, ("_law_which" : PySem.Str)), (165, ("_law_class" : PySem.Str)), (158, ("_law_row" : PySem.Str)), (84, ("_law_asked" : PySem.Str)), (17, ("_law_due" : PySem.Str)), (5, ("law" : PySem.Str))], gls := [(0, "FIGURES"), (1, "MOST"), (4, "LETTERS")], cls := [(0, "HallError"), (1, "Below"), (2, "NoText"), (3, "NoOver"), (4, "NoRoom"), (5, "NoLine"), (6, "NoRing"), (7, "NoRow"), (8, "TooMany"), (9, "TooGreat"), (22, "NoClaim"), (23, "NoMove"), (24, "NoChange"), (25, "NoAsk"), (10, "NoMeet"), (11, "Twice"), (12, "NoName"), (13, "NoKind"), (14, "NoCarry")], pl := [2, 7, 24], fl := [], df := [], nf := [(0, ("common" : PySem.Str)), (6, ("whole_of" : PySem.Str)), (7, ("fraction_read" : PySem.Str))], hf := [(164, ("_law_which" : PySem.Str))], ocl := [(15, "Step"), (16, "LineThrough"), (17, "FirstPoint"), (18, "RingThrough"), (19, "RingBy"), (20, "Cross"), (21, "Meet")], ib := [15] }
theorem ok_common : okB Ctx d_common = true := by decide +kernel
theorem ok_whole_of : okB Ctx d_whole_of = true := by decide +kernel
theorem ok_fraction_read : okB Ctx d_fraction_read = true := by decide +kernel
theorem ok_fraction_text : okB Ctx d_fraction_text = true := by decide +kernel
theorem ok_is_name : okB Ctx d_is_name = true := by decide +kernel
theorem ok_read_point : okB Ctx d_read_point = true := by decide +kernel
theorem ok_read_span : okB Ctx d_read_span = true := by decide +kernel
theorem ok_all_names : okB Ctx d_all_names = true := by decide +kernel
theorem ok_short_row : okB Ctx d_short_row = true := by decide +kernel
theorem ok_long_row : okB Ctx d_long_row = true := by decide +kernel
theorem ok_step_of : okB Ctx d_step_of = true := by decide +kernel
theorem ok_changed : okB Ctx d_changed = true := by decide +kernel
theorem ok__law_stir : okB Ctx d__law_stir = true := by decide +kernel
theorem ok__law_cell : okB Ctx d__law_cell = true := by decide +kernel
theorem ok__law_which : okB Ctx d__law_which = true := by decide +kernel
theorem ok__law_class : okB Ctx d__law_class = true := by decide +kernel
theorem ok__law_row : okB Ctx d__law_row = true := by decide +kernel
theorem ok__law_asked : okB Ctx d__law_asked = true := by decide +kernel
theorem ok__law_due : okB Ctx d__law_due = true := by decide +kernel
theorem ok_law : okB Ctx d_law = true := by decide +kernel
theorem ok_Step___init__ : okB Ctx d_Step___init__ = true := by decide +kernel
theorem ok_Step_named : okB Ctx d_Step_named = true := by decide +kernel
theorem ok_Step_needs : okB Ctx d_Step_needs = true := by decide +kernel
theorem ok_Step_text : okB Ctx d_Step_text = true := by decide +kernel
theorem ok_Step_word : okB Ctx d_Step_word = true := by decide +kernel
theorem ok_Step_wants : okB Ctx d_Step_wants = true := by decide +kernel
theorem ok_Step_done : okB Ctx d_Step_done = true := by decide +kernel
theorem ok_LineThrough_word : okB Ctx d_LineThrough_word = true := by decide +kernel
theorem ok_LineThrough_done : okB Ctx d_LineThrough_done = true := by decide +kernel
theorem ok_FirstPoint___init__ : okB Ctx d_FirstPoint___init__ = true := by decide +kernel
theorem ok_FirstPoint_text : okB Ctx d_FirstPoint_text = true := by decide +kernel
theorem ok_FirstPoint_wants : okB Ctx d_FirstPoint_wants = true := by decide +kernel
theorem ok_FirstPoint_done : okB Ctx d_FirstPoint_done = true := by decide +kernel
theorem ok_RingThrough_word : okB Ctx d_RingThrough_word = true := by decide +kernel
theorem ok_RingThrough_done : okB Ctx d_RingThrough_done = true := by decide +kernel
theorem ok_RingBy___init__ : okB Ctx d_RingBy___init__ = true := by decide +kernel
theorem ok_RingBy_text : okB Ctx d_RingBy_text = true := by decide +kernel
theorem ok_RingBy_wants : okB Ctx d_RingBy_wants = true := by decide +kernel
theorem ok_RingBy_done : okB Ctx d_RingBy_done = true := by decide +kernel
theorem ok_Cross_word : okB Ctx d_Cross_word = true := by decide +kernel
theorem ok_Cross_wants : okB Ctx d_Cross_wants = true := by decide +kernel
theorem ok_Cross_done : okB Ctx d_Cross_done = true := by decide +kernel
theorem ok_Meet___init__ : okB Ctx d_Meet___init__ = true := by decide +kernel
theorem ok_Meet_text : okB Ctx d_Meet_text = true := by decide +kernel
theorem ok_Meet_wants : okB Ctx d_Meet_wants = true := by decide +kernel
theorem ok_Meet_done : okB Ctx d_Meet_done = true := by decide +kernel
theorem okN_common : okB Ctx.cn d_common = true := by decide +kernel
theorem okN_whole_of : okB Ctx.cn d_whole_of = true := by decide +kernel
theorem okN_fraction_read : okB Ctx.cn d_fraction_read = true := by decide +kernel
theorem okH__law_which : okB Ctx.ch d__law_which = true := by decide +kernel
theorem all_mk {w : World} {K : PySem.W.Frag} {h : Heap} {mg : Str → Option Value} {fa : Addr} (X : K.In h) (G : h.Ns mainGlobals mg) (hfa : mg "law" = some (.ref fa))
    {f0 f1 f2 f3 f4 f5 f6 f7 f8 f9 f10 f11 f12 f13 f14 f15 f16 f17 f18 f19 f20 f21 f22 f23 f24 f25 f26 f27 f28 f29 f30 f31 f32 f33 f34 f35 f36 f37 f38 f39 f40 f41 f42 f43 f44 f45 e0 e1 e2 e3 e4 e5 e6 e7 e8 e9 e10 e11 e12 e13 e14 e15 e16 e17 e18 u0 u1 u2 u3 u4 u5 u6 : Addr} {od0 an0 od1 an1 od2 an2 od3 an3 od4 an4 od5 an5 od6 an6 od7 an7 od8 an8 od9 an9 od10 an10 od11 an11 od12 an12 od13 an13 od14 an14 od15 an15 od16 an16 od17 an17 od18 an18 od19 an19 od20 an20 od21 an21 od22 an22 od23 an23 od24 an24 od25 an25 od26 an26 od27 an27 od28 an28 od29 an29 od30 an30 od31 an31 od32 an32 od33 an33 od34 an34 od35 an35 od36 an36 od37 an37 od38 an38 od39 an39 od40 an40 od41 an41 od42 an42 od43 an43 od44 an44 od45 an45 : Option Addr} {sl0 sl1 sl2 sl3 sl4 sl5 sl6 sl7 sl8 sl9 sl10 sl11 sl12 sl13 sl14 sl15 sl16 sl17 sl18 sl19 sl20 sl21 sl22 sl23 sl24 sl25 sl26 sl27 sl28 sl29 sl30 sl31 sl32 sl33 sl34 sl35 sl36 sl37 sl38 sl39 sl40 sl41 sl42 sl43 sl44 sl45 : Array (Option Value)} {oc0 kV0 dc0 pm0 cd0 ct0 oc1 kV1 dc1 pm1 cd1 ct1 oc2 kV2 dc2 pm2 cd2 ct2 oc3 kV3 dc3 pm3 cd3 ct3 oc4 kV4 dc4 pm4 cd4 ct4 oc5 kV5 dc5 pm5 cd5 ct5 oc6 kV6 dc6 pm6 cd6 ct6 oc7 kV7 dc7 pm7 cd7 ct7 oc8 kV8 dc8 pm8 cd8 ct8 oc9 kV9 dc9 pm9 cd9 ct9 oc10 kV10 dc10 pm10 cd10 ct10 oc11 kV11 dc11 pm11 cd11 ct11 oc12 kV12 dc12 pm12 cd12 ct12 oc13 kV13 dc13 pm13 cd13 ct13 oc14 kV14 dc14 pm14 cd14 ct14 oc15 kV15 dc15 pm15 cd15 ct15 oc16 kV16 dc16 pm16 cd16 ct16 oc17 kV17 dc17 pm17 cd17 ct17 oc18 kV18 dc18 pm18 cd18 ct18 oc19 kV19 dc19 pm19 cd19 ct19 oc20 kV20 dc20 pm20 cd20 ct20 oc21 kV21 dc21 pm21 cd21 ct21 oc22 kV22 dc22 pm22 cd22 ct22 oc23 kV23 dc23 pm23 cd23 ct23 oc24 kV24 dc24 pm24 cd24 ct24 oc25 kV25 dc25 pm25 cd25 ct25 oc26 kV26 dc26 pm26 cd26 ct26 oc27 kV27 dc27 pm27 cd27 ct27 oc28 kV28 dc28 pm28 cd28 ct28 oc29 kV29 dc29 pm29 cd29 ct29 oc30 kV30 dc30 pm30 cd30 ct30 oc31 kV31 dc31 pm31 cd31 ct31 oc32 kV32 dc32 pm32 cd32 ct32 oc33 kV33 dc33 pm33 cd33 ct33 oc34 kV34 dc34 pm34 cd34 ct34 oc35 kV35 dc35 pm35 cd35 ct35 oc36 kV36 dc36 pm36 cd36 ct36 oc37 kV37 dc37 pm37 cd37 ct37 oc38 kV38 dc38 pm38 cd38 ct38 oc39 kV39 dc39 pm39 cd39 ct39 oc40 kV40 dc40 pm40 cd40 ct40 oc41 kV41 dc41 pm41 cd41 ct41 oc42 kV42 dc42 pm42 cd42 ct42 oc43 kV43 dc43 pm43 cd43 ct43 oc44 kV44 dc44 pm44 cd44 ct44 oc45 kV45 dc45 pm45 cd45 ct45 : Value} {gt0 : Tok} {gt1 : Tok} {gt2 : Tok}
    (ea0 : PySem.W.nsIn K mainGlobals "HallError" = some (some (.ref e0)))
    (ek0 : PySem.W.keepIn K (.ref e0) = true)
    (es0 : PySem.W.subIn K (.ref e0) (.type "BaseException") = some true)
    (et0 : PySem.W.typeIn K (.ref e0) = some (.type "type"))
    (ea1 : PySem.W.nsIn K mainGlobals "Below" = some (some (.ref e1)))
    (ek1 : PySem.W.keepIn K (.ref e1) = true)
    (es1 : PySem.W.subIn K (.ref e1) (.type "BaseException") = some true)
    (et1 : PySem.W.typeIn K (.ref e1) = some (.type "type"))
    (ea2 : PySem.W.nsIn K mainGlobals "NoText" = some (some (.ref e2)))
    (ek2 : PySem.W.keepIn K (.ref e2) = true)
    (es2 : PySem.W.subIn K (.ref e2) (.type "BaseException") = some true)
    (et2 : PySem.W.typeIn K (.ref e2) = some (.type "type"))
    (ex2 : PySem.W.excIn K e2 [.type "ValueError", .type "Exception", .type "BaseException", .type "object"] "ValueError.__new__" = true)
    (ea3 : PySem.W.nsIn K mainGlobals "NoOver" = some (some (.ref e3)))
    (ek3 : PySem.W.keepIn K (.ref e3) = true)
    (es3 : PySem.W.subIn K (.ref e3) (.type "BaseException") = some true)
    (et3 : PySem.W.typeIn K (.ref e3) = some (.type "type"))
    (ea4 : PySem.W.nsIn K mainGlobals "NoRoom" = some (some (.ref e4)))
    (ek4 : PySem.W.keepIn K (.ref e4) = true)
    (es4 : PySem.W.subIn K (.ref e4) (.type "BaseException") = some true)
    (et4 : PySem.W.typeIn K (.ref e4) = some (.type "type"))
    (ea5 : PySem.W.nsIn K mainGlobals "NoLine" = some (some (.ref e5)))
    (ek5 : PySem.W.keepIn K (.ref e5) = true)
    (es5 : PySem.W.subIn K (.ref e5) (.type "BaseException") = some true)
    (et5 : PySem.W.typeIn K (.ref e5) = some (.type "type"))
    (ea6 : PySem.W.nsIn K mainGlobals "NoRing" = some (some (.ref e6)))
    (ek6 : PySem.W.keepIn K (.ref e6) = true)
    (es6 : PySem.W.subIn K (.ref e6) (.type "BaseException") = some true)
    (et6 : PySem.W.typeIn K (.ref e6) = some (.type "type"))
    (ea7 : PySem.W.nsIn K mainGlobals "NoRow" = some (some (.ref e7)))
    (ek7 : PySem.W.keepIn K (.ref e7) = true)
    (es7 : PySem.W.subIn K (.ref e7) (.type "BaseException") = some true)
    (et7 : PySem.W.typeIn K (.ref e7) = some (.type "type"))
    (ex7 : PySem.W.excIn K e7 [.type "ValueError", .type "Exception", .type "BaseException", .type "object"] "ValueError.__new__" = true)
    (ea8 : PySem.W.nsIn K mainGlobals "TooMany" = some (some (.ref e8)))
    (ek8 : PySem.W.keepIn K (.ref e8) = true)
    (es8 : PySem.W.subIn K (.ref e8) (.type "BaseException") = some true)
    (et8 : PySem.W.typeIn K (.ref e8) = some (.type "type"))
    (ea9 : PySem.W.nsIn K mainGlobals "TooGreat" = some (some (.ref e9)))
    (ek9 : PySem.W.keepIn K (.ref e9) = true)
    (es9 : PySem.W.subIn K (.ref e9) (.type "BaseException") = some true)
    (et9 : PySem.W.typeIn K (.ref e9) = some (.type "type"))
    (ea10 : PySem.W.nsIn K mainGlobals "NoClaim" = some (some (.ref e10)))
    (ek10 : PySem.W.keepIn K (.ref e10) = true)
    (es10 : PySem.W.subIn K (.ref e10) (.type "BaseException") = some true)
    (et10 : PySem.W.typeIn K (.ref e10) = some (.type "type"))
    (ea11 : PySem.W.nsIn K mainGlobals "NoMove" = some (some (.ref e11)))
    (ek11 : PySem.W.keepIn K (.ref e11) = true)
    (es11 : PySem.W.subIn K (.ref e11) (.type "BaseException") = some true)
    (et11 : PySem.W.typeIn K (.ref e11) = some (.type "type"))
    (ea12 : PySem.W.nsIn K mainGlobals "NoChange" = some (some (.ref e12)))
    (ek12 : PySem.W.keepIn K (.ref e12) = true)
    (es12 : PySem.W.subIn K (.ref e12) (.type "BaseException") = some true)
    (et12 : PySem.W.typeIn K (.ref e12) = some (.type "type"))
    (ex12 : PySem.W.excIn K e12 [.type "ValueError", .type "Exception", .type "BaseException", .type "object"] "ValueError.__new__" = true)
    (ea13 : PySem.W.nsIn K mainGlobals "NoAsk" = some (some (.ref e13)))
    (ek13 : PySem.W.keepIn K (.ref e13) = true)
    (es13 : PySem.W.subIn K (.ref e13) (.type "BaseException") = some true)
    (et13 : PySem.W.typeIn K (.ref e13) = some (.type "type"))
    (ea14 : PySem.W.nsIn K mainGlobals "NoMeet" = some (some (.ref e14)))
    (ek14 : PySem.W.keepIn K (.ref e14) = true)
    (es14 : PySem.W.subIn K (.ref e14) (.type "BaseException") = some true)
    (et14 : PySem.W.typeIn K (.ref e14) = some (.type "type"))
    (ea15 : PySem.W.nsIn K mainGlobals "Twice" = some (some (.ref e15)))
    (ek15 : PySem.W.keepIn K (.ref e15) = true)
    (es15 : PySem.W.subIn K (.ref e15) (.type "BaseException") = some true)
    (et15 : PySem.W.typeIn K (.ref e15) = some (.type "type"))
    (ea16 : PySem.W.nsIn K mainGlobals "NoName" = some (some (.ref e16)))
    (ek16 : PySem.W.keepIn K (.ref e16) = true)
    (es16 : PySem.W.subIn K (.ref e16) (.type "BaseException") = some true)
    (et16 : PySem.W.typeIn K (.ref e16) = some (.type "type"))
    (ea17 : PySem.W.nsIn K mainGlobals "NoKind" = some (some (.ref e17)))
    (ek17 : PySem.W.keepIn K (.ref e17) = true)
    (es17 : PySem.W.subIn K (.ref e17) (.type "BaseException") = some true)
    (et17 : PySem.W.typeIn K (.ref e17) = some (.type "type"))
    (ea18 : PySem.W.nsIn K mainGlobals "NoCarry" = some (some (.ref e18)))
    (ek18 : PySem.W.keepIn K (.ref e18) = true)
    (es18 : PySem.W.subIn K (.ref e18) (.type "BaseException") = some true)
    (et18 : PySem.W.typeIn K (.ref e18) = some (.type "type"))
    (oa0 : PySem.W.nsIn K mainGlobals "Step" = some (some (.ref u0)))
    (uk0 : PySem.W.keepIn K (.ref u0) = true)
    (uc0 : Cls K u0)
    (oa1 : PySem.W.nsIn K mainGlobals "LineThrough" = some (some (.ref u1)))
    (uk1 : PySem.W.keepIn K (.ref u1) = true)
    (uc1 : Cls K u1)
    (oa2 : PySem.W.nsIn K mainGlobals "FirstPoint" = some (some (.ref u2)))
    (uk2 : PySem.W.keepIn K (.ref u2) = true)
    (uc2 : Cls K u2)
    (oa3 : PySem.W.nsIn K mainGlobals "RingThrough" = some (some (.ref u3)))
    (uk3 : PySem.W.keepIn K (.ref u3) = true)
    (uc3 : Cls K u3)
    (oa4 : PySem.W.nsIn K mainGlobals "RingBy" = some (some (.ref u4)))
    (uk4 : PySem.W.keepIn K (.ref u4) = true)
    (uc4 : Cls K u4)
    (oa5 : PySem.W.nsIn K mainGlobals "Cross" = some (some (.ref u5)))
    (uk5 : PySem.W.keepIn K (.ref u5) = true)
    (uc5 : Cls K u5)
    (oa6 : PySem.W.nsIn K mainGlobals "Meet" = some (some (.ref u6)))
    (uk6 : PySem.W.keepIn K (.ref u6) = true)
    (uc6 : Cls K u6)
    (a0 : PySem.W.nsIn K mainGlobals "common" = some (some (.ref f0)))
    (l0 : K.lookup f0 = some ⟨oc0, od0, .func (PySem.W.fnOf "common" "common" (defArgs s_common) (defBody s_common) (defScope s_common) .none kV0 dc0 pm0 an0 cd0 ct0), sl0⟩)
    (c0 : PySem.W.codeIn K cd0 "common" = true)
    (k0 : PySem.W.keepIn K (.ref f0) = true)
    (a1 : PySem.W.nsIn K mainGlobals "whole_of" = some (some (.ref f1)))
    (l1 : K.lookup f1 = some ⟨oc1, od1, .func (PySem.W.fnOf "whole_of" "whole_of" (defArgs s_whole_of) (defBody s_whole_of) (defScope s_whole_of) .none kV1 dc1 pm1 an1 cd1 ct1), sl1⟩)
    (c1 : PySem.W.codeIn K cd1 "whole_of" = true)
    (k1 : PySem.W.keepIn K (.ref f1) = true)
    (a2 : PySem.W.nsIn K mainGlobals "fraction_read" = some (some (.ref f2)))
    (l2 : K.lookup f2 = some ⟨oc2, od2, .func (PySem.W.fnOf "fraction_read" "fraction_read" (defArgs s_fraction_read) (defBody s_fraction_read) (defScope s_fraction_read) .none kV2 dc2 pm2 an2 cd2 ct2), sl2⟩)
    (c2 : PySem.W.codeIn K cd2 "fraction_read" = true)
    (k2 : PySem.W.keepIn K (.ref f2) = true)
    (a3 : PySem.W.nsIn K mainGlobals "fraction_text" = some (some (.ref f3)))
    (l3 : K.lookup f3 = some ⟨oc3, od3, .func (PySem.W.fnOf "fraction_text" "fraction_text" (defArgs s_fraction_text) (defBody s_fraction_text) (defScope s_fraction_text) .none kV3 dc3 pm3 an3 cd3 ct3), sl3⟩)
    (c3 : PySem.W.codeIn K cd3 "fraction_text" = true)
    (k3 : PySem.W.keepIn K (.ref f3) = true)
    (a4 : PySem.W.nsIn K mainGlobals "is_name" = some (some (.ref f4)))
    (l4 : K.lookup f4 = some ⟨oc4, od4, .func (PySem.W.fnOf "is_name" "is_name" (defArgs s_is_name) (defBody s_is_name) (defScope s_is_name) .none kV4 dc4 pm4 an4 cd4 ct4), sl4⟩)
    (c4 : PySem.W.codeIn K cd4 "is_name" = true)
    (k4 : PySem.W.keepIn K (.ref f4) = true)
    (a5 : PySem.W.nsIn K mainGlobals "read_point" = some (some (.ref f5)))
    (l5 : K.lookup f5 = some ⟨oc5, od5, .func (PySem.W.fnOf "read_point" "read_point" (defArgs s_read_point) (defBody s_read_point) (defScope s_read_point) .none kV5 dc5 pm5 an5 cd5 ct5), sl5⟩)
    (c5 : PySem.W.codeIn K cd5 "read_point" = true)
    (k5 : PySem.W.keepIn K (.ref f5) = true)
    (a6 : PySem.W.nsIn K mainGlobals "read_span" = some (some (.ref f6)))
    (l6 : K.lookup f6 = some ⟨oc6, od6, .func (PySem.W.fnOf "read_span" "read_span" (defArgs s_read_span) (defBody s_read_span) (defScope s_read_span) .none kV6 dc6 pm6 an6 cd6 ct6), sl6⟩)
    (c6 : PySem.W.codeIn K cd6 "read_span" = true)
    (k6 : PySem.W.keepIn K (.ref f6) = true)
    (a7 : PySem.W.nsIn K mainGlobals "all_names" = some (some (.ref f7)))
    (l7 : K.lookup f7 = some ⟨oc7, od7, .func (PySem.W.fnOf "all_names" "all_names" (defArgs s_all_names) (defBody s_all_names) (defScope s_all_names) .none kV7 dc7 pm7 an7 cd7 ct7), sl7⟩)
    (c7 : PySem.W.codeIn K cd7 "all_names" = true)
    (k7 : PySem.W.keepIn K (.ref f7) = true)
    (a8 : PySem.W.nsIn K mainGlobals "short_row" = some (some (.ref f8)))
    (l8 : K.lookup f8 = some ⟨oc8, od8, .func (PySem.W.fnOf "short_row" "short_row" (defArgs s_short_row) (defBody s_short_row) (defScope s_short_row) .none kV8 dc8 pm8 an8 cd8 ct8), sl8⟩)
    (c8 : PySem.W.codeIn K cd8 "short_row" = true)
    (k8 : PySem.W.keepIn K (.ref f8) = true)
    (a9 : PySem.W.nsIn K mainGlobals "long_row" = some (some (.ref f9)))
    (l9 : K.lookup f9 = some ⟨oc9, od9, .func (PySem.W.fnOf "long_row" "long_row" (defArgs s_long_row) (defBody s_long_row) (defScope s_long_row) .none kV9 dc9 pm9 an9 cd9 ct9), sl9⟩)
    (c9 : PySem.W.codeIn K cd9 "long_row" = true)
    (k9 : PySem.W.keepIn K (.ref f9) = true)
    (a10 : PySem.W.nsIn K mainGlobals "step_of" = some (some (.ref f10)))
    (l10 : K.lookup f10 = some ⟨oc10, od10, .func (PySem.W.fnOf "step_of" "step_of" (defArgs s_step_of) (defBody s_step_of) (defScope s_step_of) .none kV10 dc10 pm10 an10 cd10 ct10), sl10⟩)
    (c10 : PySem.W.codeIn K cd10 "step_of" = true)
    (k10 : PySem.W.keepIn K (.ref f10) = true)
    (a11 : PySem.W.nsIn K mainGlobals "changed" = some (some (.ref f11)))
    (l11 : K.lookup f11 = some ⟨oc11, od11, .func (PySem.W.fnOf "changed" "changed" (defArgs s_changed) (defBody s_changed) (defScope s_changed) .none kV11 dc11 pm11 an11 cd11 ct11), sl11⟩)
    (c11 : PySem.W.codeIn K cd11 "changed" = true)
    (k11 : PySem.W.keepIn K (.ref f11) = true)
    (a12 : PySem.W.nsIn K mainGlobals "_law_stir" = some (some (.ref f12)))
    (l12 : K.lookup f12 = some ⟨oc12, od12, .func (PySem.W.fnOf "_law_stir" "_law_stir" (defArgs s__law_stir) (defBody s__law_stir) (defScope s__law_stir) .none kV12 dc12 pm12 an12 cd12 ct12), sl12⟩)
    (c12 : PySem.W.codeIn K cd12 "_law_stir" = true)
    (k12 : PySem.W.keepIn K (.ref f12) = true)
    (a13 : PySem.W.nsIn K mainGlobals "_law_cell" = some (some (.ref f13)))
    (l13 : K.lookup f13 = some ⟨oc13, od13, .func (PySem.W.fnOf "_law_cell" "_law_cell" (defArgs s__law_cell) (defBody s__law_cell) (defScope s__law_cell) .none kV13 dc13 pm13 an13 cd13 ct13), sl13⟩)
    (c13 : PySem.W.codeIn K cd13 "_law_cell" = true)
    (k13 : PySem.W.keepIn K (.ref f13) = true)
    (a14 : PySem.W.nsIn K mainGlobals "_law_which" = some (some (.ref f14)))
    (l14 : K.lookup f14 = some ⟨oc14, od14, .func (PySem.W.fnOf "_law_which" "_law_which" (defArgs s__law_which) (defBody s__law_which) (defScope s__law_which) .none kV14 dc14 pm14 an14 cd14 ct14), sl14⟩)
    (c14 : PySem.W.codeIn K cd14 "_law_which" = true)
    (k14 : PySem.W.keepIn K (.ref f14) = true)
    (a15 : PySem.W.nsIn K mainGlobals "_law_class" = some (some (.ref f15)))
    (l15 : K.lookup f15 = some ⟨oc15, od15, .func (PySem.W.fnOf "_law_class" "_law_class" (defArgs s__law_class) (defBody s__law_class) (defScope s__law_class) .none kV15 dc15 pm15 an15 cd15 ct15), sl15⟩)
    (c15 : PySem.W.codeIn K cd15 "_law_class" = true)
    (k15 : PySem.W.keepIn K (.ref f15) = true)
    (a16 : PySem.W.nsIn K mainGlobals "_law_row" = some (some (.ref f16)))
    (l16 : K.lookup f16 = some ⟨oc16, od16, .func (PySem.W.fnOf "_law_row" "_law_row" (defArgs s__law_row) (defBody s__law_row) (defScope s__law_row) .none kV16 dc16 pm16 an16 cd16 ct16), sl16⟩)
    (c16 : PySem.W.codeIn K cd16 "_law_row" = true)
    (k16 : PySem.W.keepIn K (.ref f16) = true)
    (a17 : PySem.W.nsIn K mainGlobals "_law_asked" = some (some (.ref f17)))
    (l17 : K.lookup f17 = some ⟨oc17, od17, .func (PySem.W.fnOf "_law_asked" "_law_asked" (defArgs s__law_asked) (defBody s__law_asked) (defScope s__law_asked) .none kV17 dc17 pm17 an17 cd17 ct17), sl17⟩)
    (c17 : PySem.W.codeIn K cd17 "_law_asked" = true)
    (k17 : PySem.W.keepIn K (.ref f17) = true)
    (a18 : PySem.W.nsIn K mainGlobals "_law_due" = some (some (.ref f18)))
    (l18 : K.lookup f18 = some ⟨oc18, od18, .func (PySem.W.fnOf "_law_due" "_law_due" (defArgs s__law_due) (defBody s__law_due) (defScope s__law_due) .none kV18 dc18 pm18 an18 cd18 ct18), sl18⟩)
    (c18 : PySem.W.codeIn K cd18 "_law_due" = true)
    (k18 : PySem.W.keepIn K (.ref f18) = true)
    (a19 : PySem.W.nsIn K mainGlobals "law" = some (some (.ref f19)))
    (l19 : K.lookup f19 = some ⟨oc19, od19, .func (PySem.W.fnOf "law" "law" (defArgs s_law) (defBody s_law) (defScope s_law) .none kV19 dc19 pm19 an19 cd19 ct19), sl19⟩)
    (c19 : PySem.W.codeIn K cd19 "law" = true)
    (k19 : PySem.W.keepIn K (.ref f19) = true)
    (m0_20 : PySem.W.findIn K (.ref u0) "__init__" = some (some (.ref f20)))
    (l20 : K.lookup f20 = some ⟨oc20, od20, .func (PySem.W.fnOf "__init__" "Step.__init__" (defArgs s_Step___init__) (defBody s_Step___init__) (defScope s_Step___init__) .none kV20 dc20 pm20 an20 cd20 ct20), sl20⟩)
    (c20 : PySem.W.codeIn K cd20 "Step.__init__" = true)
    (k20 : PySem.W.keepIn K (.ref f20) = true)
    (n20 : PySem.W.isFn K (.ref f20) = true)
    (m0_21 : PySem.W.findIn K (.ref u0) "named" = some (some (.ref f21)))
    (l21 : K.lookup f21 = some ⟨oc21, od21, .func (PySem.W.fnOf "named" "Step.named" (defArgs s_Step_named) (defBody s_Step_named) (defScope s_Step_named) .none kV21 dc21 pm21 an21 cd21 ct21), sl21⟩)
    (c21 : PySem.W.codeIn K cd21 "Step.named" = true)
    (k21 : PySem.W.keepIn K (.ref f21) = true)
    (n21 : PySem.W.isFn K (.ref f21) = true)
    (m0_22 : PySem.W.findIn K (.ref u0) "needs" = some (some (.ref f22)))
    (l22 : K.lookup f22 = some ⟨oc22, od22, .func (PySem.W.fnOf "needs" "Step.needs" (defArgs s_Step_needs) (defBody s_Step_needs) (defScope s_Step_needs) .none kV22 dc22 pm22 an22 cd22 ct22), sl22⟩)
    (c22 : PySem.W.codeIn K cd22 "Step.needs" = true)
    (k22 : PySem.W.keepIn K (.ref f22) = true)
    (n22 : PySem.W.isFn K (.ref f22) = true)
    (m0_23 : PySem.W.findIn K (.ref u0) "text" = some (some (.ref f23)))
    (l23 : K.lookup f23 = some ⟨oc23, od23, .func (PySem.W.fnOf "text" "Step.text" (defArgs s_Step_text) (defBody s_Step_text) (defScope s_Step_text) .none kV23 dc23 pm23 an23 cd23 ct23), sl23⟩)
    (c23 : PySem.W.codeIn K cd23 "Step.text" = true)
    (k23 : PySem.W.keepIn K (.ref f23) = true)
    (n23 : PySem.W.isFn K (.ref f23) = true)
    (m0_24 : PySem.W.findIn K (.ref u0) "word" = some (some (.ref f24)))
    (l24 : K.lookup f24 = some ⟨oc24, od24, .func (PySem.W.fnOf "word" "Step.word" (defArgs s_Step_word) (defBody s_Step_word) (defScope s_Step_word) .none kV24 dc24 pm24 an24 cd24 ct24), sl24⟩)
    (c24 : PySem.W.codeIn K cd24 "Step.word" = true)
    (k24 : PySem.W.keepIn K (.ref f24) = true)
    (n24 : PySem.W.isFn K (.ref f24) = true)
    (m0_25 : PySem.W.findIn K (.ref u0) "wants" = some (some (.ref f25)))
    (l25 : K.lookup f25 = some ⟨oc25, od25, .func (PySem.W.fnOf "wants" "Step.wants" (defArgs s_Step_wants) (defBody s_Step_wants) (defScope s_Step_wants) .none kV25 dc25 pm25 an25 cd25 ct25), sl25⟩)
    (c25 : PySem.W.codeIn K cd25 "Step.wants" = true)
    (k25 : PySem.W.keepIn K (.ref f25) = true)
    (n25 : PySem.W.isFn K (.ref f25) = true)
    (m0_26 : PySem.W.findIn K (.ref u0) "done" = some (some (.ref f26)))
    (l26 : K.lookup f26 = some ⟨oc26, od26, .func (PySem.W.fnOf "done" "Step.done" (defArgs s_Step_done) (defBody s_Step_done) (defScope s_Step_done) .none kV26 dc26 pm26 an26 cd26 ct26), sl26⟩)
    (c26 : PySem.W.codeIn K cd26 "Step.done" = true)
    (k26 : PySem.W.keepIn K (.ref f26) = true)
    (n26 : PySem.W.isFn K (.ref f26) = true)
    (m1_27 : PySem.W.findIn K (.ref u1) "word" = some (some (.ref f27)))
    (l27 : K.lookup f27 = some ⟨oc27, od27, .func (PySem.W.fnOf "word" "LineThrough.word" (defArgs s_LineThrough_word) (defBody s_LineThrough_word) (defScope s_LineThrough_word) .none kV27 dc27 pm27 an27 cd27 ct27), sl27⟩)
    (c27 : PySem.W.codeIn K cd27 "LineThrough.word" = true)
    (k27 : PySem.W.keepIn K (.ref f27) = true)
    (n27 : PySem.W.isFn K (.ref f27) = true)
    (m1_28 : PySem.W.findIn K (.ref u1) "done" = some (some (.ref f28)))
    (l28 : K.lookup f28 = some ⟨oc28, od28, .func (PySem.W.fnOf "done" "LineThrough.done" (defArgs s_LineThrough_done) (defBody s_LineThrough_done) (defScope s_LineThrough_done) .none kV28 dc28 pm28 an28 cd28 ct28), sl28⟩)
    (c28 : PySem.W.codeIn K cd28 "LineThrough.done" = true)
    (k28 : PySem.W.keepIn K (.ref f28) = true)
    (n28 : PySem.W.isFn K (.ref f28) = true)
    (m2_29 : PySem.W.findIn K (.ref u2) "__init__" = some (some (.ref f29)))
    (l29 : K.lookup f29 = some ⟨oc29, od29, .func (PySem.W.fnOf "__init__" "FirstPoint.__init__" (defArgs s_FirstPoint___init__) (defBody s_FirstPoint___init__) (defScope s_FirstPoint___init__) .none kV29 dc29 pm29 an29 cd29 ct29), sl29⟩)
    (c29 : PySem.W.codeIn K cd29 "FirstPoint.__init__" = true)
    (k29 : PySem.W.keepIn K (.ref f29) = true)
    (n29 : PySem.W.isFn K (.ref f29) = true)
    (m2_30 : PySem.W.findIn K (.ref u2) "text" = some (some (.ref f30)))
    (l30 : K.lookup f30 = some ⟨oc30, od30, .func (PySem.W.fnOf "text" "FirstPoint.text" (defArgs s_FirstPoint_text) (defBody s_FirstPoint_text) (defScope s_FirstPoint_text) .none kV30 dc30 pm30 an30 cd30 ct30), sl30⟩)
    (c30 : PySem.W.codeIn K cd30 "FirstPoint.text" = true)
    (k30 : PySem.W.keepIn K (.ref f30) = true)
    (n30 : PySem.W.isFn K (.ref f30) = true)
    (m2_31 : PySem.W.findIn K (.ref u2) "wants" = some (some (.ref f31)))
    (l31 : K.lookup f31 = some ⟨oc31, od31, .func (PySem.W.fnOf "wants" "FirstPoint.wants" (defArgs s_FirstPoint_wants) (defBody s_FirstPoint_wants) (defScope s_FirstPoint_wants) .none kV31 dc31 pm31 an31 cd31 ct31), sl31⟩)
    (c31 : PySem.W.codeIn K cd31 "FirstPoint.wants" = true)
    (k31 : PySem.W.keepIn K (.ref f31) = true)
    (n31 : PySem.W.isFn K (.ref f31) = true)
    (m2_32 : PySem.W.findIn K (.ref u2) "done" = some (some (.ref f32)))
    (l32 : K.lookup f32 = some ⟨oc32, od32, .func (PySem.W.fnOf "done" "FirstPoint.done" (defArgs s_FirstPoint_done) (defBody s_FirstPoint_done) (defScope s_FirstPoint_done) .none kV32 dc32 pm32 an32 cd32 ct32), sl32⟩)
    (c32 : PySem.W.codeIn K cd32 "FirstPoint.done" = true)
    (k32 : PySem.W.keepIn K (.ref f32) = true)
    (n32 : PySem.W.isFn K (.ref f32) = true)
    (m3_33 : PySem.W.findIn K (.ref u3) "word" = some (some (.ref f33)))
    (l33 : K.lookup f33 = some ⟨oc33, od33, .func (PySem.W.fnOf "word" "RingThrough.word" (defArgs s_RingThrough_word) (defBody s_RingThrough_word) (defScope s_RingThrough_word) .none kV33 dc33 pm33 an33 cd33 ct33), sl33⟩)
    (c33 : PySem.W.codeIn K cd33 "RingThrough.word" = true)
    (k33 : PySem.W.keepIn K (.ref f33) = true)
    (n33 : PySem.W.isFn K (.ref f33) = true)
    (m3_34 : PySem.W.findIn K (.ref u3) "done" = some (some (.ref f34)))
    (l34 : K.lookup f34 = some ⟨oc34, od34, .func (PySem.W.fnOf "done" "RingThrough.done" (defArgs s_RingThrough_done) (defBody s_RingThrough_done) (defScope s_RingThrough_done) .none kV34 dc34 pm34 an34 cd34 ct34), sl34⟩)
    (c34 : PySem.W.codeIn K cd34 "RingThrough.done" = true)
    (k34 : PySem.W.keepIn K (.ref f34) = true)
    (n34 : PySem.W.isFn K (.ref f34) = true)
    (m4_35 : PySem.W.findIn K (.ref u4) "__init__" = some (some (.ref f35)))
    (l35 : K.lookup f35 = some ⟨oc35, od35, .func (PySem.W.fnOf "__init__" "RingBy.__init__" (defArgs s_RingBy___init__) (defBody s_RingBy___init__) (defScope s_RingBy___init__) .none kV35 dc35 pm35 an35 cd35 ct35), sl35⟩)
    (c35 : PySem.W.codeIn K cd35 "RingBy.__init__" = true)
    (k35 : PySem.W.keepIn K (.ref f35) = true)
    (n35 : PySem.W.isFn K (.ref f35) = true)
    (m4_36 : PySem.W.findIn K (.ref u4) "text" = some (some (.ref f36)))
    (l36 : K.lookup f36 = some ⟨oc36, od36, .func (PySem.W.fnOf "text" "RingBy.text" (defArgs s_RingBy_text) (defBody s_RingBy_text) (defScope s_RingBy_text) .none kV36 dc36 pm36 an36 cd36 ct36), sl36⟩)
    (c36 : PySem.W.codeIn K cd36 "RingBy.text" = true)
    (k36 : PySem.W.keepIn K (.ref f36) = true)
    (n36 : PySem.W.isFn K (.ref f36) = true)
    (m4_37 : PySem.W.findIn K (.ref u4) "wants" = some (some (.ref f37)))
    (l37 : K.lookup f37 = some ⟨oc37, od37, .func (PySem.W.fnOf "wants" "RingBy.wants" (defArgs s_RingBy_wants) (defBody s_RingBy_wants) (defScope s_RingBy_wants) .none kV37 dc37 pm37 an37 cd37 ct37), sl37⟩)
    (c37 : PySem.W.codeIn K cd37 "RingBy.wants" = true)
    (k37 : PySem.W.keepIn K (.ref f37) = true)
    (n37 : PySem.W.isFn K (.ref f37) = true)
    (m4_38 : PySem.W.findIn K (.ref u4) "done" = some (some (.ref f38)))
    (l38 : K.lookup f38 = some ⟨oc38, od38, .func (PySem.W.fnOf "done" "RingBy.done" (defArgs s_RingBy_done) (defBody s_RingBy_done) (defScope s_RingBy_done) .none kV38 dc38 pm38 an38 cd38 ct38), sl38⟩)
    (c38 : PySem.W.codeIn K cd38 "RingBy.done" = true)
    (k38 : PySem.W.keepIn K (.ref f38) = true)
    (n38 : PySem.W.isFn K (.ref f38) = true)
    (m5_39 : PySem.W.findIn K (.ref u5) "word" = some (some (.ref f39)))
    (l39 : K.lookup f39 = some ⟨oc39, od39, .func (PySem.W.fnOf "word" "Cross.word" (defArgs s_Cross_word) (defBody s_Cross_word) (defScope s_Cross_word) .none kV39 dc39 pm39 an39 cd39 ct39), sl39⟩)
    (c39 : PySem.W.codeIn K cd39 "Cross.word" = true)
    (k39 : PySem.W.keepIn K (.ref f39) = true)
    (n39 : PySem.W.isFn K (.ref f39) = true)
    (m5_40 : PySem.W.findIn K (.ref u5) "wants" = some (some (.ref f40)))
    (l40 : K.lookup f40 = some ⟨oc40, od40, .func (PySem.W.fnOf "wants" "Cross.wants" (defArgs s_Cross_wants) (defBody s_Cross_wants) (defScope s_Cross_wants) .none kV40 dc40 pm40 an40 cd40 ct40), sl40⟩)
    (c40 : PySem.W.codeIn K cd40 "Cross.wants" = true)
    (k40 : PySem.W.keepIn K (.ref f40) = true)
    (n40 : PySem.W.isFn K (.ref f40) = true)
    (m5_41 : PySem.W.findIn K (.ref u5) "done" = some (some (.ref f41)))
    (l41 : K.lookup f41 = some ⟨oc41, od41, .func (PySem.W.fnOf "done" "Cross.done" (defArgs s_Cross_done) (defBody s_Cross_done) (defScope s_Cross_done) .none kV41 dc41 pm41 an41 cd41 ct41), sl41⟩)
    (c41 : PySem.W.codeIn K cd41 "Cross.done" = true)
    (k41 : PySem.W.keepIn K (.ref f41) = true)
    (n41 : PySem.W.isFn K (.ref f41) = true)
    (m6_42 : PySem.W.findIn K (.ref u6) "__init__" = some (some (.ref f42)))
    (l42 : K.lookup f42 = some ⟨oc42, od42, .func (PySem.W.fnOf "__init__" "Meet.__init__" (defArgs s_Meet___init__) (defBody s_Meet___init__) (defScope s_Meet___init__) .none kV42 dc42 pm42 an42 cd42 ct42), sl42⟩)
    (c42 : PySem.W.codeIn K cd42 "Meet.__init__" = true)
    (k42 : PySem.W.keepIn K (.ref f42) = true)
    (n42 : PySem.W.isFn K (.ref f42) = true)
    (m6_43 : PySem.W.findIn K (.ref u6) "text" = some (some (.ref f43)))
    (l43 : K.lookup f43 = some ⟨oc43, od43, .func (PySem.W.fnOf "text" "Meet.text" (defArgs s_Meet_text) (defBody s_Meet_text) (defScope s_Meet_text) .none kV43 dc43 pm43 an43 cd43 ct43), sl43⟩)
    (c43 : PySem.W.codeIn K cd43 "Meet.text" = true)
    (k43 : PySem.W.keepIn K (.ref f43) = true)
    (n43 : PySem.W.isFn K (.ref f43) = true)
    (m6_44 : PySem.W.findIn K (.ref u6) "wants" = some (some (.ref f44)))
    (l44 : K.lookup f44 = some ⟨oc44, od44, .func (PySem.W.fnOf "wants" "Meet.wants" (defArgs s_Meet_wants) (defBody s_Meet_wants) (defScope s_Meet_wants) .none kV44 dc44 pm44 an44 cd44 ct44), sl44⟩)
    (c44 : PySem.W.codeIn K cd44 "Meet.wants" = true)
    (k44 : PySem.W.keepIn K (.ref f44) = true)
    (n44 : PySem.W.isFn K (.ref f44) = true)
    (m6_45 : PySem.W.findIn K (.ref u6) "done" = some (some (.ref f45)))
    (l45 : K.lookup f45 = some ⟨oc45, od45, .func (PySem.W.fnOf "done" "Meet.done" (defArgs s_Meet_done) (defBody s_Meet_done) (defScope s_Meet_done) .none kV45 dc45 pm45 an45 cd45 ct45), sl45⟩)
    (c45 : PySem.W.codeIn K cd45 "Meet.done" = true)
    (k45 : PySem.W.keepIn K (.ref f45) = true)
    (n45 : PySem.W.isFn K (.ref f45) = true)
    (um0 : PySem.W.makesIn K u0 = true)
    (uf0_0 : PySem.W.findIn K (.ref u0) "name" = some none)
    (uf0_1 : PySem.W.findIn K (.ref u0) "others" = some none)
    (ub0 : CFun K u0 "__init__" f20)
    (m1_21 : PySem.W.findIn K (.ref u1) "named" = some (some (.ref f21)))
    (m1_22 : PySem.W.findIn K (.ref u1) "needs" = some (some (.ref f22)))
    (m1_23 : PySem.W.findIn K (.ref u1) "text" = some (some (.ref f23)))
    (m1_25 : PySem.W.findIn K (.ref u1) "wants" = some (some (.ref f25)))
    (m1_20 : PySem.W.findIn K (.ref u1) "__init__" = some (some (.ref f20)))
    (um1 : PySem.W.makesIn K u1 = true)
    (uf1_0 : PySem.W.findIn K (.ref u1) "name" = some none)
    (uf1_1 : PySem.W.findIn K (.ref u1) "others" = some none)
    (m2_21 : PySem.W.findIn K (.ref u2) "named" = some (some (.ref f21)))
    (m2_22 : PySem.W.findIn K (.ref u2) "needs" = some (some (.ref f22)))
    (m2_24 : PySem.W.findIn K (.ref u2) "word" = some (some (.ref f24)))
    (um2 : PySem.W.makesIn K u2 = true)
    (uf2_0 : PySem.W.findIn K (.ref u2) "name" = some none)
    (uf2_1 : PySem.W.findIn K (.ref u2) "others" = some none)
    (uf2_2 : PySem.W.findIn K (.ref u2) "across" = some none)
    (uf2_3 : PySem.W.findIn K (.ref u2) "up" = some none)
    (m3_21 : PySem.W.findIn K (.ref u3) "named" = some (some (.ref f21)))
    (m3_22 : PySem.W.findIn K (.ref u3) "needs" = some (some (.ref f22)))
    (m3_23 : PySem.W.findIn K (.ref u3) "text" = some (some (.ref f23)))
    (m3_25 : PySem.W.findIn K (.ref u3) "wants" = some (some (.ref f25)))
    (m3_20 : PySem.W.findIn K (.ref u3) "__init__" = some (some (.ref f20)))
    (um3 : PySem.W.makesIn K u3 = true)
    (uf3_0 : PySem.W.findIn K (.ref u3) "name" = some none)
    (uf3_1 : PySem.W.findIn K (.ref u3) "others" = some none)
    (m4_21 : PySem.W.findIn K (.ref u4) "named" = some (some (.ref f21)))
    (m4_22 : PySem.W.findIn K (.ref u4) "needs" = some (some (.ref f22)))
    (m4_24 : PySem.W.findIn K (.ref u4) "word" = some (some (.ref f24)))
    (um4 : PySem.W.makesIn K u4 = true)
    (uf4_0 : PySem.W.findIn K (.ref u4) "name" = some none)
    (uf4_1 : PySem.W.findIn K (.ref u4) "others" = some none)
    (uf4_4 : PySem.W.findIn K (.ref u4) "square" = some none)
    (m5_21 : PySem.W.findIn K (.ref u5) "named" = some (some (.ref f21)))
    (m5_22 : PySem.W.findIn K (.ref u5) "needs" = some (some (.ref f22)))
    (m5_23 : PySem.W.findIn K (.ref u5) "text" = some (some (.ref f23)))
    (m5_20 : PySem.W.findIn K (.ref u5) "__init__" = some (some (.ref f20)))
    (um5 : PySem.W.makesIn K u5 = true)
    (uf5_0 : PySem.W.findIn K (.ref u5) "name" = some none)
    (uf5_1 : PySem.W.findIn K (.ref u5) "others" = some none)
    (m6_21 : PySem.W.findIn K (.ref u6) "named" = some (some (.ref f21)))
    (m6_22 : PySem.W.findIn K (.ref u6) "needs" = some (some (.ref f22)))
    (m6_24 : PySem.W.findIn K (.ref u6) "word" = some (some (.ref f24)))
    (um6 : PySem.W.makesIn K u6 = true)
    (uf6_0 : PySem.W.findIn K (.ref u6) "name" = some none)
    (uf6_1 : PySem.W.findIn K (.ref u6) "others" = some none)
    (uf6_5 : PySem.W.findIn K (.ref u6) "which" = some none)
    (gg0 : PySem.W.nsIn K mainGlobals "FIGURES" = some (some (.str "0123456789" gt0)))
    (gg1 : PySem.W.nsIn K mainGlobals "MOST" = some (some (.int 60 gt1)))
    (gg2 : PySem.W.nsIn K mainGlobals "LETTERS" = some (some (.str "abcdefghijklmnopqrstuvwxyz" gt2)))
    (xc2 : ExcC K e2)
    (ve2 : PySem.W.kitOne K (.ref e2) (.type "ValueError") = some true)
    (nf2 : PySem.W.findIn K (.ref e2) "name" = some none)
    (no2 : PySem.W.kitOne K (.type "NoneType") (.ref e2) = some false)
    (em2_0 : PySem.W.exmOne K (.ref e2) (.ref e0) = some true)
    (kt2_0 : PySem.W.kitOne K (.ref e2) (.ref e0) = some true)
    (em2_1 : PySem.W.exmOne K (.ref e2) (.ref e1) = some false)
    (kt2_1 : PySem.W.kitOne K (.ref e2) (.ref e1) = some false)
    (em2_2 : PySem.W.exmOne K (.ref e2) (.ref e2) = some true)
    (kt2_2 : PySem.W.kitOne K (.ref e2) (.ref e2) = some true)
    (em2_3 : PySem.W.exmOne K (.ref e2) (.ref e3) = some false)
    (kt2_3 : PySem.W.kitOne K (.ref e2) (.ref e3) = some false)
    (em2_4 : PySem.W.exmOne K (.ref e2) (.ref e4) = some false)
    (kt2_4 : PySem.W.kitOne K (.ref e2) (.ref e4) = some false)
    (em2_5 : PySem.W.exmOne K (.ref e2) (.ref e5) = some false)
    (kt2_5 : PySem.W.kitOne K (.ref e2) (.ref e5) = some false)
    (em2_6 : PySem.W.exmOne K (.ref e2) (.ref e6) = some false)
    (kt2_6 : PySem.W.kitOne K (.ref e2) (.ref e6) = some false)
    (em2_7 : PySem.W.exmOne K (.ref e2) (.ref e7) = some false)
    (kt2_7 : PySem.W.kitOne K (.ref e2) (.ref e7) = some false)
    (em2_8 : PySem.W.exmOne K (.ref e2) (.ref e8) = some false)
    (kt2_8 : PySem.W.kitOne K (.ref e2) (.ref e8) = some false)
    (em2_9 : PySem.W.exmOne K (.ref e2) (.ref e9) = some false)
    (kt2_9 : PySem.W.kitOne K (.ref e2) (.ref e9) = some false)
    (em2_10 : PySem.W.exmOne K (.ref e2) (.ref e10) = some false)
    (kt2_10 : PySem.W.kitOne K (.ref e2) (.ref e10) = some false)
    (em2_11 : PySem.W.exmOne K (.ref e2) (.ref e11) = some false)
    (kt2_11 : PySem.W.kitOne K (.ref e2) (.ref e11) = some false)
    (em2_12 : PySem.W.exmOne K (.ref e2) (.ref e12) = some false)
    (kt2_12 : PySem.W.kitOne K (.ref e2) (.ref e12) = some false)
    (em2_13 : PySem.W.exmOne K (.ref e2) (.ref e13) = some false)
    (kt2_13 : PySem.W.kitOne K (.ref e2) (.ref e13) = some false)
    (em2_14 : PySem.W.exmOne K (.ref e2) (.ref e14) = some false)
    (kt2_14 : PySem.W.kitOne K (.ref e2) (.ref e14) = some false)
    (em2_15 : PySem.W.exmOne K (.ref e2) (.ref e15) = some false)
    (kt2_15 : PySem.W.kitOne K (.ref e2) (.ref e15) = some false)
    (em2_16 : PySem.W.exmOne K (.ref e2) (.ref e16) = some false)
    (kt2_16 : PySem.W.kitOne K (.ref e2) (.ref e16) = some false)
    (em2_17 : PySem.W.exmOne K (.ref e2) (.ref e17) = some false)
    (kt2_17 : PySem.W.kitOne K (.ref e2) (.ref e17) = some false)
    (em2_18 : PySem.W.exmOne K (.ref e2) (.ref e18) = some false)
    (kt2_18 : PySem.W.kitOne K (.ref e2) (.ref e18) = some false)
    (xc7 : ExcC K e7)
    (ve7 : PySem.W.kitOne K (.ref e7) (.type "ValueError") = some true)
    (nf7 : PySem.W.findIn K (.ref e7) "name" = some none)
    (no7 : PySem.W.kitOne K (.type "NoneType") (.ref e7) = some false)
    (em7_0 : PySem.W.exmOne K (.ref e7) (.ref e0) = some true)
    (kt7_0 : PySem.W.kitOne K (.ref e7) (.ref e0) = some true)
    (em7_1 : PySem.W.exmOne K (.ref e7) (.ref e1) = some false)
    (kt7_1 : PySem.W.kitOne K (.ref e7) (.ref e1) = some false)
    (em7_2 : PySem.W.exmOne K (.ref e7) (.ref e2) = some false)
    (kt7_2 : PySem.W.kitOne K (.ref e7) (.ref e2) = some false)
    (em7_3 : PySem.W.exmOne K (.ref e7) (.ref e3) = some false)
    (kt7_3 : PySem.W.kitOne K (.ref e7) (.ref e3) = some false)
    (em7_4 : PySem.W.exmOne K (.ref e7) (.ref e4) = some false)
    (kt7_4 : PySem.W.kitOne K (.ref e7) (.ref e4) = some false)
    (em7_5 : PySem.W.exmOne K (.ref e7) (.ref e5) = some false)
    (kt7_5 : PySem.W.kitOne K (.ref e7) (.ref e5) = some false)
    (em7_6 : PySem.W.exmOne K (.ref e7) (.ref e6) = some false)
    (kt7_6 : PySem.W.kitOne K (.ref e7) (.ref e6) = some false)
    (em7_7 : PySem.W.exmOne K (.ref e7) (.ref e7) = some true)
    (kt7_7 : PySem.W.kitOne K (.ref e7) (.ref e7) = some true)
    (em7_8 : PySem.W.exmOne K (.ref e7) (.ref e8) = some false)
    (kt7_8 : PySem.W.kitOne K (.ref e7) (.ref e8) = some false)
    (em7_9 : PySem.W.exmOne K (.ref e7) (.ref e9) = some false)
    (kt7_9 : PySem.W.kitOne K (.ref e7) (.ref e9) = some false)
    (em7_10 : PySem.W.exmOne K (.ref e7) (.ref e10) = some false)
    (kt7_10 : PySem.W.kitOne K (.ref e7) (.ref e10) = some false)
    (em7_11 : PySem.W.exmOne K (.ref e7) (.ref e11) = some false)
    (kt7_11 : PySem.W.kitOne K (.ref e7) (.ref e11) = some false)
    (em7_12 : PySem.W.exmOne K (.ref e7) (.ref e12) = some false)
    (kt7_12 : PySem.W.kitOne K (.ref e7) (.ref e12) = some false)
    (em7_13 : PySem.W.exmOne K (.ref e7) (.ref e13) = some false)
    (kt7_13 : PySem.W.kitOne K (.ref e7) (.ref e13) = some false)
    (em7_14 : PySem.W.exmOne K (.ref e7) (.ref e14) = some false)
    (kt7_14 : PySem.W.kitOne K (.ref e7) (.ref e14) = some false)
    (em7_15 : PySem.W.exmOne K (.ref e7) (.ref e15) = some false)
    (kt7_15 : PySem.W.kitOne K (.ref e7) (.ref e15) = some false)
    (em7_16 : PySem.W.exmOne K (.ref e7) (.ref e16) = some false)
    (kt7_16 : PySem.W.kitOne K (.ref e7) (.ref e16) = some false)
    (em7_17 : PySem.W.exmOne K (.ref e7) (.ref e17) = some false)
    (kt7_17 : PySem.W.kitOne K (.ref e7) (.ref e17) = some false)
    (em7_18 : PySem.W.exmOne K (.ref e7) (.ref e18) = some false)
    (kt7_18 : PySem.W.kitOne K (.ref e7) (.ref e18) = some false)
    (xc12 : ExcC K e12)
    (ve12 : PySem.W.kitOne K (.ref e12) (.type "ValueError") = some true)
    (nf12 : PySem.W.findIn K (.ref e12) "name" = some none)
    (no12 : PySem.W.kitOne K (.type "NoneType") (.ref e12) = some false)
    (em12_0 : PySem.W.exmOne K (.ref e12) (.ref e0) = some true)
    (kt12_0 : PySem.W.kitOne K (.ref e12) (.ref e0) = some true)
    (em12_1 : PySem.W.exmOne K (.ref e12) (.ref e1) = some false)
    (kt12_1 : PySem.W.kitOne K (.ref e12) (.ref e1) = some false)
    (em12_2 : PySem.W.exmOne K (.ref e12) (.ref e2) = some false)
    (kt12_2 : PySem.W.kitOne K (.ref e12) (.ref e2) = some false)
    (em12_3 : PySem.W.exmOne K (.ref e12) (.ref e3) = some false)
    (kt12_3 : PySem.W.kitOne K (.ref e12) (.ref e3) = some false)
    (em12_4 : PySem.W.exmOne K (.ref e12) (.ref e4) = some false)
    (kt12_4 : PySem.W.kitOne K (.ref e12) (.ref e4) = some false)
    (em12_5 : PySem.W.exmOne K (.ref e12) (.ref e5) = some false)
    (kt12_5 : PySem.W.kitOne K (.ref e12) (.ref e5) = some false)
    (em12_6 : PySem.W.exmOne K (.ref e12) (.ref e6) = some false)
    (kt12_6 : PySem.W.kitOne K (.ref e12) (.ref e6) = some false)
    (em12_7 : PySem.W.exmOne K (.ref e12) (.ref e7) = some false)
    (kt12_7 : PySem.W.kitOne K (.ref e12) (.ref e7) = some false)
    (em12_8 : PySem.W.exmOne K (.ref e12) (.ref e8) = some false)
    (kt12_8 : PySem.W.kitOne K (.ref e12) (.ref e8) = some false)
    (em12_9 : PySem.W.exmOne K (.ref e12) (.ref e9) = some false)
    (kt12_9 : PySem.W.kitOne K (.ref e12) (.ref e9) = some false)
    (em12_10 : PySem.W.exmOne K (.ref e12) (.ref e10) = some false)
    (kt12_10 : PySem.W.kitOne K (.ref e12) (.ref e10) = some false)
    (em12_11 : PySem.W.exmOne K (.ref e12) (.ref e11) = some false)
    (kt12_11 : PySem.W.kitOne K (.ref e12) (.ref e11) = some false)
    (em12_12 : PySem.W.exmOne K (.ref e12) (.ref e12) = some true)
    (kt12_12 : PySem.W.kitOne K (.ref e12) (.ref e12) = some true)
    (em12_13 : PySem.W.exmOne K (.ref e12) (.ref e13) = some false)
    (kt12_13 : PySem.W.kitOne K (.ref e12) (.ref e13) = some false)
    (em12_14 : PySem.W.exmOne K (.ref e12) (.ref e14) = some false)
    (kt12_14 : PySem.W.kitOne K (.ref e12) (.ref e14) = some false)
    (em12_15 : PySem.W.exmOne K (.ref e12) (.ref e15) = some false)
    (kt12_15 : PySem.W.kitOne K (.ref e12) (.ref e15) = some false)
    (em12_16 : PySem.W.exmOne K (.ref e12) (.ref e16) = some false)
    (kt12_16 : PySem.W.kitOne K (.ref e12) (.ref e16) = some false)
    (em12_17 : PySem.W.exmOne K (.ref e12) (.ref e17) = some false)
    (kt12_17 : PySem.W.kitOne K (.ref e12) (.ref e17) = some false)
    (em12_18 : PySem.W.exmOne K (.ref e12) (.ref e18) = some false)
    (kt12_18 : PySem.W.kitOne K (.ref e12) (.ref e18) = some false)
    (z0 : PySem.W.nsIn K mainGlobals "len" = some none)
    (z1 : PySem.W.nsIn K mainGlobals "abs" = some none)
    (z2 : PySem.W.nsIn K mainGlobals "int" = some none)
    (z3 : PySem.W.nsIn K mainGlobals "str" = some none)
    (z4 : PySem.W.nsIn K mainGlobals "tuple" = some none)
    (z5 : PySem.W.nsIn K mainGlobals "list" = some none)
    (z6 : PySem.W.nsIn K mainGlobals "sum" = some none)
    (z7 : PySem.W.nsIn K mainGlobals "any" = some none)
    (z8 : PySem.W.nsIn K mainGlobals "all" = some none)
    (z9 : PySem.W.nsIn K mainGlobals "max" = some none)
    (z10 : PySem.W.nsIn K mainGlobals "min" = some none)
    (z11 : PySem.W.nsIn K mainGlobals "range" = some none)
    (z12 : PySem.W.nsIn K mainGlobals "enumerate" = some none)
    (z13 : PySem.W.nsIn K mainGlobals "zip" = some none)
    (z14 : PySem.W.nsIn K mainGlobals "reversed" = some none)
    (z15 : PySem.W.nsIn K mainGlobals "isinstance" = some none)
    (z16 : PySem.W.nsIn K mainGlobals "bool" = some none)
    (z17 : PySem.W.nsIn K mainGlobals "ValueError" = some none) :
    ∃ (CA : Nat → Option Addr) (fd : FuncData), (∀ (s : Shared) (u : Value), BindsTo s fd ⟨[u], []⟩ [("_law_script", u)]) ∧ ∀ base : Heap, K.In base → base.Ns mainGlobals mg → base.NoSeer → FnOk PySem.Challenge.pw_compasshall_k37_rows_changed w K mg base (L2.CX PySem.Challenge.pw_compasshall_k37_rows_changed w) (2 * 40 + 40) fa fd ["_law_script"] (spOf K CA (den wd (tab Ds) 40 5) 1) := by
  have ca0 : caOf K 0 = some e0 := caOf_of rfl ea0
  have ca1 : caOf K 1 = some e1 := caOf_of rfl ea1
  have ca2 : caOf K 2 = some e2 := caOf_of rfl ea2
  have ca3 : caOf K 3 = some e3 := caOf_of rfl ea3
  have ca4 : caOf K 4 = some e4 := caOf_of rfl ea4
  have ca5 : caOf K 5 = some e5 := caOf_of rfl ea5
  have ca6 : caOf K 6 = some e6 := caOf_of rfl ea6
  have ca7 : caOf K 7 = some e7 := caOf_of rfl ea7
  have ca8 : caOf K 8 = some e8 := caOf_of rfl ea8
  have ca9 : caOf K 9 = some e9 := caOf_of rfl ea9
  have ca10 : caOf K 22 = some e10 := caOf_of rfl ea10
  have ca11 : caOf K 23 = some e11 := caOf_of rfl ea11
  have ca12 : caOf K 24 = some e12 := caOf_of rfl ea12
  have ca13 : caOf K 25 = some e13 := caOf_of rfl ea13
  have ca14 : caOf K 10 = some e14 := caOf_of rfl ea14
  have ca15 : caOf K 11 = some e15 := caOf_of rfl ea15
  have ca16 : caOf K 12 = some e16 := caOf_of rfl ea16
  have ca17 : caOf K 13 = some e17 := caOf_of rfl ea17
  have ca18 : caOf K 14 = some e18 := caOf_of rfl ea18
  have cu0 : caOf K 15 = some u0 := caOf_of rfl oa0
  have cu1 : caOf K 16 = some u1 := caOf_of rfl oa1
  have cu2 : caOf K 17 = some u2 := caOf_of rfl oa2
  have cu3 : caOf K 18 = some u3 := caOf_of rfl oa3
  have cu4 : caOf K 19 = some u4 := caOf_of rfl oa4
  have cu5 : caOf K 20 = some u5 := caOf_of rfl oa5
  have cu6 : caOf K 21 = some u6 := caOf_of rfl oa6
  have D0 := df_mk (y := "common") X G "common" s_common ["a", "b"] a0 l0 c0 k0 fun _ _ _ _ _ _ us hl => match us, hl with | [_, _], _ => rfl
  have D1 := df_mk (y := "whole_of") X G "whole_of" s_whole_of ["word"] a1 l1 c1 k1 fun _ _ _ _ _ _ us hl => match us, hl with | [_], _ => rfl
  have D2 := df_mk (y := "fraction_read") X G "fraction_read" s_fraction_read ["text"] a2 l2 c2 k2 fun _ _ _ _ _ _ us hl => match us, hl with | [_], _ => rfl
  have D3 := df_mk (y := "fraction_text") X G "fraction_text" s_fraction_text ["x"] a3 l3 c3 k3 fun _ _ _ _ _ _ us hl => match us, hl with | [_], _ => rfl
  have D4 := df_mk (y := "is_name") X G "is_name" s_is_name ["word"] a4 l4 c4 k4 fun _ _ _ _ _ _ us hl => match us, hl with | [_], _ => rfl
  have D5 := df_mk (y := "read_point") X G "read_point" s_read_point ["words"] a5 l5 c5 k5 fun _ _ _ _ _ _ us hl => match us, hl with | [_], _ => rfl
  have D6 := df_mk (y := "read_span") X G "read_span" s_read_span ["words"] a6 l6 c6 k6 fun _ _ _ _ _ _ us hl => match us, hl with | [_], _ => rfl
  have D7 := df_mk (y := "all_names") X G "all_names" s_all_names ["words"] a7 l7 c7 k7 fun _ _ _ _ _ _ us hl => match us, hl with | [_], _ => rfl
  have D8 := df_mk (y := "short_row") X G "short_row" s_short_row ["words"] a8 l8 c8 k8 fun _ _ _ _ _ _ us hl => match us, hl with | [_], _ => rfl
  have D9 := df_mk (y := "long_row") X G "long_row" s_long_row ["words"] a9 l9 c9 k9 fun _ _ _ _ _ _ us hl => match us, hl with | [_], _ => rfl
  have D10 := df_mk (y := "step_of") X G "step_of" s_step_of ["thing"] a10 l10 c10 k10 fun _ _ _ _ _ _ us hl => match us, hl with | [_], _ => rfl
  have D11 := df_mk (y := "changed") X G "changed" s_changed ["rows", "at"] a11 l11 c11 k11 fun _ _ _ _ _ _ us hl => match us, hl with | [_, _], _ => rfl
  have D12 := df_mk (y := "_law_stir") X G "_law_stir" s__law_stir ["_law_cell_here", "_law_k"] a12 l12 c12 k12 fun _ _ _ _ _ _ us hl => match us, hl with | [_, _], _ => rfl
  have D13 := df_mk (y := "_law_cell") X G "_law_cell" s__law_cell ["_law_script", "_law_k"] a13 l13 c13 k13 fun _ _ _ _ _ _ us hl => match us, hl with | [_, _], _ => rfl
  have D14 := df_mk (y := "_law_which") X G "_law_which" s__law_which ["_law_e"] a14 l14 c14 k14 fun _ _ _ _ _ _ us hl => match us, hl with | [_], _ => rfl
  have D15 := df_mk (y := "_law_class") X G "_law_class" s__law_class ["_law_word"] a15 l15 c15 k15 fun _ _ _ _ _ _ us hl => match us, hl with | [_], _ => rfl
  have D16 := df_mk (y := "_law_row") X G "_law_row" s__law_row ["_law_cells"] a16 l16 c16 k16 fun _ _ _ _ _ _ us hl => match us, hl with | [_], _ => rfl
  have D17 := df_mk (y := "_law_asked") X G "_law_asked" s__law_asked ["_law_rows", "_law_at"] a17 l17 c17 k17 fun _ _ _ _ _ _ us hl => match us, hl with | [_, _], _ => rfl
  have D18 := df_mk (y := "_law_due") X G "_law_due" s__law_due ["_law_rows", "_law_at"] a18 l18 c18 k18 fun _ _ _ _ _ _ us hl => match us, hl with | [_, _], _ => rfl
  have D19 := df_mk (y := "law") X G "law" s_law ["_law_script"] a19 l19 c19 k19 fun _ _ _ _ _ _ us hl => match us, hl with | [_], _ => rfl
  obtain ⟨fd20, F20, B20⟩ := df_mkm "__init__" "Step.__init__" s_Step___init__ ["self", "name", "others"] l20 c20 k20 fun _ _ _ _ _ _ us hl => match us, hl with | [_, _, _], _ => rfl
  obtain ⟨fd21, F21, B21⟩ := df_mkm "named" "Step.named" s_Step_named ["self"] l21 c21 k21 fun _ _ _ _ _ _ us hl => match us, hl with | [_], _ => rfl
  obtain ⟨fd22, F22, B22⟩ := df_mkm "needs" "Step.needs" s_Step_needs ["self"] l22 c22 k22 fun _ _ _ _ _ _ us hl => match us, hl with | [_], _ => rfl
  obtain ⟨fd23, F23, B23⟩ := df_mkm "text" "Step.text" s_Step_text ["self"] l23 c23 k23 fun _ _ _ _ _ _ us hl => match us, hl with | [_], _ => rfl
  obtain ⟨fd24, F24, B24⟩ := df_mkm "word" "Step.word" s_Step_word ["self"] l24 c24 k24 fun _ _ _ _ _ _ us hl => match us, hl with | [_], _ => rfl
  obtain ⟨fd25, F25, B25⟩ := df_mkm "wants" "Step.wants" s_Step_wants ["self"] l25 c25 k25 fun _ _ _ _ _ _ us hl => match us, hl with | [_], _ => rfl
  obtain ⟨fd26, F26, B26⟩ := df_mkm "done" "Step.done" s_Step_done ["self", "roots", "things"] l26 c26 k26 fun _ _ _ _ _ _ us hl => match us, hl with | [_, _, _], _ => rfl
  obtain ⟨fd27, F27, B27⟩ := df_mkm "word" "LineThrough.word" s_LineThrough_word ["self"] l27 c27 k27 fun _ _ _ _ _ _ us hl => match us, hl with | [_], _ => rfl
  obtain ⟨fd28, F28, B28⟩ := df_mkm "done" "LineThrough.done" s_LineThrough_done ["self", "roots", "things"] l28 c28 k28 fun _ _ _ _ _ _ us hl => match us, hl with | [_, _, _], _ => rfl
  obtain ⟨fd29, F29, B29⟩ := df_mkm "__init__" "FirstPoint.__init__" s_FirstPoint___init__ ["self", "name", "x", "y"] l29 c29 k29 fun _ _ _ _ _ _ us hl => match us, hl with | [_, _, _, _], _ => rfl
  obtain ⟨fd30, F30, B30⟩ := df_mkm "text" "FirstPoint.text" s_FirstPoint_text ["self"] l30 c30 k30 fun _ _ _ _ _ _ us hl => match us, hl with | [_], _ => rfl
  obtain ⟨fd31, F31, B31⟩ := df_mkm "wants" "FirstPoint.wants" s_FirstPoint_wants ["self"] l31 c31 k31 fun _ _ _ _ _ _ us hl => match us, hl with | [_], _ => rfl
  obtain ⟨fd32, F32, B32⟩ := df_mkm "done" "FirstPoint.done" s_FirstPoint_done ["self", "roots", "things"] l32 c32 k32 fun _ _ _ _ _ _ us hl => match us, hl with | [_, _, _], _ => rfl
  obtain ⟨fd33, F33, B33⟩ := df_mkm "word" "RingThrough.word" s_RingThrough_word ["self"] l33 c33 k33 fun _ _ _ _ _ _ us hl => match us, hl with | [_], _ => rfl
  obtain ⟨fd34, F34, B34⟩ := df_mkm "done" "RingThrough.done" s_RingThrough_done ["self", "roots", "things"] l34 c34 k34 fun _ _ _ _ _ _ us hl => match us, hl with | [_, _, _], _ => rfl
  obtain ⟨fd35, F35, B35⟩ := df_mkm "__init__" "RingBy.__init__" s_RingBy___init__ ["self", "name", "others", "square"] l35 c35 k35 fun _ _ _ _ _ _ us hl => match us, hl with | [_, _, _, _], _ => rfl
  obtain ⟨fd36, F36, B36⟩ := df_mkm "text" "RingBy.text" s_RingBy_text ["self"] l36 c36 k36 fun _ _ _ _ _ _ us hl => match us, hl with | [_], _ => rfl
  obtain ⟨fd37, F37, B37⟩ := df_mkm "wants" "RingBy.wants" s_RingBy_wants ["self"] l37 c37 k37 fun _ _ _ _ _ _ us hl => match us, hl with | [_], _ => rfl
  obtain ⟨fd38, F38, B38⟩ := df_mkm "done" "RingBy.done" s_RingBy_done ["self", "roots", "things"] l38 c38 k38 fun _ _ _ _ _ _ us hl => match us, hl with | [_, _, _], _ => rfl
  obtain ⟨fd39, F39, B39⟩ := df_mkm "word" "Cross.word" s_Cross_word ["self"] l39 c39 k39 fun _ _ _ _ _ _ us hl => match us, hl with | [_], _ => rfl
  obtain ⟨fd40, F40, B40⟩ := df_mkm "wants" "Cross.wants" s_Cross_wants ["self"] l40 c40 k40 fun _ _ _ _ _ _ us hl => match us, hl with | [_], _ => rfl
  obtain ⟨fd41, F41, B41⟩ := df_mkm "done" "Cross.done" s_Cross_done ["self", "roots", "things"] l41 c41 k41 fun _ _ _ _ _ _ us hl => match us, hl with | [_, _, _], _ => rfl
  obtain ⟨fd42, F42, B42⟩ := df_mkm "__init__" "Meet.__init__" s_Meet___init__ ["self", "name", "others", "which"] l42 c42 k42 fun _ _ _ _ _ _ us hl => match us, hl with | [_, _, _, _], _ => rfl
  obtain ⟨fd43, F43, B43⟩ := df_mkm "text" "Meet.text" s_Meet_text ["self"] l43 c43 k43 fun _ _ _ _ _ _ us hl => match us, hl with | [_], _ => rfl
  obtain ⟨fd44, F44, B44⟩ := df_mkm "wants" "Meet.wants" s_Meet_wants ["self"] l44 c44 k44 fun _ _ _ _ _ _ us hl => match us, hl with | [_], _ => rfl
  obtain ⟨fd45, F45, B45⟩ := df_mkm "done" "Meet.done" s_Meet_done ["self", "roots", "things"] l45 c45 k45 fun _ _ _ _ _ _ us hl => match us, hl with | [_, _, _], _ => rfl
  refine ⟨caOf K, law_fn (C := Ctx) (Ds := Ds) (wd := wd) (d := d_law) (y := "law") 40 ⟨rfl, rfl, rfl, ?fns, ?nfs, ?hfs, ?fo, ?mt, ?mkk, ?ib, ?isn, ?oc, ?bl, ?gl, rfl, ?xs, ?cl, ?fl, ?dfd⟩ rfl (by decide) rfl hfa rfl rfl fun _ _ _ _ _ _ _ _ => .of_eq rfl⟩
  case fns =>
    intro f x hx
    have hm := alu_mem hx
    simp only [Ctx, List.mem_cons, Prod.mk.injEq, List.not_mem_nil, or_false] at hm
    rcases hm with ⟨rfl, rfl⟩ | ⟨rfl, rfl⟩ | ⟨rfl, rfl⟩ | ⟨rfl, rfl⟩ | ⟨rfl, rfl⟩ | ⟨rfl, rfl⟩ | ⟨rfl, rfl⟩ | ⟨rfl, rfl⟩ | ⟨rfl, rfl⟩ | ⟨rfl, rfl⟩ | ⟨rfl, rfl⟩ | ⟨rfl, rfl⟩ | ⟨rfl, rfl⟩ | ⟨rfl, rfl⟩ | ⟨rfl, rfl⟩ | ⟨rfl, rfl⟩ | ⟨rfl, rfl⟩ | ⟨rfl, rfl⟩ | ⟨rfl, rfl⟩ | ⟨rfl, rfl⟩
    · obtain ⟨fa2, fd2, h1, h2, h3⟩ := D0; exact ⟨d_common, fa2, fd2, rfl, ok_common, h1, h2, h3⟩
    · obtain ⟨fa2, fd2, h1, h2, h3⟩ := D1; exact ⟨d_whole_of, fa2, fd2, rfl, ok_whole_of, h1, h2, h3⟩
    · obtain ⟨fa2, fd2, h1, h2, h3⟩ := D2; exact ⟨d_fraction_read, fa2, fd2, rfl, ok_fraction_read, h1, h2, h3⟩
    · obtain ⟨fa2, fd2, h1, h2, h3⟩ := D3; exact ⟨d_fraction_text, fa2, fd2, rfl, ok_fraction_text, h1, h2, h3⟩
    · obtain ⟨fa2, fd2, h1, h2, h3⟩ := D4; exact ⟨d_is_name, fa2, fd2, rfl, ok_is_name, h1, h2, h3⟩
    · obtain ⟨fa2, fd2, h1, h2, h3⟩ := D5; exact ⟨d_read_point, fa2, fd2, rfl, ok_read_point, h1, h2, h3⟩
    · obtain ⟨fa2, fd2, h1, h2, h3⟩ := D6; exact ⟨d_read_span, fa2, fd2, rfl, ok_read_span, h1, h2, h3⟩
    · obtain ⟨fa2, fd2, h1, h2, h3⟩ := D7; exact ⟨d_all_names, fa2, fd2, rfl, ok_all_names, h1, h2, h3⟩
    · obtain ⟨fa2, fd2, h1, h2, h3⟩ := D8; exact ⟨d_short_row, fa2, fd2, rfl, ok_short_row, h1, h2, h3⟩
    · obtain ⟨fa2, fd2, h1, h2, h3⟩ := D9; exact ⟨d_long_row, fa2, fd2, rfl, ok_long_row, h1, h2, h3⟩
    · obtain ⟨fa2, fd2, h1, h2, h3⟩ := D10; exact ⟨d_step_of, fa2, fd2, rfl, ok_step_of, h1, h2, h3⟩
    · obtain ⟨fa2, fd2, h1, h2, h3⟩ := D11; exact ⟨d_changed, fa2, fd2, rfl, ok_changed, h1, h2, h3⟩
    · obtain ⟨fa2, fd2, h1, h2, h3⟩ := D12; exact ⟨d__law_stir, fa2, fd2, rfl, ok__law_stir, h1, h2, h3⟩
    · obtain ⟨fa2, fd2, h1, h2, h3⟩ := D13; exact ⟨d__law_cell, fa2, fd2, rfl, ok__law_cell, h1, h2, h3⟩
    · obtain ⟨fa2, fd2, h1, h2, h3⟩ := D14; exact ⟨d__law_which, fa2, fd2, rfl, ok__law_which, h1, h2, h3⟩
    · obtain ⟨fa2, fd2, h1, h2, h3⟩ := D15; exact ⟨d__law_class, fa2, fd2, rfl, ok__law_class, h1, h2, h3⟩
    · obtain ⟨fa2, fd2, h1, h2, h3⟩ := D16; exact ⟨d__law_row, fa2, fd2, rfl, ok__law_row, h1, h2, h3⟩
    · obtain ⟨fa2, fd2, h1, h2, h3⟩ := D17; exact ⟨d__law_asked, fa2, fd2, rfl, ok__law_asked, h1, h2, h3⟩
    · obtain ⟨fa2, fd2, h1, h2, h3⟩ := D18; exact ⟨d__law_due, fa2, fd2, rfl, ok__law_due, h1, h2, h3⟩
    · obtain ⟨fa2, fd2, h1, h2, h3⟩ := D19; exact ⟨d_law, fa2, fd2, rfl, ok_law, h1, h2, h3⟩
  case nfs =>
    intro f x hx
    have hm := alu_mem hx
    simp only [Ctx, List.mem_cons, Prod.mk.injEq, List.not_mem_nil, or_false] at hm
    rcases hm with ⟨rfl, rfl⟩ | ⟨rfl, rfl⟩ | ⟨rfl, rfl⟩
    · obtain ⟨fa2, fd2, h1, h2, h3⟩ := D0; exact ⟨d_common, fa2, fd2, rfl, okN_common, h1, h2, h3⟩
    · obtain ⟨fa2, fd2, h1, h2, h3⟩ := D1; exact ⟨d_whole_of, fa2, fd2, rfl, okN_whole_of, h1, h2, h3⟩
    · obtain ⟨fa2, fd2, h1, h2, h3⟩ := D2; exact ⟨d_fraction_read, fa2, fd2, rfl, okN_fraction_read, h1, h2, h3⟩
  case hfs =>
    intro f x hx
    have hm := alu_mem hx
    simp only [Ctx, List.mem_cons, Prod.mk.injEq, List.not_mem_nil, or_false] at hm
    rcases hm with ⟨rfl, rfl⟩
    · obtain ⟨fa2, fd2, h1, h2, h3⟩ := D14; exact ⟨d__law_which, fa2, fd2, rfl, okH__law_which, h1, h2, h3⟩
  case fo =>
    intro c f h
    obtain ⟨l, h3, h4⟩ := fokB_mem h
    simp only [fokT, List.mem_cons, Prod.mk.injEq, List.not_mem_nil, or_false] at h3
    rcases h3 with ⟨rfl, rfl⟩ | ⟨rfl, rfl⟩ | ⟨rfl, rfl⟩ | ⟨rfl, rfl⟩ | ⟨rfl, rfl⟩ | ⟨rfl, rfl⟩ | ⟨rfl, rfl⟩
    · simp only [List.mem_cons, List.not_mem_nil, or_false] at h4
      rcases h4 with rfl | rfl
      · exact ⟨u0, "name", cu0, rfl, uc0, uf0_0⟩
      · exact ⟨u0, "others", cu0, rfl, uc0, uf0_1⟩
    · simp only [List.mem_cons, List.not_mem_nil, or_false] at h4
      rcases h4 with rfl | rfl
      · exact ⟨u1, "name", cu1, rfl, uc1, uf1_0⟩
      · exact ⟨u1, "others", cu1, rfl, uc1, uf1_1⟩
    · simp only [List.mem_cons, List.not_mem_nil, or_false] at h4
      rcases h4 with rfl | rfl | rfl | rfl
      · exact ⟨u2, "name", cu2, rfl, uc2, uf2_0⟩
      · exact ⟨u2, "others", cu2, rfl, uc2, uf2_1⟩
      · exact ⟨u2, "across", cu2, rfl, uc2, uf2_2⟩
      · exact ⟨u2, "up", cu2, rfl, uc2, uf2_3⟩
    · simp only [List.mem_cons, List.not_mem_nil, or_false] at h4
      rcases h4 with rfl | rfl
      · exact ⟨u3, "name", cu3, rfl, uc3, uf3_0⟩
      · exact ⟨u3, "others", cu3, rfl, uc3, uf3_1⟩
    · simp only [List.mem_cons, List.not_mem_nil, or_false] at h4
      rcases h4 with rfl | rfl | rfl
      · exact ⟨u4, "name", cu4, rfl, uc4, uf4_0⟩
      · exact ⟨u4, "others", cu4, rfl, uc4, uf4_1⟩
      · exact ⟨u4, "square", cu4, rfl, uc4, uf4_4⟩
    · simp only [List.mem_cons, List.not_mem_nil, or_false] at h4
      rcases h4 with rfl | rfl
      · exact ⟨u5, "name", cu5, rfl, uc5, uf5_0⟩
      · exact ⟨u5, "others", cu5, rfl, uc5, uf5_1⟩
    · simp only [List.mem_cons, List.not_mem_nil, or_false] at h4
      rcases h4 with rfl | rfl | rfl
      · exact ⟨u6, "name", cu6, rfl, uc6, uf6_0⟩
      · exact ⟨u6, "others", cu6, rfl, uc6, uf6_1⟩
      · exact ⟨u6, "which", cu6, rfl, uc6, uf6_5⟩
  case mt =>
    intro c m g h
    obtain ⟨l, h1, h2⟩ := Option.bind_eq_some_iff.mp h
    have h3 := alu_mem h1
    have h4 := alu_mem h2
    simp only [mthT, List.mem_cons, Prod.mk.injEq, List.not_mem_nil, or_false] at h3
    rcases h3 with ⟨rfl, rfl⟩ | ⟨rfl, rfl⟩ | ⟨rfl, rfl⟩ | ⟨rfl, rfl⟩ | ⟨rfl, rfl⟩ | ⟨rfl, rfl⟩ | ⟨rfl, rfl⟩
    · simp only [List.mem_cons, Prod.mk.injEq, List.not_mem_nil, or_false] at h4
      rcases h4 with ⟨rfl, rfl⟩ | ⟨rfl, rfl⟩ | ⟨rfl, rfl⟩ | ⟨rfl, rfl⟩ | ⟨rfl, rfl⟩ | ⟨rfl, rfl⟩
      · exact ⟨u0, f21, fd21, d_Step_named, "named", cu0, rfl, uc0, ⟨m0_21, n21, k21⟩, rfl, ok_Step_named, F21, B21⟩
      · exact ⟨u0, f22, fd22, d_Step_needs, "needs", cu0, rfl, uc0, ⟨m0_22, n22, k22⟩, rfl, ok_Step_needs, F22, B22⟩
      · exact ⟨u0, f23, fd23, d_Step_text, "text", cu0, rfl, uc0, ⟨m0_23, n23, k23⟩, rfl, ok_Step_text, F23, B23⟩
      · exact ⟨u0, f24, fd24, d_Step_word, "word", cu0, rfl, uc0, ⟨m0_24, n24, k24⟩, rfl, ok_Step_word, F24, B24⟩
      · exact ⟨u0, f25, fd25, d_Step_wants, "wants", cu0, rfl, uc0, ⟨m0_25, n25, k25⟩, rfl, ok_Step_wants, F25, B25⟩
      · exact ⟨u0, f26, fd26, d_Step_done, "done", cu0, rfl, uc0, ⟨m0_26, n26, k26⟩, rfl, ok_Step_done, F26, B26⟩
    · simp only [List.mem_cons, Prod.mk.injEq, List.not_mem_nil, or_false] at h4
      rcases h4 with ⟨rfl, rfl⟩ | ⟨rfl, rfl⟩ | ⟨rfl, rfl⟩ | ⟨rfl, rfl⟩ | ⟨rfl, rfl⟩ | ⟨rfl, rfl⟩
      · exact ⟨u1, f21, fd21, d_Step_named, "named", cu1, rfl, uc1, ⟨m1_21, n21, k21⟩, rfl, ok_Step_named, F21, B21⟩
      · exact ⟨u1, f22, fd22, d_Step_needs, "needs", cu1, rfl, uc1, ⟨m1_22, n22, k22⟩, rfl, ok_Step_needs, F22, B22⟩
      · exact ⟨u1, f23, fd23, d_Step_text, "text", cu1, rfl, uc1, ⟨m1_23, n23, k23⟩, rfl, ok_Step_text, F23, B23⟩
      · exact ⟨u1, f27, fd27, d_LineThrough_word, "word", cu1, rfl, uc1, ⟨m1_27, n27, k27⟩, rfl, ok_LineThrough_word, F27, B27⟩
      · exact ⟨u1, f25, fd25, d_Step_wants, "wants", cu1, rfl, uc1, ⟨m1_25, n25, k25⟩, rfl, ok_Step_wants, F25, B25⟩
      · exact ⟨u1, f28, fd28, d_LineThrough_done, "done", cu1, rfl, uc1, ⟨m1_28, n28, k28⟩, rfl, ok_LineThrough_done, F28, B28⟩
    · simp only [List.mem_cons, Prod.mk.injEq, List.not_mem_nil, or_false] at h4
      rcases h4 with ⟨rfl, rfl⟩ | ⟨rfl, rfl⟩ | ⟨rfl, rfl⟩ | ⟨rfl, rfl⟩ | ⟨rfl, rfl⟩ | ⟨rfl, rfl⟩
      · exact ⟨u2, f21, fd21, d_Step_named, "named", cu2, rfl, uc2, ⟨m2_21, n21, k21⟩, rfl, ok_Step_named, F21, B21⟩
      · exact ⟨u2, f22, fd22, d_Step_needs, "needs", cu2, rfl, uc2, ⟨m2_22, n22, k22⟩, rfl, ok_Step_needs, F22, B22⟩
      · exact ⟨u2, f30, fd30, d_FirstPoint_text, "text", cu2, rfl, uc2, ⟨m2_30, n30, k30⟩, rfl, ok_FirstPoint_text, F30, B30⟩
      · exact ⟨u2, f24, fd24, d_Step_word, "word", cu2, rfl, uc2, ⟨m2_24, n24, k24⟩, rfl, ok_Step_word, F24, B24⟩
      · exact ⟨u2, f31, fd31, d_FirstPoint_wants, "wants", cu2, rfl, uc2, ⟨m2_31, n31, k31⟩, rfl, ok_FirstPoint_wants, F31, B31⟩
      · exact ⟨u2, f32, fd32, d_FirstPoint_done, "done", cu2, rfl, uc2, ⟨m2_32, n32, k32⟩, rfl, ok_FirstPoint_done, F32, B32⟩
    · simp only [List.mem_cons, Prod.mk.injEq, List.not_mem_nil, or_false] at h4
      rcases h4 with ⟨rfl, rfl⟩ | ⟨rfl, rfl⟩ | ⟨rfl, rfl⟩ | ⟨rfl, rfl⟩ | ⟨rfl, rfl⟩ | ⟨rfl, rfl⟩
      · exact ⟨u3, f21, fd21, d_Step_named, "named", cu3, rfl, uc3, ⟨m3_21, n21, k21⟩, rfl, ok_Step_named, F21, B21⟩
      · exact ⟨u3, f22, fd22, d_Step_needs, "needs", cu3, rfl, uc3, ⟨m3_22, n22, k22⟩, rfl, ok_Step_needs, F22, B22⟩
      · exact ⟨u3, f23, fd23, d_Step_text, "text", cu3, rfl, uc3, ⟨m3_23, n23, k23⟩, rfl, ok_Step_text, F23, B23⟩
      · exact ⟨u3, f33, fd33, d_RingThrough_word, "word", cu3, rfl, uc3, ⟨m3_33, n33, k33⟩, rfl, ok_RingThrough_word, F33, B33⟩
      · exact ⟨u3, f25, fd25, d_Step_wants, "wants", cu3, rfl, uc3, ⟨m3_25, n25, k25⟩, rfl, ok_Step_wants, F25, B25⟩
      · exact ⟨u3, f34, fd34, d_RingThrough_done, "done", cu3, rfl, uc3, ⟨m3_34, n34, k34⟩, rfl, ok_RingThrough_done, F34, B34⟩
    · simp only [List.mem_cons, Prod.mk.injEq, List.not_mem_nil, or_false] at h4
      rcases h4 with ⟨rfl, rfl⟩ | ⟨rfl, rfl⟩ | ⟨rfl, rfl⟩ | ⟨rfl, rfl⟩ | ⟨rfl, rfl⟩ | ⟨rfl, rfl⟩
      · exact ⟨u4, f21, fd21, d_Step_named, "named", cu4, rfl, uc4, ⟨m4_21, n21, k21⟩, rfl, ok_Step_named, F21, B21⟩
      · exact ⟨u4, f22, fd22, d_Step_needs, "needs", cu4, rfl, uc4, ⟨m4_22, n22, k22⟩, rfl, ok_Step_needs, F22, B22⟩
      · exact ⟨u4, f36, fd36, d_RingBy_text, "text", cu4, rfl, uc4, ⟨m4_36, n36, k36⟩, rfl, ok_RingBy_text, F36, B36⟩
      · exact ⟨u4, f24, fd24, d_Step_word, "word", cu4, rfl, uc4, ⟨m4_24, n24, k24⟩, rfl, ok_Step_word, F24, B24⟩
      · exact ⟨u4, f37, fd37, d_RingBy_wants, "wants", cu4, rfl, uc4, ⟨m4_37, n37, k37⟩, rfl, ok_RingBy_wants, F37, B37⟩
      · exact ⟨u4, f38, fd38, d_RingBy_done, "done", cu4, rfl, uc4, ⟨m4_38, n38, k38⟩, rfl, ok_RingBy_done, F38, B38⟩
    · simp only [List.mem_cons, Prod.mk.injEq, List.not_mem_nil, or_false] at h4
      rcases h4 with ⟨rfl, rfl⟩ | ⟨rfl, rfl⟩ | ⟨rfl, rfl⟩ | ⟨rfl, rfl⟩ | ⟨rfl, rfl⟩ | ⟨rfl, rfl⟩
      · exact ⟨u5, f21, fd21, d_Step_named, "named", cu5, rfl, uc5, ⟨m5_21, n21, k21⟩, rfl, ok_Step_named, F21, B21⟩
      · exact ⟨u5, f22, fd22, d_Step_needs, "needs", cu5, rfl, uc5, ⟨m5_22, n22, k22⟩, rfl, ok_Step_needs, F22, B22⟩
      · exact ⟨u5, f23, fd23, d_Step_text, "text", cu5, rfl, uc5, ⟨m5_23, n23, k23⟩, rfl, ok_Step_text, F23, B23⟩
      · exact ⟨u5, f39, fd39, d_Cross_word, "word", cu5, rfl, uc5, ⟨m5_39, n39, k39⟩, rfl, ok_Cross_word, F39, B39⟩
      · exact ⟨u5, f40, fd40, d_Cross_wants, "wants", cu5, rfl, uc5, ⟨m5_40, n40, k40⟩, rfl, ok_Cross_wants, F40, B40⟩
      · exact ⟨u5, f41, fd41, d_Cross_done, "done", cu5, rfl, uc5, ⟨m5_41, n41, k41⟩, rfl, ok_Cross_done, F41, B41⟩
    · simp only [List.mem_cons, Prod.mk.injEq, List.not_mem_nil, or_false] at h4
      rcases h4 with ⟨rfl, rfl⟩ | ⟨rfl, rfl⟩ | ⟨rfl, rfl⟩ | ⟨rfl, rfl⟩ | ⟨rfl, rfl⟩ | ⟨rfl, rfl⟩
      · exact ⟨u6, f21, fd21, d_Step_named, "named", cu6, rfl, uc6, ⟨m6_21, n21, k21⟩, rfl, ok_Step_named, F21, B21⟩
      · exact ⟨u6, f22, fd22, d_Step_needs, "needs", cu6, rfl, uc6, ⟨m6_22, n22, k22⟩, rfl, ok_Step_needs, F22, B22⟩
      · exact ⟨u6, f43, fd43, d_Meet_text, "text", cu6, rfl, uc6, ⟨m6_43, n43, k43⟩, rfl, ok_Meet_text, F43, B43⟩
      · exact ⟨u6, f24, fd24, d_Step_word, "word", cu6, rfl, uc6, ⟨m6_24, n24, k24⟩, rfl, ok_Step_word, F24, B24⟩
      · exact ⟨u6, f44, fd44, d_Meet_wants, "wants", cu6, rfl, uc6, ⟨m6_44, n44, k44⟩, rfl, ok_Meet_wants, F44, B44⟩
      · exact ⟨u6, f45, fd45, d_Meet_done, "done", cu6, rfl, uc6, ⟨m6_45, n45, k45⟩, rfl, ok_Meet_done, F45, B45⟩
  case mkk =>
    intro c g x h hx
    have h3 := alu_mem h
    have h4 := alu_mem hx
    simp only [iniT, List.mem_cons, Prod.mk.injEq, List.not_mem_nil, or_false] at h3
    rcases h3 with ⟨rfl, rfl⟩ | ⟨rfl, rfl⟩ | ⟨rfl, rfl⟩ | ⟨rfl, rfl⟩ | ⟨rfl, rfl⟩ | ⟨rfl, rfl⟩ | ⟨rfl, rfl⟩
    · have e : x = "Step" := by simpa [Ctx] using h4
      subst e
      exact ⟨u0, f20, fd20, d_Step___init__, cu0, PySem.W.mg_of X G oa0, ⟨um0, m0_20, n20, uk0⟩, rfl, ok_Step___init__, F20, B20⟩
    · have e : x = "LineThrough" := by simpa [Ctx] using h4
      subst e
      exact ⟨u1, f20, fd20, d_Step___init__, cu1, PySem.W.mg_of X G oa1, ⟨um1, m1_20, n20, uk1⟩, rfl, ok_Step___init__, F20, B20⟩
    · have e : x = "FirstPoint" := by simpa [Ctx] using h4
      subst e
      exact ⟨u2, f29, fd29, d_FirstPoint___init__, cu2, PySem.W.mg_of X G oa2, ⟨um2, m2_29, n29, uk2⟩, rfl, ok_FirstPoint___init__, F29, B29⟩
    · have e : x = "RingThrough" := by simpa [Ctx] using h4
      subst e
      exact ⟨u3, f20, fd20, d_Step___init__, cu3, PySem.W.mg_of X G oa3, ⟨um3, m3_20, n20, uk3⟩, rfl, ok_Step___init__, F20, B20⟩
    · have e : x = "RingBy" := by simpa [Ctx] using h4
      subst e
      exact ⟨u4, f35, fd35, d_RingBy___init__, cu4, PySem.W.mg_of X G oa4, ⟨um4, m4_35, n35, uk4⟩, rfl, ok_RingBy___init__, F35, B35⟩
    · have e : x = "Cross" := by simpa [Ctx] using h4
      subst e
      exact ⟨u5, f20, fd20, d_Step___init__, cu5, PySem.W.mg_of X G oa5, ⟨um5, m5_20, n20, uk5⟩, rfl, ok_Step___init__, F20, B20⟩
    · have e : x = "Meet" := by simpa [Ctx] using h4
      subst e
      exact ⟨u6, f42, fd42, d_Meet___init__, cu6, PySem.W.mg_of X G oa6, ⟨um6, m6_42, n42, uk6⟩, rfl, ok_Meet___init__, F42, B42⟩
  case ib =>
    intro c g x h hb hx
    have h3 := alu_mem h
    have h4 := alu_mem hx
    have hb2 : c = 15 := by simpa [Ctx] using hb
    rcases hb2 with rfl
    · have e : x = "Step" := by simpa [Ctx] using h4
      have e2 : g = 6000 := by simpa [iniT] using h3
      subst e e2
      exact ⟨u0, f20, fd20, d_Step___init__, cu0, PySem.W.mg_of X G oa0, ub0, rfl, ok_Step___init__, F20, B20⟩
  case isn =>
    intro c c2 b Cc Dc h h5 h6
    obtain ⟨l, h1, h2⟩ := Option.bind_eq_some_iff.mp h
    have h3 := alu_mem h1
    simp only [isnT, List.mem_cons, Prod.mk.injEq, List.not_mem_nil, or_false] at h3
    rcases h3 with ⟨rfl, rfl⟩ | ⟨rfl, rfl⟩ | ⟨rfl, rfl⟩ | ⟨rfl, rfl⟩ | ⟨rfl, rfl⟩ | ⟨rfl, rfl⟩ | ⟨rfl, rfl⟩
    all_goals cases h2
  case oc =>
    intro c x hx
    have hm := alu_mem hx
    simp only [Ctx, List.mem_cons, Prod.mk.injEq, List.not_mem_nil, or_false] at hm
    rcases hm with ⟨rfl, rfl⟩ | ⟨rfl, rfl⟩ | ⟨rfl, rfl⟩ | ⟨rfl, rfl⟩ | ⟨rfl, rfl⟩ | ⟨rfl, rfl⟩ | ⟨rfl, rfl⟩
    · exact ⟨u0, cu0, PySem.W.mg_of X G oa0⟩
    · exact ⟨u1, cu1, PySem.W.mg_of X G oa1⟩
    · exact ⟨u2, cu2, PySem.W.mg_of X G oa2⟩
    · exact ⟨u3, cu3, PySem.W.mg_of X G oa3⟩
    · exact ⟨u4, cu4, PySem.W.mg_of X G oa4⟩
    · exact ⟨u5, cu5, PySem.W.mg_of X G oa5⟩
    · exact ⟨u6, cu6, PySem.W.mg_of X G oa6⟩
  case bl =>
    intro x hx
    simp only [bltNames, List.mem_cons, List.not_mem_nil, or_false] at hx
    rcases hx with rfl | rfl | rfl | rfl | rfl | rfl | rfl | rfl | rfl | rfl | rfl | rfl | rfl | rfl | rfl | rfl | rfl | rfl
    · exact PySem.W.mg_none_of X G z0
    · exact PySem.W.mg_none_of X G z1
    · exact PySem.W.mg_none_of X G z2
    · exact PySem.W.mg_none_of X G z3
    · exact PySem.W.mg_none_of X G z4
    · exact PySem.W.mg_none_of X G z5
    · exact PySem.W.mg_none_of X G z6
    · exact PySem.W.mg_none_of X G z7
    · exact PySem.W.mg_none_of X G z8
    · exact PySem.W.mg_none_of X G z9
    · exact PySem.W.mg_none_of X G z10
    · exact PySem.W.mg_none_of X G z11
    · exact PySem.W.mg_none_of X G z12
    · exact PySem.W.mg_none_of X G z13
    · exact PySem.W.mg_none_of X G z14
    · exact PySem.W.mg_none_of X G z15
    · exact PySem.W.mg_none_of X G z16
    · exact PySem.W.mg_none_of X G z17
  case gl =>
    intro g x d hx hd
    have hm := alu_mem hx
    have hm2 := alu_mem hd
    simp only [Ctx, List.mem_cons, Prod.mk.injEq, List.not_mem_nil, or_false] at hm hm2
    rcases hm with ⟨rfl, rfl⟩ | ⟨rfl, rfl⟩ | ⟨rfl, rfl⟩
    · have hd2 : d = .str [48, 49, 50, 51, 52, 53, 54, 55, 56, 57] := by simpa using hm2
      subst hd2
      exact gl_str X G gg0 (by decide +kernel)
    · have hd2 : d = .int 60 := by simpa using hm2
      subst hd2
      exact gl_int X G gg1
    · have hd2 : d = .str [97, 98, 99, 100, 101, 102, 103, 104, 105, 106, 107, 108, 109, 110, 111, 112, 113, 114, 115, 116, 117, 118, 119, 120, 121, 122] := by simpa using hm2
      subst hd2
      exact gl_str X G gg2 (by decide +kernel)
  case xs =>
    have key : ∀ (c c2 : Nat) (b : Bool), wd.sub c c2 = some b → ∃ l, (c, l) ∈ subT ∧ (c2, b) ∈ l := by
      intro c c2 b h
      obtain ⟨l, h1, h2⟩ := Option.bind_eq_some_iff.mp h
      exact ⟨l, alu_mem h1, alu_mem h2⟩
    refine ⟨fun c c2 b D h hD => ?_, fun c c2 b D D2 h hD hD2 => ?_, fun c b D h hD => ?_, fun c b D h hD => ?_, fun c b D h hD => ?_⟩
    · obtain ⟨l, h3, hq⟩ := key c c2 b h
      simp only [subT, List.mem_cons, Prod.mk.injEq, List.not_mem_nil, or_false] at h3
      rcases h3 with ⟨rfl, rfl⟩ | ⟨rfl, rfl⟩ | ⟨rfl, rfl⟩
      · rw [ca2] at hD; cases hD; exact xc2
      · rw [ca7] at hD; cases hD; exact xc7
      · rw [ca12] at hD; cases hD; exact xc12
    · obtain ⟨l, h3, hq⟩ := key c c2 b h
      simp only [subT, List.mem_cons, Prod.mk.injEq, List.not_mem_nil, or_false] at h3
      rcases h3 with ⟨rfl, rfl⟩ | ⟨rfl, rfl⟩ | ⟨rfl, rfl⟩
      · rw [ca2] at hD; cases hD
        simp only [List.mem_cons, Prod.mk.injEq, List.not_mem_nil, or_false] at hq
        rcases hq with ⟨rfl, rfl⟩ | ⟨rfl, rfl⟩ | ⟨rfl, rfl⟩ | ⟨rfl, rfl⟩ | ⟨rfl, rfl⟩ | ⟨rfl, rfl⟩ | ⟨rfl, rfl⟩ | ⟨rfl, rfl⟩ | ⟨rfl, rfl⟩ | ⟨rfl, rfl⟩ | ⟨rfl, rfl⟩ | ⟨rfl, rfl⟩ | ⟨rfl, rfl⟩ | ⟨rfl, rfl⟩ | ⟨rfl, rfl⟩ | ⟨rfl, rfl⟩ | ⟨rfl, rfl⟩ | ⟨rfl, rfl⟩ | ⟨rfl, rfl⟩ | ⟨rfl, rfl⟩
        · rw [ca0] at hD2; cases hD2; exact ⟨em2_0, kt2_0⟩
        · rw [ca1] at hD2; cases hD2; exact ⟨em2_1, kt2_1⟩
        · rw [ca2] at hD2; cases hD2; exact ⟨em2_2, kt2_2⟩
        · rw [ca3] at hD2; cases hD2; exact ⟨em2_3, kt2_3⟩
        · rw [ca4] at hD2; cases hD2; exact ⟨em2_4, kt2_4⟩
        · rw [ca5] at hD2; cases hD2; exact ⟨em2_5, kt2_5⟩
        · rw [ca6] at hD2; cases hD2; exact ⟨em2_6, kt2_6⟩
        · rw [ca7] at hD2; cases hD2; exact ⟨em2_7, kt2_7⟩
        · rw [ca8] at hD2; cases hD2; exact ⟨em2_8, kt2_8⟩
        · rw [ca9] at hD2; cases hD2; exact ⟨em2_9, kt2_9⟩
        · rw [ca10] at hD2; cases hD2; exact ⟨em2_10, kt2_10⟩
        · rw [ca11] at hD2; cases hD2; exact ⟨em2_11, kt2_11⟩
        · rw [ca12] at hD2; cases hD2; exact ⟨em2_12, kt2_12⟩
        · rw [ca13] at hD2; cases hD2; exact ⟨em2_13, kt2_13⟩
        · rw [ca14] at hD2; cases hD2; exact ⟨em2_14, kt2_14⟩
        · rw [ca15] at hD2; cases hD2; exact ⟨em2_15, kt2_15⟩
        · rw [ca16] at hD2; cases hD2; exact ⟨em2_16, kt2_16⟩
        · rw [ca17] at hD2; cases hD2; exact ⟨em2_17, kt2_17⟩
        · rw [ca18] at hD2; cases hD2; exact ⟨em2_18, kt2_18⟩
        · cases hD2
      · rw [ca7] at hD; cases hD
        simp only [List.mem_cons, Prod.mk.injEq, List.not_mem_nil, or_false] at hq
        rcases hq with ⟨rfl, rfl⟩ | ⟨rfl, rfl⟩ | ⟨rfl, rfl⟩ | ⟨rfl, rfl⟩ | ⟨rfl, rfl⟩ | ⟨rfl, rfl⟩ | ⟨rfl, rfl⟩ | ⟨rfl, rfl⟩ | ⟨rfl, rfl⟩ | ⟨rfl, rfl⟩ | ⟨rfl, rfl⟩ | ⟨rfl, rfl⟩ | ⟨rfl, rfl⟩ | ⟨rfl, rfl⟩ | ⟨rfl, rfl⟩ | ⟨rfl, rfl⟩ | ⟨rfl, rfl⟩ | ⟨rfl, rfl⟩ | ⟨rfl, rfl⟩ | ⟨rfl, rfl⟩
        · rw [ca0] at hD2; cases hD2; exact ⟨em7_0, kt7_0⟩
        · rw [ca1] at hD2; cases hD2; exact ⟨em7_1, kt7_1⟩
        · rw [ca2] at hD2; cases hD2; exact ⟨em7_2, kt7_2⟩
        · rw [ca3] at hD2; cases hD2; exact ⟨em7_3, kt7_3⟩
        · rw [ca4] at hD2; cases hD2; exact ⟨em7_4, kt7_4⟩
        · rw [ca5] at hD2; cases hD2; exact ⟨em7_5, kt7_5⟩
        · rw [ca6] at hD2; cases hD2; exact ⟨em7_6, kt7_6⟩
        · rw [ca7] at hD2; cases hD2; exact ⟨em7_7, kt7_7⟩
        · rw [ca8] at hD2; cases hD2; exact ⟨em7_8, kt7_8⟩
        · rw [ca9] at hD2; cases hD2; exact ⟨em7_9, kt7_9⟩
        · rw [ca10] at hD2; cases hD2; exact ⟨em7_10, kt7_10⟩
        · rw [ca11] at hD2; cases hD2; exact ⟨em7_11, kt7_11⟩
        · rw [ca12] at hD2; cases hD2; exact ⟨em7_12, kt7_12⟩
        · rw [ca13] at hD2; cases hD2; exact ⟨em7_13, kt7_13⟩
        · rw [ca14] at hD2; cases hD2; exact ⟨em7_14, kt7_14⟩
        · rw [ca15] at hD2; cases hD2; exact ⟨em7_15, kt7_15⟩
        · rw [ca16] at hD2; cases hD2; exact ⟨em7_16, kt7_16⟩
        · rw [ca17] at hD2; cases hD2; exact ⟨em7_17, kt7_17⟩
        · rw [ca18] at hD2; cases hD2; exact ⟨em7_18, kt7_18⟩
        · cases hD2
      · rw [ca12] at hD; cases hD
        simp only [List.mem_cons, Prod.mk.injEq, List.not_mem_nil, or_false] at hq
        rcases hq with ⟨rfl, rfl⟩ | ⟨rfl, rfl⟩ | ⟨rfl, rfl⟩ | ⟨rfl, rfl⟩ | ⟨rfl, rfl⟩ | ⟨rfl, rfl⟩ | ⟨rfl, rfl⟩ | ⟨rfl, rfl⟩ | ⟨rfl, rfl⟩ | ⟨rfl, rfl⟩ | ⟨rfl, rfl⟩ | ⟨rfl, rfl⟩ | ⟨rfl, rfl⟩ | ⟨rfl, rfl⟩ | ⟨rfl, rfl⟩ | ⟨rfl, rfl⟩ | ⟨rfl, rfl⟩ | ⟨rfl, rfl⟩ | ⟨rfl, rfl⟩ | ⟨rfl, rfl⟩
        · rw [ca0] at hD2; cases hD2; exact ⟨em12_0, kt12_0⟩
        · rw [ca1] at hD2; cases hD2; exact ⟨em12_1, kt12_1⟩
        · rw [ca2] at hD2; cases hD2; exact ⟨em12_2, kt12_2⟩
        · rw [ca3] at hD2; cases hD2; exact ⟨em12_3, kt12_3⟩
        · rw [ca4] at hD2; cases hD2; exact ⟨em12_4, kt12_4⟩
        · rw [ca5] at hD2; cases hD2; exact ⟨em12_5, kt12_5⟩
        · rw [ca6] at hD2; cases hD2; exact ⟨em12_6, kt12_6⟩
        · rw [ca7] at hD2; cases hD2; exact ⟨em12_7, kt12_7⟩
        · rw [ca8] at hD2; cases hD2; exact ⟨em12_8, kt12_8⟩
        · rw [ca9] at hD2; cases hD2; exact ⟨em12_9, kt12_9⟩
        · rw [ca10] at hD2; cases hD2; exact ⟨em12_10, kt12_10⟩
        · rw [ca11] at hD2; cases hD2; exact ⟨em12_11, kt12_11⟩
        · rw [ca12] at hD2; cases hD2; exact ⟨em12_12, kt12_12⟩
        · rw [ca13] at hD2; cases hD2; exact ⟨em12_13, kt12_13⟩
        · rw [ca14] at hD2; cases hD2; exact ⟨em12_14, kt12_14⟩
        · rw [ca15] at hD2; cases hD2; exact ⟨em12_15, kt12_15⟩
        · rw [ca16] at hD2; cases hD2; exact ⟨em12_16, kt12_16⟩
        · rw [ca17] at hD2; cases hD2; exact ⟨em12_17, kt12_17⟩
        · rw [ca18] at hD2; cases hD2; exact ⟨em12_18, kt12_18⟩
        · cases hD2
    · obtain ⟨l, h3, hq⟩ := key c 1000 b h
      simp only [subT, List.mem_cons, Prod.mk.injEq, List.not_mem_nil, or_false] at h3
      rcases h3 with ⟨rfl, rfl⟩ | ⟨rfl, rfl⟩ | ⟨rfl, rfl⟩
      · rw [ca2] at hD; cases hD
        simp at hq; subst hq; exact ve2
      · rw [ca7] at hD; cases hD
        simp at hq; subst hq; exact ve7
      · rw [ca12] at hD; cases hD
        simp at hq; subst hq; exact ve12
    · obtain ⟨l, h3, hq⟩ := key c c b h
      simp only [subT, List.mem_cons, Prod.mk.injEq, List.not_mem_nil, or_false] at h3
      rcases h3 with ⟨rfl, rfl⟩ | ⟨rfl, rfl⟩ | ⟨rfl, rfl⟩
      · rw [ca2] at hD; cases hD; exact no2
      · rw [ca7] at hD; cases hD; exact no7
      · rw [ca12] at hD; cases hD; exact no12
    · obtain ⟨l, h3, hq⟩ := key c c b h
      simp only [subT, List.mem_cons, Prod.mk.injEq, List.not_mem_nil, or_false] at h3
      rcases h3 with ⟨rfl, rfl⟩ | ⟨rfl, rfl⟩ | ⟨rfl, rfl⟩
      · rw [ca2] at hD; cases hD; exact nf2
      · rw [ca7] at hD; cases hD; exact nf7
      · rw [ca12] at hD; cases hD; exact nf12
  case cl =>
    intro c x hx
    have hm := alu_mem hx
    simp only [Ctx, List.mem_cons, Prod.mk.injEq, List.not_mem_nil, or_false] at hm
    rcases hm with ⟨rfl, rfl⟩ | ⟨rfl, rfl⟩ | ⟨rfl, rfl⟩ | ⟨rfl, rfl⟩ | ⟨rfl, rfl⟩ | ⟨rfl, rfl⟩ | ⟨rfl, rfl⟩ | ⟨rfl, rfl⟩ | ⟨rfl, rfl⟩ | ⟨rfl, rfl⟩ | ⟨rfl, rfl⟩ | ⟨rfl, rfl⟩ | ⟨rfl, rfl⟩ | ⟨rfl, rfl⟩ | ⟨rfl, rfl⟩ | ⟨rfl, rfl⟩ | ⟨rfl, rfl⟩ | ⟨rfl, rfl⟩ | ⟨rfl, rfl⟩
    · exact ⟨e0, ca0, PySem.W.mg_of X G ea0, ek0, es0, et0, fun h => absurd h (by decide)⟩
    · exact ⟨e1, ca1, PySem.W.mg_of X G ea1, ek1, es1, et1, fun h => absurd h (by decide)⟩
    · exact ⟨e2, ca2, PySem.W.mg_of X G ea2, ek2, es2, et2, fun _ => ex2⟩
    · exact ⟨e3, ca3, PySem.W.mg_of X G ea3, ek3, es3, et3, fun h => absurd h (by decide)⟩
    · exact ⟨e4, ca4, PySem.W.mg_of X G ea4, ek4, es4, et4, fun h => absurd h (by decide)⟩
    · exact ⟨e5, ca5, PySem.W.mg_of X G ea5, ek5, es5, et5, fun h => absurd h (by decide)⟩
    · exact ⟨e6, ca6, PySem.W.mg_of X G ea6, ek6, es6, et6, fun h => absurd h (by decide)⟩
    · exact ⟨e7, ca7, PySem.W.mg_of X G ea7, ek7, es7, et7, fun _ => ex7⟩
    · exact ⟨e8, ca8, PySem.W.mg_of X G ea8, ek8, es8, et8, fun h => absurd h (by decide)⟩
    · exact ⟨e9, ca9, PySem.W.mg_of X G ea9, ek9, es9, et9, fun h => absurd h (by decide)⟩
    · exact ⟨e10, ca10, PySem.W.mg_of X G ea10, ek10, es10, et10, fun h => absurd h (by decide)⟩
    · exact ⟨e11, ca11, PySem.W.mg_of X G ea11, ek11, es11, et11, fun h => absurd h (by decide)⟩
    · exact ⟨e12, ca12, PySem.W.mg_of X G ea12, ek12, es12, et12, fun _ => ex12⟩
    · exact ⟨e13, ca13, PySem.W.mg_of X G ea13, ek13, es13, et13, fun h => absurd h (by decide)⟩
    · exact ⟨e14, ca14, PySem.W.mg_of X G ea14, ek14, es14, et14, fun h => absurd h (by decide)⟩
    · exact ⟨e15, ca15, PySem.W.mg_of X G ea15, ek15, es15, et15, fun h => absurd h (by decide)⟩
    · exact ⟨e16, ca16, PySem.W.mg_of X G ea16, ek16, es16, et16, fun h => absurd h (by decide)⟩
    · exact ⟨e17, ca17, PySem.W.mg_of X G ea17, ek17, es17, et17, fun h => absurd h (by decide)⟩
    · exact ⟨e18, ca18, PySem.W.mg_of X G ea18, ek18, es18, et18, fun h => absurd h (by decide)⟩
  case fl =>
    intro c hx
    exact absurd hx (by simp [Ctx])
  case dfd =>
    intro f i h
    cases h
theorem tab_eq : tab Ds = T := by
  funext f
  exact alu_map_eq Ds f
end Dp.K37
open PySem PySem.W PyProof.Rows
set_option maxHeartbeats 0 in
theorem PySem.Challenge.cw_compasshall_k37_rows_changed_holds : PySem.Challenge.rw_compasshall_k37_rows_changed.Holds := by
  w_on; o_law; k_head; (case hw => w_witness2)
  k_fill
  refine Dp.walkD (l := PySem.Challenge.rw_compasshall_k37_rows_changed) (n := 63) (k := 2 * 40 + 40) (x := "_law_script") (φ := Dp.den Dp.K37.wd (Dp.tab Dp.K37.Ds) 40 5) rfl (by decide) rfl ⟨rfl, by decide, by decide⟩ (by decide +kernel) (fun w h Y => PySem.W.kIn_of Y) ?nl ?F ?hφ
  case hφ =>
    intro ns hn hb
    rw [Dp.K37.tab_eq]
    exact Dp.K37.law_true ns hn hb
  case nl => intro w; kernel_rfl
  case F =>
    intro w mg fa h KX G hmg
    refine' Dp.K37.all_mk KX G hmg ?ea0 ?ek0 ?es0 ?et0 ?ea1 ?ek1 ?es1 ?et1 ?ea2 ?ek2 ?es2 ?et2 ?ex2 ?ea3 ?ek3 ?es3 ?et3 ?ea4 ?ek4 ?es4 ?et4 ?ea5 ?ek5 ?es5 ?et5 ?ea6 ?ek6 ?es6 ?et6 ?ea7 ?ek7 ?es7 ?et7 ?ex7 ?ea8 ?ek8 ?es8 ?et8 ?ea9 ?ek9 ?es9 ?et9 ?ea10 ?ek10 ?es10 ?et10 ?ea11 ?ek11 ?es11 ?et11 ?ea12 ?ek12 ?es12 ?et12 ?ex12 ?ea13 ?ek13 ?es13 ?et13 ?ea14 ?ek14 ?es14 ?et14 ?ea15 ?ek15 ?es15 ?et15 ?ea16 ?ek16 ?es16 ?et16 ?ea17 ?ek17 ?es17 ?et17 ?ea18 ?ek18 ?es18 ?et18 ?oa0 ?uk0 ?uc0 ?oa1 ?uk1 ?uc1 ?oa2 ?uk2 ?uc2 ?oa3 ?uk3 ?uc3 ?oa4 ?uk4 ?uc4 ?oa5 ?uk5 ?uc5 ?oa6 ?uk6 ?uc6 ?a0 ?l0 ?c0 ?k0 ?a1 ?l1 ?c1 ?k1 ?a2 ?l2 ?c2 ?k2 ?a3 ?l3 ?c3 ?k3 ?a4 ?l4 ?c4 ?k4 ?a5 ?l5 ?c5 ?k5 ?a6 ?l6 ?c6 ?k6 ?a7 ?l7 ?c7 ?k7 ?a8 ?l8 ?c8 ?k8 ?a9 ?l9 ?c9 ?k9 ?a10 ?l10 ?c10 ?k10 ?a11 ?l11 ?c11 ?k11 ?a12 ?l12 ?c12 ?k12 ?a13 ?l13 ?c13 ?k13 ?a14 ?l14 ?c14 ?k14 ?a15 ?l15 ?c15 ?k15 ?a16 ?l16 ?c16 ?k16 ?a17 ?l17 ?c17 ?k17 ?a18 ?l18 ?c18 ?k18 ?a19 ?l19 ?c19 ?k19 ?m0_20 ?l20 ?c20 ?k20 ?n20 ?m0_21 ?l21 ?c21 ?k21 ?n21 ?m0_22 ?l22 ?c22 ?k22 ?n22 ?m0_23 ?l23 ?c23 ?k23 ?n23 ?m0_24 ?l24 ?c24 ?k24 ?n24 ?m0_25 ?l25 ?c25 ?k25 ?n25 ?m0_26 ?l26 ?c26 ?k26 ?n26 ?m1_27 ?l27 ?c27 ?k27 ?n27 ?m1_28 ?l28 ?c28 ?k28 ?n28 ?m2_29 ?l29 ?c29 ?k29 ?n29 ?m2_30 ?l30 ?c30 ?k30 ?n30 ?m2_31 ?l31 ?c31 ?k31 ?n31 ?m2_32 ?l32 ?c32 ?k32 ?n32 ?m3_33 ?l33 ?c33 ?k33 ?n33 ?m3_34 ?l34 ?c34 ?k34 ?n34 ?m4_35 ?l35 ?c35 ?k35 ?n35 ?m4_36 ?l36 ?c36 ?k36 ?n36 ?m4_37 ?l37 ?c37 ?k37 ?n37 ?m4_38 ?l38 ?c38 ?k38 ?n38 ?m5_39 ?l39 ?c39 ?k39 ?n39 ?m5_40 ?l40 ?c40 ?k40 ?n40 ?m5_41 ?l41 ?c41 ?k41 ?n41 ?m6_42 ?l42 ?c42 ?k42 ?n42 ?m6_43 ?l43 ?c43 ?k43 ?n43 ?m6_44 ?l44 ?c44 ?k44 ?n44 ?m6_45 ?l45 ?c45 ?k45 ?n45 ?um0 ?uf0_0 ?uf0_1 ?ub0 ?m1_21 ?m1_22 ?m1_23 ?m1_25 ?m1_20 ?um1 ?uf1_0 ?uf1_1 ?m2_21 ?m2_22 ?m2_24 ?um2 ?uf2_0 ?uf2_1 ?uf2_2 ?uf2_3 ?m3_21 ?m3_22 ?m3_23 ?m3_25 ?m3_20 ?um3 ?uf3_0 ?uf3_1 ?m4_21 ?m4_22 ?m4_24 ?um4 ?uf4_0 ?uf4_1 ?uf4_4 ?m5_21 ?m5_22 ?m5_23 ?m5_20 ?um5 ?uf5_0 ?uf5_1 ?m6_21 ?m6_22 ?m6_24 ?um6 ?uf6_0 ?uf6_1 ?uf6_5 ?gg0 ?gg1 ?gg2 ?xc2 ?ve2 ?nf2 ?no2 ?em2_0 ?kt2_0 ?em2_1 ?kt2_1 ?em2_2 ?kt2_2 ?em2_3 ?kt2_3 ?em2_4 ?kt2_4 ?em2_5 ?kt2_5 ?em2_6 ?kt2_6 ?em2_7 ?kt2_7 ?em2_8 ?kt2_8 ?em2_9 ?kt2_9 ?em2_10 ?kt2_10 ?em2_11 ?kt2_11 ?em2_12 ?kt2_12 ?em2_13 ?kt2_13 ?em2_14 ?kt2_14 ?em2_15 ?kt2_15 ?em2_16 ?kt2_16 ?em2_17 ?kt2_17 ?em2_18 ?kt2_18 ?xc7 ?ve7 ?nf7 ?no7 ?em7_0 ?kt7_0 ?em7_1 ?kt7_1 ?em7_2 ?kt7_2 ?em7_3 ?kt7_3 ?em7_4 ?kt7_4 ?em7_5 ?kt7_5 ?em7_6 ?kt7_6 ?em7_7 ?kt7_7 ?em7_8 ?kt7_8 ?em7_9 ?kt7_9 ?em7_10 ?kt7_10 ?em7_11 ?kt7_11 ?em7_12 ?kt7_12 ?em7_13 ?kt7_13 ?em7_14 ?kt7_14 ?em7_15 ?kt7_15 ?em7_16 ?kt7_16 ?em7_17 ?kt7_17 ?em7_18 ?kt7_18 ?xc12 ?ve12 ?nf12 ?no12 ?em12_0 ?kt12_0 ?em12_1 ?kt12_1 ?em12_2 ?kt12_2 ?em12_3 ?kt12_3 ?em12_4 ?kt12_4 ?em12_5 ?kt12_5 ?em12_6 ?kt12_6 ?em12_7 ?kt12_7 ?em12_8 ?kt12_8 ?em12_9 ?kt12_9 ?em12_10 ?kt12_10 ?em12_11 ?kt12_11 ?em12_12 ?kt12_12 ?em12_13 ?kt12_13 ?em12_14 ?kt12_14 ?em12_15 ?kt12_15 ?em12_16 ?kt12_16 ?em12_17 ?kt12_17 ?em12_18 ?kt12_18 ?z0 ?z1 ?z2 ?z3 ?z4 ?z5 ?z6 ?z7 ?z8 ?z9 ?z10 ?z11 ?z12 ?z13 ?z14 ?z15 ?z16 ?z17
    (case ea0 => k_is); (case ek0 => k_is); (case es0 => k_is); (case et0 => k_is); (case ea1 => k_is); (case ek1 => k_is); (case es1 => k_is); (case et1 => k_is)
    (case ea2 => k_is); (case ek2 => k_is); (case es2 => k_is); (case et2 => k_is); (case ex2 => k_exc); (case ea3 => k_is); (case ek3 => k_is); (case es3 => k_is)
    (case et3 => k_is); (case ea4 => k_is); (case ek4 => k_is); (case es4 => k_is); (case et4 => k_is); (case ea5 => k_is); (case ek5 => k_is); (case es5 => k_is)
    (case et5 => k_is); (case ea6 => k_is); (case ek6 => k_is); (case es6 => k_is); (case et6 => k_is); (case ea7 => k_is); (case ek7 => k_is); (case es7 => k_is)
    (case et7 => k_is); (case ex7 => k_exc); (case ea8 => k_is); (case ek8 => k_is); (case es8 => k_is); (case et8 => k_is); (case ea9 => k_is); (case ek9 => k_is)
    (case es9 => k_is); (case et9 => k_is); (case ea10 => k_is); (case ek10 => k_is); (case es10 => k_is); (case et10 => k_is); (case ea11 => k_is); (case ek11 => k_is)
    (case es11 => k_is); (case et11 => k_is); (case ea12 => k_is); (case ek12 => k_is); (case es12 => k_is); (case et12 => k_is); (case ex12 => k_exc); (case ea13 => k_is)
    (case ek13 => k_is); (case es13 => k_is); (case et13 => k_is); (case ea14 => k_is); (case ek14 => k_is); (case es14 => k_is); (case et14 => k_is); (case ea15 => k_is)
    (case ek15 => k_is); (case es15 => k_is); (case et15 => k_is); (case ea16 => k_is); (case ek16 => k_is); (case es16 => k_is); (case et16 => k_is); (case ea17 => k_is)
    (case ek17 => k_is); (case es17 => k_is); (case et17 => k_is); (case ea18 => k_is); (case ek18 => k_is); (case es18 => k_is); (case et18 => k_is); (case oa0 => k_is)
    (case uk0 => k_is); (case uc0 => exact ⟨by k_is, by k_is, by k_is, by k_is⟩); (case oa1 => k_is); (case uk1 => k_is); (case uc1 => exact ⟨by k_is, by k_is, by k_is, by k_is⟩); (case oa2 => k_is); (case uk2 => k_is); (case uc2 => exact ⟨by k_is, by k_is, by k_is, by k_is⟩)
    (case oa3 => k_is); (case uk3 => k_is); (case uc3 => exact ⟨by k_is, by k_is, by k_is, by k_is⟩); (case oa4 => k_is); (case uk4 => k_is); (case uc4 => exact ⟨by k_is, by k_is, by k_is, by k_is⟩); (case oa5 => k_is); (case uk5 => k_is)
    (case uc5 => exact ⟨by k_is, by k_is, by k_is, by k_is⟩); (case oa6 => k_is); (case uk6 => k_is); (case uc6 => exact ⟨by k_is, by k_is, by k_is, by k_is⟩); (case a0 => k_is); (case l0 => k_is); (case c0 => k_is); (case k0 => k_is)
    (case a1 => k_is); (case l1 => k_is); (case c1 => k_is); (case k1 => k_is); (case a2 => k_is); (case l2 => k_is); (case c2 => k_is); (case k2 => k_is)
    (case a3 => k_is); (case l3 => k_is); (case c3 => k_is); (case k3 => k_is); (case a4 => k_is); (case l4 => k_is); (case c4 => k_is); (case k4 => k_is)
    (case a5 => k_is); (case l5 => k_is); (case c5 => k_is); (case k5 => k_is); (case a6 => k_is); (case l6 => k_is); (case c6 => k_is); (case k6 => k_is)
    (case a7 => k_is); (case l7 => k_is); (case c7 => k_is); (case k7 => k_is); (case a8 => k_is); (case l8 => k_is); (case c8 => k_is); (case k8 => k_is)
    (case a9 => k_is); (case l9 => k_is); (case c9 => k_is); (case k9 => k_is); (case a10 => k_is); (case l10 => k_is); (case c10 => k_is); (case k10 => k_is)
    (case a11 => k_is); (case l11 => k_is); (case c11 => k_is); (case k11 => k_is); (case a12 => k_is); (case l12 => k_is); (case c12 => k_is); (case k12 => k_is)
    (case a13 => k_is); (case l13 => k_is); (case c13 => k_is); (case k13 => k_is); (case a14 => k_is); (case l14 => k_is); (case c14 => k_is); (case k14 => k_is)
    (case a15 => k_is); (case l15 => k_is); (case c15 => k_is); (case k15 => k_is); (case a16 => k_is); (case l16 => k_is); (case c16 => k_is); (case k16 => k_is)
    (case a17 => k_is); (case l17 => k_is); (case c17 => k_is); (case k17 => k_is); (case a18 => k_is); (case l18 => k_is); (case c18 => k_is); (case k18 => k_is)
    (case a19 => k_is); (case l19 => k_is); (case c19 => k_is); (case k19 => k_is); (case m0_20 => k_is); (case l20 => k_is); (case c20 => k_is); (case k20 => k_is)
    (case n20 => k_is); (case m0_21 => k_is); (case l21 => k_is); (case c21 => k_is); (case k21 => k_is); (case n21 => k_is); (case m0_22 => k_is); (case l22 => k_is)
    (case c22 => k_is); (case k22 => k_is); (case n22 => k_is); (case m0_23 => k_is); (case l23 => k_is); (case c23 => k_is); (case k23 => k_is); (case n23 => k_is)
    (case m0_24 => k_is); (case l24 => k_is); (case c24 => k_is); (case k24 => k_is); (case n24 => k_is); (case m0_25 => k_is); (case l25 => k_is); (case c25 => k_is)
    (case k25 => k_is); (case n25 => k_is); (case m0_26 => k_is); (case l26 => k_is); (case c26 => k_is); (case k26 => k_is); (case n26 => k_is); (case m1_27 => k_is)
    (case l27 => k_is); (case c27 => k_is); (case k27 => k_is); (case n27 => k_is); (case m1_28 => k_is); (case l28 => k_is); (case c28 => k_is); (case k28 => k_is)
    (case n28 => k_is); (case m2_29 => k_is); (case l29 => k_is); (case c29 => k_is); (case k29 => k_is); (case n29 => k_is); (case m2_30 => k_is); (case l30 => k_is)
    (case c30 => k_is); (case k30 => k_is); (case n30 => k_is); (case m2_31 => k_is); (case l31 => k_is); (case c31 => k_is); (case k31 => k_is); (case n31 => k_is)
    (case m2_32 => k_is); (case l32 => k_is); (case c32 => k_is); (case k32 => k_is); (case n32 => k_is); (case m3_33 => k_is); (case l33 => k_is); (case c33 => k_is)
    (case k33 => k_is); (case n33 => k_is); (case m3_34 => k_is); (case l34 => k_is); (case c34 => k_is); (case k34 => k_is); (case n34 => k_is); (case m4_35 => k_is)
    (case l35 => k_is); (case c35 => k_is); (case k35 => k_is); (case n35 => k_is); (case m4_36 => k_is); (case l36 => k_is); (case c36 => k_is); (case k36 => k_is)
    (case n36 => k_is); (case m4_37 => k_is); (case l37 => k_is); (case c37 => k_is); (case k37 => k_is); (case n37 => k_is); (case m4_38 => k_is); (case l38 => k_is)
    (case c38 => k_is); (case k38 => k_is); (case n38 => k_is); (case m5_39 => k_is); (case l39 => k_is); (case c39 => k_is); (case k39 => k_is); (case n39 => k_is)
    (case m5_40 => k_is); (case l40 => k_is); (case c40 => k_is); (case k40 => k_is); (case n40 => k_is); (case m5_41 => k_is); (case l41 => k_is); (case c41 => k_is)
    (case k41 => k_is); (case n41 => k_is); (case m6_42 => k_is); (case l42 => k_is); (case c42 => k_is); (case k42 => k_is); (case n42 => k_is); (case m6_43 => k_is)
    (case l43 => k_is); (case c43 => k_is); (case k43 => k_is); (case n43 => k_is); (case m6_44 => k_is); (case l44 => k_is); (case c44 => k_is); (case k44 => k_is)
    (case n44 => k_is); (case m6_45 => k_is); (case l45 => k_is); (case c45 => k_is); (case k45 => k_is); (case n45 => k_is); (case um0 => k_is); (case uf0_0 => k_is)
    (case uf0_1 => k_is); (case ub0 => exact ⟨by k_is, by k_is, by k_is, by k_is⟩); (case m1_21 => k_is); (case m1_22 => k_is); (case m1_23 => k_is); (case m1_25 => k_is); (case m1_20 => k_is); (case um1 => k_is)
    (case uf1_0 => k_is); (case uf1_1 => k_is); (case m2_21 => k_is); (case m2_22 => k_is); (case m2_24 => k_is); (case um2 => k_is); (case uf2_0 => k_is); (case uf2_1 => k_is)
    (case uf2_2 => k_is); (case uf2_3 => k_is); (case m3_21 => k_is); (case m3_22 => k_is); (case m3_23 => k_is); (case m3_25 => k_is); (case m3_20 => k_is); (case um3 => k_is)
    (case uf3_0 => k_is); (case uf3_1 => k_is); (case m4_21 => k_is); (case m4_22 => k_is); (case m4_24 => k_is); (case um4 => k_is); (case uf4_0 => k_is); (case uf4_1 => k_is)
    (case uf4_4 => k_is); (case m5_21 => k_is); (case m5_22 => k_is); (case m5_23 => k_is); (case m5_20 => k_is); (case um5 => k_is); (case uf5_0 => k_is); (case uf5_1 => k_is)
    (case m6_21 => k_is); (case m6_22 => k_is); (case m6_24 => k_is); (case um6 => k_is); (case uf6_0 => k_is); (case uf6_1 => k_is); (case uf6_5 => k_is); (case gg0 => k_is)
    (case gg1 => k_is); (case gg2 => k_is); (case xc2 => exact ⟨by k_is, by k_is, by k_is, by k_is, by k_is, by k_is, by k_is, by k_is⟩); (case ve2 => kernel_rfl); (case nf2 => k_is); (case no2 => kernel_rfl); (case em2_0 => kernel_rfl); (case kt2_0 => kernel_rfl)
    (case em2_1 => kernel_rfl); (case kt2_1 => kernel_rfl); (case em2_2 => kernel_rfl); (case kt2_2 => kernel_rfl); (case em2_3 => kernel_rfl); (case kt2_3 => kernel_rfl); (case em2_4 => kernel_rfl); (case kt2_4 => kernel_rfl)
    (case em2_5 => kernel_rfl); (case kt2_5 => kernel_rfl); (case em2_6 => kernel_rfl); (case kt2_6 => kernel_rfl); (case em2_7 => kernel_rfl); (case kt2_7 => kernel_rfl); (case em2_8 => kernel_rfl); (case kt2_8 => kernel_rfl)
    (case em2_9 => kernel_rfl); (case kt2_9 => kernel_rfl); (case em2_10 => kernel_rfl); (case kt2_10 => kernel_rfl); (case em2_11 => kernel_rfl); (case kt2_11 => kernel_rfl); (case em2_12 => kernel_rfl); (case kt2_12 => kernel_rfl)
    (case em2_13 => kernel_rfl); (case kt2_13 => kernel_rfl); (case em2_14 => kernel_rfl); (case kt2_14 => kernel_rfl); (case em2_15 => kernel_rfl); (case kt2_15 => kernel_rfl); (case em2_16 => kernel_rfl); (case kt2_16 => kernel_rfl)
    (case em2_17 => kernel_rfl); (case kt2_17 => kernel_rfl); (case em2_18 => kernel_rfl); (case kt2_18 => kernel_rfl); (case xc7 => exact ⟨by k_is, by k_is, by k_is, by k_is, by k_is, by k_is, by k_is, by k_is⟩); (case ve7 => kernel_rfl); (case nf7 => k_is); (case no7 => kernel_rfl)
    (case em7_0 => kernel_rfl); (case kt7_0 => kernel_rfl); (case em7_1 => kernel_rfl); (case kt7_1 => kernel_rfl); (case em7_2 => kernel_rfl); (case kt7_2 => kernel_rfl); (case em7_3 => kernel_rfl); (case kt7_3 => kernel_rfl)
    (case em7_4 => kernel_rfl); (case kt7_4 => kernel_rfl); (case em7_5 => kernel_rfl); (case kt7_5 => kernel_rfl); (case em7_6 => kernel_rfl); (case kt7_6 => kernel_rfl); (case em7_7 => kernel_rfl); (case kt7_7 => kernel_rfl)
    (case em7_8 => kernel_rfl); (case kt7_8 => kernel_rfl); (case em7_9 => kernel_rfl); (case kt7_9 => kernel_rfl); (case em7_10 => kernel_rfl); (case kt7_10 => kernel_rfl); (case em7_11 => kernel_rfl); (case kt7_11 => kernel_rfl)
    (case em7_12 => kernel_rfl); (case kt7_12 => kernel_rfl); (case em7_13 => kernel_rfl); (case kt7_13 => kernel_rfl); (case em7_14 => kernel_rfl); (case kt7_14 => kernel_rfl); (case em7_15 => kernel_rfl); (case kt7_15 => kernel_rfl)
    (case em7_16 => kernel_rfl); (case kt7_16 => kernel_rfl); (case em7_17 => kernel_rfl); (case kt7_17 => kernel_rfl); (case em7_18 => kernel_rfl); (case kt7_18 => kernel_rfl); (case xc12 => exact ⟨by k_is, by k_is, by k_is, by k_is, by k_is, by k_is, by k_is, by k_is⟩); (case ve12 => kernel_rfl)
    (case nf12 => k_is); (case no12 => kernel_rfl); (case em12_0 => kernel_rfl); (case kt12_0 => kernel_rfl); (case em12_1 => kernel_rfl); (case kt12_1 => kernel_rfl); (case em12_2 => kernel_rfl); (case kt12_2 => kernel_rfl)
    (case em12_3 => kernel_rfl); (case kt12_3 => kernel_rfl); (case em12_4 => kernel_rfl); (case kt12_4 => kernel_rfl); (case em12_5 => kernel_rfl); (case kt12_5 => kernel_rfl); (case em12_6 => kernel_rfl); (case kt12_6 => kernel_rfl)
    (case em12_7 => kernel_rfl); (case kt12_7 => kernel_rfl); (case em12_8 => kernel_rfl); (case kt12_8 => kernel_rfl); (case em12_9 => kernel_rfl); (case kt12_9 => kernel_rfl); (case em12_10 => kernel_rfl); (case kt12_10 => kernel_rfl)
    (case em12_11 => kernel_rfl); (case kt12_11 => kernel_rfl); (case em12_12 => kernel_rfl); (case kt12_12 => kernel_rfl); (case em12_13 => kernel_rfl); (case kt12_13 => kernel_rfl); (case em12_14 => kernel_rfl); (case kt12_14 => kernel_rfl)
    (case em12_15 => kernel_rfl); (case kt12_15 => kernel_rfl); (case em12_16 => kernel_rfl); (case kt12_16 => kernel_rfl); (case em12_17 => kernel_rfl); (case kt12_17 => kernel_rfl); (case em12_18 => kernel_rfl); (case kt12_18 => kernel_rfl)
    (case z0 => k_is); (case z1 => k_is); (case z2 => k_is); (case z3 => k_is); (case z4 => k_is); (case z5 => k_is); (case z6 => k_is); (case z7 => k_is)
    (case z8 => k_is); (case z9 => k_is); (case z10 => k_is); (case z11 => k_is); (case z12 => k_is); (case z13 => k_is); (case z14 => k_is); (case z15 => k_is)
    (case z16 => k_is); (case z17 => k_is)

end

