import PyProof.Rows.All
import Wide.All
import OpenK.AllK
import Wide.FinOn
import HandS.ForMost
import HandS.ForExc
import HandS.Wide
import HandS.Deep
import HandS.TupAny
import KE.KxIndex
import HandS.Small
import HandS.Style
import HandS.Walk
import HandS.IsInst
import HandS.Zip
import HandS.Rev
import KE.GoesEnum
import KE.DataMinMax
import HandS.SortRule
import HandS.SortInts
import HandS.SortKw
import HandS.Star
import KE.KDictZip
import PyProof.ListNew
import HandS.OwnIter
import KE.KRevSl
import HandS.Conv
import HandS.ExcInit
import HandS.ExcField
import HandS.TryMany
import HandS.FStr
import HandS.Base
import HandS.Set
import PyProof.Rows.SetFrom
import KE.SortKeyHeap
import HandS.Iter
import HandS.ExcSuper
import KE.KExcSuper
import PySem.Challenge.RW_agewords_k44_whole_events_of_pieces
set_option Elab.async false
set_option linter.all false
set_option maxRecDepth 100000
set_option maxHeartbeats 4000000
set_option exponentiation.threshold 2000

/-! A small core language, its evaluator over plain data. -/
namespace Ag
/-! a proof by tactics of which only the term is kept (no info trees: they take the memory) -/
structure Hq9 (P : Prop) (h : P) : Prop where
theorem Hq9.get {P : Prop} {h : P} (_ : Hq9 P h) : P := h
structure Xq9 : Type where
theorem Xq9.bar {P : Prop} {h : P} (_ : Xq9) : Hq9 P h := ⟨⟩
theorem Rq9 {α : Type} {P : Prop} (f : α → P) (a : α) : P := f a
end Ag
namespace Ag
open PySem L2
inductive D where
  | non | bl (b : Bool) | int (i : Int) | str (s : Str)
  | tup (xs : List D) | lst (xs : List D) | rol (xs : List D)
  | obj (c : Nat) (fs : List (Nat × D))
  | cell (n : Nat)
/-- a mutable thing: a dict with int and text keys, an instance -/
inductive Cell where
  | dict (kvs : List (Key × D))
  | inst (c : Nat) (fs : List (Nat × D))
  | dictT (kvs : List (List Key × D))
inductive Slot where
  | un | val (d : D) | own (xs : List D)
structure Fr where
  env : List Slot
  sto : List Cell
inductive Out where
  | val (d : D) | fresh (xs : List D)
inductive RV where
  | out (o : Out) | var (i : Nat)
inductive Rs (α : Type) where
  | ok (a : α) (fr : Fr) | exc (c : Nat) (fs : List D) (fr : Fr) | bad
inductive Fx where
  | ret (o : Out) (s : List Cell) | exc (c : Nat) (fs : List D) (s : List Cell) | bad
inductive Sx where
  | next (fr : Fr) | ret (o : Out) (fr : Fr) | brk (fr : Fr) | cont (fr : Fr) | exc (c : Nat) (fs : List D) (fr : Fr) | bad
def Rs.bind {α β : Type} : Rs α → (α → Fr → Rs β) → Rs β
  | .ok a fr, k => k a fr
  | .exc c fs fr, _ => .exc c fs fr
  | .bad, _ => .bad
def Sx.seq : Sx → (Fr → Sx) → Sx
  | .next fr, k => k fr
  | x, _ => x
def Rs.toS {α : Type} : Rs α → (α → Fr → Sx) → Sx
  | .ok a fr, k => k a fr
  | .exc c fs fr, _ => .exc c fs fr
  | .bad, _ => .bad
inductive Op2 where | add | sub | mul | fdiv | mod | pow
inductive Cm where | eq | ne | lt | le | gt | ge | is_ | isn | in_ | nin
inductive Bi where | len | min2 | max2 | int_ | str_ | tuple_ | list_ | min1 | max1 | min1d | max1d | all_ | sorted_
/-- built-in types by name -/
inductive TyN where | tup | lst | int | bool | str
mutual
inductive Tm where
  | slot (i : Nat)
  | non | bl (b : Bool) | int (i : Int) | str (s : Str)
  | glob (g : Nat)
  | bin (op : Op2) (a b : Tm)
  | neg (a : Tm) | not_ (a : Tm)
  | and_ (a b : Tm) | or_ (a b : Tm)
  | cmp (op : Cm) (a b : Tm)
  | chain (op op' : Cm) (a b c : Tm)
  | ite (c a b : Tm)
  | call (f : Nat) (as : List Tm)
  | meth (m : Nat) (o : Tm) (as : List Tm)
  | make (c : Nat) (as : List Tm)
  | bi (b : Bi) (as : List Tm)
  | attr (o : Tm) (f : Nat)
  | ix (o i : Tm)
  | slice (o : Tm) (lo hi : Option Tm)
  | tup (as : List Tm)
  | lst (as : List Tm)
  | dict (kvs : List (Key × Tm))
  | comp (elt : Tm) (tg : Tg) (it : Iter) (cond : Option Tm) (own : List Nat)
  | pop (i : Nat)
  | ist (k : TyN) (a : Tm)
  | lstS (s : Tm) (as : List Tm)
  | tupS (s : Tm) (as : List Tm)
  | lzip (a b : Tm)
  | rsl (a : Tm)
  | lrange (a b : Tm)
  | lidx (o a : Tm)
  | fmt (a : Tm)
  | dict0
  | ixT (o : Tm) (as : List Tm)
  | join (as : List Tm)
  | sset (a : Tm)
  | srk (f : Nat) (a : Tm)
  | stuck
inductive Tg where
  | slot (i : Nat) | tup (ts : List Tg)
inductive Iter where
  | seq (t : Tm)
  | range1 (a : Tm) | range2 (a b : Tm) | range3 (a b c : Tm)
  | zip (a b : Tm) | enum (a : Tm) (start : Int) | rev (a : Tm)
end
/-- what an except clause builds of the exception's fields -/
inductive Hx where
  | non | bl (b : Bool) | int (i : Int) | str (s : Str) | fld (k : Nat) | tup (hs : List Hx)
inductive Hst where
  | ret (h : Hx) | retL (hs : List Hx) | asg (i : Nat) (h : Hx) | asgL (i : Nat) (hs : List Hx)
inductive Stm where
  | skip
  | stuck
  | expr (t : Tm)
  | asg (tg : Tg) (t : Tm)
  | par (is : List Nat) (ts : List Tm)
  | setk (o k : Tm) (v : Tm)
  | seti (i : Nat) (k : Tm) (v : Tm)
  | setT (o : Tm) (as : List Tm) (v : Tm)
  | seta (o : Tm) (f : Nat) (v : Tm)
  | aug (i : Nat) (op : Op2) (t : Tm)
  | append (i : Nat) (t : Tm)
  | extend (i : Nat) (t : Tm)
  | ite (c : Tm) (a b : List Stm)
  | whil (c : Tm) (b : List Stm)
  | for_ (tg : Tg) (it : Iter) (b : List Stm)
  | ret (t : Tm) | retN
  | brk | cont
  | rais (c : Nat) (as : List Tm)
  | tryx (b : List Stm) (hs : List (Nat × Option Nat × Hst))
/-! ### values -/
mutual
def toPy : D → Option PyData
  | .non => some .none
  | .bl b => some (.bool b)
  | .int i => some (.int i)
  | .str s => some (.str s)
  | .tup xs => (toPys xs).map PyData.tuple
  | .lst xs => (toPys xs).map PyData.list
  | .rol _ => none
  | .obj _ _ => none
  | .cell _ => none
def toPys : List D → Option (List PyData)
  | [] => some []
  | d :: ds => match toPy d, toPys ds with | some x, some xs => some (x :: xs) | _, _ => none
end
/-- scalars compared -/
def scalD : D → D → Option Bool
  | .int i, .int j => some (decide (i = j))
  | .str a, .str b => some (decide (a = b))
  | .bl a, .bl b => some (decide (a = b))
  | .non, .non => some true
  | .non, .int _ => some false
  | .int _, .non => some false
  | .non, .str _ => some false
  | .str _, .non => some false
  | .non, .bl _ => some false
  | .bl _, .non => some false
  | .int _, .str _ => some false
  | .str _, .int _ => some false
  | .bl _, .str _ => some false
  | .str _, .bl _ => some false
  | _, _ => none
def eqP (x y : D) : Option Bool :=
  match toPy x, toPy y with
  | some a, some b => if SeqAt.shaped a && SeqAt.shaped b then some (PyData.eqv a b) else none
  | _, _ => none
def eqD (x y : D) : Option Bool := match scalD x y with | some b => some b | none => eqP x y
def flatD : D → Bool
  | .non => true | .bl _ => true | .int _ => true | .str _ => true
  | _ => false
def sIn (x y : Str) : Bool := !(Builtin.Str.occurrences y x 0 y.length 1).isEmpty
def eqF : D → D → Bool
  | .non, .non => true
  | .bl a, .bl b => a == b
  | .bl a, .int b => (if a then 1 else 0) == b
  | .int a, .bl b => a == (if b then 1 else 0)
  | .int a, .int b => a == b
  | .str a, .str b => a == b
  | _, _ => false
def inF (x : D) (ys : List D) : Bool := ys.any fun y => eqF y x
/-- x in a list of data of any depth -/
def inP (x : D) (ys : List D) : Option Bool := match toPy x, toPys ys with
  | some a, some bs => if SeqAt.shaped a && SeqAt.shaped (.list bs) then some (bs.any fun z => PyData.eqv z a) else none
  | _, _ => none
/-- the first place in a list of data -/
def idxP (x : D) (ys : List D) : Option Nat := match toPy x, toPys ys with
  | some a, some bs => if SeqAt.shaped a && SeqAt.shaped (.list bs) then bs.findIdx? (fun z => PyData.eqv z a) else none
  | _, _ => none
def fmtD : D → Option Str
  | .str s => if s.length ≤ sizeLine then some s else none
  | .int i => if i.natAbs.log2 < 1920 then some (toString i) else none
  | _ => none
def mulOk (i j : Int) : Bool := decide (i.natAbs.log2 + j.natAbs.log2 < 1000000)
def divOk (j : Int) : Bool := decide (0 < j) && decide (j.natAbs.log2 < 9000)
def powOk (i j : Int) : Bool := decide (0 ≤ j) && decide (j ≤ 1000000) && decide (i.natAbs < 2 ^ 64)
/-- an operator by values -/
def opD : Op2 → D → D → Option Out
  | .add, .int i, .int j => some (.val (.int (i + j)))
  | .sub, .int i, .int j => some (.val (.int (i - j)))
  | .mul, .int i, .int j => if mulOk i j then some (.val (.int (i * j))) else none
  | .fdiv, .int i, .int j => if divOk j then some (.val (.int (i / j))) else none
  | .mod, .int i, .int j => if 0 < j then some (.val (.int (i % j))) else none
  | .pow, .int i, .int j => if powOk i j then some (.val (.int (i ^ j.toNat))) else none
  | .mul, .str x, .int k => if x.length ≤ 16 ∧ 0 ≤ k ∧ k ≤ 1048576 then some (.val (.str (PySem.Txt.mul x k))) else none
  | .mul, .lst xs, .int k => if xs.length * k.toNat ≤ sizeLine ∧ -(2 ^ 63) ≤ k ∧ k < 2 ^ 63 then some (.fresh (List.replicate k.toNat xs).flatten) else none
  | .add, .str x, .str y => if x.length + y.length ≤ sizeLine then some (.val (.str (x ++ y))) else none
  | .add, .lst xs, .lst ys => if xs.length + ys.length ≤ sizeLine then some (.fresh (xs ++ ys)) else none
  | .add, .tup xs, .tup ys => if xs.length + ys.length ≤ sizeLine then some (.val (.tup (xs ++ ys))) else none
  | _, _, _ => none
def isNon : D → Bool | .non => true | _ => false
def isBl (b : Bool) : D → Bool | .bl c => c == b | _ => false
def cmpD : Cm → D → D → Option Bool
  | .eq, x, y => eqD x y
  | .ne, x, y => (eqD x y).map (!·)
  | .lt, .int i, .int j => some (decide (i < j))
  | .le, .int i, .int j => some (decide (i ≤ j))
  | .gt, .int i, .int j => some (decide (j < i))
  | .ge, .int i, .int j => some (decide (j ≤ i))
  | .is_, x, .non => some (isNon x)
  | .isn, x, .non => some (!isNon x)
  | .is_, x, .bl b => some (isBl b x)
  | .isn, x, .bl b => some (!isBl b x)
  | .in_, .str x, .str y => some (sIn x y)
  | .nin, .str x, .str y => some (!sIn x y)
  | .in_, x, .tup ys => if flatD x && ys.all flatD then some (inF x ys) else none
  | .nin, x, .tup ys => if flatD x && ys.all flatD then some (!inF x ys) else none
  | .in_, x, .lst ys => if flatD x && ys.all flatD then some (inF x ys) else inP x ys
  | .nin, x, .lst ys => if flatD x && ys.all flatD then some (!inF x ys) else (inP x ys).map (!·)
  | _, _, _ => none
def intsD : List D → Option (List Int)
  | [] => some []
  | .int i :: ds => (intsD ds).map (i :: ·)
  | _ => none
def boolsD : List D → Option (List Bool)
  | [] => some []
  | .bl i :: ds => (boolsD ds).map (i :: ·)
  | _ => none
def seqOf : D → Option (List D)
  | .tup xs => some xs
  | .lst xs => some xs
  | _ => none
def minL : List Int → Int
  | [] => 0
  | i :: is => is.foldl (fun a b => if b < a then b else a) i
def maxL : List Int → Int
  | [] => 0
  | i :: is => is.foldl (fun a b => if b > a then b else a) i
def biLen : List D → Option Out
  | [.lst xs] => some (.val (.int xs.length))
  | [.tup xs] => some (.val (.int xs.length))
  | [.rol xs] => some (.val (.int xs.length))
  | [.str s] => if s.length ≤ sizeLine then some (.val (.int s.length)) else none
  | _ => none
def biMin2 : List D → Option Out
  | [.int i, .int j] => some (.val (.int (if j < i then j else i)))
  | _ => none
def biMax2 : List D → Option Out
  | [.int i, .int j] => some (.val (.int (if j > i then j else i)))
  | _ => none
def biInt : List D → Option Out
  | [.int i] => some (.val (.int i))
  | _ => none
def biStr : List D → Option Out
  | [.int i] => if i.natAbs.log2 < 1920 then some (.val (.str (toString i))) else none
  | [.str s] => some (.val (.str s))
  | _ => none
def biTuple : List D → Option Out
  | [.lst xs] => some (.val (.tup xs))
  | [.tup xs] => some (.val (.tup xs))
  | _ => none
def biList : List D → Option Out
  | [.lst xs] => some (.fresh xs)
  | [.tup xs] => some (.fresh xs)
  | _ => none
def biMin1 : List D → Option Out
  | [.lst xs] => match intsD xs with | some (i :: is) => some (.val (.int (minL (i :: is)))) | _ => none
  | _ => none
def biMax1 : List D → Option Out
  | [.lst xs] => match intsD xs with | some (i :: is) => some (.val (.int (maxL (i :: is)))) | _ => none
  | _ => none
def biMin1d : List D → Option Out
  | [.lst xs] => match intsD xs with | some (i :: is) => some (.val (.int (minL (i :: is)))) | some [] => some (.val .non) | _ => none
  | _ => none
def biMax1d : List D → Option Out
  | [.lst xs] => match intsD xs with | some (i :: is) => some (.val (.int (maxL (i :: is)))) | some [] => some (.val .non) | _ => none
  | _ => none
def biAll : List D → Option Out
  | [.lst xs] => match boolsD xs with | some bs => some (.val (.bl (bs.all id))) | none => none
  | _ => none
/-- pairs of ints, ints, sorted -/
def lexL (p q : Int × Int) : Bool := decide (p.1 < q.1) || (decide (p.1 = q.1) && decide (p.2 < q.2))
def insP (p : Int × Int) : List (Int × Int) → List (Int × Int)
  | [] => [p]
  | q :: r => if lexL q p then q :: insP p r else p :: q :: r
def sortP (ps : List (Int × Int)) : List (Int × Int) := ps.foldr insP []
def insI (p : Int) : List Int → List Int
  | [] => [p]
  | q :: r => if q < p then q :: insI p r else p :: q :: r
def sortI (ps : List Int) : List Int := ps.foldr insI []
/-- ints without doubles, ascending -/
def insU (x : Int) : List Int → List Int
  | [] => [x]
  | y :: r => if x < y then x :: y :: r else if x = y then y :: r else y :: insU x r
def ssI : List Int → List Int
  | [] => []
  | x :: l => insU x (ssI l)
def pairD (p : Int × Int) : D := .tup [.int p.1, .int p.2]
def pairsD : List D → Option (List (Int × Int))
  | [] => some []
  | .tup [.int i, .int j] :: ds => (pairsD ds).map ((i, j) :: ·)
  | _ => none
def biSorted : List D → Option Out
  | [.lst xs] => match intsD xs with
    | some ns => some (.fresh ((sortI ns).map .int))
    | none => match pairsD xs with | some ps => some (.fresh ((sortP ps).map pairD)) | none => none
  | _ => none
def biD : Bi → List D → Option Out
  | .len => biLen | .min2 => biMin2 | .max2 => biMax2 | .int_ => biInt | .str_ => biStr | .tuple_ => biTuple | .list_ => biList
  | .min1 => biMin1 | .max1 => biMax1 | .min1d => biMin1d | .max1d => biMax1d | .all_ => biAll | .sorted_ => biSorted
def dget {κ : Type} [DecidableEq κ] (kvs : List (κ × D)) (k : κ) : Option D := (kvs.find? fun kv => decide (kv.1 = k)).map (·.2)
def keyOf : D → Option Key
  | .int i => some (.inl i)
  | .str s => some (.inr s)
  | _ => none
def keysOf : List D → Option (List Key)
  | [] => some []
  | d :: ds => match keyOf d, keysOf ds with | some k, some ks => some (k :: ks) | _, _ => none
def ixD (sto : List Cell) : D → D → Option D
  | .lst xs, .int i => atI xs i
  | .tup xs, .int i => atI xs i
  | .str s, .int i => if s.length ≤ sizeLine then (atI s.cps.toList i).map (fun c => .str ⟨#[c]⟩) else none
  | .cell n, k => match sto[n]?, keyOf k with | some (.dict kvs), some k => dget kvs k | _, _ => none
  | _, _ => none
def fget (fs : List (Nat × D)) (f : Nat) : Option D := fs.lookup f
def fput (f : Nat) (d : D) : List (Nat × D) → List (Nat × D)
  | [] => [(f, d)]
  | (g, e) :: r => if g = f then (f, d) :: r else (g, e) :: fput f d r
def kput {κ : Type} [DecidableEq κ] (kvs : List (κ × D)) (k : κ) (d : D) : List (κ × D) :=
  if (kvs.any fun kv => decide (kv.1 = k)) = true then kvs.map (fun kv => if kv.1 = k then (kv.1, d) else kv) else kvs ++ [(k, d)]
def kmerge (kvs more : List (Key × D)) : List (Key × D) := more.foldl (fun acc kv => kput acc kv.1 kv.2) kvs
/-- an instance: its class, its fields -/
def insD (sto : List Cell) : D → Option (Nat × List (Nat × D))
  | .obj c fs => some (c, fs)
  | .cell n => match sto[n]? with | some (.inst c fs) => some (c, fs) | _ => none
  | _ => none
def cutL {α : Type} (xs : List α) (lo hi : Option Int) : List α :=
  (xs.drop (HT.sIx xs.length 0 lo)).take (HT.sIx xs.length xs.length hi - HT.sIx xs.length 0 lo)
/-- isinstance of a built-in type -/
def istD : TyN → D → Option Bool
  | .tup, .tup _ => some true
  | .lst, .lst _ => some true
  | .lst, .rol _ => some true
  | .int, .int _ => some true
  | .int, .bl _ => some true
  | .bool, .bl _ => some true
  | .str, .str _ => some true
  | .tup, .lst _ => some false
  | .tup, .int _ => some false
  | .tup, .bl _ => some false
  | .tup, .str _ => some false
  | .tup, .non => some false
  | .lst, .tup _ => some false
  | .lst, .int _ => some false
  | .lst, .bl _ => some false
  | .lst, .str _ => some false
  | .lst, .non => some false
  | .int, .tup _ => some false
  | .int, .lst _ => some false
  | .int, .str _ => some false
  | .int, .non => some false
  | .bool, .int _ => some false
  | .bool, .str _ => some false
  | .bool, .tup _ => some false
  | .bool, .lst _ => some false
  | .bool, .non => some false
  | .str, .int _ => some false
  | .str, .bl _ => some false
  | .str, .tup _ => some false
  | .str, .lst _ => some false
  | .str, .non => some false
  | _, _ => none
/-! ### slots -/
def look (env : List Slot) : RV → Option D
  | .out (.val d) => some d
  | .out (.fresh xs) => some (.lst xs)
  | .var i => match env[i]? with | some (.own xs) => some (.lst xs) | some (.val d) => some d | _ => none
def hold : RV → RV
  | .out (.fresh xs) => .out (.val (.lst xs))
  | r => r
/-- a value as a part of something else: a list is no more changed then -/
def toD (fr : Fr) : RV → Option (D × Fr)
  | .out (.val d) => some (d, fr)
  | .out (.fresh xs) => some (.lst xs, fr)
  | .var i => match fr.env[i]? with
    | some (.own xs) => some (.lst xs, { fr with env := fr.env.set i (.val (.lst xs)) })
    | some (.val d) => some (d, fr)
    | _ => none
def Rs.fr {α : Type} (r : Rs RV) (k : D → Fr → Rs α) : Rs α :=
  r.bind fun v fr => match toD fr v with | some (d, fr') => k d fr' | none => .bad
def ofFx (fr : Fr) : Fx → Rs RV
  | .ret o s => .ok (.out o) { fr with sto := s }
  | .exc c fs s => .exc c fs { fr with sto := s }
  | .bad => .bad
mutual
def bindT : Tg → D → Fr → Option Fr
  | .slot i, d, fr => some { fr with env := fr.env.set i (.val d) }
  | .tup ts, .tup ds, fr => bindTs ts ds fr
  | .tup ts, .lst ds, fr => bindTs ts ds fr
  | .tup _, _, _ => none
def bindTs : List Tg → List D → Fr → Option Fr
  | [], [], fr => some fr
  | t :: ts, d :: ds, fr => match bindT t d fr with | some fr' => bindTs ts ds fr' | none => none
  | _, _, _ => none
end
mutual
/-- the slots that a target stores -/
def tgIx : Tg → List Nat
  | .slot i => [i]
  | .tup ts => tgIxs ts
def tgIxs : List Tg → List Nat
  | [] => []
  | t :: ts => tgIx t ++ tgIxs ts
end
def wipeE (env : List Slot) : List Nat → List Slot
  | [] => env
  | v :: vs => (wipeE env vs).set v .un
/-- the slots at own as they were before -/
def backE (old : List Slot) (env : List Slot) : List Nat → List Slot
  | [] => env
  | v :: vs => (backE old env vs).set v (old.getD v .un)
def rangeD (lo : Int) (n : Nat) : List D := (List.range n).map fun (i : Nat) => D.int (lo + (i : Int))
def range3D (lo c : Int) (n : Nat) : List D := (List.range n).map fun (i : Nat) => D.int (lo + (i : Int) * c)
def zipD : List D → List D → List D
  | x :: xs, y :: ys => .tup [x, y] :: zipD xs ys
  | _, _ => []
def enumD : Int → List D → List D
  | _, [] => []
  | i, x :: xs => .tup [.int i, x] :: enumD (i + 1) xs
/-- nothing is raised within a comprehension -/
def Rs.calm {α : Type} : Rs α → Rs α
  | .exc _ _ _ => .bad
  | r => r
/-- no list stands in the slots vs -/
def ownFree (env : List Slot) (vs : List Nat) : Bool := vs.all fun v => match env[v]? with | some (.own _) => false | _ => true
/-- the turns of a comprehension, its list in the slot n behind the others -/
def compGo (n : Nat) (tg : D → Fr → Option Fr) (own : List Nat) (c : Fr → Rs Bool) (f : Fr → Rs D) : List D → Fr → Rs Unit
  | [], fr => .ok () fr
  | x :: xs, fr => match tg x { fr with env := wipeE fr.env own } with
    | none => .bad
    | some fr1 => (c fr1).calm.bind fun b fr2 =>
      if b then (f fr2).calm.bind fun d fr3 => match fr3.env[n]? with
        | some (.own acc) => if acc.length < sizeLine then compGo n tg own c f xs { fr3 with env := fr3.env.set n (.own (acc ++ [d])) } else .bad
        | _ => .bad
      else compGo n tg own c f xs fr2
def forGo (tg : D → Fr → Option Fr) (b : Fr → Sx) : List D → Fr → Sx
  | [], fr => .next fr
  | x :: xs, fr => match tg x fr with
    | none => .bad
    | some fr1 => match b fr1 with
      | .next fr2 => forGo tg b xs fr2
      | .cont fr2 => forGo tg b xs fr2
      | .brk fr2 => .next fr2
      | r => r
def whilN (c : Fr → Rs Bool) (b : Fr → Sx) : Nat → Fr → Sx
  | 0, _ => .bad
  | n + 1, fr => (c fr).toS fun t fr1 => if t then (match b fr1 with
      | .next fr2 => whilN c b n fr2
      | .cont fr2 => whilN c b n fr2
      | .brk fr2 => .next fr2
      | r => r) else .next fr1
noncomputable def whilGo (c : Fr → Rs Bool) (b : Fr → Sx) (fr : Fr) : Sx :=
  open Classical in if h : ∃ n, whilN c b n fr ≠ .bad then whilN c b (Classical.choose h) fr else .bad
abbrev Fn := List D → List Cell → Fx
/-- the key of an item: a flag and an int -/
def keyBI : Fx → Option (Bool × Int)
  | .ret (.val (.tup [.bl b, .int i])) [] => some (b, i)
  | _ => none
def keysBI (phi : Fn) : List D → Option (List (Bool × Int))
  | [] => some []
  | d :: ds => match keyBI (phi [d] []), keysBI phi ds with | some k, some ks => some (k :: ks) | _, _ => none
def leBI (p q : Bool × Int) : Bool := (!p.1 && q.1) || (p.1 == q.1 && decide (p.2 ≤ q.2))
def sortBI (xs : List D) (ks : List (Bool × Int)) : List D := ((xs.zip ks).mergeSort fun p q => leBI p.2 q.2).map (·.1)
def pairOk : D → Bool
  | .tup ds => ds.all flatD
  | _ => false
/-- field c f: instances of the class c have f as an own attribute or not at all -/
structure Tab where
  phi : Nat → Fn
  fld : Nat → Nat → Bool
  psi : Nat → Nat → Option Nat
  glob : Nat → Option D
  sub : Nat → Nat → Option Bool
def asB {α : Type} (d : D) (fr : Fr) (k : Bool → Fr → Rs α) : Rs α := match d with | .bl b => k b fr | _ => .bad
mutual
def ev (T : Tab) : Tm → Fr → Rs RV
  | .slot i, fr => match fr.env[i]? with
    | some (.val d) => .ok (.out (.val d)) fr
    | some (.own _) => .ok (.var i) fr
    | _ => .bad
  | .non, fr => .ok (.out (.val .non)) fr
  | .bl b, fr => .ok (.out (.val (.bl b))) fr
  | .int i, fr => .ok (.out (.val (.int i))) fr
  | .str s, fr => .ok (.out (.val (.str s))) fr
  | .glob g, fr => match T.glob g with | some d => .ok (.out (.val d)) fr | none => .bad
  | .bin op a b, fr => (ev T a fr).bind fun x fr1 => (ev T b fr1).bind fun y fr2 =>
    match look fr2.env (hold x), look fr2.env (hold y) with
    | some d, some e => match opD op d e with | some o => .ok (.out o) fr2 | none => .bad
    | _, _ => .bad
  | .neg a, fr => (ev T a fr).fr fun d fr1 => match d with | .int i => .ok (.out (.val (.int (-i)))) fr1 | _ => .bad
  | .not_ a, fr => (ev T a fr).fr fun d fr1 => asB d fr1 fun b fr2 => .ok (.out (.val (.bl (!b)))) fr2
  | .and_ a b, fr => (ev T a fr).fr fun d fr1 => asB d fr1 fun c fr2 => if c then ev T b fr2 else .ok (.out (.val (.bl false))) fr2
  | .or_ a b, fr => (ev T a fr).fr fun d fr1 => asB d fr1 fun c fr2 => if c then .ok (.out (.val (.bl true))) fr2 else ev T b fr2
  | .cmp op a b, fr => (ev T a fr).bind fun x fr1 => (ev T b fr1).bind fun y fr2 =>
    match look fr2.env (hold x), look fr2.env (hold y) with
    | some d, some e => match cmpD op d e with | some c => .ok (.out (.val (.bl c))) fr2 | none => .bad
    | _, _ => .bad
  | .chain op op' a b c, fr => (ev T a fr).fr fun x fr1 => (ev T b fr1).fr fun y fr2 =>
    match cmpD op x y with
    | some true => (ev T c fr2).fr fun z fr3 => match cmpD op' y z with | some k => .ok (.out (.val (.bl k))) fr3 | none => .bad
    | some false => .ok (.out (.val (.bl false))) fr2
    | none => .bad
  | .ite c a b, fr => (ev T c fr).fr fun d fr1 => asB d fr1 fun k fr2 => if k then ev T a fr2 else ev T b fr2
  | .call f as, fr => (evs T as fr).bind fun ds fr1 => ofFx fr1 (T.phi f ds fr1.sto)
  | .meth m o as, fr => (ev T o fr).fr fun d fr1 => match insD fr1.sto d with
    | some (c, fs) => if (fget fs m).isNone then match T.psi c m with
      | some f => (evs T as fr1).bind fun ds fr2 => ofFx fr2 (T.phi f (d :: ds) fr2.sto)
      | none => .bad else .bad
    | none => .bad
  | .make c as, fr => (evs T as fr).bind fun ds fr1 => ofFx fr1 (T.phi c ds fr1.sto)
  | .bi b as, fr => (evp T as fr).bind fun rs fr1 => match looks fr1.env rs with
    | some ds => match biD b ds with | some o => .ok (.out o) fr1 | none => .bad
    | none => .bad
  | .attr o f, fr => (ev T o fr).fr fun d fr1 => match insD fr1.sto d with
    | some (c, fs) => if T.fld c f then match fget fs f with | some v => .ok (.out (.val v)) fr1 | none => .bad else .bad
    | none => .bad
  | .ix o i, fr => (ev T o fr).bind fun x fr1 => (ev T i fr1).fr fun k fr2 => match look fr2.env (hold x) with
    | some d => match ixD fr2.sto d k with | some v => .ok (.out (.val v)) fr2 | none => .bad
    | none => .bad
  | .slice o lo hi, fr => (ev T o fr).bind fun x fr1 => (evo T lo fr1).bind fun l fr2 => (evo T hi fr2).bind fun h fr3 =>
    match look fr3.env (hold x) with
    | some (.lst xs) => .ok (.out (.fresh (cutL xs l h))) fr3
    | some (.rol xs) => .ok (.out (.fresh (cutL xs l h))) fr3
    | some (.tup xs) => .ok (.out (.val (.tup (cutL xs l h)))) fr3
    | _ => .bad
  | .tup as, fr => (evs T as fr).bind fun ds fr1 => if ds.length ≤ sizeLine then .ok (.out (.val (.tup ds))) fr1 else .bad
  | .lst as, fr => (evs T as fr).bind fun ds fr1 => if ds.length ≤ sizeLine then .ok (.out (.fresh ds)) fr1 else .bad
  | .dict kvs, fr => (evk T kvs fr).bind fun ds fr1 => if ds.length ≤ 15 then .ok (.out (.val (.cell fr1.sto.length))) { fr1 with sto := fr1.sto ++ [.dict (kmerge [] ds)] } else .bad
  | .comp elt tg it cond own, fr => (evi T it fr).bind fun xs fr1 =>
    if ownFree fr1.env own then
    (compGo fr1.env.length (bindT tg) own (fun fr2 => evc T cond fr2) (fun fr2 => (ev T elt fr2).fr fun d fr3 => .ok d fr3) xs { fr1 with env := fr1.env ++ [.own []] }).bind fun _ fr2 => match fr2.env[fr1.env.length]? with
      | some (.own acc) => .ok (.out (.fresh acc)) { fr2 with env := backE fr1.env (fr2.env.take fr1.env.length) own }
      | _ => .bad
    else .bad
  | .pop i, fr => match fr.env[i]? with
    | some (.own xs) => match xs.getLast? with
      | some d => .ok (.out (.val d)) { fr with env := fr.env.set i (.own xs.dropLast) }
      | none => .bad
    | _ => .bad
  | .ist k a, fr => (ev T a fr).bind fun x fr1 => match look fr1.env (hold x) with
    | some d => match istD k d with | some b => .ok (.out (.val (.bl b))) fr1 | none => .bad
    | none => .bad
  | .lstS s as, fr => (ev T s fr).bind fun x fr1 => match look fr1.env (hold x) with
    | some d => match seqOf d with
      | some xs => (evs T as fr1).bind fun ds fr2 => if xs.length + ds.length ≤ sizeLine then .ok (.out (.fresh (xs ++ ds))) fr2 else .bad
      | none => .bad
    | none => .bad
  | .tupS s as, fr => (ev T s fr).bind fun x fr1 => match look fr1.env (hold x) with
    | some d => match seqOf d with
      | some xs => (evs T as fr1).bind fun ds fr2 => if xs.length + ds.length ≤ sizeLine then .ok (.out (.val (.tup (xs ++ ds)))) fr2 else .bad
      | none => .bad
    | none => .bad
  | .lzip a b, fr => (ev T a fr).fr fun d fr1 => (ev T b fr1).fr fun e fr2 => match seqOf d, seqOf e with
    | some xs, some ys => if (zipD xs ys).length ≤ sizeLine then .ok (.out (.fresh (zipD xs ys))) fr2 else .bad
    | _, _ => .bad
  | .lrange a b, fr => (ev T a fr).fr fun d fr1 => (ev T b fr1).fr fun e fr2 => match d, e with
    | .int lo, .int hi => if -(2 ^ 62) < lo ∧ lo < 2 ^ 62 ∧ -(2 ^ 62) < hi ∧ hi < 2 ^ 62 ∧ (hi - lo).toNat ≤ 2 ^ 24 then .ok (.out (.fresh (rangeD lo (hi - lo).toNat))) fr2 else .bad
    | _, _ => .bad
  | .rsl a, fr => (ev T a fr).bind fun x fr1 => match look fr1.env (hold x) with
    | some (.lst xs) => .ok (.out (.fresh xs.reverse)) fr1
    | _ => .bad
  | .lidx o a, fr => (ev T o fr).bind fun x fr1 => match look fr1.env (hold x) with
    | some (.lst _) => (ev T a fr1).fr fun d fr2 => match look fr2.env (hold x) with
      | some (.lst xs) => match idxP d xs with | some j => .ok (.out (.val (.int (j : Nat)))) fr2 | none => .bad
      | _ => .bad
    | _ => .bad
  | .dict0, fr => .ok (.out (.val (.cell fr.sto.length))) { fr with sto := fr.sto ++ [.dictT []] }
  | .ixT o as, fr => (ev T o fr).fr fun d fr1 => (evs T as fr1).bind fun ks fr2 => if ks.length ≤ sizeLine then match d with
    | .cell n => match fr2.sto[n]? with
      | some (.dictT kvs) => match keysOf ks with
        | some k => match dget kvs k with | some v => .ok (.out (.val v)) fr2 | none => .bad
        | none => .bad
      | _ => .bad
    | _ => .bad else .bad
  | .fmt a, fr => (ev T a fr).fr fun d fr1 => match fmtD d with | some s => .ok (.out (.val (.str s))) fr1 | none => .bad
  | .join as, fr => (evj T as Str.empty fr).bind fun s fr1 => .ok (.out (.val (.str s))) fr1
  | .sset a, fr => (ev T a fr).fr fun d fr1 => match d with
    | .lst xs => match intsD xs with
      | some ns => if ns.length < 64 then .ok (.out (.fresh ((ssI ns).map .int))) fr1 else .bad
      | none => .bad
    | _ => .bad
  | .srk f a, fr => (ev T a fr).fr fun d fr1 => match d with
    | .lst xs => if xs.all pairOk then match keysBI (T.phi f) xs with
      | some ks => .ok (.out (.fresh (sortBI xs ks))) fr1
      | none => .bad else .bad
    | _ => .bad
  | .stuck, _ => .bad
/-- texts one behind the other -/
def evj (T : Tab) : List Tm → Str → Fr → Rs Str
  | [], acc, fr => .ok acc fr
  | t :: ts, acc, fr => (ev T t fr).fr fun d fr1 => match d with
    | .str y => if (acc ++ y).length ≤ sizeLine then evj T ts (acc ++ y) fr1 else .bad
    | _ => .bad
def evs (T : Tab) : List Tm → Fr → Rs (List D)
  | [], fr => .ok [] fr
  | t :: ts, fr => (ev T t fr).fr fun d fr1 => (evs T ts fr1).bind fun ds fr2 => .ok (d :: ds) fr2
/-- arguments of a built-in: only looked at -/
def evp (T : Tab) : List Tm → Fr → Rs (List RV)
  | [], fr => .ok [] fr
  | t :: ts, fr => (ev T t fr).bind fun r fr1 => (evp T ts fr1).bind fun rs fr2 => .ok (hold r :: rs) fr2
def evk (T : Tab) : List (Key × Tm) → Fr → Rs (List (Key × D))
  | [], fr => .ok [] fr
  | (k, t) :: ts, fr => (ev T t fr).fr fun d fr1 => (evk T ts fr1).bind fun ds fr2 => .ok ((k, d) :: ds) fr2
def evo (T : Tab) : Option Tm → Fr → Rs (Option Int)
  | none, fr => .ok none fr
  | some t, fr => (ev T t fr).fr fun d fr1 => match d with | .int i => .ok (some i) fr1 | _ => .bad
def evc (T : Tab) : Option Tm → Fr → Rs Bool
  | none, fr => .ok true fr
  | some t, fr => (ev T t fr).fr fun d fr1 => asB d fr1 fun b fr2 => .ok b fr2
def evi (T : Tab) : Iter → Fr → Rs (List D)
  | .seq t, fr => (ev T t fr).fr fun d fr1 => match seqOf d with | some xs => .ok xs fr1 | none => .bad
  | .range1 a, fr => (ev T a fr).fr fun d fr1 => match d with | .int n => if n < 2 ^ 62 ∧ -(2 ^ 62) < n then .ok (rangeD 0 n.toNat) fr1 else .bad | _ => .bad
  | .range2 a b, fr => (ev T a fr).fr fun d fr1 => (ev T b fr1).fr fun e fr2 => match d, e with
    | .int lo, .int hi => if -(2 ^ 62) < lo ∧ lo < 2 ^ 62 ∧ -(2 ^ 62) < hi ∧ hi < 2 ^ 62 then .ok (rangeD lo (hi - lo).toNat) fr2 else .bad
    | _, _ => .bad
  | .range3 a b c, fr => (ev T a fr).fr fun d fr1 => (ev T b fr1).fr fun e fr2 => (ev T c fr2).fr fun f fr3 => match d, e, f with
    | .int lo, .int hi, .int st => if -(2 ^ 62) < lo ∧ lo < 2 ^ 62 ∧ -(2 ^ 62) < hi ∧ hi < 2 ^ 62 ∧ st = -1 then .ok (range3D lo (-1) (lo - hi).toNat) fr3 else .bad
    | _, _, _ => .bad
  | .zip a b, fr => (ev T a fr).fr fun d fr1 => (ev T b fr1).fr fun e fr2 => match seqOf d, seqOf e with
    | some xs, some ys => .ok (zipD xs ys) fr2
    | _, _ => .bad
  | .enum a st, fr => (ev T a fr).fr fun d fr1 => match d with | .lst xs => .ok (enumD st xs) fr1 | _ => .bad
  | .rev a, fr => (ev T a fr).fr fun d fr1 => match d with | .lst xs => .ok xs.reverse fr1 | _ => .bad
def looks (env : List Slot) : List RV → Option (List D)
  | [] => some []
  | r :: rs => match look env r, looks env rs with | some d, some ds => some (d :: ds) | _, _ => none
end
/-! ### statements -/
def Rs.frS (r : Rs RV) (k : D → Fr → Sx) : Sx :=
  r.toS fun v fr => match toD fr v with | some (d, fr') => k d fr' | none => .bad
def setE (fr : Fr) (i : Nat) (s : Slot) : Fr := { fr with env := fr.env.set i s }
def asgR (tg : Tg) (r : RV) (fr : Fr) : Sx :=
  match tg with
  | .slot i => match r with
    | .out (.fresh xs) => .next (setE fr i (.own xs))
    | r => match toD fr r with
      | some (d, fr') => .next (setE fr' i (.val d))
      | none => .bad
  | .tup ts => match toD fr r with
    | some (d, fr') => match bindT (.tup ts) d fr' with | some fr2 => .next fr2 | none => .bad
    | none => .bad
/-- several values, the new lists among them kept in slots behind the others -/
def parGo (T : Tab) (n : Nat) : List Tm → Fr → Rs (List RV)
  | [], fr => .ok [] fr
  | t :: ts, fr => (ev T t fr).bind fun r fr1 => match r with
    | .out (.fresh xs) => (parGo T n ts { fr1 with env := fr1.env ++ [.own xs] }).bind fun rs fr2 => .ok (.var fr1.env.length :: rs) fr2
    | r => (parGo T n ts fr1).bind fun rs fr2 => .ok (r :: rs) fr2
/-- the slots is := rs, one by one; a list that stands behind n moves -/
def parSet (n : Nat) : List Nat → List RV → Fr → Option Fr
  | [], [], fr => some fr
  | i :: is, r :: rs, fr => match r with
    | .out (.val d) => parSet n is rs (setE fr i (.val d))
    | .out (.fresh _) => none
    | .var j => if n ≤ j then match fr.env[j]? with
        | some (.own xs) => parSet n is rs (setE (setE fr j .un) i (.own xs))
        | _ => none else none
  | _, _, _ => none
def cutE (n : Nat) (fr : Fr) : Fr := { fr with env := fr.env.take n }
def cutX {α : Type} (n : Nat) : Rs α → Rs α
  | .exc c fs fr => .exc c fs (cutE n fr)
  | r => r
/-- a slot that holds a list of its own -/
def ownSlot : Tm → List Slot → Option Nat
  | .slot i, env => match env[i]? with | some (.own _) => some i | _ => none
  | _, _ => none
mutual
def hev (fs : List D) : Hx → Option D
  | .non => some .non
  | .bl b => some (.bl b)
  | .int i => some (.int i)
  | .str s => some (.str s)
  | .fld k => fs[k]?
  | .tup hs => (hevs fs hs).bind fun ds => if ds.length ≤ 1000 then some (.tup ds) else none
def hevs (fs : List D) : List Hx → Option (List D)
  | [] => some []
  | h :: hs => (hev fs h).bind fun d => (hevs fs hs).bind fun ds => some (d :: ds)
end
def hwipe (sl : Option Nat) (fr : Fr) : Fr := match sl with | some i => setE fr i .un | none => fr
/-- an except clause's statement -/
def hrun (fs : List D) (fr : Fr) : Hst → Sx
  | .ret h => match hev fs h with | some d => .ret (.val d) fr | none => .bad
  | .retL hs => match hevs fs hs with | some ds => if ds.length ≤ 1000 then .ret (.fresh ds) fr else .bad | none => .bad
  | .asg i h => match hev fs h with | some d => .next (setE fr i (.val d)) | none => .bad
  | .asgL i hs => match hevs fs hs with | some ds => if ds.length ≤ 1000 then .next (setE fr i (.own ds)) else .bad | none => .bad
def exh (T : Tab) : List (Nat × Option Nat × Hst) → Nat → List D → Fr → Sx
  | [], c, fs, fr => .exc c fs fr
  | (hc, sl, hb) :: hs, c, fs, fr => match T.sub c hc with
    | none => .bad
    | some true => if c = hc then hrun fs (hwipe sl fr) hb else .bad
    | some false => exh T hs c fs fr
mutual
noncomputable def ex (T : Tab) : Stm → Fr → Sx
  | .skip, fr => .next fr
  | .stuck, _ => .bad
  | .expr t, fr => (ev T t fr).toS fun _ fr1 => .next fr1
  | .asg tg t, fr => (ev T t fr).toS fun r fr1 => asgR tg r fr1
  | .par is ts, fr => (cutX fr.env.length (parGo T fr.env.length ts fr)).toS fun rs fr1 => match parSet fr.env.length is rs fr1 with
    | some fr2 => .next (cutE fr.env.length fr2)
    | none => .bad
  | .setk o k v, fr => match ownSlot o fr.env with
    | some i => (ev T v fr).frS fun dv fr1 => match fr1.env[i]? with
      | some (.own _) => (ev T k fr1).frS fun dk fr2 => match fr2.env[i]?, dk with
        | some (.own xs), .int j => match ixN xs.length j with
          | some m => .next (setE fr2 i (.own (xs.set m dv)))
          | none => .bad
        | _, _ => .bad
      | _ => .bad
    | none => (ev T v fr).frS fun dv fr1 => (ev T o fr1).frS fun d fr2 => (ev T k fr2).frS fun dk fr3 => match d, keyOf dk with
      | .cell n, some kk => match fr3.sto[n]? with
        | some (.dict kvs) => if kvs.length < 1000 then .next { fr3 with sto := fr3.sto.set n (.dict (kput kvs kk dv)) } else .bad
        | _ => .bad
      | _, _ => .bad
  | .seti i k v, fr => (ev T v fr).frS fun dv fr1 => (ev T (.slot i) fr1).toS fun _ fr2 => (ev T k fr2).frS fun dk fr3 => match fr3.env[i]?, dk with
    | some (.own xs), .int j => match ixN xs.length j with
      | some m => .next (setE fr3 i (.own (xs.set m dv)))
      | none => .bad
    | _, _ => .bad
  | .setT o as v, fr => (ev T v fr).frS fun dv fr1 => (ev T o fr1).frS fun d fr2 => (evs T as fr2).toS fun ks fr3 => if ks.length ≤ sizeLine then match d with
    | .cell n => match fr3.sto[n]? with
      | some (.dictT kvs) => match keysOf ks with
        | some k => if kvs.length < 1000 then .next { fr3 with sto := fr3.sto.set n (.dictT (kput kvs k dv)) } else .bad
        | none => .bad
      | _ => .bad
    | _ => .bad else .bad
  | .seta o f v, fr => (ev T v fr).frS fun dv fr1 => (ev T o fr1).frS fun d fr2 => match d with
    | .cell n => match fr2.sto[n]? with
      | some (.inst c fs) => if T.fld c f && decide (fs.length < 100) then .next { fr2 with sto := fr2.sto.set n (.inst c (fput f dv fs)) } else .bad
      | _ => .bad
    | _ => .bad
  | .aug i op t, fr => match fr.env[i]? with
    | some (.val (.int x)) => (ev T t fr).frS fun d fr1 => match op, d with
      | .add, .int y => .next (setE fr1 i (.val (.int (x + y))))
      | .sub, .int y => .next (setE fr1 i (.val (.int (x - y))))
      | _, _ => .bad
    | _ => .bad
  | .append i t, fr => match fr.env[i]? with
    | some (.own _) => (ev T t fr).frS fun d fr1 => match fr1.env[i]? with
      | some (.own xs) => if xs.length < sizeLine then .next (setE fr1 i (.own (xs ++ [d]))) else .bad
      | _ => .bad
    | _ => .bad
  | .extend i t, fr => match fr.env[i]? with
    | some (.own _) => (ev T t fr).frS fun d fr1 => match fr1.env[i]?, d with
      | some (.own xs), .lst ys => if xs.length + ys.length ≤ sizeLine then .next (setE fr1 i (.own (xs ++ ys))) else .bad
      | _, _ => .bad
    | _ => .bad
  | .ite c a b, fr => (ev T c fr).frS fun d fr1 => match d with | .bl k => if k then exs T a fr1 else exs T b fr1 | _ => .bad
  | .whil c b, fr => whilGo (fun fr1 => (ev T c fr1).fr fun d fr2 => asB d fr2 fun k fr3 => .ok k fr3) (fun fr1 => exs T b fr1) fr
  | .for_ tg it b, fr => (evi T it fr).toS fun xs fr1 => forGo (bindT tg) (fun fr2 => exs T b fr2) xs fr1
  | .ret t, fr => (ev T t fr).toS fun r fr1 => match r with
    | .out o => .ret o fr1
    | .var i => match fr1.env[i]? with
      | some (.own xs) => .ret (.fresh xs) (setE fr1 i .un)
      | _ => .bad
  | .retN, fr => .ret (.val .non) fr
  | .brk, fr => .brk fr
  | .cont, fr => .cont fr
  | .rais c as, fr => (evs T as fr).toS fun ds fr1 => .exc c ds fr1
  | .tryx b hs, fr => match exs T b fr with
    | .exc c fs fr1 => exh T hs c fs fr1
    | r => r
noncomputable def exs (T : Tab) : List Stm → Fr → Sx
  | [], fr => .next fr
  | t :: ts, fr => (ex T t fr).seq fun fr1 => exs T ts fr1
end
/-- a def: how many slots, its body -/
structure Fd where
  n : Nat
  body : List Stm
noncomputable def run (T : Tab) (f : Fd) : Fn := fun ds sto =>
  match exs T f.body ⟨ds.map Slot.val ++ List.replicate (f.n - ds.length) .un, sto⟩ with
  | .next fr => .ret (.val .non) fr.sto
  | .ret o fr => .ret o fr.sto
  | .exc c fs fr => .exc c fs fr.sto
  | _ => .bad
/-! ### making an instance that does not change any more -/
/-- the statements of an __init__: an attribute of self stored, or a value let go -/
def iniGo (T : Tab) : List (Option Nat × Tm) → List (Nat × D) → Fr → Rs (List (Nat × D))
  | [], fs, fr => .ok fs fr
  | (some f, t) :: r, fs, fr => (ev T t fr).fr fun d fr1 => if fs.length < 1000 then iniGo T r (fput f d fs) fr1 else .bad
  | (none, t) :: r, fs, fr => (ev T t fr).bind fun _ fr1 => iniGo T r fs fr1
end Ag
namespace Ag
open PySem L2
structure Glb where
  K : PySem.W.Frag
  cl : Nat → Addr
  fn : Nat → Str
  xf : Nat → List Nat
section
variable (G : Glb)
mutual
inductive Rep (F : Hp) (io : List Addr) : D → V → Prop
  | non : Rep F io .non .non
  | bl (b) : Rep F io (.bl b) (.bl b)
  | int (i) : Rep F io (.int i) (.int i)
  | str (s) : Rep F io (.str s) (.str s)
  | tup {ds vs a} : SqT G.K F a vs → Reps F io ds vs → Rep F io (.tup ds) (.ref a)
  | lst {ds vs a} : F a = some (.lst vs) → Reps F io ds vs → Rep F io (.lst ds) (.ref a)
  | rol {ds vs a} : SqL G.K F a vs → Reps F io ds vs → Rep F io (.rol ds) (.ref a)
  | obj {c fs vs a dx} : F a = some (.ins (G.cl c) dx vs) → RepF F io fs vs → Rep F io (.obj c fs) (.ref a)
  | cell {n a} : io[n]? = some a → Rep F io (.cell n) (.ref a)
inductive Reps (F : Hp) (io : List Addr) : List D → List V → Prop
  | nil : Reps F io [] []
  | cons {d v ds vs} : Rep F io d v → Reps F io ds vs → Reps F io (d :: ds) (v :: vs)
inductive RepF (F : Hp) (io : List Addr) : List (Nat × D) → List (Str × V) → Prop
  | nil : RepF F io [] []
  | cons {f d v ds vs} : Rep F io d v → RepF F io ds vs → RepF F io ((f, d) :: ds) ((G.fn f, v) :: vs)
end
end
section
variable {G : Glb} {F F' : Hp} {io io' : List Addr}
def Pre (io io' : List Addr) : Prop := ∀ (n : Nat) (a : Addr), io[n]? = some a → io'[n]? = some a
theorem Pre.refl (io : List Addr) : Pre io io := fun _ _ h => h
theorem Pre.trans {i1 i2 i3 : List Addr} (a : Pre i1 i2) (b : Pre i2 i3) : Pre i1 i3 := fun n x h => b n x (a n x h)
theorem Same.sqT {K : PySem.W.Frag} {H H' : Hp} {a : Addr} {xs : List V} (e : Same H H') (h : SqT K H a xs) : SqT K H' a xs := @Rq9 _ _ (fun qz => @Hq9.get _ _ (qz.bar : Hq9 _ (by
  clear qz
  rcases h with (h | ⟨o, h⟩) | h
  · exact .inl (.inl (e _ _ h))
  · exact .inl (.inr ⟨o, e _ _ h⟩)
  · exact .inr h))) Xq9.mk
mutual
theorem Rep.mono (s : Same F F') (p : Pre io io') : ∀ {d : D} {v : V}, Rep G F io d v → Rep G F' io' d v
  | _, _, .non => .non
  | _, _, .bl b => .bl b
  | _, _, .int b => .int b
  | _, _, .str b => .str b
  | _, _, .tup h r => .tup (Same.sqT s h) (Reps.mono s p r)
  | _, _, .lst h r => .lst (s _ _ h) (Reps.mono s p r)
  | _, _, .rol h r => .rol (s.seq h) (Reps.mono s p r)
  | _, _, .obj h r => .obj (s _ _ h) (RepF.mono s p r)
  | _, _, .cell h => .cell (p _ _ h)
theorem Reps.mono (s : Same F F') (p : Pre io io') : ∀ {d : List D} {v : List V}, Reps G F io d v → Reps G F' io' d v
  | _, _, .nil => .nil
  | _, _, .cons h r => .cons (Rep.mono s p h) (Reps.mono s p r)
theorem RepF.mono (s : Same F F') (p : Pre io io') : ∀ {d : List (Nat × D)} {v : List (Str × V)}, RepF G F io d v → RepF G F' io' d v
  | _, _, .nil => .nil
  | _, _, .cons h r => .cons (Rep.mono s p h) (RepF.mono s p r)
end
theorem Reps.length : ∀ {d : List D} {v : List V}, Reps G F io d v → d.length = v.length
  | _, _, .nil => rfl
  | _, _, .cons _ r => by rw [List.length_cons, List.length_cons, Reps.length r]
theorem Reps.append : ∀ {d e : List D} {v u : List V}, Reps G F io d v → Reps G F io e u → Reps G F io (d ++ e) (v ++ u)
  | _, _, _, _, .nil, s => s
  | _, _, _, _, .cons h r, s => .cons h (Reps.append r s)
theorem Reps.get : ∀ {d : List D} {v : List V} {i : Nat} {x : D}, Reps G F io d v → d[i]? = some x → ∃ u, v[i]? = some u ∧ Rep G F io x u
  | _, _, _, _, .nil, e => by simp at e
  | _, _, 0, _, .cons h _, e => by simp at e; subst e; exact ⟨_, rfl, h⟩
  | _, _, i + 1, x, .cons _ r, e => by
    obtain ⟨u, h1, h2⟩ := Reps.get (i := i) (x := x) r (by simpa using e)
    exact ⟨u, by simpa using h1, h2⟩
theorem Reps.take : ∀ {d : List D} {v : List V} (n : Nat), Reps G F io d v → Reps G F io (d.take n) (v.take n)
  | _, _, 0, _ => by simp; exact .nil
  | _, _, n + 1, .nil => by simp; exact .nil
  | _, _, n + 1, .cons h r => by simp; exact .cons h (Reps.take n r)
theorem Reps.drop : ∀ {d : List D} {v : List V} (n : Nat), Reps G F io d v → Reps G F io (d.drop n) (v.drop n)
  | _, _, 0, h => by simpa using h
  | _, _, n + 1, .nil => by simp; exact .nil
  | _, _, n + 1, .cons h r => by simp; exact Reps.drop n r
theorem Reps.set {x : D} {u : V} (hx : Rep G F io x u) : ∀ {d : List D} {v : List V} (n : Nat), Reps G F io d v → Reps G F io (d.set n x) (v.set n u)
  | _, _, _, .nil => .nil
  | _, _, 0, .cons h r => .cons hx r
  | _, _, n + 1, .cons h r => .cons h (Reps.set hx n r)
theorem Reps.reverse : ∀ {d : List D} {v : List V}, Reps G F io d v → Reps G F io d.reverse v.reverse
  | _, _, .nil => .nil
  | _, _, .cons h r => by rw [List.reverse_cons, List.reverse_cons]; exact (Reps.reverse r).append (.cons h .nil)
inductive RepK {κ : Type} (G : Glb) (F : Hp) (io : List Addr) : List (κ × D) → List (κ × V) → Prop
  | nil : RepK G F io [] []
  | cons {k d v ds vs} : Rep G F io d v → RepK G F io ds vs → RepK G F io ((k, d) :: ds) ((k, v) :: vs)
theorem RepK.mono {κ : Type} (s : Same F F') (p : Pre io io') : ∀ {d : List (κ × D)} {v : List (κ × V)}, RepK G F io d v → RepK G F' io' d v
  | _, _, .nil => .nil
  | _, _, .cons h r => .cons (h.mono s p) (RepK.mono s p r)
theorem RepK.length {κ : Type} : ∀ {d : List (κ × D)} {v : List (κ × V)}, RepK G F io d v → d.length = v.length
  | _, _, .nil => rfl
  | _, _, .cons _ r => by rw [List.length_cons, List.length_cons, RepK.length r]
def CellOk (G : Glb) (F : Hp) (io : List Addr) (H : Hp) (a : Addr) : Cell → Prop
  | .dict kvs => ∃ vs, H a = some (.dK vs) ∧ RepK G F io kvs vs
  | .inst c fs => ∃ dx vs, H a = some (.ins (G.cl c) dx vs) ∧ RepF G F io fs vs
  | .dictT kvs => ∃ vs, H a = some (.dT vs) ∧ RepK G F io kvs vs
/-- the heap at an entry, and what was known not to change any more -/
structure Ent where
  hp : Hp
  fz : Hp
instance : CoeFun Ent (fun _ => Addr → Option HO) := ⟨Ent.hp⟩
/-- what F may hold -/
def Fz : HO → Prop
  | .dK _ => False
  | .dT _ => False
  | _ => True
/-- the objects: F what never changes any more, io where the cells stand, H0 the heap at the entry, n0 the cells at the entry -/
structure Wr (G : Glb) (H0 : Ent) (n0 : Nat) (sto : List Cell) (H F : Hp) (io : List Addr) : Prop where
  sub : Same F H
  len : io.length = sto.length
  cel : ∀ (n : Nat) (c : Cell), sto[n]? = some c → ∃ a, io[n]? = some a ∧ F a = none ∧ CellOk G F io H a c
  inj : ∀ (i j : Nat) (a : Addr), io[i]? = some a → io[j]? = some a → i = j
  keep : ∀ a o, H0 a = some o → (∀ n : Nat, n < n0 → io[n]? ≠ some a) → H a = some o
  new : ∀ (n : Nat) (a : Addr), n0 ≤ n → io[n]? = some a → H0 a = none
  frz : ∀ a o, F a = some o → Fz o
  nle : n0 ≤ io.length
  old : ∀ a o u, H0 a = some o → F a = some u → H0.fz a = some u
/-- at p stands a list that nothing but a slot knows -/
def Own (G : Glb) (H0 : Ent) (H F : Hp) (io : List Addr) (xs : List D) (p : Addr) : Prop :=
  ∃ vs, H p = some (.lst vs) ∧ F p = none ∧ (∀ n : Nat, io[n]? ≠ some p) ∧ H0 p = none ∧ Reps G F io xs vs
def SlOk (G : Glb) (H0 : Ent) (H F : Hp) (io : List Addr) : Slot → Option (Option V) → Prop
  | .un, _ => True
  | .val d, o => ∃ v, o = some (some v) ∧ Rep G F io d v
  | .own xs, o => ∃ p, o = some (some (.ref p)) ∧ Own G H0 H F io xs p
structure Sl (G : Glb) (H0 : Ent) (H F : Hp) (io : List Addr) (env : List Slot) (σ : St) : Prop where
  len : env.length = σ.length
  at_ : ∀ (i : Nat) (s : Slot), env[i]? = some s → SlOk G H0 H F io s σ[i]?
  dis : ∀ (i j : Nat) (xs ys : List D) (p : Addr), env[i]? = some (.own xs) → env[j]? = some (.own ys) → σ[i]? = some (some (.ref p)) → σ[j]? = some (some (.ref p)) → i = j
structure Ws (G : Glb) (H0 : Ent) (n0 : Nat) (fr : Fr) (σ : St) (H F : Hp) (io : List Addr) : Prop where
  wr : Wr G H0 n0 fr.sto H F io
  sl : Sl G H0 H F io fr.env σ
def Hk (G : Glb) (F : Hp) (io : List Addr) (σ : St) : RV → V → Prop
  | .out (.val d), v => Rep G F io d v
  | .out (.fresh _), _ => False
  | .var i, v => σ[i]? = some (some v)
def RvOk (G : Glb) (H0 : Ent) (H F : Hp) (io : List Addr) (env : List Slot) (σ : St) : RV → V → Prop
  | .out (.val d), v => Rep G F io d v
  | .out (.fresh xs), v => ∃ p, v = .ref p ∧ Own G H0 H F io xs p ∧ ∀ (i : Nat) (ys : List D), env[i]? = some (.own ys) → σ[i]? ≠ some (some (.ref p))
  | .var i, v => σ[i]? = some (some v)
/-- looked at: a part of F, or the list of a slot -/
def Lk (G : Glb) (F : Hp) (io : List Addr) (H : Hp) (d : D) (v : V) : Prop :=
  Rep G F io d v ∨ ∃ xs p vs, d = .lst xs ∧ v = .ref p ∧ H p = some (.lst vs) ∧ Reps G F io xs vs
theorem Hk.mono {σ : St} (s : Same F F') (p : Pre io io') {r : RV} {v : V} (h : Hk G F io σ r v) : Hk G F' io' σ r v := @Rq9 _ _ (fun qz => @Hq9.get _ _ (qz.bar : Hq9 _ (by
  clear qz
  cases r with
  | out o =>
    cases o with
    | val d => exact Rep.mono s p h
    | fresh xs => exact h
  | var i => exact h))) Xq9.mk
section
variable {H0 : Ent} {H : Hp} {n0 : Nat} {fr : Fr} {σ : St}
theorem Ws.look (w : Ws G H0 n0 fr σ H F io) {r : RV} {v : V} {d : D} (h : Hk G F io σ r v) (e : look fr.env r = some d) : Lk G F io H d v := @Rq9 _ _ (fun qz => @Hq9.get _ _ (qz.bar : Hq9 _ (by
  clear qz
  cases r with
  | out o =>
    cases o with
    | val x => cases e; exact .inl h
    | fresh xs => exact h.elim
  | var i =>
    have h' : σ[i]? = some (some v) := h
    unfold Ag.look at e
    cases q : fr.env[i]? with
    | none => simp [q] at e
    | some s =>
      have sl := w.sl.at_ i s q
      cases s with
      | un => simp [q] at e
      | val x =>
        simp [q] at e; subst e
        obtain ⟨u, e1, r⟩ := sl
        rw [h'] at e1; cases e1
        exact .inl r
      | own xs =>
        simp [q] at e; subst e
        obtain ⟨p, e1, vs, h1, h2, h3, h4, h5⟩ := sl
        rw [h'] at e1; cases e1
        exact .inr ⟨xs, p, vs, rfl, rfl, h1, h5⟩))) Xq9.mk
/-- p is now a part of F -/
theorem Wr.freeze {sto : List Cell} (w : Wr G H0 n0 sto H F io) {p : Addr} {vs : List V} (hp : H p = some (.lst vs)) (fp : F p = none) (ip : ∀ n : Nat, io[n]? ≠ some p) (h0p : H0 p = none) : Same F (upd F p (.lst vs)) ∧ Wr G H0 n0 sto H (upd F p (.lst vs)) io := @Rq9 _ _ (fun qz => @Hq9.get _ _ (qz.bar : Hq9 _ (by
  clear qz
  have sm : Same F (upd F p (.lst vs)) := fun b o e => by rw [upd_ne (ne_of_none e fp)]; exact e
  refine ⟨sm, ⟨fun b o e => ?_, w.len, fun n c e => ?_, w.inj, w.keep, w.new, fun b o e => ?_, w.nle, fun b o u e1 e2 => ?_⟩⟩
  · by_cases hb : b = p
    · subst hb; rw [upd_same] at e; cases e; exact hp
    · rw [upd_ne hb] at e; exact w.sub b o e
  · obtain ⟨a, e1, e2, e3⟩ := w.cel n c e
    refine ⟨a, e1, ?_, ?_⟩
    · have : a ≠ p := fun z => ip n (z ▸ e1)
      rw [upd_ne this]; exact e2
    · cases c with
      | dict kvs => obtain ⟨us, h1, h2⟩ := e3; exact ⟨us, h1, h2.mono sm (Pre.refl _)⟩
      | dictT kvs => obtain ⟨us, h1, h2⟩ := e3; exact ⟨us, h1, h2.mono sm (Pre.refl _)⟩
      | inst c fs => obtain ⟨dx, us, h1, h2⟩ := e3; exact ⟨dx, us, h1, h2.mono sm (Pre.refl _)⟩
  · by_cases hb : b = p
    · subst hb; rw [upd_same] at e; cases e; trivial
    · rw [upd_ne hb] at e; exact w.frz b o e
  · by_cases hb : b = p
    · subst hb; rw [h0p] at e1; cases e1
    · rw [upd_ne hb] at e2; exact w.old b o u e1 e2))) Xq9.mk
theorem SlOk.mono {H' : Hp} (s : Same F F') (p : Pre io io') (k : ∀ xs q, Own G H0 H F io xs q → Own G H0 H' F' io' xs q) {sl : Slot} {o : Option (Option V)} (h : SlOk G H0 H F io sl o) : SlOk G H0 H' F' io' sl o := @Rq9 _ _ (fun qz => @Hq9.get _ _ (qz.bar : Hq9 _ (by
  clear qz
  cases sl with
  | un => trivial
  | val d => obtain ⟨v, e, r⟩ := h; exact ⟨v, e, r.mono s p⟩
  | own xs => obtain ⟨q, e, r⟩ := h; exact ⟨q, e, k _ _ r⟩))) Xq9.mk
theorem set_own {env : List Slot} {i j : Nat} {s : Slot} {xs : List D} (hs : ∀ ys, s ≠ .own ys) (h : (env.set i s)[j]? = some (.own xs)) : j ≠ i ∧ env[j]? = some (.own xs) := @Rq9 _ _ (fun qz => @Hq9.get _ _ (qz.bar : Hq9 _ (by
  clear qz
  by_cases e : i = j
  · subst e
    rw [List.getElem?_set_self'] at h
    cases q : env[i]? with
    | none => rw [q] at h; cases h
    | some z => rw [q] at h; simp at h; exact absurd h (hs xs)
  · rw [List.getElem?_set_ne e] at h
    exact ⟨fun z => e z.symm, h⟩))) Xq9.mk
theorem set_at {env : List Slot} {i j : Nat} {s t : Slot} (h : (env.set i s)[j]? = some t) : (j = i ∧ t = s) ∨ (j ≠ i ∧ env[j]? = some t) := @Rq9 _ _ (fun qz => @Hq9.get _ _ (qz.bar : Hq9 _ (by
  clear qz
  by_cases e : i = j
  · subst e
    rw [List.getElem?_set_self'] at h
    cases q : env[i]? with
    | none => rw [q] at h; cases h
    | some z => rw [q] at h; simp at h; exact .inl ⟨rfl, h.symm⟩
  · rw [List.getElem?_set_ne e] at h
    exact .inr ⟨fun z => e z.symm, h⟩))) Xq9.mk
/-- a slot's list becomes a part of F -/
theorem Ws.freezeSlot (w : Ws G H0 n0 fr σ H F io) {i : Nat} {xs : List D} (e : fr.env[i]? = some (.own xs)) :
    ∃ p F', σ[i]? = some (some (.ref p)) ∧ Same F F' ∧ Rep G F' io (.lst xs) (.ref p) ∧ Ws G H0 n0 { fr with env := fr.env.set i (.val (.lst xs)) } σ H F' io := @Rq9 _ _ (fun qz => @Hq9.get _ _ (qz.bar : Hq9 _ (by
  clear qz
  obtain ⟨p, e1, vs, h1, h2, h3, h4, h5⟩ := w.sl.at_ i _ e
  obtain ⟨sm, wr⟩ := w.wr.freeze h1 h2 h3 h4
  have rp : Rep G (upd F p (.lst vs)) io (.lst xs) (.ref p) := .lst upd_same (h5.mono sm (Pre.refl _))
  refine ⟨p, _, e1, sm, rp, wr, ?_⟩
  refine ⟨by rw [List.length_set]; exact w.sl.len, fun j s q => ?_, fun j k ys zs q g1 g2 => ?_⟩
  · rcases set_at q with ⟨rfl, rfl⟩ | ⟨ne, q⟩
    · exact ⟨_, e1, rp⟩
    · cases s with
      | un => trivial
      | val d =>
        obtain ⟨v, ev, r⟩ := w.sl.at_ j _ q
        exact ⟨v, ev, r.mono sm (Pre.refl _)⟩
      | own ys =>
        obtain ⟨q', eq, us, k1, k2, k3, k4, k5⟩ := w.sl.at_ j _ q
        have nq : q' ≠ p := fun z => ne (w.sl.dis j i ys xs p q e (z ▸ eq) e1)
        exact ⟨q', eq, us, k1, by rw [upd_ne nq]; exact k2, k3, k4, k5.mono sm (Pre.refl _)⟩
  · obtain ⟨_, g1⟩ := set_own (fun _ z => by cases z) g1
    obtain ⟨_, g2⟩ := set_own (fun _ z => by cases z) g2
    exact w.sl.dis j k ys zs q g1 g2))) Xq9.mk
theorem Ws.toD (w : Ws G H0 n0 fr σ H F io) {r : RV} {v : V} {d : D} {fr' : Fr} (h : RvOk G H0 H F io fr.env σ r v) (e : toD fr r = some (d, fr')) :
    ∃ F', Same F F' ∧ Rep G F' io d v ∧ Ws G H0 n0 fr' σ H F' io := @Rq9 _ _ (fun qz => @Hq9.get _ _ (qz.bar : Hq9 _ (by
  clear qz
  cases r with
  | out o =>
    cases o with
    | val x => cases e; exact ⟨F, Same.refl _, h, w⟩
    | fresh xs =>
      cases e
      obtain ⟨p, rfl, ⟨vs, h1, h2, h3, h4, h5⟩, hd⟩ := h
      obtain ⟨sm, wr⟩ := w.wr.freeze h1 h2 h3 h4
      refine ⟨_, sm, .lst upd_same (h5.mono sm (Pre.refl _)), wr, w.sl.len, fun j s q => ?_, w.sl.dis⟩
      cases s with
      | un => trivial
      | val d =>
        obtain ⟨v, ev, r⟩ := w.sl.at_ j _ q
        exact ⟨v, ev, r.mono sm (Pre.refl _)⟩
      | own ys =>
        obtain ⟨q', eq, us, k1, k2, k3, k4, k5⟩ := w.sl.at_ j _ q
        have nq : q' ≠ p := fun z => hd j ys q (z ▸ eq)
        exact ⟨q', eq, us, k1, by rw [upd_ne nq]; exact k2, k3, k4, k5.mono sm (Pre.refl _)⟩
  | var i =>
    have h' : σ[i]? = some (some v) := h
    unfold Ag.toD at e
    cases q : fr.env[i]? with
    | none => simp [q] at e
    | some s =>
      cases s with
      | un => simp [q] at e
      | val x =>
        simp [q] at e
        obtain ⟨rfl, rfl⟩ := e
        obtain ⟨u, e1, r⟩ := w.sl.at_ i _ q
        rw [h'] at e1; cases e1
        exact ⟨F, Same.refl _, r, w⟩
      | own xs =>
        simp [q] at e
        obtain ⟨rfl, rfl⟩ := e
        obtain ⟨p, F', e1, sm, rp, w'⟩ := w.freezeSlot q
        rw [h'] at e1; cases e1
        exact ⟨F', sm, rp, w'⟩))) Xq9.mk
theorem Ws.hold (w : Ws G H0 n0 fr σ H F io) {r : RV} {v : V} (h : RvOk G H0 H F io fr.env σ r v) : ∃ F', Same F F' ∧ Hk G F' io σ (hold r) v ∧ Ws G H0 n0 fr σ H F' io := @Rq9 _ _ (fun qz => @Hq9.get _ _ (qz.bar : Hq9 _ (by
  clear qz
  cases r with
  | out o =>
    cases o with
    | val x => exact ⟨F, Same.refl _, h, w⟩
    | fresh xs =>
      obtain ⟨F', sm, rp, w'⟩ := w.toD (r := .out (.fresh xs)) (d := .lst xs) (fr' := fr) h rfl
      exact ⟨F', sm, rp, w'⟩
  | var i => exact ⟨F, Same.refl _, h, w⟩))) Xq9.mk
end
end
end Ag
namespace Ag
open PySem L2
def Rs.all {α : Type} (r : Rs α) (P : α → Fr → Prop) (PX : Nat → List D → Fr → Prop) : Prop :=
  match r with
  | .ok a fr => P a fr
  | .exc c fs fr => PX c fs fr
  | .bad => False
theorem Rs.all_bind {α β : Type} {m : Rs α} {k : α → Fr → Rs β} {P : β → Fr → Prop} {PX : Nat → List D → Fr → Prop} (h : (m.bind k).all P PX) : m.all (fun a fr => (k a fr).all P PX) PX := @Rq9 _ _ (fun qz => @Hq9.get _ _ (qz.bar : Hq9 _ (by
  clear qz
  cases m with
  | ok a fr => exact h
  | exc c fs fr => exact h
  | bad => exact h))) Xq9.mk
theorem Rs.all_imp {α : Type} {m : Rs α} {P P' : α → Fr → Prop} {PX PX' : Nat → List D → Fr → Prop} (h : m.all P PX) (k : ∀ a fr, P a fr → P' a fr) (kx : ∀ c fs fr, PX c fs fr → PX' c fs fr) : m.all P' PX' := @Rq9 _ _ (fun qz => @Hq9.get _ _ (qz.bar : Hq9 _ (by
  clear qz
  cases m with
  | ok a fr => exact k _ _ h
  | exc c fs fr => exact kx _ _ _ h
  | bad => exact h))) Xq9.mk
theorem Rs.all_fr {α : Type} {m : Rs RV} {k : D → Fr → Rs α} {P : α → Fr → Prop} {PX : Nat → List D → Fr → Prop} (h : (m.fr k).all P PX) :
    m.all (fun r fr => ∃ d fr', toD fr r = some (d, fr') ∧ (k d fr').all P PX) PX := @Rq9 _ _ (fun qz => @Hq9.get _ _ (qz.bar : Hq9 _ (by
  clear qz
  refine Rs.all_imp (Rs.all_bind h) (fun r fr q => ?_) fun _ _ _ q => q
  cases e : toD fr r with
  | none => rw [e] at q; exact q.elim
  | some p => rw [e] at q; exact ⟨p.1, p.2, rfl, q⟩))) Xq9.mk
structure En where
  X : Cx
  G : Glb
  H0 : Ent
  n0 : Nat
  T : Tab
  W : WX
structure En.Ok (E : En) : Prop where
  k : E.G.K = E.X.K
  nd : E.X.N.Nodup
  calm : E.X.calm = true
  hu5 : E.X.A.units + 65 < cLine
  tk : Takes E.X E.W
  inj : ∀ f g, E.G.fn f = E.G.fn g → f = g
  fld : ∀ c f, E.T.fld c f = true → Cls E.X.K (E.G.cl c) ∧ NoAttr E.X.K (E.G.cl c) (E.G.fn f)
theorem En.Ok.hu {E : En} (ok : E.Ok) : E.X.A.units + 64 < cLine := by have := ok.hu5; omega
/-- an exception's fields -/
def ExOk (G : Glb) (F : Hp) (io : List Addr) (H : Hp) (c : Nat) (fs : List D) (d : Option Addr) : Prop :=
  fs = [] ∨ ∃ a vs, d = some a ∧ F a = some (.xd vs) ∧ ∀ (i f : Nat) (x : D), (G.xf c)[i]? = some f → fs[i]? = some x → ∃ v, vs.lookup (G.fn f) = some v ∧ Rep G F io x v
section
variable (E : En)
abbrev En.ws (fr : Fr) (σ : St) (H F : Hp) (io : List Addr) : Prop := Ws E.G E.H0 E.n0 fr σ H F io
def okE (σ t : St) (F : Hp) (io : List Addr) (Q : VK) : RV → Fr → Prop := fun r fr => ∀ v H' F' io', Same F F' → Pre io io' → E.ws fr (σ ++ t) H' F' io' → RvOk E.G E.H0 H' F' io' fr.env (σ ++ t) r v → Q v H'
def exE (σ t : St) (F : Hp) (io : List Addr) : Nat → List D → Fr → Prop := fun c fs fr => ∀ d H' F' io', Same F F' → Pre io io' → E.ws fr (σ ++ t) H' F' io' → ExOk E.G F' io' H' c fs d → E.W (.ref (E.G.cl c)) d σ H'
/-- the weakest readings -/
def wE (X : Cx) (e : Expr) : TE := fun σ H Q => ∀ (pins : List (Addr × Obj)) (s : Shared), Inv X pins σ H s → wpAny (model X.prog X.w) X.A (eval e X.env) (EP X pins σ Q) X.xe s
def wT (X : Cx) (e : Expr) : TT := fun σ H Q => ∀ (pins : List (Addr × Obj)) (s : Shared), Inv X pins σ H s → wpAny (model X.prog X.w) X.A (isTrue e X.env (eval e X.env)) (TP X pins σ Q) X.xe s
def wA (X : Cx) (es : List Expr) : TA := fun σ H Q => ∀ (pos : Pos) (pins : List (Addr × Obj)) (s : Shared), Inv X pins σ H s → wpAny (model X.prog X.w) X.A (spliced (backTo pos (starEach es X.env))) (AP X pins σ Q) X.xe s
theorem pe_w {X : Cx} {e : Expr} : PE X e (wE X e) := ⟨fun pins s σ H Q I h => h pins s I⟩
theorem pt_w {X : Cx} {e : Expr} : PT X e (wT X e) := ⟨fun pins s σ H Q I h => h pins s I⟩
theorem pa_w {X : Cx} {es : List Expr} : PA X es (wA X es) := ⟨fun pos pins s σ H Q I h => h pos pins s I⟩
theorem wE_of {X : Cx} {e : Expr} {t : TE} {σ : St} {H : Hp} {Q : VK} (h : PE X e t) (q : t σ H Q) : wE X e σ H Q := fun pins s I => h.run pins s σ H Q I q
theorem wT_of {X : Cx} {e : Expr} {t : TT} {σ : St} {H : Hp} {Q : Bool → Hp → Prop} (h : PT X e t) (q : t σ H Q) : wT X e σ H Q := fun pins s I => h.run pins s σ H Q I q
theorem wA_of {X : Cx} {e : List Expr} {t : TA} {σ : St} {H : Hp} {Q : List V → Hp → Prop} (h : PA X e t) (q : t σ H Q) : wA X e σ H Q := fun pos pins s I => h.run pos pins s σ H Q I q
/-- the model's expression does what the core term tells -/
def SE (e : Expr) (t : Tm) : Prop := ∀ (fr : Fr) (σ tp : St) (H F : Hp) (io : List Addr) (Q : VK), σ.length = E.X.N.length → E.ws fr (σ ++ tp) H F io → (ev E.T t fr).all (okE E σ tp F io Q) (exE E σ tp F io) → wE E.X e σ H Q
def ST (e : Expr) (t : Tm) : Prop := ∀ (fr : Fr) (σ tp : St) (H F : Hp) (io : List Addr) (Q : Bool → Hp → Prop), σ.length = E.X.N.length → E.ws fr (σ ++ tp) H F io →
  (ev E.T t fr).all (fun r fr => ∃ b, look fr.env r = some (.bl b) ∧ ∀ H' F' io', Same F F' → Pre io io' → E.ws fr (σ ++ tp) H' F' io' → Q b H') (exE E σ tp F io) → wT E.X e σ H Q
/-- arguments as parts -/
def SA (es : List Expr) (ts : List Tm) : Prop := ∀ (fr : Fr) (σ tp : St) (H F : Hp) (io : List Addr) (Q : List V → Hp → Prop), σ.length = E.X.N.length → E.ws fr (σ ++ tp) H F io →
  (evs E.T ts fr).all (fun ds fr' => ∀ vs H' F' io', Same F F' → Pre io io' → E.ws fr' (σ ++ tp) H' F' io' → Reps E.G F' io' ds vs → Q vs H') (exE E σ tp F io) → wA E.X es σ H Q
/-- arguments that are only looked at -/
def SP' (es : List Expr) (ts : List Tm) : Prop := ∀ (fr : Fr) (σ tp : St) (H F : Hp) (io : List Addr) (Q : List V → Hp → Prop), σ.length = E.X.N.length → E.ws fr (σ ++ tp) H F io →
  (evp E.T ts fr).all (fun rs fr' => ∀ vs H' F' io', Same F F' → Pre io io' → E.ws fr' (σ ++ tp) H' F' io' → Paired (Hk E.G F' io' (σ ++ tp)) rs vs → Q vs H') (exE E σ tp F io) → wA E.X es σ H Q
end
section
variable {E : En} {e a b c : Expr} {ta tb tc : Tm} {fr : Fr} {σ tp : St} {H F : Hp} {io : List Addr} {Q : VK}
theorem exE.mono {F' : Hp} {io' : List Addr} (s : Same F F') (p : Pre io io') {c : Nat} {fs : List D} {fr : Fr} (h : exE E σ tp F io c fs fr) : exE E σ tp F' io' c fs fr :=
  fun d H' F2 io2 s2 p2 w x => h d H' F2 io2 (s.trans s2) (p.trans p2) w x
/-- a part: evaluated, then as data -/
theorem SE.part (ha : SE E a ta) (hl : σ.length = E.X.N.length) (w : E.ws fr (σ ++ tp) H F io) {α : Type} {k : D → Fr → Rs α} {P : α → Fr → Prop} (h : ((ev E.T ta fr).fr k).all P (exE E σ tp F io))
    (q : ∀ d fr1 v H1 F1 io1, Same F F1 → Pre io io1 → E.ws fr1 (σ ++ tp) H1 F1 io1 → Rep E.G F1 io1 d v → (k d fr1).all P (exE E σ tp F1 io1) → Q v H1) : wE E.X a σ H Q := @Rq9 _ _ (fun qz => @Hq9.get _ _ (qz.bar : Hq9 _ (by
  clear qz
  refine ha fr σ tp H F io Q hl w (Rs.all_imp (Rs.all_fr h) (fun r fr1 z => ?_) fun _ _ _ x => x)
  obtain ⟨d, fr', e1, z⟩ := z
  intro v H' F' io' s p w' rv
  obtain ⟨F2, s2, rp, w2⟩ := w'.toD rv e1
  exact q d fr' v H' F2 io' (s.trans s2) p w2 rp (Rs.all_imp z (fun _ _ y => y) fun _ _ _ y => y.mono (s.trans s2) p)))) Xq9.mk
/-- looked at: evaluated, held -/
theorem SE.held (ha : SE E a ta) (hl : σ.length = E.X.N.length) (w : E.ws fr (σ ++ tp) H F io) {α : Type} {k : RV → Fr → Rs α} {P : α → Fr → Prop} (h : ((ev E.T ta fr).bind k).all P (exE E σ tp F io))
    (q : ∀ r fr1 v H1 F1 io1, Same F F1 → Pre io io1 → E.ws fr1 (σ ++ tp) H1 F1 io1 → Hk E.G F1 io1 (σ ++ tp) (hold r) v → (k r fr1).all P (exE E σ tp F1 io1) → Q v H1) : wE E.X a σ H Q := @Rq9 _ _ (fun qz => @Hq9.get _ _ (qz.bar : Hq9 _ (by
  clear qz
  refine ha fr σ tp H F io Q hl w (Rs.all_imp (Rs.all_bind h) (fun r fr1 z => ?_) fun _ _ _ x => x)
  intro v H' F' io' s p w' rv
  obtain ⟨F2, s2, hk, w2⟩ := w'.hold rv
  exact q r fr1 v H' F2 io' (s.trans s2) p w2 hk (Rs.all_imp z (fun _ _ y => y) fun _ _ _ y => y.mono (s.trans s2) p)))) Xq9.mk
/-! ### names, constants -/
theorem lift_at {i : Nat} {x : Str} (hl : σ.length = E.X.N.length) (hN : E.X.N[i]? = some x) : (σ ++ tp)[i]? = σ[i]? := @Rq9 _ _ (fun qz => @Hq9.get _ _ (qz.bar : Hq9 _ (by
  clear qz
  have : i < E.X.N.length := (List.getElem?_eq_some_iff.mp hN).1
  rw [List.getElem?_append_left (by omega)]))) Xq9.mk
theorem SE_slot {i : Nat} {x : Str} {pos : Pos} (hN : E.X.N[i]? = some x) (hv : Vis E.X.env.scope x) (hd : (x == ("__debug__" : Str)) = false) (hcd : (x == ("__classdict__" : Str)) = false) : SE E (.Name x pos) (.slot i) := @Rq9 _ _ (fun qz => @Hq9.get _ _ (qz.bar : Hq9 _ (by
  clear qz
  intro fr σ tp H F io Q hl w h
  refine wE_of (pe_var hN hv hd hcd) ?_
  unfold ev at h
  cases q : fr.env[i]? with
  | none => simp [q] at h; exact h.elim
  | some s =>
    have sl := w.sl.at_ i s q
    rw [lift_at hl hN] at sl
    cases s with
    | un => simp [q] at h; exact h.elim
    | val d =>
      simp [q] at h
      obtain ⟨v, e1, r⟩ := sl
      exact ⟨v, e1, h v H F io (Same.refl _) (Pre.refl _) w r⟩
    | own xs =>
      simp [q] at h
      obtain ⟨p, e1, _⟩ := sl
      exact ⟨.ref p, e1, h _ H F io (Same.refl _) (Pre.refl _) w (show (σ ++ tp)[i]? = _ by rw [lift_at hl hN, e1])⟩))) Xq9.mk
theorem SE_non {j : Nat} {pos : Pos} : SE E (.Constant .none j pos) .non := fun fr σ tp H F io Q hl w h => wE_of pe_non (h _ H F io (Same.refl _) (Pre.refl _) w .non)
theorem SE_bl {b : Bool} {j : Nat} {pos : Pos} : SE E (.Constant (.bool b) j pos) (.bl b) := fun fr σ tp H F io Q hl w h => wE_of pe_bl (h _ H F io (Same.refl _) (Pre.refl _) w (.bl b))
theorem SE_int {i : Int} {j : Nat} {pos : Pos} : SE E (.Constant (.int i) j pos) (.int i) := fun fr σ tp H F io Q hl w h => wE_of pe_int (h _ H F io (Same.refl _) (Pre.refl _) w (.int i))
theorem SE_str {x : Str} {j : Nat} {pos : Pos} : SE E (.Constant (.str x) j pos) (.str x) := fun fr σ tp H F io Q hl w h => wE_of pe_str (h _ H F io (Same.refl _) (Pre.refl _) w (.str x))
/-! ### data by values -/
theorem Lk.int {G : Glb} {i : Int} {v : V} (h : Lk G F io H (.int i) v) : v = .int i := @Rq9 _ _ (fun qz => @Hq9.get _ _ (qz.bar : Hq9 _ (by
  clear qz
  rcases h with h | ⟨_, _, _, e, _⟩
  · cases h; rfl
  · cases e))) Xq9.mk
theorem Lk.str {G : Glb} {i : Str} {v : V} (h : Lk G F io H (.str i) v) : v = .str i := @Rq9 _ _ (fun qz => @Hq9.get _ _ (qz.bar : Hq9 _ (by
  clear qz
  rcases h with h | ⟨_, _, _, e, _⟩
  · cases h; rfl
  · cases e))) Xq9.mk
theorem Lk.bl {G : Glb} {i : Bool} {v : V} (h : Lk G F io H (.bl i) v) : v = .bl i := @Rq9 _ _ (fun qz => @Hq9.get _ _ (qz.bar : Hq9 _ (by
  clear qz
  rcases h with h | ⟨_, _, _, e, _⟩
  · cases h; rfl
  · cases e))) Xq9.mk
theorem Lk.non {G : Glb} {v : V} (h : Lk G F io H .non v) : v = .non := @Rq9 _ _ (fun qz => @Hq9.get _ _ (qz.bar : Hq9 _ (by
  clear qz
  rcases h with h | ⟨_, _, _, e, _⟩
  · cases h; rfl
  · cases e))) Xq9.mk
theorem Lk.lst {G : Glb} {xs : List D} {v : V} (s : Same F H) (h : Lk G F io H (.lst xs) v) : ∃ p vs, v = .ref p ∧ H p = some (.lst vs) ∧ Reps G F io xs vs := @Rq9 _ _ (fun qz => @Hq9.get _ _ (qz.bar : Hq9 _ (by
  clear qz
  rcases h with h | ⟨xs', p, vs, e, rfl, h1, h2⟩
  · cases h with | lst h r => exact ⟨_, _, rfl, s _ _ h, r⟩
  · cases e; exact ⟨p, vs, rfl, h1, h2⟩))) Xq9.mk
theorem Lk.rol {G : Glb} {xs : List D} {v : V} (s : Same F H) (h : Lk G F io H (.rol xs) v) : ∃ p vs, v = .ref p ∧ SqL G.K H p vs ∧ Reps G F io xs vs := @Rq9 _ _ (fun qz => @Hq9.get _ _ (qz.bar : Hq9 _ (by
  clear qz
  rcases h with h | ⟨xs', p, vs, e, rfl, h1, h2⟩
  · cases h with | rol h r => exact ⟨_, _, rfl, s.seq h, r⟩
  · cases e))) Xq9.mk
theorem Lk.tup {G : Glb} {xs : List D} {v : V} (s : Same F H) (h : Lk G F io H (.tup xs) v) : ∃ p vs, v = .ref p ∧ SqT G.K H p vs ∧ SqT G.K F p vs ∧ Reps G F io xs vs := @Rq9 _ _ (fun qz => @Hq9.get _ _ (qz.bar : Hq9 _ (by
  clear qz
  rcases h with h | ⟨_, _, _, e, _⟩
  · cases h with | tup h r => exact ⟨_, _, rfl, Same.sqT s h, h, r⟩
  · cases e))) Xq9.mk
mutual
theorem Rep.dp {K : PySem.W.Frag} {G : Glb} (hK : G.K = K) (s : Same F H) : ∀ {d : D} {v : V} {p : PyData}, Rep G F io d v → toPy d = some p → Dp K H v p
  | _, _, _, .non, e => by cases e; constructor
  | _, _, _, .bl b, e => by cases e; constructor
  | _, _, _, .int b, e => by cases e; constructor
  | _, _, _, .str b, e => by cases e; constructor
  | .tup ds, _, _, .tup h r, e => by
    unfold toPy at e
    cases q : toPys ds with
    | none => rw [q] at e; cases e
    | some ps =>
      rw [q] at e; cases e
      exact .tup (hK ▸ Same.sqT s h) (Reps.dp hK s r q)
  | .lst ds, _, _, .lst h r, e => by
    unfold toPy at e
    cases q : toPys ds with
    | none => rw [q] at e; cases e
    | some ps =>
      rw [q] at e; cases e
      exact .lst (SqL.of (s _ _ h)) (Reps.dp hK s r q)
  | _, _, _, .rol h r, e => by cases e
  | _, _, _, .obj h r, e => by cases e
  | _, _, _, .cell h, e => by cases e
theorem Reps.dp {K : PySem.W.Frag} {G : Glb} (hK : G.K = K) (s : Same F H) : ∀ {d : List D} {v : List V} {p : List PyData}, Reps G F io d v → toPys d = some p → DpAll K H v p
  | _, _, _, .nil, e => by cases e; constructor
  | d :: ds, _, _, .cons h r, e => by
    unfold toPys at e
    cases q1 : toPy d with
    | none => simp [q1] at e
    | some x =>
      cases q2 : toPys ds with
      | none => simp [q1, q2] at e
      | some xs =>
        simp [q1, q2] at e; subst e
        exact .cons (Rep.dp hK s h q1) (Reps.dp hK s r q2)
end
theorem Lk.dp {K : PySem.W.Frag} {G : Glb} (hK : G.K = K) (s : Same F H) {d : D} {v : V} {p : PyData} (h : Lk G F io H d v) (e : toPy d = some p) : Dp K H v p := @Rq9 _ _ (fun qz => @Hq9.get _ _ (qz.bar : Hq9 _ (by
  clear qz
  rcases h with h | ⟨xs, q, vs, rfl, rfl, h1, h2⟩
  · exact Rep.dp hK s h e
  · unfold toPy at e
    cases z : toPys xs with
    | none => rw [z] at e; cases e
    | some ps =>
      rw [z] at e; cases e
      exact .lst (SqL.of h1) (Reps.dp hK s h2 z)))) Xq9.mk
/-- the weakest reading of an operator by values -/
def wOp (X : Cx) (f : Value → Value → Sem Value) : R2 := fun x y H Q => ∀ (pins : List (Addr × Obj)) (σ : St) (s : Shared) (v u : Value), Inv X pins σ H s → RelV x v → RelV y u → wpAny (model X.prog X.w) X.A (f v u) (EP X pins σ Q) X.xe s
theorem op_w {X : Cx} {f : Value → Value → Sem Value} : OpR X f (wOp X f) := fun pins s σ H x y v u Q I r1 r2 h => h pins σ s v u I r1 r2
theorem wOp_of {X : Cx} {f : Value → Value → Sem Value} {r : R2} {x y : V} {H : Hp} {Q : VK} (h : OpR X f r) (q : r x y H Q) : wOp X f x y H Q := fun pins σ s v u I r1 r2 => h pins s σ H x y v u Q I r1 r2 q
end
end Ag
namespace Ag
open PySem L2
section
variable {G : Glb} {H0 : Ent} {H F F' : Hp} {n0 : Nat} {io : List Addr} {fr : Fr} {σ : St} {sto : List Cell}
theorem Wr.fresh (w : Wr G H0 n0 sto H F io) {p : Addr} (hp : H p = none) : F p = none ∧ (∀ n : Nat, io[n]? ≠ some p) ∧ H0 p = none := @Rq9 _ _ (fun qz => @Hq9.get _ _ (qz.bar : Hq9 _ (by
  clear qz
  have h1 : F p = none := by
    cases q : F p with
    | none => rfl
    | some o => rw [w.sub _ _ q] at hp; cases hp
  have h2 : ∀ n : Nat, io[n]? ≠ some p := fun n e => by
    have hn : n < sto.length := by rw [← w.len]; exact (List.getElem?_eq_some_iff.mp e).1
    obtain ⟨a, e1, _, e3⟩ := w.cel n sto[n] (List.getElem?_eq_getElem hn)
    rw [e] at e1; cases e1
    cases q : sto[n] with
    | dict kvs => rw [q] at e3; obtain ⟨vs, h, _⟩ := e3; rw [h] at hp; cases hp
    | dictT kvs => rw [q] at e3; obtain ⟨vs, h, _⟩ := e3; rw [h] at hp; cases hp
    | inst c fs => rw [q] at e3; obtain ⟨dx, vs, h, _⟩ := e3; rw [h] at hp; cases hp
  refine ⟨h1, h2, ?_⟩
  cases q : H0 p with
  | none => rfl
  | some o => rw [w.keep p o q fun n _ => h2 n] at hp; cases hp))) Xq9.mk
theorem Own.ne {xs : List D} {p q : Addr} (h : Own G H0 H F io xs q) (hp : H p = none) : q ≠ p := fun z => by
  obtain ⟨vs, e, _⟩ := h
  rw [z, hp] at e; cases e
/-- the heap grows at p, F too or not -/
theorem Ws.grow (w : Ws G H0 n0 fr σ H F io) {p : Addr} (hp : H p = none) (o : HO) (sF : Same F F') (oF : ∀ a, a ≠ p → F' a = F a) (sub : Same F' (upd H p o)) (fz : ∀ u, F' p = some u → Fz u) : Ws G H0 n0 fr σ (upd H p o) F' io := @Rq9 _ _ (fun qz => @Hq9.get _ _ (qz.bar : Hq9 _ (by
  clear qz
  obtain ⟨f1, f2, f3⟩ := w.wr.fresh hp
  have ho : ∀ a u, H a = some u → (upd H p o) a = some u := fun a u e => by rw [upd_ne (ne_of_none e hp)]; exact e
  refine ⟨⟨sub, w.wr.len, fun n c e => ?_, w.wr.inj, fun a u e k => ho a u (w.wr.keep a u e k), w.wr.new, fun a u e => ?_, w.wr.nle, fun a u x e1 e2 => ?_⟩, w.sl.len, fun i s e => ?_, w.sl.dis⟩
  · obtain ⟨a, e1, e2, e3⟩ := w.wr.cel n c e
    have na : a ≠ p := fun z => f2 n (z ▸ e1)
    refine ⟨a, e1, by rw [oF a na]; exact e2, ?_⟩
    cases c with
    | dict kvs => obtain ⟨us, h1, h2⟩ := e3; exact ⟨us, ho _ _ h1, h2.mono sF (Pre.refl _)⟩
    | dictT kvs => obtain ⟨us, h1, h2⟩ := e3; exact ⟨us, ho _ _ h1, h2.mono sF (Pre.refl _)⟩
    | inst c fs => obtain ⟨dx, us, h1, h2⟩ := e3; exact ⟨dx, us, ho _ _ h1, h2.mono sF (Pre.refl _)⟩
  · by_cases h : a = p
    · subst h; exact fz u e
    · rw [oF a h] at e; exact w.wr.frz a u e
  · have h : a ≠ p := fun z => by rw [z, f3] at e1; cases e1
    rw [oF a h] at e2; exact w.wr.old a u x e1 e2
  · refine SlOk.mono sF (Pre.refl _) (fun xs q h => ?_) (w.sl.at_ i s e)
    have nq := h.ne hp
    obtain ⟨vs, h1, h2, h3, h4, h5⟩ := h
    exact ⟨vs, ho _ _ h1, by rw [oF q nq]; exact h2, h3, h4, h5.mono sF (Pre.refl _)⟩))) Xq9.mk
theorem Ws.newFrz (w : Ws G H0 n0 fr σ H F io) {p : Addr} (hp : H p = none) (o : HO) (fo : Fz o) : Same F (upd F p o) ∧ Ws G H0 n0 fr σ (upd H p o) (upd F p o) io := @Rq9 _ _ (fun qz => @Hq9.get _ _ (qz.bar : Hq9 _ (by
  clear qz
  obtain ⟨f1, f2, f3⟩ := w.wr.fresh hp
  have s : Same F (upd F p o) := fun a u e => by rw [upd_ne (ne_of_none e f1)]; exact e
  refine ⟨s, w.grow hp o s (fun a ha => upd_ne ha) (fun a u e => ?_) fun u e => by rw [upd_same] at e; cases e; exact fo⟩
  by_cases h : a = p
  · subst h; rw [upd_same] at e ⊢; exact e
  · rw [upd_ne h] at e ⊢; exact w.wr.sub a u e))) Xq9.mk
theorem Ws.newOwn (w : Ws G H0 n0 fr σ H F io) {p : Addr} (hp : H p = none) {xs : List D} {vs : List V} (r : Reps G F io xs vs) :
    Ws G H0 n0 fr σ (upd H p (.lst vs)) F io ∧ RvOk G H0 (upd H p (.lst vs)) F io fr.env σ (.out (.fresh xs)) (.ref p) := @Rq9 _ _ (fun qz => @Hq9.get _ _ (qz.bar : Hq9 _ (by
  clear qz
  obtain ⟨f1, f2, f3⟩ := w.wr.fresh hp
  refine ⟨w.grow hp _ (Same.refl _) (fun _ _ => rfl) (fun a u e => ?_) (fun u e => by rw [f1] at e; cases e), p, rfl, ⟨vs, upd_same, f1, f2, f3, r⟩, fun i ys e z => ?_⟩
  · rw [upd_ne (ne_of_none (w.wr.sub a u e) hp)]; exact w.wr.sub a u e
  · obtain ⟨q, e1, hq⟩ := w.sl.at_ i _ e
    rw [z] at e1; cases e1
    exact hq.ne hp rfl))) Xq9.mk
theorem Ws.newTup (w : Ws G H0 n0 fr σ H F io) {p : Addr} (hp : H p = none) {xs : List D} {vs : List V} (r : Reps G F io xs vs) :
    ∃ F', Same F F' ∧ Ws G H0 n0 fr σ (upd H p (.tup vs)) F' io ∧ Rep G F' io (.tup xs) (.ref p) := @Rq9 _ _ (fun qz => @Hq9.get _ _ (qz.bar : Hq9 _ (by
  clear qz
  obtain ⟨s, w'⟩ := w.newFrz hp (.tup vs) trivial
  exact ⟨_, s, w', .tup (SqT.of upd_same) (r.mono s (Pre.refl _))⟩))) Xq9.mk
end
section
variable {E : En} {e a b c : Expr} {ta tb tc : Tm} {fr : Fr} {σ tp : St} {H F : Hp} {io : List Addr} {Q : VK} {pos : Pos}
theorem okE.int (w : E.ws fr (σ ++ tp) H F io) {i : Int} (h : okE E σ tp F io Q (.out (.val (.int i))) fr) : Q (.int i) H := h _ H F io (Same.refl _) (Pre.refl _) w (.int i)
theorem okE.bl (w : E.ws fr (σ ++ tp) H F io) {i : Bool} (h : okE E σ tp F io Q (.out (.val (.bl i))) fr) : Q (.bl i) H := h _ H F io (Same.refl _) (Pre.refl _) w (.bl i)
theorem okE.str (w : E.ws fr (σ ++ tp) H F io) {i : Str} (h : okE E σ tp F io Q (.out (.val (.str i))) fr) : Q (.str i) H := h _ H F io (Same.refl _) (Pre.refl _) w (.str i)
theorem okE.non (w : E.ws fr (σ ++ tp) H F io) (h : okE E σ tp F io Q (.out (.val .non)) fr) : Q .non H := h _ H F io (Same.refl _) (Pre.refl _) w .non
theorem okE.mono {F' : Hp} {io' : List Addr} (s : Same F F') (p : Pre io io') {r : RV} (h : okE E σ tp F io Q r fr) : okE E σ tp F' io' Q r fr :=
  fun v H' F2 io2 s2 p2 w x => h v H' F2 io2 (s.trans s2) (p.trans p2) w x
theorem okE.fresh (w : E.ws fr (σ ++ tp) H F io) {xs : List D} {vs : List V} (r : Reps E.G F io xs vs) (h : okE E σ tp F io Q (.out (.fresh xs)) fr) {p : Addr} (hp : H p = none) : Q (.ref p) (upd H p (.lst vs)) := @Rq9 _ _ (fun qz => @Hq9.get _ _ (qz.bar : Hq9 _ (by
  clear qz
  obtain ⟨w', rv⟩ := w.newOwn hp r
  exact h _ _ F io (Same.refl _) (Pre.refl _) w' rv))) Xq9.mk
theorem okE.tup (w : E.ws fr (σ ++ tp) H F io) {xs : List D} {vs : List V} (r : Reps E.G F io xs vs) (h : okE E σ tp F io Q (.out (.val (.tup xs))) fr) {p : Addr} (hp : H p = none) : Q (.ref p) (upd H p (.tup vs)) := @Rq9 _ _ (fun qz => @Hq9.get _ _ (qz.bar : Hq9 _ (by
  clear qz
  obtain ⟨F', s, w', rv⟩ := w.newTup hp r
  exact h _ _ F' io s (Pre.refl _) w' rv))) Xq9.mk
def opM : Op2 → Operator
  | .add => .Add | .sub => .Sub | .mul => .Mult | .fdiv => .FloorDiv | .mod => .Mod | .pow => .Pow
def cmM : Cm → CmpOp
  | .eq => .Eq | .ne => .NotEq | .lt => .Lt | .le => .LtE | .gt => .Gt | .ge => .GtE | .is_ => .Is | .isn => .IsNot | .in_ => .In | .nin => .NotIn
theorem mulOk_ok {i j : Int} (h : mulOk i j = true) : CMulW i j := by unfold mulOk at h; exact (of_decide_eq_true h : _ < _)
theorem divOk_ok {j : Int} (i : Int) (h : divOk j = true) : CDivW i j := @Rq9 _ _ (fun qz => @Hq9.get _ _ (qz.bar : Hq9 _ (by
  clear qz
  unfold divOk at h
  rw [Bool.and_eq_true] at h
  exact ⟨of_decide_eq_true h.1, of_decide_eq_true h.2⟩))) Xq9.mk
theorem powOk_ok {i j : Int} (h : powOk i j = true) : CPow i j := @Rq9 _ _ (fun qz => @Hq9.get _ _ (qz.bar : Hq9 _ (by
  clear qz
  unfold powOk at h
  rw [Bool.and_eq_true, Bool.and_eq_true] at h
  exact ⟨of_decide_eq_true h.1.1, of_decide_eq_true h.1.2, of_decide_eq_true h.2⟩))) Xq9.mk
theorem op_mul_str {X : Cx} : OpR X (binaryOp .Mult) (fun x y H Q => ∃ i k, x = .str i ∧ y = .int k ∧ i.length ≤ 16 ∧ -(2 ^ 63) ≤ k ∧ k ≤ ((1048576 : Nat) : Int) ∧ Q (.str (Txt.mul i k)) H) := @Rq9 _ _ (fun qz => @Hq9.get _ _ (qz.bar : Hq9 _ (by
  clear qz
  intro pins s σ H x y v u Q I rx ry h
  obtain ⟨i, k, rfl, rfl, hz, h1, h2, q⟩ := h
  obtain ⟨t, rfl⟩ := rx
  obtain ⟨t', rfl⟩ := ry
  exact PySem.W.KXi.mul rfl hz h1 h2 (fun t' tk _ _ => ⟨.str _, H, I.tok _, ⟨_, rfl⟩, q⟩)))) Xq9.mk
theorem Reps.rep {G : Glb} {ds : List D} {vs : List V} (r : Reps G F io ds vs) : ∀ n : Nat, Reps G F io (List.replicate n ds).flatten (List.replicate n vs).flatten
  | 0 => .nil
  | n + 1 => by
    rw [List.replicate_succ, List.replicate_succ, List.flatten_cons, List.flatten_cons]
    exact r.append (Reps.rep r n)
/-- the operators by values -/
theorem opD_ok (ok : E.Ok) {op : Op2} {x y : D} {o : Out} {v u : V} (w : E.ws fr (σ ++ tp) H F io) (hx : Lk E.G F io H x v) (hy : Lk E.G F io H y u) (e : opD op x y = some o) (h : okE E σ tp F io Q (.out o) fr) :
    wOp E.X (binaryOp (opM op)) v u H Q := @Rq9 _ _ (fun qz => @Hq9.get _ _ (qz.bar : Hq9 _ (by
  clear qz
  unfold opD at e
  split at e
  · cases e; rw [hx.int, hy.int]; exact wOp_of op_add ⟨_, _, rfl, rfl, h.int w⟩
  · cases e; rw [hx.int, hy.int]; exact wOp_of op_sub ⟨_, _, rfl, rfl, h.int w⟩
  · split at e <;> cases e
    rename_i hm
    rw [hx.int, hy.int]; exact wOp_of op_mulW ⟨_, _, rfl, rfl, mulOk_ok hm, h.int w⟩
  · split at e <;> cases e
    rename_i hm
    rw [hx.int, hy.int]; exact wOp_of op_fdivW ⟨_, _, rfl, rfl, divOk_ok _ hm, h.int w⟩
  · split at e <;> cases e
    rename_i hm
    rw [hx.int, hy.int]; exact wOp_of op_mod ⟨_, _, rfl, rfl, hm, h.int w⟩
  · split at e <;> cases e
    rename_i hm
    rw [hx.int, hy.int]; exact wOp_of op_pow ⟨_, _, rfl, rfl, powOk_ok hm, h.int w⟩
  · split at e <;> cases e
    rename_i hm
    rw [hx.str, hy.int]; exact wOp_of op_mul_str ⟨_, _, rfl, rfl, hm.1, by omega, hm.2.2, h.str w⟩
  · split at e <;> cases e
    rename_i hm
    obtain ⟨p, vs, rfl, h1, r1⟩ := hx.lst w.wr.sub
    rw [hy.int]
    exact wOp_of op_rep ⟨_, _, _, rfl, rfl, h1, hm.2.1, hm.2.2, by rw [← r1.length]; exact hm.1, fun l hl => h.fresh w (r1.rep _) hl⟩
  · split at e <;> cases e
    rename_i hm
    rw [hx.str, hy.str]; exact wOp_of op_add_str ⟨_, _, rfl, rfl, hm, h.str w⟩
  · split at e <;> cases e
    rename_i hm
    obtain ⟨p, vs, rfl, h1, r1⟩ := hx.lst w.wr.sub
    obtain ⟨q, us, rfl, h2, r2⟩ := hy.lst w.wr.sub
    refine wOp_of op_cat ⟨_, _, _, _, rfl, rfl, h1, h2, by rw [← r1.length, ← r2.length]; exact hm, fun l hl => h.fresh w (r1.append r2) hl⟩
  · split at e <;> cases e
    rename_i hm
    obtain ⟨p, vs, rfl, h1, g1, r1⟩ := hx.tup w.wr.sub
    obtain ⟨q, us, rfl, h2, g2, r2⟩ := hy.tup w.wr.sub
    rw [ok.k] at h1 h2
    refine wOp_of op_catA ⟨_, _, _, _, rfl, rfl, h1, h2, by rw [← r1.length, ← r2.length]; exact hm, fun z => ?_, fun _ z => ?_, fun _ _ l hl => h.tup w (r1.append r2) hl⟩
    · subst z; cases r1
      exact h _ H F io (Same.refl _) (Pre.refl _) w (.tup g2 r2)
    · subst z; cases r2
      exact h _ H F io (Same.refl _) (Pre.refl _) w (by rw [List.append_nil]; exact .tup g1 r1)
  · cases e))) Xq9.mk
theorem op_isB {X : Cx} {b : Bool} : OpR X (compareOp .Is) (fun x y H Q => y = .bl b ∧ Q (.bl (decide (x = .bl b))) H) := @Rq9 _ _ (fun qz => @Hq9.get _ _ (qz.bar : Hq9 _ (by
  clear qz
  intro pins s σ H x y v u Q I rx ry h
  obtain ⟨rfl, q⟩ := h
  cases ry
  cases x <;> first
    | (cases rx; exact wpAny_pure (fin_bl I q rfl))
    | (cases rx; rename_i c; exact wpAny_pure (fin_bl I q (by cases b <;> cases c <;> rfl)))
    | (obtain ⟨t, rfl⟩ := rx; exact wpAny_pure (fin_bl I q rfl))))) Xq9.mk
theorem op_notB {X : Cx} {b : Bool} : OpR X (compareOp .IsNot) (fun x y H Q => y = .bl b ∧ Q (.bl (!decide (x = .bl b))) H) := @Rq9 _ _ (fun qz => @Hq9.get _ _ (qz.bar : Hq9 _ (by
  clear qz
  intro pins s σ H x y v u Q I rx ry h
  obtain ⟨rfl, q⟩ := h
  cases ry
  cases x <;> first
    | (cases rx; exact wpAny_pure (fin_bl I q rfl))
    | (cases rx; rename_i c; exact wpAny_pure (fin_bl I q (by cases b <;> cases c <;> rfl)))
    | (obtain ⟨t, rfl⟩ := rx; exact wpAny_pure (fin_bl I q rfl))))) Xq9.mk
theorem Lk.isBl {b : Bool} {d : D} {v : V} (h : Lk E.G F io H d v) : decide (v = .bl b) = isBl b d := @Rq9 _ _ (fun qz => @Hq9.get _ _ (qz.bar : Hq9 _ (by
  clear qz
  rcases h with h | ⟨xs, p, vs, rfl, rfl, _⟩
  · cases h <;> first
      | rfl
      | (rename_i c; cases b <;> cases c <;> rfl)
  · rfl))) Xq9.mk
theorem Lk.isNon {d : D} {v : V} (h : Lk E.G F io H d v) : decide (v = .non) = isNon d := @Rq9 _ _ (fun qz => @Hq9.get _ _ (qz.bar : Hq9 _ (by
  clear qz
  rcases h with h | ⟨xs, p, vs, rfl, rfl, _⟩
  · cases h <;> rfl
  · rfl))) Xq9.mk
theorem flat_v {d : D} {v : V} (h : Lk E.G F io H d v) (f : flatD d = true) : flatV v = true := @Rq9 _ _ (fun qz => @Hq9.get _ _ (qz.bar : Hq9 _ (by
  clear qz
  rcases h with h | ⟨xs, p, vs, rfl, rfl, _⟩
  · cases h <;> first | rfl | cases f
  · cases f))) Xq9.mk
theorem flat_eq {d d' : D} {v v' : V} (h : Lk E.G F io H d v) (f : flatD d = true) (h' : Lk E.G F io H d' v') (f' : flatD d' = true) : eqV v v' = eqF d d' := @Rq9 _ _ (fun qz => @Hq9.get _ _ (qz.bar : Hq9 _ (by
  clear qz
  rcases h with h | ⟨xs, p, vs, rfl, rfl, _⟩
  · rcases h' with h' | ⟨xs, p, vs, rfl, rfl, _⟩
    · cases h <;> cases h' <;> first | rfl | cases f | cases f'
    · cases f'
  · cases f))) Xq9.mk
theorem flats_v : ∀ {ds : List D} {vs : List V}, Reps E.G F io ds vs → ds.all flatD = true → vs.all flatV = true
  | _, _, .nil, _ => rfl
  | _, _, .cons h r, f => by
    rw [List.all_cons, Bool.and_eq_true] at f ⊢
    exact ⟨flat_v (H := fun _ => none) (.inl h) f.1, flats_v r f.2⟩
theorem flats_in {d : D} {v : V} (h : Lk E.G F io H d v) (f : flatD d = true) : ∀ {ds : List D} {vs : List V}, Reps E.G F io ds vs → ds.all flatD = true → inV v vs = inF d ds
  | _, _, .nil, _ => rfl
  | _, _, .cons (d := x) (v := y) (ds := ds) (vs := vs) hx r, f' => by
    rw [List.all_cons, Bool.and_eq_true] at f'
    have e1 := flat_eq (E := E) (H := H) (.inl hx) f'.1 h f
    have e2 := flats_in h f r f'.2
    unfold inV inF at e2 ⊢
    rw [List.any_cons, List.any_cons, e1, e2]
theorem eqD_ok (ok : E.Ok) {x y : D} {k : Bool} {v u : V} (w : E.ws fr (σ ++ tp) H F io) (hx : Lk E.G F io H x v) (hy : Lk E.G F io H y u) (e : eqP x y = some k) :
    ∃ d e, Dp E.X.K H v d ∧ Dp E.X.K H u e ∧ SeqAt.shaped d = true ∧ SeqAt.shaped e = true ∧ PyData.eqv d e = k := @Rq9 _ _ (fun qz => @Hq9.get _ _ (qz.bar : Hq9 _ (by
  clear qz
  unfold eqP at e
  cases q1 : toPy x with
  | none => simp [q1] at e
  | some a =>
    cases q2 : toPy y with
    | none => simp [q1, q2] at e
    | some b =>
      simp [q1, q2] at e
      exact ⟨a, b, hx.dp ok.k w.wr.sub q1, hy.dp ok.k w.wr.sub q2, e.1.1, e.1.2, e.2⟩))) Xq9.mk
theorem scal_ok {x y : D} {k : Bool} {v u : V} (hx : Lk E.G F io H x v) (hy : Lk E.G F io H y u) (e : scalD x y = some k) : scal v u = true ∧ decide (v = u) = k := @Rq9 _ _ (fun qz => @Hq9.get _ _ (qz.bar : Hq9 _ (by
  clear qz
  have fx : flatD x = true := by unfold scalD at e; split at e <;> first | rfl | cases e
  have fy : flatD y = true := by unfold scalD at e; split at e <;> first | rfl | cases e
  rcases hx with hx | ⟨_, _, _, rfl, _⟩
  · rcases hy with hy | ⟨_, _, _, rfl, _⟩
    · cases hx <;> cases hy <;> first | (cases e <;> exact ⟨rfl, by simp⟩) | cases fx | cases fy
    · cases fy
  · cases fx))) Xq9.mk
theorem inP_ok (ok : E.Ok) {x : D} {ys : List D} {k : Bool} {v u : V} (w : E.ws fr (σ ++ tp) H F io) (hx : Lk E.G F io H x v) (hy : Lk E.G F io H (.lst ys) u) (e : inP x ys = some k) :
    ∃ d ds, Dp E.X.K H v d ∧ Dp E.X.K H u (.list ds) ∧ SeqAt.shaped d = true ∧ SeqAt.shaped (.list ds) = true ∧ (ds.any fun z => PyData.eqv z d) = k := @Rq9 _ _ (fun qz => @Hq9.get _ _ (qz.bar : Hq9 _ (by
  clear qz
  unfold inP at e
  cases q1 : toPy x with
  | none => rw [q1] at e; cases e
  | some a =>
    cases q2 : toPys ys with
    | none => rw [q1, q2] at e; cases e
    | some bs =>
      rw [q1, q2] at e
      dsimp only at e
      split at e
      · rename_i g
        rw [Bool.and_eq_true] at g
        exact ⟨a, bs, hx.dp ok.k w.wr.sub q1, hy.dp ok.k w.wr.sub (by unfold toPy; rw [q2]; rfl), g.1, g.2, Option.some.inj e⟩
      · cases e))) Xq9.mk
theorem eq_ok (ok : E.Ok) {x y : D} {k : Bool} {v u : V} (w : E.ws fr (σ ++ tp) H F io) (hx : Lk E.G F io H x v) (hy : Lk E.G F io H y u) (e : eqD x y = some k) :
    (Q (.bl k) H → wOp E.X (compareOp .Eq) v u H Q) ∧ (Q (.bl (!k)) H → wOp E.X (compareOp .NotEq) v u H Q) := @Rq9 _ _ (fun qz => @Hq9.get _ _ (qz.bar : Hq9 _ (by
  clear qz
  unfold eqD at e
  cases q : scalD x y with
  | some b =>
    rw [q] at e; cases e
    obtain ⟨h1, h2⟩ := scal_ok hx hy q
    exact ⟨fun h => wOp_of op_eq ⟨h1, by rw [h2]; exact h⟩, fun h => wOp_of op_ne ⟨h1, by rw [h2]; exact h⟩⟩
  | none =>
    rw [q] at e
    obtain ⟨d, d', h1, h2, h3, h4, h5⟩ := eqD_ok ok w hx hy e
    exact ⟨fun h => wOp_of (op_eqD ok.hu) ⟨d, d', h1, h2, h3, h4, h5 ▸ h⟩, fun h => wOp_of (op_neD ok.hu) ⟨d, d', h1, h2, h3, h4, h5 ▸ h⟩⟩))) Xq9.mk
theorem cmpD_ok (ok : E.Ok) {op : Cm} {x y : D} {k : Bool} {v u : V} (w : E.ws fr (σ ++ tp) H F io) (hx : Lk E.G F io H x v) (hy : Lk E.G F io H y u) (e : cmpD op x y = some k) (h : Q (.bl k) H) :
    wOp E.X (compareOp (cmM op)) v u H Q := @Rq9 _ _ (fun qz => @Hq9.get _ _ (qz.bar : Hq9 _ (by
  clear qz
  unfold cmpD at e
  split at e
  · exact (eq_ok ok w hx hy e).1 h
  · cases q : eqD x y with
    | none => rw [q] at e; cases e
    | some b =>
      rw [q] at e
      have e' : (!b) = k := Option.some.inj e
      exact (eq_ok ok w hx hy q).2 (by rw [e']; exact h)
  · cases e; rw [hx.int, hy.int]; exact wOp_of op_lt ⟨_, _, rfl, rfl, h⟩
  · cases e; rw [hx.int, hy.int]; exact wOp_of op_le ⟨_, _, rfl, rfl, h⟩
  · cases e; rw [hx.int, hy.int]; exact wOp_of op_gt ⟨_, _, rfl, rfl, h⟩
  · cases e; rw [hx.int, hy.int]; exact wOp_of op_ge ⟨_, _, rfl, rfl, h⟩
  · cases e; rw [hy.non]; exact wOp_of op_isN ⟨rfl, by rw [hx.isNon]; exact h⟩
  · cases e; rw [hy.non]; exact wOp_of op_notN ⟨rfl, by rw [hx.isNon]; exact h⟩
  · cases e; rw [hy.bl]; exact wOp_of op_isB ⟨rfl, by rw [hx.isBl]; exact h⟩
  · cases e; rw [hy.bl]; exact wOp_of op_notB ⟨rfl, by rw [hx.isBl]; exact h⟩
  · cases e; rw [hx.str, hy.str]; exact wOp_of op_in_str ⟨_, _, rfl, rfl, h⟩
  · cases e; rw [hx.str, hy.str]; exact wOp_of op_notin_str ⟨_, _, rfl, rfl, h⟩
  · split at e <;> cases e
    rename_i f
    rw [Bool.and_eq_true] at f
    obtain ⟨p, vs, rfl, h1, g1, r1⟩ := hy.tup w.wr.sub
    rw [ok.k] at h1
    exact wOp_of op_in_seq ⟨_, _, rfl, .inr h1, flat_v hx f.1, flats_v r1 f.2, by rw [flats_in hx f.1 r1 f.2]; exact h⟩
  · split at e <;> cases e
    rename_i f
    rw [Bool.and_eq_true] at f
    obtain ⟨p, vs, rfl, h1, g1, r1⟩ := hy.tup w.wr.sub
    rw [ok.k] at h1
    exact wOp_of op_notIn_seq ⟨_, _, rfl, .inr h1, flat_v hx f.1, flats_v r1 f.2, by rw [flats_in hx f.1 r1 f.2]; exact h⟩
  · split at e
    · cases e
      rename_i f
      rw [Bool.and_eq_true] at f
      obtain ⟨p, vs, rfl, h1, r1⟩ := hy.lst w.wr.sub
      exact wOp_of op_in_seq ⟨_, _, rfl, .inl (SqL.of h1), flat_v hx f.1, flats_v r1 f.2, by rw [flats_in hx f.1 r1 f.2]; exact h⟩
    · obtain ⟨d, ds, h1, h2, h3, h4, h5⟩ := inP_ok ok w hx hy e
      exact wOp_of (op_inD ok.hu5) ⟨d, ds, h1, h2, h3, h4, h5 ▸ h⟩
  · split at e
    · cases e
      rename_i f
      rw [Bool.and_eq_true] at f
      obtain ⟨p, vs, rfl, h1, r1⟩ := hy.lst w.wr.sub
      exact wOp_of op_notIn_seq ⟨_, _, rfl, .inl (SqL.of h1), flat_v hx f.1, flats_v r1 f.2, by rw [flats_in hx f.1 r1 f.2]; exact h⟩
    · rename_i ys _
      cases q : inP x ys with
      | none => rw [q] at e; cases e
      | some b =>
        rw [q] at e
        have e' : (!b) = k := Option.some.inj e
        obtain ⟨d, ds, h1, h2, h3, h4, h5⟩ := inP_ok ok w hx hy q
        exact wOp_of (op_notInD ok.hu5) ⟨d, ds, h1, h2, h3, h4, by rw [h5, e']; exact h⟩
  · cases e))) Xq9.mk
/-! ### operators -/
theorem two_held (ha : SE E a ta) (hb : SE E b tb) (hl : σ.length = E.X.N.length) (w : E.ws fr (σ ++ tp) H F io) {α : Type} {k : D → D → Fr → Rs α} {P : α → Fr → Prop}
    (h : ((ev E.T ta fr).bind fun x fr1 => (ev E.T tb fr1).bind fun y fr2 => match look fr2.env (hold x), look fr2.env (hold y) with | some d, some e => k d e fr2 | _, _ => .bad).all P (exE E σ tp F io))
    {R : R2} (q : ∀ d e fr2 v u H2 F2 io2, Same F F2 → Pre io io2 → E.ws fr2 (σ ++ tp) H2 F2 io2 → Lk E.G F2 io2 H2 d v → Lk E.G F2 io2 H2 e u → (k d e fr2).all P (exE E σ tp F2 io2) → R v u H2 Q) :
    tOp R (wE E.X a) (wE E.X b) σ H Q := @Rq9 _ _ (fun qz => @Hq9.get _ _ (qz.bar : Hq9 _ (by
  clear qz
  refine ha.held hl w h fun r fr1 v H1 F1 io1 s1 p1 w1 hk1 h1 => ?_
  refine hb.held hl w1 h1 fun r2 fr2 u H2 F2 io2 s2 p2 w2 hk2 h2 => ?_
  cases e1 : look fr2.env (hold r) with
  | none => simp [e1] at h2; exact h2.elim
  | some d =>
    cases e2 : look fr2.env (hold r2) with
    | none => simp [e1, e2] at h2; exact h2.elim
    | some d2 =>
      simp only [e1, e2] at h2
      exact q d d2 fr2 v u H2 F2 io2 (s1.trans s2) (p1.trans p2) w2 (w2.look (hk1.mono s2 p2) e1) (w2.look hk2 e2) h2))) Xq9.mk
theorem SE_bin (ok : E.Ok) (ha : SE E a ta) (hb : SE E b tb) {op : Op2} : SE E (.BinOp a (opM op) b pos) (.bin op ta tb) := @Rq9 _ _ (fun qz => @Hq9.get _ _ (qz.bar : Hq9 _ (by
  clear qz
  intro fr σ tp H F io Q hl w h
  refine wE_of (pe_op op_w pe_w pe_w) ?_
  unfold ev at h
  refine two_held ha hb hl w h fun d e fr2 v u H2 F2 io2 s p w2 l1 l2 z => ?_
  cases q : opD op d e with
  | none => simp [q] at z; exact z.elim
  | some o =>
    simp only [q] at z
    exact opD_ok ok w2 l1 l2 q (okE.mono s p z)))) Xq9.mk
end
end Ag
namespace Ag
open PySem L2
def wW (X : Cx) (e : Expr) : TT := fun σ H Q => ∀ (whole : Sem Value) (pins : List (Addr × Obj)) (s : Shared), Inv X pins σ H s → wpAny (model X.prog X.w) X.A (isTrue e X.env whole) (TP X pins σ Q) X.xe s
theorem pw_w {X : Cx} {e : Expr} : PW X e (wW X e) := ⟨fun whole pins s σ H Q I h => h whole pins s I⟩
theorem wW_of {X : Cx} {e : Expr} {t : TT} {σ : St} {H : Hp} {Q : Bool → Hp → Prop} (h : PW X e t) (q : t σ H Q) : wW X e σ H Q := fun whole pins s I => h.run whole pins s σ H Q I q
section
variable (E : En)
def SW (e : Expr) (t : Tm) : Prop := ∀ (fr : Fr) (σ tp : St) (H F : Hp) (io : List Addr) (Q : Bool → Hp → Prop), σ.length = E.X.N.length → E.ws fr (σ ++ tp) H F io →
  (ev E.T t fr).all (fun r fr => ∃ b, look fr.env r = some (.bl b) ∧ ∀ H' F' io', Same F F' → Pre io io' → E.ws fr (σ ++ tp) H' F' io' → Q b H') (exE E σ tp F io) → wW E.X e σ H Q
end
section
variable {E : En} {e a b c : Expr} {ta tb tc : Tm} {fr : Fr} {σ tp : St} {H F : Hp} {io : List Addr} {Q : VK} {pos : Pos}
theorem toD_bl {r : RV} {fr fr' : Fr} {b : Bool} (h : toD fr r = some (.bl b, fr')) : fr' = fr ∧ look fr.env r = some (.bl b) := @Rq9 _ _ (fun qz => @Hq9.get _ _ (qz.bar : Hq9 _ (by
  clear qz
  cases r with
  | out o =>
    cases o with
    | val d => cases h; exact ⟨rfl, rfl⟩
    | fresh xs => cases h
  | var i =>
    unfold toD at h
    unfold look
    cases q : fr.env[i]? with
    | none => simp [q] at h
    | some s =>
      cases s with
      | un => simp [q] at h
      | val d => simp [q] at h ⊢; exact ⟨h.2.symm, h.1⟩
      | own xs => simp [q] at h))) Xq9.mk
theorem all_asB {α : Type} {m : Rs RV} {k : Bool → Fr → Rs α} {P : α → Fr → Prop} {PX : Nat → List D → Fr → Prop} (h : (m.fr fun d fr1 => asB d fr1 k).all P PX) :
    m.all (fun r fr => ∃ b, look fr.env r = some (.bl b) ∧ (k b fr).all P PX) PX := @Rq9 _ _ (fun qz => @Hq9.get _ _ (qz.bar : Hq9 _ (by
  clear qz
  refine Rs.all_imp (Rs.all_fr h) (fun r fr z => ?_) fun _ _ _ z => z
  obtain ⟨d, fr', e, z⟩ := z
  cases d with
  | bl b =>
    obtain ⟨rfl, e2⟩ := toD_bl e
    exact ⟨b, e2, z⟩
  | _ => exact z.elim))) Xq9.mk
/-- a test, then by its answer -/
theorem ST.test {α : Type} (hc : ST E c tc) (hl : σ.length = E.X.N.length) (w : E.ws fr (σ ++ tp) H F io) {k : Bool → Fr → Rs α} {P : α → Fr → Prop}
    (h : ((ev E.T tc fr).fr fun d fr1 => asB d fr1 k).all P (exE E σ tp F io)) {R : Bool → Hp → Prop}
    (q : ∀ t fr1 H1 F1 io1, Same F F1 → Pre io io1 → E.ws fr1 (σ ++ tp) H1 F1 io1 → (k t fr1).all P (exE E σ tp F1 io1) → R t H1) : wT E.X c σ H R := @Rq9 _ _ (fun qz => @Hq9.get _ _ (qz.bar : Hq9 _ (by
  clear qz
  refine hc fr σ tp H F io R hl w (Rs.all_imp (all_asB h) (fun r fr1 z => ?_) fun _ _ _ x => x)
  obtain ⟨t, e1, z⟩ := z
  exact ⟨t, e1, fun H1 F1 io1 s p w1 => q t fr1 H1 F1 io1 s p w1 (Rs.all_imp z (fun _ _ y => y) fun _ _ _ y => y.mono s p)⟩))) Xq9.mk
theorem SE.tested {α : Type} (hc : SE E c tc) (hl : σ.length = E.X.N.length) (w : E.ws fr (σ ++ tp) H F io) {k : Bool → Fr → Rs α} {P : α → Fr → Prop}
    (h : ((ev E.T tc fr).fr fun d fr1 => asB d fr1 k).all P (exE E σ tp F io)) {R : VK}
    (q : ∀ t fr1 H1 F1 io1, Same F F1 → Pre io io1 → E.ws fr1 (σ ++ tp) H1 F1 io1 → (k t fr1).all P (exE E σ tp F1 io1) → R (.bl t) H1) : wE E.X c σ H R := @Rq9 _ _ (fun qz => @Hq9.get _ _ (qz.bar : Hq9 _ (by
  clear qz
  refine hc fr σ tp H F io R hl w (Rs.all_imp (all_asB h) (fun r fr1 z => ?_) fun _ _ _ x => x)
  obtain ⟨t, e1, z⟩ := z
  intro v H1 F1 io1 s p w1 rv
  have hv : v = .bl t := by
    obtain ⟨F2, s2, hk, w2⟩ := w1.hold rv
    have e2 : look fr1.env (hold r) = some (.bl t) := by
      cases r with
      | out o =>
        cases o with
        | val d => exact e1
        | fresh xs => cases e1
      | var i => exact e1
    exact (w2.look hk e2).bl
  rw [hv]
  exact q t fr1 H1 F1 io1 s p w1 (Rs.all_imp z (fun _ _ y => y) fun _ _ _ y => y.mono s p)))) Xq9.mk
theorem SE_neg (ha : SE E a ta) : SE E (.UnaryOp .USub a pos) (.neg ta) := @Rq9 _ _ (fun qz => @Hq9.get _ _ (qz.bar : Hq9 _ (by
  clear qz
  intro fr σ tp H F io Q hl w h
  refine wE_of (pe_un un_neg pe_w) ?_
  unfold ev at h
  refine ha.part hl w h fun d fr1 v H1 F1 io1 s p w1 r z => ?_
  cases d with
  | int i => cases r; exact ⟨i, rfl, okE.int w1 (okE.mono s p z)⟩
  | _ => exact z.elim))) Xq9.mk
theorem SE_not (ha : SE E a ta) : SE E (.UnaryOp .Not a pos) (.not_ ta) := @Rq9 _ _ (fun qz => @Hq9.get _ _ (qz.bar : Hq9 _ (by
  clear qz
  intro fr σ tp H F io Q hl w h
  refine wE_of (pe_not pe_w) ?_
  unfold ev at h
  refine ha.tested hl w h fun t fr1 H1 F1 io1 s p w1 z => ⟨t, rfl, okE.bl w1 (okE.mono s p z)⟩))) Xq9.mk
theorem SE_one {op : BoolOp} (ha : SE E a ta) : SE E (.BoolOp op [a] pos) ta := fun fr σ tp H F io Q hl w h => wE_of (pe_one pe_w) (ha fr σ tp H F io Q hl w h)
theorem SE_and {rest : List Expr} (ha : SE E a ta) (hb : SE E (.BoolOp .And (b :: rest) pos) tb) : SE E (.BoolOp .And (a :: b :: rest) pos) (.and_ ta tb) := @Rq9 _ _ (fun qz => @Hq9.get _ _ (qz.bar : Hq9 _ (by
  clear qz
  intro fr σ tp H F io Q hl w h
  refine wE_of (pe_and pe_w pe_w) ?_
  unfold ev at h
  refine ha.tested hl w h fun t fr1 H1 F1 io1 s p w1 z => ⟨t, rfl, ?_⟩
  cases t with
  | true => exact hb fr1 σ tp H1 F1 io1 Q hl w1 (Rs.all_imp z (fun _ _ y => okE.mono s p y) fun _ _ _ y => y)
  | false => exact okE.bl w1 (okE.mono s p z)))) Xq9.mk
theorem SE_or {rest : List Expr} (ha : SE E a ta) (hb : SE E (.BoolOp .Or (b :: rest) pos) tb) : SE E (.BoolOp .Or (a :: b :: rest) pos) (.or_ ta tb) := @Rq9 _ _ (fun qz => @Hq9.get _ _ (qz.bar : Hq9 _ (by
  clear qz
  intro fr σ tp H F io Q hl w h
  refine wE_of (pe_or pe_w pe_w) ?_
  unfold ev at h
  refine ha.tested hl w h fun t fr1 H1 F1 io1 s p w1 z => ⟨t, rfl, ?_⟩
  cases t with
  | true => exact okE.bl w1 (okE.mono s p z)
  | false => exact hb fr1 σ tp H1 F1 io1 Q hl w1 (Rs.all_imp z (fun _ _ y => okE.mono s p y) fun _ _ _ y => y)))) Xq9.mk
theorem SE_ite (hc : ST E c tc) (ha : SE E a ta) (hb : SE E b tb) : SE E (.IfExp c a b pos) (.ite tc ta tb) := @Rq9 _ _ (fun qz => @Hq9.get _ _ (qz.bar : Hq9 _ (by
  clear qz
  intro fr σ tp H F io Q hl w h
  refine wE_of (pe_ifExp pt_w pe_w pe_w) ?_
  unfold ev at h
  refine hc.test hl w h fun t fr1 H1 F1 io1 s p w1 z => ?_
  cases t with
  | true => exact ha fr1 σ tp H1 F1 io1 Q hl w1 (Rs.all_imp z (fun _ _ y => okE.mono s p y) fun _ _ _ y => y)
  | false => exact hb fr1 σ tp H1 F1 io1 Q hl w1 (Rs.all_imp z (fun _ _ y => okE.mono s p y) fun _ _ _ y => y)))) Xq9.mk
theorem cmp_read (ok : E.Ok) (ha : SE E a ta) (hb : SE E b tb) {op : Cm} (hl : σ.length = E.X.N.length) (w : E.ws fr (σ ++ tp) H F io) {P : RV → Fr → Prop} {R : VK}
    (h : (ev E.T (.cmp op ta tb) fr).all P (exE E σ tp F io)) (q : ∀ k fr2 H2 F2 io2, Same F F2 → Pre io io2 → E.ws fr2 (σ ++ tp) H2 F2 io2 → P (.out (.val (.bl k))) fr2 → R (.bl k) H2) :
    tOp (wOp E.X (compareOp (cmM op))) (wE E.X a) (wE E.X b) σ H R := @Rq9 _ _ (fun qz => @Hq9.get _ _ (qz.bar : Hq9 _ (by
  clear qz
  unfold ev at h
  refine two_held ha hb hl w h fun d e fr2 v u H2 F2 io2 s p w2 l1 l2 z => ?_
  cases e1 : cmpD op d e with
  | none => simp [e1] at z; exact z.elim
  | some k =>
    simp only [e1] at z
    exact cmpD_ok ok w2 l1 l2 e1 (q k fr2 H2 F2 io2 s p w2 z)))) Xq9.mk
theorem SE_cmp (ok : E.Ok) (ha : SE E a ta) (hb : SE E b tb) {op : Cm} (hm : behindInMarks (cmM op) b = false) : SE E (.Compare a [cmM op] [b] pos) (.cmp op ta tb) := @Rq9 _ _ (fun qz => @Hq9.get _ _ (qz.bar : Hq9 _ (by
  clear qz
  intro fr σ tp H F io Q hl w h
  refine wE_of (pe_cmpR op_w pe_w pe_w hm) ?_
  exact cmp_read ok ha hb hl w h fun k fr2 H2 F2 io2 s p w2 z => okE.bl w2 (okE.mono s p z)))) Xq9.mk
theorem ST_cmp (ok : E.Ok) (ha : SE E a ta) (hb : SE E b tb) {op : Cm} (hm : behindInMarks (cmM op) b = false) : ST E (.Compare a [cmM op] [b] pos) (.cmp op ta tb) := @Rq9 _ _ (fun qz => @Hq9.get _ _ (qz.bar : Hq9 _ (by
  clear qz
  intro fr σ tp H F io Q hl w h
  refine wT_of (pt_cmpR op_w pe_w pe_w hm) ?_
  refine cmp_read ok ha hb hl w h fun k fr2 H2 F2 io2 s p w2 z => ?_
  obtain ⟨b, e1, z⟩ := z
  cases e1
  exact ⟨_, rfl, z H2 F2 io2 s p w2⟩))) Xq9.mk
theorem ST_of {t : Tm} (he : SE E e t) (hp : ∀ whole, isTrue e E.X.env whole = (do let v ← whole; standAt e.pos; holding [v] (truthy v))) : ST E e t := @Rq9 _ _ (fun qz => @Hq9.get _ _ (qz.bar : Hq9 _ (by
  clear qz
  intro fr σ tp H F io Q hl w h
  refine wT_of (pt_val pe_w hp) ?_
  have h' : ((ev E.T t fr).fr fun d fr1 => asB d fr1 fun b fr2 => .ok b fr2).all (fun b fr2 => ∀ H' F' io', Same F F' → Pre io io' → E.ws fr2 (σ ++ tp) H' F' io' → Q b H') (exE E σ tp F io) := by
    cases q : ev E.T t fr with
    | ok r fr1 =>
      rw [q] at h
      obtain ⟨b, e1, z⟩ := h
      have e2 : toD fr1 r = some (.bl b, fr1) := by
        cases r with
        | out o =>
          cases o with
          | val d => cases e1; rfl
          | fresh xs => cases e1
        | var i =>
          unfold look at e1
          unfold toD
          cases q2 : fr1.env[i]? with
          | none => simp [q2] at e1
          | some s =>
            cases s with
            | un => simp [q2] at e1
            | val d => simp [q2] at e1 ⊢; exact e1
            | own xs => simp [q2] at e1
      show (match toD fr1 r with | some (d, fr') => asB d fr' fun b fr2 => Rs.ok b fr2 | none => .bad).all _ _
      rw [e2]
      exact z
    | exc c fs fr1 => rw [q] at h; exact h
    | bad => rw [q] at h; exact h.elim
  exact he.tested hl w h' fun k fr1 H1 F1 io1 s p w1 z => ⟨k, rfl, z H1 F1 io1 s p w1⟩))) Xq9.mk
theorem ST_not (ha : ST E a ta) : ST E (.UnaryOp .Not a pos) (.not_ ta) := @Rq9 _ _ (fun qz => @Hq9.get _ _ (qz.bar : Hq9 _ (by
  clear qz
  intro fr σ tp H F io Q hl w h
  refine wT_of (pt_not pt_w) ?_
  unfold ev at h
  refine ha.test hl w h fun t fr1 H1 F1 io1 s p w1 z => ?_
  obtain ⟨b, e1, z⟩ := z
  cases e1
  exact z H1 F1 io1 s p w1))) Xq9.mk
theorem SW.st {t : Tm} (h : SW E e t) : ST E e t := fun fr σ tp H F io Q hl w q => wT_of (PW.pt pw_w) (h fr σ tp H F io Q hl w q)
theorem SW_and1 (ha : ST E a ta) : SW E (.BoolOp .And [a] pos) ta := fun fr σ tp H F io Q hl w h => wW_of (pw_and1 pt_w) (ha fr σ tp H F io Q hl w h)
theorem SW_or1 (ha : ST E a ta) : SW E (.BoolOp .Or [a] pos) ta := fun fr σ tp H F io Q hl w h => wW_of (pw_or1 pt_w) (ha fr σ tp H F io Q hl w h)
theorem SW_and {rest : List Expr} (ha : ST E a ta) (hb : SW E (.BoolOp .And (b :: rest) pos) tb) : SW E (.BoolOp .And (a :: b :: rest) pos) (.and_ ta tb) := @Rq9 _ _ (fun qz => @Hq9.get _ _ (qz.bar : Hq9 _ (by
  clear qz
  intro fr σ tp H F io Q hl w h
  refine wW_of (pw_and pt_w pw_w) ?_
  unfold ev at h
  refine ha.test hl w h fun t fr1 H1 F1 io1 s p w1 z => ?_
  cases t with
  | true => exact hb fr1 σ tp H1 F1 io1 Q hl w1 (Rs.all_imp z (fun _ _ ⟨b, e, y⟩ => ⟨b, e, fun H2 F2 io2 s2 p2 => y H2 F2 io2 (s.trans s2) (p.trans p2)⟩) fun _ _ _ y => y)
  | false =>
    obtain ⟨b, e1, z⟩ := z
    cases e1
    exact z H1 F1 io1 s p w1))) Xq9.mk
theorem SW_or {rest : List Expr} (ha : ST E a ta) (hb : SW E (.BoolOp .Or (b :: rest) pos) tb) : SW E (.BoolOp .Or (a :: b :: rest) pos) (.or_ ta tb) := @Rq9 _ _ (fun qz => @Hq9.get _ _ (qz.bar : Hq9 _ (by
  clear qz
  intro fr σ tp H F io Q hl w h
  refine wW_of (pw_or pt_w pw_w) ?_
  unfold ev at h
  refine ha.test hl w h fun t fr1 H1 F1 io1 s p w1 z => ?_
  cases t with
  | true =>
    obtain ⟨b, e1, z⟩ := z
    cases e1
    exact z H1 F1 io1 s p w1
  | false => exact hb fr1 σ tp H1 F1 io1 Q hl w1 (Rs.all_imp z (fun _ _ ⟨b, e, y⟩ => ⟨b, e, fun H2 F2 io2 s2 p2 => y H2 F2 io2 (s.trans s2) (p.trans p2)⟩) fun _ _ _ y => y)))) Xq9.mk
/-! ### chains -/
theorem chain_read (ok : E.Ok) (ha : SE E a ta) (hb : SE E b tb) (hc : SE E c tc) {op op' : Cm} (hl : σ.length = E.X.N.length) (w : E.ws fr (σ ++ tp) H F io) {P : RV → Fr → Prop} {R : VK}
    (h : (ev E.T (.chain op op' ta tb tc) fr).all P (exE E σ tp F io)) (q : ∀ k fr2 H2 F2 io2, Same F F2 → Pre io io2 → E.ws fr2 (σ ++ tp) H2 F2 io2 → P (.out (.val (.bl k))) fr2 → R (.bl k) H2) :
    tChain (wOp E.X (compareOp (cmM op))) (wOp E.X (compareOp (cmM op'))) (wE E.X a) (wE E.X b) (wE E.X c) σ H R := @Rq9 _ _ (fun qz => @Hq9.get _ _ (qz.bar : Hq9 _ (by
  clear qz
  unfold ev at h
  refine ha.part hl w h fun d fr1 v H1 F1 io1 s1 p1 w1 r1 h1 => ?_
  refine hb.part hl w1 h1 fun e fr2 u H2 F2 io2 s2 p2 w2 r2 h2 => ?_
  have l1 : Lk E.G F2 io2 H2 d v := .inl (r1.mono s2 p2)
  cases e1 : cmpD op d e with
  | none => simp [e1] at h2; exact h2.elim
  | some k =>
    refine cmpD_ok ok w2 l1 (.inl r2) e1 ⟨k, rfl, ?_⟩
    cases k with
    | false =>
      simp only [e1] at h2
      exact q false fr2 H2 F2 io2 (s1.trans s2) (p1.trans p2) w2 h2
    | true =>
      simp only [e1] at h2
      refine hc.part hl w2 h2 fun f fr3 x H3 F3 io3 s3 p3 w3 r3 h3 => ?_
      cases e2 : cmpD op' e f with
      | none => simp [e2] at h3; exact h3.elim
      | some k =>
        simp only [e2] at h3
        exact cmpD_ok ok w3 (.inl (r2.mono s3 p3)) (.inl r3) e2 (q k fr3 H3 F3 io3 ((s1.trans s2).trans s3) ((p1.trans p2).trans p3) w3 h3)))) Xq9.mk
end
end Ag
namespace Ag
open PySem L2
section
variable {E : En} {e a b c : Expr} {ta tb tc : Tm} {fr : Fr} {σ tp : St} {H F : Hp} {io : List Addr} {Q : VK} {pos : Pos}
theorem SE_chain (ok : E.Ok) (ha : SE E a ta) (hb : SE E b tb) (hc : SE E c tc) {op op' : Cm} (hm : lastMarks [cmM op, cmM op'] [b, c] = false) : SE E (.Compare a [cmM op, cmM op'] [b, c] pos) (.chain op op' ta tb tc) := @Rq9 _ _ (fun qz => @Hq9.get _ _ (qz.bar : Hq9 _ (by
  clear qz
  intro fr σ tp H F io Q hl w h
  refine wE_of (pe_chain op_w op_w pe_w pe_w pe_w hm) ?_
  exact chain_read ok ha hb hc hl w h fun k fr2 H2 F2 io2 s p w2 z => okE.bl w2 (okE.mono s p z)))) Xq9.mk
theorem ST_chain (ok : E.Ok) (ha : SE E a ta) (hb : SE E b tb) (hc : SE E c tc) {op op' : Cm} (hm : lastMarks [cmM op, cmM op'] [b, c] = false) : ST E (.Compare a [cmM op, cmM op'] [b, c] pos) (.chain op op' ta tb tc) := @Rq9 _ _ (fun qz => @Hq9.get _ _ (qz.bar : Hq9 _ (by
  clear qz
  intro fr σ tp H F io Q hl w h
  refine wT_of (pt_chain op_w op_w pe_w pe_w pe_w hm) ?_
  refine chain_read ok ha hb hc hl w h fun k fr2 H2 F2 io2 s p w2 z => ?_
  obtain ⟨b, e1, z⟩ := z
  cases e1
  exact ⟨_, rfl, z H2 F2 io2 s p w2⟩))) Xq9.mk
theorem isTrue_IfExp {M : Model} {A : Around} {X : Value → Shared → Prop} {P : Bool → Shared → Prop} {s : Shared} {env : Env} {whole : Sem Value} (h : wpAny M A (isTrue c env (eval c env)) (fun k s1 => wpAny M A (if k = true then isTrue a env (eval a env) else isTrue b env (eval b env)) P X s1) X s) :
    wpAny M A (isTrue (.IfExp c a b pos) env whole) P X s := @Rq9 _ _ (fun qz => @Hq9.get _ _ (qz.bar : Hq9 _ (by
  clear qz
  show wpAny M A (isTrue c env (eval c env) >>= fun k => if k = true then isTrue a env (eval a env) else isTrue b env (eval b env)) P X s
  exact wpAny_bind h))) Xq9.mk
theorem ST_ite (hc : ST E c tc) (ha : ST E a ta) (hb : ST E b tb) : ST E (.IfExp c a b pos) (.ite tc ta tb) := @Rq9 _ _ (fun qz => @Hq9.get _ _ (qz.bar : Hq9 _ (by
  clear qz
  intro fr σ tp H F io Q hl w h pins s I
  unfold ev at h
  refine isTrue_IfExp ?_
  have hw : wT E.X c σ H (fun t H1 => if t = true then wT E.X a σ H1 Q else wT E.X b σ H1 Q) := by
    refine hc.test hl w h fun t fr1 H1 F1 io1 s p w1 z => ?_
    cases t with
    | true => exact ha fr1 σ tp H1 F1 io1 Q hl w1 (Rs.all_imp z (fun _ _ ⟨b, e, y⟩ => ⟨b, e, fun H2 F2 io2 s2 p2 => y H2 F2 io2 (s.trans s2) (p.trans p2)⟩) fun _ _ _ y => y)
    | false => exact hb fr1 σ tp H1 F1 io1 Q hl w1 (Rs.all_imp z (fun _ _ ⟨b, e, y⟩ => ⟨b, e, fun H2 F2 io2 s2 p2 => y H2 F2 io2 (s.trans s2) (p.trans p2)⟩) fun _ _ _ y => y)
  refine thn (hw pins s I) fun t s1 ⟨H1, I1, q⟩ => ?_
  cases t with
  | true => rw [if_pos rfl] at q ⊢; exact q pins s1 I1
  | false => rw [if_neg Bool.false_ne_true] at q ⊢; exact q pins s1 I1))) Xq9.mk
end
end Ag
namespace Ag
open PySem L2
def notStar : Expr → Bool
  | .Starred .. => false
  | _ => true
theorem star_ne {e : Expr} (h : notStar e = true) (es : List Expr) (env : Env) : starEach (e :: es) env = (false, eval e env) :: starEach es env := by
  cases e <;> first | rfl | cases h
def allNot (es : List Expr) : Bool := es.all notStar
theorem plain_of {es : List Expr} (h : allNot es = true) (pos : Pos) (env : Env) : (backTo pos (starEach es env)).any (·.1) = false := @Rq9 _ _ (fun qz => @Hq9.get _ _ (qz.bar : Hq9 _ (by
  clear qz
  induction es with
  | nil => rfl
  | cons e es ih =>
    unfold allNot at h ih
    rw [List.all_cons, Bool.and_eq_true] at h
    rw [star_ne h.1]
    show (false || (backTo pos (starEach es env)).any (·.1)) = false
    rw [ih h.2]; rfl))) Xq9.mk
def notSuper : Expr → Bool
  | .Call (.Name _ _) [] [] _ => false
  | _ => true
theorem base_of {o : Expr} (h : notSuper o = true) (attr : Str) (env : Env) (whole : Sem Value) : attributeBase o attr env whole = whole := @Rq9 _ _ (fun qz => @Hq9.get _ _ (qz.bar : Hq9 _ (by
  clear qz
  unfold attributeBase
  split
  · cases h
  · rfl))) Xq9.mk
section
variable {E : En} {e a b c : Expr} {ta tb tc : Tm} {fr : Fr} {σ tp : St} {H F : Hp} {io : List Addr} {Q : VK} {pos : Pos} {es : List Expr} {ts : List Tm}
theorem SA_nil : SA E [] [] := fun fr σ tp H F io Q hl w h => wA_of pa_nil (h [] H F io (Same.refl _) (Pre.refl _) w .nil)
theorem SA_cons (hs : notStar e = true) (ha : SE E e ta) (hr : SA E es ts) : SA E (e :: es) (ta :: ts) := @Rq9 _ _ (fun qz => @Hq9.get _ _ (qz.bar : Hq9 _ (by
  clear qz
  intro fr σ tp H F io Q hl w h
  refine wA_of (pa_cons pe_w pa_w (star_ne hs _ _)) ?_
  unfold evs at h
  refine ha.part hl w h fun d fr1 v H1 F1 io1 s p w1 r z => ?_
  refine hr fr1 σ tp H1 F1 io1 _ hl w1 (Rs.all_imp (Rs.all_bind z) (fun ds fr2 z2 => ?_) fun _ _ _ x => x)
  intro vs H2 F2 io2 s2 p2 w2 rs
  exact z2 (v :: vs) H2 F2 io2 (s.trans s2) (p.trans p2) w2 (.cons (r.mono s2 p2) rs)))) Xq9.mk
theorem SP_nil : SP' E [] [] := fun fr σ tp H F io Q hl w h => wA_of pa_nil (h [] H F io (Same.refl _) (Pre.refl _) w .nil)
theorem SP_cons (hs : notStar e = true) (ha : SE E e ta) (hr : SP' E es ts) : SP' E (e :: es) (ta :: ts) := @Rq9 _ _ (fun qz => @Hq9.get _ _ (qz.bar : Hq9 _ (by
  clear qz
  intro fr σ tp H F io Q hl w h
  refine wA_of (pa_cons pe_w pa_w (star_ne hs _ _)) ?_
  unfold evp at h
  refine ha.held hl w h fun r fr1 v H1 F1 io1 s p w1 hk z => ?_
  refine hr fr1 σ tp H1 F1 io1 _ hl w1 (Rs.all_imp (Rs.all_bind z) (fun ds fr2 z2 => ?_) fun _ _ _ x => x)
  intro vs H2 F2 io2 s2 p2 w2 rs
  exact z2 (v :: vs) H2 F2 io2 (s.trans s2) (p.trans p2) w2 (.cons (hk.mono s2 p2) rs)))) Xq9.mk
/-! ### displays -/
theorem SE_tup {k : Nat} (ha : SA E es ts) : SE E (.Tuple es k pos) (.tup ts) := @Rq9 _ _ (fun qz => @Hq9.get _ _ (qz.bar : Hq9 _ (by
  clear qz
  intro fr σ tp H F io Q hl w h
  refine wE_of (pe_tup pa_w) ?_
  unfold ev at h
  refine ha fr σ tp H F io _ hl w (Rs.all_imp (Rs.all_bind h) (fun ds fr1 z => ?_) fun _ _ _ x => x)
  intro vs H1 F1 io1 s p w1 r
  split at z
  · rename_i hz
    exact ⟨by rw [← r.length]; exact hz, fun l hl => okE.tup w1 r (okE.mono s p z) hl⟩
  · exact z.elim))) Xq9.mk
theorem SE_lst (ha : SA E es ts) : SE E (.List es pos) (.lst ts) := @Rq9 _ _ (fun qz => @Hq9.get _ _ (qz.bar : Hq9 _ (by
  clear qz
  intro fr σ tp H F io Q hl w h
  refine wE_of (pe_lst pa_w) ?_
  unfold ev at h
  refine ha fr σ tp H F io _ hl w (Rs.all_imp (Rs.all_bind h) (fun ds fr1 z => ?_) fun _ _ _ x => x)
  intro vs H1 F1 io1 s p w1 r
  split at z
  · rename_i hz
    exact ⟨by rw [← r.length]; exact hz, fun l hl => okE.fresh w1 r (okE.mono s p z) hl⟩
  · exact z.elim))) Xq9.mk
/-! ### built-ins -/
def biName : Bi → Str
  | .len => "len" | .min2 => "min" | .max2 => "max" | .int_ => "int" | .str_ => "str" | .tuple_ => "tuple" | .list_ => "list"
  | .min1 => "min" | .max1 => "max" | .min1d => "min" | .max1d => "max" | .all_ => "all" | .sorted_ => "sorted"
def biVal : Bi → Value
  | .len => .builtin "len" | .min2 => .builtin "min" | .max2 => .builtin "max" | .int_ => .type "int" | .str_ => .type "str" | .tuple_ => .type "tuple" | .list_ => .type "list"
  | .min1 => .builtin "min" | .max1 => .builtin "max" | .min1d => .builtin "min" | .max1d => .builtin "max" | .all_ => .builtin "all" | .sorted_ => .builtin "sorted"
def wCall (X : Cx) (f : Value) : List V → Hp → VK → Prop := fun vs H Q => ∀ (pins : List (Addr × Obj)) (σ : St) (s : Shared) (us : List Value), Inv X pins σ H s → Vals vs us → wpAny (model X.prog X.w) X.A (call f us) (EP X pins σ Q) X.xe s
theorem call_w {X : Cx} {f : Value} : CallR X f (wCall X f) := fun pins s σ H vs us Q I r h => h pins σ s us I r
theorem wCall_of {X : Cx} {f : Value} {r : List V → Hp → VK → Prop} {vs : List V} {H : Hp} {Q : VK} (h : CallR X f r) (q : r vs H Q) : wCall X f vs H Q := fun pins σ s us I rv => h pins s σ H vs us Q I rv q
/-- a built-in function by values -/
def BiOk (E : En) (b : Bi) : Prop := ∀ (fr : Fr) (σ tp : St) (H F : Hp) (io : List Addr) (Q : VK) (ds : List D) (vs : List V) (o : Out), E.ws fr (σ ++ tp) H F io → Paired (Lk E.G F io H) ds vs → biD b ds = some o → okE E σ tp F io Q (.out o) fr → wCall E.X (biVal b) vs H Q
theorem looks_ok {H0 : Ent} {n0 : Nat} {ρ : St} (w : Ws E.G H0 n0 fr ρ H F io) : ∀ {rs : List RV} {vs : List V} {ds : List D}, Paired (Hk E.G F io ρ) rs vs → looks fr.env rs = some ds → Paired (Lk E.G F io H) ds vs
  | _, _, _, .nil, e => by cases e; exact .nil
  | r :: rs, _, _, .cons h t, e => by
    unfold looks at e
    cases q1 : look fr.env r with
    | none => simp [q1] at e
    | some d =>
      cases q2 : looks fr.env rs with
      | none => simp [q1, q2] at e
      | some ds =>
        simp [q1, q2] at e; subst e
        exact .cons (w.look h q1) (looks_ok w t q2)
theorem bi_read {b : Bi} (hb : BiOk E b) (ha : SP' E es ts) (hl : σ.length = E.X.N.length) (w : E.ws fr (σ ++ tp) H F io) (h : (ev E.T (.bi b ts) fr).all (okE E σ tp F io Q) (exE E σ tp F io)) : tCB (wCall E.X (biVal b)) (wA E.X es) σ H Q := @Rq9 _ _ (fun qz => @Hq9.get _ _ (qz.bar : Hq9 _ (by
  clear qz
  unfold ev at h
  refine ha fr σ tp H F io _ hl w (Rs.all_imp (Rs.all_bind h) (fun rs fr1 z => ?_) fun _ _ _ x => x)
  intro vs H1 F1 io1 s p w1 r
  cases e1 : looks fr1.env rs with
  | none => simp [e1] at z; exact z.elim
  | some ds =>
    simp only [e1] at z
    cases e2 : biD b ds with
    | none => simp [e2] at z; exact z.elim
    | some o =>
      simp only [e2] at z
      exact hb fr1 σ tp H1 F1 io1 Q ds vs o w1 (looks_ok w1 r e1) e2 (okE.mono s p z)))) Xq9.mk
theorem SE_bi {b : Bi} {p : Pos} {x : Str} (hx : x = biName b) (hb : BiOk E b) (hg : Gl E.X x) (hm : E.X.mg x = none) (hn : notStar e = true) (hs : allNot es = true) (ha : SP' E (e :: es) ts) : SE E (.Call (.Name x p) (e :: es) [] pos) (.bi b ts) := @Rq9 _ _ (fun qz => @Hq9.get _ _ (qz.bar : Hq9 _ (by
  clear qz
  intro fr σ tp H F io Q hl w h
  subst hx
  have q := bi_read hb ha hl w h
  cases b
  · exact wE_of (pe_callB call_w hg hm PySem.boot_len pa_w (by decide +kernel) (by decide +kernel) (star_ne hn _ _) (plain_of hs _ _)) q
  · exact wE_of (pe_callB call_w hg hm (by decide +kernel) pa_w (by decide +kernel) (by decide +kernel) (star_ne hn _ _) (plain_of hs _ _)) q
  · exact wE_of (pe_callB call_w hg hm (by decide +kernel) pa_w (by decide +kernel) (by decide +kernel) (star_ne hn _ _) (plain_of hs _ _)) q
  · exact wE_of (pe_callTy call_w hg hm (by decide +kernel) pa_w (by decide +kernel) (by decide +kernel) (star_ne hn _ _) (plain_of hs _ _)) q
  · exact wE_of (pe_callTy call_w hg hm (by decide +kernel) pa_w (by decide +kernel) (by decide +kernel) (star_ne hn _ _) (plain_of hs _ _)) q
  · exact wE_of (pe_callTy call_w hg hm (by decide +kernel) pa_w (by decide +kernel) (by decide +kernel) (star_ne hn _ _) (plain_of hs _ _)) q
  · exact wE_of (pe_callTy call_w hg hm (by decide +kernel) pa_w (by decide +kernel) (by decide +kernel) (star_ne hn _ _) (plain_of hs _ _)) q
  all_goals exact wE_of (pe_callB call_w hg hm (by decide +kernel) pa_w (by decide +kernel) (by decide +kernel) (star_ne hn _ _) (plain_of hs _ _)) q))) Xq9.mk
theorem lk1 {R : D → V → Prop} {d : D} {vs : List V} (h : Paired R [d] vs) : ∃ v, vs = [v] ∧ R d v := by
  cases h with | cons a t => cases t; exact ⟨_, rfl, a⟩
theorem lk2 {R : D → V → Prop} {d e : D} {vs : List V} (h : Paired R [d, e] vs) : ∃ v u, vs = [v, u] ∧ R d v ∧ R e u := by
  cases h with | cons a t => cases t with | cons b t => cases t; exact ⟨_, _, rfl, a, b⟩
theorem bi_len (ok : E.Ok) : BiOk E .len := @Rq9 _ _ (fun qz => @Hq9.get _ _ (qz.bar : Hq9 _ (by
  clear qz
  intro fr σ tp H F io Q ds vs o w r e h
  have e : biLen ds = some o := e
  unfold biLen at e
  split at e
  · cases e
    obtain ⟨v, rfl, l⟩ := lk1 r
    obtain ⟨p, vs, rfl, h1, r1⟩ := l.lst w.wr.sub
    exact wCall_of call_len_seq ⟨p, vs, rfl, .inl (SqL.of h1), by rw [← r1.length]; exact h.int w⟩
  · cases e
    obtain ⟨v, rfl, l⟩ := lk1 r
    obtain ⟨p, vs, rfl, h1, _, r1⟩ := l.tup w.wr.sub
    rw [ok.k] at h1
    exact wCall_of call_len_seq ⟨p, vs, rfl, .inr h1, by rw [← r1.length]; exact h.int w⟩
  · cases e
    obtain ⟨v, rfl, l⟩ := lk1 r
    obtain ⟨p, vs, rfl, h1, r1⟩ := l.rol w.wr.sub
    rw [ok.k] at h1
    exact wCall_of call_len_seq ⟨p, vs, rfl, .inl h1, by rw [← r1.length]; exact h.int w⟩
  · split at e <;> cases e
    rename_i hz
    obtain ⟨v, rfl, l⟩ := lk1 r
    rw [l.str]
    exact wCall_of call_len_str ⟨_, rfl, hz, h.int w⟩
  · cases e))) Xq9.mk
theorem bi_min2 (ok : E.Ok) : BiOk E .min2 := @Rq9 _ _ (fun qz => @Hq9.get _ _ (qz.bar : Hq9 _ (by
  clear qz
  intro fr σ tp H F io Q ds vs o w r e h
  have e : biMin2 ds = some o := e
  unfold biMin2 at e
  split at e
  · cases e
    obtain ⟨v, u, rfl, l1, l2⟩ := lk2 r
    rw [l1.int, l2.int]
    exact wCall_of (call_min2 ok.calm) ⟨_, _, rfl, h.int w⟩
  · cases e))) Xq9.mk
theorem bi_max2 (ok : E.Ok) : BiOk E .max2 := @Rq9 _ _ (fun qz => @Hq9.get _ _ (qz.bar : Hq9 _ (by
  clear qz
  intro fr σ tp H F io Q ds vs o w r e h
  have e : biMax2 ds = some o := e
  unfold biMax2 at e
  split at e
  · cases e
    obtain ⟨v, u, rfl, l1, l2⟩ := lk2 r
    rw [l1.int, l2.int]
    exact wCall_of (call_max2 ok.calm) ⟨_, _, rfl, h.int w⟩
  · cases e))) Xq9.mk
theorem bi_int (ok : E.Ok) : BiOk E .int_ := @Rq9 _ _ (fun qz => @Hq9.get _ _ (qz.bar : Hq9 _ (by
  clear qz
  intro fr σ tp H F io Q ds vs o w r e h
  have e : biInt ds = some o := e
  unfold biInt at e
  split at e
  · cases e
    obtain ⟨v, rfl, l1⟩ := lk1 r
    rw [l1.int]
    exact wCall_of call_int1 (.inl ⟨_, rfl, h.int w⟩)
  · cases e))) Xq9.mk
theorem bi_list (ok : E.Ok) : BiOk E .list_ := @Rq9 _ _ (fun qz => @Hq9.get _ _ (qz.bar : Hq9 _ (by
  clear qz
  intro fr σ tp H F io Q ds vs o w r e h
  have e : biList ds = some o := e
  unfold biList at e
  split at e
  · cases e
    obtain ⟨v, rfl, l⟩ := lk1 r
    obtain ⟨p, vs, rfl, h1, r1⟩ := l.lst w.wr.sub
    exact wCall_of call_list_of ⟨p, vs, rfl, .inl (SqL.of h1), fun l hl => h.fresh w r1 hl⟩
  · cases e
    obtain ⟨v, rfl, l⟩ := lk1 r
    obtain ⟨p, vs, rfl, h1, _, r1⟩ := l.tup w.wr.sub
    rw [ok.k] at h1
    exact wCall_of call_list_of ⟨p, vs, rfl, .inr h1, fun l hl => h.fresh w r1 hl⟩
  · cases e))) Xq9.mk
theorem bi_tuple (ok : E.Ok) : BiOk E .tuple_ := @Rq9 _ _ (fun qz => @Hq9.get _ _ (qz.bar : Hq9 _ (by
  clear qz
  intro fr σ tp H F io Q ds vs o w r e h
  have e : biTuple ds = some o := e
  unfold biTuple at e
  split at e
  · cases e
    obtain ⟨v, rfl, l⟩ := lk1 r
    obtain ⟨p, vs, rfl, h1, r1⟩ := l.lst w.wr.sub
    exact wCall_of call_tuple_of ⟨p, vs, rfl, .inl ⟨SqL.of h1, fun l hl => h.tup w r1 hl⟩⟩
  · cases e
    obtain ⟨v, rfl, l⟩ := lk1 r
    obtain ⟨p, vs, rfl, h1, g1, r1⟩ := l.tup w.wr.sub
    rw [ok.k] at h1
    exact wCall_of call_tuple_of ⟨p, vs, rfl, .inr ⟨h1, h _ H F io (Same.refl _) (Pre.refl _) w (.tup g1 r1)⟩⟩
  · cases e))) Xq9.mk
/-! ### attributes, items -/
theorem RepF.look {f : Nat} {d : D} (inj : ∀ f g, E.G.fn f = E.G.fn g → f = g) : ∀ {fs : List (Nat × D)} {vs : List (Str × V)}, RepF E.G F io fs vs → fget fs f = some d → ∃ v, vs.lookup (E.G.fn f) = some v ∧ Rep E.G F io d v
  | _, _, .nil, e => by cases e
  | _, _, .cons (f := g) (d := x) (v := v) (ds := ds) (vs := vs) h r, e => by
    unfold fget at e
    rw [List.lookup_cons] at e
    rw [List.lookup_cons]
    by_cases q : f = g
    · subst q
      simp at e ⊢; subst e
      exact h
    · have q2 : (f == g) = false := by simpa using q
      have q3 : (E.G.fn f == E.G.fn g) = false := by
        simpa using fun z => q (inj _ _ z)
      rw [q2] at e
      rw [q3]
      exact RepF.look inj r e
theorem RepF.none {f : Nat} (inj : ∀ f g, E.G.fn f = E.G.fn g → f = g) : ∀ {fs : List (Nat × D)} {vs : List (Str × V)}, RepF E.G F io fs vs → fget fs f = none → vs.lookup (E.G.fn f) = none
  | _, _, .nil, e => rfl
  | _, _, .cons (f := g) (d := x) (v := v) (ds := ds) (vs := vs) h r, e => by
    unfold fget at e
    rw [List.lookup_cons] at e
    rw [List.lookup_cons]
    by_cases q : f = g
    · subst q
      simp at e
    · have q2 : (f == g) = false := by simpa using q
      have q3 : (E.G.fn f == E.G.fn g) = false := by
        simpa using fun z => q (inj _ _ z)
      rw [q2] at e
      rw [q3]
      exact RepF.none inj r e
theorem ins_at {d : D} {v : V} {c : Nat} {fs : List (Nat × D)} (w : E.ws fr (σ ++ tp) H F io) (r : Rep E.G F io d v) (e : insD fr.sto d = some (c, fs)) : ∃ a dx vs, v = .ref a ∧ H a = some (.ins (E.G.cl c) dx vs) ∧ RepF E.G F io fs vs := @Rq9 _ _ (fun qz => @Hq9.get _ _ (qz.bar : Hq9 _ (by
  clear qz
  cases r with
  | obj h r => cases e; exact ⟨_, _, _, rfl, w.wr.sub _ _ h, r⟩
  | cell h =>
    rename_i n a
    unfold insD at e
    cases q : fr.sto[n]? with
    | none => simp [q] at e
    | some x =>
      cases x with
      | dict kvs => simp [q] at e
      | dictT kvs => simp [q] at e
      | inst c' fs' =>
        simp [q] at e
        obtain ⟨rfl, rfl⟩ := e
        obtain ⟨a', e1, e2, dx, vs, h1, h2⟩ := w.wr.cel n _ q
        rw [h] at e1; cases e1
        exact ⟨_, dx, vs, rfl, h1, h2⟩
  | _ => cases e))) Xq9.mk
theorem SE_attr (ok : E.Ok) {o : Expr} {to : Tm} {f : Nat} {x : Str} (hx : E.G.fn f = x) (hs : notSuper o = true) (ho : SE E o to) : SE E (.Attribute o x pos) (.attr to f) := @Rq9 _ _ (fun qz => @Hq9.get _ _ (qz.bar : Hq9 _ (by
  clear qz
  intro fr σ tp H F io Q hl w h
  subst hx
  refine wE_of (pe_fld pe_w (base_of hs _ _ _)) ?_
  unfold ev at h
  refine ho.part hl w h fun d fr1 v H1 F1 io1 s p w1 r z => ?_
  cases e1 : insD fr1.sto d with
  | none => simp [e1] at z; exact z.elim
  | some q =>
    obtain ⟨c, fs⟩ := q
    simp only [e1] at z
    split at z
    · rename_i hf
      obtain ⟨a, dx, vs, rfl, h1, rf⟩ := ins_at w1 r e1
      cases e2 : fget fs f with
      | none => simp [e2] at z; exact z.elim
      | some y =>
        simp only [e2] at z
        obtain ⟨u, l, ru⟩ := rf.look ok.inj e2
        obtain ⟨c1, c2⟩ := ok.fld c f hf
        exact ⟨a, _, dx, vs, u, rfl, h1, c1, c2, l, z u H1 F1 io1 s p w1 ru⟩
    · exact z.elim))) Xq9.mk
end
end Ag
namespace Ag
open PySem PySem.Spec L2
section
variable {E : En} {e a b c : Expr} {ta tb tc : Tm} {fr : Fr} {σ tp : St} {H F : Hp} {io : List Addr} {Q : VK} {pos : Pos} {es : List Expr} {ts : List Tm}
/-! ### items -/
def notSlice : Expr → Bool
  | .Slice .. => false
  | _ => true
theorem plain_ix {i : Expr} (h : notSlice i = true) (v u : Value) : subscripted i false v u = operate [v, u] (getItem v u) := by
  cases i <;> first | rfl | cases h
def wIx (X : Cx) : R2 := fun x y H Q => ∀ (value slice : Expr) (pins : List (Addr × Obj)) (s : Shared) (σ : St) (v u : Value), Inv X pins σ H s → RelV x v → RelV y u → subscripted slice false v u = operate [v, u] (getItem v u) →
  wpAny (model X.prog X.w) X.A (PyProof.Rows.subscriptTail value slice v u) (EP X pins σ Q) X.xe s
theorem ix_w {X : Cx} : IxR X (wIx X) := fun value slice pins s σ H x y v u Q I r1 r2 h hs => h value slice pins s σ v u I r1 r2 hs
theorem wIx_of {X : Cx} {r : R2} {x y : V} {H : Hp} {Q : VK} (h : IxR X r) (q : r x y H Q) : wIx X x y H Q := fun value slice pins s σ v u I r1 r2 hs => h value slice pins s σ H x y v u Q I r1 r2 q hs
theorem ix_dict {X : Cx} (hu : X.A.units + 1 < cLine) : IxR X (fun x y H Q => ∃ a v, x = .ref a ∧ DGet H a y (some v) ∧ Q v H) := @Rq9 _ _ (fun qz => @Hq9.get _ _ (qz.bar : Hq9 _ (by
  clear qz
  intro value slice pins s σ H x y v u Q I rx ry h hs
  obtain ⟨a, z, rfl, g, q⟩ := h
  obtain rfl : v = Value.ref a := rx
  have hT := dict_typeIs I g
  unfold PyProof.Rows.subscriptTail
  refine wpAny_bind ?_
  rw [getitemInPython_of_ne hT.not_modules]
  refine wpAny_bind (wpAny_specialOf hT PySem.F.slot_dict_getitem.lookup ?_)
  have fin : wpAny (model X.prog X.w) X.A (subscripted slice false (.ref a) u) (fun r s₃ => wpAny (model X.prog X.w) X.A (letTemporaryGo value (.ref a) r >>= fun _ => pure r) (EP X pins σ Q) X.xe s₃) X.xe s := by
    rw [hs]
    exact wpAny_operating (wpAny_mono (d_getItem hu I g ry (Q := EP X pins σ Q) (E := X.xe) fun w' s3 I3 rw' => ⟨z, H, I3, rw', q⟩) (fun r s₃ h₃ => wpAny_bind (wpAny_letTemporaryGo (wpAny_pure h₃))) fun _ _ x => x)
  first
    | exact wpAny_pure (wpAny_bind fin)
    | exact fin))) Xq9.mk
theorem RepK.get {κ : Type} [DecidableEq κ] {k : κ} {d : D} : ∀ {kvs : List (κ × D)} {vs : List (κ × V)}, RepK E.G F io kvs vs → dget kvs k = some d → ∃ v, valV vs k = some v ∧ Rep E.G F io d v
  | _, _, .nil, e => by cases e
  | _, _, .cons (k := g) (d := x) (v := v) (ds := ds) (vs := vs) h r, e => by
    unfold dget at e
    rw [List.find?_cons] at e
    by_cases q : g = k
    · subst q
      simp at e; subst e
      exact ⟨v, valV_pos rfl, h⟩
    · have q2 : decide (g = k) = false := decide_eq_false q
      simp only [q2] at e
      rw [valV_neg (p := (g, v)) q]
      exact RepK.get r e
theorem RepK.anyk {κ : Type} [DecidableEq κ] {k : κ} : ∀ {kvs : List (κ × D)} {vs : List (κ × V)}, RepK E.G F io kvs vs → (kvs.any fun kv => decide (kv.1 = k)) = (vs.any fun kv => decide (kv.1 = k))
  | _, _, .nil => rfl
  | _, _, .cons h r => by rw [List.any_cons, List.any_cons, RepK.anyk r]
theorem RepK.mapk {κ : Type} [DecidableEq κ] {k : κ} {d : D} {v : V} (hd : Rep E.G F io d v) : ∀ {kvs : List (κ × D)} {vs : List (κ × V)}, RepK E.G F io kvs vs → RepK E.G F io (kvs.map fun kv => if kv.1 = k then (kv.1, d) else kv) (vs.map fun kv => if kv.1 = k then (kv.1, v) else kv)
  | _, _, .nil => .nil
  | _, _, .cons (k := g) h r => by
    rw [List.map_cons, List.map_cons]
    by_cases q : g = k
    · simp only [q, if_true]; exact .cons hd (RepK.mapk hd r)
    · simp only [if_neg q]; exact .cons h (RepK.mapk hd r)
theorem RepK.app {κ : Type} : ∀ {kvs kvs' : List (κ × D)} {vs vs' : List (κ × V)}, RepK E.G F io kvs vs → RepK E.G F io kvs' vs' → RepK E.G F io (kvs ++ kvs') (vs ++ vs')
  | _, _, _, _, .nil, q => q
  | _, _, _, _, .cons h r, q => .cons h (RepK.app r q)
theorem RepK.put {κ : Type} [DecidableEq κ] {k : κ} {d : D} {v : V} (hd : Rep E.G F io d v) {kvs : List (κ × D)} {vs : List (κ × V)} (r : RepK E.G F io kvs vs) : RepK E.G F io (kput kvs k d) (putK vs k v) := @Rq9 _ _ (fun qz => @Hq9.get _ _ (qz.bar : Hq9 _ (by
  clear qz
  unfold kput putK
  rw [r.anyk]
  split
  · exact r.mapk hd
  · exact r.app (.cons hd .nil)))) Xq9.mk
theorem key_of {d : D} {v : V} {k : Key} (r : Rep E.G F io d v) (e : keyOf d = some k) : v = kV k := by
  cases r <;> first | (cases e; rfl) | cases e
theorem ixD_ok (ok : E.Ok) {x y d : D} {v u : V} (w : E.ws fr (σ ++ tp) H F io) (hx : Lk E.G F io H x v) (hy : Rep E.G F io y u) (e : ixD fr.sto x y = some d) (h : okE E σ tp F io Q (.out (.val d)) fr) : wIx E.X v u H Q := @Rq9 _ _ (fun qz => @Hq9.get _ _ (qz.bar : Hq9 _ (by
  clear qz
  have atR : ∀ {xs : List D} {vs : List V} {i : Int}, Reps E.G F io xs vs → atI xs i = some d → ∃ z, atI vs i = some z ∧ Rep E.G F io d z := by
    intro xs vs i r e
    unfold atI at e ⊢
    rw [r.length] at e
    cases q : ixN vs.length i with
    | none => rw [q] at e; cases e
    | some j =>
      rw [q] at e
      exact r.get e
  unfold ixD at e
  split at e
  · obtain ⟨p, vs, rfl, h1, r1⟩ := hx.lst w.wr.sub
    cases hy
    obtain ⟨z, e2, rz⟩ := atR r1 e
    exact wIx_of ix_list ⟨p, vs, _, z, rfl, rfl, SqL.of h1, e2, h z H F io (Same.refl _) (Pre.refl _) w rz⟩
  · obtain ⟨p, vs, rfl, h1, _, r1⟩ := hx.tup w.wr.sub
    rw [ok.k] at h1
    cases hy
    obtain ⟨z, e2, rz⟩ := atR r1 e
    exact wIx_of ix_tup ⟨p, vs, _, z, rfl, rfl, h1, e2, h z H F io (Same.refl _) (Pre.refl _) w rz⟩
  · split at e
    · rename_i hz
      rw [hx.str]
      cases hy
      cases q : atI (Str.cps _).toList _ with
      | none => rw [q] at e; cases e
      | some c =>
        rw [q] at e
        cases e
        exact wIx_of ix_str ⟨_, _, c, rfl, rfl, hz, q, h.str w⟩
    · cases e
  · rename_i k n
    have hx' : Rep E.G F io (.cell n) v := by
      rcases hx with hx | ⟨_, _, _, z, _⟩
      · exact hx
      · cases z
    cases hx' with
    | cell hc =>
      rename_i a
      cases q : fr.sto[n]? with
      | none => simp [q] at e
      | some c =>
        cases c with
        | inst c fs => simp [q] at e
        | dictT kvs => simp [q] at e
        | dict kvs =>
          cases q2 : keyOf y with
          | none => simp [q, q2] at e
          | some kk =>
            simp only [q, q2] at e
            obtain ⟨a', e1, _, vs, h1, h2⟩ := w.wr.cel n _ q
            rw [hc] at e1; cases e1
            obtain ⟨z, e3, rz⟩ := h2.get e
            have hk := key_of hy q2
            subst hk
            exact wIx_of (ix_dict (by have := ok.hu; omega)) ⟨a, z, rfl, e3 ▸ DGet.k h1, h z H F io (Same.refl _) (Pre.refl _) w rz⟩
  · cases e))) Xq9.mk
theorem SE_ix (ok : E.Ok) {o i : Expr} {to ti : Tm} (hs : notSlice i = true) (ho : SE E o to) (hi : SE E i ti) : SE E (.Subscript o i pos) (.ix to ti) := @Rq9 _ _ (fun qz => @Hq9.get _ _ (qz.bar : Hq9 _ (by
  clear qz
  intro fr σ tp H F io Q hl w h
  refine wE_of (pe_ix ix_w pe_w pe_w (plain_ix hs)) ?_
  unfold ev at h
  refine ho.held hl w h fun r fr1 v H1 F1 io1 s1 p1 w1 hk h1 => ?_
  refine hi.part hl w1 h1 fun k fr2 u H2 F2 io2 s2 p2 w2 rk h2 => ?_
  cases e1 : look fr2.env (hold r) with
  | none => simp [e1] at h2; exact h2.elim
  | some d =>
    simp only [e1] at h2
    cases e2 : ixD fr2.sto d k with
    | none => simp [e2] at h2; exact h2.elim
    | some y =>
      simp only [e2] at h2
      exact ixD_ok ok w2 (w2.look (hk.mono s2 p2) e1) rk e2 (okE.mono (s1.trans s2) (p1.trans p2) h2)))) Xq9.mk
/-! ### slices -/
def wSl (X : Cx) : V → Option Int → Option Int → Hp → VK → Prop := fun x lo hi H Q => ∀ (pins : List (Addr × Obj)) (s : Shared) (σ : St) (v vl vu : Value) (sl : Addr), Inv X pins σ H s → RelV x v → s.heap.IsSliceOf sl vl vu .none → IsPart vl lo → IsPart vu hi →
    ∃ T id, typeLookup (.type T) "__getitem__" = pure (some (.builtin id)) ∧ s.TypeIs v T ∧ wpAny (model X.prog X.w) X.A (getItem v (.ref sl)) (EP X pins σ Q) X.xe s
theorem sl_w {X : Cx} : SlR X (wSl X) := fun pins s σ H x v vl vu lo hi sl Q I r a b c h => h pins s σ v vl vu sl I r a b c
theorem wSl_of {X : Cx} {r : V → Option Int → Option Int → Hp → VK → Prop} {x : V} {lo hi : Option Int} {H : Hp} {Q : VK} (h : SlR X r) (q : r x lo hi H Q) : wSl X x lo hi H Q := fun pins s σ v vl vu sl I r a b c => h pins s σ H x v vl vu lo hi sl Q I r a b c q
theorem cutL_rep {xs : List D} {vs : List V} (r : Reps E.G F io xs vs) (lo hi : Option Int) : Reps E.G F io (cutL xs lo hi) (cutV vs lo hi) := @Rq9 _ _ (fun qz => @Hq9.get _ _ (qz.bar : Hq9 _ (by
  clear qz
  unfold cutL cutV
  rw [r.length]
  exact (r.drop _).take _))) Xq9.mk
def SO (E : En) (oe : Option Expr) (ot : Option Tm) : Prop := match oe, ot with
  | none, none => True
  | some e, some t => SE E e t
  | _, _ => False
def wO (X : Cx) (oe : Option Expr) : TO := match oe with
  | none => tNoPart
  | some e => tPart (wE X e)
theorem po_w {X : Cx} {oe : Option Expr} : PO X oe (wO X oe) := @Rq9 _ _ (fun qz => @Hq9.get _ _ (qz.bar : Hq9 _ (by
  clear qz
  cases oe with
  | none => exact po_none
  | some e => exact po_some pe_w))) Xq9.mk
theorem SO.read {oe : Option Expr} {ot : Option Tm} (ho : SO E oe ot) (hl : σ.length = E.X.N.length) (w : E.ws fr (σ ++ tp) H F io) {α : Type} {k : Option Int → Fr → Rs α} {P : α → Fr → Prop} (h : ((evo E.T ot fr).bind k).all P (exE E σ tp F io))
    {R : Option Int → Hp → Prop} (q : ∀ o fr1 H1 F1 io1, Same F F1 → Pre io io1 → E.ws fr1 (σ ++ tp) H1 F1 io1 → (k o fr1).all P (exE E σ tp F1 io1) → R o H1) : wO E.X oe σ H R := @Rq9 _ _ (fun qz => @Hq9.get _ _ (qz.bar : Hq9 _ (by
  clear qz
  cases oe with
  | none =>
    cases ot with
    | none => exact q none fr H F io (Same.refl _) (Pre.refl _) w h
    | some t => exact ho.elim
  | some e =>
    cases ot with
    | none => exact ho.elim
    | some t =>
      have h0 := Rs.all_bind h
      unfold evo at h0
      show wE E.X e σ H _
      refine SE.part (show SE E e t from ho) hl w h0 fun d fr1 v H1 F1 io1 s p w1 r z => ?_
      cases d with
      | int i =>
        cases r
        exact ⟨i, rfl, q (some i) fr1 H1 F1 io1 s p w1 (Rs.all_imp z (fun _ _ y => y) fun _ _ _ y => y.mono s p)⟩
      | _ => exact z.elim))) Xq9.mk
theorem SE_slice (ok : E.Ok) {o : Expr} {lo hi : Option Expr} {to : Tm} {tl th : Option Tm} {p2 : Pos} (ho : SE E o to) (hlo : SO E lo tl) (hhi : SO E hi th) : SE E (.Subscript o (.Slice lo hi none p2) pos) (.slice to tl th) := @Rq9 _ _ (fun qz => @Hq9.get _ _ (qz.bar : Hq9 _ (by
  clear qz
  intro fr σ tp H F io Q hl w h
  refine wE_of (pe_slice sl_w pe_w po_w po_w) ?_
  unfold ev at h
  refine ho.held hl w h fun r fr1 v H1 F1 io1 s1 p1 w1 hk h1 => ?_
  refine hlo.read hl w1 h1 fun l fr2 H2 F2 io2 s2 p2 w2 h2 => ?_
  refine hhi.read hl w2 h2 fun u fr3 H3 F3 io3 s3 p3 w3 h3 => ?_
  cases e1 : look fr3.env (hold r) with
  | none => simp [e1] at h3; exact h3.elim
  | some d =>
    simp only [e1] at h3
    have lk := w3.look (hk.mono (s2.trans s3) (p2.trans p3)) e1
    cases d with
    | lst xs =>
      obtain ⟨p, vs, rfl, g1, r1⟩ := lk.lst w3.wr.sub
      exact wSl_of sl_list ⟨p, vs, rfl, SqL.of g1, fun l hl => okE.fresh w3 (cutL_rep r1 _ _) (okE.mono ((s1.trans s2).trans s3) ((p1.trans p2).trans p3) h3) hl⟩
    | rol xs =>
      obtain ⟨p, vs, rfl, g1, r1⟩ := lk.rol w3.wr.sub
      rw [ok.k] at g1
      exact wSl_of sl_list ⟨p, vs, rfl, g1, fun l hl => okE.fresh w3 (cutL_rep r1 _ _) (okE.mono ((s1.trans s2).trans s3) ((p1.trans p2).trans p3) h3) hl⟩
    | tup xs =>
      obtain ⟨p, vs, rfl, g1, g2, r1⟩ := lk.tup w3.wr.sub
      rw [ok.k] at g1
      have h3' : okE E σ tp F3 io3 Q (.out (.val (.tup (cutL xs l u)))) fr3 := okE.mono ((s1.trans s2).trans s3) ((p1.trans p2).trans p3) h3
      refine wSl_of sl_tupA ⟨p, vs, rfl, g1, fun z => ?_, fun _ l hl => okE.tup w3 (cutL_rep r1 _ _) h3' hl⟩
      have e2 : cutL xs l u = xs := by
        unfold cutL
        rw [r1.length, z.1, z.2, ← r1.length]
        simp
      rw [e2] at h3'
      exact h3' _ H3 F3 io3 (Same.refl _) (Pre.refl _) w3 (.tup g2 r1)
    | _ => exact h3.elim))) Xq9.mk
end
end Ag
namespace Ag
open PySem PySem.Spec L2
/-- the callable u does what phi tells -/
def Calls (E : En) (u : Value) (phi : Fn) : Prop := ∀ (fr : Fr) (σ tp : St) (H F : Hp) (io : List Addr) (Q : VK) (ds : List D) (vs : List V) (us : List Value) (pins : List (Addr × Obj)) (s : Shared),
  E.ws fr (σ ++ tp) H F io → Reps E.G F io ds vs → Vals vs us → Inv E.X pins σ H s → (ofFx fr (phi ds fr.sto)).all (okE E σ tp F io Q) (exE E σ tp F io) →
  wpAny (model E.X.prog E.X.w) E.X.A (call u us) (EP E.X pins σ Q) E.X.xe s
def CallOk (E : En) (x : Str) (i : Nat) : Prop := ∃ u, E.X.mg x = some u ∧ PySem.W.keepIn E.X.K u = true ∧ Calls E u (E.T.phi i)
/-- the method m of instances of the class c -/
def MethOk (E : En) (c m i : Nat) : Prop := Cls E.X.K (E.G.cl c) ∧ ∃ g, Meth E.X.K (E.G.cl c) (E.G.fn m) g ∧ Calls E (.ref g) (E.T.phi i)
section
variable {E : En} {e a b c : Expr} {ta tb tc : Tm} {fr : Fr} {σ tp : St} {H F : Hp} {io : List Addr} {Q : VK} {pos : Pos} {es : List Expr} {ts : List Tm}
theorem args_read {i : Nat} {phi : Fn} {u : Value} (hcall : Calls E u phi) (ha : SA E es ts) (hl : σ.length = E.X.N.length) (w : E.ws fr (σ ++ tp) H F io) {d0 : List D} {v0 : List V} (r0 : Reps E.G F io d0 v0)
    (h : ((evs E.T ts fr).bind fun ds fr1 => ofFx fr1 (phi (d0 ++ ds) fr1.sto)).all (okE E σ tp F io Q) (exE E σ tp F io)) :
    wA E.X es σ H fun vs H1 => ∀ pins s us, Inv E.X pins σ H1 s → Vals (v0 ++ vs) us → wpAny (model E.X.prog E.X.w) E.X.A (call u us) (EP E.X pins σ Q) E.X.xe s := @Rq9 _ _ (fun qz => @Hq9.get _ _ (qz.bar : Hq9 _ (by
  clear qz
  refine ha fr σ tp H F io _ hl w (Rs.all_imp (Rs.all_bind h) (fun ds fr1 z => ?_) fun _ _ _ x => x)
  intro vs H1 F1 io1 s p w1 r pins sh us I rv
  exact hcall fr1 σ tp H1 F1 io1 Q (d0 ++ ds) (v0 ++ vs) us pins sh w1 ((r0.mono s p).append r) rv I (Rs.all_imp z (fun _ _ y => okE.mono s p y) fun _ _ _ y => y.mono s p)))) Xq9.mk
theorem SE_call {x : Str} {p : Pos} {i : Nat} (hg : Gl E.X x) (hd : (x == ("__debug__" : Str)) = false) (hc : CallOk E x i) (hn : notStar e = true) (hs : allNot es = true) (ha : SA E (e :: es) ts) : SE E (.Call (.Name x p) (e :: es) [] pos) (.call i ts) := @Rq9 _ _ (fun qz => @Hq9.get _ _ (qz.bar : Hq9 _ (by
  clear qz
  intro fr σ tp H F io Q hl w h
  unfold ev at h
  obtain ⟨u, hm, hk, hcall⟩ := hc
  have hA := args_read (i := i) hcall ha hl w (d0 := []) (v0 := []) .nil h
  intro pins s I
  refine wpAny_Call_Name_kw (ld_glob I hg hm ?_ hd)
  refine PySem.W.callWith_K (h₀ := E.X.base) I.ok.mod.kin hk (thn (hA pos pins s I) fun us s1 ⟨vs, H1, I1, r, q⟩ => ⟨I1.kIn, ?_⟩) (star_ne hn _ _) (plain_of hs _ _)
  exact q pins s1 us I1 r))) Xq9.mk
theorem SE_call0 {x : Str} {p : Pos} {i : Nat} (hg : Gl E.X x) (hd : (x == ("__debug__" : Str)) = false) (hc : CallOk E x i) : SE E (.Call (.Name x p) [] [] pos) (.call i []) := @Rq9 _ _ (fun qz => @Hq9.get _ _ (qz.bar : Hq9 _ (by
  clear qz
  intro fr σ tp H F io Q hl w h
  unfold ev at h
  obtain ⟨u, hm, hk, hcall⟩ := hc
  intro pins s I
  refine wpAny_Call_Name_kw (ld_glob I hg hm ?_ hd)
  exact PySem.W.callWith_K0 I.kIn hk (hcall fr σ tp H F io Q [] [] [] pins s w .nil .nil I (Rs.all_bind h))))) Xq9.mk
theorem meth_read {o : Expr} {to : Tm} {m : Nat} (ok : E.Ok) (hm : ∀ c i, E.T.psi c m = some i → MethOk E c m i) (ho : SE E o to) (hl : σ.length = E.X.N.length) (w : E.ws fr (σ ++ tp) H F io)
    (h : (ev E.T (.meth m to ts) fr).all (okE E σ tp F io Q) (exE E σ tp F io)) :
    wE E.X o σ H fun v H1 => ∃ (a : Addr) (dx : Addr) (fs : List (Str × V)) (c i : Nat) (d : D) (fr1 : Fr) (F1 : Hp) (io1 : List Addr), v = .ref a ∧ H1 a = some (.ins (E.G.cl c) dx fs) ∧ fs.lookup (E.G.fn m) = none ∧ MethOk E c m i ∧
      E.ws fr1 (σ ++ tp) H1 F1 io1 ∧ Rep E.G F1 io1 d v ∧ ((evs E.T ts fr1).bind fun ds fr2 => ofFx fr2 (E.T.phi i ([d] ++ ds) fr2.sto)).all (okE E σ tp F1 io1 Q) (exE E σ tp F1 io1) := @Rq9 _ _ (fun qz => @Hq9.get _ _ (qz.bar : Hq9 _ (by
  clear qz
  unfold ev at h
  refine ho.part hl w h fun d fr1 v H1 F1 io1 s p w1 r z => ?_
  cases e1 : insD fr1.sto d with
  | none => simp [e1] at z; exact z.elim
  | some q =>
    obtain ⟨c, fs⟩ := q
    simp only [e1] at z
    split at z
    · rename_i hf
      cases e2 : E.T.psi c m with
      | none => simp [e2] at z; exact z.elim
      | some i =>
        simp only [e2] at z
        obtain ⟨a, dx, vs, rfl, h1, rf⟩ := ins_at w1 r e1
        exact ⟨a, dx, vs, c, i, d, fr1, F1, io1, rfl, h1, rf.none ok.inj (Option.isNone_iff_eq_none.mp hf), hm c i e2, w1, r, Rs.all_imp z (fun _ _ y => okE.mono s p y) fun _ _ _ y => y⟩
    · exact z.elim))) Xq9.mk
theorem form_of {es : List Expr} (h : allNot es = true) (hn : es.length < 29) (env : Env) : methodCallForm (es.length + ([] : List Keyword).length) (backTo pos (starEach es env)) (backToKw pos (keywordEach [] env)) = true := @Rq9 _ _ (fun qz => @Hq9.get _ _ (qz.bar : Hq9 _ (by
  clear qz
  have h1 : ∀ l : List Expr, allNot l = true → (backTo pos (starEach l env)).all (!·.1) = true := by
    intro l
    induction l with
    | nil => intro _; rfl
    | cons e l ih =>
      intro h
      unfold allNot at h ih
      rw [List.all_cons, Bool.and_eq_true] at h
      rw [star_ne h.1]
      show (true && (backTo pos (starEach l env)).all (!·.1)) = true
      rw [ih h.2]; rfl
  unfold methodCallForm
  rw [h1 es h]
  show (true && true && decide (es.length + 0 + 0 < 30)) = true
  simp
  omega))) Xq9.mk
theorem meth_eval {o : Expr} {m : Str} {apos : Pos} {env : Env} (hso : notSuper o = true) (hs : allNot es = true) (hn : es.length < 29) (hl : (apos.endLine == pos.line) = true) :
    eval (.Call (.Attribute o m apos) es [] pos) env = (do
      let ov ← eval o env
      standAt apos.atName
      let (f, first) ← holding [ov] (getMethod ov m (do return (← importBound o env).getD true))
      callWith pos f first (backTo pos (starEach es env)) (backToKw pos (keywordEach [] env))) := @Rq9 _ _ (fun qz => @Hq9.get _ _ (qz.bar : Hq9 _ (by
  clear qz
  show (do
    let ov ← attributeBase o m env (eval o env)
    standAt apos.atName
    methodCall o m apos pos env ov (es.length + ([] : List Keyword).length) (backTo pos (starEach es env)) (backToKw pos (keywordEach [] env))) = _
  rw [base_of hso]
  unfold methodCall
  rw [form_of hs hn]
  unfold methodCallPos
  rw [hl]
  rfl))) Xq9.mk
theorem SE_meth (ok : E.Ok) {o : Expr} {to : Tm} {m : Nat} {x : Str} {apos : Pos} (hx : E.G.fn m = x) (hm : ∀ c i, E.T.psi c m = some i → MethOk E c m i) (ho : SE E o to) (hso : notSuper o = true)
    (hn : notStar e = true) (hs : allNot es = true) (hz : es.length < 28) (hli : (apos.endLine == pos.line) = true) (ha : SA E (e :: es) ts) : SE E (.Call (.Attribute o x apos) (e :: es) [] pos) (.meth m to ts) := @Rq9 _ _ (fun qz => @Hq9.get _ _ (qz.bar : Hq9 _ (by
  clear qz
  intro fr σ tp H F io Q hl w h
  subst hx
  have hr := meth_read ok hm ho hl w h
  intro pins s I
  refine PySem.W.methodCall_KW (pl := do return (← importBound o E.X.env).getD true) (thn (hr pins s I) fun u s1 ⟨x, H1, I1, rx, a, dx, fs, c, i, d, fr1, F1, io1, ex, ea, l, ⟨cc, g, hg, hcall⟩, w1, rd, q⟩ => ?_) (meth_eval hso (by unfold allNot; rw [List.all_cons, hn]; exact hs) (by simp; omega) hli)
  subst ex
  obtain rfl : u = Value.ref a := rx
  refine getmeth_ok I1 ea cc hg l ?_
  have hA := args_read (i := i) hcall ha hl w1 (d0 := [d]) (v0 := [.ref a]) (.cons rd .nil) q
  refine PySem.W.callWith_K (first := [.ref a]) (h₀ := E.X.base) I.ok.mod.kin hg.kp (thn (hA pos pins s1 I1) fun us s2 ⟨vs, H2, I2, r, q2⟩ => ⟨I2.kIn, ?_⟩) (star_ne hn _ _) (plain_of hs _ _)
  exact q2 pins s2 (.ref a :: us) I2 (.cons rfl r)))) Xq9.mk
theorem SE_meth0 (ok : E.Ok) {o : Expr} {to : Tm} {m : Nat} {x : Str} {apos : Pos} (hx : E.G.fn m = x) (hm : ∀ c i, E.T.psi c m = some i → MethOk E c m i) (ho : SE E o to) (hso : notSuper o = true) (hli : (apos.endLine == pos.line) = true) :
    SE E (.Call (.Attribute o x apos) [] [] pos) (.meth m to []) := @Rq9 _ _ (fun qz => @Hq9.get _ _ (qz.bar : Hq9 _ (by
  clear qz
  intro fr σ tp H F io Q hl w h
  subst hx
  have hr := meth_read ok hm ho hl w h
  intro pins s I
  refine PySem.W.methodCall_KW (pl := do return (← importBound o E.X.env).getD true) (thn (hr pins s I) fun u s1 ⟨x, H1, I1, rx, a, dx, fs, c, i, d, fr1, F1, io1, ex, ea, l, ⟨cc, g, hg, hcall⟩, w1, rd, q⟩ => ?_) (meth_eval hso rfl (by decide) hli)
  subst ex
  obtain rfl : u = Value.ref a := rx
  refine getmeth_ok I1 ea cc hg l ?_
  exact PySem.W.callWith_K0 (first := [.ref a]) I1.kIn hg.kp (hcall fr1 σ tp H1 F1 io1 Q [d] [.ref a] [.ref a] pins s1 w1 (.cons rd .nil) (.cons rfl .nil) I1 (Rs.all_bind q))))) Xq9.mk
/-! ### displays of dicts -/
def En.at (E : En) (h0 : Ent) : En := { E with H0 := h0 }
theorem En.Ok.at (ok : E.Ok) (h0 : Ent) : (E.at h0).Ok := ⟨ok.k, ok.nd, ok.calm, ok.hu5, ok.tk, ok.inj, ok.fld⟩
/-- the pairs of a display -/
inductive SK (E : En) : List (Option Expr) → List Expr → List (Key × Tm) → Prop
  | nil : SK E [] [] []
  | str {x : Str} {j : Nat} {p : Pos} {v : Expr} {t : Tm} {ks vs kts} : (∀ h0, SE (E.at h0) v t) → SK E ks vs kts → SK E (some (.Constant (.str x) j p) :: ks) (v :: vs) ((.inr x, t) :: kts)
def kTE (E : En) : List (Option Expr) → List Expr → List (TE × TE)
  | some k :: ks, v :: vs => (wE E.X k, wE E.X v) :: kTE E ks vs
  | _, _ => []
theorem SK.pps {ks : List (Option Expr)} {vs : List Expr} {kts : List (Key × Tm)} (h : SK E ks vs kts) : PPs E.X pos ks vs (kTE E ks vs) := @Rq9 _ _ (fun qz => @Hq9.get _ _ (qz.bar : Hq9 _ (by
  clear qz
  induction h with
  | nil => exact pps_nil
  | str _ _ ih => exact pps_cons pe_w pe_w ih))) Xq9.mk
theorem SK.len {ks : List (Option Expr)} {vs : List Expr} {kts : List (Key × Tm)} (h : SK E ks vs kts) : ks.length = vs.length ∧ ks.length = kts.length ∧ ks.all (·.isSome) = true := @Rq9 _ _ (fun qz => @Hq9.get _ _ (qz.bar : Hq9 _ (by
  clear qz
  induction h with
  | nil => exact ⟨rfl, rfl, rfl⟩
  | str _ _ ih => exact ⟨by simp [ih.1], by simp [ih.2.1], by simpa using ih.2.2⟩))) Xq9.mk
/-- more is known of the entry -/
def Ext (H0 h0 : Ent) : Prop := Same H0.hp h0.hp ∧ H0.fz = h0.fz
theorem Ws.weak {G : Glb} {H0 h0 : Ent} {n0 : Nat} {ρ : St} (s : Ext H0 h0) (w : Ws G h0 n0 fr ρ H F io) : Ws G H0 n0 fr ρ H F io := @Rq9 _ _ (fun qz => @Hq9.get _ _ (qz.bar : Hq9 _ (by
  clear qz
  have nn : ∀ a, h0 a = none → H0 a = none := fun a e => by
    cases q : H0 a with
    | none => rfl
    | some o => rw [s.1 a o q] at e; cases e
  refine ⟨⟨w.wr.sub, w.wr.len, w.wr.cel, w.wr.inj, fun a o e k => w.wr.keep a o (s.1 a o e) k, fun n a h e => nn a (w.wr.new n a h e), w.wr.frz, w.wr.nle, fun a o u e1 e2 => s.2 ▸ w.wr.old a o u (s.1 a o e1) e2⟩, w.sl.len, fun i sl e => ?_, w.sl.dis⟩
  have q := w.sl.at_ i sl e
  cases sl with
  | un => trivial
  | val d => exact q
  | own xs => obtain ⟨p, e1, vs, h1, h2, h3, h4, h5⟩ := q; exact ⟨p, e1, vs, h1, h2, h3, nn p h4, h5⟩))) Xq9.mk
theorem exE.at {h0 : Ent} (s : Ext E.H0 h0) {c : Nat} {fs : List D} {fr : Fr} (h : exE E σ tp F io c fs fr) : exE (E.at h0) σ tp F io c fs fr :=
  fun d H' F' io' s1 p1 w x => h d H' F' io' s1 p1 (Ws.weak s w) x
theorem SE.partX {v : Expr} {t : Tm} {h0 : Ent} (ha : SE (E.at h0) v t) (hs : Ext E.H0 h0) (hl : σ.length = E.X.N.length) (w : (E.at h0).ws fr (σ ++ tp) H F io) {α : Type} {k : D → Fr → Rs α} {P : α → Fr → Prop} (h : ((ev E.T t fr).fr k).all P (exE E σ tp F io))
    (q : ∀ d fr1 v H1 F1 io1, Same F F1 → Pre io io1 → (E.at h0).ws fr1 (σ ++ tp) H1 F1 io1 → Rep E.G F1 io1 d v → (k d fr1).all P (exE E σ tp F1 io1) → Q v H1) : wE E.X v σ H Q := @Rq9 _ _ (fun qz => @Hq9.get _ _ (qz.bar : Hq9 _ (by
  clear qz
  refine ha fr σ tp H F io Q hl w (Rs.all_imp (Rs.all_fr h) (fun r fr1 z => ?_) fun _ _ _ x => x.at hs)
  obtain ⟨d, fr', e1, z⟩ := z
  intro v H' F' io' s p w' rv
  obtain ⟨F2, s2, rp, w2⟩ := w'.toD rv e1
  exact q d fr' v H' F2 io' (s.trans s2) p w2 rp (Rs.all_imp z (fun _ _ y => y) fun _ _ _ y => y.mono (s.trans s2) p)))) Xq9.mk
theorem SK.read {ks : List (Option Expr)} {vs : List Expr} {kts : List (Key × Tm)} (h : SK E ks vs kts) (h0 : Ent) (hs : Ext E.H0 h0) : ∀ {fr : Fr} {H F : Hp} {io : List Addr} {P : List (Key × D) → Fr → Prop} {R : List (V × V) → Hp → Prop}, σ.length = E.X.N.length → (E.at h0).ws fr (σ ++ tp) H F io →
    (evk E.T kts fr).all P (exE E σ tp F io) →
    (∀ kds fr1 kvs H1 F1 io1, Same F F1 → Pre io io1 → (E.at h0).ws fr1 (σ ++ tp) H1 F1 io1 → RepK E.G F1 io1 kds kvs → P kds fr1 → R (kvs.map fun kv => (kV kv.1, kv.2)) H1) → tPairs (kTE E ks vs) σ H R := @Rq9 _ _ (fun qz => @Hq9.get _ _ (qz.bar : Hq9 _ (by
  clear qz
  induction h with
  | nil =>
    intro fr H F io P R hl w h q
    exact q [] fr [] H F io (Same.refl _) (Pre.refl _) w .nil h
  | @str x j p v t ks vs kts hv hr ih =>
    intro fr H F io P R hl w h q
    show wE E.X (.Constant (.str x) j p) σ H fun y H1 => wE E.X v σ H1 fun z H2 => tPairs (kTE E ks vs) σ H2 fun ps H3 => R ((y, z) :: ps) H3
    refine wE_of pe_str ?_
    unfold evk at h
    refine SE.partX (E := E) (hv h0) hs hl w h fun d fr1 u H1 F1 io1 s1 p1 w1 r z => ?_
    refine ih (P := fun kds fr2 => P ((.inr x, d) :: kds) fr2) hl w1 ?_ fun kds fr2 kvs H2 F2 io2 s2 p2 w2 rk z2 => ?_
    · exact Rs.all_bind z
    · exact q ((.inr x, d) :: kds) fr2 ((.inr x, u) :: kvs) H2 F2 io2 (s1.trans s2) (p1.trans p2) w2 (.cons (r.mono s2 p2) rk) z2))) Xq9.mk
end
end Ag
namespace Ag
open PySem PySem.Spec L2
section
variable {E : En} {e a b c : Expr} {ta tb tc : Tm} {fr : Fr} {σ tp : St} {H F : Hp} {io : List Addr} {Q : VK} {pos : Pos} {es : List Expr} {ts : List Tm}
theorem RepK.merge : ∀ {more : List (Key × D)} {vs : List (Key × V)}, RepK E.G F io more vs → ∀ {kvs : List (Key × D)} {us : List (Key × V)}, RepK E.G F io kvs us → RepK E.G F io (kmerge kvs more) (mergeK us vs)
  | _, _, .nil => fun q => q
  | _, _, .cons h r => fun q => RepK.merge r (q.put h)
theorem pre_app {io : List Addr} {p : Addr} : Pre io (io ++ [p]) := fun n a h => by
  rw [List.getElem?_append_left (List.getElem?_eq_some_iff.mp h).1]; exact h
theorem app_at {io : List Addr} {p : Addr} {n : Nat} {a : Addr} (h : (io ++ [p])[n]? = some a) : (n = io.length ∧ a = p) ∨ io[n]? = some a := @Rq9 _ _ (fun qz => @Hq9.get _ _ (qz.bar : Hq9 _ (by
  clear qz
  by_cases q : n < io.length
  · rw [List.getElem?_append_left q] at h; exact .inr h
  · have : n = io.length := by
      have := (List.getElem?_eq_some_iff.mp h).1
      rw [List.length_append] at this
      simp at this; omega
    subst this
    simp at h
    exact .inl ⟨rfl, h.symm⟩))) Xq9.mk
def Ent.add (h : Ent) (p : Addr) (o : HO) : Ent := ⟨upd h.hp p o, h.fz⟩
/-- a pending thing at p (known since h0) becomes a cell -/
theorem Ws.addCell {p : Addr} {o u : HO} {cl : Cell} (w : (E.at (E.H0.add p o)).ws fr (σ ++ tp) H F io) (hp : E.H0 p = none) (np : ∀ n : Nat, n < E.n0 → io[n]? ≠ some p) (fo : ¬ Fz o) (mu : ∀ q, Own E.G (E.H0.add p o) H F io q p → False)
    (hc : CellOk E.G F (io ++ [p]) (upd H p u) p cl) : E.ws { fr with sto := fr.sto ++ [cl] } (σ ++ tp) (upd H p u) F (io ++ [p]) := @Rq9 _ _ (fun qz => @Hq9.get _ _ (qz.bar : Hq9 _ (by
  clear qz
  have hH : H p = some o := w.wr.keep p o upd_same np
  have hF : F p = none := by
    cases q : F p with
    | none => rfl
    | some x =>
      have := w.wr.sub p x q
      rw [hH] at this; cases this
      exact absurd (w.wr.frz p _ q) fo
  have nio : ∀ n : Nat, io[n]? ≠ some p := fun n e => by
    by_cases h : n < E.n0
    · exact np n h e
    · have z : upd E.H0.hp p o p = none := w.wr.new n p (Nat.le_of_not_lt h) e
      rw [upd_same] at z; cases z
  have hne : ∀ a x, H a = some x → a ≠ p → (upd H p u) a = some x := fun a x e n => by rw [upd_ne n]; exact e
  refine ⟨⟨fun a x e => ?_, by simp [w.wr.len], fun n c e => ?_, fun i j a e1 e2 => ?_, fun a x e k => ?_, fun n a hn e => ?_, w.wr.frz, by have := w.wr.nle; show E.n0 ≤ _; rw [List.length_append]; exact Nat.le_trans this (Nat.le_add_right _ _), fun a x y e1 e2 => ?_⟩, w.sl.len, fun i sl e => ?_, w.sl.dis⟩
  · have n : a ≠ p := fun z => by rw [z, hF] at e; cases e
    exact hne a x (w.wr.sub a x e) n
  · by_cases q : n < fr.sto.length
    · rw [List.getElem?_append_left q] at e
      obtain ⟨a, e1, e2, e3⟩ := w.wr.cel n c e
      have na : a ≠ p := fun z => nio n (z ▸ e1)
      refine ⟨a, pre_app _ _ e1, e2, ?_⟩
      cases c with
      | dict kvs => obtain ⟨us, h1, h2⟩ := e3; exact ⟨us, hne _ _ h1 na, h2.mono (Same.refl _) pre_app⟩
      | dictT kvs => obtain ⟨us, h1, h2⟩ := e3; exact ⟨us, hne _ _ h1 na, h2.mono (Same.refl _) pre_app⟩
      | inst c fs => obtain ⟨dx, us, h1, h2⟩ := e3; exact ⟨dx, us, hne _ _ h1 na, h2.mono (Same.refl _) pre_app⟩
    · have hl := (List.getElem?_eq_some_iff.mp e).1
      rw [List.length_append] at hl
      have hn : n = fr.sto.length := by simp at hl; omega
      subst hn
      simp at e; subst e
      refine ⟨p, ?_, hF, hc⟩
      rw [← w.wr.len]; simp
  · rcases app_at e1 with ⟨g1, g2⟩ | g
    · rcases app_at e2 with ⟨k1, _⟩ | k
      · rw [g1, k1]
      · exact absurd (g2 ▸ k) (nio j)
    · rcases app_at e2 with ⟨k1, k2⟩ | k
      · exact absurd (k2 ▸ g) (nio i)
      · exact w.wr.inj i j a g k
  · have n : a ≠ p := fun z => by rw [z, hp] at e; cases e
    refine hne a x (w.wr.keep a x (by show upd E.H0.hp p o a = some x; rw [upd_ne n]; exact e) fun n hn z => k n hn (pre_app _ _ z)) n
  · rcases app_at e with ⟨rfl, rfl⟩ | e
    · exact hp
    · have z : upd E.H0.hp p o a = none := w.wr.new n a hn e
      have na : a ≠ p := fun z2 => nio n (z2 ▸ e)
      rw [upd_ne na] at z; exact z
  · have n : a ≠ p := fun z => by rw [z, hp] at e1; cases e1
    exact w.wr.old a x y (by show upd E.H0.hp p o a = some x; rw [upd_ne n]; exact e1) e2
  · have q := w.sl.at_ i sl e
    cases sl with
    | un => trivial
    | val d => obtain ⟨v, e1, r⟩ := q; exact ⟨v, e1, r.mono (Same.refl _) pre_app⟩
    | own xs =>
      obtain ⟨q, e1, own⟩ := q
      obtain ⟨vs, h1, h2, h3, h4, h5⟩ := own
      have z : upd E.H0.hp p o q = none := h4
      have nq : q ≠ p := fun z2 => by rw [z2, upd_same] at z; cases z
      rw [upd_ne nq] at z
      refine ⟨q, e1, vs, hne _ _ h1 nq, h2, fun n e => ?_, z, h5.mono (Same.refl _) pre_app⟩
      rcases app_at e with ⟨_, e⟩ | e
      · exact nq e
      · exact h3 n e))) Xq9.mk
/-- a new thing at p, not a cell as yet -/
theorem Ws.pend (w : E.ws fr (σ ++ tp) H F io) {p : Addr} (hp : H p = none) (o : HO) : (E.at (E.H0.add p o)).ws fr (σ ++ tp) (upd H p o) F io ∧ Ext E.H0 (E.H0.add p o) := @Rq9 _ _ (fun qz => @Hq9.get _ _ (qz.bar : Hq9 _ (by
  clear qz
  obtain ⟨f1, f2, f3⟩ := w.wr.fresh hp
  have w' := w.grow hp o (Same.refl F) (fun _ _ => rfl) (fun a u e => by rw [upd_ne (ne_of_none (w.wr.sub a u e) hp)]; exact w.wr.sub a u e) (fun u e => by rw [f1] at e; cases e)
  refine ⟨⟨⟨w'.wr.sub, w'.wr.len, w'.wr.cel, w'.wr.inj, fun a u e k => ?_, fun n a hn e => ?_, w'.wr.frz, w'.wr.nle, fun a u x e1 e2 => ?_⟩, w'.sl.len, fun i sl e => ?_, w'.sl.dis⟩, fun a u e => by show upd E.H0.hp p o a = some u; rw [upd_ne (ne_of_none e f3)]; exact e, rfl⟩
  · have e : upd E.H0.hp p o a = some u := e
    by_cases z : a = p
    · subst z; rw [upd_same] at e ⊢; exact e
    · rw [upd_ne z] at e; exact w'.wr.keep a u e k
  · have na : a ≠ p := fun z => f2 n (z ▸ e)
    show upd E.H0.hp p o a = none
    rw [upd_ne na]; exact w'.wr.new n a hn e
  · have na : a ≠ p := fun z => by rw [z, f1] at e2; cases e2
    have e1 : upd E.H0.hp p o a = some u := e1
    rw [upd_ne na] at e1
    exact w'.wr.old a u x e1 e2
  · have q := w'.sl.at_ i sl e
    cases sl with
    | un => trivial
    | val d => exact q
    | own xs =>
      obtain ⟨q, e1, vs, h1, h2, h3, h4, h5⟩ := q
      refine ⟨q, e1, vs, h1, h2, h3, ?_, h5⟩
      obtain ⟨q', e1', own⟩ := w.sl.at_ i _ e
      rw [e1] at e1'; cases e1'
      show upd E.H0.hp p o q = none
      rw [upd_ne (own.ne hp)]; exact h4))) Xq9.mk
theorem SE_dict {keys : List (Option Expr)} {values : List Expr} {kts : List (Key × Tm)} (h : SK E keys values kts) (h0 : keys ≠ []) (h15 : keys.length ≤ 15) : SE E (.Dict keys values pos) (.dict kts) := @Rq9 _ _ (fun qz => @Hq9.get _ _ (qz.bar : Hq9 _ (by
  clear qz
  intro fr σ tp H F io Q hl w hh
  refine wE_of (pe_disp h.pps h.len.2.2 h.len.1 h0 h15) ?_
  unfold ev at hh
  intro p hp
  obtain ⟨w1, s1⟩ := w.pend hp (.dK [])
  obtain ⟨f1, f2, f3⟩ := w.wr.fresh hp
  refine h.read (E.H0.add p (.dK [])) s1 hl w1 (Rs.all_bind hh) fun kds fr1 kvs H1 F1 io1 s p1 w2 rk z => ?_
  have np : ∀ n : Nat, n < E.n0 → io1[n]? ≠ some p := fun n hn e => by
    have hlt : n < io.length := Nat.lt_of_lt_of_le hn w.wr.nle
    have e2 := p1 n _ (List.getElem?_eq_getElem hlt)
    rw [e] at e2
    exact f2 n ((List.getElem?_eq_getElem hlt).trans e2.symm)
  split at z
  case isFalse => exact z.elim
  rename_i hz
  refine ⟨w2.wr.keep p _ upd_same np, kvs, rfl, ?_, ?_⟩
  · rw [← rk.length]; exact hz
  · have hc : CellOk E.G F1 (io1 ++ [p]) (upd H1 p (.dK (mergeK [] kvs))) p (.dict (kmerge [] kds)) := ⟨_, upd_same, (rk.merge .nil).mono (Same.refl _) pre_app⟩
    have w3 := Ws.addCell w2 f3 np (fun z => z) (fun q own => by
      obtain ⟨vs, _, _, _, h4, _⟩ := own
      have h4 : upd E.H0.hp p (.dK []) p = none := h4
      rw [upd_same] at h4; cases h4) hc
    refine z (.ref p) _ F1 (io1 ++ [p]) s (Pre.trans p1 pre_app) w3 (.cell ?_)
    rw [← w2.wr.len]; simp))) Xq9.mk
end
end Ag
namespace Ag
open PySem PySem.Spec L2
/-! ### a, b = a list -/
section
variable {prog : Program} {w : World} {A : Around} {E : Value → Shared → Prop}
theorem draw_list {it t : Addr} {items : Array Value} (hne : t ≠ it) : ∀ (n i : Nat) (s : Shared) (Q : List Value → Shared → Prop), s.heap.IsListIter it t i → s.heap.IsList t items → i + n ≤ items.size →
    (∀ h', h'.IsListIter it t (i + n) → Heap.SameBut it s.heap h' → Q ((items.toList.drop i).take n) { s with heap := h' }) → wpAny (model prog w) A (draw (.ref it) n) Q E s
  | 0, i, s, Q, hit, _, _, hQ => by
    show wpAny _ _ (pure []) Q E s
    exact wpAny_pure (by simpa using hQ s.heap hit (Heap.SameBut.refl ..))
  | n + 1, i, s, Q, hit, ht, hle, hQ => by
    have hlt : i < items.size := by omega
    show wpAny _ _ (pyNext (.ref it) >>= _) Q E s
    refine wpAny_bind (wpAny_pyNext_list_item hit ht (x := items[i]) (by simp [hlt]) fun h₁ hit₁ hs₁ => ?_)
    refine wpAny_bind (wpAny_holding (draw_list hne n (i + 1) _ _ hit₁ (ht.extBut hs₁.extBut hne) (by omega) fun h₂ hit₂ hs₂ => wpAny_pure ?_))
    have hd : items.toList.drop i = items[i] :: items.toList.drop (i + 1) := by simp [List.drop_eq_getElem_cons, hlt]
    have := hQ h₂ (by rw [show i + (n + 1) = i + 1 + n by omega]; exact hit₂) (hs₁.trans hs₂)
    rw [hd, List.take_succ_cons] at this
    exact this
theorem unpackItems_list {s : Shared} {t : Addr} {items : Array Value} {Q : List Value → Shared → Prop} (hh : A.handled = none) (ht : s.heap.IsList t items)
    (hQ : ∀ h', Heap.ExtBut s.heap.objs.size s.heap h' → Q items.toList { s with heap := h' }) : wpAny (model prog w) A (unpackItems (.ref t) items.size none) Q E s := @Rq9 _ _ (fun qz => @Hq9.get _ _ (qz.bar : Hq9 _ (by
  clear qz
  have hlt : t ≠ s.heap.objs.size := by obtain ⟨o, ho, _⟩ := ht; exact Nat.ne_of_lt (Heap.lt_size ho)
  unfold unpackItems
  refine wpAny_bind ?_
  · unfold notIterableAtAll
    refine wpAny_bind (wpAny_specialOf ht.typeIs slot_list_iter.lookup ?_)
    refine wpAny_pure ?_
    simp only [Bool.false_eq_true, if_false]
    refine wpAny_bind (wpAny_holding (wpAny_pyIter_list ht ?_))
    refine wpAny_bind (wpAny_holding (draw_list hlt items.size 0 _ _ ⟨_, Heap.get?_push_size _ rfl, rfl, rfl⟩ (ht.at fun o e => Heap.get?_push_of_some _ e) (by omega) fun h₁ hit₁ hs₁ => ?_))
    have hall : List.take items.size (List.drop 0 items.toList) = items.toList := by
      rw [List.drop_zero]; exact List.take_of_length_le (by simp)
    rw [hall]
    rw [if_neg (by simp)]
    have ht₁ : h₁.IsList t items := Heap.IsList.extBut (ht.at fun o e => Heap.get?_push_of_some _ e) hs₁.extBut hlt
    refine wpAny_bind (wpAny_holding (wpAny_pyNext_list_end hh hit₁ ht₁ (by simp) fun h₂ he₂ => ?_))
    simp only [Option.isSome_none, Bool.false_eq_true, if_false]
    refine wpAny_pure (hQ h₂ fun b o hb e => he₂ b o hb (hs₁.extBut b o hb (Heap.get?_push_of_some _ e)))))) Xq9.mk
theorem assign_Tuple_list {s : Shared} {env : Env} {elts : List Expr} {x1} {pos : Pos} {t : Addr} {items : Array Value} {Q : Unit → Shared → Prop} (hh : A.handled = none) (ht : s.heap.IsList t items)
    (hn : (assignEach elts env).length = items.size) (hstar : (assignEach elts env).findIdx? (·.1) = none)
    (h : ∀ h', Heap.ExtBut s.heap.objs.size s.heap h' → wpAny (model prog w) A (assignInOrder ((assignEach elts env).map (·.2)) items.toList) Q E { s with heap := h' }) :
    wpAny (model prog w) A (assign (.Tuple elts x1 pos) env (.ref t)) Q E s := by
  rw [PyProof.Rows.assign_Tuple]
  refine wpAny_bind (wpAny_standAt ?_)
  unfold unpack
  rw [hn, hstar]
  exact wpAny_bind (wpAny_holding (unpackItems_list hh ht h))
end
section
variable {X : Cx} {pos : Pos}
def gLst (K : PySem.W.Frag) (n : Nat) (t : TGs) : TG := fun v σ H Q => ∃ a xs, v = .ref a ∧ SqL K H a xs ∧ xs.length = n ∧ t xs σ H Q
theorem pg_lst {es : List Expr} {k : Nat} {t : TGs} {n : Nat} (hc : X.calm = true) (h : PGs X es t)
    (hn : (assignEach es X.env).length = n := by rfl) (hst : (assignEach es X.env).findIdx? (·.1) = none := by rfl) : PG X (.Tuple es k pos) (gLst X.K n t) := @Rq9 _ _ (fun qz => @Hq9.get _ _ (qz.bar : Hq9 _ (by
  clear qz
  refine ⟨fun pins s σ H v u Q I r hw => ?_⟩
  obtain ⟨a, xs, e1, hq, hl, hw⟩ := hw
  subst e1
  cases r
  obtain ⟨its, rv, ht, hz⟩ := I.list hq
  refine assign_Tuple_list (I.ok.hd hc) ht.isList (by simp [hn, ← hl, rv.length]) hst fun h' hx => ?_
  have I1 : Inv X pins σ H { s with heap := h' } := I.kept (t' := s.toks) fun b o e => hx b o (Nat.ne_of_lt (Heap.lt_size e)) e
  exact h.run pins _ σ H xs _ Q I1 (by simpa using rv) hw))) Xq9.mk
end
end Ag
namespace Ag
open PySem PySem.Spec L2
structure SxP where
  next : Fr → Prop
  ret : Out → Fr → Prop
  brk : Fr → Prop
  cont : Fr → Prop
  exc : Nat → List D → Fr → Prop
def Sx.all (r : Sx) (P : SxP) : Prop :=
  match r with
  | .next fr => P.next fr
  | .ret o fr => P.ret o fr
  | .brk fr => P.brk fr
  | .cont fr => P.cont fr
  | .exc c fs fr => P.exc c fs fr
  | .bad => False
theorem Sx.all_imp {r : Sx} {P P' : SxP} (h : r.all P) (h1 : ∀ fr, P.next fr → P'.next fr) (h2 : ∀ o fr, P.ret o fr → P'.ret o fr) (h3 : ∀ fr, P.brk fr → P'.brk fr) (h4 : ∀ fr, P.cont fr → P'.cont fr)
    (h5 : ∀ c fs fr, P.exc c fs fr → P'.exc c fs fr) : r.all P' := @Rq9 _ _ (fun qz => @Hq9.get _ _ (qz.bar : Hq9 _ (by
  clear qz
  cases r with
  | next fr => exact h1 _ h
  | ret o fr => exact h2 _ _ h
  | brk fr => exact h3 _ h
  | cont fr => exact h4 _ h
  | exc c fs fr => exact h5 _ _ _ h
  | bad => exact h))) Xq9.mk
theorem Sx.all_seq {r : Sx} {k : Fr → Sx} {P : SxP} (h : (r.seq k).all P) : r.all { P with next := fun fr => (k fr).all P } := by
  cases r <;> exact h
theorem Rs.all_toS {α : Type} {m : Rs α} {k : α → Fr → Sx} {P : SxP} (h : (m.toS k).all P) : m.all (fun a fr => (k a fr).all P) P.exc := by
  cases m <;> exact h
theorem Rs.all_frS {m : Rs RV} {k : D → Fr → Sx} {P : SxP} (h : (m.frS k).all P) : m.all (fun r fr => ∃ d fr', toD fr r = some (d, fr') ∧ (k d fr').all P) P.exc := @Rq9 _ _ (fun qz => @Hq9.get _ _ (qz.bar : Hq9 _ (by
  clear qz
  refine Rs.all_imp (Rs.all_toS h) (fun r fr q => ?_) fun _ _ _ q => q
  cases e : toD fr r with
  | none => rw [e] at q; exact q.elim
  | some p => rw [e] at q; exact ⟨p.1, p.2, rfl, q⟩))) Xq9.mk
def wS (X : Cx) (st : Stmt) : TS := fun D σ H => ∀ (pins : List (Addr × Obj)) (s : Shared), Inv X pins σ H s → wpAny (model X.prog X.w) X.A (exec st X.env) (SP X pins D) X.xe s
def wSs (X : Cx) (sts : List Stmt) : TS := fun D σ H => ∀ (pins : List (Addr × Obj)) (s : Shared), Inv X pins σ H s → wpAny (model X.prog X.w) X.A (execs sts X.env) (SP X pins D) X.xe s
theorem ps_w {X : Cx} {st : Stmt} : PS X st (wS X st) := ⟨fun pins s σ H D I h => h pins s I⟩
theorem pss_w {X : Cx} {sts : List Stmt} : PSs X sts (wSs X sts) := ⟨fun pins s σ H D I h => h pins s I⟩
theorem wS_of {X : Cx} {st : Stmt} {t : TS} {D : Ends} {σ : St} {H : Hp} (h : PS X st t) (q : t D σ H) : wS X st D σ H := fun pins s I => h.run pins s σ H D I q
theorem wSs_of {X : Cx} {st : List Stmt} {t : TS} {D : Ends} {σ : St} {H : Hp} (h : PSs X st t) (q : t D σ H) : wSs X st D σ H := fun pins s I => h.run pins s σ H D I q
section
variable (E : En)
/-- what is wanted behind a statement: tp the slots behind the def's -/
def okS (tp : St) (F : Hp) (io : List Addr) (D : Ends) : SxP where
  next := fun fr => ∀ σ H' F' io', σ.length = E.X.N.length → Same F F' → Pre io io' → E.ws fr (σ ++ tp) H' F' io' → D.nx σ H'
  brk := fun fr => ∀ σ H' F' io', σ.length = E.X.N.length → Same F F' → Pre io io' → E.ws fr (σ ++ tp) H' F' io' → D.bk σ H'
  cont := fun fr => ∀ σ H' F' io', σ.length = E.X.N.length → Same F F' → Pre io io' → E.ws fr (σ ++ tp) H' F' io' → D.ct σ H'
  ret := fun o fr => ∀ v σ H' F' io', σ.length = E.X.N.length → Same F F' → Pre io io' → E.ws fr (σ ++ tp) H' F' io' → RvOk E.G E.H0 H' F' io' fr.env (σ ++ tp) (.out o) v → D.rt v H'
  exc := fun c fs fr => ∀ d σ H' F' io', σ.length = E.X.N.length → Same F F' → Pre io io' → E.ws fr (σ ++ tp) H' F' io' → ExOk E.G F' io' H' c fs d → E.W (.ref (E.G.cl c)) d σ H'
def SS (st : Stmt) (t : Stm) : Prop := ∀ (fr : Fr) (σ tp : St) (H F : Hp) (io : List Addr) (D : Ends), σ.length = E.X.N.length → E.ws fr (σ ++ tp) H F io → (ex E.T t fr).all (okS E tp F io D) → wS E.X st D σ H
def SSs (sts : List Stmt) (ts : List Stm) : Prop := ∀ (fr : Fr) (σ tp : St) (H F : Hp) (io : List Addr) (D : Ends), σ.length = E.X.N.length → E.ws fr (σ ++ tp) H F io → (exs E.T ts fr).all (okS E tp F io D) → wSs E.X sts D σ H
end
section
variable {E : En} {e a b c : Expr} {ta tb tc : Tm} {fr : Fr} {σ tp : St} {H F : Hp} {io : List Addr} {Q : VK} {pos : Pos} {es : List Expr} {ts : List Tm} {D : Ends}
theorem okS.mono {F' : Hp} {io' : List Addr} (s : Same F F') (p : Pre io io') {r : Sx} (h : r.all (okS E tp F io D)) : r.all (okS E tp F' io' D) :=
  Sx.all_imp h (fun _ q σ H' F2 io2 l s2 p2 w => q σ H' F2 io2 l (s.trans s2) (p.trans p2) w) (fun _ _ q v σ H' F2 io2 l s2 p2 w r => q v σ H' F2 io2 l (s.trans s2) (p.trans p2) w r)
    (fun _ q σ H' F2 io2 l s2 p2 w => q σ H' F2 io2 l (s.trans s2) (p.trans p2) w) (fun _ q σ H' F2 io2 l s2 p2 w => q σ H' F2 io2 l (s.trans s2) (p.trans p2) w)
    fun _ _ _ q d σ H' F2 io2 l s2 p2 w x => q d σ H' F2 io2 l (s.trans s2) (p.trans p2) w x
theorem okS.exE (hl : σ.length = E.X.N.length) {c : Nat} {fs : List Ag.D} {fr : Fr} (h : (okS E tp F io D).exc c fs fr) : exE E σ tp F io c fs fr := fun d H' F' io' s p w x => h d σ H' F' io' hl s p w x
theorem SE.partS (ha : SE E a ta) (hl : σ.length = E.X.N.length) (w : E.ws fr (σ ++ tp) H F io) {k : Ag.D → Fr → Sx} (h : ((ev E.T ta fr).frS k).all (okS E tp F io D))
    (q : ∀ d fr1 v H1 F1 io1, Same F F1 → Pre io io1 → E.ws fr1 (σ ++ tp) H1 F1 io1 → Rep E.G F1 io1 d v → (k d fr1).all (okS E tp F1 io1 D) → Q v H1) : wE E.X a σ H Q := @Rq9 _ _ (fun qz => @Hq9.get _ _ (qz.bar : Hq9 _ (by
  clear qz
  refine ha fr σ tp H F io Q hl w (Rs.all_imp (Rs.all_frS h) (fun r fr1 z => ?_) fun _ _ _ x => okS.exE hl x)
  obtain ⟨d, fr', e1, z⟩ := z
  intro v H' F' io' s p w' rv
  obtain ⟨F2, s2, rp, w2⟩ := w'.toD rv e1
  exact q d fr' v H' F2 io' (s.trans s2) p w2 rp (okS.mono (s.trans s2) p z)))) Xq9.mk
theorem SE.valS (ha : SE E a ta) (hl : σ.length = E.X.N.length) (w : E.ws fr (σ ++ tp) H F io) {k : RV → Fr → Sx} (h : ((ev E.T ta fr).toS k).all (okS E tp F io D))
    (q : ∀ r fr1 v H1 F1 io1, Same F F1 → Pre io io1 → E.ws fr1 (σ ++ tp) H1 F1 io1 → RvOk E.G E.H0 H1 F1 io1 fr1.env (σ ++ tp) r v → (k r fr1).all (okS E tp F1 io1 D) → Q v H1) : wE E.X a σ H Q := @Rq9 _ _ (fun qz => @Hq9.get _ _ (qz.bar : Hq9 _ (by
  clear qz
  refine ha fr σ tp H F io Q hl w (Rs.all_imp (Rs.all_toS h) (fun r fr1 z => ?_) fun _ _ _ x => okS.exE hl x)
  intro v H' F' io' s p w' rv
  exact q r fr1 v H' F' io' s p w' rv (okS.mono s p z)))) Xq9.mk
theorem ST.testS (hc : ST E c tc) (hl : σ.length = E.X.N.length) (w : E.ws fr (σ ++ tp) H F io) {k1 k2 : Fr → Sx}
    (h : ((ev E.T tc fr).frS fun d fr1 => match d with | .bl k => if k then k1 fr1 else k2 fr1 | _ => .bad).all (okS E tp F io D)) {R : Bool → Hp → Prop}
    (q : ∀ t fr1 H1 F1 io1, Same F F1 → Pre io io1 → E.ws fr1 (σ ++ tp) H1 F1 io1 → ((if t then k1 fr1 else k2 fr1) : Sx).all (okS E tp F1 io1 D) → R t H1) : wT E.X c σ H R := @Rq9 _ _ (fun qz => @Hq9.get _ _ (qz.bar : Hq9 _ (by
  clear qz
  refine hc fr σ tp H F io R hl w (Rs.all_imp (Rs.all_frS h) (fun r fr1 z => ?_) fun _ _ _ x => okS.exE hl x)
  obtain ⟨d, fr', e, z⟩ := z
  cases d with
  | bl b =>
    obtain ⟨rfl, e2⟩ := toD_bl e
    exact ⟨b, e2, fun H1 F1 io1 s p w1 => q b fr' H1 F1 io1 s p w1 (okS.mono s p z)⟩
  | _ => exact z.elim))) Xq9.mk
/-! ### blocks -/
theorem SSs_nil : SSs E [] [] := fun fr σ tp H F io D hl w h => wSs_of pss_nil (by unfold exs at h; exact h σ H F io hl (Same.refl _) (Pre.refl _) w)
theorem SSs_cons {st : Stmt} {sts : List Stmt} {t : Stm} {us : List Stm} (h1 : SS E st t) (h2 : SSs E sts us) : SSs E (st :: sts) (t :: us) := @Rq9 _ _ (fun qz => @Hq9.get _ _ (qz.bar : Hq9 _ (by
  clear qz
  intro fr σ tp H F io D hl w h
  refine wSs_of (pss_cons ps_w pss_w) ?_
  unfold exs at h
  refine h1 fr σ tp H F io _ hl w (Sx.all_imp (Sx.all_seq h) (fun fr1 z => ?_) (fun _ _ z => z) (fun _ z => z) (fun _ z => z) fun _ _ _ z => z)
  intro σ1 H1 F1 io1 l1 s p w1
  exact h2 fr1 σ1 tp H1 F1 io1 D l1 w1 (okS.mono s p z)))) Xq9.mk
/-! ### small statements -/
theorem SS_expr (ha : SE E a ta) (hs : swapsWith a none pos.line E.X.env = pure false) : SS E (.Expr a pos) (.expr ta) := @Rq9 _ _ (fun qz => @Hq9.get _ _ (qz.bar : Hq9 _ (by
  clear qz
  intro fr σ tp H F io D hl w h
  refine wS_of (ps_expr pe_w hs) ?_
  unfold ex at h
  exact ha.valS hl w h fun r fr1 v H1 F1 io1 s p w1 rv z => z σ H1 F1 io1 hl (Same.refl _) (Pre.refl _) w1))) Xq9.mk
theorem SS_pass : SS E (.Pass pos) .skip := fun fr σ tp H F io D hl w h => wS_of ps_pass (by unfold ex at h; exact h σ H F io hl (Same.refl _) (Pre.refl _) w)
theorem SS_brk : SS E (.Break pos) .brk := fun fr σ tp H F io D hl w h => wS_of ps_break (by unfold ex at h; exact h σ H F io hl (Same.refl _) (Pre.refl _) w)
theorem SS_cont : SS E (.Continue pos) .cont := fun fr σ tp H F io D hl w h => wS_of ps_continue (by unfold ex at h; exact h σ H F io hl (Same.refl _) (Pre.refl _) w)
theorem SS_retN : SS E (.Return none pos) .retN := fun fr σ tp H F io D hl w h => wS_of ps_retN (by unfold ex at h; exact h .non σ H F io hl (Same.refl _) (Pre.refl _) w .non)
/-- a slot's list is given away -/
theorem Ws.giveSlot {G : Glb} {H0 : Ent} {n0 : Nat} {ρ : St} (w : Ws G H0 n0 fr ρ H F io) {i : Nat} {xs : List Ag.D} (e : fr.env[i]? = some (.own xs)) :
    Ws G H0 n0 (setE fr i .un) ρ H F io ∧ ∀ v, ρ[i]? = some (some v) → RvOk G H0 H F io (setE fr i .un).env ρ (.out (.fresh xs)) v := @Rq9 _ _ (fun qz => @Hq9.get _ _ (qz.bar : Hq9 _ (by
  clear qz
  refine ⟨⟨w.wr, by show (fr.env.set i .un).length = _; rw [List.length_set]; exact w.sl.len, fun j s q => ?_, fun j k ys zs q g1 g2 => ?_⟩, fun v hv => ?_⟩
  · rcases set_at q with ⟨rfl, rfl⟩ | ⟨ne, q⟩
    · trivial
    · exact w.sl.at_ j _ q
  · obtain ⟨_, g1⟩ := set_own (fun _ z => by cases z) g1
    obtain ⟨_, g2⟩ := set_own (fun _ z => by cases z) g2
    exact w.sl.dis j k ys zs q g1 g2
  · obtain ⟨p, e1, own⟩ := w.sl.at_ i _ e
    rw [hv] at e1
    have ev : v = .ref p := by cases e1; rfl
    refine ⟨p, ev, own, fun j ys q z => ?_⟩
    obtain ⟨ne, q⟩ := set_own (fun _ z => by cases z) q
    exact ne (w.sl.dis j i ys xs p q e z (by rw [hv, ev]))))) Xq9.mk
theorem SS_ret (ha : SE E a ta) : SS E (.Return (some a) pos) (.ret ta) := @Rq9 _ _ (fun qz => @Hq9.get _ _ (qz.bar : Hq9 _ (by
  clear qz
  intro fr σ tp H F io D hl w h
  refine wS_of (ps_ret pe_w) ?_
  unfold ex at h
  refine ha.valS hl w h fun r fr1 v H1 F1 io1 s p w1 rv z => ?_
  cases r with
  | out o => exact z v σ H1 F1 io1 hl (Same.refl _) (Pre.refl _) w1 rv
  | var i =>
    have z : ((match fr1.env[i]? with | some (.own xs) => Sx.ret (.fresh xs) (setE fr1 i .un) | _ => .bad) : Sx).all (okS E tp F1 io1 D) := z
    cases q : fr1.env[i]? with
    | none => simp [q] at z; exact z.elim
    | some sl =>
      cases sl with
      | un => simp [q] at z; exact z.elim
      | val d => simp [q] at z; exact z.elim
      | own xs =>
        simp only [q] at z
        obtain ⟨w2, rv2⟩ := w1.giveSlot q
        exact z v σ H1 F1 io1 hl (Same.refl _) (Pre.refl _) w2 (rv2 v rv)))) Xq9.mk
theorem SS_ite {A B : List Stmt} {tA tB : List Stm} (hc : ST E c tc) (hA : SSs E A tA) (hB : SSs E B tB) : SS E (.If c A B pos) (.ite tc tA tB) := @Rq9 _ _ (fun qz => @Hq9.get _ _ (qz.bar : Hq9 _ (by
  clear qz
  intro fr σ tp H F io D hl w h
  refine wS_of (ps_if pt_w pss_w pss_w) ?_
  unfold ex at h
  refine hc.testS hl w h fun t fr1 H1 F1 io1 s p w1 z => ?_
  cases t with
  | true => exact hA fr1 σ tp H1 F1 io1 D hl w1 z
  | false => exact hB fr1 σ tp H1 F1 io1 D hl w1 z))) Xq9.mk
/-! ### stores -/
theorem setN_len {σ : St} {i : Nat} {v : Option V} (hl : σ.length = E.X.N.length) : (σ.set i v).length = E.X.N.length := by rw [List.length_set]; exact hl
theorem set_app {σ tp : St} {i : Nat} {v : Option V} (h : i < σ.length) : σ.set i v ++ tp = (σ ++ tp).set i v := by rw [List.set_append_left _ _ h]
theorem Ws.put {G : Glb} {H0 : Ent} {n0 : Nat} {ρ : St} (w : Ws G H0 n0 fr ρ H F io) {i : Nat} (hi : i < ρ.length) {d : Ag.D} {v : V} (r : Rep G F io d v) : Ws G H0 n0 (setE fr i (.val d)) (ρ.set i (some v)) H F io := @Rq9 _ _ (fun qz => @Hq9.get _ _ (qz.bar : Hq9 _ (by
  clear qz
  refine ⟨w.wr, by show (fr.env.set i _).length = _; rw [List.length_set, List.length_set]; exact w.sl.len, fun j s q => ?_, fun j k ys zs q g1 g2 e1 e2 => ?_⟩
  · rcases set_at q with ⟨rfl, rfl⟩ | ⟨ne, q⟩
    · exact ⟨v, List.getElem?_set_self hi, r⟩
    · rw [List.getElem?_set_ne (Ne.symm ne)]
      exact w.sl.at_ j _ q
  · obtain ⟨n1, g1⟩ := set_own (fun _ z => by cases z) g1
    obtain ⟨n2, g2⟩ := set_own (fun _ z => by cases z) g2
    rw [List.getElem?_set_ne (Ne.symm n1)] at e1
    rw [List.getElem?_set_ne (Ne.symm n2)] at e2
    exact w.sl.dis j k ys zs q g1 g2 e1 e2))) Xq9.mk
theorem Ws.putOwn {G : Glb} {H0 : Ent} {n0 : Nat} {ρ : St} (w : Ws G H0 n0 fr ρ H F io) {i : Nat} (hi : i < ρ.length) {xs : List Ag.D} {v : V} (r : RvOk G H0 H F io fr.env ρ (.out (.fresh xs)) v) : Ws G H0 n0 (setE fr i (.own xs)) (ρ.set i (some v)) H F io := @Rq9 _ _ (fun qz => @Hq9.get _ _ (qz.bar : Hq9 _ (by
  clear qz
  obtain ⟨p, rfl, own, hd⟩ := r
  refine ⟨w.wr, by show (fr.env.set i _).length = _; rw [List.length_set, List.length_set]; exact w.sl.len, fun j s q => ?_, fun j k ys zs q g1 g2 e1 e2 => ?_⟩
  · rcases set_at q with ⟨rfl, rfl⟩ | ⟨ne, q⟩
    · exact ⟨p, List.getElem?_set_self hi, own⟩
    · rw [List.getElem?_set_ne (Ne.symm ne)]
      exact w.sl.at_ j _ q
  · rcases set_at g1 with ⟨x1, _⟩ | ⟨n1, y1⟩
    · rcases set_at g2 with ⟨x2, _⟩ | ⟨n2, y2⟩
      · rw [x1, x2]
      · rw [x1, List.getElem?_set_self hi] at e1
        rw [List.getElem?_set_ne (Ne.symm n2)] at e2
        cases e1
        exact absurd e2 (hd k zs y2)
    · rcases set_at g2 with ⟨x2, _⟩ | ⟨n2, y2⟩
      · rw [x2, List.getElem?_set_self hi] at e2
        rw [List.getElem?_set_ne (Ne.symm n1)] at e1
        cases e2
        exact absurd e1 (hd j ys y1)
      · rw [List.getElem?_set_ne (Ne.symm n1)] at e1
        rw [List.getElem?_set_ne (Ne.symm n2)] at e2
        exact w.sl.dis j k ys zs q y1 y2 e1 e2))) Xq9.mk
/-- a target: bound to data -/
def wG (X : Cx) (tg : Expr) : TG := fun v σ H Q => ∀ (pins : List (Addr × Obj)) (s : Shared) (u : Value), Inv X pins σ H s → RelV v u → wpAny (model X.prog X.w) X.A (assign tg X.env u) (fun _ s' => ∃ σ' H', Inv X pins σ' H' s' ∧ Q σ' H') X.xe s
theorem pg_w {X : Cx} {tg : Expr} : PG X tg (wG X tg) := ⟨fun pins s σ H v u Q I r h => h pins s u I r⟩
theorem wG_of {X : Cx} {tg : Expr} {t : TG} {v : V} {σ : St} {H : Hp} {Q : St → Hp → Prop} (h : PG X tg t) (q : t v σ H Q) : wG X tg v σ H Q := fun pins s u I r => h.run pins s σ H v u Q I r q
def SG (E : En) (tg : Expr) (g : Tg) : Prop := ∀ (fr fr' : Fr) (σ tp : St) (H F : Hp) (io : List Addr) (d : Ag.D) (v : V) (Q : St → Hp → Prop), σ.length = E.X.N.length → E.ws fr (σ ++ tp) H F io → Rep E.G F io d v → bindT g d fr = some fr' →
  (∀ σ', σ'.length = E.X.N.length → E.ws fr' (σ' ++ tp) H F io → (∀ i, i ∉ tgIx g → σ'[i]? = σ[i]?) → Q σ' H) → wG E.X tg v σ H Q
def SGs (E : En) (tgs : List Expr) (gs : List Tg) : Prop := ∀ (fr fr' : Fr) (σ tp : St) (H F : Hp) (io : List Addr) (ds : List Ag.D) (vs : List V) (Q : St → Hp → Prop), σ.length = E.X.N.length → E.ws fr (σ ++ tp) H F io → Reps E.G F io ds vs → bindTs gs ds fr = some fr' →
  (∀ σ', σ'.length = E.X.N.length → E.ws fr' (σ' ++ tp) H F io → (∀ i, i ∉ tgIxs gs → σ'[i]? = σ[i]?) → Q σ' H) → ∀ (pins : List (Addr × Obj)) (s : Shared) (us : List Value), Inv E.X pins σ H s → Vals vs us →
    wpAny (model E.X.prog E.X.w) E.X.A (assignInOrder ((assignEach tgs E.X.env).map (·.2)) us) (fun _ s' => ∃ σ' H', Inv E.X pins σ' H' s' ∧ Q σ' H') E.X.xe s
theorem SG_slot (ok : E.Ok) {i : Nat} {x : Str} (hN : E.X.N[i]? = some x) (hx : Loc E.X.env.scope x) (hf : E.X.fn x = true ∨ E.X.env.scope.names.lookup x = some .local) : SG E (.Name x pos) (.slot i) := @Rq9 _ _ (fun qz => @Hq9.get _ _ (qz.bar : Hq9 _ (by
  clear qz
  intro fr fr' σ tp H F io d v Q hl w r e q
  refine wG_of (pg_name ok.nd hN hx hf) ?_
  have hi : i < σ.length := by rw [hl]; exact (List.getElem?_eq_some_iff.mp hN).1
  cases e
  refine q _ (setN_len hl) ?_ fun j hj => ?_
  · rw [set_app hi]
    exact w.put (by rw [List.length_append]; omega) r
  · have : i ≠ j := fun z => hj (by rw [z]; exact List.mem_singleton.mpr rfl)
    rw [List.getElem?_set_ne this]))) Xq9.mk
theorem SGs_nil : SGs E [] [] := @Rq9 _ _ (fun qz => @Hq9.get _ _ (qz.bar : Hq9 _ (by
  clear qz
  intro fr fr' σ tp H F io ds vs Q hl w r e q pins s us I rv
  cases r with
  | nil => cases rv; cases e; exact PyProof.Rows.assignInOrder_nil ⟨σ, H, I, q σ hl w fun _ _ => rfl⟩
  | cons h r => cases e))) Xq9.mk
theorem assign_ne {e : Expr} (h : notStar e = true) (es : List Expr) (env : Env) : (assignEach (e :: es) env).map (·.2) = assign e env :: (assignEach es env).map (·.2) := by
  cases e <;> first | rfl | cases h
theorem assign_len : ∀ (es : List Expr) (env : Env), (assignEach es env).length = es.length
  | [], _ => rfl
  | e :: es, env => by
    have ih := assign_len es env
    cases e <;> (show (_ :: assignEach es env).length = _; rw [List.length_cons, ih]; rfl)
theorem assign_find {es : List Expr} (h : allNot es = true) (env : Env) : (assignEach es env).findIdx? (·.1) = none := @Rq9 _ _ (fun qz => @Hq9.get _ _ (qz.bar : Hq9 _ (by
  clear qz
  induction es with
  | nil => rfl
  | cons e es ih =>
    unfold allNot at h ih
    rw [List.all_cons, Bool.and_eq_true] at h
    have e1 : ∃ x, assignEach (e :: es) env = (false, x) :: assignEach es env := by
      have := h.1
      cases e <;> first | exact ⟨_, rfl⟩ | cases this
    obtain ⟨x, e1⟩ := e1
    rw [e1, List.findIdx?_cons, ih h.2]
    rfl))) Xq9.mk
theorem SGs_cons {tg : Expr} {tgs : List Expr} {g : Tg} {gs : List Tg} (hs : notStar tg = true) (h1 : SG E tg g) (h2 : SGs E tgs gs) : SGs E (tg :: tgs) (g :: gs) := @Rq9 _ _ (fun qz => @Hq9.get _ _ (qz.bar : Hq9 _ (by
  clear qz
  intro fr fr' σ tp H F io ds vs Q hl w r e q pins s us I rv
  cases r with
  | nil => cases e
  | @cons d v ds vs hr rr =>
    cases rv with
    | cons rv rvs =>
      unfold bindTs at e
      cases e1 : bindT g d fr with
      | none => simp [e1] at e
      | some fr1 =>
        simp only [e1] at e
        rw [assign_ne hs]
        refine PyProof.Rows.assignInOrder_cons (thn (h1 fr fr1 σ tp H F io d v (fun σ1 H1 => H1 = H ∧ σ1.length = E.X.N.length ∧ E.ws fr1 (σ1 ++ tp) H F io ∧ ∀ i, i ∉ tgIx g → σ1[i]? = σ[i]?) hl w hr e1 (fun σ1 l1 w1 k1 => ⟨rfl, l1, w1, k1⟩) pins s _ I rv) fun _ s1 ⟨σ1, H1, I1, eH, l1, w1, k1⟩ => ?_)
        subst eH
        exact h2 fr1 fr' σ1 tp _ F io ds vs Q l1 w1 rr e (fun σ2 l2 w2 k2 => q σ2 l2 w2 fun i hi => by
          have hi' : i ∉ tgIx g ++ tgIxs gs := hi
          rw [List.mem_append, not_or] at hi'
          rw [k2 i hi'.2, k1 i hi'.1]) pins s1 _ I1 rvs))) Xq9.mk
theorem SG_tup (ok : E.Ok) {tgs : List Expr} {k : Nat} {gs : List Tg} (ha : allNot tgs = true) (hlen : tgs.length = gs.length) (h : SGs E tgs gs) : SG E (.Tuple tgs k pos) (.tup gs) := @Rq9 _ _ (fun qz => @Hq9.get _ _ (qz.bar : Hq9 _ (by
  clear qz
  intro fr fr' σ tp H F io d v Q hl w r e q
  cases d with
  | tup ds =>
    cases r with
    | @tup ds vs a ht rs =>
      have e' : bindTs gs ds fr = some fr' := e
      have ln : ∀ (gs : List Tg) (ds : List Ag.D) (fr : Fr), bindTs gs ds fr = some fr' → gs.length = ds.length := by
        intro gs
        induction gs with
        | nil => intro ds fr e; cases ds with | nil => rfl | cons => cases e
        | cons g gs ih =>
          intro ds fr e
          cases ds with
          | nil => cases e
          | cons d ds =>
            unfold bindTs at e
            cases e1 : bindT g d fr with
            | none => simp [e1] at e
            | some fr1 => simp only [e1] at e; simp [ih ds fr1 e]
      have hv : vs.length = tgs.length := by rw [← rs.length, ← ln _ _ _ e', hlen]
      refine wG_of (pg_tup (t := fun vs' σ' H' Q' => ∀ pins s us, Inv E.X pins σ' H' s → Vals vs' us → wpAny (model E.X.prog E.X.w) E.X.A (assignInOrder ((assignEach tgs E.X.env).map (·.2)) us) (fun _ s' => ∃ σ' H', Inv E.X pins σ' H' s' ∧ Q' σ' H') E.X.xe s) ok.calm ⟨fun pins s σ H vs us Q I r h => h pins s us I r⟩ (assign_len _ _) (assign_find ha _)) ?_
      have ht' := Same.sqT w.wr.sub ht
      rw [ok.k] at ht'
      exact ⟨a, vs, rfl, ht', hv, h fr fr' σ tp H F io ds vs Q hl w rs e' q⟩
  | lst ds =>
    cases r with
    | @lst ds vs a ht rs =>
      have e' : bindTs gs ds fr = some fr' := e
      have ln : ∀ (gs : List Tg) (ds : List Ag.D) (fr : Fr), bindTs gs ds fr = some fr' → gs.length = ds.length := by
        intro gs
        induction gs with
        | nil => intro ds fr e; cases ds with | nil => rfl | cons => cases e
        | cons g gs ih =>
          intro ds fr e
          cases ds with
          | nil => cases e
          | cons d ds =>
            unfold bindTs at e
            cases e1 : bindT g d fr with
            | none => simp [e1] at e
            | some fr1 => simp only [e1] at e; simp [ih ds fr1 e]
      have hv : vs.length = tgs.length := by rw [← rs.length, ← ln _ _ _ e', hlen]
      refine wG_of (pg_lst (t := fun vs' σ' H' Q' => ∀ pins s us, Inv E.X pins σ' H' s → Vals vs' us → wpAny (model E.X.prog E.X.w) E.X.A (assignInOrder ((assignEach tgs E.X.env).map (·.2)) us) (fun _ s' => ∃ σ' H', Inv E.X pins σ' H' s' ∧ Q' σ' H') E.X.xe s) ok.calm ⟨fun pins s σ H vs us Q I r h => h pins s us I r⟩ (assign_len _ _) (assign_find ha _)) ?_
      exact ⟨a, vs, rfl, SqL.of (w.wr.sub _ _ ht), hv, h fr fr' σ tp H F io ds vs Q hl w rs e' q⟩
  | _ => cases e))) Xq9.mk
end
end Ag
namespace Ag
open PySem PySem.Spec L2
section
variable {E : En} {e a b c : Expr} {ta tb tc : Tm} {fr : Fr} {σ tp : St} {H F : Hp} {io : List Addr} {Q : VK} {pos : Pos} {es : List Expr} {ts : List Tm} {D : Ends}
def notComp : Expr → Bool
  | .ListComp .. => false
  | .SetComp .. => false
  | .DictComp .. => false
  | _ => true
theorem swaps_no {e : Expr} (h : notComp e = true) (t : Option Expr) (n : Nat) (env : Env) : swapsWith e t n env = pure false := by
  cases e <;> first | rfl | cases h
/-! ### assignments -/
theorem SS_asgName (ok : E.Ok) {i : Nat} {x : Str} {p : Pos} (hN : E.X.N[i]? = some x) (hx : Loc E.X.env.scope x) (hf : E.X.fn x = true ∨ E.X.env.scope.names.lookup x = some .local) (hs : swapsWith a (some (.Name x p)) pos.line E.X.env = pure false) (ha : SE E a ta) :
    SS E (.Assign [.Name x p] a pos) (.asg (.slot i) ta) := @Rq9 _ _ (fun qz => @Hq9.get _ _ (qz.bar : Hq9 _ (by
  clear qz
  intro fr σ tp H F io D hl w h
  refine wS_of (ps_set ok.nd hN hx pe_w hs hf) ?_
  have hi : i < σ.length := by rw [hl]; exact (List.getElem?_eq_some_iff.mp hN).1
  have hi2 : i < (σ ++ tp).length := by rw [List.length_append]; omega
  unfold ex at h
  refine ha.valS hl w h fun r fr1 v H1 F1 io1 s p w1 rv z => ?_
  show D.nx (σ.set i (some v)) H1
  have gen : ∀ d fr2, toD fr1 r = some (d, fr2) → (Sx.next (setE fr2 i (.val d))).all (okS E tp F1 io1 D) → D.nx (σ.set i (some v)) H1 := fun d fr2 e1 z => by
    obtain ⟨F2, s2, rp, w2⟩ := w1.toD rv e1
    exact z _ H1 F2 io1 (setN_len hl) s2 (Pre.refl _) (by rw [set_app hi]; exact w2.put hi2 rp)
  cases r with
  | out o =>
    cases o with
    | val d => exact gen d fr1 rfl z
    | fresh xs => exact z _ H1 F1 io1 (setN_len hl) (Same.refl _) (Pre.refl _) (by rw [set_app hi]; exact w1.putOwn hi2 rv)
  | var j =>
    have z : ((match toD fr1 (.var j) with | some (d, fr') => Sx.next (setE fr' i (.val d)) | none => .bad) : Sx).all (okS E tp F1 io1 D) := z
    cases e1 : toD fr1 (.var j) with
    | none => simp [e1] at z; exact z.elim
    | some q =>
      obtain ⟨d, fr2⟩ := q
      simp only [e1] at z
      exact gen d fr2 e1 z))) Xq9.mk
theorem SS_asgTup {tg : Expr} {gs : List Tg} (hg : SG E tg (.tup gs)) (hs : swapsWithSole [tg] a pos.line E.X.env = pure false) (hw : swappedStores [tg] a E.X.env = pure none) (h1 : (assignEach [tg] E.X.env).map (·.2) = [assign tg E.X.env]) (ha : SE E a ta) :
    SS E (.Assign [tg] a pos) (.asg (.tup gs) ta) := @Rq9 _ _ (fun qz => @Hq9.get _ _ (qz.bar : Hq9 _ (by
  clear qz
  intro fr σ tp H F io D hl w h
  refine wS_of (ps_asg pe_w pg_w hs hw h1) ?_
  unfold ex at h
  refine ha.valS hl w h fun r fr1 v H1 F1 io1 s p w1 rv z => ?_
  have z : ((match toD fr1 r with | some (d, fr') => (match bindT (.tup gs) d fr' with | some fr2 => Sx.next fr2 | none => .bad) | none => .bad) : Sx).all (okS E tp F1 io1 D) := z
  cases e1 : toD fr1 r with
  | none => simp [e1] at z; exact z.elim
  | some q =>
    obtain ⟨d, fr2⟩ := q
    simp only [e1] at z
    obtain ⟨F2, s2, rp, w2⟩ := w1.toD rv e1
    cases e2 : bindT (.tup gs) d fr2 with
    | none => simp [e2] at z; exact z.elim
    | some fr3 =>
      simp only [e2] at z
      exact hg fr2 fr3 σ tp H1 F2 io1 d v D.nx hl w2 rp e2 fun σ' l' w' _ => z σ' H1 F2 io1 l' s2 (Pre.refl _) w'))) Xq9.mk
/-! ### a dict's item stored -/
/-- a cell is written -/
theorem Ws.cellPut {G : Glb} {H0 : Ent} {n0 : Nat} {ρ : St} (w : Ws G H0 n0 fr ρ H F io) {n : Nat} {a : Addr} {cl : Cell} {u : HO} (ha : io[n]? = some a) (hc : CellOk G F io (upd H a u) a cl) : Ws G H0 n0 { fr with sto := fr.sto.set n cl } ρ (upd H a u) F io := @Rq9 _ _ (fun qz => @Hq9.get _ _ (qz.bar : Hq9 _ (by
  clear qz
  have hn : n < fr.sto.length := by rw [← w.wr.len]; exact (List.getElem?_eq_some_iff.mp ha).1
  obtain ⟨a', e1, fa, _⟩ := w.wr.cel n fr.sto[n] (List.getElem?_eq_getElem hn)
  rw [ha] at e1; cases e1
  have hne : ∀ b x, H b = some x → b ≠ a → (upd H a u) b = some x := fun b x e n => by rw [upd_ne n]; exact e
  refine ⟨⟨fun b x e => ?_, by show io.length = (fr.sto.set n cl).length; rw [List.length_set]; exact w.wr.len, fun m c e => ?_, w.wr.inj, fun b x e k => ?_, w.wr.new, w.wr.frz, w.wr.nle, w.wr.old⟩, w.sl.len, fun i sl e => ?_, w.sl.dis⟩
  · exact hne b x (w.wr.sub b x e) fun z => by rw [z, fa] at e; cases e
  · by_cases q : n = m
    · subst q
      have e : (fr.sto.set n cl)[n]? = some c := e
      rw [List.getElem?_set_self hn] at e; cases e
      exact ⟨a, ha, fa, hc⟩
    · have e : (fr.sto.set n cl)[m]? = some c := e
      rw [List.getElem?_set_ne q] at e
      obtain ⟨b, e1, e2, e3⟩ := w.wr.cel m c e
      have nb : b ≠ a := fun z => q (w.wr.inj n m a ha (z ▸ e1))
      refine ⟨b, e1, e2, ?_⟩
      cases c with
      | dict kvs => obtain ⟨us, h1, h2⟩ := e3; exact ⟨us, hne _ _ h1 nb, h2⟩
      | dictT kvs => obtain ⟨us, h1, h2⟩ := e3; exact ⟨us, hne _ _ h1 nb, h2⟩
      | inst c fs => obtain ⟨dx, us, h1, h2⟩ := e3; exact ⟨dx, us, hne _ _ h1 nb, h2⟩
  · by_cases q : b = a
    · subst q
      by_cases hlt : n < n0
      · exact absurd ha (k n hlt)
      · rw [w.wr.new n b (Nat.le_of_not_lt hlt) ha] at e; cases e
    · exact hne b x (w.wr.keep b x e k) q
  · have q := w.sl.at_ i sl e
    cases sl with
    | un => trivial
    | val d => exact q
    | own xs =>
      obtain ⟨p, e1, vs, h1, h2, h3, h4, h5⟩ := q
      exact ⟨p, e1, vs, hne _ _ h1 (fun z => h3 n (z ▸ ha)), h2, h3, h4, h5⟩))) Xq9.mk
/-! ### lists of slots -/
/-- the list of the slot i, changed in place -/
theorem Ws.ownPut {G : Glb} {H0 : Ent} {n0 : Nat} {ρ : St} (w : Ws G H0 n0 fr ρ H F io) {i : Nat} {p : Addr} {xs ys : List Ag.D} {us : List V} (e : fr.env[i]? = some (.own xs)) (hp : ρ[i]? = some (some (.ref p))) (r : Reps G F io ys us) :
    Ws G H0 n0 (setE fr i (.own ys)) ρ (upd H p (.lst us)) F io := @Rq9 _ _ (fun qz => @Hq9.get _ _ (qz.bar : Hq9 _ (by
  clear qz
  obtain ⟨p', e1, vs, h1, h2, h3, h4, h5⟩ := w.sl.at_ i _ e
  rw [hp] at e1; cases e1
  have hne : ∀ b x, H b = some x → b ≠ p → (upd H p (.lst us)) b = some x := fun b x e n => by rw [upd_ne n]; exact e
  refine ⟨⟨fun b x e => ?_, w.wr.len, fun m c e => ?_, w.wr.inj, fun b x e k => ?_, w.wr.new, w.wr.frz, w.wr.nle, w.wr.old⟩, by show (fr.env.set i _).length = _; rw [List.length_set]; exact w.sl.len, fun j sl q => ?_, fun j k zs ws pp g1 g2 e1 e2 => ?_⟩
  · exact hne b x (w.wr.sub b x e) fun z => by rw [z, h2] at e; cases e
  · obtain ⟨b, e1, e2, e3⟩ := w.wr.cel m c e
    have nb : b ≠ p := fun z => h3 m (z ▸ e1)
    refine ⟨b, e1, e2, ?_⟩
    cases c with
    | dict kvs => obtain ⟨us, h1, h2⟩ := e3; exact ⟨us, hne _ _ h1 nb, h2⟩
    | dictT kvs => obtain ⟨us, h1, h2⟩ := e3; exact ⟨us, hne _ _ h1 nb, h2⟩
    | inst c fs => obtain ⟨dx, us, h1, h2⟩ := e3; exact ⟨dx, us, hne _ _ h1 nb, h2⟩
  · exact hne b x (w.wr.keep b x e k) fun z => by rw [z, h4] at e; cases e
  · rcases set_at q with ⟨rfl, rfl⟩ | ⟨ne, q⟩
    · exact ⟨p, hp, us, upd_same, h2, h3, h4, r⟩
    · have q2 := w.sl.at_ j _ q
      cases sl with
      | un => trivial
      | val d => exact q2
      | own zs =>
        obtain ⟨p2, g1, ws, k1, k2, k3, k4, k5⟩ := q2
        exact ⟨p2, g1, ws, hne _ _ k1 (fun z => ne (w.sl.dis j i zs xs p q e (z ▸ g1) hp)), k2, k3, k4, k5⟩
  · have f : ∀ (m : Nat) (qs : List Ag.D), (fr.env.set i (Slot.own ys))[m]? = some (Slot.own qs) → ∃ qs', fr.env[m]? = some (Slot.own qs') := fun m qs g => by
      rcases set_at g with ⟨g, _⟩ | ⟨_, g⟩
      · exact ⟨xs, g ▸ e⟩
      · exact ⟨qs, g⟩
    obtain ⟨_, g1⟩ := f j zs g1
    obtain ⟨_, g2⟩ := f k ws g2
    exact w.sl.dis j k _ _ _ g1 g2 e1 e2))) Xq9.mk
theorem slot_of {i : Nat} {x : Str} (hl : σ.length = E.X.N.length) (hN : E.X.N[i]? = some x) (w : E.ws fr (σ ++ tp) H F io) {xs : List Ag.D} (e : fr.env[i]? = some (.own xs)) : ∃ p vs, σ[i]? = some (some (.ref p)) ∧ (σ ++ tp)[i]? = some (some (.ref p)) ∧ H p = some (.lst vs) ∧ Reps E.G F io xs vs := @Rq9 _ _ (fun qz => @Hq9.get _ _ (qz.bar : Hq9 _ (by
  clear qz
  obtain ⟨p, e1, vs, h1, h2, h3, h4, h5⟩ := w.sl.at_ i _ e
  exact ⟨p, vs, by rw [← lift_at (tp := tp) hl hN]; exact e1, e1, h1, h5⟩))) Xq9.mk
theorem SS_append (ok : E.Ok) {i : Nat} {x : Str} {p apos cpos : Pos} (hN : E.X.N[i]? = some x) (hv : Vis E.X.env.scope x) (hd : (x == ("__debug__" : Str)) = false) (hcd : (x == ("__classdict__" : Str)) = false) (hn : notStar a = true) (hline : (apos.endLine == cpos.line) = true) (ha : SE E a ta) :
    SS E (.Expr (.Call (.Attribute (.Name x p) "append" apos) [a] [] cpos) pos) (.append i ta) := @Rq9 _ _ (fun qz => @Hq9.get _ _ (qz.bar : Hq9 _ (by
  clear qz
  intro fr σ tp H F io D hl w h
  have f1 : allNot [a] = true := by unfold allNot; simp [hn]
  refine wS_of (ps_expr (pe_bm PySem.F.plainAttrs_list PySem.F.slot_list_append PySem.F.type_list_append mt_append (pe_var hN hv hd hcd) (pa_cons pe_w pa_nil (star_ne hn _ _)) (by rfl) (form_of (pos := cpos) f1 (by show 1 < 29; decide) E.X.env) hline (star_ne hn _ _) (by rfl)) (by rfl)) ?_
  unfold ex at h
  cases q : fr.env[i]? with
  | none => simp [q] at h; exact h.elim
  | some sl =>
    cases sl with
    | un => simp [q] at h; exact h.elim
    | val d => simp [q] at h; exact h.elim
    | own xs =>
      simp only [q] at h
      obtain ⟨pl, vs, e1, e2, g1, g2⟩ := slot_of hl hN w q
      refine ⟨.ref pl, e1, .inl ⟨rfl, vs, SqL.of g1⟩, ?_⟩
      refine ha.partS hl w h fun d fr1 v H1 F1 io1 s1 p1 w1 rv h1 => ?_
      cases q1 : fr1.env[i]? with
      | none => simp [q1] at h1; exact h1.elim
      | some sl =>
        cases sl with
        | un => simp [q1] at h1; exact h1.elim
        | val d => simp [q1] at h1; exact h1.elim
        | own ys =>
          simp only [q1] at h1
          split at h1
          case isFalse => exact h1.elim
          rename_i hz
          obtain ⟨pl', us, e1', e2', k1, k2⟩ := slot_of hl hN w1 q1
          rw [e1] at e1'; cases e1'
          refine ⟨pl, us, v, rfl, rfl, k1, by rw [← k2.length]; exact hz, ?_⟩
          exact h1 σ _ F1 io1 hl (Same.refl _) (Pre.refl _) (w1.ownPut q1 e2' (k2.append (.cons rv .nil)))))) Xq9.mk
theorem SS_extend (ok : E.Ok) {i : Nat} {x : Str} {p apos cpos : Pos} (hN : E.X.N[i]? = some x) (hv : Vis E.X.env.scope x) (hd : (x == ("__debug__" : Str)) = false) (hcd : (x == ("__classdict__" : Str)) = false) (hn : notStar a = true) (hline : (apos.endLine == cpos.line) = true) (ha : SE E a ta) :
    SS E (.Expr (.Call (.Attribute (.Name x p) "extend" apos) [a] [] cpos) pos) (.extend i ta) := @Rq9 _ _ (fun qz => @Hq9.get _ _ (qz.bar : Hq9 _ (by
  clear qz
  intro fr σ tp H F io D hl w h
  have f1 : allNot [a] = true := by unfold allNot; simp [hn]
  refine wS_of (ps_expr (pe_bm PySem.F.plainAttrs_list PySem.F.slot_list_extend PySem.F.type_list_extend mt_extend (pe_var hN hv hd hcd) (pa_cons pe_w pa_nil (star_ne hn _ _)) (by rfl) (form_of (pos := cpos) f1 (by show 1 < 29; decide) E.X.env) hline (star_ne hn _ _) (by rfl)) (by rfl)) ?_
  unfold ex at h
  cases q : fr.env[i]? with
  | none => simp [q] at h; exact h.elim
  | some sl =>
    cases sl with
    | un => simp [q] at h; exact h.elim
    | val d => simp [q] at h; exact h.elim
    | own xs =>
      simp only [q] at h
      obtain ⟨pl, vs, e1, e2, g1, g2⟩ := slot_of hl hN w q
      refine ⟨.ref pl, e1, .inl ⟨rfl, vs, SqL.of g1⟩, ?_⟩
      refine ha.partS hl w h fun d fr1 v H1 F1 io1 s1 p1 w1 rv h1 => ?_
      cases q1 : fr1.env[i]? with
      | none => simp [q1] at h1; exact h1.elim
      | some sl =>
        cases sl with
        | un => simp [q1] at h1; exact h1.elim
        | val d => simp [q1] at h1; exact h1.elim
        | own ys =>
          cases d with
          | lst zs =>
            simp only [q1] at h1
            split at h1
            case isFalse => exact h1.elim
            rename_i hz
            obtain ⟨pl', us, e1', e2', k1, k2⟩ := slot_of hl hN w1 q1
            rw [e1] at e1'; cases e1'
            cases rv with
            | lst hb rb =>
              refine ⟨pl, _, us, _, rfl, rfl, k1, w1.wr.sub _ _ hb, by rw [← k2.length, ← rb.length]; exact hz, ?_⟩
              exact h1 σ _ F1 io1 hl (Same.refl _) (Pre.refl _) (w1.ownPut q1 e2' (k2.append rb))
          | _ => simp only [q1] at h1; exact h1.elim))) Xq9.mk
theorem SE_pop (ok : E.Ok) {i : Nat} {x : Str} {p apos cpos : Pos} (hN : E.X.N[i]? = some x) (hv : Vis E.X.env.scope x) (hd : (x == ("__debug__" : Str)) = false) (hcd : (x == ("__classdict__" : Str)) = false) (hline : (apos.endLine == cpos.line) = true) :
    SE E (.Call (.Attribute (.Name x p) "pop" apos) [] [] cpos) (.pop i) := @Rq9 _ _ (fun qz => @Hq9.get _ _ (qz.bar : Hq9 _ (by
  clear qz
  intro fr σ tp H F io Q hl w h
  refine wE_of (pe_bm0 PySem.F.plainAttrs_list PySem.F.slot_list_pop PySem.F.type_list_pop mt_pop (pe_var hN hv hd hcd) (by rfl) hline) ?_
  unfold ev at h
  cases q : fr.env[i]? with
  | none => simp [q] at h; exact h.elim
  | some sl =>
    cases sl with
    | un => simp [q] at h; exact h.elim
    | val d => simp [q] at h; exact h.elim
    | own xs =>
      simp only [q] at h
      obtain ⟨pl, vs, e1, e2, g1, g2⟩ := slot_of hl hN w q
      cases e3 : xs.getLast? with
      | none => simp [e3] at h; exact h.elim
      | some d =>
        simp only [e3] at h
        have e4 : xs[xs.length - 1]? = some d := by rw [← List.getLast?_eq_getElem?]; exact e3
        obtain ⟨y, e5, ry⟩ := g2.get e4
        rw [g2.length] at e5
        refine ⟨.ref pl, e1, .inl ⟨rfl, vs, SqL.of g1⟩, pl, vs, y, rfl, rfl, g1, e5, ?_⟩
        refine h y _ F io (Same.refl _) (Pre.refl _) (w.ownPut q e2 ?_) ry
        have := g2.take (xs.length - 1)
        rw [List.dropLast_eq_take, List.dropLast_eq_take, ← g2.length]
        exact this))) Xq9.mk
theorem SS_aug (ok : E.Ok) {i : Nat} {x : Str} {p : Pos} (hN : E.X.N[i]? = some x) (hx : Loc E.X.env.scope x) (hf : E.X.fn x = true ∨ E.X.env.scope.names.lookup x = some .local) (ha : SE E a ta) : SS E (.AugAssign (.Name x p) .Add a pos) (.aug i .add ta) := @Rq9 _ _ (fun qz => @Hq9.get _ _ (qz.bar : Hq9 _ (by
  clear qz
  intro fr σ tp H F io D hl w h
  refine wS_of (ps_aug ok.nd hN hx pe_w ip_add hf) ?_
  have hi : i < σ.length := by rw [hl]; exact (List.getElem?_eq_some_iff.mp hN).1
  have hi2 : i < (σ ++ tp).length := by rw [List.length_append]; omega
  unfold ex at h
  cases q : fr.env[i]? with
  | none => simp [q] at h; exact h.elim
  | some sl =>
    cases sl with
    | un => simp [q] at h; exact h.elim
    | own d => simp [q] at h; exact h.elim
    | val d =>
      cases d with
      | int n =>
        simp only [q] at h
        obtain ⟨v, e1, r1⟩ := w.sl.at_ i _ q
        rw [lift_at hl hN] at e1
        cases r1
        refine ⟨_, e1, ?_⟩
        refine ha.partS hl w h fun d fr1 v H1 F1 io1 s1 p1 w1 rv h1 => ?_
        cases d with
        | int m =>
          cases rv
          refine ⟨n, m, rfl, rfl, ?_⟩
          exact h1 _ H1 F1 io1 (setN_len hl) (Same.refl _) (Pre.refl _) (by rw [set_app hi]; exact w1.put hi2 (.int _))
        | _ => exact h1.elim
      | _ => simp [q] at h; exact h.elim))) Xq9.mk
theorem SS_setl {o k : Expr} {to tk : Tm} {p : Pos} {i : Nat} (hns : notSlice k = true) (hs : notComp a = true) (hsole : swapsWithSole [.Subscript o k p] a pos.line E.X.env = pure false) (hsw : swappedStores [.Subscript o k p] a E.X.env = pure none) (ho : SE E o to) (hk : SE E k tk) (ha : SE E a ta)
    (hl : σ.length = E.X.N.length) (w : E.ws fr (σ ++ tp) H F io) (h : (ex E.T (.setk to tk ta) fr).all (okS E tp F io D)) (hq : ownSlot to fr.env = some i) : wS E.X (.Assign [.Subscript o k p] a pos) D σ H := @Rq9 _ _ (fun qz => @Hq9.get _ _ (qz.bar : Hq9 _ (by
  clear qz
  refine wS_of (ps_asg pe_w (pg_sub (t := rSetL) pe_w pe_w set_list (by intro _; cases k <;> first | rfl | cases hns)) hsole hsw rfl) ?_
  have hto : to = .slot i := by
    unfold ownSlot at hq
    split at hq
    · split at hq
      · cases hq; rfl
      · cases hq
    · cases hq
  subst hto
  unfold ex at h
  rw [hq] at h
  refine ha.partS hl w h fun dv fr1 v H1 F1 io1 s1 p1 w1 rv h1 => ?_
  cases q1 : fr1.env[i]? with
  | none => rw [q1] at h1; exact h1.elim
  | some sl =>
    cases sl with
    | un => rw [q1] at h1; exact h1.elim
    | val d => rw [q1] at h1; exact h1.elim
    | own ys =>
      rw [q1] at h1
      have h1 : ((ev E.T tk fr1).frS fun dk fr2 => match fr2.env[i]?, dk with
        | some (.own xs), .int j => match ixN xs.length j with
          | some m => Sx.next (setE fr2 i (.own (xs.set m dv)))
          | none => .bad
        | _, _ => .bad).all (okS E tp F1 io1 D) := h1
      refine ho fr1 σ tp H1 F1 io1 _ hl w1 ?_
      unfold ev
      rw [q1]
      intro x H2 F2 io2 s2 p2 w2 rx
      refine hk.partS hl w2 (okS.mono s2 p2 h1) fun dk fr2 y H3 F3 io3 s3 p3 w3 ry h2 => ?_
      cases q2 : fr2.env[i]? with
      | none => simp only [q2] at h2; exact h2.elim
      | some sl =>
        cases sl with
        | un => simp only [q2] at h2; exact h2.elim
        | val d => simp only [q2] at h2; exact h2.elim
        | own xs =>
          cases dk with
          | int j =>
            simp only [q2] at h2
            cases q3 : ixN xs.length j with
            | none => simp only [q3] at h2; exact h2.elim
            | some m =>
              simp only [q3] at h2
              cases ry
              obtain ⟨pl, e1, us, k1, k2, k3, k4, k5⟩ := w3.sl.at_ i _ q2
              have rx : (σ ++ tp)[i]? = some (some x) := rx
              rw [e1] at rx; cases rx
              refine ⟨pl, us, j, m, rfl, rfl, k1, by rw [← k5.length]; exact q3, ?_⟩
              exact h2 σ _ F3 io3 hl (Same.refl _) (Pre.refl _) (w3.ownPut q2 e1 (k5.set (rv.mono (s2.trans s3) (p2.trans p3)) _))
          | _ => simp only [q2] at h2; exact h2.elim))) Xq9.mk
theorem SS_setk (ok : E.Ok) {o k : Expr} {to tk : Tm} {p : Pos} (hns : notSlice k = true) (hs : notComp a = true) (hsole : swapsWithSole [.Subscript o k p] a pos.line E.X.env = pure false) (hsw : swappedStores [.Subscript o k p] a E.X.env = pure none) (ha : SE E a ta) (ho : SE E o to) (hk : SE E k tk) : SS E (.Assign [.Subscript o k p] a pos) (.setk to tk ta) := @Rq9 _ _ (fun qz => @Hq9.get _ _ (qz.bar : Hq9 _ (by
  clear qz
  intro fr σ tp H F io D hl w h
  cases hq : ownSlot to fr.env with
  | some i => exact SS_setl hns hs hsole hsw ho hk ha hl w h hq
  | none =>
  refine wS_of (ps_dput (by have := ok.hu; omega) pe_w pe_w pe_w (swaps_no hs _ _ _)) ?_
  unfold ex at h
  rw [hq] at h
  refine ha.partS hl w h fun dv fr1 v H1 F1 io1 s1 p1 w1 rv h1 => ?_
  refine ho.partS hl w1 h1 fun d fr2 x H2 F2 io2 s2 p2 w2 rx h2 => ?_
  refine hk.partS hl w2 h2 fun dk fr3 y H3 F3 io3 s3 p3 w3 ry h3 => ?_
  cases d with
  | cell n =>
    cases e1 : keyOf dk with
    | none => simp [e1] at h3; exact h3.elim
    | some kk =>
      simp only [e1] at h3
      cases rx with
      | cell hc =>
        cases e2 : fr3.sto[n]? with
        | none => simp [e2] at h3; exact h3.elim
        | some cl =>
          cases cl with
          | inst c fs => simp [e2] at h3; exact h3.elim
          | dictT kvs => simp [e2] at h3; exact h3.elim
          | dict kvs =>
            simp only [e2] at h3
            split at h3
            case isFalse => exact h3.elim
            rename_i hz
            obtain ⟨a, g1, g2, vs, g3, g4⟩ := w3.wr.cel n _ e2
            have hc3 := p3 _ _ hc
            rw [hc3] at g1; cases g1
            have ek := key_of ry e1
            subst ek
            refine ⟨_, _, rfl, DPut.k g3 (by rw [← g4.length]; exact Nat.lt_trans hz (by decide)), ?_⟩
            exact h3 σ _ F3 io3 hl (Same.refl _) (Pre.refl _) (w3.cellPut hc3 ⟨_, upd_same, g4.put (rv.mono (s2.trans s3) (p2.trans p3))⟩)
  | _ => exact h3.elim))) Xq9.mk
end
end Ag
namespace Ag
open PySem PySem.Spec L2
section
variable {E : En} {e a b c : Expr} {ta tb tc : Tm} {fr : Fr} {σ tp : St} {H F : Hp} {io : List Addr} {Q : VK} {pos : Pos} {es : List Expr} {ts : List Tm} {D : Ends}
theorem star_off (e : Expr) : notStar e = true → (match e with | .Starred .. => true | _ => false) = false := by
  cases e <;> intro h <;> first | rfl | exact absurd h (by simp [notStar])
theorem swap2_some {x y : Str} {px py pt pt2 : Pos} {kt k2 : Nat} {env : Env} (hk : env.scope.kind = .function) (hx : env.scope.names.lookup x = some .local) (hy : env.scope.names.lookup y = some .local) (hl : (py.line == px.line) = true) (hxy : x ≠ y)
    (hs : allNot [a, b] = true) (hf : ([a, b].all (foldedForSure 8)) = false) (hc : ([a, b].all (constantsAlone 8)) = false) :
    swappedStores [.Tuple [.Name x px, .Name y py] kt pt] (.Tuple [a, b] k2 pt2) env = pure (some [x, y]) := @Rq9 _ _ (fun qz => @Hq9.get _ _ (qz.bar : Hq9 _ (by
  clear qz
  have hb : env.blockKind = .function := by unfold Env.blockKind; rw [hk]; rfl
  have kx : env.kindOf x = some .local := hx
  have ky : env.kindOf y = some .local := hy
  unfold allNot at hs
  simp only [List.all_cons, List.all_nil, Bool.and_true, Bool.and_eq_true] at hs
  have e1 : ([x, y] : List Str).eraseDups.length = 2 := by
    have : (y == x) = false := by simpa using fun z => hxy z.symm
    simp [List.eraseDups_cons, this]
  unfold swappedStores
  simp only [hb, hf, hc, List.filterMap_cons, List.filterMap_nil, kx, ky, Expr.pos, hl]
  simp [e1, Expr.pos, kx, ky, hl]
  intro h
  rcases h with h | h
  · exact absurd ((star_off a hs.1).symm.trans h) (by simp)
  · exact absurd ((star_off b hs.2).symm.trans h) (by simp)))) Xq9.mk
theorem swap3_some {x y z : Str} {px py pz pt pt2 : Pos} {kt k2 : Nat} {env : Env} (hk : env.scope.kind = .function) (hx : env.scope.names.lookup x = some .local) (hy : env.scope.names.lookup y = some .local) (hz : env.scope.names.lookup z = some .local)
    (hl : (py.line == px.line) = true) (hl2 : (pz.line == px.line) = true) (hxy : x ≠ y) (hxz : x ≠ z) (hyz : y ≠ z)
    (hs : allNot [a, b, c] = true) (hf : ([a, b, c].all (foldedForSure 8)) = false) (hc : ([a, b, c].all (constantsAlone 8)) = false) :
    swappedStores [.Tuple [.Name x px, .Name y py, .Name z pz] kt pt] (.Tuple [a, b, c] k2 pt2) env = pure (some [x, y, z]) := @Rq9 _ _ (fun qz => @Hq9.get _ _ (qz.bar : Hq9 _ (by
  clear qz
  have hb : env.blockKind = .function := by unfold Env.blockKind; rw [hk]; rfl
  have kx : env.kindOf x = some .local := hx
  have ky : env.kindOf y = some .local := hy
  have kz : env.kindOf z = some .local := hz
  unfold allNot at hs
  simp only [List.all_cons, List.all_nil, Bool.and_true, Bool.and_eq_true] at hs
  have e1 : ([x, y, z] : List Str).eraseDups.length = 3 := by
    have h1 : (y == x) = false := by simpa using fun z => hxy z.symm
    have h2 : (z == x) = false := by simpa using fun z => hxz z.symm
    have h3 : (z == y) = false := by simpa using fun z => hyz z.symm
    simp [List.eraseDups_cons, h1, h2, h3]
  unfold swappedStores
  simp only [hb, hf, hc, List.filterMap_cons, List.filterMap_nil, kx, ky, kz, Expr.pos, hl, hl2]
  simp [e1, Expr.pos, kx, ky, kz, hl, hl2]
  intro h
  rcases h with h | h | h
  · exact absurd ((star_off a hs.1).symm.trans h) (by simp)
  · exact absurd ((star_off b hs.2.1).symm.trans h) (by simp)
  · exact absurd ((star_off c hs.2.2).symm.trans h) (by simp)))) Xq9.mk
/-! ### several names at once -/
inductive SEs (E : En) : List Expr → List Tm → Prop
  | nil : SEs E [] []
  | cons {e t es ts} : notStar e = true → SE E e t → SEs E es ts → SEs E (e :: es) (t :: ts)
theorem SEs.sa (h : SEs E es ts) : SA E es ts := @Rq9 _ _ (fun qz => @Hq9.get _ _ (qz.bar : Hq9 _ (by
  clear qz
  induction h with
  | nil => exact SA_nil
  | cons h1 h2 _ ih => exact SA_cons h1 h2 ih))) Xq9.mk
theorem SEs.sp (h : SEs E es ts) : SP' E es ts := @Rq9 _ _ (fun qz => @Hq9.get _ _ (qz.bar : Hq9 _ (by
  clear qz
  induction h with
  | nil => exact SP_nil
  | cons h1 h2 _ ih => exact SP_cons h1 h2 ih))) Xq9.mk
theorem Ws.cut {G : Glb} {H0 : Ent} {n0 : Nat} {ρ : St} (w : Ws G H0 n0 fr ρ H F io) (n : Nat) : Ws G H0 n0 (cutE n fr) (ρ.take n) H F io := @Rq9 _ _ (fun qz => @Hq9.get _ _ (qz.bar : Hq9 _ (by
  clear qz
  have f : ∀ {i : Nat} {s : Slot}, (fr.env.take n)[i]? = some s → i < n ∧ fr.env[i]? = some s := fun {i s} e => by
    rw [List.getElem?_take] at e
    split at e
    · exact ⟨by assumption, e⟩
    · cases e
  have g : ∀ {i : Nat}, i < n → (ρ.take n)[i]? = ρ[i]? := fun {i} h => by rw [List.getElem?_take, if_pos h]
  refine ⟨w.wr, by show (fr.env.take n).length = _; rw [List.length_take, List.length_take, w.sl.len], fun i s e => ?_, fun i j xs ys p e1 e2 h1 h2 => ?_⟩
  · obtain ⟨h, e⟩ := f e
    rw [g h]
    exact w.sl.at_ i s e
  · obtain ⟨k1, e1⟩ := f e1
    obtain ⟨k2, e2⟩ := f e2
    rw [g k1] at h1
    rw [g k2] at h2
    exact w.sl.dis i j xs ys p e1 e2 h1 h2))) Xq9.mk
/-- a new list kept behind the slots -/
theorem Ws.keepT {G : Glb} {H0 : Ent} {n0 : Nat} {ρ : St} (w : Ws G H0 n0 fr ρ H F io) {xs : List Ag.D} {v : V} (r : RvOk G H0 H F io fr.env ρ (.out (.fresh xs)) v) :
    Ws G H0 n0 { fr with env := fr.env ++ [.own xs] } (ρ ++ [some v]) H F io := @Rq9 _ _ (fun qz => @Hq9.get _ _ (qz.bar : Hq9 _ (by
  clear qz
  obtain ⟨p, rfl, own, hd⟩ := r
  have ca : ∀ {i : Nat} {s : Slot}, (fr.env ++ [Slot.own xs])[i]? = some s → (i = ρ.length ∧ s = .own xs) ∨ (i < ρ.length ∧ fr.env[i]? = some s) := fun {i s} e => by
    by_cases q : i < fr.env.length
    · rw [List.getElem?_append_left q] at e
      exact .inr ⟨by rw [← w.sl.len]; exact q, e⟩
    · have hl := (List.getElem?_eq_some_iff.mp e).1
      rw [List.length_append] at hl
      have : i = fr.env.length := by simp at hl; omega
      subst this
      simp at e
      exact .inl ⟨w.sl.len, e.symm⟩
  refine ⟨w.wr, by show (fr.env ++ [Slot.own xs]).length = _; rw [List.length_append, List.length_append, w.sl.len]; rfl, fun i s e => ?_, fun i j ys zs q e1 e2 h1 h2 => ?_⟩
  · rcases ca e with ⟨e1, rfl⟩ | ⟨h, e⟩
    · subst e1
      exact ⟨p, by simp, own⟩
    · rw [List.getElem?_append_left h]
      exact w.sl.at_ i s e
  · rcases ca e1 with ⟨a1, b1⟩ | ⟨a1, b1⟩
    · rcases ca e2 with ⟨a2, b2⟩ | ⟨a2, b2⟩
      · rw [a1, a2]
      · rw [a1] at h1
        simp at h1
        rw [List.getElem?_append_left a2] at h2
        exact absurd (h1 ▸ h2) (hd j zs b2)
    · rcases ca e2 with ⟨a2, b2⟩ | ⟨a2, b2⟩
      · rw [a2] at h2
        simp at h2
        rw [List.getElem?_append_left a1] at h1
        exact absurd (h2 ▸ h1) (hd i ys b1)
      · rw [List.getElem?_append_left a1] at h1
        rw [List.getElem?_append_left a2] at h2
        exact w.sl.dis i j ys zs q b1 b2 h1 h2))) Xq9.mk
/-- a kept value -/
def Kp (G : Glb) (F : Hp) (io : List Addr) (n : Nat) (ρ : St) : RV → V → Prop
  | .out (.val d), v => Rep G F io d v
  | .out (.fresh _), _ => False
  | .var j, v => n ≤ j → ρ[j]? = some (some v)
theorem Kp.mono {G : Glb} {n : Nat} {ρ : St} {F' : Hp} {io' : List Addr} {x : List (Option V)} (s : Same F F') (p : Pre io io') {r : RV} {v : V} (h : Kp G F io n ρ r v) : Kp G F' io' n (ρ ++ x) r v := @Rq9 _ _ (fun qz => @Hq9.get _ _ (qz.bar : Hq9 _ (by
  clear qz
  cases r with
  | out o =>
    cases o with
    | val d => exact Rep.mono s p h
    | fresh xs => exact h
  | var i =>
    intro hn
    have := h hn
    rw [List.getElem?_append_left (List.getElem?_eq_some_iff.mp this).1]; exact this))) Xq9.mk
theorem par_read (h : SEs E es ts) : ∀ {fr : Fr} {x : St} {H F : Hp} {io : List Addr} {P : List RV → Fr → Prop} {R : List V → Hp → Prop}, σ.length = E.X.N.length → E.ws fr (σ ++ (tp ++ x)) H F io →
    (parGo E.T (σ ++ tp).length ts fr).all P (fun c fs fr => exE E σ tp F io c fs (cutE (σ ++ tp).length fr)) →
    (∀ rs fr1 vs y H1 F1 io1, Same F F1 → Pre io io1 → E.ws fr1 (σ ++ (tp ++ y)) H1 F1 io1 → Paired (Kp E.G F1 io1 (σ ++ tp).length (σ ++ (tp ++ y))) rs vs → (∃ z, y = x ++ z) → P rs fr1 → R vs H1) → wA E.X es σ H R := @Rq9 _ _ (fun qz => @Hq9.get _ _ (qz.bar : Hq9 _ (by
  clear qz
  induction h with
  | nil =>
    intro fr x H F io P R hl w h q
    exact wA_of pa_nil (q [] fr [] x H F io (Same.refl _) (Pre.refl _) w .nil ⟨[], by simp⟩ h)
  | @cons e t es ts hs he hr ih =>
    intro fr x H F io P R hl w h q
    refine wA_of (pa_cons pe_w pa_w (star_ne hs _ _)) ?_
    unfold parGo at h
    have cx : ∀ {F1 : Hp} {io1 : List Addr} {y : St} {c : Nat} {fs : List Ag.D} {fr : Fr}, Same F F1 → Pre io io1 → exE E σ tp F io c fs (cutE (σ ++ tp).length fr) → exE E σ (tp ++ y) F1 io1 c fs fr := fun {F1 io1 y c fs fr} s p hx d H' F' io' s2 p2 w2 xo => by
      refine hx d H' F' io' (s.trans s2) (p.trans p2) ?_ xo
      have := Ws.cut w2 (σ ++ tp).length
      rwa [← List.append_assoc, List.take_left] at this
    refine he fr σ (tp ++ x) H F io _ hl w (Rs.all_imp (Rs.all_bind h) (fun r fr1 z => ?_) fun _ _ _ z => cx (Same.refl _) (Pre.refl _) z)
    intro v H1 F1 io1 s1 p1 w1 rv
    have gen : ∀ (r' : RV) (fr2 : Fr) (y : St), (∃ z, y = x ++ z) → E.ws fr2 (σ ++ (tp ++ y)) H1 F1 io1 → Kp E.G F1 io1 (σ ++ tp).length (σ ++ (tp ++ y)) r' v →
        ((parGo E.T (σ ++ tp).length ts fr2).bind fun rs fr2 => .ok (r' :: rs) fr2).all P (fun c fs fr => exE E σ tp F io c fs (cutE (σ ++ tp).length fr)) → wA E.X es σ H1 fun vs H2 => R (v :: vs) H2 := by
      intro r' fr2 y hy w2 hk z
      refine ih hl w2 (Rs.all_imp (Rs.all_bind z) (fun _ _ z => z) fun _ _ _ z => z.mono s1 p1) fun rs fr3 vs y2 H3 F3 io3 s3 p3 w3 hp hy2 z3 => ?_
      obtain ⟨z2, e2⟩ := hy2
      obtain ⟨z1, e1⟩ := hy
      refine q (r' :: rs) fr3 (v :: vs) y2 H3 F3 io3 (s1.trans s3) (p1.trans p3) w3 (.cons ?_ hp) ⟨z1 ++ z2, by rw [e2, e1, List.append_assoc]⟩ z3
      have := hk.mono s3 p3 (x := z2)
      rw [e2]
      simpa [List.append_assoc] using this
    cases r with
    | out o =>
      cases o with
      | val d => exact gen (.out (.val d)) fr1 x ⟨[], by simp⟩ w1 rv z
      | fresh xs =>
        have w2 := w1.keepT rv
        have hlen : fr1.env.length = (σ ++ (tp ++ x)).length := w1.sl.len
        refine gen (.var fr1.env.length) { fr1 with env := fr1.env ++ [.own xs] } (x ++ [some v]) ⟨_, rfl⟩ (by simpa [List.append_assoc] using w2) (fun _ => ?_) z
        rw [hlen]
        simp [← List.append_assoc]
    | var j =>
      refine gen (.var j) fr1 x ⟨[], by simp⟩ w1 (fun hn => ?_) z
      exact rv))) Xq9.mk
def setsV (σ : St) : List Nat → List V → St
  | i :: is, v :: vs => setsV (σ.set i (some v)) is vs
  | _, _ => σ
theorem setsV_len : ∀ {is : List Nat} {vs : List V} {σ : St}, (setsV σ is vs).length = σ.length
  | [], _, _ => by cases ‹List V› <;> rfl
  | i :: is, [], _ => rfl
  | i :: is, v :: vs, σ => by show (setsV (σ.set i (some v)) is vs).length = _; rw [setsV_len, List.length_set]
theorem par_set {y : St} : ∀ {is : List Nat} {rs : List RV} {vs : List V} {fr fr' : Fr} {σ : St}, (∀ i ∈ is, i < σ.length) → E.ws fr (σ ++ (tp ++ y)) H F io → Paired (Kp E.G F io (σ ++ tp).length (σ ++ (tp ++ y))) rs vs →
    parSet (σ ++ tp).length is rs fr = some fr' → E.ws fr' (setsV σ is vs ++ (tp ++ y)) H F io ∧ is.length = rs.length
  | [], [], vs, fr, fr', σ, hi, w, r, e => by
    cases r
    unfold parSet at e; cases e; exact ⟨w, rfl⟩
  | [], _ :: _, _, _, _, _, _, _, _, e => by unfold parSet at e; cases e
  | _ :: _, [], _, _, _, _, _, _, _, e => by unfold parSet at e; cases e
  | i :: is, r0 :: rs, [], fr, fr', σ, hi, w, r, e => by cases r
  | i :: is, r0 :: rs, v :: vs', fr, fr', σ, hi, w, r, e => by
    obtain ⟨h, t⟩ : Kp E.G F io (σ ++ tp).length (σ ++ (tp ++ y)) r0 v ∧ Paired (Kp E.G F io (σ ++ tp).length (σ ++ (tp ++ y))) rs vs' := by cases r with | cons h t => exact ⟨h, t⟩
    have h0 : i < σ.length := hi i List.mem_cons_self
    have h1 : i < (σ ++ (tp ++ y)).length := by rw [List.length_append]; omega
    have hlen : (σ.set i (some v) ++ tp).length = (σ ++ tp).length := by simp
    have hi' : ∀ j ∈ is, j < (σ.set i (some v)).length := fun j hj => by rw [List.length_set]; exact hi j (List.mem_cons_of_mem _ hj)
    have tk : Paired (Kp E.G F io (σ.set i (some v) ++ tp).length (σ.set i (some v) ++ (tp ++ y))) rs vs' := by
      rw [hlen]
      refine Paired.mapP t fun r u k => ?_
      cases r with
      | out o => cases o with | val d => exact k | fresh xs => exact k
      | var j =>
        intro hn
        have k' := k hn
        rw [set_app h0]
        have : i ≠ j := fun z => by rw [List.length_append] at hn; omega
        rw [List.getElem?_set_ne this]; exact k'
    unfold parSet at e
    cases r0 with
    | out o =>
      cases o with
      | val d =>
        have w2 := w.put h1 h
        rw [← set_app h0] at w2
        have := par_set hi' w2 tk (by rw [hlen]; exact e)
        exact ⟨this.1, by rw [List.length_cons, List.length_cons, this.2]⟩
      | fresh xs => cases e
    | var j =>
      by_cases hn : (σ ++ tp).length ≤ j
      · simp only [if_pos hn] at e
        cases q : fr.env[j]? with
        | none => simp [q] at e
        | some sl =>
          cases sl with
          | un => simp [q] at e
          | val d => simp [q] at e
          | own xs =>
            simp only [q] at e
            obtain ⟨w2, rv2⟩ := w.giveSlot q
            have w3 := w2.putOwn h1 (rv2 v (h hn))
            rw [← set_app h0] at w3
            have := par_set hi' w3 tk (by rw [hlen]; exact e)
            exact ⟨this.1, by rw [List.length_cons, List.length_cons, this.2]⟩
      · simp only [if_neg hn] at e; cases e
/-- the model's statement stores the values of es at is -/
def ParOk (E : En) (st : Stmt) (is : List Nat) (es : List Expr) : Prop := ∀ (σ : St) (H : Hp) (D : Ends), σ.length = E.X.N.length → wA E.X es σ H (fun vs H1 => vs.length = is.length ∧ D.nx (setsV σ is vs) H1 ∧ ∀ p, H1 p = none → D.nx (setsV σ is vs) (upd H1 p (.tup vs))) → wS E.X st D σ H
theorem SS_par {st : Stmt} {is : List Nat} (hp : ParOk E st is es) (hi : ∀ i ∈ is, i < E.X.N.length) (h : SEs E es ts) : SS E st (.par is ts) := @Rq9 _ _ (fun qz => @Hq9.get _ _ (qz.bar : Hq9 _ (by
  clear qz
  intro fr σ tp H F io D hl w hh
  refine hp σ H D hl ?_
  unfold ex at hh
  have hlen : fr.env.length = (σ ++ tp).length := w.sl.len
  rw [hlen] at hh
  have h0 := Rs.all_toS hh
  have h1 : (parGo E.T (σ ++ tp).length ts fr).all (fun rs fr1 => ((match parSet (σ ++ tp).length is rs fr1 with | some fr2 => Sx.next (cutE (σ ++ tp).length fr2) | none => .bad) : Sx).all (okS E tp F io D)) (fun c fs fr => exE E σ tp F io c fs (cutE (σ ++ tp).length fr)) := by
    cases q : parGo E.T (σ ++ tp).length ts fr with
    | ok a fr1 => rw [q] at h0; exact h0
    | exc c fs fr1 => rw [q] at h0; exact okS.exE hl h0
    | bad => rw [q] at h0; exact h0.elim
  refine par_read h (x := []) hl (by rw [List.append_nil]; exact w) h1 fun rs fr1 vs y H1 F1 io1 s p w1 hk _ z => ?_
  cases q : parSet (σ ++ tp).length is rs fr1 with
  | none => rw [q] at z; exact False.elim z
  | some fr2 =>
    rw [q] at z
    obtain ⟨w2, hlen2⟩ := par_set (fun i h => by rw [hl]; exact hi i h) w1 hk q
    have w3 : E.ws (cutE (σ ++ tp).length fr2) (setsV σ is vs ++ tp) H1 F1 io1 := by
      have := Ws.cut w2 (σ ++ tp).length
      have e2 : (σ ++ tp).length = (setsV σ is vs ++ tp).length := by simp [setsV_len]
      rw [← List.append_assoc] at this
      rw [e2, List.take_left] at this
      rw [e2]; exact this
    have hv : vs.length = is.length := by
      rw [hlen2]
      exact (Paired.length hk).symm
    refine ⟨hv, z _ H1 F1 io1 (by rw [setsV_len]; exact hl) s p w3, fun l hl2 => ?_⟩
    have hF : F1 l = none := (w3.wr.fresh hl2).1
    have w4 := w3.grow hl2 (.tup vs) (Same.refl F1) (fun _ _ => rfl) (fun a u e => by rw [upd_ne (ne_of_none (w3.wr.sub a u e) hl2)]; exact w3.wr.sub a u e) (fun u e => by rw [hF] at e; cases e)
    exact z _ _ F1 io1 (by rw [setsV_len]; exact hl) s p w4))) Xq9.mk
end
end Ag
namespace Ag
open PySem PySem.Spec L2
section
variable {E : En} {e a b c : Expr} {ta tb tc : Tm} {fr : Fr} {σ tp : St} {H F : Hp} {io : List Addr} {Q : VK} {pos : Pos} {es : List Expr} {ts : List Tm} {D : Ends}
/-! ### the forms of several targets -/
/-- names as targets -/
inductive Nms (E : En) : List Expr → List Nat → Prop
  | nil : Nms E [] []
  | cons {x : Str} {p : Pos} {i : Nat} {es is} : E.X.N[i]? = some x → Loc E.X.env.scope x → (E.X.fn x = true ∨ E.X.env.scope.names.lookup x = some .local) → Nms E es is → Nms E (.Name x p :: es) (i :: is)
def gNms (is : List Nat) : TGs := fun vs σ H Q => vs.length = is.length ∧ Q (setsV σ is vs) H
theorem Nms.pgs (ok : E.Ok) {tgs : List Expr} {is : List Nat} (h : Nms E tgs is) : PGs E.X tgs (gNms is) := @Rq9 _ _ (fun qz => @Hq9.get _ _ (qz.bar : Hq9 _ (by
  clear qz
  induction h with
  | nil => exact ⟨fun pins s σ H vs us Q I r h => by
      obtain ⟨hl, q⟩ := h
      have e : vs = [] := List.length_eq_zero_iff.mp hl
      exact pgs_nil.run pins s σ H vs us Q I r ⟨e, by subst e; exact q⟩⟩
  | cons h1 h2 h3 _ ih => exact ⟨fun pins s σ H vs us Q I r h => by
      obtain ⟨hl, q⟩ := h
      cases vs with
      | nil => cases hl
      | cons v vs => exact (pgs_cons (pg_name ok.nd h1 h2 h3) ih (assign_ne rfl _ _)).run pins s σ H (v :: vs) us Q I r ⟨v, vs, rfl, by simpa using hl, q⟩⟩))) Xq9.mk
theorem Nms.star {tgs : List Expr} {is : List Nat} (h : Nms E tgs is) : allNot tgs = true ∧ tgs.length = is.length := @Rq9 _ _ (fun qz => @Hq9.get _ _ (qz.bar : Hq9 _ (by
  clear qz
  induction h with
  | nil => exact ⟨rfl, rfl⟩
  | cons _ _ _ _ ih =>
    refine ⟨?_, by simp [ih.2]⟩
    have := ih.1
    unfold allNot at this ⊢
    rw [List.all_cons, this]; rfl))) Xq9.mk
theorem par_gen (ok : E.Ok) {tgs : List Expr} {is : List Nat} {k k2 : Nat} {pt pt2 : Pos} (h : Nms E tgs is) (hz : is.length < 100) (hw : swappedStores [.Tuple tgs k pt] (.Tuple es k2 pt2) E.X.env = pure none) :
    ParOk E (.Assign [.Tuple tgs k pt] (.Tuple es k2 pt2) pos) is es := @Rq9 _ _ (fun qz => @Hq9.get _ _ (qz.bar : Hq9 _ (by
  clear qz
  intro σ H D hl hh
  refine wS_of (ps_asg (pe_tup pa_w) (pg_tup ok.calm (h.pgs ok) (assign_len _ _) (assign_find h.star.1 _)) (by rfl) hw (by rfl)) ?_
  show wA E.X es σ H _
  refine fun pos pins s I => thn (hh pos pins s I) fun us s1 ⟨vs, H1, I1, r, e1, q1, q2⟩ => ⟨vs, H1, I1, r, ?_, fun p hp => ?_⟩
  · rw [e1]; exact Nat.le_trans (Nat.le_of_lt hz) (by decide)
  · exact ⟨p, vs, rfl, SqT.of upd_same, by rw [e1, h.star.2], e1, q2 p hp⟩))) Xq9.mk
theorem par_two (ok : E.Ok) (hk : E.X.env.scope.kind = .function) {x y : Str} {i j : Nat} {px py pt pt2 : Pos} {k k2 : Nat} (hi : E.X.N[i]? = some x) (hj : E.X.N[j]? = some y) (hij : i ≠ j) (hx : E.X.env.scope.names.lookup x = some .local) (hy : E.X.env.scope.names.lookup y = some .local)
    (hl : (py.line == px.line) = true) (hs : allNot [a, b] = true) (hf : ([a, b].all (foldedForSure 8)) = false) (hc : ([a, b].all (constantsAlone 8)) = false) :
    ParOk E (.Assign [.Tuple [.Name x px, .Name y py] k pt] (.Tuple [a, b] k2 pt2) pos) [i, j] [a, b] := @Rq9 _ _ (fun qz => @Hq9.get _ _ (qz.bar : Hq9 _ (by
  clear qz
  intro σ H D hl2 hh
  have hxy : x ≠ y := fun z => hij (nodup_ix ok.nd hi (z ▸ hj))
  refine wS_of (ps_par ok.calm ok.nd hi hj hij hx hy pa_w (swap2_some hk hx hy hl hxy hs hf hc) (by rfl)) ?_
  refine fun pos pins s I => thn (hh pos pins s I) fun us s1 ⟨vs, H1, I1, r, e1, q1, q2⟩ => ⟨vs, H1, I1, r, ?_⟩
  cases vs with
  | nil => cases e1
  | cons v vs => cases vs with
    | nil => cases e1
    | cons u vs => cases vs with
      | nil => exact ⟨v, u, rfl, q1⟩
      | cons => cases e1))) Xq9.mk
theorem par_three (ok : E.Ok) (hk : E.X.env.scope.kind = .function) {x y z : Str} {i j l : Nat} {px py pz pt pt2 : Pos} {k k2 : Nat} (hi : E.X.N[i]? = some x) (hj : E.X.N[j]? = some y) (hl : E.X.N[l]? = some z) (hij : i ≠ j) (hil : i ≠ l) (hjl : j ≠ l)
    (hx : E.X.env.scope.names.lookup x = some .local) (hy : E.X.env.scope.names.lookup y = some .local) (hz : E.X.env.scope.names.lookup z = some .local)
    (hly : (py.line == px.line) = true) (hlz : (pz.line == px.line) = true) (hs : allNot [a, b, c] = true) (hf : ([a, b, c].all (foldedForSure 8)) = false) (hc : ([a, b, c].all (constantsAlone 8)) = false) :
    ParOk E (.Assign [.Tuple [.Name x px, .Name y py, .Name z pz] k pt] (.Tuple [a, b, c] k2 pt2) pos) [i, j, l] [a, b, c] := @Rq9 _ _ (fun qz => @Hq9.get _ _ (qz.bar : Hq9 _ (by
  clear qz
  intro σ H D hl2 hh
  have hxy : x ≠ y := fun q => hij (nodup_ix ok.nd hi (q ▸ hj))
  have hxz : x ≠ z := fun q => hil (nodup_ix ok.nd hi (q ▸ hl))
  have hyz : y ≠ z := fun q => hjl (nodup_ix ok.nd hj (q ▸ hl))
  refine wS_of (ps_par3 ok.calm ok.nd hi hj hl hij hil hjl hx hy hz pa_w (swap3_some hk hx hy hz hly hlz hxy hxz hyz hs hf hc) (by rfl)) ?_
  refine fun pos pins s I => thn (hh pos pins s I) fun us s1 ⟨vs, H1, I1, r, e1, q1, q2⟩ => ⟨vs, H1, I1, r, ?_⟩
  cases vs with
  | nil => cases e1
  | cons v vs => cases vs with
    | nil => cases e1
    | cons u vs => cases vs with
      | nil => cases e1
      | cons w vs => cases vs with
        | nil => exact ⟨v, u, w, rfl, q1⟩
        | cons => cases e1))) Xq9.mk
/-! ### loops -/
theorem SS_whil (ok : E.Ok) (hp : PassesOwn (model E.X.prog E.X.w) E.X.A E.X.env E.X.xe) {B : List Stmt} {tB : List Stm} (hc : ST E c tc) (hB : SSs E B tB) : SS E (.While c B [] pos) (.whil tc tB) := @Rq9 _ _ (fun qz => @Hq9.get _ _ (qz.bar : Hq9 _ (by
  clear qz
  intro fr σ tp H F io D hl w h
  refine wS_of (ps_while hp pt_w pss_w) ?_
  unfold ex at h
  have hn : ∃ n, (whilN (fun fr1 => (ev E.T tc fr1).fr fun d fr2 => asB d fr2 fun k fr3 => .ok k fr3) (fun fr1 => exs E.T tB fr1) n fr).all (okS E tp F io D) := by
    unfold whilGo at h
    split at h
    · exact ⟨_, h⟩
    · exact h.elim
  clear h
  obtain ⟨n, hn⟩ := hn
  refine ⟨fun m σ H => ∃ fr F' io', σ.length = E.X.N.length ∧ Same F F' ∧ Pre io io' ∧ E.ws fr (σ ++ tp) H F' io' ∧ (whilN (fun fr1 => (ev E.T tc fr1).fr fun d fr2 => asB d fr2 fun k fr3 => .ok k fr3) (fun fr1 => exs E.T tB fr1) m fr).all (okS E tp F' io' D),
    ⟨n, fr, F, io, hl, Same.refl _, Pre.refl _, w, hn⟩, ?_⟩
  rintro m σ1 H1 ⟨fr1, F1, io1, hl1, s1, p1, w1, h1⟩
  cases m with
  | zero => unfold whilN at h1; exact h1.elim
  | succ m =>
    unfold whilN at h1
    have h2 := Rs.all_toS h1
    have h3 : ((ev E.T tc fr1).fr fun d fr2 => asB d fr2 fun k fr3 => Rs.ok k fr3).all _ (exE E σ1 tp F1 io1) := Rs.all_imp h2 (fun _ _ z => z) fun _ _ _ z => okS.exE hl1 z
    refine hc.test hl1 w1 h3 fun t fr2 H2 F2 io2 s2 p2 w2 z => ?_
    cases t with
    | false =>
      have z : (okS E tp F1 io1 D).next fr2 := z
      exact z σ1 H2 F2 io2 hl1 s2 p2 w2
    | true =>
      have z' : ((match exs E.T tB fr2 with
        | .next fr3 => whilN (fun fr1 => (ev E.T tc fr1).fr fun d fr2 => asB d fr2 fun k fr3 => .ok k fr3) (fun fr1 => exs E.T tB fr1) m fr3
        | .cont fr3 => whilN (fun fr1 => (ev E.T tc fr1).fr fun d fr2 => asB d fr2 fun k fr3 => .ok k fr3) (fun fr1 => exs E.T tB fr1) m fr3
        | .brk fr3 => .next fr3
        | r => r) : Sx).all (okS E tp F1 io1 D) := z
      rw [if_pos rfl]
      have s12 : Same F F2 := s1.trans s2
      have p12 : Pre io io2 := p1.trans p2
      refine ⟨fun σ' H' => ∃ fr F' io', σ'.length = E.X.N.length ∧ Same F F' ∧ Pre io io' ∧ E.ws fr (σ' ++ tp) H' F' io' ∧ (whilN (fun fr1 => (ev E.T tc fr1).fr fun d fr2 => asB d fr2 fun k fr3 => .ok k fr3) (fun fr1 => exs E.T tB fr1) m fr).all (okS E tp F' io' D),
        fun σ' H' q => ⟨m, Nat.lt_succ_self m, q⟩, ?_⟩
      refine hB fr2 σ1 tp H2 F2 io2 _ hl1 w2 ?_
      have z2 := okS.mono s2 p2 z'
      clear z z'
      cases q : exs E.T tB fr2 with
      | next fr3 => rw [q] at z2; exact fun σ3 H3 F3 io3 l3 s3 p3 w3 => ⟨fr3, F3, io3, l3, s12.trans s3, p12.trans p3, w3, okS.mono s3 p3 z2⟩
      | cont fr3 => rw [q] at z2; exact fun σ3 H3 F3 io3 l3 s3 p3 w3 => ⟨fr3, F3, io3, l3, s12.trans s3, p12.trans p3, w3, okS.mono s3 p3 z2⟩
      | brk fr3 => rw [q] at z2; exact z2
      | ret o fr3 => rw [q] at z2; exact z2
      | exc c fs fr3 => rw [q] at z2; exact z2
      | bad => rw [q] at z2; exact z2))) Xq9.mk
/-- what a for walks -/
def wI (X : Cx) (tg iter : Expr) : TI := fun σ H R => ∀ (pins : List (Addr × Obj)) (s : Shared), Inv X pins σ H s → wpAny (model X.prog X.w) X.A (eval iter X.env) (fun v s1 => wpAny (model X.prog X.w) X.A (pyIter v) (PIE X pins σ tg R) X.xe s1) X.xe s
theorem pi_w {X : Cx} {tg iter : Expr} : PI X tg iter (wI X tg iter) := ⟨fun pins s σ H R I h => h pins s I⟩
theorem wI_of {X : Cx} {tg iter : Expr} {wi : TI} {σ : St} {H : Hp} {R : It → Hp → Prop} (h : PI X tg iter wi) (q : wi σ H R) : wI X tg iter σ H R := fun pins s I => h.run pins s σ H R I q
/-- a turn's thing: a part of F, or a new tuple of such -/
def YD (G : Glb) (F : Hp) (io : List Addr) (H : Hp) (v : V) (H' : Hp) (x : Ag.D) : Prop :=
  (H' = H ∧ Rep G F io x v) ∨ ∃ p vs ds, H p = none ∧ H' = upd H p (.tup vs) ∧ v = .ref p ∧ x = .tup ds ∧ Reps G F io ds vs
def WalkD (G : Glb) (J : It) (xs : List Ag.D) (F : Hp) (io : List Addr) : Prop := Walk J xs.length (fun H => Same F H) fun i H v H' => ∃ x, xs[i]? = some x ∧ YD G F io H v H' x
theorem YD.use {G : Glb} {H0 : Ent} {n0 : Nat} {ρ : St} {F0 : Hp} {io0 : List Addr} {H' : Hp} {v : V} {x : Ag.D} (y : YD G F0 io0 H v H' x) (s : Same F0 F) (p : Pre io0 io) (w : Ws G H0 n0 fr ρ H F io) : ∃ F', Same F F' ∧ Ws G H0 n0 fr ρ H' F' io ∧ Rep G F' io x v := @Rq9 _ _ (fun qz => @Hq9.get _ _ (qz.bar : Hq9 _ (by
  clear qz
  rcases y with ⟨rfl, r⟩ | ⟨q, vs, ds, hq, rfl, rfl, rfl, r⟩
  · exact ⟨F, Same.refl _, w, r.mono s p⟩
  · exact w.newTup hq (r.mono s p)))) Xq9.mk
def SI (E : En) (tg iter : Expr) (it : Iter) : Prop := ∀ (fr : Fr) (σ tp : St) (H F : Hp) (io : List Addr) (R : It → Hp → Prop), σ.length = E.X.N.length → E.ws fr (σ ++ tp) H F io →
  (evi E.T it fr).all (fun xs fr1 => ∀ J H1 F1 io1, Same F F1 → Pre io io1 → E.ws fr1 (σ ++ tp) H1 F1 io1 → WalkD E.G J xs F1 io1 → R J H1) (exE E σ tp F io) → wI E.X tg iter σ H R
theorem SS_for (ok : E.Ok) (hp : PassesOwn (model E.X.prog E.X.w) E.X.A E.X.env E.X.xe) {tg iter : Expr} {g : Tg} {it : Iter} {B : List Stmt} {tB : List Stm} (hi : SI E tg iter it) (hg : SG E tg g) (hB : SSs E B tB) (hs : ∀ x, foldedSetIterable iter E.X.env x = pure x) :
    SS E (.For tg iter B [] pos) (.for_ g it tB) := @Rq9 _ _ (fun qz => @Hq9.get _ _ (qz.bar : Hq9 _ (by
  clear qz
  intro fr σ tp H F io D hl w h
  refine wS_of (ps_for hp ok.calm pi_w pg_w pss_w hs) ?_
  unfold ex at h
  refine hi fr σ tp H F io _ hl w (Rs.all_imp (Rs.all_toS h) (fun xs fr1 z => ?_) fun _ _ _ z => okS.exE hl z)
  intro J H1 F1 io1 s1 p1 w1 wd
  refine for_it (w := wd) (fun i σ H => ∃ fr F' io', σ.length = E.X.N.length ∧ Same F1 F' ∧ Pre io1 io' ∧ E.ws fr (σ ++ tp) H F' io' ∧ (forGo (bindT g) (fun fr2 => exs E.T tB fr2) (xs.drop i) fr).all (okS E tp F' io' D))
    ⟨fr1, F1, io1, hl, Same.refl _, Pre.refl _, w1, by simpa using okS.mono s1 p1 z⟩ (fun i σ H _ ⟨fr, F', io', _, s, _, w, _⟩ => s.trans w.wr.sub) ?_ ?_
  · rintro i v σ2 H2 H3 hlt ⟨fr2, F2, io2, l2, s2, p2, w2, h2⟩ ⟨x, ex, y⟩
    obtain ⟨F3, s3, w3, r3⟩ := y.use s2 p2 w2
    have ed : xs.drop i = x :: xs.drop (i + 1) := by
      obtain ⟨hlt', e⟩ := List.getElem?_eq_some_iff.mp ex
      rw [← e]; exact List.drop_eq_getElem_cons hlt'
    rw [ed] at h2
    unfold forGo at h2
    cases q : bindT g x fr2 with
    | none => rw [q] at h2; exact h2.elim
    | some fr3 =>
      rw [q] at h2
      refine hg fr2 fr3 σ2 tp H3 F3 io2 x v _ l2 w3 r3 q fun σ3 l3 w4 _ => ?_
      refine hB fr3 σ3 tp H3 F3 io2 _ l3 w4 ?_
      have h3 := okS.mono s3 (Pre.refl _) h2
      have s23 := s2.trans s3
      cases q2 : exs E.T tB fr3 with
      | next fr5 => simp only [q2] at h3; exact fun σ5 H5 F5 io5 l5 s5 p5 w5 => ⟨fr5, F5, io5, l5, s23.trans s5, p2.trans p5, w5, okS.mono s5 p5 h3⟩
      | cont fr5 => simp only [q2] at h3; exact fun σ5 H5 F5 io5 l5 s5 p5 w5 => ⟨fr5, F5, io5, l5, s23.trans s5, p2.trans p5, w5, okS.mono s5 p5 h3⟩
      | brk fr5 => simp only [q2] at h3; exact h3
      | ret o fr5 => simp only [q2] at h3; exact h3
      | exc c fs fr5 => simp only [q2] at h3; exact h3
      | bad => simp only [q2] at h3; exact h3
  · rintro σ2 H2 ⟨fr2, F2, io2, l2, s2, p2, w2, h2⟩
    rw [List.drop_length] at h2
    unfold forGo at h2
    exact h2 σ2 H2 F2 io2 l2 (Same.refl _) (Pre.refl _) w2))) Xq9.mk
end
end Ag
namespace Ag
open PySem PySem.Spec L2
section
variable {X : Cx} {pins : List (Addr × Obj)} {σ : St} {H : Hp} {s : Shared} {a : Addr} {tg : Expr} {R : It → Hp → Prop}
theorem iter_list (I : Inv X pins σ H s) {xs : List V} (hq : SqL X.K H a xs) (q : R (Itl X.K a) H) : wpAny (model X.prog X.w) X.A (pyIter (.ref a)) (PIE X pins σ tg R) X.xe s := @Rq9 _ _ (fun qz => @Hq9.get _ _ (qz.bar : Hq9 _ (by
  clear qz
  obtain ⟨its, rv, p, hz⟩ := I.list hq
  refine wpAny_pyIter_list p.isList ?_
  refine ⟨s.heap.objs.size, [s.heap.objs.size], _, _, H, rfl, I.kept (t' := s.toks) fun b o e => Heap.get?_push_of_some _ e, turn_list a _, ⟨_, Heap.get?_push_size _ rfl, rfl, rfl⟩, fun b hb => ?_, q⟩
  have e : b = s.heap.objs.size := by simpa using hb
  subst e
  exact I.fpOk (Nat.le_refl _) (I.hok.fresh (Nat.le_refl _))))) Xq9.mk
theorem iter_tup (I : Inv X pins σ H s) {xs : List V} (hq : SqT X.K H a xs) (q : R (Itt X.K a) H) : wpAny (model X.prog X.w) X.A (pyIter (.ref a)) (PIE X pins σ tg R) X.xe s := @Rq9 _ _ (fun qz => @Hq9.get _ _ (qz.bar : Hq9 _ (by
  clear qz
  obtain ⟨its, rv, p, hz⟩ := I.tuple hq
  refine wpAny_pyIter_tuple (show s.heap.IsTuple a its.toArray from p) ?_
  refine ⟨s.heap.objs.size, [s.heap.objs.size], _, _, H, rfl, I.kept (t' := s.toks) fun b o e => Heap.get?_push_of_some _ e, turn_tuple a _, ⟨_, Heap.get?_push_size _ rfl, rfl, rfl⟩, fun b hb => ?_, q⟩
  have e : b = s.heap.objs.size := by simpa using hb
  subst e
  exact I.fpOk (Nat.le_refl _) (I.hok.fresh (Nat.le_refl _))))) Xq9.mk
end
section
variable {E : En} {e a b c : Expr} {ta tb tc : Tm} {fr : Fr} {σ tp : St} {H F : Hp} {io : List Addr} {Q : VK} {pos : Pos} {es : List Expr} {ts : List Tm} {D : Ends}
theorem walkL {G : Glb} {p : Addr} {vs : List V} {xs : List Ag.D} (h : F p = some (.lst vs)) (r : Reps G F io xs vs) : WalkD G (Itl G.K p) xs F io := @Rq9 _ _ (fun qz => @Hq9.get _ _ (qz.bar : Hq9 _ (by
  clear qz
  have w := walk_list (K := G.K) (a := p) (xs := vs)
  refine ⟨fun i H hi s => w.goes i H (by rw [← r.length]; exact hi) (SqL.of (s _ _ h)), fun H s => by rw [r.length]; exact w.stops H (SqL.of (s _ _ h)), fun i H x H' hi s y => ?_⟩
  obtain ⟨e1, e2⟩ := w.yields i H x H' (by rw [← r.length]; exact hi) (SqL.of (s _ _ h)) y
  obtain ⟨u, g1, g2⟩ := r.get (List.getElem?_eq_getElem hi)
  rw [e2] at g1; cases g1
  exact ⟨_, List.getElem?_eq_getElem hi, .inl ⟨e1, g2⟩⟩))) Xq9.mk
theorem walkT {G : Glb} {p : Addr} {vs : List V} {xs : List Ag.D} (h : SqT G.K F p vs) (r : Reps G F io xs vs) : WalkD G (Itt G.K p) xs F io := @Rq9 _ _ (fun qz => @Hq9.get _ _ (qz.bar : Hq9 _ (by
  clear qz
  have w := walk_tup (K := G.K) (a := p) (xs := vs)
  refine ⟨fun i H hi s => w.goes i H (by rw [← r.length]; exact hi) (Same.sqT s h), fun H s => by rw [r.length]; exact w.stops H (Same.sqT s h), fun i H x H' hi s y => ?_⟩
  obtain ⟨e1, e2⟩ := w.yields i H x H' (by rw [← r.length]; exact hi) (Same.sqT s h) y
  obtain ⟨u, g1, g2⟩ := r.get (List.getElem?_eq_getElem hi)
  rw [e2] at g1; cases g1
  exact ⟨_, List.getElem?_eq_getElem hi, .inl ⟨e1, g2⟩⟩))) Xq9.mk
theorem SI_seq (ok : E.Ok) {tg : Expr} (ha : SE E a ta) : SI E tg a (.seq ta) := @Rq9 _ _ (fun qz => @Hq9.get _ _ (qz.bar : Hq9 _ (by
  clear qz
  intro fr σ tp H F io R hl w h
  unfold evi at h
  have hw : wE E.X a σ H fun v H1 => (∃ p xs, v = .ref p ∧ SqL E.X.K H1 p xs ∧ R (Itl E.X.K p) H1) ∨ (∃ p xs, v = .ref p ∧ SqT E.X.K H1 p xs ∧ R (Itt E.X.K p) H1) := by
    refine ha.part hl w h fun d fr1 v H1 F1 io1 s p w1 r z => ?_
    cases d with
    | lst xs =>
      cases r with
      | lst h1 r1 => exact .inl ⟨_, _, rfl, SqL.of (w1.wr.sub _ _ h1), ok.k ▸ z _ H1 F1 io1 s p w1 (walkL h1 r1)⟩
    | tup xs =>
      cases r with
      | tup h1 r1 => exact .inr ⟨_, _, rfl, ok.k ▸ Same.sqT w1.wr.sub h1, ok.k ▸ z _ H1 F1 io1 s p w1 (walkT h1 r1)⟩
    | _ => exact z.elim
  intro pins s I
  refine thn (hw pins s I) fun v s1 ⟨x, H1, I1, rx, q⟩ => ?_
  rcases q with ⟨p, xs, rfl, h1, q⟩ | ⟨p, xs, rfl, h1, q⟩
  · obtain rfl : v = Value.ref p := rx
    exact iter_list I1 h1 q
  · obtain rfl : v = Value.ref p := rx
    exact iter_tup I1 h1 q))) Xq9.mk
theorem range_get {lo : Int} {n i : Nat} (h : i < n) : (rangeD lo n)[i]? = some (.int (lo + (i : Int))) := @Rq9 _ _ (fun qz => @Hq9.get _ _ (qz.bar : Hq9 _ (by
  clear qz
  unfold rangeD
  rw [List.getElem?_map, List.getElem?_range h]; rfl))) Xq9.mk
theorem range_len {lo : Int} {n : Nat} : (rangeD lo n).length = n := by unfold rangeD; rw [List.length_map, List.length_range]
theorem walkR {G : Glb} {lo : Int} {n : Nat} : WalkD G (Itr lo n) (rangeD lo n) F io := @Rq9 _ _ (fun qz => @Hq9.get _ _ (qz.bar : Hq9 _ (by
  clear qz
  have w := walk_range (lo := lo) (n := n)
  refine ⟨fun i H hi s => w.goes i H (by rw [range_len] at hi; exact hi) trivial, fun H s => by rw [range_len]; exact w.stops H trivial, fun i H x H' hi s y => ?_⟩
  rw [range_len] at hi
  obtain ⟨e1, e2⟩ := w.yields i H x H' hi trivial y
  refine ⟨_, range_get hi, .inl ⟨e1, ?_⟩⟩
  rw [e2]; exact .int _))) Xq9.mk
theorem SI_range1 (ok : E.Ok) {tg : Expr} {p : Pos} (hg : Gl E.X "range") (hm : E.X.mg "range" = none) (hs : notStar a = true) (ha : SE E a ta) : SI E tg (.Call (.Name "range" p) [a] [] pos) (.range1 ta) := @Rq9 _ _ (fun qz => @Hq9.get _ _ (qz.bar : Hq9 _ (by
  clear qz
  intro fr σ tp H F io R hl w h
  refine wI_of (pi_range1 hg hm (pa_cons pe_w pa_nil (star_ne hs _ _)) (star_ne hs _ _)) ?_
  unfold evi at h
  show wE E.X a σ H _
  refine ha.part hl w h fun d fr1 v H1 F1 io1 s p w1 r z => ?_
  cases d with
  | int n =>
    cases r
    have z : ((if n < 2 ^ 62 ∧ -(2 ^ 62) < n then Rs.ok (rangeD 0 n.toNat) fr1 else .bad : Rs (List Ag.D))).all _ (exE E σ tp F1 io1) := z
    split at z
    case isFalse => exact z.elim
    rename_i hz
    exact ⟨n, rfl, by omega, by omega, z _ H1 F1 io1 s p w1 walkR⟩
  | _ => exact z.elim))) Xq9.mk
theorem SI_range2 (ok : E.Ok) {tg : Expr} {p : Pos} (hg : Gl E.X "range") (hm : E.X.mg "range" = none) (hs : notStar a = true) (hs2 : notStar b = true) (ha : SE E a ta) (hb : SE E b tb) : SI E tg (.Call (.Name "range" p) [a, b] [] pos) (.range2 ta tb) := @Rq9 _ _ (fun qz => @Hq9.get _ _ (qz.bar : Hq9 _ (by
  clear qz
  intro fr σ tp H F io R hl w h
  refine wI_of (pi_range2 hg hm (pa_cons pe_w (pa_cons pe_w pa_nil (star_ne hs2 _ _)) (star_ne hs _ _)) (by rw [star_ne hs, star_ne hs2]; rfl) (star_ne hs2 _ _)) ?_
  unfold evi at h
  show wE E.X a σ H fun x H1 => wE E.X b σ H1 fun y H2 => _
  refine ha.part hl w h fun d fr1 v H1 F1 io1 s1 p1 w1 r1 z => ?_
  refine hb.part hl w1 z fun d2 fr2 v2 H2 F2 io2 s2 p2 w2 r2 z2 => ?_
  cases d with
  | int i =>
    cases d2 with
    | int j =>
      cases r1
      cases r2
      have z2 : ((if -(2 ^ 62) < i ∧ i < 2 ^ 62 ∧ -(2 ^ 62) < j ∧ j < 2 ^ 62 then Rs.ok (rangeD i (j - i).toNat) fr2 else .bad : Rs (List Ag.D))).all _ (exE E σ tp F2 io2) := z2
      split at z2
      case isFalse => exact z2.elim
      rename_i hz
      exact ⟨i, j, rfl, ⟨by omega, by omega, by omega, by omega⟩, z2 _ H2 F2 io2 (s1.trans s2) (p1.trans p2) w2 walkR⟩
    | _ => exact z2.elim
  | _ => exact z2.elim))) Xq9.mk
end
end Ag
namespace Ag
open PySem PySem.Spec L2
/-! ### list comprehensions -/
theorem wipeE_len (env : List Slot) : ∀ vs : List Nat, (wipeE env vs).length = env.length
  | [] => rfl
  | v :: vs => by unfold wipeE; rw [List.length_set, wipeE_len env vs]
theorem wipeE_out {env : List Slot} {i : Nat} : ∀ {vs : List Nat}, i ∉ vs → (wipeE env vs)[i]? = env[i]?
  | [], _ => rfl
  | v :: vs, h => by
    rw [List.mem_cons, not_or] at h
    unfold wipeE
    rw [List.getElem?_set_ne (fun z => h.1 z.symm), wipeE_out h.2]
theorem wipeE_in {env : List Slot} {i : Nat} (hi : i < env.length) : ∀ {vs : List Nat}, i ∈ vs → (wipeE env vs)[i]? = some .un
  | v :: vs, h => by
    unfold wipeE
    by_cases q : v = i
    · subst q
      rw [List.getElem?_set_self (by rw [wipeE_len]; exact hi)]
    · rw [List.getElem?_set_ne q]
      exact wipeE_in hi ((List.mem_cons.mp h).resolve_left fun z => q z.symm)
theorem backE_len (old env : List Slot) : ∀ vs : List Nat, (backE old env vs).length = env.length
  | [] => rfl
  | v :: vs => by unfold backE; rw [List.length_set, backE_len old env vs]
theorem backE_out {old env : List Slot} {i : Nat} : ∀ {vs : List Nat}, i ∉ vs → (backE old env vs)[i]? = env[i]?
  | [], _ => rfl
  | v :: vs, h => by
    rw [List.mem_cons, not_or] at h
    unfold backE
    rw [List.getElem?_set_ne (fun z => h.1 z.symm), backE_out h.2]
theorem backE_in {old env : List Slot} {i : Nat} (hi : i < env.length) : ∀ {vs : List Nat}, i ∈ vs → (backE old env vs)[i]? = some (old.getD i .un)
  | v :: vs, h => by
    unfold backE
    by_cases q : v = i
    · subst q
      rw [List.getElem?_set_self (by rw [backE_len]; exact hi)]
    · rw [List.getElem?_set_ne q]
      exact backE_in hi ((List.mem_cons.mp h).resolve_left fun z => q z.symm)
theorem wipe_in {σ : St} {i : Nat} (hi : i < σ.length) : ∀ {vs : List Nat}, i ∈ vs → (wipe σ vs)[i]? = some none
  | v :: vs, h => by
    unfold wipe
    by_cases q : v = i
    · subst q
      rw [List.getElem?_set_self (by rw [wipe_length]; exact hi)]
    · rw [List.getElem?_set_ne q]
      exact wipe_in hi ((List.mem_cons.mp h).resolve_left fun z => q z.symm)
theorem wipe_app {σ tp : St} {i : Nat} {vs : List Nat} (h : i ∉ vs) : (wipe σ vs ++ tp)[i]? = (σ ++ tp)[i]? := @Rq9 _ _ (fun qz => @Hq9.get _ _ (qz.bar : Hq9 _ (by
  clear qz
  by_cases q : i < σ.length
  · rw [List.getElem?_append_left (by rw [wipe_length]; exact q), List.getElem?_append_left q, wipe_out h]
  · rw [List.getElem?_append_right (by rw [wipe_length]; omega), List.getElem?_append_right (by omega), wipe_length]))) Xq9.mk
theorem wipe_same {σ σ' : St} {vs : List Nat} (hl : σ'.length = σ.length) (h : ∀ i, i ∉ vs → σ'[i]? = σ[i]?) : wipe σ' vs = wipe σ vs := @Rq9 _ _ (fun qz => @Hq9.get _ _ (qz.bar : Hq9 _ (by
  clear qz
  refine List.ext_getElem? fun i => ?_
  by_cases q : i ∈ vs
  · by_cases hi : i < σ.length
    · rw [wipe_in hi q, wipe_in (by omega) q]
    · rw [List.getElem?_eq_none (by rw [wipe_length]; omega), List.getElem?_eq_none (by rw [wipe_length]; omega)]
  · rw [wipe_out q, wipe_out q, h i q]))) Xq9.mk
section
variable {G : Glb} {H0 : Ent} {n0 : Nat} {fr fr1 fr2 : Fr} {σ tp : St} {H H1 F F1 F2 : Hp} {io io1 io2 : List Addr} {vs : List Nat}
theorem ws_wipe (w : Ws G H0 n0 fr (σ ++ tp) H F io) (hv : ∀ i ∈ vs, i < σ.length) : Ws G H0 n0 { fr with env := wipeE fr.env vs } (wipe σ vs ++ tp) H F io := @Rq9 _ _ (fun qz => @Hq9.get _ _ (qz.bar : Hq9 _ (by
  clear qz
  have hlen : fr.env.length = σ.length + tp.length := by rw [w.sl.len, List.length_append]
  have un : ∀ {i : Nat} {s : Slot}, (wipeE fr.env vs)[i]? = some s → i ∈ vs → s = .un := fun {i s} e q => by
    rw [wipeE_in (by have := hv i q; omega) q] at e
    cases e; rfl
  refine ⟨w.wr, by show (wipeE fr.env vs).length = _; rw [wipeE_len, List.length_append, wipe_length]; exact hlen, fun i s e => ?_, fun i j xs ys p e1 e2 h1 h2 => ?_⟩
  · by_cases q : i ∈ vs
    · rw [un e q]; trivial
    · rw [wipe_app q]
      exact w.sl.at_ i s (by rw [← wipeE_out q]; exact e)
  · have q1 : i ∉ vs := fun q => by cases un e1 q
    have q2 : j ∉ vs := fun q => by cases un e2 q
    rw [wipe_app q1] at h1
    rw [wipe_app q2] at h2
    exact w.sl.dis i j xs ys p (by rw [← wipeE_out q1]; exact e1) (by rw [← wipeE_out q2]; exact e2) h1 h2))) Xq9.mk
theorem free_at (h : ownFree fr.env vs = true) {i : Nat} (hi : i ∈ vs) {xs : List D} (e : fr.env[i]? = some (.own xs)) : False := @Rq9 _ _ (fun qz => @Hq9.get _ _ (qz.bar : Hq9 _ (by
  clear qz
  unfold ownFree at h
  have := List.all_eq_true.mp h i hi
  rw [e] at this
  cases this))) Xq9.mk
theorem ws_back {x : Option V} (w1 : Ws G H0 n0 fr1 (σ ++ tp) H1 F1 io1) (free : ownFree fr1.env vs = true) (w2 : Ws G H0 n0 { fr2 with env := wipeE fr2.env vs } (wipe σ vs ++ (tp ++ [x])) H F2 io2) (s : Same F1 F2) (p : Pre io1 io2) (hv : ∀ i ∈ vs, i < σ.length) :
    Ws G H0 n0 { fr2 with env := backE fr1.env (fr2.env.take fr1.env.length) vs } (σ ++ tp) H F2 io2 := by
  have hlen : fr1.env.length = σ.length + tp.length := by rw [w1.sl.len, List.length_append]
  have hl2 : fr2.env.length = σ.length + tp.length + 1 := by
    have : (wipeE fr2.env vs).length = _ := w2.sl.len
    rw [wipeE_len, List.length_append, wipe_length, List.length_append] at this
    simp at this
    omega
  have tl : (fr2.env.take fr1.env.length).length = σ.length + tp.length := by rw [List.length_take]; omega
  have inn : ∀ {i : Nat} {sl : Slot}, (backE fr1.env (fr2.env.take fr1.env.length) vs)[i]? = some sl → i ∈ vs → fr1.env[i]? = some sl := fun {i sl} e q => by
    have hi := hv i q
    rw [backE_in (by omega) q] at e
    cases e
    rw [List.getD_eq_getElem?_getD, List.getElem?_eq_getElem (by omega)]; rfl
  have out : ∀ {i : Nat} {sl : Slot}, (backE fr1.env (fr2.env.take fr1.env.length) vs)[i]? = some sl → i ∉ vs → (wipeE fr2.env vs)[i]? = some sl ∧ (wipe σ vs ++ (tp ++ [x]))[i]? = (σ ++ tp)[i]? := fun {i sl} e q => by
    rw [backE_out q, List.getElem?_take] at e
    split at e
    · rename_i hlt
      refine ⟨by rw [wipeE_out q]; exact e, ?_⟩
      rw [wipe_app q, ← List.append_assoc, List.getElem?_append_left (by rw [List.length_append]; omega)]
    · cases e
  refine ⟨w2.wr, by show (backE fr1.env (fr2.env.take fr1.env.length) vs).length = _; rw [backE_len, tl, List.length_append], fun i sl e => ?_, fun i j xs ys q e1 e2 h1 h2 => ?_⟩
  · by_cases q : i ∈ vs
    · have e1 := inn e q
      have k := w1.sl.at_ i sl e1
      cases sl with
      | un => trivial
      | val d => obtain ⟨v, k1, r⟩ := k; exact ⟨v, k1, r.mono s p⟩
      | own xs => exact (free_at free q e1).elim
    · obtain ⟨e1, e2⟩ := out e q
      rw [← e2]
      exact w2.sl.at_ i sl e1
  · have q1 : i ∉ vs := fun q => free_at free q (inn e1 q)
    have q2 : j ∉ vs := fun q => free_at free q (inn e2 q)
    obtain ⟨a1, b1⟩ := out e1 q1
    obtain ⟨a2, b2⟩ := out e2 q2
    rw [← b1] at h1
    rw [← b2] at h2
    exact w2.sl.dis i j xs ys q a1 a2 h1 h2
end
theorem calm_all {α β : Type} {m : Rs α} {k : α → Fr → Rs β} {P : β → Fr → Prop} {PX PX' : Nat → List D → Fr → Prop} (h : (m.calm.bind k).all P PX) : m.all (fun a fr => (k a fr).all P PX) PX' := @Rq9 _ _ (fun qz => @Hq9.get _ _ (qz.bar : Hq9 _ (by
  clear qz
  cases m with
  | ok a fr => exact h
  | exc c fs fr => exact h.elim
  | bad => exact h.elim))) Xq9.mk
def En.blk (E : En) (s : Shared) (H : Hp) (scope : Scope) (C : Addr) (cl : List (Str × Addr)) (fp : List Addr) : En :=
  { E with X := E.X.blk s H scope (compEnvC scope cl C E.X.env) fp, W := fun _ _ _ _ => False }
theorem En.Ok.blk {E : En} (ok : E.Ok) (s : Shared) (H : Hp) (scope : Scope) (C : Addr) (cl : List (Str × Addr)) (fp : List Addr) : (E.blk s H scope C cl fp).Ok :=
  ⟨ok.k, ok.nd, ok.calm, ok.hu5, fun u s' ⟨a, B, sI, pins, σ, H, cls, d, e, I, nb, up, sky, na, os, ag, w⟩ => w, ok.inj, ok.fld⟩
/-- a clause's tests, the weakest reading -/
def wTs (X : Cx) (ifs : List Expr) : TT := fun σ H Q => ∀ (pins : List (Addr × Obj)) (s : Shared), Inv X pins σ H s →
  wpAny (model X.prog X.w) X.A (forIn ifs true fun c r => if r = true then do let ok ← isTrue c X.env (eval c X.env); pure (ForInStep.yield ok) else pure (ForInStep.yield r)) (TP X pins σ Q) X.xe s
def SCs (E : En) (ifs : List Expr) (tc : Option Tm) : Prop := ∀ (fr : Fr) (σ tp : St) (H F : Hp) (io : List Addr) (Q : Bool → Hp → Prop) (P1 : Bool → Fr → Prop), σ.length = E.X.N.length → E.ws fr (σ ++ tp) H F io →
  (evc E.T tc fr).all P1 (fun _ _ _ => False) → (∀ b fr1 H1 F1 io1, Same F F1 → Pre io io1 → E.ws fr1 (σ ++ tp) H1 F1 io1 → P1 b fr1 → Q b H1) → wTs E.X ifs σ H Q
theorem scs_nil {E : En} : SCs E [] none := fun fr σ tp H F io Q P1 hl w h q pins s I =>
  (pts_nil (X := E.X)).run pins s σ H Q I (q true fr H F io (Same.refl _) (Pre.refl _) w (by unfold evc at h; exact h))
theorem scs_one {E : En} {c : Expr} {t : Tm} (hc : ST E c t) : SCs E [c] (some t) := fun fr σ tp H F io Q P1 hl w h q pins s I => by
  refine (pts_one pt_w).run pins s σ H Q I ?_
  unfold evc at h
  exact hc.test hl w (P := P1) (Rs.all_imp h (fun _ _ z => z) fun _ _ _ z => z.elim) fun t fr1 H1 F1 io1 s p w1 z => q t fr1 H1 F1 io1 s p w1 z
def wGB (X : Cx) (scope : Scope) (tg : Expr) : TG := fun v σ H Q => ∀ s0 H0 C cl fp, wG (X.blk s0 H0 scope (compEnvC scope cl C X.env) fp) tg v σ H Q
def wTB (X : Cx) (scope : Scope) (ifs : List Expr) : TT := fun σ H Q => ∀ s0 H0 C cl fp, wTs (X.blk s0 H0 scope (compEnvC scope cl C X.env) fp) ifs σ H Q
def wEB (X : Cx) (scope : Scope) (e : Expr) : TE := fun σ H Q => ∀ s0 H0 C cl fp, wE (X.blk s0 H0 scope (compEnvC scope cl C X.env) fp) e σ H Q
theorem comp_tLc {E : En} (ok : E.Ok) {elt tg iter : Expr} {ifs : List Expr} {scope : Scope} {own : List (Str × Nat)} {g : Tg} {it : Iter} {tc : Option Tm} {telt : Tm} (hb : BlkOk E.X.N E.X.env.scope scope own) (hi : SI E tg iter it)
    (hgx : ∀ i ∈ tgIx g, i ∈ own.map (·.2)) (hg : ∀ s H C cl fp, SG (E.blk s H scope C cl fp) tg g) (hc : ∀ s H C cl fp, SCs (E.blk s H scope C cl fp) ifs tc) (he : ∀ s H C cl fp, SE (E.blk s H scope C cl fp) elt telt)
    {fr : Fr} {σ tp : St} {H F : Hp} {io : List Addr} {Q : VK} (hl : σ.length = E.X.N.length) (w : E.ws fr (σ ++ tp) H F io) (h : (ev E.T (.comp telt g it tc (own.map (·.2))) fr).all (okE E σ tp F io Q) (exE E σ tp F io)) :
    tLc (wI E.X tg iter) (wGB E.X scope tg) (wTB E.X scope ifs) (wEB E.X scope elt) (own.map (·.2)) σ H Q := @Rq9 _ _ (fun qz => @Hq9.get _ _ (qz.bar : Hq9 _ (by
  clear qz
  unfold ev at h
  have hv : ∀ i ∈ own.map (·.2), i < σ.length := fun i hi => by
    obtain ⟨p, hp, rfl⟩ := List.mem_map.mp hi
    rw [hl]
    exact (List.getElem?_eq_some_iff.mp (hb.ix p hp)).1
  generalize own.map (·.2) = vs at h hgx hv ⊢
  show wI E.X tg iter σ H _
  refine hi fr σ tp H F io _ hl w (Rs.all_imp (Rs.all_bind h) (fun xs fr1 z => ?_) fun _ _ _ z => z)
  intro J H1 F1 io1 s1 p1 w1 wd D hD
  have z : ((if ownFree fr1.env vs = true then _ else _) : Rs RV).all _ _ := z
  split at z
  case isFalse => exact z.elim
  rename_i free
  have z := Rs.all_bind z
  have hlen : fr1.env.length = σ.length + tp.length := by rw [w1.sl.len, List.length_append]
  have nv : fr1.env.length ∉ vs := fun q => by have := hv _ q; omega
  have atn : ∀ {σ' : St}, σ'.length = σ.length → (σ' ++ (tp ++ [some (V.ref D)]))[fr1.env.length]? = some (some (.ref D)) := fun {σ'} e => by
    rw [← List.append_assoc, List.getElem?_append_right (by rw [List.length_append]; omega)]
    rw [show fr1.env.length - (σ' ++ tp).length = 0 by rw [List.length_append]; omega]
    rfl
  refine ⟨fun i m Hc => i ≤ xs.length ∧ m = xs.length - i ∧ ∃ fr2 F2 io2, Same F1 F2 ∧ Pre io1 io2 ∧ E.ws { fr2 with env := wipeE fr2.env vs } (wipe σ vs ++ (tp ++ [some (V.ref D)])) Hc F2 io2 ∧
      (compGo fr1.env.length (bindT g) vs (fun fr2 => evc E.T tc fr2) (fun fr2 => (ev E.T telt fr2).fr fun d fr3 => .ok d fr3) (xs.drop i) fr2).all
        (fun _ fr3 => ((match fr3.env[fr1.env.length]? with | some (.own acc) => .ok (.out (.fresh acc)) { fr3 with env := backE fr1.env (fr3.env.take fr1.env.length) vs } | _ => .bad) : Rs RV).all (okE E σ tp F io Q) (exE E σ tp F io)) (exE E σ tp F io),
    ⟨xs.length, Nat.zero_le _, rfl, { fr1 with env := fr1.env ++ [.own []] }, F1, io1, Same.refl _, Pre.refl _, ?_, z⟩, ?_⟩
  · obtain ⟨w2, rv⟩ := w1.newOwn hD (xs := []) .nil
    have w3 := w2.keepT rv
    rw [List.append_assoc] at w3
    exact ws_wipe w3 hv
  · rintro i m Hc ⟨hile, rfl, fr2, F2, io2, s2, p2, w2, hgo⟩
    have sub : Same F1 Hc := s2.trans w2.wr.sub
    by_cases q : i < xs.length
    · refine .inr ⟨wd.goes i Hc q sub, fun H' => i + 1 ≤ xs.length ∧ ∃ fr2 F2 io2, Same F1 F2 ∧ Pre io1 io2 ∧ E.ws { fr2 with env := wipeE fr2.env vs } (wipe σ vs ++ (tp ++ [some (V.ref D)])) H' F2 io2 ∧
        (compGo fr1.env.length (bindT g) vs (fun fr2 => evc E.T tc fr2) (fun fr2 => (ev E.T telt fr2).fr fun d fr3 => .ok d fr3) (xs.drop (i + 1)) fr2).all
        (fun _ fr3 => ((match fr3.env[fr1.env.length]? with | some (.own acc) => .ok (.out (.fresh acc)) { fr3 with env := backE fr1.env (fr3.env.take fr1.env.length) vs } | _ => .bad) : Rs RV).all (okE E σ tp F io Q) (exE E σ tp F io)) (exE E σ tp F io),
        fun H' nx => ⟨xs.length - (i + 1), by omega, nx.1, rfl, nx.2⟩, fun x H' y => ?_⟩
      obtain ⟨d, ed, yd⟩ := wd.yields i Hc x H' q sub y
      obtain ⟨F3, s3, w3, r3⟩ := yd.use s2 p2 w2
      have edr : xs.drop i = d :: xs.drop (i + 1) := by
        obtain ⟨hlt', e⟩ := List.getElem?_eq_some_iff.mp ed
        rw [← e]; exact List.drop_eq_getElem_cons hlt'
      rw [edr] at hgo
      unfold compGo at hgo
      cases eb : bindT g d { fr2 with env := wipeE fr2.env vs } with
      | none => rw [eb] at hgo; exact hgo.elim
      | some fr3 =>
        rw [eb] at hgo
        intro sa Ha Ca cla fpa
        refine hg sa Ha Ca cla fpa { fr2 with env := wipeE fr2.env vs } fr3 (wipe σ vs) (tp ++ [some (V.ref D)]) H' F3 io2 d x _ (by rw [wipe_length]; exact hl) w3 r3 eb fun σ3 l3 w4 k3 => ?_
        have l3' : σ3.length = σ.length := by rw [hl]; exact l3
        have we : wipe σ3 vs = wipe σ vs := wipe_same l3' fun j hj => by rw [k3 j (fun z => hj (hgx j z)), wipe_out hj]
        have hv3 : ∀ i ∈ vs, i < σ3.length := fun i hi => by rw [l3']; exact hv i hi
        have s23 := s2.trans s3
        refine ⟨we, ?_⟩
        intro sb Hb Cb clb fpb
        refine hc sb Hb Cb clb fpb fr3 σ3 (tp ++ [some (V.ref D)]) H' F3 io2 _ _ l3 w4 (calm_all hgo) fun b fr4 H4 F4 io4 s4 p4 w5 h5 => ?_
        cases b with
        | false =>
          have h5 : (compGo _ _ _ _ _ _ fr4).all _ _ := h5
          rw [if_neg (by decide)]
          exact ⟨q, fr4, F4, io4, s23.trans s4, p2.trans p4, by rw [← we]; exact ws_wipe w5 hv3, h5⟩
        | true =>
          have h5 : (((ev E.T telt fr4).fr fun d fr3 => Rs.ok d fr3).calm.bind _).all _ _ := h5
          rw [if_pos rfl]
          intro sc Hc2 Cc clc fpc
          refine (he sc Hc2 Cc clc fpc).part l3 w5 (calm_all h5) fun d5 fr5 v H5 F5 io5 s5 p5 w6 r5 h6 => ?_
          have h6 : ((match fr5.env[fr1.env.length]? with
            | some (.own acc) => if acc.length < sizeLine then compGo fr1.env.length (bindT g) vs (fun fr2 => evc E.T tc fr2) (fun fr2 => (ev E.T telt fr2).fr fun d fr3 => .ok d fr3) (xs.drop (i + 1)) { fr5 with env := fr5.env.set fr1.env.length (.own (acc ++ [d5])) } else .bad
            | _ => .bad) : Rs Unit).all _ _ := h6
          cases e5 : fr5.env[fr1.env.length]? with
          | none => rw [e5] at h6; exact h6.elim
          | some sl =>
            rw [e5] at h6
            cases sl with
            | un => exact h6.elim
            | val d => exact h6.elim
            | own acc =>
              obtain ⟨pp, e6, us, g1, g2, g3, g4, g5⟩ := w6.sl.at_ _ _ e5
              rw [atn l3'] at e6
              cases e6
              have h6 : ((if acc.length < sizeLine then _ else _) : Rs Unit).all _ _ := h6
              split at h6
              case isFalse => exact h6.elim
              rename_i hz
              refine ⟨us, g1, by rw [← g5.length]; exact hz, q, _, F5, io5, (s23.trans s4).trans s5, (p2.trans p4).trans p5, ?_, h6⟩
              have w7 := w6.ownPut e5 (atn l3') (g5.append (.cons r5 .nil))
              rw [← we]
              exact ws_wipe w7 hv3
    · have hie : i = xs.length := by omega
      subst hie
      refine .inl ⟨wd.stops Hc sub, ?_⟩
      rw [List.drop_length] at hgo
      unfold compGo at hgo
      have hgo : ((match fr2.env[fr1.env.length]? with | some (.own acc) => .ok (.out (.fresh acc)) { fr2 with env := backE fr1.env (fr2.env.take fr1.env.length) vs } | _ => .bad) : Rs RV).all (okE E σ tp F io Q) (exE E σ tp F io) := hgo
      cases e5 : fr2.env[fr1.env.length]? with
      | none => rw [e5] at hgo; exact hgo.elim
      | some sl =>
        rw [e5] at hgo
        cases sl with
        | un => exact hgo.elim
        | val d => exact hgo.elim
        | own acc =>
          have hgo : okE E σ tp F io Q (.out (.fresh acc)) { fr2 with env := backE fr1.env (fr2.env.take fr1.env.length) vs } := hgo
          have e6 : (wipeE fr2.env vs)[fr1.env.length]? = some (.own acc) := by rw [wipeE_out nv]; exact e5
          obtain ⟨pp, e7, own'⟩ := w2.sl.at_ _ _ e6
          rw [atn (wipe_length _ _)] at e7
          cases e7
          have w8 := ws_back w1 free w2 s2 p2 hv
          refine hgo (.ref D) Hc F2 io2 (s1.trans s2) (p1.trans p2) w8 ⟨D, rfl, own', fun j ys e hj => ?_⟩
          have hlt : j < fr1.env.length := by
            have := (List.getElem?_eq_some_iff.mp e).1
            have e : (backE fr1.env (fr2.env.take fr1.env.length) vs)[j]? = some (.own ys) := e
            have := (List.getElem?_eq_some_iff.mp e).1
            rw [backE_len, List.length_take] at this
            omega
          have e : (backE fr1.env (fr2.env.take fr1.env.length) vs)[j]? = some (.own ys) := e
          by_cases qj : j ∈ vs
          · have hj2 := hv j qj
            have hl2 : fr2.env.length = fr1.env.length + 1 := by
              have : (wipeE fr2.env vs).length = _ := w2.sl.len
              rw [wipeE_len, List.length_append, wipe_length, List.length_append] at this
              simp at this
              omega
            rw [backE_in (by rw [List.length_take]; omega) qj] at e
            have e' : fr1.env[j]? = some (.own ys) := by
              have e2 : fr1.env.getD j .un = .own ys := Option.some.inj e
              rw [List.getD_eq_getElem?_getD, List.getElem?_eq_getElem hlt] at e2
              rw [List.getElem?_eq_getElem hlt]
              exact congrArg some e2
            exact free_at free qj e'
          · have e' : (wipeE fr2.env vs)[j]? = some (.own ys) := by
              rw [backE_out qj, List.getElem?_take, if_pos hlt] at e
              rw [wipeE_out qj]; exact e
            have hj' : (wipe σ vs ++ (tp ++ [some (V.ref D)]))[j]? = some (some (.ref D)) := by
              rw [wipe_app qj, ← List.append_assoc, List.getElem?_append_left (by rw [List.length_append]; omega)]
              exact hj
            have := w2.sl.dis j fr1.env.length ys acc D e' e6 hj' (atn (wipe_length _ _))
            omega))) Xq9.mk
theorem SE_comp {E : En} (ok : E.Ok) {elt tg iter : Expr} {ifs : List Expr} {scope : Scope} {own : List (Str × Nat)} {pos : Pos} {g : Tg} {it : Iter} {tc : Option Tm} {telt : Tm} (hb : BlkOk E.X.N E.X.env.scope scope own) (hi : SI E tg iter it)
    (hgx : ∀ i ∈ tgIx g, i ∈ own.map (·.2)) (hg : ∀ s H C cl fp, SG (E.blk s H scope C cl fp) tg g) (hc : ∀ s H C cl fp, SCs (E.blk s H scope C cl fp) ifs tc) (he : ∀ s H C cl fp, SE (E.blk s H scope C cl fp) elt telt)
    (hs : ∀ x, foldedSetIterable iter E.X.env x = pure x) : SE E (.ListComp elt [⟨tg, iter, ifs, 0⟩] scope pos) (.comp telt g it tc (own.map (·.2))) := @Rq9 _ _ (fun qz => @Hq9.get _ _ (qz.bar : Hq9 _ (by
  clear qz
  intro fr σ tp H F io Q hl w h
  refine wE_of (pe_lc (g := wGB E.X scope tg) (tt := wTB E.X scope ifs) (te := wEB E.X scope elt) ok.calm ok.nd pi_w hb (fun s H C cl fp => ⟨fun pins s' σ H v u Q I r h => h _ _ _ _ _ pins s' u I r⟩) (fun s H C cl fp => ⟨fun pins s' σ H Q I h => h _ _ _ _ _ pins s' I⟩)
    (fun s H C cl fp => ⟨fun pins s' σ H Q I h => h _ _ _ _ _ pins s' I⟩) hs) ?_
  exact comp_tLc ok hb hi hgx hg hc he hl w h))) Xq9.mk
end Ag
namespace Ag
open PySem PySem.Spec L2
section
variable {E : En} {e a b c : Expr} {ta tb tc : Tm} {fr : Fr} {σ tp : St} {H F : Hp} {io : List Addr} {Q : VK} {pos : Pos} {es : List Expr} {ts : List Tm} {D : Ends}
/-! ### what is never come to -/
theorem SE_stuck : SE E e .stuck := fun fr σ tp H F io Q hl w h => by unfold ev at h; exact h.elim
theorem ST_stuck : ST E e .stuck := fun fr σ tp H F io Q hl w h => by unfold ev at h; exact h.elim
theorem SS_stuck {st : Stmt} : SS E st .stuck := fun fr σ tp H F io D hl w h => by unfold ex at h; exact h.elim
/-! ### name = [..] -/
theorem SS_asgComp (ok : E.Ok) {i : Nat} {x : Str} {p : Pos} {elt tg iter : Expr} {ifs : List Expr} {scope : Scope} {own : List (Str × Nat)} {cpos : Pos} {g : Tg} {it : Iter} {tc : Option Tm} {telt : Tm} (hN : E.X.N[i]? = some x) (hx : E.X.env.scope.names.lookup x = some .local)
    (hsw : swapsWith (.ListComp elt [⟨tg, iter, ifs, 0⟩] scope cpos) (some (.Name x p)) pos.line E.X.env = pure true) (hb : BlkOk E.X.N E.X.env.scope scope own) (hi : SI E tg iter it)
    (hgx : ∀ i ∈ tgIx g, i ∈ own.map (·.2)) (hg : ∀ s H C cl fp, SG (E.blk s H scope C cl fp) tg g) (hc : ∀ s H C cl fp, SCs (E.blk s H scope C cl fp) ifs tc) (he : ∀ s H C cl fp, SE (E.blk s H scope C cl fp) elt telt)
    (hs : ∀ x, foldedSetIterable iter E.X.env x = pure x) : SS E (.Assign [.Name x p] (.ListComp elt [⟨tg, iter, ifs, 0⟩] scope cpos) pos) (.asg (.slot i) (.comp telt g it tc (own.map (·.2)))) := @Rq9 _ _ (fun qz => @Hq9.get _ _ (qz.bar : Hq9 _ (by
  clear qz
  intro fr σ tp H F io D hl w h
  refine wS_of (ps_setLc (g := wGB E.X scope tg) (tt := wTB E.X scope ifs) (te := wEB E.X scope elt) ok.calm ok.nd hN hx hsw pi_w hb (fun s H C cl fp => ⟨fun pins s' σ H v u Q I r h => h _ _ _ _ _ pins s' u I r⟩) (fun s H C cl fp => ⟨fun pins s' σ H Q I h => h _ _ _ _ _ pins s' I⟩)
    (fun s H C cl fp => ⟨fun pins s' σ H Q I h => h _ _ _ _ _ pins s' I⟩) hs) ?_
  have hi0 : i < σ.length := by rw [hl]; exact (List.getElem?_eq_some_iff.mp hN).1
  have hi2 : i < (σ ++ tp).length := by rw [List.length_append]; omega
  unfold ex at h
  refine comp_tLc (Q := fun v H1 => gName i v σ H1 D.nx) ok hb hi hgx hg hc he hl w (Rs.all_imp (Rs.all_toS h) (fun r fr1 z => ?_) fun c fs fr1 z => okS.exE hl z)
  intro v H1 F1 io1 s1 p1 w1 rv
  have gen : ∀ d fr2, toD fr1 r = some (d, fr2) → (Sx.next (setE fr2 i (.val d))).all (okS E tp F io D) → D.nx (σ.set i (some v)) H1 := fun d fr2 e1 z => by
    obtain ⟨F2, s2, rp, w2⟩ := w1.toD rv e1
    exact z _ H1 F2 io1 (setN_len hl) (s1.trans s2) p1 (by rw [set_app hi0]; exact w2.put hi2 rp)
  show D.nx (σ.set i (some v)) H1
  cases r with
  | out o =>
    cases o with
    | val d => exact gen d fr1 rfl z
    | fresh xs => exact z _ H1 F1 io1 (setN_len hl) s1 p1 (by rw [set_app hi0]; exact w1.putOwn hi2 rv)
  | var j =>
    have z : ((match toD fr1 (.var j) with | some (d, fr') => Sx.next (setE fr' i (.val d)) | none => .bad) : Sx).all (okS E tp F io D) := z
    cases e1 : toD fr1 (.var j) with
    | none => simp [e1] at z; exact z.elim
    | some q =>
      obtain ⟨d, fr2⟩ := q
      simp only [e1] at z
      exact gen d fr2 e1 z))) Xq9.mk
/-! ### isinstance -/
def tyNm : TyN → String
  | .tup => "tuple" | .lst => "list" | .int => "int" | .bool => "bool" | .str => "str"
def tyOfD : Ag.D → Option String
  | .non => some "NoneType" | .bl _ => some "bool" | .int _ => some "int" | .str _ => some "str" | .tup _ => some "tuple" | .lst _ => some "list" | .rol _ => some "list" | _ => none
theorem kit_t {a b : String} {r : Bool} (h : kitB a b = some r) (K : PySem.W.Frag) : PySem.W.kitOne K (.type a) (.type b) = some r := kit_ty h
theorem ist_kit {k : TyN} {d : Ag.D} {r : Bool} (h : istD k d = some r) : ∃ t, tyOfD d = some t ∧ kitB t (tyNm k) = some r := @Rq9 _ _ (fun qz => @Hq9.get _ _ (qz.bar : Hq9 _ (by
  clear qz
  cases k <;> cases d <;> first
    | (cases h; done)
    | (cases h; refine ⟨_, rfl, ?_⟩; decide +kernel)))) Xq9.mk
theorem Lk.ty {K : PySem.W.Frag} {G : Glb} (hk : G.K = K) (s : Same F H) {d : Ag.D} {v : V} (h : Lk G F io H d v) {t : String} (e : tyOfD d = some t) : TyX K H v (.type t) := @Rq9 _ _ (fun qz => @Hq9.get _ _ (qz.bar : Hq9 _ (by
  clear qz
  rcases h with h | ⟨xs, p, vs, rfl, rfl, h1, _⟩
  · cases h with
    | non => cases e; exact .base .non
    | bl b => cases e; exact .base (.bl b)
    | int i => cases e; exact .base (.int i)
    | str x => cases e; exact .base (.str x)
    | tup h1 r =>
      cases e
      rcases Same.sqT s h1 with (z | ⟨o, z⟩) | ⟨o, its, n, z1, z2, _⟩
      · exact .base (.tup z)
      · exact .fTuple z
      · exact .kTuple (hk ▸ z1) z2
    | lst h1 r => cases e; exact .base (.lst (s _ _ h1))
    | rol h1 r =>
      cases e
      rcases h1 with (z | ⟨o, z⟩) | ⟨o, its, n, z1, z2, _⟩
      · exact .base (.lst (s _ _ z))
      · exact .base (.frz (s _ _ z))
      · exact .kList (hk ▸ z1) z2
    | obj h1 r => cases e
    | cell h1 => cases e
  · cases e
    exact .base (.lst h1)))) Xq9.mk
theorem SE_ist (ok : E.Ok) {k : TyN} {p p2 : Pos} {n : Str} (hn : n = Str.ofString (tyNm k)) (hg : Gl E.X "isinstance") (hm : E.X.mg "isinstance" = none) (hg2 : Gl E.X n) (hm2 : E.X.mg n = none) (hs : notStar a = true) (ha : SE E a ta) :
    SE E (.Call (.Name "isinstance" p) [a, .Name n p2] [] pos) (.ist k ta) := @Rq9 _ _ (fun qz => @Hq9.get _ _ (qz.bar : Hq9 _ (by
  clear qz
  intro fr σ tp H F io Q hl w h
  have hb : bootBuiltins n = some (.type (tyNm k)) := by subst hn; cases k <;> decide +kernel
  have hd : (n == ("__debug__" : Str)) = false := by subst hn; cases k <;> decide +kernel
  have hne : n ≠ "__name__" := by subst hn; cases k <;> decide +kernel
  refine wE_of (pe_callB call_isi hg hm (by decide +kernel) (pa_cons pe_w (pa_cons (pe_bltn (v := .ty (tyNm k)) hg2 hm2 hb rfl hne hd) pa_nil) (star_ne hs _ _)) (by decide +kernel) (by decide +kernel) (star_ne hs _ _) (plain_of (by unfold allNot; rfl) _ _)) ?_
  unfold ev at h
  refine ha.held hl w h fun r fr1 v H1 F1 io1 s1 p1 w1 hk z => ?_
  have z : ((match look fr1.env (hold r) with | some d => (match istD k d with | some b => Rs.ok (RV.out (.val (.bl b))) fr1 | none => .bad) | none => .bad) : Rs RV).all _ _ := z
  cases e1 : look fr1.env (hold r) with
  | none => rw [e1] at z; exact z.elim
  | some d =>
    rw [e1] at z
    have z : ((match istD k d with | some b => Rs.ok (RV.out (.val (.bl b))) fr1 | none => .bad) : Rs RV).all _ _ := z
    cases e2 : istD k d with
    | none => rw [e2] at z; exact z.elim
    | some b =>
      rw [e2] at z
      obtain ⟨t, e3, e4⟩ := ist_kit e2
      have lk := w1.look hk e1
      exact ⟨v, .ty (tyNm k), .type t, .type (tyNm k), b, rfl, .ty _, lk.ty ok.k w1.wr.sub e3, kit_t e4 _, z (.bl b) H1 F1 io1 s1 p1 w1 (.bl b)⟩))) Xq9.mk
end
end Ag
namespace Ag
open PySem PySem.Spec L2
/-! ### zip and enumerate over lists and tuples in any mix -/
inductive Src where | l | t
def Src.Sq : Src → PySem.W.Frag → Hp → Addr → List V → Prop
  | .l => SqL
  | .t => SqT
def Src.At : Src → Heap → Addr → Array Value → Prop
  | .l => fun h a its => h.IsList a its
  | .t => fun h a its => h.IsTuple a its
def Src.Iter : Src → Heap → Addr → Addr → Nat → Prop
  | .l => fun h it a i => h.IsListIter it a i
  | .t => fun h it a i => h.IsTupleIter it a i
def Src.ob : Src → Addr → Obj
  | .l => fun a => { cls := .type "list_iterator", data := .fields #[.ref a, .int 0 0] }
  | .t => fun a => { cls := .type "tuple_iterator", data := .fields #[.ref a, .int 0 0] }
theorem Src.draws {prog : Program} {w : World} {A : Around} (hh : A.handled = none) (k : Src) (it a : Addr) (hne : a ≠ it) (its : Array Value) :
    Draws prog w A it [it, a] its.size (fun i v => its[i]? = some v) (fun i h => k.Iter h it a i ∧ k.At h a its) := @Rq9 _ _ (fun qz => @Hq9.get _ _ (qz.bar : Hq9 _ (by
  clear qz
  cases k
  · exact Draws.list hh it a hne its
  · exact Draws.tuple hh it a hne its))) Xq9.mk
theorem Src.begins (k : Src) (a : Addr) (its : Array Value) : Begins (.ref a) (k.ob a) (fun h => k.At h a its) := @Rq9 _ _ (fun qz => @Hq9.get _ _ (qz.bar : Hq9 _ (by
  clear qz
  cases k
  · exact begins_list a its
  · exact begins_tuple a its))) Xq9.mk
theorem Src.iterAt {k : Src} {h h' : Heap} {it a : Addr} {i : Nat} (x : k.Iter h it a i) (e : ∀ o, h.get? it = some o → h'.get? it = some o) : k.Iter h' it a i := @Rq9 _ _ (fun qz => @Hq9.get _ _ (qz.bar : Hq9 _ (by
  clear qz
  cases k
  · exact Heap.IsListIter.at x e
  · exact Heap.IsTupleIter.at x e))) Xq9.mk
theorem Src.iterOb {k : Src} {h : Heap} {it a : Addr} {i : Nat} (x : k.Iter h it a i) : ∃ o, h.get? it = some o ∧ ∀ v, o.data ≠ .cell v := @Rq9 _ _ (fun qz => @Hq9.get _ _ (qz.bar : Hq9 _ (by
  clear qz
  cases k
  · obtain ⟨o, e, _, d⟩ := x; exact ⟨o, e, fun v q => by rw [d] at q; cases q⟩
  · obtain ⟨o, e, _, d⟩ := x; exact ⟨o, e, fun v q => by rw [d] at q; cases q⟩))) Xq9.mk
theorem Src.iterNew {k : Src} {h : Heap} {it a : Addr} (e : h.get? it = some (k.ob a)) : k.Iter h it a 0 := @Rq9 _ _ (fun qz => @Hq9.get _ _ (qz.bar : Hq9 _ (by
  clear qz
  cases k
  · exact ⟨_, e, rfl, rfl⟩
  · exact ⟨_, e, rfl, rfl⟩))) Xq9.mk
section
variable {X : Cx} {pins : List (Addr × Obj)} {σ : St} {H : Hp} {s : Shared} {a b : Addr} {xs ys : List V}
theorem Src.items {k : Src} (I : Inv X pins σ H s) (h : k.Sq X.K H a xs) : ∃ its : List Value, Vals xs its ∧ k.At s.heap a its.toArray ∧ a < s.heap.objs.size := @Rq9 _ _ (fun qz => @Hq9.get _ _ (qz.bar : Hq9 _ (by
  clear qz
  cases k
  · obtain ⟨its, rv, p, _⟩ := I.list h
    exact ⟨its, rv, p.isList, p.lt⟩
  · obtain ⟨its, rv, p, _⟩ := I.tuple h
    obtain ⟨o, ho, _⟩ := id p
    exact ⟨its, rv, p, Heap.lt_size ho⟩))) Xq9.mk
theorem Src.same {k : Src} (I : Inv X pins σ H s) (h : k.Sq X.K H a xs) (h' : k.Sq X.K H a ys) : xs = ys := @Rq9 _ _ (fun qz => @Hq9.get _ _ (qz.bar : Hq9 _ (by
  clear qz
  cases k
  · exact I.list_inj h h'
  · exact I.tuple_inj h h'))) Xq9.mk
end
/-- pairs out of two sources -/
def JZ (K : PySem.W.Frag) (k1 k2 : Src) (a b : Addr) : It where
  go := fun i H => ∃ (xs ys : List V), k1.Sq K H a xs ∧ k2.Sq K H b ys ∧ i < xs.length ∧ i < ys.length
  yld := fun i H v H' => ∃ p x y, v = V.ref p ∧ H p = none ∧ H' = upd H p (.tup [x, y]) ∧ (∀ xs, k1.Sq K H a xs → xs[i]? = some x) ∧ ∀ ys, k2.Sq K H b ys → ys[i]? = some y
  stop := fun i H => ∃ (xs ys : List V), k1.Sq K H a xs ∧ k2.Sq K H b ys ∧ i ≤ xs.length ∧ i ≤ ys.length ∧ (i = xs.length ∨ i = ys.length)
/-- where zip's own objects stand: N, N+1 the sources' iterators, then the pair of these, the pair that is told, zip itself -/
def ZAt (k1 k2 : Src) (a b : Addr) (N : Addr) (i : Nat) (h : Heap) : Prop :=
  IsZip h (N + 4) (N + 2) (N + 3) .none ∧ IsTupOf2 h (N + 2) (.ref N) (.ref (N + 1)) ∧ (∃ x y, IsTupOf2 h (N + 3) x y) ∧ k1.Iter h N a i ∧ k2.Iter h (N + 1) b i
def zfp (N : Addr) : List Addr := [N + 4, N + 2, N + 3, N, N + 1]
theorem zfp_mem {N c : Addr} (h : c ∈ zfp N) : c = N + 4 ∨ c = N + 2 ∨ c = N + 3 ∨ c = N ∨ c = N + 1 := by simpa [zfp] using h
theorem turn_mix {P : Program} {w : World} {K : PySem.W.Frag} {elts : List Expr} {n : Nat} {tpos : Pos} {k1 k2 : Src} {a b N : Addr} (ha : a < N) (hb : b < N) :
    Turn P w K (.Tuple elts n tpos) (JZ K k1 k2 a b) (zfp N) (N + 4) (ZAt k1 k2 a b N) := @Rq9 _ _ (fun qz => @Hq9.get _ _ (qz.bar : Hq9 _ (by
  clear qz
  have S : ZipSep2 (N + 4) (N + 2) (N + 3) N (N + 1) [N, a] [N + 1, b] := zip_sep2 (fun c hc => by rw [List.mem_singleton.mp hc]; exact ha) (fun c hc => by rw [List.mem_singleton.mp hc]; exact hb)
  have na : a ≠ N := Nat.ne_of_lt ha
  have nb : b ≠ N + 1 := Nat.ne_of_lt (Nat.lt_succ_of_lt hb)
  refine ⟨by simp [zfp], fun i h st c hc => ?_, fun i h h' st k => ?_, ?_, ?_, fun A i s Q E st q => wpAny_pyIter_zip st.1 q⟩
  · obtain ⟨h1, h2, ⟨x, y, h3⟩, h4, h5⟩ := st
    rcases zfp_mem hc with rfl | rfl | rfl | rfl | rfl
    · exact ⟨_, h1, fun v z => by cases z⟩
    · exact ⟨_, h2, fun v z => by cases z⟩
    · exact ⟨_, h3, fun v z => by cases z⟩
    · exact Src.iterOb h4
    · exact Src.iterOb h5
  · obtain ⟨h1, h2, ⟨x, y, h3⟩, h4, h5⟩ := st
    have m : ∀ c, c = N + 4 ∨ c = N + 2 ∨ c = N + 3 ∨ c = N ∨ c = N + 1 → c ∈ zfp N := fun c z => by simpa [zfp] using z
    exact ⟨k _ (m _ (.inl rfl)) _ h1, k _ (m _ (.inr (.inl rfl))) _ h2, ⟨x, y, k _ (m _ (.inr (.inr (.inl rfl)))) _ h3⟩, Src.iterAt h4 fun o e => k _ (m _ (.inr (.inr (.inr (.inl rfl))))) o e, Src.iterAt h5 fun o e => k _ (m _ (.inr (.inr (.inr (.inr rfl))))) o e⟩
  · intro X eP ew eK hc i pins s σ H E I hf st hgo
    subst eP ew eK
    obtain ⟨h1, h2, ⟨x0, y0, h3⟩, h4, h5⟩ := st
    obtain ⟨xs, ys, q1, q2, lx, ly⟩ := hgo
    obtain ⟨its, rv, p1, _⟩ := Src.items I q1
    obtain ⟨jts, rw_, p2, _⟩ := Src.items I q2
    have l1 := rv.length
    have l2 := rw_.length
    have hh : X.A.in1.handled = none := I.ok.hd hc
    have zl : N + 4 < s.heap.objs.size := Heap.lt_size h1
    have d1 := Src.draws (prog := X.prog) (w := X.w) hh k1 N a na its.toArray
    have d2 := Src.draws (prog := X.prog) (w := X.w) hh k2 (N + 1) b nb jts.toArray
    refine wpAny_pyNext_zipD2_item S d1 d2 h1 h2 h3 ⟨h4, p1⟩ ⟨h5, p2⟩ (by simpa [← l1] using lx) (by simpa [← l2] using ly) fun u v h' tk g1 g2 z1 z3 i1 i2 zt zs zk => ?_
    refine ⟨_, rfl, wpAny_letOwnedTupleGo_zip (s := { s with heap := h', toks := tk }) z1 fun h'' z1' sb => ?_⟩
    obtain ⟨x, hx, rx⟩ : ∃ x, xs[i]? = some x ∧ RelV x u := by
      obtain ⟨u', e, r⟩ := rv.get (List.getElem?_eq_getElem lx)
      have : u' = u := by simpa [e] using g1
      exact ⟨_, List.getElem?_eq_getElem lx, this ▸ r⟩
    obtain ⟨y, hy, ry⟩ : ∃ y, ys[i]? = some y ∧ RelV y v := by
      obtain ⟨u', e, r⟩ := rw_.get (List.getElem?_eq_getElem ly)
      have : u' = v := by simpa [e] using g2
      exact ⟨_, List.getElem?_eq_getElem ly, this ▸ r⟩
    generalize hT : s.heap.objs.size = T at zt zs zl
    have keep : ∀ c o, c ≠ N + 4 → h'.get? c = some o → h''.get? c = some o := fun c o n e => (sb.2 c n).trans e
    have nT : ∀ j : Nat, j ≤ 4 → N + j ≠ T := fun j hj => by
      intro e
      rw [← e] at zl
      exact absurd zl (Nat.not_lt.mpr (Nat.add_le_add_left hj N))
    have newT : h''.get? T = some { cls := .type "tuple", data := .seq #[u, v] } := keep _ _ (fun z => nT 4 (by omega) z.symm) zt
    have obj : ObjOk X.prog X.w (upd H T (.tup [x, y])) h'' T (.tup [x, y]) := ⟨by show 2 ≤ sizeLine; decide, [u, v], .cons rx (.cons ry .nil), ⟨_, newT, rfl, _, rfl⟩⟩
    have I1 : Inv X pins σ (upd H T (.tup [x, y])) { s with heap := h'', toks := tk } :=
      I.turnedNew (ch := zfp N) (fun c o nc e => by
        have m : ∀ c', c' = N + 4 ∨ c' = N + 2 ∨ c' = N + 3 ∨ c' = N ∨ c' = N + 1 → c ≠ c' := fun c' z q => nc (by rw [q]; simpa [zfp] using z)
        exact keep c o (m _ (.inl rfl)) (zk c o (m _ (.inl rfl)) (m _ (.inr (.inr (.inl rfl)))) (m _ (.inr (.inr (.inr (.inl rfl))))) (m _ (.inr (.inr (.inr (.inr rfl))))) e)) hf (Nat.le_of_eq hT) obj
    have fresh : H T = none := I.hok.fresh (Nat.le_of_eq hT)
    refine ⟨.ref T, _, I1, rfl, ⟨T, x, y, rfl, fresh, rfl, fun l hl => by rw [Src.same I hl q1]; exact hx, fun l hl => by rw [Src.same I hl q2]; exact hy⟩, ⟨z1', ?_, ⟨u, v, ?_⟩, ?_, ?_⟩, fun c hcm => ?_⟩
    · exact keep _ _ S.TIz (zk _ _ S.TIz S.TITO S.TIi1 S.TIi2 h2)
    · exact keep _ _ S.TOz z3
    · exact Src.iterAt i1.1 fun o e => keep _ o S.zi1.symm e
    · exact Src.iterAt i2.1 fun o e => keep _ o S.zi2.symm e
    · have : c ≠ T := by
        rcases zfp_mem hcm with rfl | rfl | rfl | rfl | rfl
        · exact nT 4 (by omega)
        · exact nT 2 (by omega)
        · exact nT 3 (by omega)
        · exact nT 0 (by omega)
        · exact nT 1 (by omega)
      rw [upd_ne this]
      exact (hf c hcm).1
  · intro X eP ew eK hc i pins s σ H E I hf st hst
    subst eP ew eK
    obtain ⟨h1, h2, ⟨x0, y0, h3⟩, h4, h5⟩ := st
    obtain ⟨xs, ys, q1, q2, lx, ly, he⟩ := hst
    obtain ⟨its, rv, p1, _⟩ := Src.items I q1
    obtain ⟨jts, rw_, p2, _⟩ := Src.items I q2
    have l1 := rv.length
    have l2 := rw_.length
    have hh : X.A.in1.handled = none := I.ok.hd hc
    have d1 := Src.draws (prog := X.prog) (w := X.w) hh k1 N a na its.toArray
    have d2 := Src.draws (prog := X.prog) (w := X.w) hh k2 (N + 1) b nb jts.toArray
    refine wpAny_pyNext_zipD2_end S d1 d2 h1 h2 h3 ⟨h4, p1⟩ ⟨h5, p2⟩ (by simpa [← l1] using lx) (by simpa [← l2] using ly) (by simpa [← l1, ← l2] using he) fun h' tk zk => ⟨rfl, ?_⟩
    exact I.turnedL (t' := tk) (ch := zfp N) (fun c o nc e => by
      have m : ∀ c', c' = N + 4 ∨ c' = N + 2 ∨ c' = N + 3 ∨ c' = N ∨ c' = N + 1 → c ≠ c' := fun c' z q => nc (by rw [q]; simpa [zfp] using z)
      exact zk c o (m _ (.inl rfl)) (m _ (.inr (.inr (.inl rfl)))) (m _ (.inr (.inr (.inr (.inl rfl))))) (m _ (.inr (.inr (.inr (.inr rfl))))) e) hf))) Xq9.mk
/-- what zip of two parts comes to -/
theorem iter_mix {X : Cx} {pins : List (Addr × Obj)} {σ : St} {H : Hp} {s : Shared} {a b : Addr} {xs ys : List V} {elts : List Expr} {n : Nat} {tpos : Pos} {R : It → Hp → Prop} {k1 k2 : Src} (I : Inv X pins σ H s) (h1 : k1.Sq X.K H a xs) (h2 : k2.Sq X.K H b ys)
    (q : R (JZ X.K k1 k2 a b) H) : wpAny (model X.prog X.w) X.A (call (.type "zip") [.ref a, .ref b]) (fun v s1 => wpAny (model X.prog X.w) X.A (pyIter v) (PIE X pins σ (.Tuple elts n tpos) R) X.xe s1) X.xe s := @Rq9 _ _ (fun qz => @Hq9.get _ _ (qz.bar : Hq9 _ (by
  clear qz
  obtain ⟨its, rv, p1, la⟩ := Src.items I h1
  obtain ⟨jts, rw_, p2, lb⟩ := Src.items I h2
  refine zip_begins2 (Src.begins k1 a its.toArray) (Src.begins k2 b jts.toArray) p1 p2 fun h' z zt zo o1 o2 zs zk => wpAny_pyIter_zip z ?_
  have I1 : Inv X pins σ H { s with heap := h' } := I.kept (t' := s.toks) zk
  refine ⟨s.heap.objs.size + 4, zfp s.heap.objs.size, _, _, H, rfl, I1, turn_mix la lb, ⟨z, zt, ⟨_, _, zo⟩, Src.iterNew o1, Src.iterNew o2⟩, fun c hc => ?_, q⟩
  have hle : s.heap.objs.size ≤ c := by
    rcases zfp_mem hc with rfl | rfl | rfl | rfl | rfl
    · exact Nat.le_add_right _ _
    · exact Nat.le_add_right _ _
    · exact Nat.le_add_right _ _
    · exact Nat.le_refl _
    · exact Nat.le_add_right _ _
  exact I.fpOk hle (I.hok.fresh hle)))) Xq9.mk
end Ag
namespace Ag
open PySem PySem.Spec L2
section
variable {X : Cx}
def iMix (K : PySem.W.Frag) (ta : TA) : TI := fun σ H R => ta σ H fun vs H1 => ∃ a b xs ys k1 k2, vs = [V.ref a, V.ref b] ∧ Src.Sq k1 K H1 a xs ∧ Src.Sq k2 K H1 b ys ∧ R (JZ K k1 k2 a b) H1
theorem pi_mix {e e2 : Expr} {ta : TA} {p pos tpos : Pos} {elts : List Expr} {n : Nat} (hg : Gl X "zip") (hm : X.mg "zip" = none) (ha : PA X [e, e2] ta) (hs : starEach [e, e2] X.env = (false, eval e X.env) :: starEach [e2] X.env)
    (hpl : (backTo pos (starEach [e2] X.env)).any (·.1) = false) : PI X (.Tuple elts n tpos) (.Call (.Name "zip" p) [e, e2] [] pos) (iMix X.K ta) := ⟨fun pins s σ H R I h => by
  refine PyProof.Rows.Call_ (ld_blt I hg hm PyProof.Rows.boot_zip (PyProof.Rows.callWith_type1 (thn (ha.run pos pins s σ H _ I h) fun us s1 q => ?_) hs hpl))
  obtain ⟨vs, H1, I1, r1, a, b, xs, ys, k1, k2, rfl, g1, g2, g3⟩ := q
  obtain ⟨u1, u2, rfl, r1, r2⟩ := vals2 r1
  obtain rfl : u1 = Value.ref a := r1
  obtain rfl : u2 = Value.ref b := r2
  exact iter_mix I1 g1 g2 g3⟩
end
section
variable {E : En} {e a b c : Expr} {ta tb tc : Tm} {fr : Fr} {σ tp : St} {H F : Hp} {io : List Addr} {Q : VK} {pos : Pos} {es : List Expr} {ts : List Tm} {D : Ends}
/-- a sequence among the data -/
theorem Rep.src {G : Glb} {d : Ag.D} {v : V} {xs : List Ag.D} (r : Rep G F io d v) (e : seqOf d = some xs) : ∃ k p vs, v = V.ref p ∧ (∀ H, Same F H → Src.Sq k G.K H p vs) ∧ Reps G F io xs vs := @Rq9 _ _ (fun qz => @Hq9.get _ _ (qz.bar : Hq9 _ (by
  clear qz
  cases d with
  | tup ds =>
    cases e
    cases r with
    | tup h1 r1 => exact ⟨.t, _, _, rfl, fun H s => Same.sqT s h1, r1⟩
  | lst ds =>
    cases e
    cases r with
    | lst h1 r1 => exact ⟨.l, _, _, rfl, fun H s => SqL.of (s _ _ h1), r1⟩
  | _ => cases e))) Xq9.mk
theorem zipD_len : ∀ xs ys : List Ag.D, (zipD xs ys).length = min xs.length ys.length
  | [], [] => rfl
  | [], y :: ys => by simp [zipD]
  | x :: xs, [] => by simp [zipD]
  | x :: xs, y :: ys => by
    show (zipD xs ys).length + 1 = _
    rw [zipD_len xs ys]
    simp only [List.length_cons]
    omega
theorem zipD_at : ∀ (xs ys : List Ag.D) (i : Nat) (x y : Ag.D), xs[i]? = some x → ys[i]? = some y → (zipD xs ys)[i]? = some (.tup [x, y])
  | x :: xs, y :: ys, 0, _, _, h1, h2 => by cases h1; cases h2; rfl
  | x :: xs, y :: ys, i + 1, a, b, h1, h2 => zipD_at xs ys i a b h1 h2
  | [], _, _, _, _, h1, _ => by simp at h1
  | _ :: _, [], _, _, _, _, h2 => by simp at h2
theorem walkZ {G : Glb} {k1 k2 : Src} {p q : Addr} {vs us : List V} {xs ys : List Ag.D} (h1 : ∀ H, Same F H → Src.Sq k1 G.K H p vs) (r1 : Reps G F io xs vs) (h2 : ∀ H, Same F H → Src.Sq k2 G.K H q us) (r2 : Reps G F io ys us) : WalkD G (JZ G.K k1 k2 p q) (zipD xs ys) F io := @Rq9 _ _ (fun qz => @Hq9.get _ _ (qz.bar : Hq9 _ (by
  clear qz
  have l1 := r1.length
  have l2 := r2.length
  refine ⟨fun i H hi s => ?_, fun H s => ?_, fun i H x H' hi s y => ?_⟩
  · rw [zipD_len] at hi
    exact ⟨vs, us, h1 H s, h2 H s, by omega, by omega⟩
  · rw [zipD_len]
    exact ⟨vs, us, h1 H s, h2 H s, by omega, by omega, by omega⟩
  · rw [zipD_len] at hi
    obtain ⟨t, x1, x2, e1, hn, e2, g1, g2⟩ := y
    obtain ⟨u1, b1, c1⟩ := r1.get (List.getElem?_eq_getElem (show i < xs.length by omega))
    obtain ⟨u2, b2, c2⟩ := r2.get (List.getElem?_eq_getElem (show i < ys.length by omega))
    have d1 := g1 _ (h1 H s)
    have d2 := g2 _ (h2 H s)
    rw [b1] at d1; cases d1
    rw [b2] at d2; cases d2
    exact ⟨_, zipD_at xs ys i _ _ (List.getElem?_eq_getElem _) (List.getElem?_eq_getElem _), .inr ⟨t, _, _, hn, e2, e1, rfl, .cons c1 (.cons c2 .nil)⟩⟩))) Xq9.mk
theorem SI_zip (ok : E.Ok) {elts : List Expr} {n : Nat} {tpos p : Pos} (hg : Gl E.X "zip") (hm : E.X.mg "zip" = none) (hs : notStar a = true) (hs2 : notStar b = true) (ha : SE E a ta) (hb : SE E b tb) : SI E (.Tuple elts n tpos) (.Call (.Name "zip" p) [a, b] [] pos) (.zip ta tb) := @Rq9 _ _ (fun qz => @Hq9.get _ _ (qz.bar : Hq9 _ (by
  clear qz
  intro fr σ tp H F io R hl w h
  refine wI_of (pi_mix hg hm (pa_cons pe_w (pa_cons pe_w pa_nil (star_ne hs2 _ _)) (star_ne hs _ _)) (star_ne hs _ _) (by rw [star_ne hs2]; rfl)) ?_
  unfold evi at h
  show wE E.X a σ H fun x H1 => wE E.X b σ H1 fun y H2 => _
  refine ha.part hl w h fun d fr1 v H1 F1 io1 s1 p1 w1 r1 z => ?_
  refine hb.part hl w1 z fun d2 fr2 v2 H2 F2 io2 s2 p2 w2 r2 z2 => ?_
  have z2 : ((match seqOf d, seqOf d2 with | some xs, some ys => Rs.ok (zipD xs ys) fr2 | _, _ => .bad) : Rs (List Ag.D)).all _ (exE E σ tp F2 io2) := z2
  cases e1 : seqOf d with
  | none => rw [e1] at z2; exact z2.elim
  | some xs =>
    cases e2 : seqOf d2 with
    | none => rw [e1, e2] at z2; exact z2.elim
    | some ys =>
      rw [e1, e2] at z2
      obtain ⟨k1, q1, vs, rfl, g1, c1⟩ := (r1.mono s2 p2).src e1
      obtain ⟨k2, q2, us, rfl, g2, c2⟩ := r2.src e2
      have := z2 _ H2 F2 io2 (s1.trans s2) (p1.trans p2) w2 (walkZ g1 c1 g2 c2)
      rw [ok.k] at this g1 g2
      exact ⟨q1, q2, vs, us, k1, k2, rfl, g1 H2 w2.wr.sub, g2 H2 w2.wr.sub, this⟩))) Xq9.mk
/-! enumerate of a list -/
theorem enumD_len : ∀ (xs : List Ag.D) (k : Int), (enumD k xs).length = xs.length
  | [], _ => rfl
  | x :: xs, k => by
    show (enumD (k + 1) xs).length + 1 = _
    rw [enumD_len xs]; rfl
theorem enumD_at : ∀ (xs : List Ag.D) (k : Int) (i : Nat) (x : Ag.D), xs[i]? = some x → (enumD k xs)[i]? = some (.tup [.int (k + (i : Int)), x])
  | x :: xs, k, 0, _, h => by cases h; simp [enumD]
  | x :: xs, k, i + 1, a, h => by
    have := enumD_at xs (k + 1) i a h
    show (enumD (k + 1) xs)[i]? = _
    rw [this, show k + 1 + (i : Int) = k + ((i + 1 : Nat) : Int) by omega]
  | [], _, _, _, h => by simp at h
theorem walkE {G : Glb} {p : Addr} {vs : List V} {xs : List Ag.D} (h : F p = some (.lst vs)) (r : Reps G F io xs vs) : WalkD G (Ite G.K p) (enumD 0 xs) F io := @Rq9 _ _ (fun qz => @Hq9.get _ _ (qz.bar : Hq9 _ (by
  clear qz
  have w := walk_enum (K := G.K) (a := p) (xs := vs)
  have l := r.length
  refine ⟨fun i H hi s => w.goes i H (by rw [enumD_len] at hi; omega) (SqL.of (s _ _ h)), fun H s => by rw [enumD_len, l]; exact w.stops H (SqL.of (s _ _ h)), fun i H x H' hi s y => ?_⟩
  rw [enumD_len] at hi
  obtain ⟨t, x1, x2, e1, hn, e2, g1, g2⟩ := w.yields i H x H' (by omega) (SqL.of (s _ _ h)) y
  obtain ⟨u, b1, c1⟩ := r.get (List.getElem?_eq_getElem hi)
  have g2 : vs[i]? = some x2 := g2
  rw [b1] at g2; cases g2
  cases g1
  refine ⟨_, enumD_at xs 0 i _ (List.getElem?_eq_getElem hi), .inr ⟨t, _, _, hn, e2, e1, rfl, .cons ?_ (.cons c1 .nil)⟩⟩
  rw [Int.zero_add]
  exact .int _))) Xq9.mk
theorem SI_enum (ok : E.Ok) {elts : List Expr} {n : Nat} {tpos p : Pos} (hg : Gl E.X "enumerate") (hm : E.X.mg "enumerate" = none) (hs : notStar a = true) (ha : SE E a ta) : SI E (.Tuple elts n tpos) (.Call (.Name "enumerate" p) [a] [] pos) (.enum ta 0) := @Rq9 _ _ (fun qz => @Hq9.get _ _ (qz.bar : Hq9 _ (by
  clear qz
  intro fr σ tp H F io R hl w h
  refine wI_of (pi_enum hg hm (pa_cons pe_w pa_nil (star_ne hs _ _)) (star_ne hs _ _)) ?_
  unfold evi at h
  show wE E.X a σ H _
  refine ha.part hl w h fun d fr1 v H1 F1 io1 s1 p1 w1 r1 z => ?_
  cases d with
  | lst xs =>
    cases r1 with
    | lst h1 r2 =>
      have := z _ H1 F1 io1 s1 p1 w1 (walkE h1 r2)
      rw [ok.k] at this
      exact ⟨_, _, rfl, SqL.of (w1.wr.sub _ _ h1), this⟩
  | _ => exact z.elim))) Xq9.mk
/-! reversed -/
theorem rev_at {xs : List Ag.D} {i : Nat} (h : i < xs.length) : xs.reverse[i]? = xs[xs.length - 1 - i]? := by
  rw [List.getElem?_reverse h]
theorem walkV {G : Glb} {p : Addr} {vs : List V} {xs : List Ag.D} (h : F p = some (.lst vs)) (r : Reps G F io xs vs) : WalkD G (Itv G.K p vs.length) xs.reverse F io := @Rq9 _ _ (fun qz => @Hq9.get _ _ (qz.bar : Hq9 _ (by
  clear qz
  have w := walk_rev (K := G.K) (a := p) (xs := vs)
  have l := r.length
  refine ⟨fun i H hi s => w.goes i H (by rw [List.length_reverse] at hi; omega) (SqL.of (s _ _ h)), fun H s => by rw [List.length_reverse, l]; exact w.stops H (SqL.of (s _ _ h)), fun i H x H' hi s y => ?_⟩
  rw [List.length_reverse] at hi
  obtain ⟨e1, e2⟩ := w.yields i H x H' (by omega) (SqL.of (s _ _ h)) y
  have hj : xs.length - 1 - i < xs.length := by omega
  obtain ⟨u, b1, c1⟩ := r.get (List.getElem?_eq_getElem hj)
  rw [← l, b1] at e2; cases e2
  exact ⟨_, by rw [rev_at hi]; exact List.getElem?_eq_getElem hj, .inl ⟨e1, c1⟩⟩))) Xq9.mk
theorem SI_rev (ok : E.Ok) {tg : Expr} {p : Pos} (hg : Gl E.X "reversed") (hm : E.X.mg "reversed" = none) (hs : notStar a = true) (ha : SE E a ta) : SI E tg (.Call (.Name "reversed" p) [a] [] pos) (.rev ta) := @Rq9 _ _ (fun qz => @Hq9.get _ _ (qz.bar : Hq9 _ (by
  clear qz
  intro fr σ tp H F io R hl w h
  refine wI_of (RT.pi_revA hg hm pe_w (star_ne hs _ _)) ?_
  unfold evi at h
  refine ha.part hl w h fun d fr1 v H1 F1 io1 s1 p1 w1 r1 z => ?_
  cases d with
  | lst xs =>
    cases r1 with
    | lst h1 r2 =>
      have := z _ H1 F1 io1 s1 p1 w1 (walkV h1 r2)
      rw [ok.k] at this
      exact ⟨_, _, rfl, .inl ⟨SqL.of (w1.wr.sub _ _ h1), this⟩⟩
  | _ => exact z.elim))) Xq9.mk
/-! range downwards -/
theorem range3_at {lo c : Int} {n i : Nat} (h : i < n) : (range3D lo c n)[i]? = some (.int (lo + (i : Int) * c)) := @Rq9 _ _ (fun qz => @Hq9.get _ _ (qz.bar : Hq9 _ (by
  clear qz
  unfold range3D
  rw [List.getElem?_map, List.getElem?_range h]; rfl))) Xq9.mk
theorem range3_len {lo c : Int} {n : Nat} : (range3D lo c n).length = n := by unfold range3D; rw [List.length_map, List.length_range]
theorem walkC {G : Glb} {lo c : Int} {n : Nat} : WalkD G (Itc lo c n) (range3D lo c n) F io := @Rq9 _ _ (fun qz => @Hq9.get _ _ (qz.bar : Hq9 _ (by
  clear qz
  have w := walk_rangeC (lo := lo) (c := c) (n := n)
  refine ⟨fun i H hi s => w.goes i H (by rw [range3_len] at hi; exact hi) trivial, fun H s => by rw [range3_len]; exact w.stops H trivial, fun i H x H' hi s y => ?_⟩
  rw [range3_len] at hi
  obtain ⟨e1, e2⟩ := w.yields i H x H' hi trivial y
  refine ⟨_, range3_at hi, .inl ⟨e1, ?_⟩⟩
  rw [e2]; exact .int _))) Xq9.mk
theorem SI_range3 (ok : E.Ok) {tg : Expr} {p : Pos} (hg : Gl E.X "range") (hm : E.X.mg "range" = none) (hs : notStar a = true) (hs2 : notStar b = true) (hs3 : notStar c = true) (ha : SE E a ta) (hb : SE E b tb) (hc : SE E c tc) :
    SI E tg (.Call (.Name "range" p) [a, b, c] [] pos) (.range3 ta tb tc) := @Rq9 _ _ (fun qz => @Hq9.get _ _ (qz.bar : Hq9 _ (by
  clear qz
  intro fr σ tp H F io R hl w h
  refine wI_of (pi_range3 hg hm (pa_cons pe_w (pa_cons pe_w (pa_cons pe_w pa_nil (star_ne hs3 _ _)) (star_ne hs2 _ _)) (star_ne hs _ _)) (star_ne hs _ _) (by rw [star_ne hs2, star_ne hs3]; rfl)) ?_
  unfold evi at h
  show wE E.X a σ H fun x H1 => wE E.X b σ H1 fun y H2 => wE E.X c σ H2 fun z H3 => _
  refine ha.part hl w h fun d fr1 v H1 F1 io1 s1 p1 w1 r1 z => ?_
  refine hb.part hl w1 z fun d2 fr2 v2 H2 F2 io2 s2 p2 w2 r2 z2 => ?_
  refine hc.part hl w2 z2 fun d3 fr3 v3 H3 F3 io3 s3 p3 w3 r3 z3 => ?_
  cases d with
  | int lo =>
    cases d2 with
    | int hi =>
      cases d3 with
      | int st =>
        cases r1
        cases r2
        cases r3
        have y3 : ((if -(2 ^ 62) < lo ∧ lo < 2 ^ 62 ∧ -(2 ^ 62) < hi ∧ hi < 2 ^ 62 ∧ st = -1 then Rs.ok (range3D lo (-1) (lo - hi).toNat) fr3 else .bad : Rs (List Ag.D))).all _ (exE E σ tp F3 io3) := z3
        split at y3
        case isFalse => exact y3.elim
        rename_i hz
        obtain ⟨h1, h2, h3, h4, rfl⟩ := hz
        exact ⟨lo, hi, -1, _, rfl, RgC.neg (by omega) h2 (by omega) h4, y3 _ H3 F3 io3 ((s1.trans s2).trans s3) ((p1.trans p2).trans p3) w3 walkC⟩
      | _ => exact z3.elim
    | _ => exact z3.elim
  | _ => exact z3.elim))) Xq9.mk
end
end Ag
namespace Ag
open PySem PySem.Spec L2
/-! ### min, max of a list of ints -/
theorem alike_ints (ns : List Int) : PySem.W.AlikeAll (ns.map PyData.int) := @Rq9 _ _ (fun qz => @Hq9.get _ _ (qz.bar : Hq9 _ (by
  clear qz
  refine ⟨fun x hx y hy => ?_, fun x hx => ?_⟩
  · obtain ⟨i, _, rfl⟩ := List.mem_map.mp hx
    obtain ⟨j, _, rfl⟩ := List.mem_map.mp hy
    rfl
  · obtain ⟨i, _, rfl⟩ := List.mem_map.mp hx
    exact fun z => by cases z))) Xq9.mk
theorem foldl_min (n : Int) : ∀ ns : List Int, ns.foldl min n = ns.foldl (fun a b => if b < a then b else a) n := @Rq9 _ _ (fun qz => @Hq9.get _ _ (qz.bar : Hq9 _ (by
  clear qz
  intro ns
  induction ns generalizing n with
  | nil => rfl
  | cons k r ih =>
    rw [List.foldl_cons, List.foldl_cons, ih]
    congr 1
    split <;> omega))) Xq9.mk
theorem foldl_max (n : Int) : ∀ ns : List Int, ns.foldl max n = ns.foldl (fun a b => if b > a then b else a) n := @Rq9 _ _ (fun qz => @Hq9.get _ _ (qz.bar : Hq9 _ (by
  clear qz
  intro ns
  induction ns generalizing n with
  | nil => rfl
  | cons k r ih =>
    rw [List.foldl_cons, List.foldl_cons, ih]
    congr 1
    split <;> omega))) Xq9.mk
section
variable {X : Cx}
def rMinL (X : Cx) : List V → Hp → VK → Prop := fun vs H Q => ∃ (a : Addr) (n : Int) (ns : List Int), vs = [.ref a] ∧ SqL X.K H a ((n :: ns).map V.int) ∧ Q (.int (minL (n :: ns))) H
def rMaxL (X : Cx) : List V → Hp → VK → Prop := fun vs H Q => ∃ (a : Addr) (n : Int) (ns : List Int), vs = [.ref a] ∧ SqL X.K H a ((n :: ns).map V.int) ∧ Q (.int (maxL (n :: ns))) H
theorem call_min1 (hc : X.calm = true) (hu : X.A.units + 64 < cLine) : CallR X (.builtin "min") (rMinL X) := @Rq9 _ _ (fun qz => @Hq9.get _ _ (qz.bar : Hq9 _ (by
  clear qz
  intro pins s σ H xs us Q I r h
  obtain ⟨a, n, ns, rfl, hs, q⟩ := h
  obtain ⟨its, rv, hl, hz⟩ := I.list hs
  rw [Vals.ref1 r]
  refine PySem.W.min_list_data (x := .int n) (xs := ns.map .int) (I.ok.hd hc) hl.isList (PyProof.Rows.IntsAre.reads _ rv.ints) (alike_ints (n :: ns)) (by rw [show (PyData.int n :: ns.map .int) = (n :: ns).map .int from rfl, PyProof.Rows.depthAll_ints]; omega) fun i v h' tk bs e rd k => ?_
  rw [PySem.W.minD_ints, foldl_min] at rd
  cases rd
  exact ⟨.int _, H, I.kept k, ⟨_, rfl⟩, q⟩))) Xq9.mk
theorem call_max1 (hc : X.calm = true) (hu : X.A.units + 64 < cLine) : CallR X (.builtin "max") (rMaxL X) := @Rq9 _ _ (fun qz => @Hq9.get _ _ (qz.bar : Hq9 _ (by
  clear qz
  intro pins s σ H xs us Q I r h
  obtain ⟨a, n, ns, rfl, hs, q⟩ := h
  obtain ⟨its, rv, hl, hz⟩ := I.list hs
  rw [Vals.ref1 r]
  refine PySem.W.max_list_data (x := .int n) (xs := ns.map .int) (I.ok.hd hc) hl.isList (PyProof.Rows.IntsAre.reads _ rv.ints) (alike_ints (n :: ns)) (by rw [show (PyData.int n :: ns.map .int) = (n :: ns).map .int from rfl, PyProof.Rows.depthAll_ints]; omega) fun i v h' tk bs e rd k => ?_
  rw [PySem.W.maxD_ints, foldl_max] at rd
  cases rd
  exact ⟨.int _, H, I.kept k, ⟨_, rfl⟩, q⟩))) Xq9.mk
/-- with default=None -/
def rMinLd (X : Cx) : List V → List V → Hp → VK → Prop := fun vs zs H Q => ∃ (a : Addr) (ns : List Int), vs = [.ref a] ∧ zs = [.non] ∧ SqL X.K H a (ns.map V.int) ∧ Q (match ns with | [] => .non | n :: ns => .int (minL (n :: ns))) H
def rMaxLd (X : Cx) : List V → List V → Hp → VK → Prop := fun vs zs H Q => ∃ (a : Addr) (ns : List Int), vs = [.ref a] ∧ zs = [.non] ∧ SqL X.K H a (ns.map V.int) ∧ Q (match ns with | [] => .non | n :: ns => .int (maxL (n :: ns))) H
theorem call_min1d (hc : X.calm = true) (hu : X.A.units + 64 < cLine) : CallRK X (.builtin "min") [Str.ofString "default"] (rMinLd X) := @Rq9 _ _ (fun qz => @Hq9.get _ _ (qz.bar : Hq9 _ (by
  clear qz
  intro pins s σ H xs zs us ws Q I r rz h
  obtain ⟨a, ns, rfl, rfl, hs, q⟩ := h
  obtain ⟨its, rv, hl, hz⟩ := I.list hs
  rw [Vals.ref1 r]
  obtain ⟨w1, rfl, e1⟩ := vals1 rz
  obtain rfl : w1 = Value.none := e1
  refine PySem.W.min_list_default (xs := ns.map .int) (I.ok.hd hc) hl.isList (PyProof.Rows.IntsAre.reads _ rv.ints) (alike_ints ns) (by rw [PyProof.Rows.depthAll_ints]; omega) (fun e h' tk k => ?_) fun y ys i v h' tk bs e ei rd k => ?_
  · cases ns with
    | nil => exact ⟨.non, H, I.kept k, rfl, q⟩
    | cons n ns => cases e
  · cases ns with
    | nil => cases e
    | cons n ns =>
      cases e
      rw [PySem.W.minD_ints, foldl_min] at rd
      cases rd
      exact ⟨.int _, H, I.kept k, ⟨_, rfl⟩, q⟩))) Xq9.mk
theorem call_max1d (hc : X.calm = true) (hu : X.A.units + 64 < cLine) : CallRK X (.builtin "max") [Str.ofString "default"] (rMaxLd X) := @Rq9 _ _ (fun qz => @Hq9.get _ _ (qz.bar : Hq9 _ (by
  clear qz
  intro pins s σ H xs zs us ws Q I r rz h
  obtain ⟨a, ns, rfl, rfl, hs, q⟩ := h
  obtain ⟨its, rv, hl, hz⟩ := I.list hs
  rw [Vals.ref1 r]
  obtain ⟨w1, rfl, e1⟩ := vals1 rz
  obtain rfl : w1 = Value.none := e1
  refine PySem.W.max_list_default (xs := ns.map .int) (I.ok.hd hc) hl.isList (PyProof.Rows.IntsAre.reads _ rv.ints) (alike_ints ns) (by rw [PyProof.Rows.depthAll_ints]; omega) (fun e h' tk k => ?_) fun y ys i v h' tk bs e ei rd k => ?_
  · cases ns with
    | nil => exact ⟨.non, H, I.kept k, rfl, q⟩
    | cons n ns => cases e
  · cases ns with
    | nil => cases e
    | cons n ns =>
      cases e
      rw [PySem.W.maxD_ints, foldl_max] at rd
      cases rd
      exact ⟨.int _, H, I.kept k, ⟨_, rfl⟩, q⟩))) Xq9.mk
end
section
variable {E : En} {e a b c : Expr} {ta tb tc : Tm} {fr : Fr} {σ tp : St} {H F : Hp} {io : List Addr} {Q : VK} {pos : Pos} {es : List Expr} {ts : List Tm}
theorem reps_intsD {G : Glb} : ∀ {ds : List Ag.D} {ns : List Int} {vs : List V}, intsD ds = some ns → Reps G F io ds vs → vs = ns.map V.int
  | [], _, _, e, r => by cases e; cases r; rfl
  | d :: ds, ns, _, e, r => by
    cases d with
    | int i =>
      unfold intsD at e
      cases q : intsD ds with
      | none => rw [q] at e; cases e
      | some ms =>
        rw [q] at e; cases e
        cases r with
        | cons r1 r2 =>
          cases r1
          rw [reps_intsD q r2]; rfl
    | _ => unfold intsD at e; cases e
theorem bi_min1 (ok : E.Ok) : BiOk E .min1 := @Rq9 _ _ (fun qz => @Hq9.get _ _ (qz.bar : Hq9 _ (by
  clear qz
  intro fr σ tp H F io Q ds vs o w r e h
  have e : biMin1 ds = some o := e
  unfold biMin1 at e
  split at e
  · split at e
    · rename_i hi
      cases e
      obtain ⟨v, rfl, l⟩ := lk1 r
      obtain ⟨p, vs, rfl, h1, r1⟩ := l.lst w.wr.sub
      have := reps_intsD hi r1
      subst this
      exact wCall_of (call_min1 ok.calm ok.hu) ⟨p, _, _, rfl, SqL.of h1, h.int w⟩
    · cases e
  · cases e))) Xq9.mk
theorem bi_max1 (ok : E.Ok) : BiOk E .max1 := @Rq9 _ _ (fun qz => @Hq9.get _ _ (qz.bar : Hq9 _ (by
  clear qz
  intro fr σ tp H F io Q ds vs o w r e h
  have e : biMax1 ds = some o := e
  unfold biMax1 at e
  split at e
  · split at e
    · rename_i hi
      cases e
      obtain ⟨v, rfl, l⟩ := lk1 r
      obtain ⟨p, vs, rfl, h1, r1⟩ := l.lst w.wr.sub
      have := reps_intsD hi r1
      subst this
      exact wCall_of (call_max1 ok.calm ok.hu) ⟨p, _, _, rfl, SqL.of h1, h.int w⟩
    · cases e
  · cases e))) Xq9.mk
theorem SE_min1d (ok : E.Ok) {p kp cp : Pos} {kk : Nat} (hg : Gl E.X "min") (hm : E.X.mg "min" = none) (hs : notStar a = true) (ha : SP' E [a] [ta]) :
    SE E (.Call (.Name "min" p) [a] [⟨some "default", .Constant .none kk cp, kp⟩] pos) (.bi .min1d [ta]) := @Rq9 _ _ (fun qz => @Hq9.get _ _ (qz.bar : Hq9 _ (by
  clear qz
  intro fr σ tp H F io Q hl w h
  have f1 : allNot [] = true := rfl
  refine wE_of (pe_callBK (call_min1d ok.calm ok.hu) hg hm (by decide +kernel) pa_w (pk_cons pe_non pk_nil) (by decide +kernel) (by decide +kernel) ((congrArg (backTo pos) (star_ne hs _ _)).trans rfl) (plain_of (by unfold allNot; simp [hs]) _ _) rfl rfl rfl) ?_
  unfold ev at h
  refine ha fr σ tp H F io _ hl w (Rs.all_imp (Rs.all_bind h) (fun rs fr1 z => ?_) fun _ _ _ x => x)
  intro vs H1 F1 io1 s p w1 r
  cases e1 : looks fr1.env rs with
  | none => simp [e1] at z; exact z.elim
  | some ds =>
    simp only [e1] at z
    cases e2 : biD .min1d ds with
    | none => simp [e2] at z; exact z.elim
    | some o =>
      simp only [e2] at z
      have r := looks_ok w1 r e1
      have z := okE.mono s p z
      have e2 : biMin1d ds = some o := e2
      unfold biMin1d at e2
      split at e2
      · split at e2
        · rename_i hi
          cases e2
          obtain ⟨v, rfl, l⟩ := lk1 r
          obtain ⟨p, vs, rfl, h1, r1⟩ := l.lst w1.wr.sub
          have := reps_intsD hi r1
          subst this
          exact ⟨p, _, rfl, rfl, SqL.of h1, z.int w1⟩
        · rename_i hi
          cases e2
          obtain ⟨v, rfl, l⟩ := lk1 r
          obtain ⟨p, vs, rfl, h1, r1⟩ := l.lst w1.wr.sub
          have := reps_intsD hi r1
          subst this
          exact ⟨p, [], rfl, rfl, SqL.of h1, z _ H1 F1 io1 (Same.refl _) (Pre.refl _) w1 .non⟩
        · cases e2
      · cases e2))) Xq9.mk
theorem SE_max1d (ok : E.Ok) {p kp cp : Pos} {kk : Nat} (hg : Gl E.X "max") (hm : E.X.mg "max" = none) (hs : notStar a = true) (ha : SP' E [a] [ta]) :
    SE E (.Call (.Name "max" p) [a] [⟨some "default", .Constant .none kk cp, kp⟩] pos) (.bi .max1d [ta]) := @Rq9 _ _ (fun qz => @Hq9.get _ _ (qz.bar : Hq9 _ (by
  clear qz
  intro fr σ tp H F io Q hl w h
  have f1 : allNot [] = true := rfl
  refine wE_of (pe_callBK (call_max1d ok.calm ok.hu) hg hm (by decide +kernel) pa_w (pk_cons pe_non pk_nil) (by decide +kernel) (by decide +kernel) ((congrArg (backTo pos) (star_ne hs _ _)).trans rfl) (plain_of (by unfold allNot; simp [hs]) _ _) rfl rfl rfl) ?_
  unfold ev at h
  refine ha fr σ tp H F io _ hl w (Rs.all_imp (Rs.all_bind h) (fun rs fr1 z => ?_) fun _ _ _ x => x)
  intro vs H1 F1 io1 s p w1 r
  cases e1 : looks fr1.env rs with
  | none => simp [e1] at z; exact z.elim
  | some ds =>
    simp only [e1] at z
    cases e2 : biD .max1d ds with
    | none => simp [e2] at z; exact z.elim
    | some o =>
      simp only [e2] at z
      have r := looks_ok w1 r e1
      have z := okE.mono s p z
      have e2 : biMax1d ds = some o := e2
      unfold biMax1d at e2
      split at e2
      · split at e2
        · rename_i hi
          cases e2
          obtain ⟨v, rfl, l⟩ := lk1 r
          obtain ⟨p, vs, rfl, h1, r1⟩ := l.lst w1.wr.sub
          have := reps_intsD hi r1
          subst this
          exact ⟨p, _, rfl, rfl, SqL.of h1, z.int w1⟩
        · rename_i hi
          cases e2
          obtain ⟨v, rfl, l⟩ := lk1 r
          obtain ⟨p, vs, rfl, h1, r1⟩ := l.lst w1.wr.sub
          have := reps_intsD hi r1
          subst this
          exact ⟨p, [], rfl, rfl, SqL.of h1, z _ H1 F1 io1 (Same.refl _) (Pre.refl _) w1 .non⟩
        · cases e2
      · cases e2))) Xq9.mk
end
end Ag
namespace Ag
open PySem PySem.Spec L2
/-! ### sorted -/
theorem insI_perm (x : Int) : ∀ l, (insI x l).Perm (x :: l)
  | [] => .refl _
  | q :: r => by
    unfold insI
    split
    · exact ((insI_perm x r).cons q).trans (.swap ..)
    · exact .refl _
theorem sortI_perm : ∀ l, (sortI l).Perm l
  | [] => .refl _
  | x :: l => (insI_perm x (sortI l)).trans ((sortI_perm l).cons x)
theorem insI_srt (x : Int) : ∀ l : List Int, l.Pairwise (· ≤ ·) → (insI x l).Pairwise (· ≤ ·)
  | [], _ => List.pairwise_singleton _ _
  | q :: r, h => by
    obtain ⟨h1, h2⟩ := List.pairwise_cons.mp h
    unfold insI
    split
    · rename_i hlt
      refine List.pairwise_cons.mpr ⟨fun a ha => ?_, insI_srt x r h2⟩
      rcases List.mem_cons.mp ((insI_perm x r).mem_iff.mp ha) with rfl | z
      · omega
      · exact h1 a z
    · rename_i hlt
      refine List.pairwise_cons.mpr ⟨fun a ha => ?_, h⟩
      rcases List.mem_cons.mp ha with rfl | z
      · omega
      · have := h1 a z; omega
theorem sortI_srt : ∀ l : List Int, (sortI l).Pairwise (· ≤ ·)
  | [] => .nil
  | x :: l => insI_srt x (sortI l) (sortI_srt l)
theorem srt_uniq {α : Type} {le : α → α → Prop} (anti : ∀ a b, le a b → le b a → a = b) : ∀ {l m : List α}, l.Pairwise le → m.Pairwise le → (∀ a ∈ l, le a a) → l.Perm m → l = m
  | [], m, _, _, _, h => (List.Perm.eq_nil h.symm).symm
  | x :: l, [], _, _, _, h => absurd h.length_eq (by simp)
  | x :: l, y :: m, hl, hm, rf, h => by
    obtain ⟨l1, l2⟩ := List.pairwise_cons.mp hl
    obtain ⟨m1, m2⟩ := List.pairwise_cons.mp hm
    have e : x = y := by
      rcases List.mem_cons.mp (h.mem_iff.mp (List.mem_cons_self (a := x) (l := l))) with e | hx
      · exact e
      · rcases List.mem_cons.mp (h.mem_iff.mpr (List.mem_cons_self (a := y) (l := m))) with e | hy
        · exact e.symm
        · exact anti _ _ (l1 y hy) (m1 x hx)
    subst e
    rw [srt_uniq anti l2 m2 (fun a ha => rf a (List.mem_cons_of_mem _ ha)) h.cons_inv]
def leP (p q : Int × Int) : Prop := p.1 < q.1 ∨ (p.1 = q.1 ∧ p.2 ≤ q.2)
theorem lexL_iff {p q : Int × Int} : lexL p q = true ↔ p.1 < q.1 ∨ (p.1 = q.1 ∧ p.2 < q.2) := by unfold lexL; simp
theorem insP_perm (x : Int × Int) : ∀ l, (insP x l).Perm (x :: l)
  | [] => .refl _
  | q :: r => by
    unfold insP
    split
    · exact ((insP_perm x r).cons q).trans (.swap ..)
    · exact .refl _
theorem sortP_perm : ∀ l, (sortP l).Perm l
  | [] => .refl _
  | x :: l => (insP_perm x (sortP l)).trans ((sortP_perm l).cons x)
theorem insP_srt (x : Int × Int) : ∀ l : List (Int × Int), l.Pairwise leP → (insP x l).Pairwise leP
  | [], _ => List.pairwise_singleton _ _
  | q :: r, h => by
    obtain ⟨h1, h2⟩ := List.pairwise_cons.mp h
    unfold insP
    split
    · rename_i hlt
      have hlt := lexL_iff.mp hlt
      refine List.pairwise_cons.mpr ⟨fun a ha => ?_, insP_srt x r h2⟩
      rcases List.mem_cons.mp ((insP_perm x r).mem_iff.mp ha) with rfl | z
      · unfold leP; omega
      · exact h1 a z
    · rename_i hlt
      have hlt : ¬ (q.1 < x.1 ∨ (q.1 = x.1 ∧ q.2 < x.2)) := fun z => hlt (lexL_iff.mpr z)
      refine List.pairwise_cons.mpr ⟨fun a ha => ?_, h⟩
      rcases List.mem_cons.mp ha with rfl | z
      · unfold leP; omega
      · have := h1 a z; unfold leP at this ⊢; omega
theorem sortP_srt : ∀ l : List (Int × Int), (sortP l).Pairwise leP
  | [] => .nil
  | x :: l => insP_srt x (sortP l) (sortP_srt l)
theorem leP_anti (a b : Int × Int) (h : leP a b) (k : leP b a) : a = b := @Rq9 _ _ (fun qz => @Hq9.get _ _ (qz.bar : Hq9 _ (by
  clear qz
  unfold leP at h k
  exact Prod.ext (by omega) (by omega)))) Xq9.mk
section
variable {E : En} {e a b c : Expr} {ta tb tc : Tm} {fr : Fr} {σ tp : St} {H F : Hp} {io : List Addr} {Q : VK} {pos : Pos} {es : List Expr} {ts : List Tm}
def rSortedPT (K : PySem.W.Frag) : List V → Hp → VK → Prop := fun vs H Q => ∃ (a : Addr) (xs : List V) (k : V → Int × Int), vs = [V.ref a] ∧ SqL K H a xs ∧ (∀ x ∈ xs, ∃ t, x = V.ref t ∧ SqT K H t [.int (k x).1, .int (k x).2]) ∧
  ∀ ys p, SrtO.Srtd (ltP k) ys → SrtO.Stb (ltP k) ys xs → H p = none → Q (.ref p) (upd H p (.lst ys))
theorem cr_sortedPT {X : Cx} : CallR X (.builtin "sorted") (rSortedPT X.K) := @Rq9 _ _ (fun qz => @Hq9.get _ _ (qz.bar : Hq9 _ (by
  clear qz
  intro pins s σ H vs us Q I r h
  obtain ⟨a, xs, k, rfl, hs, hx, q⟩ := h
  obtain ⟨its, rv, hl, hz⟩ := I.list hs
  obtain ⟨u, rfl, ru⟩ := vals1 r
  obtain rfl : u = Value.ref a := ru
  obtain ⟨e1, e2⟩ := refs_back rv fun x m => by
    obtain ⟨t, e, _⟩ := hx x m
    exact ⟨t, e⟩
  refine SrtO.sorted_pairsO (k := fun u => k (backV u)) hl.isList (by rw [← rv.length]; exact hz) (fun v hv => ?_) fun h' d out h1 h2 kp hd hn => ?_
  · obtain ⟨t, rfl⟩ := e2 v hv
    have hm : V.ref t ∈ xs := by rw [e1]; exact List.mem_map.mpr ⟨_, hv, rfl⟩
    obtain ⟨t', e, ht⟩ := hx _ hm
    cases e
    obtain ⟨its2, r2, ⟨o, ho, hc, n, hd⟩, _⟩ := I.tuple ht
    obtain ⟨u1, u2, rfl, ri, rj⟩ := vals2 r2
    obtain ⟨t1, rfl⟩ := ri
    obtain ⟨t2, rfl⟩ := rj
    exact ⟨t, o, t1, t2, n, rfl, ho, hc, hd⟩
  · have h3 : ∀ u ∈ out, ∃ a, u = Value.ref a := fun u hu => e2 u (h2.perm.mem_iff.mp hu)
    obtain ⟨n, hn⟩ := hn
    have hb : SrtO.Stb (ltP k) (out.map backV) xs := by
      rw [e1]
      exact SrtO.Stb.map (ltP_swo k) backV h2
    refine ⟨.ref d, upd H d (.lst (out.map backV)), I.laid (t' := s.toks) kp hd ⟨?_, out, n, vals_back h3, hn⟩, rfl, q _ d (SrtO.srtd_map h1) hb (I.hok.fresh hd)⟩
    rw [hb.len]
    exact hz))) Xq9.mk
theorem reps_ints2 {G : Glb} : ∀ (ns : List Int), Reps G F io (ns.map Ag.D.int) (ns.map V.int)
  | [] => .nil
  | n :: ns => .cons (.int n) (reps_ints2 ns)
/-- pairs of ints, as they stand -/
theorem reps_pairs {G : Glb} : ∀ {ds : List Ag.D} {ps : List (Int × Int)} {vs : List V}, pairsD ds = some ps → Reps G F io ds vs → ds = ps.map pairD ∧ ∀ x ∈ vs, ∃ (t : Addr) (p : Int × Int), x = V.ref t ∧ SqT G.K F t [.int p.1, .int p.2] := @Rq9 _ _ (fun qz => @Hq9.get _ _ (qz.bar : Hq9 _ (by
  clear qz
  intro ds
  induction ds with
  | nil => intro ps vs e r; cases e; cases r; exact ⟨rfl, fun x hx => nomatch hx⟩
  | cons d ds ih =>
    intro ps vs e r
    unfold pairsD at e
    split at e
    · rename_i z; cases z
    · rename_i i j ds' he
      cases he
      cases q : pairsD ds with
      | none => rw [q] at e; cases e
      | some qs =>
        rw [q] at e; cases e
        cases r with
        | cons r1 r2 =>
          obtain ⟨h1, h2⟩ := ih q r2
          refine ⟨by rw [h1]; rfl, fun x hx => ?_⟩
          rcases List.mem_cons.mp hx with rfl | hx
          · cases r1 with
            | tup g1 g2 =>
              cases g2 with
              | cons a1 a2 => cases a2 with
                | cons b1 b2 => cases b2; cases a1; cases b1; exact ⟨_, (i, j), rfl, g1⟩
          · exact h2 x hx
    · cases e))) Xq9.mk
theorem reps_key {G : Glb} {k : V → Int × Int} : ∀ {ps : List (Int × Int)} {vs : List V}, (∀ x ∈ vs, ∃ t, x = V.ref t ∧ SqT G.K F t [.int (k x).1, .int (k x).2]) → (∀ a xs ys, SqT G.K F a xs → SqT G.K F a ys → xs = ys) → Reps G F io (ps.map pairD) vs → vs.map k = ps
  | [], _, _, _, r => by cases r; rfl
  | p :: ps, _, hk, inj, r => by
    cases r with
    | cons r1 r2 =>
      rename_i v vs
      obtain ⟨t, e, h⟩ := hk v (List.mem_cons_self ..)
      have r1 : Rep G F io (.tup [.int p.1, .int p.2]) v := r1
      cases r1 with
      | tup g1 g2 =>
        cases e
        cases g2 with
        | cons a1 a2 => cases a2 with
          | cons b1 b2 =>
            cases b2; cases a1; cases b1
            have := inj _ _ _ g1 h
            rw [List.map_cons, reps_key (fun x hx => hk x (List.mem_cons_of_mem _ hx)) inj r2]
            injection this with z1 z2
            injection z2 with z2 _
            injection z1 with z1
            injection z2 with z2
            rw [show k _ = p from Prod.ext z1.symm z2.symm]
theorem key_reps {G : Glb} {k : V → Int × Int} : ∀ {vs : List V}, (∀ x ∈ vs, ∃ t, x = V.ref t ∧ SqT G.K F t [.int (k x).1, .int (k x).2]) → Reps G F io ((vs.map k).map pairD) vs
  | [], _ => .nil
  | v :: vs, hk => by
    obtain ⟨t, e, h⟩ := hk v (List.mem_cons_self ..)
    refine .cons ?_ (key_reps fun x hx => hk x (List.mem_cons_of_mem _ hx))
    show Rep G F io (.tup [.int (k v).1, .int (k v).2]) v
    rw [e] at h ⊢
    exact .tup h (.cons (.int _) (.cons (.int _) .nil))
open Classical in
/-- the key of a value: the pair that it stands for -/
noncomputable def keyV (K : PySem.W.Frag) (H : Hp) (x : V) : Int × Int := if h : ∃ (t : Addr) (p : Int × Int), x = V.ref t ∧ SqT K H t [.int p.1, .int p.2] then Classical.choose (Classical.choose_spec h) else (0, 0)
theorem keyV_at {K : PySem.W.Frag} {x : V} (h : ∃ (t : Addr) (p : Int × Int), x = V.ref t ∧ SqT K H t [.int p.1, .int p.2]) : ∃ t, x = V.ref t ∧ SqT K H t [.int (keyV K H x).1, .int (keyV K H x).2] := @Rq9 _ _ (fun qz => @Hq9.get _ _ (qz.bar : Hq9 _ (by
  clear qz
  unfold keyV
  rw [dif_pos h]
  exact ⟨_, Classical.choose_spec (Classical.choose_spec h)⟩))) Xq9.mk
theorem srtd_le {k : V → Int × Int} {ys : List V} (h : SrtO.Srtd (ltP k) ys) : (ys.map k).Pairwise leP := @Rq9 _ _ (fun qz => @Hq9.get _ _ (qz.bar : Hq9 _ (by
  clear qz
  rw [List.pairwise_map]
  refine List.Pairwise.imp ?_ h
  intro a b z
  have := SrtO.lexB_no.mp z
  unfold leP
  omega))) Xq9.mk
theorem bi_sorted (ok : E.Ok) : BiOk E .sorted_ := @Rq9 _ _ (fun qz => @Hq9.get _ _ (qz.bar : Hq9 _ (by
  clear qz
  intro fr σ tp H F io Q ds vs o w r e h
  have e : biSorted ds = some o := e
  unfold biSorted at e
  split at e
  · split at e
    · rename_i hi
      cases e
      obtain ⟨v, rfl, l⟩ := lk1 r
      obtain ⟨p, vs, rfl, h1, r1⟩ := l.lst w.wr.sub
      have := reps_intsD hi r1
      subst this
      refine wCall_of cr_sortedI ⟨p, _, rfl, SqL.of h1, fun ns' q hp hs hq => ?_⟩
      rw [srt_uniq (fun a b h k => by omega) hs (sortI_srt _) (fun a _ => by omega) (hp.trans (sortI_perm _).symm)]
      exact h.fresh w (reps_ints2 _) hq
    · rename_i hi
      split at e
      · rename_i hp
        cases e
        rename_i ps
        obtain ⟨v, rfl, l⟩ := lk1 r
        obtain ⟨p, vs, rfl, h1, r1⟩ := l.lst w.wr.sub
        obtain ⟨rfl, h2⟩ := reps_pairs hp r1
        have hk : ∀ x ∈ vs, ∃ t, x = V.ref t ∧ SqT E.G.K F t [.int (keyV E.G.K F x).1, .int (keyV E.G.K F x).2] := fun x hx => keyV_at (h2 x hx)
        intro pins σ' s us I rv
        have inj : ∀ a xs ys, SqT E.G.K F a xs → SqT E.G.K F a ys → xs = ys := fun a xs ys z1 z2 => I.tuple_inj (by rw [← ok.k]; exact Same.sqT w.wr.sub z1) (by rw [← ok.k]; exact Same.sqT w.wr.sub z2)
        refine cr_sortedPT pins s σ' H _ us Q I rv ⟨p, vs, keyV E.G.K F, rfl, SqL.of h1, fun x hx => ?_, fun ys q hs hb hq => ?_⟩
        · obtain ⟨t, e, z⟩ := hk x hx
          rw [← ok.k]
          exact ⟨t, e, Same.sqT w.wr.sub z⟩
        · have hkv : vs.map (keyV E.G.K F) = ps := reps_key hk inj r1
          have hy : (ys.map (keyV E.G.K F)) = sortP ps := srt_uniq leP_anti (srtd_le hs) (sortP_srt _) (fun a _ => by unfold leP; omega) (((hb.perm.map _).trans (by rw [hkv])).trans (sortP_perm _).symm)
          rw [← hy] at h
          exact h.fresh w (key_reps fun x hx => hk x (hb.perm.mem_iff.mp hx)) hq
      · cases e
  · cases e))) Xq9.mk
theorem SE_lstS (ok : E.Ok) {p : Pos} (ho : SE E e ta) (ha : SA E es ts) : SE E (.List (.Starred e p :: es) pos) (.lstS ta ts) := @Rq9 _ _ (fun qz => @Hq9.get _ _ (qz.bar : Hq9 _ (by
  clear qz
  intro fr σ tp H F io Q hl w h
  refine wE_of (pe_lst (StX.pa_star pe_w pa_w)) ?_
  unfold ev at h
  refine ho.held hl w h fun r fr1 v H1 F1 io1 s1 p1 w1 hk h1 => ?_
  cases e1 : look fr1.env (hold r) with
  | none => simp [e1] at h1; exact h1.elim
  | some d =>
    simp only [e1] at h1
    have lk := w1.look hk e1
    cases e2 : seqOf d with
    | none => simp [e2] at h1; exact h1.elim
    | some xs =>
      simp only [e2] at h1
      have src : ∃ q us, v = V.ref q ∧ (SqT E.X.K H1 q us ∨ SqL E.X.K H1 q us) ∧ Reps E.G F1 io1 xs us := by
        cases d with
        | lst ys =>
          cases e2
          obtain ⟨q, us, rfl, h1, r1⟩ := lk.lst w1.wr.sub
          exact ⟨q, us, rfl, .inr (SqL.of h1), r1⟩
        | tup ys =>
          cases e2
          obtain ⟨q, us, rfl, h1, g1, r1⟩ := lk.tup w1.wr.sub
          rw [ok.k] at h1
          exact ⟨q, us, rfl, .inl h1, r1⟩
        | _ => cases e2
      obtain ⟨q, us, rfl, hq, r1⟩ := src
      refine ⟨q, us, rfl, hq, ?_⟩
      refine ha fr1 σ tp H1 F1 io1 _ hl w1 (Rs.all_imp (Rs.all_bind h1) (fun ds fr2 z => ?_) fun _ _ _ x => x)
      intro vs H2 F2 io2 s2 p2 w2 r2
      split at z
      · rename_i hz
        refine ⟨by rw [List.length_append, ← r1.length, ← r2.length]; exact hz, fun l hl => okE.fresh w2 ((r1.mono s2 p2).append r2) (okE.mono (s1.trans s2) (p1.trans p2) z) hl⟩
      · exact z.elim))) Xq9.mk
theorem SE_tupS (ok : E.Ok) {p : Pos} {kk : Nat} (ho : SE E e ta) (ha : SA E es ts) : SE E (.Tuple (.Starred e p :: es) kk pos) (.tupS ta ts) := @Rq9 _ _ (fun qz => @Hq9.get _ _ (qz.bar : Hq9 _ (by
  clear qz
  intro fr σ tp H F io Q hl w h
  refine wE_of (pe_tup (StX.pa_star pe_w pa_w)) ?_
  unfold ev at h
  refine ho.held hl w h fun r fr1 v H1 F1 io1 s1 p1 w1 hk h1 => ?_
  cases e1 : look fr1.env (hold r) with
  | none => simp [e1] at h1; exact h1.elim
  | some d =>
    simp only [e1] at h1
    have lk := w1.look hk e1
    cases e2 : seqOf d with
    | none => simp [e2] at h1; exact h1.elim
    | some xs =>
      simp only [e2] at h1
      have src : ∃ q us, v = V.ref q ∧ (SqT E.X.K H1 q us ∨ SqL E.X.K H1 q us) ∧ Reps E.G F1 io1 xs us := by
        cases d with
        | lst ys =>
          cases e2
          obtain ⟨q, us, rfl, h1, r1⟩ := lk.lst w1.wr.sub
          exact ⟨q, us, rfl, .inr (SqL.of h1), r1⟩
        | tup ys =>
          cases e2
          obtain ⟨q, us, rfl, h1, g1, r1⟩ := lk.tup w1.wr.sub
          rw [ok.k] at h1
          exact ⟨q, us, rfl, .inl h1, r1⟩
        | _ => cases e2
      obtain ⟨q, us, rfl, hq, r1⟩ := src
      refine ⟨q, us, rfl, hq, ?_⟩
      refine ha fr1 σ tp H1 F1 io1 _ hl w1 (Rs.all_imp (Rs.all_bind h1) (fun ds fr2 z => ?_) fun _ _ _ x => x)
      intro vs H2 F2 io2 s2 p2 w2 r2
      split at z
      · rename_i hz
        refine ⟨by rw [List.length_append, ← r1.length, ← r2.length]; exact hz, fun l hl => okE.tup w2 ((r1.mono s2 p2).append r2) (okE.mono (s1.trans s2) (p1.trans p2) z) hl⟩
      · exact z.elim))) Xq9.mk
end
end Ag
namespace Ag
open PySem PySem.Spec L2
/-! ### list(zip(a, b)) -/
section
variable {prog : Program} {w : World} {A : Around} {E : Value → Shared → Prop} {s : Shared} {z TI TO T i1 i2 : Addr} {fp1 fp2 : List Addr} {n1 n2 i : Nat} {P1 P2 : Nat → Value → Prop} {St1 St2 : Nat → Heap → Prop} {f : Bool} {oT : Obj}
/-- a turn of zip whose first tuple is still held -/
theorem zipH_next_item {Q : Value → Shared → Prop} (S : ZipSep2 z TI TO i1 i2 fp1 fp2) (D1 : Draws prog w A i1 fp1 n1 P1 St1) (D2 : Draws prog w A i2 fp2 n2 P2 St2)
    (hz : IsZipHeld s.heap z TI TO T f) (hT : s.heap.get? T = some oT) (hTI : IsTupOf2 s.heap TI (.ref i1) (.ref i2)) (st1 : St1 i s.heap) (st2 : St2 i s.heap) (hlt1 : i < n1) (hlt2 : i < n2)
    (hQ : ∀ x1 x2 h' tk, P1 i x1 → P2 i x2 → IsZipHeld h' z TI TO T true → St1 (i + 1) h' → St2 (i + 1) h' → IsTupOf2 h' s.heap.objs.size x1 x2 → h'.objs.size = s.heap.objs.size + 1 →
      (∀ c o, c ≠ z → c ≠ i1 → c ≠ i2 → s.heap.get? c = some o → h'.get? c = some o) → Q (.ref s.heap.objs.size) { s with heap := h', toks := tk }) :
    wpAny (model prog w) A (Builtin.«zip.__next__» ⟨[.ref z], []⟩) (fun fin s' => ∃ v, fin = .done (.ret v) ∧ Q v s') E s := by
  obtain ⟨hp, g, d, tk0, os⟩ := s
  show wpAny _ _ (field (.ref z) 2 >>= _) _ _ _
  refine wpAny_bind (wpAny_field hz rfl (x := .bool false) rfl ?_)
  show wpAny _ _ (field (.ref z) 3 >>= _) _ _ _
  refine wpAny_bind (wpAny_field hz rfl (x := .ref TI) rfl ?_)
  refine wpAny_bind (wpAny_seqItems hTI rfl ?_)
  show wpAny _ _ (Builtin.SmallTypes.ownedTupleIsFree (.ref z) >>= _) _ _ _
  refine wpAny_bind (wpAny_tupleHeld_zip hz hT fun h₁ hz₁ hs₁ => ?_)
  replace hs₁ : Heap.SameBut z hp h₁ := hs₁
  simp only [Bool.false_eq_true, if_false]
  refine wpAny_bind ?_
  rw [← Array.forIn_toList]
  simp only [List.forIn_cons, List.forIn_nil]
  refine wpAny_bind (wpAny_bind (wpAny_holding ?_))
  show wpAny _ _ (Builtin.SmallTypes.nextOf (.ref i1) >>= _) _ _ _
  refine wpAny_bind (D1.item i _ _ _ hlt1 (D1.over st1 hs₁ S.zf1) fun x1 p1 tk1 hx1 sn1 hp1 => wpAny_pure ?_)
  replace hp1 : Heap.SameBut i1 h₁ p1 := hp1
  refine wpAny_pure ?_
  refine wpAny_bind (wpAny_bind (wpAny_holding ?_))
  show wpAny _ _ (Builtin.SmallTypes.nextOf (.ref i2) >>= _) _ _ _
  refine wpAny_bind (D2.item i _ _ _ hlt2 (D2.over (D2.over st2 hs₁ S.zf2) hp1 S.sep1_2) fun x2 p2 tk2 hx2 sn2 hp2 => wpAny_pure ?_)
  replace hp2 : Heap.SameBut i2 p1 p2 := hp2
  refine wpAny_pure (wpAny_pure ?_)
  show wpAny _ _ (newTuple [x1, x2] >>= _) _ _ _
  refine wpAny_bind (wpAny_newTuple ?_)
  have hsz : p2.objs.size = hp.objs.size := by rw [hp2.1, hp1.1, hs₁.1]
  have hz2 : IsZipHeld p2 z TI TO T true := hp2.extBut _ _ S.zi2 (hp1.extBut _ _ S.zi1 hz₁)
  have hk : ∀ c o, c ≠ z → c ≠ i1 → c ≠ i2 → hp.get? c = some o → p2.get? c = some o := fun c o c1 c2 c3 e => hp2.extBut _ _ c3 (hp1.extBut _ _ c2 (hs₁.extBut _ _ c1 e))
  have hj1 : St1 (i + 1) p2 := D1.over sn1 hp2 S.sep2_1
  refine wpAny_pure ⟨_, rfl, ?_⟩
  show Q (.ref p2.objs.size) _
  have hpp : IsTupOf2 (p2.push { cls := .type "tuple", data := .seq #[x1, x2] }) p2.objs.size x1 x2 := Heap.get?_push_size _ rfl
  have hz4 : (p2.push { cls := .type "tuple", data := .seq #[x1, x2] }).objs.size = p2.objs.size + 1 := Heap.size_push ..
  rw [hsz] at hpp hz4 ⊢
  exact hQ x1 x2 _ _ hx1 hx2 (Heap.get?_push_of_some _ hz2) (D1.frame _ _ _ hj1 fun b hb o e => Heap.get?_push_of_some _ e) (D2.frame _ _ _ sn2 fun b hb o e => Heap.get?_push_of_some _ e) hpp hz4 fun c o c1 c2 c3 e => Heap.get?_push_of_some _ (hk c o c1 c2 c3 e)
theorem zipH_next_end {Q : Fin → Shared → Prop} (S : ZipSep2 z TI TO i1 i2 fp1 fp2) (D1 : Draws prog w A i1 fp1 n1 P1 St1) (D2 : Draws prog w A i2 fp2 n2 P2 St2)
    (hz : IsZipHeld s.heap z TI TO T f) (hT : s.heap.get? T = some oT) (hTI : IsTupOf2 s.heap TI (.ref i1) (.ref i2)) (st1 : St1 i s.heap) (st2 : St2 i s.heap) (hle1 : i ≤ n1) (hle2 : i ≤ n2) (hend : i = n1 ∨ i = n2)
    (hE : ∀ h' tk e, (∀ c o, c ≠ z → c ≠ i1 → c ≠ i2 → s.heap.get? c = some o → h'.get? c = some o) → (∃ o, h'.get? e = some o ∧ o.cls = .type "StopIteration") → E (.ref e) { s with heap := h', toks := tk }) :
    wpAny (model prog w) A (Builtin.«zip.__next__» ⟨[.ref z], []⟩) Q E s := by
  obtain ⟨hp, g, d, tk0, os⟩ := s
  show wpAny _ _ (field (.ref z) 2 >>= _) _ _ _
  refine wpAny_bind (wpAny_field hz rfl (x := .bool false) rfl ?_)
  show wpAny _ _ (field (.ref z) 3 >>= _) _ _ _
  refine wpAny_bind (wpAny_field hz rfl (x := .ref TI) rfl ?_)
  refine wpAny_bind (wpAny_seqItems hTI rfl ?_)
  show wpAny _ _ (Builtin.SmallTypes.ownedTupleIsFree (.ref z) >>= _) _ _ _
  refine wpAny_bind (wpAny_tupleHeld_zip hz hT fun h₁ hz₁ hs₁ => ?_)
  replace hs₁ : Heap.SameBut z hp h₁ := hs₁
  simp only [Bool.false_eq_true, if_false]
  refine wpAny_bind ?_
  rw [← Array.forIn_toList]
  simp only [List.forIn_cons, List.forIn_nil]
  refine wpAny_bind (wpAny_bind (wpAny_holding ?_))
  show wpAny _ _ (Builtin.SmallTypes.nextOf (.ref i1) >>= _) _ _ _
  by_cases hlt1 : i < n1
  · refine wpAny_bind (D1.item i _ _ _ hlt1 (D1.over st1 hs₁ S.zf1) fun x1 p1 tk1 hx1 sn1 hp1 => wpAny_pure ?_)
    replace hp1 : Heap.SameBut i1 h₁ p1 := hp1
    have hi2 : i = n2 := by omega
    refine wpAny_pure ?_
    refine wpAny_bind (wpAny_bind (wpAny_holding ?_))
    show wpAny _ _ (Builtin.SmallTypes.nextOf (.ref i2) >>= _) _ _ _
    refine wpAny_bind (D2.done _ _ _ (by rw [← hi2]; exact D2.over (D2.over st2 hs₁ S.zf2) hp1 S.sep1_2) fun q e hq he => ?_)
    replace hq : Heap.ExtBut i2 p1 q := hq
    exact hE q tk1 e (fun c o c1 c2 c3 x => hq _ _ c3 (hp1.extBut _ _ c2 (hs₁.extBut _ _ c1 x))) he
  · have hi1 : i = n1 := by omega
    refine wpAny_bind (D1.done _ _ _ (by rw [← hi1]; exact D1.over st1 hs₁ S.zf1) fun q e hq he => ?_)
    replace hq : Heap.ExtBut i1 h₁ q := hq
    exact hE q tk0 e (fun c o c1 c2 c3 x => hq _ _ c2 (hs₁.extBut _ _ c1 x)) he
theorem zipH_pyNext_item {Q : Option Value → Shared → Prop} (S : ZipSep2 z TI TO i1 i2 fp1 fp2) (D1 : Draws prog w A.in1 i1 fp1 n1 P1 St1) (D2 : Draws prog w A.in1 i2 fp2 n2 P2 St2)
    (hz : IsZipHeld s.heap z TI TO T f) (hT : s.heap.get? T = some oT) (hTI : IsTupOf2 s.heap TI (.ref i1) (.ref i2)) (st1 : St1 i s.heap) (st2 : St2 i s.heap) (hlt1 : i < n1) (hlt2 : i < n2)
    (hQ : ∀ x1 x2 h' tk, P1 i x1 → P2 i x2 → IsZipHeld h' z TI TO T true → St1 (i + 1) h' → St2 (i + 1) h' → IsTupOf2 h' s.heap.objs.size x1 x2 → h'.objs.size = s.heap.objs.size + 1 →
      (∀ c o, c ≠ z → c ≠ i1 → c ≠ i2 → s.heap.get? c = some o → h'.get? c = some o) → Q (some (.ref s.heap.objs.size)) { s with heap := h', toks := tk }) :
    wpAny (model prog w) A (pyNext (.ref z)) Q E s := by
  have hTy : s.TypeIs (.ref z) "zip" := ⟨_, hz, rfl⟩
  unfold pyNext
  exact wpAny_bind (wpAny_attempt (wpAny_callSpecial?_slot (name := Str.ofString "__next__") hTy F.slot_zip_next
    (wpAny_call_entry F.slot_zip_next hTy F.entry_zip_next
      (zipH_next_item S D1 D2 hz hT hTI st1 st2 hlt1 hlt2 fun x1 x2 h' tk y1 y2 a1 a3 a4 a5 a6 a7 => wpAny_pure (hQ x1 x2 h' tk y1 y2 a1 a3 a4 a5 a6 a7)) (F.args_zip_next_1 _))))
theorem zipH_pyNext_end {Q : Option Value → Shared → Prop} (S : ZipSep2 z TI TO i1 i2 fp1 fp2) (D1 : Draws prog w A.in1 i1 fp1 n1 P1 St1) (D2 : Draws prog w A.in1 i2 fp2 n2 P2 St2)
    (hz : IsZipHeld s.heap z TI TO T f) (hT : s.heap.get? T = some oT) (hTI : IsTupOf2 s.heap TI (.ref i1) (.ref i2)) (st1 : St1 i s.heap) (st2 : St2 i s.heap) (hle1 : i ≤ n1) (hle2 : i ≤ n2) (hend : i = n1 ∨ i = n2)
    (hQ : ∀ h' tk, (∀ c o, c ≠ z → c ≠ i1 → c ≠ i2 → s.heap.get? c = some o → h'.get? c = some o) → Q none { s with heap := h', toks := tk }) : wpAny (model prog w) A (pyNext (.ref z)) Q E s := @Rq9 _ _ (fun qz => @Hq9.get _ _ (qz.bar : Hq9 _ (by
  clear qz
  have hTy : s.TypeIs (.ref z) "zip" := ⟨_, hz, rfl⟩
  unfold pyNext
  refine wpAny_bind (wpAny_attempt (wpAny_callSpecial?_slot (name := Str.ofString "__next__") hTy F.slot_zip_next
    (wpAny_call_entry F.slot_zip_next hTy F.entry_zip_next (zipH_next_end S D1 D2 hz hT hTI st1 st2 hle1 hle2 hend fun h' tk e hk he => ?_) (F.args_zip_next_1 _))))
  obtain ⟨o, ho, hc⟩ := he
  refine wpAny_bind (wpAny_isInstance (T := "StopIteration") (b := true) ⟨o, ho, hc⟩ isSubtype_stop ?_)
  exact wpAny_pure (hQ _ _ hk)))) Xq9.mk
end
end Ag
namespace Ag
open PySem PySem.Spec L2
/-- tuples laid one behind the other -/
def tls (H : Hp) : List (Addr × V × V) → Hp
  | [] => H
  | (t, x, y) :: r => tls (upd H t (.tup [x, y])) r
def tlF (H : Hp) : List (Addr × V × V) → Prop
  | [] => True
  | (t, x, y) :: r => H t = none ∧ tlF (upd H t (.tup [x, y])) r
theorem tls_snoc : ∀ {l : List (Addr × V × V)} {H : Hp} {t : Addr} {x y : V}, tls H (l ++ [(t, x, y)]) = upd (tls H l) t (.tup [x, y])
  | [], _, _, _, _ => rfl
  | (t', x', y') :: r, H, t, x, y => tls_snoc (l := r) (H := upd H t' (.tup [x', y']))
theorem tlF_snoc : ∀ {l : List (Addr × V × V)} {H : Hp} {t : Addr} {x y : V}, tlF H l → tls H l t = none → tlF H (l ++ [(t, x, y)])
  | [], _, _, _, _, _, h => ⟨h, trivial⟩
  | (t', x', y') :: r, H, t, x, y, h, k => ⟨h.1, tlF_snoc (l := r) h.2 k⟩
def lrefs (l : List (Addr × V × V)) : List V := l.map fun p => V.ref p.1
def lprs (l : List (Addr × V × V)) : List (V × V) := l.map fun p => p.2
section
variable {X : Cx} {pins : List (Addr × Obj)} {σ : St}
theorem fpok_upd {H : Hp} {b t : Addr} {o : HO} (h : FpOk X pins H b) (n : b ≠ t) : FpOk X pins (upd H t o) b := ⟨by rw [upd_ne n]; exact h.1, h.2⟩
theorem fpok_none {H H' : Hp} {b : Addr} (h : FpOk X pins H b) (n : H' b = none) : FpOk X pins H' b := ⟨n, h.2⟩
/-- the iterator zip at its turn i: no tuple of its own is out, or the first one still is -/
def ZSt (k1 k2 : Src) (a b : Addr) (its jts : Array Value) (N : Addr) (i : Nat) (q : Addr) (h : Heap) : Prop :=
  IsTupOf2 h (N + 2) (.ref N) (.ref (N + 1)) ∧ (k1.Iter h N a i ∧ k1.At h a its) ∧ (k2.Iter h (N + 1) b i ∧ k2.At h b jts) ∧
  ((i = 0 ∧ IsZip h (N + 4) (N + 2) (N + 3) .none ∧ ∃ x y, IsTupOf2 h (N + 3) x y) ∨ ∃ T f oT, IsZipHeld h (N + 4) (N + 2) (N + 3) T f ∧ h.get? T = some oT ∧ T ≠ q ∧ T ∉ zfp N)
theorem ZSt.keep {k1 k2 : Src} {a b : Addr} {its jts : Array Value} {N : Addr} {i : Nat} {q : Addr} {h h' : Heap} (z : ZSt k1 k2 a b its jts N i q h) (hq : q ∉ zfp N) (qa : q ≠ a) (qb : q ≠ b) (k : ∀ c o, c ≠ q → h.get? c = some o → h'.get? c = some o) : ZSt k1 k2 a b its jts N i q h' := @Rq9 _ _ (fun qz => @Hq9.get _ _ (qz.bar : Hq9 _ (by
  clear qz
  obtain ⟨z1, ⟨z2, z3⟩, ⟨z4, z5⟩, z6⟩ := z
  have m : ∀ c, c = N + 4 ∨ c = N + 2 ∨ c = N + 3 ∨ c = N ∨ c = N + 1 → c ≠ q := fun c z e => hq (by rw [← e]; simpa [zfp] using z)
  have at1 : ∀ {k : Src} {p : Addr} {ts : Array Value}, p ≠ q → k.At h p ts → k.At h' p ts := by
    intro k p ts n x
    cases k
    · obtain ⟨o, e, r⟩ := x; exact ⟨o, k _ _ n e, r⟩
    · obtain ⟨o, e, r⟩ := x; exact ⟨o, k _ _ n e, r⟩
  refine ⟨k _ _ (m _ (.inr (.inl rfl))) z1, ⟨Src.iterAt z2 fun o e => k _ _ (m _ (.inr (.inr (.inr (.inl rfl))))) e, at1 qa.symm z3⟩, ⟨Src.iterAt z4 fun o e => k _ _ (m _ (.inr (.inr (.inr (.inr rfl))))) e, at1 qb.symm z5⟩, ?_⟩
  rcases z6 with ⟨e, z6, x, y, z7⟩ | ⟨T, f, oT, y1, y2, y3, y4⟩
  · exact .inl ⟨e, k _ _ (m _ (.inl rfl)) z6, x, y, k _ _ (m _ (.inr (.inr (.inl rfl)))) z7⟩
  · exact .inr ⟨T, f, oT, k _ _ (m _ (.inl rfl)) y1, k _ _ y3 y2, y3, y4⟩))) Xq9.mk
theorem not_zfp {N q : Addr} (h : N + 4 < q) : q ∉ zfp N := fun z => by
  have key : ∀ (n r : Nat), n + 4 < r → r ≠ n + 4 ∧ r ≠ n + 2 ∧ r ≠ n + 3 ∧ r ≠ n ∧ r ≠ n + 1 := fun n r h => ⟨by omega, by omega, by omega, by omega, by omega⟩
  obtain ⟨a1, a2, a3, a4, a5⟩ := key N q h
  rcases zfp_mem z with e | e | e | e | e
  · exact a1 e
  · exact a2 e
  · exact a3 e
  · exact a4 e
  · exact a5 e
theorem lz_loop {k1 k2 : Src} {a b N q : Addr} {xs ys : List V} {its jts : List Value} {A1 : Around} {Rs : Result → Shared → Prop} {H1 : Hp} {n : Nat} (ha : a < N) (hb : b < N) (hq : N + 4 < q) (rv : Vals xs its) (rw_ : Vals ys jts) (hh : A1.in1.in1.handled = none) (hn : n = min xs.length ys.length) (hz : n ≤ sizeLine)
    (hdone : ∀ l s, l.length = n → (∀ (i : Nat) (p : V × V), (lprs l)[i]? = some p → xs[i]? = some p.1 ∧ ys[i]? = some p.2) → tlF H1 l → tls H1 l q = none → Inv X pins σ (upd (tls H1 l) q (.lst (lrefs l))) s → Rs (.ok (.ret .none)) s) :
    ∀ (k i : Nat) (l : List (Addr × V × V)) (s : Shared), n - i = k → i ≤ n → l.length = i → (∀ (i : Nat) (p : V × V), (lprs l)[i]? = some p → xs[i]? = some p.1 ∧ ys[i]? = some p.2) → tlF H1 l → tls H1 l q = none →
      Inv X pins σ (upd (tls H1 l) q (.lst (lrefs l))) s → (∀ c ∈ zfp N, FpOk X pins (upd (tls H1 l) q (.lst (lrefs l))) c) → ZSt k1 k2 a b its.toArray jts.toArray N i q s.heap →
      codeAny (model X.prog X.w) A1 (.builtin "list.extend.loop" ⟨[.ref q, .ref (N + 4), .none], []⟩) Rs s := @Rq9 _ _ (fun qz => @Hq9.get _ _ (qz.bar : Hq9 _ (by
  clear qz
  have S : ZipSep2 (N + 4) (N + 2) (N + 3) N (N + 1) [N, a] [N + 1, b] := zip_sep2 (fun c hc => by rw [List.mem_singleton.mp hc]; exact ha) (fun c hc => by rw [List.mem_singleton.mp hc]; exact hb)
  have na : a ≠ N := Nat.ne_of_lt ha
  have nb : b ≠ N + 1 := Nat.ne_of_lt (Nat.lt_succ_of_lt hb)
  have l1 := rv.length
  have l2 := rw_.length
  have d1 := Src.draws (prog := X.prog) (w := X.w) (A := A1.in1.in1) hh k1 N a na its.toArray
  have d2 := Src.draws (prog := X.prog) (w := X.w) (A := A1.in1.in1) hh k2 (N + 1) b nb jts.toArray
  have hqz : q ∉ zfp N := not_zfp hq
  have m : ∀ {c : Addr}, c ∉ zfp N → ∀ c', c' = N + 4 ∨ c' = N + 2 ∨ c' = N + 3 ∨ c' = N ∨ c' = N + 1 → c ≠ c' := fun nc c' z e => nc (by rw [e]; simpa [zfp] using z)
  intro k
  induction k with
  | zero =>
    intro i l s hk hi hl hp hF hqn I hf st
    have hin : i = n := by omega
    refine codeAny_builtin PySem.F.entry_extend_loop ?_
    rw [Around.under_plainId PySem.F.plain_extend_loop _]
    show wpAny _ A1.in1 (pyNext (.ref (N + 4)) >>= _) _ _ s
    obtain ⟨z1, st1, st2, z6⟩ := st
    have e1 : i ≤ its.toArray.size := by simp; omega
    have e2 : i ≤ jts.toArray.size := by simp; omega
    have e3 : i = its.toArray.size ∨ i = jts.toArray.size := by simp; omega
    have fin : ∀ (h' : Heap) (tk : Nat), (∀ c o, c ∉ zfp N → s.heap.get? c = some o → h'.get? c = some o) → Rs (.ok (.ret .none)) { s with heap := h', toks := tk } := fun h' tk kk =>
      hdone l _ (by omega) hp hF hqn (I.turnedL (t' := tk) (ch := zfp N) (fun c o nc e => kk c o nc e) hf)
    rcases z6 with ⟨_, z6, x, y, z7⟩ | ⟨T, f, oT, y1, y2, y3, y4⟩
    · exact wpAny_bind (wpAny_pyNext_zipD2_end S d1 d2 z6 z1 z7 st1 st2 e1 e2 e3 fun h' tk zk => wpAny_pure (fin h' tk fun c o nc e => zk c o (m nc _ (.inl rfl)) (m nc _ (.inr (.inr (.inl rfl)))) (m nc _ (.inr (.inr (.inr (.inl rfl))))) (m nc _ (.inr (.inr (.inr (.inr rfl))))) e))
    · exact wpAny_bind (zipH_pyNext_end S d1 d2 y1 y2 z1 st1 st2 e1 e2 e3 fun h' tk zk => wpAny_pure (fin h' tk fun c o nc e => zk c o (m nc _ (.inl rfl)) (m nc _ (.inr (.inr (.inr (.inl rfl))))) (m nc _ (.inr (.inr (.inr (.inr rfl))))) e))
  | succ k ih =>
    intro i l s hk hi hl hp hF hqn I hf st
    have hlt : i < n := by omega
    have lx : i < xs.length := by omega
    have ly : i < ys.length := by omega
    refine codeAny_builtin PySem.F.entry_extend_loop ?_
    rw [Around.under_plainId PySem.F.plain_extend_loop _]
    show wpAny _ A1.in1 (pyNext (.ref (N + 4)) >>= _) _ _ s
    obtain ⟨z1, st1, st2, z6⟩ := st
    have e1 : i < its.toArray.size := by simp; omega
    have e2 : i < jts.toArray.size := by simp; omega
    have zl : N + 4 < s.heap.objs.size := by
      rcases z6 with ⟨_, z6, _⟩ | ⟨T, f, oT, y1, _⟩
      · exact Heap.lt_size z6
      · exact Heap.lt_size y1
    have ql : q < s.heap.objs.size := by
      obtain ⟨_, _, _, _, _, e⟩ := I.lstM upd_same
      exact Heap.lt_size e
    generalize hT : s.heap.objs.size = T at zl ql
    -- behind the turn
    have go : ∀ (u v : Value) (h' : Heap) (tk : Nat), its.toArray[i]? = some u → jts.toArray[i]? = some v → IsTupOf2 h' T u v → (∀ c o, c ∉ zfp N → s.heap.get? c = some o → h'.get? c = some o) →
        ZSt k1 k2 a b its.toArray jts.toArray N (i + 1) q h' →
        wpAny (model X.prog X.w) A1.in1 (updateSeq q (·.push (.ref T)) >>= fun _ => again (.builtin "list.extend.loop" ⟨[.ref q, .ref (N + 4), .none], []⟩))
          (fun fin s' => match fin with | .done f => Rs (.ok f) s' | .again c' => c'.quiet = true ∧ codeAny (model X.prog X.w) A1 c' Rs s') (fun e s' => Rs (.error e) s') { s with heap := h', toks := tk } := by
      intro u v h' tk gu gv newT kk zs
      obtain ⟨x, hx, rx⟩ : ∃ x, xs[i]? = some x ∧ RelV x u := by
        obtain ⟨u', e, r⟩ := rv.get (List.getElem?_eq_getElem lx)
        have : u' = u := by simpa [e] using gu
        exact ⟨_, List.getElem?_eq_getElem lx, this ▸ r⟩
      obtain ⟨y, hy, ry⟩ : ∃ y, ys[i]? = some y ∧ RelV y v := by
        obtain ⟨u', e, r⟩ := rw_.get (List.getElem?_eq_getElem ly)
        have : u' = v := by simpa [e] using gv
        exact ⟨_, List.getElem?_eq_getElem ly, this ▸ r⟩
      have obj : ObjOk X.prog X.w (upd (upd (tls H1 l) q (.lst (lrefs l))) T (.tup [x, y])) h' T (.tup [x, y]) := ⟨by show 2 ≤ sizeLine; decide, [u, v], .cons rx (.cons ry .nil), ⟨_, newT, rfl, _, rfl⟩⟩
      have fT : upd (tls H1 l) q (.lst (lrefs l)) T = none := I.hok.fresh (Nat.le_of_eq hT)
      have nTq : T ≠ q := Nat.ne_of_gt ql
      have fT2 : tls H1 l T = none := by rw [upd_ne nTq] at fT; exact fT
      have I1 : Inv X pins σ (upd (upd (tls H1 l) q (.lst (lrefs l))) T (.tup [x, y])) { s with heap := h', toks := tk } := I.turnedNew (ch := zfp N) (fun c o nc e => kk c o nc e) hf (Nat.le_of_eq hT) obj
      have hHq : upd (upd (tls H1 l) q (.lst (lrefs l))) T (.tup [x, y]) q = some (.lst (lrefs l)) := by rw [upd_ne nTq.symm, upd_same]
      obtain ⟨z, jts', kq, r2, hl2, eq⟩ := I1.lstM hHq
      have hlen : (lrefs l).length = i := by unfold lrefs; rw [List.length_map]; exact hl
      have I2 := I1.lset (f := (·.push (.ref T))) (its' := jts' ++ [Value.ref T]) (ys := lrefs l ++ [V.ref T]) (t' := tk) hHq eq (by simp) (r2.append (.cons (show RelV (.ref T) (.ref T) from rfl) .nil)) (by rw [List.length_append, List.length_singleton, hlen]; omega)
      have hH : upd (upd (upd (tls H1 l) q (.lst (lrefs l))) T (.tup [x, y])) q (.lst (lrefs l ++ [V.ref T])) = upd (tls H1 (l ++ [(T, x, y)])) q (.lst (lrefs (l ++ [(T, x, y)]))) := by
        have e : lrefs (l ++ [(T, x, y)]) = lrefs l ++ [V.ref T] := by unfold lrefs; rw [List.map_append]; rfl
        rw [e, tls_snoc]
        funext c
        by_cases h1 : c = q
        · subst h1; rw [upd_same, upd_same]
        · rw [upd_ne h1, upd_ne h1]
          by_cases h2 : c = T
          · subst h2; rw [upd_same, upd_same]
          · rw [upd_ne h2, upd_ne h2, upd_ne h1]
      rw [hH] at I2
      refine wpAny_bind (wpAny_updateSeq eq rfl (wpAny_pure ⟨plainId_quiet PySem.F.plain_extend_loop _, ?_⟩) (by rw [List.size_toArray]; omega) (by show (jts'.toArray.push _).size ≤ sizeLine + 1; rw [Array.size_push, List.size_toArray]; omega))
      refine ih (i + 1) (l ++ [(T, x, y)]) _ (by omega) hlt (by rw [List.length_append, List.length_singleton, hl]) ?_ (tlF_snoc hF fT2) (by rw [tls_snoc, upd_ne nTq.symm]; exact hqn) I2 (fun c hc => ?_) (zs.keep hqz (Nat.ne_of_gt (Nat.lt_trans ha (Nat.lt_of_le_of_lt (Nat.le_add_right _ _) hq))) (Nat.ne_of_gt (Nat.lt_trans hb (Nat.lt_of_le_of_lt (Nat.le_add_right _ _) hq))) fun c o nc e => (Heap.get?_update_other _ _ (Ne.symm nc)).trans e)
      · intro j p hj
        unfold lprs at hj
        rw [List.map_append, List.getElem?_append] at hj
        split at hj
        · exact hp j p hj
        · rename_i hj2
          rw [List.length_map, hl] at hj2 hj
          have : j = i := by
            have := (List.getElem?_eq_some_iff.mp hj).1
            simp at this
            omega
          subst this
          simp at hj
          subst hj
          exact ⟨hx, hy⟩
      · have nq : c ≠ q := fun e => hqz (e ▸ hc)
        have nT : c ≠ T := by
          intro e
          rw [e] at hc
          exact not_zfp zl hc
        refine fpok_none (hf c hc) ?_
        have h0 := (hf c hc).1
        rw [upd_ne nq] at h0
        rw [upd_ne nq, tls_snoc, upd_ne nT]
        exact h0
    rcases z6 with ⟨_, z6, x, y, z7⟩ | ⟨T0, f, oT, y1, y2, y3, y4⟩
    · refine wpAny_bind (wpAny_pyNext_zipD2_item S d1 d2 z6 z1 z7 st1 st2 e1 e2 fun u v h' tk g1 g2 z1' z3 i1 i2 zt zs zk => ?_)
      rw [hT] at zt z1' ⊢
      have nTz : T ∉ zfp N := not_zfp zl
      refine go u v h' tk g1 g2 zt (fun c o nc e => zk c o (m nc _ (.inl rfl)) (m nc _ (.inr (.inr (.inl rfl)))) (m nc _ (.inr (.inr (.inr (.inl rfl))))) (m nc _ (.inr (.inr (.inr (.inr rfl))))) e) ⟨?_, i1, i2, .inr ⟨T, false, _, z1', zt, Nat.ne_of_gt ql, nTz⟩⟩
      exact zk _ _ S.TIz S.TITO S.TIi1 S.TIi2 z1
    · refine wpAny_bind (zipH_pyNext_item S d1 d2 y1 y2 z1 st1 st2 e1 e2 fun u v h' tk g1 g2 z1' i1 i2 zt zs zk => ?_)
      rw [hT] at zt ⊢
      refine go u v h' tk g1 g2 zt (fun c o nc e => zk c o (m nc _ (.inl rfl)) (m nc _ (.inr (.inr (.inr (.inl rfl))))) (m nc _ (.inr (.inr (.inr (.inr rfl))))) e) ⟨zk _ _ S.TIz S.TIi1 S.TIi2 z1, i1, i2, .inr ⟨T0, true, _, z1', zk _ _ (m y4 _ (.inl rfl)) (m y4 _ (.inr (.inr (.inr (.inl rfl))))) (m y4 _ (.inr (.inr (.inr (.inr rfl))))) y2, y3, y4⟩⟩))) Xq9.mk
theorem zip_no_len : typeLookup (.type "zip") "__len__" = pure none := by rw [typeLookup_type, builtinLookup_eq_fast]; kernel_rfl
theorem zip_no_hint : typeLookup (.type "zip") "__length_hint__" = pure none := by rw [typeLookup_type, builtinLookup_eq_fast]; kernel_rfl
/-- list(z) of a zip that stands at its first turn -/
theorem call_lz {k1 k2 : Src} {a b N : Addr} {xs ys : List V} {its jts : List Value} {s : Shared} {H : Hp} {Q : VK} (hc : X.calm = true) (I : Inv X pins σ H s) (ha : a < N) (hb : b < N) (rv : Vals xs its) (rw_ : Vals ys jts) (hz : min xs.length ys.length ≤ sizeLine)
    (hf : ∀ c ∈ zfp N, FpOk X pins H c) (z1 : IsTupOf2 s.heap (N + 2) (.ref N) (.ref (N + 1))) (st1 : k1.Iter s.heap N a 0 ∧ k1.At s.heap a its.toArray) (st2 : k2.Iter s.heap (N + 1) b 0 ∧ k2.At s.heap b jts.toArray)
    (z6 : IsZip s.heap (N + 4) (N + 2) (N + 3) .none) (z7 : ∃ x y, IsTupOf2 s.heap (N + 3) x y)
    (hq : ∀ l q, l.length = min xs.length ys.length → (∀ (i : Nat) (p : V × V), (lprs l)[i]? = some p → xs[i]? = some p.1 ∧ ys[i]? = some p.2) → tlF H l → tls H l q = none → Q (.ref q) (upd (tls H l) q (.lst (lrefs l)))) :
    wpAny (model X.prog X.w) X.A (call (.type "list") [.ref (N + 4)]) (EP X pins σ Q) X.xe s := @Rq9 _ _ (fun qz => @Hq9.get _ _ (qz.bar : Hq9 _ (by
  clear qz
  refine callType_codes (Q₁ := fun obj s₁ => obj = .ref s.heap.objs.size ∧ s₁ = { s with heap := s.heap.push { cls := .type "list", data := .seq #[] } }) PySem.F.called_list (PySem.F.typeCall_list_1 _) PySem.F.entry_list_init
    (code_list_new _ ⟨rfl, rfl⟩) fun obj s₁ h₁ => ?_
  obtain ⟨rfl, rfl⟩ := h₁
  have hS : (s.heap.push { cls := .type "list", data := .seq #[] }).get? s.heap.objs.size = some { cls := .type "list", data := .seq #[] } := Heap.get?_push_size _ rfl
  refine ⟨⟨_, hS, rfl⟩, PySem.F.args_list_init_2 _ _, ?_⟩
  have fr : H s.heap.objs.size = none := I.hok.fresh (Nat.le_refl _)
  have I1 : Inv X pins σ (upd H s.heap.objs.size (.lst [])) { s with heap := s.heap.push { cls := .type "list", data := .seq #[] } } := I.lnew (its := []) (t' := s.toks) .nil (Nat.zero_le _)
  have zl : N + 4 < s.heap.objs.size := Heap.lt_size z6
  generalize hT : s.heap.objs.size = q at hS fr I1 zl
  show wpAny _ _ (do let old ← Builtin.List.listItems (.ref q); Builtin.List.listUpdate (.ref q) (fun _ => #[]); letGo old.toList.reverse; Builtin.List.listExtendWith (.ref q) (.ref (N + 4)) .none) _ _ _
  refine wpAny_bind ?_
  unfold Builtin.List.listItems
  refine wpAny_bind (wpAny_seqItems hS rfl (wpAny_pure ?_))
  show wpAny _ _ (updateSeq q (fun _ => #[]) >>= fun _ => letGo (#[] : Array Value).toList.reverse >>= fun _ => Builtin.List.listExtendWith (.ref q) (.ref (N + 4)) .none) _ _ _
  refine wpAny_bind (wpAny_updateSeq hS rfl ?_)
  have I2 := I1.lset (f := fun _ => #[]) (its := []) (its' := []) (ys := []) (t' := s.toks) upd_same hS rfl .nil (Nat.zero_le _)
  rw [upd_upd] at I2
  refine wpAny_bind (wpAny_letGo ?_)
  have hqz : q ∉ zfp N := not_zfp zl
  have kp : ∀ c o, c ≠ q → s.heap.get? c = some o → ((s.heap.push { cls := .type "list", data := .seq #[] }).update q (Obj.mapSeq fun _ => #[])).get? c = some o := fun c o nc e => (Heap.get?_update_other _ _ (Ne.symm nc)).trans (Heap.get?_push_of_some _ e)
  have na : q ≠ a := Nat.ne_of_gt (Nat.lt_trans ha (Nat.lt_of_le_of_lt (Nat.le_add_right _ _) zl))
  have nb : q ≠ b := Nat.ne_of_gt (Nat.lt_trans hb (Nat.lt_of_le_of_lt (Nat.le_add_right _ _) zl))
  have zs : ZSt k1 k2 a b its.toArray jts.toArray N 0 q s.heap := ⟨z1, st1, st2, .inl ⟨rfl, z6, z7⟩⟩
  have zs2 := zs.keep hqz na nb kp
  have z62 : IsZip ((s.heap.push { cls := .type "list", data := .seq #[] }).update q (Obj.mapSeq fun _ => #[])) (N + 4) (N + 2) (N + 3) .none := kp _ _ (fun e => hqz (by rw [← e]; simp [zfp])) z6
  generalize (s.heap.push { cls := .type "list", data := .seq #[] }).update q (Obj.mapSeq fun _ => #[]) = h2 at I2 zs2 z62
  have hT2 : ∀ tk, (⟨h2, s.gens, s.drawn, tk, s.os⟩ : Shared).TypeIs (.ref (N + 4)) "zip" := fun _ => ⟨_, z62, rfl⟩
  have fin : ∀ (s3 : Shared), Inv X pins σ (upd H q (.lst [])) s3 → ZSt k1 k2 a b its.toArray jts.toArray N 0 q s3.heap →
      codeAny (model X.prog X.w) X.A.in1 (.builtin "list.extend.loop" ⟨[.ref q, .ref (N + 4), .none], []⟩) (wants (fun r s₂ => r = .none ∧ EP X pins σ Q (.ref q) s₂) X.xe) s3 := fun s3 I3 zs3 =>
    lz_loop (A1 := X.A.in1) (H1 := H) (n := min xs.length ys.length) (Rs := wants (fun r s₂ => r = .none ∧ EP X pins σ Q (.ref q) s₂) X.xe) ha hb zl rv rw_ (I.ok.hd hc) rfl hz
      (fun l s' h1 h2 h3 h4 I' => ⟨rfl, .ref q, _, I', rfl, hq l q h1 h2 h3 h4⟩) _ 0 [] s3 rfl (Nat.zero_le _) rfl (fun i p e => by simp [lprs] at e) trivial fr I3 (fun c hcm => fpok_upd (hf c hcm) fun e => hqz (e ▸ hcm)) zs3
  unfold Builtin.List.listExtendWith
  refine wpAny_bind (wpAny_typeOf (hT2 _) ?_)
  have h1 : Builtin.List.listSameRef (.ref q) (.ref (N + 4)) = false := by
    have : q ≠ N + 4 := Nat.ne_of_gt zl
    simp [Builtin.List.listSameRef, this]
  have h2' : (Value.type "zip" == Value.type "list") = false := by decide
  have h3 : (Value.type "zip" == Value.type "tuple") = false := by decide
  simp only [h1, h2', h3, Bool.or_false, Bool.false_eq_true, if_false]
  refine wpAny_bind (wpAny_pyIter_zip z62 ?_)
  refine wpAny_bind (wpAny_holding ?_)
  unfold Builtin.List.listLengthHint
  refine wpAny_bind (wpAny_specialOf (hT2 _) zip_no_len ?_)
  show wpAny _ _ (specialOf (Value.ref (N + 4)) (Str.ofString "__length_hint__") >>= _) _ _ _
  refine wpAny_bind (wpAny_specialOf (hT2 _) zip_no_hint ?_)
  refine wpAny_pure ?_
  obtain ⟨z, its3, k3, r3, hl3, e3⟩ := I2.lstM upd_same
  cases r3
  refine wpAny_ite_split (fun _ => ?_) (fun _ => wpAny_pure ⟨plainId_quiet PySem.F.plain_extend_loop _, fin _ I2 zs2⟩)
  refine wpAny_bind (wpAny_rule ?_)
  refine wpAny_bind ?_
  show wpAny _ _ (updateSeq q (·.push .none) >>= fun _ => updateSeq q (·.pop)) _ _ _
  refine wpAny_bind (wpAny_updateSeq e3 rfl ?_)
  have I3 := I2.lset (f := (·.push Value.none)) (its' := [Value.none]) (ys := [.non]) (t' := s.toks) upd_same e3 (by simp) (.cons rfl .nil) (by rw [List.length_singleton, sizeLine_eq]; decide)
  obtain ⟨z4, its4, k4, r4, hl4, e4⟩ := I3.lstM upd_same
  obtain ⟨u4, rfl, ru4⟩ := r4.one
  refine wpAny_updateSeq e4 rfl ?_ (by show 1 ≤ sizeLine; rw [sizeLine_eq]; decide) (by show 0 ≤ sizeLine + 1; exact Nat.zero_le _)
  refine wpAny_pure ⟨plainId_quiet PySem.F.plain_extend_loop _, fin _ ?_ (zs2.keep hqz na nb fun c o nc e => (Heap.get?_update_other _ _ (Ne.symm nc)).trans ((Heap.get?_update_other _ _ (Ne.symm nc)).trans e))⟩
  have I4 := I3.lset (f := (·.pop)) (its := [u4]) (its' := []) (ys := []) (t' := s.toks) upd_same e4 (by rfl) .nil (Nat.zero_le _)
  rw [upd_upd, upd_upd] at I4
  exact I4))) Xq9.mk
end
end Ag
namespace Ag
open PySem PySem.Spec L2
/-! ### xs[::-1] of a list -/
section
variable {X : Cx} {p2 pos : Pos} {e st : Expr} {te ts : TE}
theorem pe_rsl {jj : _} {pk pm : Pos} (hst : PE X (.UnaryOp .USub (.Constant (.int 1) jj pk) pm) ts) (he : PE X e te) : PE X (.Subscript e (.Slice none none (some (.UnaryOp .USub (.Constant (.int 1) jj pk) pm)) p2) pos) (fun σ H Q => te σ H fun x H1 => tPart ts σ H1 fun k H2 => k = some (-1) ∧ ∃ a xs, x = .ref a ∧ SqL X.K H2 a xs ∧ ∀ p, H2 p = none → Q (.ref p) (upd H2 p (.lst xs.reverse))) := @Rq9 _ _ (fun qz => @Hq9.get _ _ (qz.bar : Hq9 _ (by
  clear qz
  refine ⟨fun pins s σ H Q I h => ?_⟩
  refine PyProof.Rows.Subscript_ (thn (he.run pins s σ H _ I h) fun v s1 ⟨x, H1, I1, r1, q1⟩ => ?_)
  refine wpAny_Slice (thn (po_none.run pins s1 σ H1 (fun l H2 => l = none ∧ H2 = H1) I1 ⟨rfl, rfl⟩) fun vl s2 ⟨l, H2, I2, pl, e2, eH2⟩ => thn (po_none.run pins s2 σ H2 (fun u H3 => u = none ∧ H3 = H2) I2 ⟨rfl, rfl⟩) fun vu s3 ⟨u, H3, I3, pu, e3, eH3⟩ => ?_)
  have eH : H3 = H1 := eH3.trans eH2
  subst e2 e3 eH
  refine thn ((po_some hst).run pins s3 σ H3 _ I3 q1) fun vk s4 ⟨k, H4, I4, pk, ek, a, xs, ex, hx, q⟩ => ?_
  subst ek ex
  cases r1
  have I5 : Inv X pins σ H4 { s4 with heap := s4.heap.push { cls := .type "slice", data := .fields #[vl, vu, vk] } } := I4.kept (t' := s4.toks) fun b ob q => Heap.get?_push_of_some _ q
  obtain ⟨its, r, ht, hz⟩ := I5.list hx
  refine PyProof.Rows.tail_any (ops := [.ref a, .ref s4.heap.objs.size]) ht.isList.typeIs slot_list_getitem.lookup ?_ (by with_unfolding_all rfl)
  refine wpAny_getItem_list_slice ht.isList (Heap.IsSliceOf.new ..) pl pu pk (by decide) ?_ (by rw [List.size_toArray, ← r.length]; exact hz)
  rw [PySem.W.krv_pick]
  exact ⟨.ref _, _, I5.laid (t' := s4.toks) (o := .lst xs.reverse) (fun b ob q => Heap.get?_push_of_some _ q) (Nat.le_refl _) ⟨by rw [List.length_reverse]; exact hz, _, 0, r.reverse, Heap.get?_push_size _ rfl⟩, rfl, q _ (I5.hok.fresh (Nat.le_refl _))⟩))) Xq9.mk
end
section
variable {E : En} {e a b c : Expr} {ta tb tc : Tm} {fr : Fr} {σ tp : St} {H F : Hp} {io : List Addr} {Q : VK} {pos p2 : Pos} {es : List Expr} {ts : List Tm}
theorem SE_rsl {jj : _} {pk pm : Pos} (ok : E.Ok) (ha : SE E a ta) (hst : SE E (.UnaryOp .USub (.Constant (.int 1) jj pk) pm) (.neg (.int 1))) : SE E (.Subscript a (.Slice none none (some (.UnaryOp .USub (.Constant (.int 1) jj pk) pm)) p2) pos) (.rsl ta) := @Rq9 _ _ (fun qz => @Hq9.get _ _ (qz.bar : Hq9 _ (by
  clear qz
  intro fr σ tp H F io Q hl w h
  refine wE_of (pe_rsl pe_w pe_w) ?_
  unfold ev at h
  refine ha.held hl w h fun r fr1 v H1 F1 io1 s1 p1 w1 hk h1 => ?_
  cases e1 : look fr1.env (hold r) with
  | none => simp [e1] at h1; exact h1.elim
  | some d =>
    simp only [e1] at h1
    cases d with
    | lst ys =>
      have lk := w1.look hk e1
      refine hst fr1 σ tp H1 F1 io1 _ hl w1 ?_
      show okE E σ tp F1 io1 _ (.out (.val (.int (-1)))) fr1
      intro v2 H2 F2 io2 s2 p2 w2 r2
      cases r2
      refine ⟨-1, rfl, rfl, ?_⟩
      obtain ⟨q, us, rfl, h2, r3⟩ := (w2.look (hk.mono s2 p2) e1).lst w2.wr.sub
      exact ⟨q, us, rfl, SqL.of h2, fun p hp => okE.fresh w2 r3.reverse (okE.mono (s1.trans s2) (p1.trans p2) h1) hp⟩
    | _ => exact h1.elim))) Xq9.mk
/-! ### list(range(a, b)) -/
theorem reps_rg {G : Glb} {lo hi : Int} : Reps G F io (rangeD lo (hi - lo).toNat) (rgV lo hi) := @Rq9 _ _ (fun qz => @Hq9.get _ _ (qz.bar : Hq9 _ (by
  clear qz
  unfold rangeD rgV
  generalize List.range (hi - lo).toNat = l
  induction l with
  | nil => exact .nil
  | cons x l ih => exact .cons (.int _) ih))) Xq9.mk
theorem SE_lrange (ok : E.Ok) {p q2 pos2 : Pos} (hg : Gl E.X "range") (hm : E.X.mg "range" = none) (hg2 : Gl E.X "list") (hm2 : E.X.mg "list" = none) (hs : notStar a = true) (hs2 : notStar b = true) (ha : SE E a ta) (hb : SE E b tb) :
    SE E (.Call (.Name "list" p) [.Call (.Name "range" q2) [a, b] [] pos2] [] pos) (.lrange ta tb) := @Rq9 _ _ (fun qz => @Hq9.get _ _ (qz.bar : Hq9 _ (by
  clear qz
  intro fr σ tp H F io Q hl w h
  refine wE_of (pe_listRg ok.calm hg2 hm2 (prg_2 hg hm pe_w pe_w (star_ne hs _ _) (star_ne hs2 _ _) (by rw [star_ne hs2]; rfl))) ?_
  unfold ev at h
  show wE E.X a σ H fun x H1 => wE E.X b σ H1 fun y H2 => ∃ i j, x = .int i ∧ y = .int j ∧ _
  refine ha.part hl w h fun d fr1 v H1 F1 io1 s1 p1 w1 r1 z => ?_
  refine hb.part hl w1 z fun d2 fr2 v2 H2 F2 io2 s2 p2 w2 r2 z2 => ?_
  cases d with
  | int lo =>
    cases d2 with
    | int hi =>
      cases r1
      cases r2
      have z2 : ((if -(2 ^ 62) < lo ∧ lo < 2 ^ 62 ∧ -(2 ^ 62) < hi ∧ hi < 2 ^ 62 ∧ (hi - lo).toNat ≤ 2 ^ 24 then .ok (.out (.fresh (rangeD lo (hi - lo).toNat))) fr2 else .bad) : Rs RV).all _ _ := z2
      split at z2
      case isFalse => exact z2.elim
      rename_i hz
      refine ⟨lo, hi, rfl, rfl, ⟨by omega, by omega, by omega, by omega, hz.2.2.2.2⟩, fun q hq => okE.fresh w2 reps_rg (okE.mono (s1.trans s2) (p1.trans p2) z2) hq⟩
    | _ => exact z2.elim
  | _ => exact z2.elim))) Xq9.mk
/-! ### list(zip(a, b)) -/
theorem laid_all {G : Glb} {B : Ent} {n0 : Nat} {ρ : St} : ∀ {l : List (Addr × V × V)} {H F : Hp}, Ws G B n0 fr ρ H F io → tlF H l → ∀ {ds : List (Ag.D × Ag.D)}, (∀ (i : Nat) (p : V × V), (lprs l)[i]? = some p → ∃ d, ds[i]? = some d ∧ Rep G F io d.1 p.1 ∧ Rep G F io d.2 p.2) → ds.length = l.length →
    ∃ F', Same F F' ∧ Ws G B n0 fr ρ (tls H l) F' io ∧ Reps G F' io (ds.map fun d => .tup [d.1, d.2]) (lrefs l)
  | [], H, F, w, _, ds, _, hl => by
    have : ds = [] := List.length_eq_zero_iff.mp hl
    subst this
    exact ⟨F, Same.refl _, w, .nil⟩
  | (t, x, y) :: r, H, F, w, hf, ds, hd, hl => by
    cases ds with
    | nil => simp at hl
    | cons d ds =>
      obtain ⟨d', e, r1, r2⟩ := hd 0 (x, y) rfl
      cases e
      obtain ⟨F1, s1, w1, rt⟩ := w.newTup hf.1 (.cons r1 (.cons r2 .nil))
      obtain ⟨F2, s2, w2, rs⟩ := laid_all (l := r) w1 hf.2 (ds := ds) (fun i p e => by
        obtain ⟨d', e2, q1, q2⟩ := hd (i + 1) p e
        exact ⟨d', e2, q1.mono s1 (Pre.refl _), q2.mono s1 (Pre.refl _)⟩) (by simpa using hl)
      exact ⟨F2, s1.trans s2, w2, .cons (rt.mono s2 (Pre.refl _)) rs⟩
def zipP : List Ag.D → List Ag.D → List (Ag.D × Ag.D)
  | x :: xs, y :: ys => (x, y) :: zipP xs ys
  | _, _ => []
theorem zipP_map : ∀ xs ys : List Ag.D, (zipP xs ys).map (fun d => Ag.D.tup [d.1, d.2]) = zipD xs ys
  | x :: xs, y :: ys => by show _ :: (zipP xs ys).map _ = _; rw [zipP_map xs ys]; rfl
  | [], _ => by simp [zipP, zipD]
  | _ :: _, [] => by simp [zipP, zipD]
theorem zipP_len : ∀ xs ys : List Ag.D, (zipP xs ys).length = min xs.length ys.length
  | x :: xs, y :: ys => by show (zipP xs ys).length + 1 = _; rw [zipP_len xs ys]; simp only [List.length_cons]; omega
  | [], _ => by simp [zipP]
  | _ :: _, [] => by simp [zipP]
theorem zipP_at : ∀ (xs ys : List Ag.D) (i : Nat) (x y : Ag.D), xs[i]? = some x → ys[i]? = some y → (zipP xs ys)[i]? = some (x, y)
  | x :: xs, y :: ys, 0, _, _, h1, h2 => by cases h1; cases h2; rfl
  | x :: xs, y :: ys, i + 1, a, b, h1, h2 => zipP_at xs ys i a b h1 h2
  | [], _, _, _, _, h1, _ => by simp at h1
  | _ :: _, [], _, _, _, _, h2 => by simp at h2
theorem SE_lzip (ok : E.Ok) {p p2 pos2 : Pos} (hg : Gl E.X "zip") (hm : E.X.mg "zip" = none) (hg2 : Gl E.X "list") (hm2 : E.X.mg "list" = none) (hs : notStar a = true) (hs2 : notStar b = true) (ha : SE E a ta) (hb : SE E b tb) :
    SE E (.Call (.Name "list" p) [.Call (.Name "zip" p2) [a, b] [] pos2] [] pos) (.lzip ta tb) := @Rq9 _ _ (fun qz => @Hq9.get _ _ (qz.bar : Hq9 _ (by
  clear qz
  intro fr σ tp H F io Q hl w h
  have hA : wA E.X [a, b] σ H fun vs H1 => ∃ q1 q2 us1 us2 k1 k2, vs = [V.ref q1, V.ref q2] ∧ Src.Sq k1 E.X.K H1 q1 us1 ∧ Src.Sq k2 E.X.K H1 q2 us2 ∧ min us1.length us2.length ≤ sizeLine ∧
      ∀ l q, l.length = min us1.length us2.length → (∀ (i : Nat) (p : V × V), (lprs l)[i]? = some p → us1[i]? = some p.1 ∧ us2[i]? = some p.2) → tlF H1 l → tls H1 l q = none → Q (.ref q) (upd (tls H1 l) q (.lst (lrefs l))) := by
    refine wA_of (pa_cons pe_w (pa_cons pe_w pa_nil (star_ne hs2 _ _)) (star_ne hs _ _)) ?_
    unfold ev at h
    show wE E.X a σ H fun x H1 => wE E.X b σ H1 fun y H2 => _
    refine ha.part hl w h fun d fr1 v H1 F1 io1 s1 p1 w1 r1 z => ?_
    refine hb.part hl w1 z fun d2 fr2 v2 H2 F2 io2 s2 p2 w2 r2 z2 => ?_
    cases e1 : seqOf d with
    | none => simp [e1] at z2; exact z2.elim
    | some xs =>
      cases e2 : seqOf d2 with
      | none => simp [e1, e2] at z2; exact z2.elim
      | some ys =>
        simp only [e1, e2] at z2
        split at z2
        case isFalse => exact z2.elim
        rename_i hz
        obtain ⟨k1, q1, vs, rfl, g1, c1⟩ := (r1.mono s2 p2).src e1
        obtain ⟨k2, q2, us, rfl, g2, c2⟩ := r2.src e2
        have l1 := c1.length
        have l2 := c2.length
        rw [ok.k] at g1 g2
        rw [zipD_len] at hz
        refine ⟨q1, q2, vs, us, k1, k2, rfl, g1 H2 w2.wr.sub, g2 H2 w2.wr.sub, by rw [← l1, ← l2]; exact hz, fun l q hl1 hp hf hq => ?_⟩
        obtain ⟨F3, s3, w3, r3⟩ := laid_all w2 hf (ds := zipP xs ys) (fun i p e => by
          obtain ⟨h1, h2⟩ := hp i p e
          have i1 := (List.getElem?_eq_some_iff.mp h1).1
          have i2 := (List.getElem?_eq_some_iff.mp h2).1
          obtain ⟨u1, b1, d1⟩ := c1.get (List.getElem?_eq_getElem (show i < xs.length by omega))
          obtain ⟨u2, b2, d2⟩ := c2.get (List.getElem?_eq_getElem (show i < ys.length by omega))
          rw [h1] at b1; cases b1
          rw [h2] at b2; cases b2
          exact ⟨_, zipP_at xs ys i _ _ (List.getElem?_eq_getElem _) (List.getElem?_eq_getElem _), d1, d2⟩) (by rw [zipP_len, hl1, l1, l2])
        rw [zipP_map] at r3
        exact okE.fresh w3 r3 (okE.mono s3 (Pre.refl _) (okE.mono (s1.trans s2) (p1.trans p2) z2)) hq
  intro pins s I
  refine PyProof.Rows.Call_ (ld_blt I hg2 hm2 PyProof.Rows.boot_list (PyProof.Rows.callWith_type1 (PyProof.Rows.args_cons ?_)))
  refine PyProof.Rows.Call_ (ld_blt I hg hm PyProof.Rows.boot_zip (PyProof.Rows.callWith_type1 (thn (hA _ pins s I) fun us s1 q => ?_) (star_ne hs _ _) (by rw [star_ne hs2]; rfl)))
  obtain ⟨vs, H1, I1, r1, q1, q2, us1, us2, k1, k2, rfl, g1, g2, hz, hq⟩ := q
  obtain ⟨u1, u2, rfl, r1, r2⟩ := vals2 r1
  obtain rfl : u1 = Value.ref q1 := r1
  obtain rfl : u2 = Value.ref q2 := r2
  obtain ⟨its, rv, t1, la⟩ := Src.items I1 g1
  obtain ⟨jts, rw_, t2, lb⟩ := Src.items I1 g2
  refine zip_begins2 (Src.begins k1 q1 its.toArray) (Src.begins k2 q2 jts.toArray) t1 t2 fun h' z zt zo o1 o2 zs zk => PyProof.Rows.args_nil ?_
  have I2 : Inv E.X pins σ H1 { s1 with heap := h' } := I1.kept (t' := s1.toks) zk
  refine call_lz (k1 := k1) (k2 := k2) (s := { s1 with heap := h' }) ok.calm I2 la lb rv rw_ hz (fun c hc => ?_) zt ⟨Src.iterNew o1, ?_⟩ ⟨Src.iterNew o2, ?_⟩ z ⟨_, _, zo⟩ hq
  · have hle : s1.heap.objs.size ≤ c := by
      rcases zfp_mem hc with rfl | rfl | rfl | rfl | rfl
      · exact Nat.le_add_right _ _
      · exact Nat.le_add_right _ _
      · exact Nat.le_add_right _ _
      · exact Nat.le_refl _
      · exact Nat.le_add_right _ _
    exact I1.fpOk hle (I1.hok.fresh hle)
  · cases k1
    · exact Heap.IsList.at t1 fun o e => zk _ _ e
    · obtain ⟨o, e, r⟩ := t1; exact ⟨o, zk _ _ e, r⟩
  · cases k2
    · exact Heap.IsList.at t2 fun o e => zk _ _ e
    · obtain ⟨o, e, r⟩ := t2; exact ⟨o, zk _ _ e, r⟩))) Xq9.mk
end
end Ag
namespace Ag
open PySem PySem.Spec L2
/-- the exception class named x: raised with n arguments, it keeps them under its fields' names -/
def RaisOk (E : En) (x : Str) (c n : Nat) : Prop := ∀ (e : Expr) (es : List Expr) (p pos : Pos), Gl E.X x → (x == ("__debug__" : Str)) = false → allNot (e :: es) = true → (e :: es).length = n →
  PMk E.X (.Call (.Name x p) (e :: es) [] pos) fun σ H Q => wA E.X (e :: es) σ H fun vs H1 => vs.length = n ∧ ∀ d, H1 d = none → Q (.ref (E.G.cl c)) (some d) (upd H1 d (.xd ((((E.G.xf c).map E.G.fn).zip vs).reverse)))
theorem zip_look : ∀ {ns : List Str} {vs : List V} {i : Nat} {x : Str} {v : V}, ns.Nodup → ns[i]? = some x → vs[i]? = some v → (ns.zip vs).reverse.lookup x = some v
  | [], _, _, _, _, _, h, _ => by simp at h
  | p :: ns, [], i, _, _, _, _, h => by simp at h
  | p :: ns, w :: vs, 0, x, v, hn, h1, h2 => by
    simp at h1 h2
    subst h1 h2
    rw [List.zip_cons_cons, List.reverse_cons, List.lookup_append]
    have : (ns.zip vs).reverse.lookup p = none := by
      rw [List.lookup_eq_none_iff]
      intro y hy
      have := (List.of_mem_zip (List.mem_reverse.mp hy : (y.1, y.2) ∈ ns.zip vs)).1
      have h3 := (List.nodup_cons.mp hn).1
      first
        | exact bne_iff_ne.mpr fun z => h3 (z ▸ this)
        | (simp only [bne_iff_ne, ne_eq, beq_eq_false_iff_ne]; exact fun z => h3 (z ▸ this))
    rw [this]
    simp
  | p :: ns, w :: vs, i + 1, x, v, hn, h1, h2 => by
    rw [List.zip_cons_cons, List.reverse_cons, List.lookup_append]
    rw [zip_look (i := i) (List.nodup_cons.mp hn).2 (by simpa using h1) (by simpa using h2)]
    rfl
section
variable {E : En} {e a b c : Expr} {ta tb tc : Tm} {fr : Fr} {σ tp : St} {H F : Hp} {io : List Addr} {Q : VK} {pos : Pos} {es : List Expr} {ts : List Tm} {D : Ends}
theorem map_nodup (inj : ∀ f g, E.G.fn f = E.G.fn g → f = g) : ∀ {l : List Nat}, l.Nodup → (l.map E.G.fn).Nodup
  | [], _ => by simp
  | f :: l, h => by
    rw [List.map_cons, List.nodup_cons]
    refine ⟨fun z => ?_, map_nodup inj (List.nodup_cons.mp h).2⟩
    obtain ⟨g, hg, e⟩ := List.mem_map.mp z
    exact (List.nodup_cons.mp h).1 (inj _ _ e ▸ hg)
theorem evs_len {T : Tab} : ∀ {ts : List Tm} {fr fr' : Fr} {ds : List Ag.D}, evs T ts fr = .ok ds fr' → ds.length = ts.length
  | [], fr, fr', ds, h => by
    unfold evs at h
    cases h; rfl
  | t :: ts, fr, fr', ds, h => by
    unfold evs at h
    cases q : ev T t fr with
    | exc c fs fr1 => rw [q] at h; cases h
    | bad => rw [q] at h; cases h
    | ok r fr1 =>
      rw [q] at h
      have h : (match toD fr1 r with | some (d, fr2) => (evs T ts fr2).bind fun ds fr2 => Rs.ok (d :: ds) fr2 | none => .bad) = Rs.ok ds fr' := h
      cases q2 : toD fr1 r with
      | none => rw [q2] at h; cases h
      | some p =>
        rw [q2] at h
        obtain ⟨d, fr2⟩ := p
        have h : (evs T ts fr2).bind (fun ds fr2 => Rs.ok (d :: ds) fr2) = Rs.ok ds fr' := h
        cases q3 : evs T ts fr2 with
        | exc c fs fr1 => rw [q3] at h; cases h
        | bad => rw [q3] at h; cases h
        | ok ds3 fr3 =>
          rw [q3] at h
          have h : Rs.ok (d :: ds3) fr3 = Rs.ok ds fr' := h
          cases h
          rw [List.length_cons, List.length_cons, evs_len q3]
theorem all_len {T : Tab} {ts : List Tm} {fr : Fr} {P : List Ag.D → Fr → Prop} {PX : Nat → List Ag.D → Fr → Prop} (h : (evs T ts fr).all P PX) : (evs T ts fr).all (fun ds fr' => ds.length = ts.length ∧ P ds fr') PX := @Rq9 _ _ (fun qz => @Hq9.get _ _ (qz.bar : Hq9 _ (by
  clear qz
  cases q : evs T ts fr with
  | ok ds fr' =>
    rw [q] at h
    exact ⟨evs_len q, h⟩
  | exc c fs fr' => rw [q] at h; exact h
  | bad => rw [q] at h; exact h))) Xq9.mk
theorem SS_rais (ok : E.Ok) {x : Str} {c : Nat} {p pos' : Pos} (hx : RaisOk E x c (e :: es).length) (hf : (E.G.xf c).Nodup) (hg : Gl E.X x) (hd : (x == ("__debug__" : Str)) = false) (hs : allNot (e :: es) = true) (hl2 : ts.length = (e :: es).length) (ha : SA E (e :: es) ts) :
    SS E (.Raise (some (.Call (.Name x p) (e :: es) [] pos')) none pos) (.rais c ts) := @Rq9 _ _ (fun qz => @Hq9.get _ _ (qz.bar : Hq9 _ (by
  clear qz
  intro fr σ tp H F io D hl w h
  refine wS_of (ps_raise ok.calm ok.tk (hx e es p pos' hg hd hs rfl)) ?_
  unfold ex at h
  refine ha fr σ tp H F io _ hl w (Rs.all_imp (all_len (Rs.all_toS h)) (fun ds fr1 z => ?_) fun _ _ _ z => okS.exE hl z)
  obtain ⟨hdl, z⟩ := z
  intro vs H1 F1 io1 s1 p1 w1 r1
  refine ⟨by rw [← r1.length, hdl, hl2], fun d hd0 => ?_⟩
  obtain ⟨s2, w2⟩ := w1.newFrz hd0 (.xd ((((E.G.xf c).map E.G.fn).zip vs).reverse)) trivial
  refine z (some d) σ _ _ io1 hl (s1.trans s2) p1 w2 (.inr ⟨d, _, rfl, upd_same, fun i f x h1 h2 => ?_⟩)
  obtain ⟨v, hv, rv⟩ := r1.get h2
  exact ⟨v, zip_look (map_nodup ok.inj hf) (by rw [List.getElem?_map, h1]; rfl) hv, rv.mono s2 (Pre.refl _)⟩))) Xq9.mk
end
def hxIx : List Str → Str → Option Nat
  | [], _ => none
  | y :: ys, x => if y = x then some 0 else (hxIx ys x).map (· + 1)
theorem hxIx_at : ∀ {N : List Str} {x : Str} {i : Nat}, hxIx N x = some i → N[i]? = some x
  | [], _, _, e => by cases e
  | y :: ys, x, i, e => by
    unfold hxIx at e
    by_cases h : y = x
    · rw [if_pos h] at e; cases e; simp [h]
    · rw [if_neg h] at e
      cases q : hxIx ys x with
      | none => rw [q] at e; cases e
      | some j => rw [q] at e; cases e; simpa using hxIx_at q
mutual
/-- an except clause's expression: constants, fields of the exception, tuples -/
def cvHx (x : Option Str) (fs : List Str) : Nat → Expr → Option Hx
  | 0, _ => none
  | n + 1, e => match e with
    | .Constant .none _ _ => some .non
    | .Constant (.bool b) _ _ => some (.bl b)
    | .Constant (.int i) _ _ => some (.int i)
    | .Constant (.str s) _ _ => some (.str s)
    | .Attribute (.Name y _) f _ => if x = some y then (hxIx fs f).map .fld else none
    | .Tuple es _ _ => (cvHxs x fs n es).map .tup
    | _ => none
def cvHxs (x : Option Str) (fs : List Str) : Nat → List Expr → Option (List Hx)
  | 0, _ => none
  | _ + 1, [] => some []
  | n + 1, e :: es => if notStar e then (cvHx x fs n e).bind fun h => (cvHxs x fs n es).bind fun hs => some (h :: hs) else none
end
section
variable {E : En} {e a b c : Expr} {fr : Fr} {σ tp : St} {H F : Hp} {io : List Addr} {Q : VK} {pos : Pos} {D : Ends} {xa : Addr} {oe : Obj} {cls : Value} {dd : Option Addr} {pn : List (Addr × Obj)} {x : Option Str} {fs : List Str} {i k : Nat}
/-- the caught exception's fields -/
def Flds (G : Glb) (F : Hp) (io : List Addr) (fs : List Str) (ds : List Ag.D) (dd : Option Addr) : Prop := ds = [] ∨ ∃ d vs, dd = some d ∧ F d = some (.xd vs) ∧ ∀ (j : Nat) (f : Str) (y : Ag.D), fs[j]? = some f → ds[j]? = some y → ∃ v, vs.lookup f = some v ∧ Rep G F io y v
theorem Flds.mono {G : Glb} {F' : Hp} {io' : List Addr} {ds : List Ag.D} (s : Same F F') (p : Pre io io') (h : Flds G F io fs ds dd) : Flds G F' io' fs ds dd := @Rq9 _ _ (fun qz => @Hq9.get _ _ (qz.bar : Hq9 _ (by
  clear qz
  rcases h with h | ⟨d, vs, e, h1, h2⟩
  · exact .inl h
  · exact .inr ⟨d, vs, e, s _ _ h1, fun j f y e1 e2 => by
      obtain ⟨v, g1, g2⟩ := h2 j f y e1 e2
      exact ⟨v, g1, g2.mono s p⟩⟩))) Xq9.mk
/-- what a part of the clause reads -/
def HxR (E : En) (x : Option Str) (i : Nat) (fs : List Str) (xa : Addr) (oe : Obj) (dd : Option Addr) (pn : List (Addr × Obj)) (e : Expr) (h : Hx) : Prop :=
  ∃ te, PE (E.X.suite xa ((xa, oe) :: pn)) e te ∧ ∀ (fr : Fr) (σ tp : St) (H F : Hp) (io : List Addr) (Q : VK) (ds : List Ag.D) (d : Ag.D), hev ds h = some d → E.ws fr (σ ++ tp) H F io → (∀ y, x = some y → σ[i]? = some (some (.ref xa))) → Flds E.G F io fs ds dd →
    (∀ v H' F' io', Same F F' → Pre io io' → E.ws fr (σ ++ tp) H' F' io' → Rep E.G F' io' d v → Q v H') → te σ H Q
def HxsR (E : En) (x : Option Str) (i : Nat) (fs : List Str) (xa : Addr) (oe : Obj) (dd : Option Addr) (pn : List (Addr × Obj)) (es : List Expr) (hs : List Hx) : Prop :=
  ∃ ta, PA (E.X.suite xa ((xa, oe) :: pn)) es ta ∧ ∀ (fr : Fr) (σ tp : St) (H F : Hp) (io : List Addr) (Q : List V → Hp → Prop) (ds : List Ag.D) (dvs : List Ag.D), hevs ds hs = some dvs → E.ws fr (σ ++ tp) H F io → (∀ y, x = some y → σ[i]? = some (some (.ref xa))) → Flds E.G F io fs ds dd →
    (∀ vs H' F' io', Same F F' → Pre io io' → E.ws fr (σ ++ tp) H' F' io' → Reps E.G F' io' dvs vs → Q vs H') → ta σ H Q
/-- what the caught exception's class must be -/
structure XcOk (E : En) (cls : Value) (C : Addr) (fs : List Str) : Prop where
  cls : cls = .ref C
  xf : XfC E.X.K C
  no : ∀ f ∈ fs, PySem.W.findIn E.X.K (.ref C) f = some none
theorem hx_both (C : Addr) (hT : x.isSome = true → XcOk E cls C fs) (hz : Zc cls dd oe) (hf : ∃ vs, oe.data = .fields vs) (hN : ∀ y, x = some y → E.X.N[i]? = some y ∧ Vis E.X.env.scope y ∧ (y == ("__debug__" : Str)) = false ∧ (y == ("__classdict__" : Str)) = false) : ∀ n,
    (∀ e h, cvHx x fs n e = some h → HxR E x i fs xa oe dd pn e h) ∧ (∀ es hs, cvHxs x fs n es = some hs → HxsR E x i fs xa oe dd pn es hs) := @Rq9 _ _ (fun qz => @Hq9.get _ _ (qz.bar : Hq9 _ (by
  clear qz
  intro n
  induction n with
  | zero => exact ⟨fun e h z => (by unfold cvHx at z; cases z), fun es hs z => (by unfold cvHxs at z; cases z)⟩
  | succ n ih =>
    refine ⟨fun e h z => ?_, fun es hs z => ?_⟩
    · unfold cvHx at z
      split at z
      · cases z
        exact ⟨_, pe_non, fun fr σ tp H F io Q ds d e w _ _ q => by unfold hev at e; cases e; exact q _ H F io (Same.refl _) (Pre.refl _) w .non⟩
      · cases z
        exact ⟨_, pe_bl, fun fr σ tp H F io Q ds d e w _ _ q => by unfold hev at e; cases e; exact q _ H F io (Same.refl _) (Pre.refl _) w (.bl _)⟩
      · cases z
        exact ⟨_, pe_int, fun fr σ tp H F io Q ds d e w _ _ q => by unfold hev at e; cases e; exact q _ H F io (Same.refl _) (Pre.refl _) w (.int _)⟩
      · cases z
        exact ⟨_, pe_str, fun fr σ tp H F io Q ds d e w _ _ q => by unfold hev at e; cases e; exact q _ H F io (Same.refl _) (Pre.refl _) w (.str _)⟩
      · rename_i y py f pf
        split at z
        case isFalse => cases z
        rename_i hx
        cases qi : hxIx fs f with
        | none => rw [qi] at z; cases z
        | some j =>
          rw [qi] at z
          cases z
          have hfj := hxIx_at qi
          obtain ⟨g1, g2, g3, g4⟩ := hN y hx
          have T := hT (by rw [hx]; rfl)
          refine ⟨_, pe_xf (X := E.X) (pn := pn) T.xf (T.no f (List.mem_of_getElem? hfj)) hz hf (pe_var (X := E.X.suite xa ((xa, oe) :: pn)) (i := i) g1 g2 g3 g4), fun fr σ tp H F io Q ds d e w sl fl q => ?_⟩
          have e : ds[j]? = some d := by unfold hev at e; exact e
          refine ⟨.ref xa, sl y hx, rfl, T.cls, ?_⟩
          rcases fl with fl | ⟨d1, vs, e1, h1, h2⟩
          · rw [fl] at e; simp at e
          · obtain ⟨v, k1, k2⟩ := h2 j f d hfj e
            exact ⟨d1, vs, v, e1, w.wr.sub _ _ h1, k1, q v H F io (Same.refl _) (Pre.refl _) w k2⟩
      · rename_i es k1 p1
        cases qs : cvHxs x fs n es with
        | none => rw [qs] at z; cases z
        | some hs =>
          rw [qs] at z
          cases z
          obtain ⟨ta, h1, h2⟩ := ih.2 es hs qs
          refine ⟨_, pe_tup h1, fun fr σ tp H F io Q ds d e w sl fl q => ?_⟩
          unfold hev at e
          cases q3 : hevs ds hs with
          | none => rw [q3] at e; cases e
          | some dvs =>
            rw [q3] at e
            have e : (if dvs.length ≤ 1000 then some (Ag.D.tup dvs) else none) = some d := e
            split at e
            case isFalse => cases e
            rename_i hz2
            cases e
            refine h2 fr σ tp H F io _ ds dvs q3 w sl fl fun vs H' F' io' s p w' r => ⟨by rw [← r.length, sizeLine_eq]; omega, fun a ha => ?_⟩
            obtain ⟨F2, s2, w2, rp⟩ := w'.newTup ha r
            exact q _ _ F2 io' (s.trans s2) p w2 rp
      · cases z
    · cases es with
      | nil =>
        unfold cvHxs at z
        cases z
        exact ⟨_, pa_nil, fun fr σ tp H F io Q ds dvs e w _ _ q => by unfold hevs at e; cases e; exact q _ H F io (Same.refl _) (Pre.refl _) w .nil⟩
      | cons e es =>
        unfold cvHxs at z
        split at z
        case isFalse => cases z
        rename_i hns
        cases q1 : cvHx x fs n e with
        | none => rw [q1] at z; cases z
        | some h =>
          rw [q1] at z
          have z : ((cvHxs x fs n es).bind fun hs => some (h :: hs)) = some hs := z
          cases q2 : cvHxs x fs n es with
          | none => rw [q2] at z; cases z
          | some hs2 =>
            rw [q2] at z
            cases z
            obtain ⟨te, a1, a2⟩ := ih.1 e h q1
            obtain ⟨ta, b1, b2⟩ := ih.2 es hs2 q2
            refine ⟨_, pa_cons a1 b1 (star_ne hns _ _), fun fr σ tp H F io Q ds dvs ev w sl fl q => ?_⟩
            unfold hevs at ev
            cases q3 : hev ds h with
            | none => rw [q3] at ev; cases ev
            | some d =>
              rw [q3] at ev
              have ev : ((hevs ds hs2).bind fun ds2 => some (d :: ds2)) = some dvs := ev
              cases q4 : hevs ds hs2 with
              | none => rw [q4] at ev; cases ev
              | some ds2 =>
                rw [q4] at ev
                cases ev
                refine a2 fr σ tp H F io _ ds d q3 w sl fl fun v H1 F1 io1 s1 p1 w1 r1 => ?_
                refine b2 fr σ tp H1 F1 io1 _ ds ds2 q4 w1 sl (fl.mono s1 p1) fun vs H2 F2 io2 s2 p2 w2 r2 => ?_
                exact q _ _ F2 io2 (s1.trans s2) (p1.trans p2) w2 (.cons (r1.mono s2 p2) r2)))) Xq9.mk
end
/-- an except clause's statement: i the slot of the exception's name -/
def cvHst (x : Option Str) (i : Nat) (fs : List Str) (wr : Str → Option Nat) (n : Nat) : Stmt → Option Hst
  | .Return (some (.List es _)) _ => (cvHxs x fs n es).map .retL
  | .Return (some e) _ => (cvHx x fs n e).map .ret
  | .Assign [.Name y _] (.List es _) _ => (wr y).bind fun j => if x.isSome && j == i then none else (cvHxs x fs n es).map (.asgL j)
  | .Assign [.Name y _] e _ => (wr y).bind fun j => if (x.isSome && j == i) || !notComp e then none else (cvHx x fs n e).map (.asg j)
  | _ => none
section
variable {E : En} {e a b c : Expr} {fr : Fr} {σ tp : St} {H F : Hp} {io : List Addr} {Q : VK} {pos : Pos} {D : Ends} {xa : Addr} {oe : Obj} {cls : Value} {dd : Option Addr} {pn : List (Addr × Obj)} {x : Option Str} {fs : List Str} {i k : Nat}
def HstR (E : En) (x : Option Str) (i : Nat) (fs : List Str) (xa : Addr) (oe : Obj) (dd : Option Addr) (pn : List (Addr × Obj)) (st : Stmt) (hb : Hst) : Prop :=
  ∃ ts, PS (E.X.suite xa ((xa, oe) :: pn)) st ts ∧ ∀ (fr : Fr) (σ tp : St) (H F : Hp) (io : List Addr) (D : Ends) (ds : List Ag.D) (P : SxP), σ.length = E.X.N.length → E.ws fr (σ ++ tp) H F io → (∀ y, x = some y → σ[i]? = some (some (.ref xa))) → Flds E.G F io fs ds dd → (hrun ds fr hb).all P →
    (∀ fr' σ' H' F' io', σ'.length = E.X.N.length → Same F F' → Pre io io' → E.ws fr' (σ' ++ tp) H' F' io' → P.next fr' → (x.isSome = true → fr'.env[i]? = fr.env[i]?) → D.nx σ' H') →
    (∀ o v H' F' io', Same F F' → Pre io io' → E.ws fr (σ ++ tp) H' F' io' → RvOk E.G E.H0 H' F' io' fr.env (σ ++ tp) (.out o) v → P.ret o fr → D.rt v H') → ts D σ H
theorem hst_read {wr : Str → Option Nat} {n : Nat} (hnd : E.X.N.Nodup) (hb : (∀ e h, cvHx x fs n e = some h → HxR E x i fs xa oe dd pn e h) ∧ (∀ es hs, cvHxs x fs n es = some hs → HxsR E x i fs xa oe dd pn es hs))
    (hw : ∀ y j, wr y = some j → E.X.N[j]? = some y ∧ E.X.env.scope.names.lookup y = some .local) {st : Stmt} {q : Hst} (h : cvHst x i fs wr n st = some q) : HstR E x i fs xa oe dd pn st q := @Rq9 _ _ (fun qz => @Hq9.get _ _ (qz.bar : Hq9 _ (by
  clear qz
  unfold cvHst at h
  split at h
  · rename_i es p1 p2
    cases q1 : cvHxs x fs n es with
    | none => rw [q1] at h; cases h
    | some hs =>
      rw [q1] at h
      cases h
      obtain ⟨ta, a1, a2⟩ := hb.2 es hs q1
      refine ⟨_, ps_ret (pe_lst a1), fun fr σ tp H F io D ds P hl w sl fl h hn hr => ?_⟩
      have h : ((match hevs ds hs with | some ds => if ds.length ≤ 1000 then .ret (.fresh ds) fr else .bad | none => .bad : Sx)).all P := h
      cases q2 : hevs ds hs with
      | none => rw [q2] at h; exact h.elim
      | some dvs =>
        rw [q2] at h
        have h : ((if dvs.length ≤ 1000 then .ret (.fresh dvs) fr else .bad : Sx)).all P := h
        split at h
        case isFalse => exact h.elim
        rename_i hz
        refine a2 fr σ tp H F io _ ds dvs q2 w sl fl fun vs H1 F1 io1 s1 p1 w1 r1 => ⟨by rw [← r1.length, sizeLine_eq]; omega, fun a ha => ?_⟩
        obtain ⟨w2, rv⟩ := w1.newOwn ha r1
        exact hr _ _ _ F1 io1 s1 p1 w2 rv h
  · rename_i e p1 hne
    cases q1 : cvHx x fs n e with
    | none => rw [q1] at h; cases h
    | some hh =>
      rw [q1] at h
      cases h
      obtain ⟨te, a1, a2⟩ := hb.1 e hh q1
      refine ⟨_, ps_ret a1, fun fr σ tp H F io D ds P hl w sl fl h hn hr => ?_⟩
      have h : ((match hev ds hh with | some d => .ret (.val d) fr | none => .bad : Sx)).all P := h
      cases q2 : hev ds hh with
      | none => rw [q2] at h; exact h.elim
      | some d =>
        rw [q2] at h
        exact a2 fr σ tp H F io _ ds d q2 w sl fl fun v H1 F1 io1 s1 p1 w1 r1 => hr (.val d) v _ F1 io1 s1 p1 w1 r1 h
  · rename_i y p1 es p2 p3
    cases qj : wr y with
    | none => rw [qj] at h; cases h
    | some j =>
      rw [qj] at h
      have h : (if x.isSome && j == i then none else (cvHxs x fs n es).map (Hst.asgL j)) = some q := h
      split at h
      case isTrue => cases h
      rename_i hji
      obtain ⟨g1, g2⟩ := hw y j qj
      cases q1 : cvHxs x fs n es with
      | none => rw [q1] at h; cases h
      | some hs =>
        rw [q1] at h
        cases h
        obtain ⟨ta, a1, a2⟩ := hb.2 es hs q1
        refine ⟨_, ps_set (X := E.X.suite xa ((xa, oe) :: pn)) (i := j) hnd g1 (.inl g2) (pe_lst a1) (swaps_no rfl _ _ _) (.inr g2), fun fr σ tp H F io D ds P hl w sl fl h hn hr => ?_⟩
        have hlt : j < σ.length := by rw [hl]; exact (List.getElem?_eq_some_iff.mp g1).1
        have h : ((match hevs ds hs with | some ds => if ds.length ≤ 1000 then .next (setE fr j (.own ds)) else .bad | none => .bad : Sx)).all P := h
        cases q2 : hevs ds hs with
        | none => rw [q2] at h; exact h.elim
        | some dvs =>
          rw [q2] at h
          have h : ((if dvs.length ≤ 1000 then .next (setE fr j (.own dvs)) else .bad : Sx)).all P := h
          split at h
          case isFalse => exact h.elim
          rename_i hz
          refine a2 fr σ tp H F io _ ds dvs q2 w sl fl fun vs H1 F1 io1 s1 p1 w1 r1 => ⟨by rw [← r1.length, sizeLine_eq]; omega, fun a ha => ?_⟩
          obtain ⟨w2, rv⟩ := w1.newOwn ha r1
          have w3 := w2.putOwn (i := j) (by rw [List.length_append]; omega) rv
          rw [← set_app hlt] at w3
          refine hn (setE fr j (.own dvs)) _ _ F1 io1 (setN_len hl) s1 p1 w3 h fun hx => ?_
          have : j ≠ i := fun z => hji (by rw [hx, z]; simp)
          exact List.getElem?_set_ne this
  · rename_i y p1 e p2 hne
    cases qj : wr y with
    | none => rw [qj] at h; cases h
    | some j =>
      rw [qj] at h
      have h : (if (x.isSome && j == i) || !notComp e then none else (cvHx x fs n e).map (Hst.asg j)) = some q := h
      split at h
      case isTrue => cases h
      rename_i hji
      simp only [Bool.or_eq_true, Bool.and_eq_true, beq_iff_eq, Bool.not_eq_true', not_or, Bool.not_eq_false] at hji
      obtain ⟨g1, g2⟩ := hw y j qj
      cases q1 : cvHx x fs n e with
      | none => rw [q1] at h; cases h
      | some hh =>
        rw [q1] at h
        cases h
        obtain ⟨te, a1, a2⟩ := hb.1 e hh q1
        refine ⟨_, ps_set (X := E.X.suite xa ((xa, oe) :: pn)) (i := j) hnd g1 (.inl g2) a1 (swaps_no hji.2 _ _ _) (.inr g2), fun fr σ tp H F io D ds P hl w sl fl h hn hr => ?_⟩
        have hlt : j < σ.length := by rw [hl]; exact (List.getElem?_eq_some_iff.mp g1).1
        have h : ((match hev ds hh with | some d => .next (setE fr j (.val d)) | none => .bad : Sx)).all P := h
        cases q2 : hev ds hh with
        | none => rw [q2] at h; exact h.elim
        | some d =>
          rw [q2] at h
          refine a2 fr σ tp H F io _ ds d q2 w sl fl fun v H1 F1 io1 s1 p1 w1 r1 => ?_
          have w3 := w1.put (i := j) (by rw [List.length_append]; omega) r1
          rw [← set_app hlt] at w3
          refine hn (setE fr j (.val d)) _ _ F1 io1 (setN_len hl) s1 p1 w3 h fun hx => ?_
          have : j ≠ i := fun z => hji.1 ⟨hx, z⟩
          exact List.getElem?_set_ne this
  · cases h))) Xq9.mk
end
section
theorem Ws.unput {G : Glb} {H0 : Ent} {n0 : Nat} {fr : Fr} {ρ : St} {H F : Hp} {io : List Addr} (w : Ws G H0 n0 fr ρ H F io) (i : Nat) (v : Option V) : Ws G H0 n0 (setE fr i .un) (ρ.set i v) H F io := @Rq9 _ _ (fun qz => @Hq9.get _ _ (qz.bar : Hq9 _ (by
  clear qz
  refine ⟨w.wr, by show (fr.env.set i _).length = _; rw [List.length_set, List.length_set]; exact w.sl.len, fun j s q => ?_, fun j k ys zs q g1 g2 e1 e2 => ?_⟩
  · rcases set_at q with ⟨rfl, rfl⟩ | ⟨ne, q⟩
    · trivial
    · rw [List.getElem?_set_ne (Ne.symm ne)]
      exact w.sl.at_ j _ q
  · obtain ⟨n1, g1⟩ := set_own (fun _ z => by cases z) g1
    obtain ⟨n2, g2⟩ := set_own (fun _ z => by cases z) g2
    rw [List.getElem?_set_ne (Ne.symm n1)] at e1
    rw [List.getElem?_set_ne (Ne.symm n2)] at e2
    exact w.sl.dis j k ys zs q g1 g2 e1 e2))) Xq9.mk
theorem Ws.hide {G : Glb} {H0 : Ent} {n0 : Nat} {fr : Fr} {ρ : St} {H F : Hp} {io : List Addr} (w : Ws G H0 n0 fr ρ H F io) {i : Nat} (h : fr.env[i]? = some .un) (v : Option V) : Ws G H0 n0 fr (ρ.set i v) H F io := @Rq9 _ _ (fun qz => @Hq9.get _ _ (qz.bar : Hq9 _ (by
  clear qz
  have e : setE fr i .un = fr := by
    obtain ⟨env, sto⟩ := fr
    show (⟨env.set i .un, sto⟩ : Fr) = ⟨env, sto⟩
    congr 1
    apply List.ext_getElem?
    intro j
    by_cases hj : i = j
    · subst hj
      rw [List.getElem?_set_self (List.getElem?_eq_some_iff.mp h).1]
      exact h.symm
    · rw [List.getElem?_set_ne hj]
  have := w.unput i v
  rwa [e] at this))) Xq9.mk
/-- the world of a try's body -/
def En.tr (E : En) (pn : List (Addr × Obj)) (xe : Value → Shared → Prop) (W : WX) : En := { E with X := E.X.tr pn xe, W := W }
theorem En.Ok.tr {E : En} (ok : E.Ok) {pn : List (Addr × Obj)} {xe : Value → Shared → Prop} {W : WX} (tk : Takes (E.X.tr pn xe) W) : (E.tr pn xe W).Ok := ⟨ok.k, ok.nd, ok.calm, ok.hu5, tk, ok.inj, ok.fld⟩
variable {E : En} {B : List Stmt} {tB : List Stm} {pos pos' np : Pos} {xc y : Str} {i hc n : Nat} {st : Stmt} {hb : Hst} {wr : Str → Option Nat} {fs : List Str}
theorem flds_of {G : Glb} {F : Hp} {io : List Addr} {H : Hp} {c : Nat} {ds : List Ag.D} {d : Option Addr} (h : ExOk G F io H c ds d) : Flds G F io ((G.xf c).map G.fn) ds d := @Rq9 _ _ (fun qz => @Hq9.get _ _ (qz.bar : Hq9 _ (by
  clear qz
  rcases h with h | ⟨a, vs, e, h1, h2⟩
  · exact .inl h
  · refine .inr ⟨a, vs, e, h1, fun j f y e1 e2 => ?_⟩
    rw [List.getElem?_map] at e1
    cases q : (G.xf c)[j]? with
    | none => rw [q] at e1; cases e1
    | some g =>
      rw [q] at e1
      cases e1
      exact h2 j g y q e2))) Xq9.mk
theorem SS_try_as (ok : E.Ok) (stk : E.X.stack = E.X.env :: E.X.outer) (frm : E.X.env.frame = some E.X.env.locals) (hi : E.X.N[i]? = some y) (hln : E.X.env.scope.names.lookup y = some .local) (hd : (y == ("__debug__" : Str)) = false) (hcd : (y == ("__classdict__" : Str)) = false)
    (hcn : Names E.X xc (.ref (E.G.cl hc))) (hsub : ∀ c b, E.T.sub c hc = some b → PySem.W.exmOne E.X.K (.ref (E.G.cl c)) (.ref (E.G.cl hc)) = some b) (hfs : fs = (E.G.xf hc).map E.G.fn) (hxf : XfC E.X.K (E.G.cl hc)) (hno : ∀ f ∈ fs, PySem.W.findIn E.X.K (.ref (E.G.cl hc)) f = some none)
    (hB : ∀ (W : WX) (pn : List (Addr × Obj)) (xe : Value → Shared → Prop), Takes (E.X.tr pn xe) W → PassesOwn (model E.X.prog E.X.w) E.X.A E.X.env xe → SSs (E.tr pn xe W) B tB) (hw : ∀ y j, wr y = some j → E.X.N[j]? = some y ∧ E.X.env.scope.names.lookup y = some .local)
    (h : cvHst (some y) i fs wr n st = some hb) : SS E (.Try B [.ExceptHandler (some (.Name xc np)) (some y) [st] pos'] [] [] pos) (.tryx tB [(hc, some i, hb)]) := @Rq9 _ _ (fun qz => @Hq9.get _ _ (qz.bar : Hq9 _ (by
  clear qz
  intro fr σ tp H F io D hl w hx
  refine wS_of (ps_try_as (i := i) (tb := fun W D σ H => ∀ (pn : List (Addr × Obj)) (xe : Value → Shared → Prop), Takes (E.X.tr pn xe) W → PassesOwn (model E.X.prog E.X.w) E.X.A E.X.env xe → wSs (E.X.tr pn xe) B D σ H)
    (ts := fun a cls d D σ H => ∀ (oe : Obj) (pn : List (Addr × Obj)), Zc cls d oe → (∃ vs, oe.data = .fields vs) → wSs (E.X.suite a ((a, oe) :: pn)) [st] D σ H)
    stk frm ok.nd hi hln hcn ok.tk (fun W pn xe tk ps => ⟨fun pins s σ H D I q => q pn xe tk ps pins s I⟩) (fun a oe cls d pn hz hf => ⟨fun pins s σ H D I q => q oe pn hz hf pins s I⟩)) ?_
  intro pn xe tk ps
  refine hB _ pn xe tk ps fr σ tp H F io D hl w ?_
  unfold ex at hx
  have ht : (E.tr pn xe (wAs E.X.K (.ref (E.G.cl hc)) i (fun a cls d D σ H => ∀ (oe : Obj) (pn : List (Addr × Obj)), Zc cls d oe → (∃ vs, oe.data = .fields vs) → wSs (E.X.suite a ((a, oe) :: pn)) [st] D σ H) E.W D)).T = E.T := rfl
  rw [ht]
  cases q : exs E.T tB fr with
  | next fr1 => rw [q] at hx; exact hx
  | ret o fr1 => rw [q] at hx; exact hx
  | brk fr1 => rw [q] at hx; exact hx
  | cont fr1 => rw [q] at hx; exact hx
  | bad => rw [q] at hx; exact hx
  | exc c ds fr1 =>
    rw [q] at hx
    have hx : (exh E.T [(hc, some i, hb)] c ds fr1).all (okS E tp F io D) := hx
    intro d σ1 H1 F1 io1 l1 s1 p1 w1 xo
    unfold exh at hx
    cases qs : E.T.sub c hc with
    | none => rw [qs] at hx; exact hx.elim
    | some b =>
      rw [qs] at hx
      refine ⟨b, hsub c b qs, fun e a ha => ?_, fun e => ?_⟩
      · subst e
        have hx2 : ((if c = hc then hrun ds (hwipe (some i) fr1) hb else .bad : Sx)).all (okS E tp F io D) := hx
        clear hx
        by_cases hcc : c = hc
        case neg => rw [if_neg hcc] at hx2; exact hx2.elim
        rw [if_pos hcc] at hx2
        subst hcc
        have hil : i < σ1.length := by rw [l1]; exact (List.getElem?_eq_some_iff.mp hi).1
        intro oe pn hz hf
        obtain ⟨ts, t1, t2⟩ := hst_read (E := E) (x := some y) (i := i) (xa := a) (oe := oe) (dd := d) (pn := pn) ok.nd (hx_both (cls := .ref (E.G.cl c)) (E.G.cl c) (fun _ => ⟨rfl, hxf, hno⟩) hz hf (fun z hz => by cases hz; exact ⟨hi, .inl hln, hd, hcd⟩) n) hw h
        refine wSs_of (pss_cons t1 pss_nil) ?_
        have w2 := w1.unput i (some (.ref a))
        rw [← set_app hil] at w2
        have hu : (setE fr1 i .un).env[i]? = some .un := List.getElem?_set_self (by rw [w1.sl.len, List.length_append]; omega)
        refine t2 (setE fr1 i .un) (σ1.set i (some (.ref a))) tp H1 F1 io1 _ ds (okS E tp F io D) (setN_len l1) w2 (fun z _ => List.getElem?_set_self hil) (hfs ▸ flds_of xo) hx2 (fun fr' σ' H' F' io' l' s' p' w' hn hk => ?_) fun o v H' F' io' s' p' w' rv hr => ?_
        · have hw3 := w'.hide (i := i) (by rw [hk rfl]; exact hu) none
          have hil' : i < σ'.length := by rw [l']; exact (List.getElem?_eq_some_iff.mp hi).1
          rw [← set_app hil'] at hw3
          exact hn (σ'.set i none) H' F' io' (setN_len l') (s1.trans s') (p1.trans p') hw3
        · exact hr v (σ1.set i (some (.ref a))) H' F' io' (setN_len l1) (s1.trans s') (p1.trans p') w' rv
      · subst e
        have hx : (exh E.T [] c ds fr1).all (okS E tp F io D) := hx
        unfold exh at hx
        exact hx d σ1 H1 F1 io1 l1 s1 p1 w1 xo))) Xq9.mk
/-- clauses without a name -/
inductive HdL (E : En) (n : Nat) (wr : Str → Option Nat) : List ExceptHandler → List (Nat × Option Nat × Hst) → List (Value × (Addr → Value → Option Addr → TS)) → Prop
  | nil : HdL E n wr [] [] []
  | cons {xc : Str} {hc : Nat} {np pos' : Pos} {st : Stmt} {hb : Hst} {hds : List ExceptHandler} {l : List (Nat × Option Nat × Hst)} {m : List (Value × (Addr → Value → Option Addr → TS))} (hcn : Names E.X xc (.ref (E.G.cl hc)))
      (hsub : ∀ c b, E.T.sub c hc = some b → PySem.W.exmOne E.X.K (.ref (E.G.cl c)) (.ref (E.G.cl hc)) = some b) (h : cvHst none 0 [] wr n st = some hb) (r : HdL E n wr hds l m) :
      HdL E n wr (.ExceptHandler (some (.Name xc np)) none [st] pos' :: hds) ((hc, none, hb) :: l) ((.ref (E.G.cl hc), fun a cls d D σ H => ∀ (oe : Obj) (pn : List (Addr × Obj)), Zc cls d oe → (∃ vs, oe.data = .fields vs) → wSs (E.X.suite a ((a, oe) :: pn)) [st] D σ H) :: m)
theorem HdL.ok {hds : List ExceptHandler} {l : List (Nat × Option Nat × Hst)} {m : List (Value × (Addr → Value → Option Addr → TS))} (h : HdL E n wr hds l m) : HdsOk E.X hds m := @Rq9 _ _ (fun qz => @Hq9.get _ _ (qz.bar : Hq9 _ (by
  clear qz
  induction h with
  | nil => exact .nil
  | cons hcn _ _ _ ih => exact .cons hcn (fun a oe cls d pn hz hf => ⟨fun pins s σ H D I q => q oe pn hz hf pins s I⟩) ih))) Xq9.mk
theorem HdL.wish (ok : E.Ok) {hds : List ExceptHandler} {l : List (Nat × Option Nat × Hst)} {m : List (Value × (Addr → Value → Option Addr → TS))} {D : Ends} {tp : St} {F F1 : Hp} {io io1 : List Addr} {c : Nat} {ds : List Ag.D} {fr1 : Fr} {σ1 : St} {H1 : Hp} {d : Option Addr}
    (hw : ∀ y j, wr y = some j → E.X.N[j]? = some y ∧ E.X.env.scope.names.lookup y = some .local) (h : HdL E n wr hds l m) (hx : (exh E.T l c ds fr1).all (okS E tp F io D)) (l1 : σ1.length = E.X.N.length) (s1 : Same F F1) (p1 : Pre io io1) (w1 : E.ws fr1 (σ1 ++ tp) H1 F1 io1) (xo : ExOk E.G F1 io1 H1 c ds d) :
    wMany E.X.K E.W D m (.ref (E.G.cl c)) d σ1 H1 := @Rq9 _ _ (fun qz => @Hq9.get _ _ (qz.bar : Hq9 _ (by
  clear qz
  induction h with
  | nil => unfold exh at hx; exact hx d σ1 H1 F1 io1 l1 s1 p1 w1 xo
  | @cons xc hc np pos' st hb hds l m hcn hsub h r ih =>
    unfold exh at hx
    cases qs : E.T.sub c hc with
    | none => rw [qs] at hx; exact hx.elim
    | some b =>
      rw [qs] at hx
      refine ⟨b, hsub c b qs, fun e a ha => ?_, fun e => ?_⟩
      · subst e
        have hx2 : ((if c = hc then hrun ds (hwipe none fr1) hb else .bad : Sx)).all (okS E tp F io D) := hx
        clear hx
        by_cases hcc : c = hc
        case neg => rw [if_neg hcc] at hx2; exact hx2.elim
        rw [if_pos hcc] at hx2
        subst hcc
        intro oe pn hz hf
        obtain ⟨ts, t1, t2⟩ := hst_read (E := E) (x := none) (i := 0) (xa := a) (oe := oe) (dd := d) (pn := pn) ok.nd (hx_both (x := none) (cls := .ref (E.G.cl c)) (E.G.cl c) (fun z => absurd (show false = true from z) Bool.false_ne_true) hz hf (fun z hz => by cases hz) n) hw h
        refine wSs_of (pss_cons t1 pss_nil) ?_
        refine t2 fr1 σ1 tp H1 F1 io1 _ ds (okS E tp F io D) l1 w1 (fun z hz => by cases hz) ?_ hx2 (fun fr' σ' H' F' io' l' s' p' w' hn hk => hn σ' H' F' io' l' (s1.trans s') (p1.trans p') w') fun o v H' F' io' s' p' w' rv hr => hr v σ1 H' F' io' l1 (s1.trans s') (p1.trans p') w' rv
        rcases xo with xo | ⟨a2, vs, e, g1, _⟩
        · exact .inl xo
        · exact .inr ⟨a2, vs, e, g1, fun j f y e1 _ => by simp at e1⟩
      · subst e
        exact ih hx))) Xq9.mk
end
end Ag
namespace Ag
open PySem PySem.Spec L2
open PyProof.Rows hiding St
/-! ### try with several except clauses, some with a name -/
/-- the name in slot i is gone behind its clause -/
def ridD (D : Ends) (i : Nat) : Ends := { nx := fun σ' H' => D.nx (σ'.set i none) H', rt := D.rt, bk := fun σ' H' => D.bk (σ'.set i none) H', ct := fun σ' H' => D.ct (σ'.set i none) H' }
abbrev Cla := Value × Option Nat × (Addr → Value → Option Addr → TS)
def wCl (D : Ends) : Cla → Addr → Value → Option Addr → St → Hp → Prop
  | (_, none, ts), a, cls, d, σ, H => ts a cls d D σ H
  | (_, some i, ts), a, cls, d, σ, H => ts a cls d (ridD D i) (σ.set i (some (.ref a))) H
def wMx (K : PySem.W.Frag) (Wo : WX) (D : Ends) : List Cla → WX
  | [] => Wo
  | q :: r => fun cls d σ H => ∃ b, PySem.W.exmOne K cls q.1 = some b ∧ (b = true → ∀ a, H a = none → wCl D q a cls d σ H) ∧ (b = false → wMx K Wo D r cls d σ H)
def SuOk (X : Cx) (suite : List Stmt) (ts : Addr → Value → Option Addr → TS) : Prop :=
  ∀ (a : Addr) (oe : Obj) (cls : Value) (d : Option Addr) (pn : List (Addr × Obj)), Zc cls d oe → (∃ vs, oe.data = .fields vs) → PSs (X.suite a ((a, oe) :: pn)) suite (ts a cls d)
inductive HdX (X : Cx) : List ExceptHandler → List Cla → Prop
  | nil : HdX X [] []
  | plain {x : Str} {c : Value} {ts : Addr → Value → Option Addr → TS} {b₀ : Stmt} {su : List Stmt} {np p' : Pos} {hds : List ExceptHandler} {l : List Cla} (hc : Names X x c) (hsu : SuOk X (b₀ :: su) ts) (r : HdX X hds l) :
      HdX X (.ExceptHandler (some (.Name x np)) none (b₀ :: su) p' :: hds) ((c, none, ts) :: l)
  | named {x n : Str} {i : Nat} {c : Value} {ts : Addr → Value → Option Addr → TS} {b₀ : Stmt} {su : List Stmt} {np p' : Pos} {hds : List ExceptHandler} {l : List Cla} (hi : X.N[i]? = some n) (hln : X.env.kindOf n = some .local) (hc : Names X x c) (hsu : SuOk X (b₀ :: su) ts) (r : HdX X hds l) :
      HdX X (.ExceptHandler (some (.Name x np)) (some n) (b₀ :: su) p' :: hds) ((c, some i, ts) :: l)
/-- what waits for an exception of the body -/
abbrev wait (X : Cx) (pins : List (Addr × Obj)) (D : Ends) (hds : List ExceptHandler) : Value → Shared → Prop := fun e s₁ =>
  wpAny (model X.prog X.w) X.A (noteFrame e X.env) (fun _ s₂ => wpAny (model X.prog X.w) X.A (setFlight e none) (fun _ s₃ => wpAny (model X.prog X.w) X.A (handleBy e X.env hds) (SP X pins D) X.xe s₃) X.xe s₂) X.xe s₁
section
variable {X : Cx} {body : List Stmt} {h₀ : ExceptHandler} {hds : List ExceptHandler} {l : List Cla} {pos : Pos} {tb : WX → TS} {Wo : WX}
theorem ps_try_mx (hs : X.stack = X.env :: X.outer) (hf : X.env.frame = some X.env.locals) (hN : X.N.Nodup) (tk : Takes X Wo)
    (hb : ∀ (W : WX) (pn : List (Addr × Obj)) (xe : Value → Shared → Prop), Takes (X.tr pn xe) W → PassesOwn (model X.prog X.w) X.A X.env xe → PSs (X.tr pn xe) body (tb W))
    (hh : HdX X (h₀ :: hds) l) : PS X (.Try body (h₀ :: hds) [] [] pos) (fun D σ H => tb (wMx X.K Wo D l) D σ H) := @Rq9 _ _ (fun qz => @Hq9.get _ _ (qz.bar : Hq9 _ (by
  clear qz
  refine ⟨fun pins s σ H D I h => ?_⟩
  have good := I.ok
  have hfr : X.A.frames = some (X.env :: X.outer) := good.frames.trans (by rw [hs])
  refine wpAny_Try_except (wpAny_mono ((hb (wMx X.K Wo D l) (X.pn ++ pins) (wait X pins D (h₀ :: hds)) (fun u s' xx => ?_) PassesOwn.looking).run [] s σ H D (I.toTry _) h) (fun f s1 g => ?_) (fun _ _ z => z))
  · obtain ⟨a, B, sI, pins', σ', H', cls, d, rfl, J', nb, up, sky, na, os, ag, w⟩ := xx
    have J : Inv X pins σ' H' sI := J'.ofTry good
    show wpAny (model X.prog X.w) X.A (noteFrame (.ref a) X.env) _ _ _
    refine Sky.land Zc.steady hfr hf (show Sky B (X.env :: X.outer) a (Zc cls d) X.env.locals s'.heap by rw [← hs]; exact sky) fun hp land upL => ?_
    have JL : Inv X pins σ' H' { s' with heap := hp } := J.landed nb land.1 (up.trans upL) os ag
    obtain ⟨oL, vL, eL, zL, dL⟩ := land.there
    have nfr : a ∉ frs (X.env :: X.outer) := fun hm => by
      obtain ⟨_, o', e', hnf⟩ := land.2.2.1.mem hm
      rw [eL] at e'
      cases e'
      exact hnf _ dL
    have nL : a ≠ X.env.locals := fun z => nfr (by rw [z]; exact List.mem_filterMap.mpr ⟨X.env, List.mem_cons_self, hf⟩)
    have nF : a ∉ X.fs := fun hm => by
      obtain ⟨e, he, q⟩ := List.mem_filterMap.mp hm
      exact nfr (List.mem_filterMap.mpr ⟨e, .tail _ he, q⟩)
    have SL := JL.suite eL dL na nL nF
    have test : ∀ {x : Str} {c : Value} {np : Pos} {Q : Value → Shared → Prop} {E : Value → Shared → Prop}, Names X x c → Q c { s' with heap := hp } → wpAny (model X.prog X.w) (X.A.mark (some (.ref a))) (eval (.Name x np) X.env) Q E { s' with heap := hp } := by
      rintro x c np Q E ⟨hg, hdb, hm | ⟨hm, hv, hn⟩⟩ q
      · exact ld_glob (X := X.suite a ((a, oL) :: (X.pn ++ pins))) SL hg hm q hdb
      · exact ld_blt (X := X.suite a ((a, oL) :: (X.pn ++ pins))) SL hg hm hv q hn hdb
    have look : ∀ {c : Value} {b : Bool}, PySem.W.exmOne X.K cls c = some b → _ := fun {c b} e => PySem.W.exm_one (M := model X.prog X.w) JL.kIn (fun A Q E s k q => wpAny_typeOf_ref (k _ _ eL) (by rw [zL.1]; exact q)) e
    suffices go : ∀ {hds' : List ExceptHandler} {l' : List Cla}, HdX X hds' l' → wMx X.K Wo D l' cls d σ' H' → wpAny (model X.prog X.w) X.A (handleBy (.ref a) X.env hds') (SP X pins D) X.xe { s' with heap := hp } from go hh w
    intro hds' l' hk
    induction hk with
    | nil =>
      intro w
      obtain ⟨k1, k2, k3, oe, vs, T, oT, ts', he, hz, hd, h1, hr⟩ := id land
      refine wpAny_handleBy_nil ?_
      unfold PySem.passOn
      refine wpAny_bind (wpAny_field he hd h1 ?_)
      have nn : ¬ ((Value.ref T == Value.none) = true) := by simp
      rw [if_neg nn]
      have out : wpAny (model X.prog X.w) X.A (setFlight (.ref a) X.env.frame) (fun _ s4 => wpAny (model X.prog X.w) X.A (throw (.ref a) : Sem Flow) (SP X pins D) X.xe s4) X.xe { s' with heap := hp } := by
        rw [hf]
        exact HandSPX.setFlight_upZ land fun h4 hh4 up4 => wpAny_throw (tk _ _ ⟨a, B, sI, pins, σ', H', cls, d, rfl, J, nb, (up.trans upL).trans up4, .inr (.inr (by rw [hs]; exact hh4)), na, os, ag, w⟩)
      first | exact wpAny_bind (wpAny_pure (wpAny_bind out)) | exact wpAny_bind out
    | @plain x c ts b₀ su np p' hds2 l2 hc hsu r ih =>
      rintro ⟨b, e1, yes, no⟩
      refine wpAny_handleBy_cons (codeAny_handlers_test (test hc ((look e1).here ?_))) nofun
      cases b with
      | false => exact ih (no rfl)
      | true =>
        refine codeAny_handlers_suite (HandSPX.lands_againZ land fun h4 la4 up4 => ?_)
        obtain ⟨o4, v4, e4, z4, d4⟩ := la4.there
        have S4 := (J.landed nb la4.1 ((up.trans upL).trans up4) os ag : Inv X pins σ' H' { s' with heap := h4 }).suite e4 d4 na nL nF
        refine wpAny_mono ((hsu a o4 cls d (X.pn ++ pins) z4 ⟨_, d4⟩).run [] _ _ H' _ S4 (yes rfl a na)) (fun f s6 g => ?_) (fun _ _ z => z.elim)
        cases f with
        | next => obtain ⟨σ6, H6, S6, q6⟩ := g; exact ⟨_, _, S6.unsuite good, q6⟩
        | brk => obtain ⟨σ6, H6, S6, q6⟩ := g; exact ⟨_, _, S6.unsuite good, q6⟩
        | cont => obtain ⟨σ6, H6, S6, q6⟩ := g; exact ⟨_, _, S6.unsuite good, q6⟩
        | ret u => obtain ⟨v6, σ6, H6, S6, r6, q6⟩ := g; exact ⟨_, _, _, S6.unsuite good, r6, q6⟩
    | @named x n i c ts b₀ su np p' hds2 l2 hi hln hc hsu r ih =>
      rintro ⟨b, e1, yes, no⟩
      refine wpAny_handleBy_cons (codeAny_handlers_test (test hc ((look e1).here ?_))) nofun
      cases b with
      | false => exact ih (no rfl)
      | true =>
        refine codeAny_handlers_suite_as (HandSPX.lands_againZ land fun h4 la4 up4 => ?_)
        obtain ⟨o4, v4, e4, z4, d4⟩ := la4.there
        have S4 := (J.landed nb la4.1 ((up.trans upL).trans up4) os ag : Inv X pins σ' H' { s' with heap := h4 }).suite e4 d4 na nL nF
        refine store_ok (X := X.suite a ((a, o4) :: (X.pn ++ pins))) (v := .ref a) S4 hN hi (.inl hln) rfl (fun s5 S5 => ?_) (.inr hln)
        refine wpAny_mono ((hsu a o4 cls d (X.pn ++ pins) z4 ⟨_, d4⟩).run [] s5 _ H' _ S5 (yes rfl a na)) (fun f s6 g => ?_) (fun _ _ z => z.elim)
        cases f with
        | next => obtain ⟨σ6, H6, S6, q6⟩ := g; exact gone_ok (S6.unsuite good) hN hi hln fun s7 J7 => ⟨_, _, J7, q6⟩
        | brk => obtain ⟨σ6, H6, S6, q6⟩ := g; exact gone_ok (S6.unsuite good) hN hi hln fun s7 J7 => ⟨_, _, J7, q6⟩
        | cont => obtain ⟨σ6, H6, S6, q6⟩ := g; exact gone_ok (S6.unsuite good) hN hi hln fun s7 J7 => ⟨_, _, J7, q6⟩
        | ret u => obtain ⟨v6, σ6, H6, S6, r6, q6⟩ := g; exact gone_ok (S6.unsuite good) hN hi hln fun s7 J7 => ⟨_, _, _, J7, r6, q6⟩
  · cases f with
    | next => obtain ⟨σ', H', J', q⟩ := g; exact wpAny_execs_nil ⟨σ', H', J'.ofTry good, q⟩
    | brk => obtain ⟨σ', H', J', q⟩ := g; exact ⟨σ', H', J'.ofTry good, q⟩
    | cont => obtain ⟨σ', H', J', q⟩ := g; exact ⟨σ', H', J'.ofTry good, q⟩
    | ret u => obtain ⟨v, σ', H', J', r, q⟩ := g; exact ⟨v, σ', H', J'.ofTry good, r, q⟩))) Xq9.mk
end
section
variable {E : En} {B : List Stmt} {tB : List Stm} {pos pos' np : Pos} {n : Nat} {wr : Str → Option Nat}
/-- a clause's statement by its reading -/
abbrev wSt (E : En) (st : Stmt) : Addr → Value → Option Addr → TS := fun a cls d D σ H => ∀ (oe : Obj) (pn : List (Addr × Obj)), Zc cls d oe → (∃ vs, oe.data = .fields vs) → wSs (E.X.suite a ((a, oe) :: pn)) [st] D σ H
inductive HdM (E : En) (n : Nat) (wr : Str → Option Nat) : List ExceptHandler → List (Nat × Option Nat × Hst) → List Cla → Prop
  | nil : HdM E n wr [] [] []
  | plain {xc : Str} {hc : Nat} {np pos' : Pos} {st : Stmt} {hb : Hst} {hds : List ExceptHandler} {l : List (Nat × Option Nat × Hst)} {m : List Cla} (hcn : Names E.X xc (.ref (E.G.cl hc)))
      (hsub : ∀ c b, E.T.sub c hc = some b → PySem.W.exmOne E.X.K (.ref (E.G.cl c)) (.ref (E.G.cl hc)) = some b) (h : cvHst none 0 [] wr n st = some hb) (r : HdM E n wr hds l m) :
      HdM E n wr (.ExceptHandler (some (.Name xc np)) none [st] pos' :: hds) ((hc, none, hb) :: l) ((.ref (E.G.cl hc), none, wSt E st) :: m)
  | named {xc y : Str} {hc i : Nat} {np pos' : Pos} {st : Stmt} {hb : Hst} {hds : List ExceptHandler} {l : List (Nat × Option Nat × Hst)} {m : List Cla} (hi : E.X.N[i]? = some y) (hln : E.X.env.scope.names.lookup y = some .local) (hd : (y == ("__debug__" : Str)) = false) (hcd : (y == ("__classdict__" : Str)) = false)
      (hcn : Names E.X xc (.ref (E.G.cl hc))) (hsub : ∀ c b, E.T.sub c hc = some b → PySem.W.exmOne E.X.K (.ref (E.G.cl c)) (.ref (E.G.cl hc)) = some b) {fs : List Str} (hfs : fs = (E.G.xf hc).map E.G.fn) (hxf : XfC E.X.K (E.G.cl hc)) (hno : ∀ f ∈ fs, PySem.W.findIn E.X.K (.ref (E.G.cl hc)) f = some none)
      (h : cvHst (some y) i fs wr n st = some hb) (r : HdM E n wr hds l m) :
      HdM E n wr (.ExceptHandler (some (.Name xc np)) (some y) [st] pos' :: hds) ((hc, some i, hb) :: l) ((.ref (E.G.cl hc), some i, wSt E st) :: m)
theorem HdM.ok {hds : List ExceptHandler} {l : List (Nat × Option Nat × Hst)} {m : List Cla} (h : HdM E n wr hds l m) : HdX E.X hds m := @Rq9 _ _ (fun qz => @Hq9.get _ _ (qz.bar : Hq9 _ (by
  clear qz
  induction h with
  | nil => exact .nil
  | plain hcn _ _ _ ih => exact .plain hcn (fun a oe cls d pn hz hf => ⟨fun pins s σ H D I q => q oe pn hz hf pins s I⟩) ih
  | named hi hln _ _ hcn _ _ _ _ _ _ ih => exact .named hi hln hcn (fun a oe cls d pn hz hf => ⟨fun pins s σ H D I q => q oe pn hz hf pins s I⟩) ih))) Xq9.mk
theorem HdM.wish (ok : E.Ok) {hds : List ExceptHandler} {l : List (Nat × Option Nat × Hst)} {m : List Cla} {D : Ends} {tp : St} {F F1 : Hp} {io io1 : List Addr} {c : Nat} {ds : List Ag.D} {fr1 : Fr} {σ1 : St} {H1 : Hp} {d : Option Addr}
    (hw : ∀ y j, wr y = some j → E.X.N[j]? = some y ∧ E.X.env.scope.names.lookup y = some .local) (h : HdM E n wr hds l m) (hx : (exh E.T l c ds fr1).all (okS E tp F io D)) (l1 : σ1.length = E.X.N.length) (s1 : Same F F1) (p1 : Pre io io1) (w1 : E.ws fr1 (σ1 ++ tp) H1 F1 io1) (xo : ExOk E.G F1 io1 H1 c ds d) :
    wMx E.X.K E.W D m (.ref (E.G.cl c)) d σ1 H1 := @Rq9 _ _ (fun qz => @Hq9.get _ _ (qz.bar : Hq9 _ (by
  clear qz
  induction h with
  | nil => unfold exh at hx; exact hx d σ1 H1 F1 io1 l1 s1 p1 w1 xo
  | @plain xc hc np pos' st hb hds l m hcn hsub h r ih =>
    unfold exh at hx
    cases qs : E.T.sub c hc with
    | none => rw [qs] at hx; exact hx.elim
    | some b =>
      rw [qs] at hx
      refine ⟨b, hsub c b qs, fun e a ha => ?_, fun e => by subst e; exact ih hx⟩
      subst e
      have hx2 : ((if c = hc then hrun ds (hwipe none fr1) hb else .bad : Sx)).all (okS E tp F io D) := hx
      clear hx
      by_cases hcc : c = hc
      case neg => rw [if_neg hcc] at hx2; exact hx2.elim
      rw [if_pos hcc] at hx2
      subst hcc
      intro oe pn hz hf
      obtain ⟨ts, t1, t2⟩ := hst_read (E := E) (x := none) (i := 0) (xa := a) (oe := oe) (dd := d) (pn := pn) ok.nd (hx_both (x := none) (cls := .ref (E.G.cl c)) (E.G.cl c) (fun z => absurd (show false = true from z) Bool.false_ne_true) hz hf (fun z hz => by cases hz) n) hw h
      refine wSs_of (pss_cons t1 pss_nil) ?_
      refine t2 fr1 σ1 tp H1 F1 io1 _ ds (okS E tp F io D) l1 w1 (fun z hz => by cases hz) ?_ hx2 (fun fr' σ' H' F' io' l' s' p' w' hn hk => hn σ' H' F' io' l' (s1.trans s') (p1.trans p') w') fun o v H' F' io' s' p' w' rv hr => hr v σ1 H' F' io' l1 (s1.trans s') (p1.trans p') w' rv
      rcases xo with xo | ⟨a2, vs, e, g1, _⟩
      · exact .inl xo
      · exact .inr ⟨a2, vs, e, g1, fun j f y e1 _ => by simp at e1⟩
  | @named xc y hc i np pos' st hb hds l m hi hln hd hcd hcn hsub fs hfs hxf hno h r ih =>
    unfold exh at hx
    cases qs : E.T.sub c hc with
    | none => rw [qs] at hx; exact hx.elim
    | some b =>
      rw [qs] at hx
      refine ⟨b, hsub c b qs, fun e a ha => ?_, fun e => by subst e; exact ih hx⟩
      subst e
      have hx2 : ((if c = hc then hrun ds (hwipe (some i) fr1) hb else .bad : Sx)).all (okS E tp F io D) := hx
      clear hx
      by_cases hcc : c = hc
      case neg => rw [if_neg hcc] at hx2; exact hx2.elim
      rw [if_pos hcc] at hx2
      subst hcc
      have hil : i < σ1.length := by rw [l1]; exact (List.getElem?_eq_some_iff.mp hi).1
      intro oe pn hz hf
      obtain ⟨ts, t1, t2⟩ := hst_read (E := E) (x := some y) (i := i) (xa := a) (oe := oe) (dd := d) (pn := pn) ok.nd (hx_both (cls := .ref (E.G.cl c)) (E.G.cl c) (fun _ => ⟨rfl, hxf, hno⟩) hz hf (fun z hz => by cases hz; exact ⟨hi, .inl hln, hd, hcd⟩) n) hw h
      refine wSs_of (pss_cons t1 pss_nil) ?_
      have w2 := w1.unput i (some (.ref a))
      rw [← set_app hil] at w2
      have hu : (setE fr1 i .un).env[i]? = some .un := List.getElem?_set_self (by rw [w1.sl.len, List.length_append]; omega)
      refine t2 (setE fr1 i .un) (σ1.set i (some (.ref a))) tp H1 F1 io1 _ ds (okS E tp F io D) (setN_len l1) w2 (fun z _ => List.getElem?_set_self hil) (hfs ▸ flds_of xo) hx2 (fun fr' σ' H' F' io' l' s' p' w' hn hk => ?_) fun o v H' F' io' s' p' w' rv hr => ?_
      · have hw3 := w'.hide (i := i) (by rw [hk rfl]; exact hu) none
        have hil' : i < σ'.length := by rw [l']; exact (List.getElem?_eq_some_iff.mp hi).1
        rw [← set_app hil'] at hw3
        exact hn (σ'.set i none) H' F' io' (setN_len l') (s1.trans s') (p1.trans p') hw3
      · exact hr v (σ1.set i (some (.ref a))) H' F' io' (setN_len l1) (s1.trans s') (p1.trans p') w' rv))) Xq9.mk
theorem SS_try_mx (ok : E.Ok) (stk : E.X.stack = E.X.env :: E.X.outer) (frm : E.X.env.frame = some E.X.env.locals) {h₀ : ExceptHandler} {hds : List ExceptHandler} {l : List (Nat × Option Nat × Hst)} {m : List Cla}
    (hB : ∀ (W : WX) (pn : List (Addr × Obj)) (xe : Value → Shared → Prop), Takes (E.X.tr pn xe) W → PassesOwn (model E.X.prog E.X.w) E.X.A E.X.env xe → SSs (E.tr pn xe W) B tB) (hw : ∀ y j, wr y = some j → E.X.N[j]? = some y ∧ E.X.env.scope.names.lookup y = some .local)
    (h : HdM E n wr (h₀ :: hds) l m) : SS E (.Try B (h₀ :: hds) [] [] pos) (.tryx tB l) := @Rq9 _ _ (fun qz => @Hq9.get _ _ (qz.bar : Hq9 _ (by
  clear qz
  intro fr σ tp H F io D hl w hx
  refine wS_of (ps_try_mx (tb := fun W D σ H => ∀ (pn : List (Addr × Obj)) (xe : Value → Shared → Prop), Takes (E.X.tr pn xe) W → PassesOwn (model E.X.prog E.X.w) E.X.A E.X.env xe → wSs (E.X.tr pn xe) B D σ H)
    stk frm ok.nd ok.tk (fun W pn xe tk ps => ⟨fun pins s σ H D I q => q pn xe tk ps pins s I⟩) h.ok) ?_
  intro pn xe tk ps
  refine hB _ pn xe tk ps fr σ tp H F io D hl w ?_
  unfold ex at hx
  have ht : (E.tr pn xe (wMx E.X.K E.W D m)).T = E.T := rfl
  rw [ht]
  cases q : exs E.T tB fr with
  | next fr1 => rw [q] at hx; exact hx
  | ret o fr1 => rw [q] at hx; exact hx
  | brk fr1 => rw [q] at hx; exact hx
  | cont fr1 => rw [q] at hx; exact hx
  | bad => rw [q] at hx; exact hx
  | exc c ds fr1 =>
    rw [q] at hx
    intro d σ1 H1 F1 io1 l1 s1 p1 w1 xo
    exact h.wish ok hw hx l1 s1 p1 w1 xo))) Xq9.mk
end
end Ag
namespace Ag
open PySem PySem.Spec L2
section
variable {E : En} {o e a b c : Expr} {ta tb tc to : Tm} {fr : Fr} {σ tp : St} {H F : Hp} {io : List Addr} {Q : VK} {pos : Pos} {es : List Expr} {ts : List Tm}
/-! ### o.index(a), o a list of data -/
theorem idxP_ok (ok : E.Ok) {x : D} {ys : List D} {j : Nat} {v u : V} (w : E.ws fr (σ ++ tp) H F io) (hx : Lk E.G F io H x v) (hy : Lk E.G F io H (.lst ys) u) (e : idxP x ys = some j) :
    ∃ d ds z, Dp E.X.K H v d ∧ Dp E.X.K H u (.list ds) ∧ SeqAt.shaped d = true ∧ SeqAt.shaped (.list ds) = true ∧ ds[j]? = some z ∧ PyData.eqv z d = true ∧ ∀ (m : Nat) (z' : PyData), m < j → ds[m]? = some z' → PyData.eqv z' d = false := @Rq9 _ _ (fun qz => @Hq9.get _ _ (qz.bar : Hq9 _ (by
  clear qz
  unfold idxP at e
  cases q1 : toPy x with
  | none => rw [q1] at e; cases e
  | some a =>
    cases q2 : toPys ys with
    | none => rw [q1, q2] at e; cases e
    | some bs =>
      rw [q1, q2] at e
      dsimp only at e
      split at e
      · rename_i g
        rw [Bool.and_eq_true] at g
        obtain ⟨hj, h1, h2⟩ := List.findIdx?_eq_some_iff_getElem.mp e
        refine ⟨a, bs, bs[j], hx.dp ok.k w.wr.sub q1, hy.dp ok.k w.wr.sub (by unfold toPy; rw [q2]; rfl), g.1, g.2, List.getElem?_eq_getElem hj, h1, fun m z' hm hz => ?_⟩
        have hm' : m < bs.length := by omega
        rw [List.getElem?_eq_getElem hm'] at hz
        cases hz
        simpa using h2 m hm
      · cases e))) Xq9.mk
theorem SE_lidx (ok : E.Ok) {apos cpos : Pos} (hn : notStar a = true) (hline : (apos.endLine == cpos.line) = true) (hbase : attributeBase o "index" E.X.env (eval o E.X.env) = eval o E.X.env) (ho : SE E o to) (ha : SE E a ta) :
    SE E (.Call (.Attribute o "index" apos) [a] [] cpos) (.lidx to ta) := @Rq9 _ _ (fun qz => @Hq9.get _ _ (qz.bar : Hq9 _ (by
  clear qz
  intro fr σ tp H F io Q hl w h
  refine wE_of (pe_bm PySem.F.plainAttrs_list PySem.F.slot_list_index PySem.F.type_list_index (mt_indexD ok.hu5) pe_w (pa_cons pe_w pa_nil (star_ne hn _ _)) hbase (form_of (pos := cpos) (by show (true && (notStar a && true)) = true; rw [hn]; rfl) (by show 1 < 29; decide) E.X.env) hline (star_ne hn _ _) (by rfl)) ?_
  unfold ev at h
  refine ho.held hl w h fun r fr1 v H1 F1 io1 s1 p1 w1 hk h1 => ?_
  cases e1 : look fr1.env (hold r) with
  | none => simp [e1] at h1; exact h1.elim
  | some d0 =>
    simp only [e1] at h1
    cases d0 with
    | lst ys =>
      have lk := w1.look hk e1
      obtain ⟨q0, us0, rfl, h20, _⟩ := lk.lst w1.wr.sub
      refine ⟨.inl ⟨rfl, us0, SqL.of h20⟩, ?_⟩
      refine ha.part hl w1 h1 fun d fr2 v2 H2 F2 io2 s2 p2 w2 r2 z => ?_
      cases e2 : look fr2.env (hold r) with
      | none => simp [e2] at z; exact z.elim
      | some d2 =>
        simp only [e2] at z
        cases d2 with
        | lst xs =>
          have z : ((match idxP d xs with | some j => .ok (.out (.val (.int (j : Nat)))) fr2 | none => .bad) : Rs RV).all _ _ := z
          cases e3 : idxP d xs with
          | none => rw [e3] at z; exact z.elim
          | some j =>
            rw [e3] at z
            obtain ⟨d', ds, zz, g1, g2, g3, g4, g5, g6, g7⟩ := idxP_ok ok w2 (.inl r2) (w2.look (hk.mono s2 p2) e2) e3
            exact ⟨q0, v2, d', ds, j, zz, rfl, rfl, g2, g1, g4, g3, g5, g6, g7, z (.int _) H2 F2 io2 (s1.trans s2) (p1.trans p2) w2 (.int _)⟩
        | _ => exact z.elim
    | _ => exact h1.elim))) Xq9.mk
/-! ### f-strings -/
theorem SE_fmt (ha : SE E a ta) : SE E (.FormattedValue a (-1) none pos) (.fmt ta) := @Rq9 _ _ (fun qz => @Hq9.get _ _ (qz.bar : Hq9 _ (by
  clear qz
  intro fr σ tp H F io Q hl w h
  refine wE_of (pe_fmt pe_w) ?_
  unfold ev at h
  refine ha.part hl w h fun d fr1 v H1 F1 io1 s1 p1 w1 r1 z => ?_
  unfold fmtD at z
  split at z
  · rename_i s hs
    split at hs
    · split at hs
      case isFalse => cases hs
      rename_i hz
      cases hs
      cases r1
      exact .inl ⟨_, rfl, hz, z (.str _) H1 F1 io1 s1 p1 w1 (.str _)⟩
    · split at hs
      case isFalse => cases hs
      rename_i hz
      cases hs
      cases r1
      exact .inr ⟨_, rfl, hz, z (.str _) H1 F1 io1 s1 p1 w1 (.str _)⟩
    · cases hs
  · exact z.elim))) Xq9.mk
theorem sjs {es : List Expr} {ts : List Tm} (h : SEs E es ts) : ∃ tes, PJ E.X es tes ∧ ∀ (acc : Str) (fr : Fr) (tp : St) (H F : Hp) (io : List Addr) (Q : Str → Hp → Prop), σ.length = E.X.N.length → E.ws fr (σ ++ tp) H F io →
    (evj E.T ts acc fr).all (fun s fr' => ∀ H' F' io', Same F F' → Pre io io' → E.ws fr' (σ ++ tp) H' F' io' → Q s H') (exE E σ tp F io) → tJs tes acc σ H Q := @Rq9 _ _ (fun qz => @Hq9.get _ _ (qz.bar : Hq9 _ (by
  clear qz
  induction h with
  | nil =>
    refine ⟨[], .nil, fun acc fr tp H F io Q hl w h => ?_⟩
    unfold evj at h
    exact h H F io (Same.refl _) (Pre.refl _) w
  | cons h1 h2 h3 ih =>
    obtain ⟨tes, k1, k2⟩ := ih
    refine ⟨_, .cons pe_w k1, fun acc fr tp H F io Q hl w h => ?_⟩
    unfold evj at h
    refine h2.part hl w h fun d fr1 v H1 F1 io1 s1 p1 w1 r1 z => ?_
    cases d with
    | str y =>
      cases r1
      have z : ((if (acc ++ y).length ≤ sizeLine then evj E.T _ (acc ++ y) fr1 else .bad) : Rs Str).all _ _ := z
      split at z
      case isFalse => exact z.elim
      rename_i hz
      exact ⟨y, rfl, hz, k2 (acc ++ y) fr1 tp H1 F1 io1 Q hl w1 (Rs.all_imp z (fun s fr2 z H' F' io' s' p' w' => z H' F' io' (s1.trans s') (p1.trans p') w') fun _ _ _ z => z)⟩
    | _ => exact z.elim))) Xq9.mk
theorem SE_join {v1 v2 : Expr} {rest : List Expr} {ts : List Tm} (h : SEs E (v1 :: v2 :: rest) ts) : SE E (.JoinedStr (v1 :: v2 :: rest) pos) (.join ts) := @Rq9 _ _ (fun qz => @Hq9.get _ _ (qz.bar : Hq9 _ (by
  clear qz
  intro fr σ tp H F io Q hl w hh
  obtain ⟨tes, k1, k2⟩ := sjs (σ := σ) h
  refine wE_of (pe_joined k1) (k2 Str.empty fr tp H F io _ hl w ?_)
  unfold ev at hh
  exact Rs.all_imp (Rs.all_bind hh) (fun s fr1 z H' F' io' s' p' w' => z (.str s) H' F' io' s' p' w' (.str s)) fun _ _ _ z => z))) Xq9.mk
end
end Ag
namespace Ag
open PySem PySem.Spec L2
/-! ### dicts whose keys are tuples of ints and texts -/
section
variable {E : En} {o e a b c : Expr} {ta tb tc to : Tm} {fr : Fr} {σ tp : St} {H F : Hp} {io : List Addr} {Q : VK} {pos : Pos} {es : List Expr} {ts : List Tm} {D : Ends}
theorem keys_of : ∀ {ds : List Ag.D} {vs : List V} {k : List Key}, Reps E.G F io ds vs → keysOf ds = some k → vs = k.map kV
  | [], _, _, .nil, e => by cases e; rfl
  | d :: ds, v :: vs, k, .cons h r, e => by
    unfold keysOf at e
    cases q1 : keyOf d with
    | none => rw [q1] at e; cases e
    | some g =>
      cases q2 : keysOf ds with
      | none => rw [q1, q2] at e; cases e
      | some gs =>
        rw [q1, q2] at e
        cases e
        rw [List.map_cons, key_of h q1, keys_of r q2]
theorem SE_dict0 (ok : E.Ok) : SE E (.Dict [] [] pos) .dict0 := @Rq9 _ _ (fun qz => @Hq9.get _ _ (qz.bar : Hq9 _ (by
  clear qz
  intro fr σ tp H F io Q hl w hh
  refine wE_of pe_dnewT ?_
  unfold ev at hh
  intro p hp
  obtain ⟨w1, s1⟩ := w.pend hp (.dT [])
  obtain ⟨f1, f2, f3⟩ := w.wr.fresh hp
  have hc : CellOk E.G F (io ++ [p]) (upd (upd H p (.dT [])) p (.dT [])) p (.dictT []) := ⟨_, upd_same, .nil⟩
  have w3 := Ws.addCell w1 f3 (fun n _ e => f2 n e) (fun z => z) (fun q own => by
    obtain ⟨vs, _, _, _, h4, _⟩ := own
    have h4 : upd E.H0.hp p (.dT []) p = none := h4
    rw [upd_same] at h4; cases h4) hc
  have e : upd (upd H p (.dT [])) p (.dT []) = upd H p (.dT []) := by
    funext b
    by_cases z : b = p
    · rw [z, upd_same, upd_same]
    · rw [upd_ne z]
  rw [e] at w3
  refine hh (.ref p) _ F (io ++ [p]) (Same.refl _) pre_app w3 (.cell ?_)
  rw [← w.wr.len]; simp))) Xq9.mk
theorem SE_ixT (ok : E.Ok) {tpos : Pos} {j : Nat} (ho : SE E o to) (ha : SA E es ts) : SE E (.Subscript o (.Tuple es j tpos) pos) (.ixT to ts) := @Rq9 _ _ (fun qz => @Hq9.get _ _ (qz.bar : Hq9 _ (by
  clear qz
  intro fr σ tp H F io Q hl w h
  refine wE_of (pe_ix ix_w pe_w (pe_tup pa_w) (plain_ix rfl)) ?_
  unfold ev at h
  refine ho.part hl w h fun d fr1 v H1 F1 io1 s1 p1 w1 r1 z => ?_
  refine ha fr1 σ tp H1 F1 io1 _ hl w1 (Rs.all_imp (Rs.all_bind z) (fun ks fr2 z => ?_) fun _ _ _ z => z)
  intro vs H2 F2 io2 s2 p2 w2 r2
  split at z
  case isFalse => exact z.elim
  rename_i hz
  refine ⟨by rw [← r2.length]; exact hz, fun t ht => ?_⟩
  obtain ⟨F3, s3, w3, _⟩ := w2.newTup ht r2
  cases d with
  | cell n =>
    cases r1 with
    | cell hc =>
      cases e2 : fr2.sto[n]? with
      | none => simp [e2] at z; exact z.elim
      | some cl =>
        cases cl with
        | inst c fs => simp [e2] at z; exact z.elim
        | dict kvs => simp [e2] at z; exact z.elim
        | dictT kvs =>
          simp only [e2] at z
          cases e3 : keysOf ks with
          | none => simp only [e3] at z; exact z.elim
          | some k =>
            simp only [e3] at z
            cases e4 : dget kvs k with
            | none => simp only [e4] at z; exact z.elim
            | some y =>
              simp only [e4] at z
              obtain ⟨a', g1, _, us, g3, g4⟩ := w3.wr.cel n _ e2
              have hc3 := p2 _ _ hc
              rw [hc3] at g1; cases g1
              obtain ⟨u, e5, ru⟩ := g4.get e4
              have ek := keys_of r2 e3
              refine wIx_of (ix_dict (by have := ok.hu; omega)) ⟨_, u, rfl, e5 ▸ DGet.t g3 (by rw [← ek]; exact upd_same), ?_⟩
              exact z u _ F3 io2 ((s1.trans s2).trans s3) (p1.trans p2) w3 ru
  | _ => exact z.elim))) Xq9.mk
theorem SS_setT (ok : E.Ok) {tpos p : Pos} {j : Nat} (hs : notComp a = true) (ha : SE E a ta) (ho : SE E o to) (hk : SA E es ts) : SS E (.Assign [.Subscript o (.Tuple es j tpos) p] a pos) (.setT to ts ta) := @Rq9 _ _ (fun qz => @Hq9.get _ _ (qz.bar : Hq9 _ (by
  clear qz
  intro fr σ tp H F io D hl w h
  refine wS_of (ps_dput (by have := ok.hu; omega) pe_w (pe_tup pa_w) pe_w (swaps_no hs _ _ _)) ?_
  unfold ex at h
  refine ha.partS hl w h fun dv fr1 v H1 F1 io1 s1 p1 w1 rv h1 => ?_
  refine ho.partS hl w1 h1 fun d fr2 x H2 F2 io2 s2 p2 w2 rx h2 => ?_
  refine hk fr2 σ tp H2 F2 io2 _ hl w2 (Rs.all_imp (Rs.all_toS h2) (fun ks fr3 z => ?_) fun _ _ _ z => okS.exE hl z)
  intro vs H3 F3 io3 s3 p3 w3 r3
  split at z
  case isFalse => exact z.elim
  rename_i hz
  refine ⟨by rw [← r3.length]; exact hz, fun t ht => ?_⟩
  obtain ⟨F4, s4, w4, _⟩ := w3.newTup ht r3
  cases d with
  | cell n =>
    cases rx with
    | cell hc =>
      cases e2 : fr3.sto[n]? with
      | none => simp [e2] at z; exact z.elim
      | some cl =>
        cases cl with
        | inst c fs => simp [e2] at z; exact z.elim
        | dict kvs => simp [e2] at z; exact z.elim
        | dictT kvs =>
          simp only [e2] at z
          cases e3 : keysOf ks with
          | none => simp only [e3] at z; exact z.elim
          | some k =>
            simp only [e3] at z
            split at z
            case isFalse => exact z.elim
            rename_i hn
            obtain ⟨a', g1, g2, us, g3, g4⟩ := w4.wr.cel n _ e2
            have hc3 := p3 _ _ hc
            rw [hc3] at g1; cases g1
            have ek := keys_of r3 e3
            refine ⟨_, _, rfl, DPut.t g3 (by rw [← ek]; exact upd_same) (by rw [← g4.length]; exact Nat.lt_trans hn (by decide)), ?_⟩
            exact z σ _ F4 io3 hl (s3.trans s4) p3 (w4.cellPut hc3 ⟨_, upd_same, g4.put (rv.mono ((s2.trans s3).trans s4) (p2.trans p3))⟩)
  | _ => exact z.elim))) Xq9.mk
end
end Ag
namespace Ag
open PySem PySem.Spec L2 PyProof.Rows
/-! ### sorted(set(xs)), xs a list of ints: the set that set(xs) makes can be walked in order -/
section
variable {prog : Program} {w : World} {A : Around} {E : Value → Shared → Prop} {s : Shared}
/-- an empty set, led as the settings say -/
def ledSet (w : World) : Obj := { cls := .type "set", dict := none, data := .set #[] 0 (.fresh 0 0 (!w.params.followText "set-order")) }
theorem set_born (a : Value) {Q : Value → Shared → Prop} (h : Q (.ref s.heap.objs.size) { s with heap := s.heap.push (ledSet w) }) :
    codeAny (model prog w) A (.call (.builtin "set.__new__") ⟨[.type "set", a], []⟩) (wants Q E) s := by
  refine codeAny_of_tree (?_ : wpAny _ A.in1 (do checkBuiltinCall "set.__new__" ⟨[.type "set", a], []⟩; again (.builtin "set.__new__" ⟨[.type "set", a], []⟩)) _ _ s)
  refine wpAny_bind (wpAny_of_eq (PySem.F.newCall_set_1 a) (wpAny_pure ⟨plainId_quiet PySem.F.plain_set_new _, codeAny_builtin PySem.F.entry_set_new (by
    rw [Around.under_plainId PySem.F.plain_set_new _]; unfold Builtin.«set.__new__» Builtin.Frozenset.newClass
    have sub := sub_set_self
    cases s; dsimp only; wp_walk
    refine wpAny_askSetting (wpAny_pure (by dsimp only; simp only [newObj]; exact wpAny_bind (wpAny_alloc (wpAny_pure (wpAny_pure h))))))⟩))
variable {R : Result → Shared → Prop} {I : Addr} {fp wr : List Addr} {G : Array GenState → Array GenState → Prop} {n : Nat} {P : Nat → Value → Prop} {St : Nat → Shared → Prop}
/-- what has been put in of the first i items -/
def Put (val : Nat → Int) (i : Nat) (S : Int → Bool) : Prop := ∀ z, S z = true ↔ ∃ j, j < i ∧ val j = z
theorem Put.next {val : Nat → Int} {i : Nat} {S : Int → Bool} (h : Put val i S) : Put val (i + 1) (fun j => S j || decide (j = val i)) := fun z => by
  rw [Bool.or_eq_true, decide_eq_true_eq, h z]
  constructor
  · rintro (⟨j, h1, h2⟩ | e)
    · exact ⟨j, Nat.lt_succ_of_lt h1, h2⟩
    · exact ⟨i, Nat.lt_succ_self i, e.symm⟩
  · rintro ⟨j, h1, h2⟩
    by_cases q : j = i
    · exact .inr (by rw [← h2, q])
    · exact .inl ⟨j, by omega, h2⟩
theorem set_fill (W : WalksS prog w A.in1 I fp wr G n P St) {a : Addr} (out : a ∉ fp) (val : Nat → Int) (hval : ∀ i v, P i v → ∃ t, v = .int (val i) t) (hb : n + 1 < scanBound) : ∀ (k i m : Nat) (S : Int → Bool) (s : Shared), i + k = n → St i s → SetR w s.heap a S m → m ≤ i → Put val i S →
    (∀ s' m' S', Moved (a :: wr) G s s' → SetR w s'.heap a S' m' → m' ≤ n → Put val n S' → R (.ok (.ret .none)) s') → codeAny (model prog w) A (.builtin "set.update.loop" ⟨[.ref a, .ref I], []⟩) R s
  | 0, i, m, S, s, hk, st, hS, hm, hp, fin => by
    obtain rfl : i = n := by omega
    refine codeAny_builtin PyProof.Rows.F.entry_set_update_loop (by
      rw [Around.under_plainId PyProof.Rows.F.plain_set_update_loop _]
      refine wpAny_bind (W.done s _ _ st fun s' mv => wpAny_pure (fin s' m S (mv.mono fun b z => .tail _ z) (hS.at fun o => mv.heap a o fun z => out (W.sub _ z)) hm hp)))
  | k + 1, i, m, S, s, hk, st, hS, hm, hp, fin => by
    refine codeAny_builtin PyProof.Rows.F.entry_set_update_loop (by
      rw [Around.under_plainId PyProof.Rows.F.plain_set_update_loop _]
      refine wpAny_bind (W.item i s _ _ (by omega) st fun v s1 hv st1 mv => ?_)
      obtain ⟨t, rfl⟩ := hval i v hv
      have hS1 := hS.at (h' := s1.heap) fun o => mv.heap a o fun z => out (W.sub _ z)
      refine wpAny_bind (wpAny_holding (?_ : wpAny _ _ (setAdd a (.int (val i) t)) _ _ _))
      unfold setAdd
      refine wpAny_holding (wpAny_bind ((intKind prog w).pyHash (k := val i) (intKind_is prog w _ t) ?_))
      refine setR_add_hashed (s := { s1 with toks := s1.toks + 1 }) hS1 (by omega) fun h2 same hS2 => ?_
      have st2 := W.frame _ s1 h2 (s1.toks + 1) st1 (Nat.le_succ _) fun b hb o e => by rw [same.2 b fun z => out (z ▸ hb)]; exact e
      refine wpAny_pure ⟨plainId_quiet PyProof.Rows.F.plain_set_update_loop _, set_fill W out val hval hb k (i + 1) _ _ _ (by omega) st2 hS2 (by split <;> omega) hp.next fun s' m' S' mv' hS' hm' hp' => fin s' m' S' (Moved.trans W.gtrans ((mv.mono fun b z => .tail _ z).then_heap (Nat.le_succ _) fun b o hb e => by rw [same.2 b fun z => hb (z ▸ .head _)]; exact e) mv') hS' hm' hp'⟩)
section
variable {prog : Program} {w : World} {A : Around} {E : Value → Shared → Prop} {s : Shared}
/-- set(xs): a set that can be walked in order -/
theorem set_of_list {l : Addr} {us : Array Value} {ns : List Int} {Q : Value → Shared → Prop} (hh : A.handled = none) (hl : s.heap.IsList l us) (hi : IntsAre us.toList ns) (hb : us.size + 1 < scanBound)
    (fin : ∀ (h2 : Heap) (tk m : Nat) (S : Int → Bool), SetR w h2 s.heap.objs.size S m → m ≤ us.size → Put (fun i => ns.getD i 0) us.size S → (∀ b o, s.heap.get? b = some o → h2.get? b = some o) → Q (.ref s.heap.objs.size) { s with heap := h2, toks := tk }) :
    wpAny (model prog w) A (call (.type "set") [.ref l]) Q E s := by
  obtain ⟨c, tl, mro⟩ := PySem.F.called_set.mro
  have c1 := PySem.F.called_set.made; have c2 := PySem.F.called_set.sub
  have c3 := PySem.F.called_set.notType; have c4 := PySem.F.called_set.canCreate; have c5 := PySem.F.typeCall_set_1 (.ref l)
  refine wpAny_call (codeAny_of_tree (?_ : wpAny _ _ (callAny (.type "set") _) _ _ _))
  refine wpAny_pure ⟨Code.quiet_builtin _ (by decide +kernel), codeAny_builtin PySem.F.entry_type_call ?_⟩
  rw [Around.under_plain (weight_type_call_type "set" [.ref l] []) rfl]
  repeat any_goals first | assumption | wp_step
  refine codeAny_mono (set_born (.ref l) (E := E) (Q := fun v s1 => v = .ref s.heap.objs.size ∧ s1 = { s with heap := s.heap.push (ledSet w) }) ⟨rfl, rfl⟩) fun r s1 z => ?_
  rcases r with e | fl
  · exact z
  cases fl
  case ret v =>
    obtain ⟨rfl, rfl⟩ := z
    have at0 : (s.heap.push (ledSet w)).get? s.heap.objs.size = some (ledSet w) := Heap.get?_push_size _ rfl
    have ty : Shared.TypeIs { s with heap := s.heap.push (ledSet w) } (.ref s.heap.objs.size) "set" := ⟨_, at0, rfl⟩
    have i1 := PySem.F.called_set.init.lookup; have i2 := PySem.F.called_set.init.bind (.ref s.heap.objs.size)
    repeat any_goals first | assumption | wp_step
    refine codeAny_mono (codeAny_call_builtin (R := wants (fun v s2 => v = .none ∧ ∃ (h2 : Heap) (tk m : Nat) (S : Int → Bool), s2 = { s with heap := h2, toks := tk } ∧ SetR w h2 s.heap.objs.size S m ∧ m ≤ us.size ∧ Put (fun i => ns.getD i 0) us.size S ∧ ∀ b o, s.heap.get? b = some o → h2.get? b = some o) E) PySem.F.called_set.init.plain PySem.F.entry_set_init (check_set_init_1 ty ?_)) fun r s2 z => ?_
    · obtain ⟨⟨oc, od, oo, os⟩, ho, e1, nl, e2⟩ := hl
      dsimp only at e1 e2
      subst e1 e2
      have ho1 : (s.heap.push (ledSet w)).get? l = some { cls := .type "list", dict := od, data := .seq us nl, slots := os } := Heap.get?_push_of_some _ ho
      have b1 := PySem.F.sub_list_set; have b2 := PySem.F.sub_list_frozenset
      have b3 : (Value.type "list" == Value.type "dict") = false := by decide
      have hl1 : (s.heap.push (ledSet w)).IsList l us := ⟨_, ho1, rfl, nl, rfl⟩
      unfold Builtin.«set.__init__» noKeywords Builtin.Frozenset.updateFrom
      generalize ePI : pyIter = PI
      wp_walk
      subst ePI
      refine wpAny_pyIter_list hl1 (wpAny_bind (wpAny_runValue ?_))
      have lt := Heap.lt_size ho
      have sz : (s.heap.push (ledSet w)).objs.size = s.heap.objs.size + 1 := Heap.size_push ..
      refine set_fill (Walks.list (by simp [hh]) _ l (fun q => Nat.ne_of_lt (Nat.lt_succ_of_lt lt) (q.trans sz)) us).toS (a := s.heap.objs.size) (fun q => ?_) (fun i => ns.getD i 0) (fun i v hv => IntsAre.int_at hi i v (by rw [Array.getElem?_toList]; exact hv)) hb us.size 0 0 (fun _ => false) _ (Nat.zero_add _)
        ⟨⟨_, Heap.get?_push_size _ rfl, rfl, rfl⟩, hl1.push _⟩ (SetR.at (setR_fresh w) fun o => Heap.get?_push_of_some _) (Nat.le_refl 0) (fun z => ⟨(fun q => nomatch q), (fun ⟨j, q, _⟩ => absurd q (Nat.not_lt_zero j))⟩) fun s3 m S mv hS hm hp => ?_
      · rcases List.mem_cons.mp q with q | q
        · exact Nat.ne_of_lt (Nat.lt_succ_self _) (q.trans sz)
        · exact Nat.ne_of_gt lt (List.mem_singleton.mp q)
      · obtain ⟨h3, g3, d3, tk3, os3⟩ := s3
        obtain rfl : g3 = s.gens := mv.gens
        obtain rfl : d3 = s.drawn := mv.drawn
        obtain rfl : os3 = s.os := mv.os
        refine wpAny_pure (wpAny_pure ⟨rfl, h3, tk3, m, S, rfl, hS, hm, hp, fun b o e => ?_⟩)
        refine mv.heap b o (fun q => ?_) (Heap.get?_push_of_some _ (Heap.get?_push_of_some _ e))
        have lb := Heap.lt_size e
        rcases List.mem_cons.mp q with q | q
        · exact Nat.ne_of_lt lb q
        · exact Nat.ne_of_lt (Nat.lt_succ_of_lt lb) ((List.mem_singleton.mp q).trans sz)
    · rcases r with e | fl
      · exact z
      cases fl
      case ret v =>
        obtain ⟨rfl, h2, tk, m, S, rfl, hS, hm, hp, kp⟩ := z
        repeat any_goals first | assumption | wp_step
        exact fin h2 tk m S hS hm hp kp
      all_goals exact z.elim
  all_goals exact z.elim
end
end
end Ag
namespace Ag
open PySem PySem.Spec L2 PyProof.Rows
/-! ### sorted(set(xs)) -/
theorem insU_mem (x z : Int) : ∀ l, z ∈ insU x l ↔ z = x ∨ z ∈ l
  | [] => by unfold insU; simp
  | y :: r => by
    unfold insU
    split
    · exact List.mem_cons
    · split
      · rename_i h
        subst h
        rw [List.mem_cons]
        exact ⟨.inr, fun h => h.elim .inl id⟩
      · rw [List.mem_cons, insU_mem x z r, List.mem_cons]
        exact ⟨fun h => h.elim (fun h => .inr (.inl h)) fun h => h.elim .inl fun h => .inr (.inr h), fun h => h.elim (fun h => .inr (.inl h)) fun h => h.elim .inl fun h => .inr (.inr h)⟩
theorem ssI_mem (z : Int) : ∀ l, z ∈ ssI l ↔ z ∈ l
  | [] => Iff.rfl
  | x :: l => by
    unfold ssI
    rw [insU_mem, ssI_mem z l, List.mem_cons]
theorem insU_srt (x : Int) : ∀ l : List Int, l.Pairwise (· < ·) → (insU x l).Pairwise (· < ·)
  | [], _ => List.pairwise_singleton _ _
  | y :: r, h => by
    obtain ⟨h1, h2⟩ := List.pairwise_cons.mp h
    unfold insU
    split
    · rename_i hlt
      refine List.pairwise_cons.mpr ⟨fun a ha => ?_, h⟩
      rcases List.mem_cons.mp ha with rfl | z
      · exact hlt
      · have := h1 a z; omega
    · split
      · exact h
      · refine List.pairwise_cons.mpr ⟨fun a ha => ?_, insU_srt x r h2⟩
        rcases (insU_mem x a r).mp ha with rfl | z
        · omega
        · exact h1 a z
theorem ssI_srt : ∀ l : List Int, (ssI l).Pairwise (· < ·)
  | [] => .nil
  | x :: l => insU_srt x (ssI l) (ssI_srt l)
/-- strictly ascending lists of the same members -/
theorem asc_uniq : ∀ {l m : List Int}, l.Pairwise (· < ·) → m.Pairwise (· < ·) → (∀ z, z ∈ l ↔ z ∈ m) → l = m
  | [], [], _, _, _ => rfl
  | [], y :: m, _, _, h => nomatch (h y).mpr (.head _)
  | x :: l, [], _, _, h => nomatch (h x).mp (.head _)
  | x :: l, y :: m, hl, hm, h => by
    obtain ⟨l1, l2⟩ := List.pairwise_cons.mp hl
    obtain ⟨m1, m2⟩ := List.pairwise_cons.mp hm
    have e : x = y := by
      rcases List.mem_cons.mp ((h x).mp (.head _)) with e | hx
      · exact e
      · rcases List.mem_cons.mp ((h y).mpr (.head _)) with e | hy
        · exact e.symm
        · have := l1 y hy; have := m1 x hx; omega
    subst e
    rw [asc_uniq l2 m2 fun z => ⟨fun hz => ?_, fun hz => ?_⟩]
    · rcases List.mem_cons.mp ((h z).mp (.tail _ hz)) with e | q
      · have := l1 z hz; omega
      · exact q
    · rcases List.mem_cons.mp ((h z).mpr (.tail _ hz)) with e | q
      · have := m1 z hz; omega
      · exact q
theorem sorted_asc {X : Cx} {pins : List (Addr × Obj)} {σ : L2.St} {H1 : Hp} {s2 : Shared} {l : Addr} {S : Int → Bool} {m : Nat} {ns : List Int} {Q : VK} (I2 : L2.Inv X pins σ H1 s2) (hc : X.calm = true) (hS : SetR X.w s2.heap l S m) (h64 : m < 64) (hz : ∀ z, S z = true ↔ z ∈ ns)
    (q1 : ∀ p, H1 p = none → Q (.ref p) (upd H1 p (.lst ((ssI ns).map V.int)))) : wpAny (model X.prog X.w) X.A (call (.builtin "sorted") [.ref l]) (EP X pins σ Q) X.xe s2 := @Rq9 _ _ (fun qz => @Hq9.get _ _ (qz.bar : Hq9 _ (by
  clear qz
  refine sorted_set hS (I2.ok.hd hc) h64 fun s3 p out c ns2 k g o hp2 hg3 hi hs hm3 hl3 => ?_
  have e2 : ns2 = ssI ns := asc_uniq hs (ssI_srt ns) fun z => by rw [hm3 z, hz z, ssI_mem]
  subst e2
  have hn2 : H1 p = none := I2.hok.fresh hp2
  have hsz : ((ssI ns).map V.int).length ≤ sizeLine := by rw [List.length_map, hl3, sizeLine_eq]; omega
  have J : L2.Inv X pins σ (upd H1 p (.lst ((ssI ns).map V.int))) { s2 with heap := s3.heap, gens := s3.gens, drawn := s3.drawn, toks := s3.toks } :=
    I2.call (ch := []) (Un.laid k hp2 hn2) (I2.hok.laid k hp2 ⟨hsz, out.toList, c, vals_of_ints hi, hg3⟩) (by rw [g]; exact I2.bare) (fun _ z => nomatch z)
  obtain ⟨h3, g3, d3, t3, o3⟩ := s3
  cases o
  exact ⟨.ref p, _, J, rfl, q1 p hn2⟩))) Xq9.mk
section
variable {E : En} {a : Expr} {ta : Tm} {fr : Fr} {σ tp : L2.St} {H F : Hp} {io : List Addr} {Q : VK} {pos : Pos}
theorem SE_sset (ok : E.Ok) {p p2 q2 : Pos} (hg : Gl E.X "sorted") (hm : E.X.mg "sorted" = none) (hg2 : Gl E.X "set") (hm2 : E.X.mg "set" = none) (hn : notStar a = true) (ha : SE E a ta) :
    SE E (.Call (.Name "sorted" p) [.Call (.Name "set" p2) [a] [] q2] [] pos) (.sset ta) := @Rq9 _ _ (fun qz => @Hq9.get _ _ (qz.bar : Hq9 _ (by
  clear qz
  intro fr σ tp H F io Q hl w h
  unfold ev at h
  have hw : wE E.X a σ H fun x H1 => ∃ (l : Addr) (ns : List Int), x = .ref l ∧ SqL E.X.K H1 l (ns.map V.int) ∧ ns.length < 64 ∧ ∀ p, H1 p = none → Q (.ref p) (upd H1 p (.lst ((ssI ns).map V.int))) := by
    refine ha.part hl w h fun d fr1 v H1 F1 io1 s1 p1 w1 r1 z => ?_
    cases d with
    | lst xs =>
      cases r1 with
      | lst h1 r =>
        have z : ((match intsD xs with | some ns => if ns.length < 64 then .ok (.out (.fresh ((ssI ns).map .int))) fr1 else .bad | none => .bad) : Rs RV).all _ _ := z
        cases e : intsD xs with
        | none => rw [e] at z; exact z.elim
        | some ns =>
          rw [e] at z
          dsimp only at z
          split at z
          case isFalse => exact z.elim
          rename_i hlen
          have := reps_intsD e r
          subst this
          exact ⟨_, ns, rfl, SqL.of (w1.wr.sub _ _ h1), hlen, fun p hp => okE.fresh w1 (reps_ints2 _) (okE.mono s1 p1 z) hp⟩
    | _ => exact z.elim
  intro pins s I
  refine Call_ (ld_blt I hg hm PyProof.Rows.boot_sorted ?_)
  refine PyProof.Rows.callWith_builtin1 (PyProof.Rows.args_cons ?_ rfl) rfl rfl
  refine Call_ (ld_blt I hg2 hm2 PyProof.Rows.boot_set ?_)
  refine PyProof.Rows.callWith_type1 (PyProof.Rows.args_cons (thn (hw pins s I) fun v s1 ⟨x, H1, I1, r1, q1⟩ => PyProof.Rows.args_nil ?_) (star_ne hn _ _)) (star_ne hn _ _) rfl
  obtain ⟨l, ns, rfl, hq, h64, q1⟩ := q1
  cases r1
  obtain ⟨us, r, pl, hz⟩ := I1.list hq
  have hlen : us.toArray.size = ns.length := by rw [List.size_toArray, ← r.length, List.length_map]
  refine set_of_list (I1.ok.hd ok.calm) pl.isList (ns := ns) (by simpa using r.ints) (by unfold scanBound; omega) fun h2 tk m S hS hm hp kp => ?_
  refine PyProof.Rows.args_nil ?_
  refine sorted_asc (I1.kept kp) ok.calm hS (by omega) (fun z => ?_) (q1 := q1)
  rw [hp z]
  constructor
  · rintro ⟨j, hj, e⟩
    have e : ns.getD j 0 = z := e
    have hj : j < ns.length := by omega
    rw [← e, List.getD_eq_getElem?_getD, List.getElem?_eq_getElem hj]
    exact List.getElem_mem hj
  · intro hz
    obtain ⟨j, hj, e⟩ := List.getElem_of_mem hz
    refine ⟨j, by omega, ?_⟩
    show ns.getD j 0 = z
    rw [← e, List.getD_eq_getElem?_getD, List.getElem?_eq_getElem hj]; rfl))) Xq9.mk
end
end Ag
namespace Ag
open PySem PySem.Spec PySem.W PySem.Calls PyProof.Rows
/-! ### sorted(xs, key=f), f a def whose calls keep an invariant J -/
section
variable {prog : Program} {w : World} {A : Around} {E : Value → Shared → Prop} {s : Shared} {a kS : Addr} {vs : List Value} {P : PySem.Fin → Shared → Prop} {kz : List PyData} {f : Value}
/-- the keys are made: the end -/
theorem srk_end {us : List Value} {e e1 : Nat} (nk : s.heap.get? kS = some (seqObj "list" us.toArray e)) (na : s.heap.get? a = some (seqObj "list" #[] e1)) (hka : kS ≠ a) (hal : AllAlike kz) (hsk : Sortable kz) (hu : ∀ d, d ∈ kz → A.units + d.depth < cLine)
    (hr : EachIs (fun v k => ∃ as, Reads s.heap v k as) us kz) (hlen : kz.length = vs.length) (hZ : vs.length ≤ sizeLine)
    (h : ∀ h' tk out c, (∀ b o, b ≠ kS → b ≠ a → s.heap.get? b = some o → h'.get? b = some o) → h'.get? a = some (seqObj "list" (List.toArray out) c) → KeyedOut false kz vs out → P (.done (.ret .none)) { s with heap := h', toks := tk }) :
    wpAny (model prog w) A (ksk_end a false vs.toArray e1 (.ref kS) us.toArray) P E s := by
  obtain ⟨G, g1, g2⟩ := L2.restrict s.heap fun b => decide (b ≠ kS)
  have hul : us.length = vs.length := hr.length.trans hlen
  have gk : ∀ b o, G.get? b = some o → s.heap.get? b = some o := fun b o e => by
    by_cases q : b = kS
    · rw [g2 b (decide_eq_false fun z => z q)] at e; cases e
    · rw [← g1 b (decide_eq_true q)]; exact e
  have hr' : EachIs (fun v k => ∃ as, Reads s.heap v k as) (us.toArray).toList kz := hr
  refine keyH_end (κ := dataKind s.heap kz) (h₁ := G) (fun b o _ e => gk b o e) (g2 kS (decide_eq_false fun z => z rfl)) nk na hka (SortsAt.data hr' hal hsk hu) (by rw [List.size_toArray]; exact hul) hZ fun h3 tk3 c k3 n3 => ?_
  exact h h3 tk3 _ c (fun b o b1 b2 e => k3 b o b2 ((g1 b (decide_eq_true b1)).trans e)) n3 ⟨s.heap, us, hal, rfl, hr⟩
theorem srk_rest {J : List Value → Shared → Prop} {e1 : Nat} (J0 : J [] s) (nk : s.heap.get? kS = some (seqObj "list" #[] 0)) (na : s.heap.get? a = some (seqObj "list" #[] e1)) (hka : kS ≠ a) (hal : AllAlike kz) (hsk : Sortable kz) (hu : ∀ d, d ∈ kz → A.units + d.depth < cLine) (hlen : kz.length = vs.length) (hZ : vs.length ≤ sizeLine)
    (turn : ∀ (us : List Value) (v : Value) (s' : Shared) (o1 o2 : Obj), vs[us.length]? = some v → J us s' → s'.heap.get? kS = some o1 → (∀ z, o1.data ≠ .cell z) → s'.heap.get? a = some o2 → (∀ z, o2.data ≠ .cell z) →
      wpAny (model prog w) A (call f [v]) (fun u s2 => s2.heap.get? kS = some o1 ∧ s2.heap.get? a = some o2 ∧ ∀ h3 tk, Heap.SameBut kS s2.heap h3 → J (us ++ [u]) { s2 with heap := h3, toks := tk }) (fun _ _ => False) s')
    (reads : ∀ us s', J us s' → us.length = vs.length → EachIs (fun v k => ∃ as, Reads s'.heap v k as) us kz)
    (h : ∀ us s' h' tk out c, J us s' → us.length = vs.length → (∀ b o, b ≠ kS → b ≠ a → s'.heap.get? b = some o → h'.get? b = some o) → h'.get? a = some (seqObj "list" (List.toArray out) c) → KeyedOut false kz vs out → P (.done (.ret .none)) { s' with heap := h', toks := tk }) :
    wpAny (model prog w) A (ksk_rest a f false vs.toArray e1 (.ref kS)) P E s := by
  unfold ksk_rest
  refine wpAny_bind (wpAny_rule ?_)
  rw [List.forIn_toArray]
  have nc : ∀ (xs : Array Value) (n : Nat) (z : Option Value), (seqObj "list" xs n).data ≠ .cell z := fun _ _ _ q => by cases q
  refine wpAny_bind (ksk_fold (fun i s' => ∃ us e, us.length = i ∧ J us s' ∧ s'.heap.get? kS = some (seqObj "list" us.toArray e) ∧ s'.heap.get? a = some (seqObj "list" #[] e1)) vs 0 s ⟨[], 0, rfl, J0, nk, na⟩ ?step ?done)
  case step =>
    rintro j v s' hv ⟨us, e, hl, hJ, k1, k2⟩
    rw [Nat.zero_add] at hl ⊢
    have hj : j < vs.length := (List.getElem?_eq_some_iff.mp hv).1
    subst hl
    refine wpAny_bind (wpAny_attempt (wpAny_mono (turn us v s' _ _ hv hJ k1 (nc _ _) k2 (nc _ _)) (fun u s2 q => ?_) fun _ _ z => False.elim z))
    obtain ⟨q1, q2, q3⟩ := q
    try dsimp only
    have sb := Heap.SameBut.update s2.heap kS (Obj.mapSeq (·.push u))
    obtain ⟨c2, hc2⟩ : ∃ c2, (s2.heap.update kS (Obj.mapSeq (·.push u))).get? kS = some (seqObj "list" (us.toArray.push u) c2) := ⟨_, get?_update_seq q1 (·.push u)⟩
    refine wpAny_bind (listUpdate_at q1 rfl ?_ (by rw [List.size_toArray]; omega) (by rw [Array.size_push, List.size_toArray]; omega))
    refine wpAny_pure ⟨rfl, us ++ [u], c2, by rw [List.length_append]; rfl, q3 _ s2.toks sb, ?_, (sb.2 a hka.symm).trans q2⟩
    rw [show (us ++ [u]).toArray = us.toArray.push u by simp]
    exact hc2
  case done =>
    rintro s' ⟨us, e, hl, hJ, k1, k2⟩
    rw [Nat.zero_add] at hl
    try dsimp only
    refine wpAny_bind (listItems_at k1 rfl ?_)
    exact srk_end k1 k2 hka hal hsk hu (reads us s' hJ hl) hlen hZ fun h' tk out c g1 g2 g3 => h us s' h' tk out c hJ hl g1 g2 g3
/-- sorted(l, key=f), f a def -/
theorem srk_sorted {J : Addr → Addr → List Value → Shared → Prop} {Q : Value → Shared → Prop} {l fa : Addr} (hl : s.heap.IsList l vs.toArray) (hal : AllAlike kz) (hsk : Sortable kz) (hu : ∀ d, d ∈ kz → A.units + 2 + d.depth < cLine) (hlen : kz.length = vs.length) (hZ : vs.length ≤ sizeLine)
    (J0 : ∀ h0 tk kS a, (∀ b o, s.heap.get? b = some o → h0.get? b = some o) → s.heap.objs.size ≤ kS → s.heap.objs.size ≤ a → kS ≠ a → J kS a [] { s with heap := h0, toks := tk })
    (turn : ∀ (kS a : Addr) (us : List Value) (v : Value) (s' : Shared) (o1 o2 : Obj), s.heap.objs.size ≤ kS → s.heap.objs.size ≤ a → vs[us.length]? = some v → J kS a us s' → s'.heap.get? kS = some o1 → (∀ z, o1.data ≠ .cell z) → s'.heap.get? a = some o2 → (∀ z, o2.data ≠ .cell z) →
      wpAny (model prog w) A.in1.in1 (call (.ref fa) [v]) (fun u s2 => s2.heap.get? kS = some o1 ∧ s2.heap.get? a = some o2 ∧ ∀ h3 tk, Heap.SameBut kS s2.heap h3 → J kS a (us ++ [u]) { s2 with heap := h3, toks := tk }) (fun _ _ => False) s')
    (reads : ∀ kS a us s', J kS a us s' → us.length = vs.length → EachIs (fun v k => ∃ as, Reads s'.heap v k as) us kz)
    (h : ∀ kS a us s' h' tk out c, s.heap.objs.size ≤ kS → s.heap.objs.size ≤ a → J kS a us s' → us.length = vs.length → (∀ b o, b ≠ kS → b ≠ a → s'.heap.get? b = some o → h'.get? b = some o) → h'.get? a = some (seqObj "list" (List.toArray out) c) → KeyedOut false kz vs out → Q (.ref a) { s' with heap := h', toks := tk }) :
    wpAny (model prog w) A (call (.builtin "sorted") [.ref l] [(Str.ofString "key", .ref fa)]) Q E s := by
  refine sorted_of_sort hl hZ (ksk_s1 _ _) (fun _ => ksk_l1 _ _) fun E' => ?_
  rw [ksk_t1]
  have ho := copyHeap_at s.heap vs
  have hold : ∀ b o, s.heap.get? b = some o → (copyHeap s.heap vs).get? b = some o := fun b o e => copyHeap_old e
  have hD : s.heap.objs.size + 1 < (copyHeap s.heap vs).objs.size := Heap.lt_size ho
  generalize copyHeap s.heap vs = g at ho hold hD
  generalize hDn : s.heap.objs.size + 1 = D at ho ⊢
  have hDn : @Eq Nat (s.heap.objs.size + 1) D := hDn
  obtain ⟨e1, ho1⟩ : ∃ e1, (g.update D (Obj.mapSeq fun _ => (#[] : Array Value))).get? D = some (seqObj "list" #[] e1) := ⟨_, get?_update_seq ho fun _ => #[]⟩
  have hkS : ((g.update D (Obj.mapSeq fun _ => (#[] : Array Value))).push (seqObj "tuple" vs.toArray 0)).objs.size = g.objs.size + 1 := by rw [size_push', Heap.size_update]
  unfold ksk_tree
  refine wpAny_bind (listItems_at ho rfl ?_)
  refine wpAny_bind (listUpdate_at ho rfl ?_ (by rw [List.size_toArray]; exact hZ) (Nat.zero_le _))
  refine wpAny_bind (seqEpoch_at ho1 rfl ?_)
  refine wpAny_bind (wpAny_newTuple ?_ hZ)
  refine wpAny_bind (wpAny_newList ?_ (Nat.zero_le _))
  refine wpAny_holding ?_
  generalize hkE : ((g.update D (Obj.mapSeq fun _ => (#[] : Array Value))).push (seqObj "tuple" vs.toArray 0)).objs.size = kS at hkS
  have hkS : @Eq Nat kS (g.objs.size + 1) := hkS
  have hD : @LT.lt Nat _ D g.objs.size := by rw [← hDn]; exact hD
  have old2 : ∀ b o, s.heap.get? b = some o → (((g.update D (Obj.mapSeq fun _ => (#[] : Array Value))).push (seqObj "tuple" vs.toArray 0)).push (seqObj "list" #[] 0)).get? b = some o := fun b o e => by
    have hb : b ≠ D := Nat.ne_of_lt (by have h9 : @LT.lt Nat _ b s.heap.objs.size := Heap.lt_size e; omega)
    exact Heap.get?_push_of_some _ (Heap.get?_push_of_some _ ((Heap.get?_update_ne _ _ _ _ hb).trans (hold b o e)))
  refine srk_rest (kz := kz) (J := J kS D) (kS := kS) (a := D) (J0 _ _ kS D old2 (by omega) (by omega) (Nat.ne_of_gt (by omega))) ?_ (Heap.get?_push_of_some _ (Heap.get?_push_of_some _ ho1)) (Nat.ne_of_gt (by omega)) hal hsk hu hlen hZ (fun us v s' o1 o2 => turn kS D us v s' o1 o2 (by omega) (by omega)) (reads kS D) fun us s' h' tk out c q1 q2 q3 q4 q5 => ⟨rfl, h kS D us s' h' tk out c (by omega) (by omega) q1 q2 q3 q4 q5⟩
  rw [← hkE]
  exact Heap.get?_push_size _ rfl
end
end Ag
namespace Ag
open PySem PySem.Spec L2
open PySem.W (EachIs AllAlike Sortable)
/-! ### sorted(xs, key=f), f a def of the program -/
/-- a call of f with one thing, two built-ins deep, that gives a flag and an int -/
def CallsK (E : En) (u : Value) (phi : Fn) : Prop := ∀ (σ : L2.St) (H F : Hp) (d : Ag.D) (v : V) (uv : Value) (pins : List (Addr × Obj)) (s : Shared) (k : Bool × Int),
  Same F H → (∀ a o, F a = some o → Fz o) → Rep E.G F [] d v → RelV v uv → Inv E.X pins σ H s → keyBI (phi [d] []) = some k →
  wpAny (model E.X.prog E.X.w) E.X.A.in1.in1 (call u [uv]) (fun r s' => ∃ H' t, Same H H' ∧ Inv E.X pins σ H' s' ∧ r = .ref t ∧ SqT E.X.K H' t [.bl k.1, .int k.2]) (fun _ _ => False) s
def SrtOk (E : En) (x : Str) (i : Nat) : Prop := ∃ fa, E.X.mg x = some (.ref fa) ∧ PySem.W.keepIn E.X.K (.ref fa) = true ∧ CallsK E (.ref fa) (E.T.phi i)
section
variable {X : Cx} {pins : List (Addr × Obj)} {σ : L2.St} {H : Hp} {s : Shared} {h' : Heap}
/-- one of the changed objects is tracked from now on -/
theorem Inv_turnedAt {t' : Nat} {ch : List Addr} {T : Addr} {ob : HO} (I : Inv X pins σ H s) (k : ∀ b o, b ∉ ch → s.heap.get? b = some o → h'.get? b = some o) (hf : ∀ b ∈ ch, FpOk X pins H b) (hT : T ∈ ch)
    (new : ObjOk X.prog X.w (upd H T ob) h' T ob) : Inv X pins σ (upd H T ob) { s with heap := h', toks := t' } := @Rq9 _ _ (fun qz => @Hq9.get _ _ (qz.bar : Hq9 _ (by
  clear qz
  have hn : H T = none := (hf T hT).1
  have nit : ∀ b u, H b = some u → b ∉ ch := fun b u e z => by
    have q := (hf b z).1
    rw [q] at e; cases e
  have ne : ∀ b u, H b = some u → b ≠ T := fun b u e z => by rw [z, hn] at e; cases e
  have nch : ∀ b, b ∉ ch → b ≠ T := fun b hb z => hb (z ▸ hT)
  refine I.step (ch := ch) (g' := s.gens) (d' := s.drawn)
    (fun b hb => have f := hf b hb; ⟨f.2.2.2.1, f.2.1, f.2.2.2.2.1, f.2.2.2.2.2⟩)
    (fun b o _ _ hc e _ => k b o hc e)
    (fun b o _ _ hc e _ => ⟨o.slots, k b o hc e⟩)
    (fun b o hc _ n => by rw [upd_ne (nch b hc)]; exact n)
    (fun b o hc e => ⟨o, k b o hc e⟩)
    (fun b xs e => by rw [upd_ne (ne b _ e)]; exact e)
    (fun b o u e => by rw [upd_ne (ne b _ e)]; exact e)
    (fun b ps e => ⟨#[], by rw [upd_ne (ne b _ e), e]; simp⟩)
    (fun m hm => ?_) (fun b u e => ?_) I.bare
  · obtain ⟨o, es, ep, ho, r⟩ := hm
    exact ⟨o, es, ep, k _ o (fun z => (hf _ z).2.1 rfl) ho, r⟩
  · by_cases hb : b = T
    · subst hb
      rw [upd_same] at e
      cases e
      exact new
    · rw [upd_ne hb] at e
      have st := (I.hok b u e).stay (H' := upd H T ob) (h' := h') (fun c v hc q => k c v (hc.elim (fun z => z ▸ nit b u e) fun z => nit c _ z) q)
        (fun c q => by rw [upd_ne (ne c _ q)]; exact q) fun c xs q => by rw [upd_ne (ne c _ q)]; exact q
      exact st))) Xq9.mk
end
theorem valsBack {xs : List V} {us : List Value} {i : Nat} {u : Value} (h : Vals xs us) (e : us[i]? = some u) : ∃ x, xs[i]? = some x ∧ RelV x u := @Rq9 _ _ (fun qz => @Hq9.get _ _ (qz.bar : Hq9 _ (by
  clear qz
  have hi := (List.getElem?_eq_some_iff.mp e).1
  have hl := h.length
  have ex : xs[i]? = some xs[i] := List.getElem?_eq_getElem (by omega)
  obtain ⟨u2, h1, h2⟩ := h.get ex
  rw [e] at h1
  cases h1
  exact ⟨_, ex, h2⟩))) Xq9.mk
theorem repsBack {G : Glb} {F : Hp} {io : List Addr} {ds : List Ag.D} {vs : List V} {i : Nat} {u : V} (h : Reps G F io ds vs) (e : vs[i]? = some u) : ∃ x, ds[i]? = some x ∧ Rep G F io x u := @Rq9 _ _ (fun qz => @Hq9.get _ _ (qz.bar : Hq9 _ (by
  clear qz
  have hi := (List.getElem?_eq_some_iff.mp e).1
  have hl := h.length
  have ex : ds[i]? = some ds[i] := List.getElem?_eq_getElem (by omega)
  obtain ⟨u2, h1, h2⟩ := h.get ex
  rw [e] at h1
  cases h1
  exact ⟨_, ex, h2⟩))) Xq9.mk
theorem each_map {α β γ : Type} {R : α → β → Prop} {S : α → γ → Prop} {g : β → γ} : ∀ {as : List α} {bs : List β}, EachIs R as bs → (∀ a b, R a b → S a (g b)) → EachIs S as (bs.map g)
  | _, _, .nil, _ => .nil
  | _, _, .cons h t, k => .cons (k _ _ h) (each_map t k)
theorem each_vals {α : Type} {g : α → V} : ∀ {us : List Value} {bs : List α}, EachIs (fun u b => RelV (g b) u) us bs → Vals (bs.map g) us
  | _, _, .nil => .nil
  | _, _, .cons h t => .cons h (each_vals t)
theorem reps_of {G : Glb} {F : Hp} {io : List Addr} {α : Type} {f : α → Ag.D} {g : α → V} : ∀ {l : List α}, (∀ x ∈ l, Rep G F io (f x) (g x)) → Reps G F io (l.map f) (l.map g)
  | [], _ => .nil
  | x :: l, h => .cons (h x (.head _)) (reps_of fun y hy => h y (.tail _ hy))
theorem reps_zip {G : Glb} {F : Hp} {io : List Addr} : ∀ {ds : List Ag.D} {vs : List V}, Reps G F io ds vs → ∀ p ∈ ds.zip vs, Rep G F io p.1 p.2
  | _, _, .nil, p, h => by cases h
  | _, _, .cons a b, p, h => by
    rcases List.mem_cons.mp h with rfl | h
    · exact a
    · exact reps_zip b p h
/-- no cell in a flat pair -/
theorem reps_flat {G : Glb} {F : Hp} {io : List Addr} : ∀ {ds : List Ag.D} {vs : List V}, ds.all flatD = true → Reps G F io ds vs → Reps G F [] ds vs
  | _, _, _, .nil => .nil
  | _, _, h, .cons a b => by
    rw [List.all_cons, Bool.and_eq_true] at h
    refine .cons ?_ (reps_flat h.2 b)
    cases a <;> first | (have q : false = true := h.1; cases q; done) | constructor
theorem rep_flat {G : Glb} {F : Hp} {io : List Addr} {d : Ag.D} {v : V} (h : pairOk d = true) (r : Rep G F io d v) : Rep G F [] d v := @Rq9 _ _ (fun qz => @Hq9.get _ _ (qz.bar : Hq9 _ (by
  clear qz
  cases d with
  | tup ds =>
    cases r with
    | tup h1 r1 => exact .tup h1 (reps_flat h r1)
  | _ => cases h))) Xq9.mk
theorem keys_at {phi : Fn} : ∀ {ds : List Ag.D} {ks : List (Bool × Int)}, keysBI phi ds = some ks → ds.length = ks.length ∧ ∀ (j : Nat) d, ds[j]? = some d → ∃ k, ks[j]? = some k ∧ keyBI (phi [d] []) = some k
  | [], ks, e => by cases e; exact ⟨rfl, fun j d h => by simp at h⟩
  | d :: ds, ks, e => by
    unfold keysBI at e
    cases e1 : keyBI (phi [d] []) with
    | none => rw [e1] at e; cases e
    | some k =>
      cases e2 : keysBI phi ds with
      | none => rw [e1, e2] at e; cases e
      | some r =>
        rw [e1, e2] at e
        cases e
        obtain ⟨h1, h2⟩ := keys_at e2
        refine ⟨by rw [List.length_cons, List.length_cons, h1], fun j x hx => ?_⟩
        cases j with
        | zero => cases hx; exact ⟨k, rfl, e1⟩
        | succ j => exact h2 j x (by simpa using hx)
theorem ws_same {G : Glb} {H0 : Ent} {n0 : Nat} {fr : Fr} {σ : L2.St} {H H' F : Hp} {io : List Addr} (w : Ws G H0 n0 fr σ H F io) (sm : Same H H') : Ws G H0 n0 fr σ H' F io := @Rq9 _ _ (fun qz => @Hq9.get _ _ (qz.bar : Hq9 _ (by
  clear qz
  have cel : ∀ a c, CellOk G F io H a c → CellOk G F io H' a c := fun a c h => by
    cases c with
    | dict kvs => obtain ⟨vs, h1, h2⟩ := h; exact ⟨vs, sm _ _ h1, h2⟩
    | dictT kvs => obtain ⟨vs, h1, h2⟩ := h; exact ⟨vs, sm _ _ h1, h2⟩
    | inst c fs => obtain ⟨dx, vs, h1, h2⟩ := h; exact ⟨dx, vs, sm _ _ h1, h2⟩
  refine ⟨⟨fun b o e => sm _ _ (w.wr.sub b o e), w.wr.len, fun n c e => ?_, w.wr.inj, fun a o e k => sm _ _ (w.wr.keep a o e k), w.wr.new, w.wr.frz, w.wr.nle, w.wr.old⟩, w.sl.len, fun i sl e => ?_, w.sl.dis⟩
  · obtain ⟨a, e1, e2, e3⟩ := w.wr.cel n c e
    exact ⟨a, e1, e2, cel a c e3⟩
  · have q := w.sl.at_ i sl e
    cases sl with
    | un => trivial
    | val d => exact q
    | own xs =>
      obtain ⟨p, e1, vs, h1, h2, h3, h4, h5⟩ := q
      exact ⟨p, e1, vs, sm _ _ h1, h2, h3, h4, h5⟩))) Xq9.mk
def kzD (k : Bool × Int) : PyData := .tuple [.bool k.1, .int k.2]
theorem kz_le (k q : Bool × Int) : (!PySem.W.dataLt (kzD q) (kzD k)) = leBI k q := @Rq9 _ _ (fun qz => @Hq9.get _ _ (qz.bar : Hq9 _ (by
  clear qz
  obtain ⟨b, i⟩ := k
  obtain ⟨c, j⟩ := q
  unfold kzD
  rw [PySem.W.dataLt_pair (by simp [PySem.W.alike]) (by simp [PySem.W.alike]), PySem.W.dataLt_int]
  have e0 : PySem.W.dataLt (.bool c) (.bool b) = (!c && b) := by cases b <;> cases c <;> decide +kernel
  rw [e0]
  unfold leBI
  simp only [PyData.eqv, beq_iff_eq]
  have e1 : (if j = i then false else decide (j < i)) = decide (j < i) := by
    by_cases h : j = i
    · rw [if_pos h, decide_eq_false (by omega)]
    · rw [if_neg h]
  have e2 : (!decide (j < i)) = decide (i ≤ j) := by
    by_cases h : j < i
    · rw [decide_eq_true h, decide_eq_false (by omega)]; rfl
    · rw [decide_eq_false h, decide_eq_true (by omega)]; rfl
  rw [e1]
  cases b <;> cases c <;> simp [e2]))) Xq9.mk
section
variable {E : En} {H1 F1 : Hp} {l fa : Addr} {σ : L2.St} {pins : List (Addr × Obj)} {s : Shared} {Q : VK} {phi : Fn} {xs : List Ag.D} {ks : List (Bool × Int)} {vs : List V} {io1 : List Addr}
/-- the keys so far -/
def KsOk (K : PySem.W.Frag) (H : Hp) : List Value → List (Bool × Int) → Prop := EachIs fun u k => ∃ t, u = .ref t ∧ SqT K H t [.bl k.1, .int k.2]
theorem srk_inv (ok : E.Ok) (hF : Same F1 H1) (hz1 : ∀ a o, F1 a = some o → Fz o) (I : Inv E.X pins σ H1 s) (hq : SqL E.X.K H1 l vs) (rr : Reps E.G F1 io1 xs vs) (hpo : xs.all pairOk = true) (hks : keysBI phi xs = some ks) (cK : CallsK E (.ref fa) phi)
    (fin : ∀ H' D ys, Same H1 H' → H' D = none → Reps E.G F1 io1 (sortBI xs ks) ys → Q (.ref D) (upd H' D (.lst ys))) :
    wpAny (model E.X.prog E.X.w) E.X.A (call (.builtin "sorted") [.ref l] [(Str.ofString "key", .ref fa)]) (EP E.X pins σ Q) E.X.xe s := @Rq9 _ _ (fun qz => @Hq9.get _ _ (qz.bar : Hq9 _ (by
  clear qz
  obtain ⟨its, rv, pl, hz⟩ := I.list hq
  obtain ⟨kl, kat⟩ := keys_at hks
  have hxl := rr.length
  have hil := rv.length
  have hu5 := ok.hu5
  have dep : ∀ k, (kzD k).depth = 1 := fun k => rfl
  have hkl : (ks.map kzD).length = its.length := by rw [List.length_map]; omega
  refine srk_sorted (kz := ks.map kzD) (vs := its) (J := fun kS a us s' => ∃ H', Same H1 H' ∧ Inv E.X pins σ H' s' ∧ FpOk E.X pins H' kS ∧ FpOk E.X pins H' a ∧ KsOk E.X.K H' us (ks.take us.length)) pl.isList ?al ?sk ?hu hkl (by omega) ?J0 ?turn ?reads ?h
  case al =>
    intro d hd d' hd'
    obtain ⟨k, _, rfl⟩ := List.mem_map.mp hd
    obtain ⟨k', _, rfl⟩ := List.mem_map.mp hd'
    simp [kzD, PySem.W.alike, PySem.W.alikeAll]
  case sk =>
    exact .inl fun d hd => by
      obtain ⟨k, _, rfl⟩ := List.mem_map.mp hd
      exact ⟨_, _, rfl⟩
  case hu =>
    intro d hd
    obtain ⟨k, _, rfl⟩ := List.mem_map.mp hd
    rw [dep]; omega
  case J0 =>
    intro h0 tk kS a hk h1 h2 h3
    exact ⟨H1, Same.refl _, I.kept hk, I.fpOk h1 (I.hok.fresh h1), I.fpOk h2 (I.hok.fresh h2), by unfold KsOk; rw [List.length_nil, List.take_zero]; exact .nil⟩
  case turn =>
    rintro kS a us v s' o1 o2 hkS ha hv ⟨H', sm, I', f1, f2, hK⟩ g1 d1 g2 d2
    obtain ⟨x, hx, rxv⟩ := valsBack rv hv
    obtain ⟨d, hd, rd⟩ := repsBack rr hx
    obtain ⟨k, hk, hkb⟩ := kat _ d hd
    have hp := rep_flat (List.all_eq_true.mp hpo d (List.mem_of_getElem? hd)) rd
    have I2 := I'.pinned (fp := [kS, a]) (fun b hb => by
      simp only [List.mem_cons, List.not_mem_nil, or_false] at hb
      rcases hb with rfl | rfl
      · exact f1
      · exact f2) (fun b hb => by
      simp only [List.mem_cons, List.not_mem_nil, or_false] at hb
      rcases hb with rfl | rfl
      · exact ⟨o1, g1, d1⟩
      · exact ⟨o2, g2, d2⟩)
    refine thnF (cK σ H' F1 d x v _ s' k (fun b o e => sm _ _ (hF b o e)) hz1 hp rxv I2 hkb) (fun u s2 q => ?_)
    obtain ⟨H2, t, sm2, I3, rfl, hT⟩ := q
    have p1 := I3.pin (kS, o1) (List.mem_append_right _ (List.mem_append_right _ (mem_pinsAt (by simp) g1)))
    have p2 := I3.pin (a, o2) (List.mem_append_right _ (List.mem_append_right _ (mem_pinsAt (by simp) g2)))
    have I4 := I3.unpinned
    have e1 : FpOk E.X pins H2 kS := ⟨p1.2.1, f1.2⟩
    have e2 : FpOk E.X pins H2 a := ⟨p2.2.1, f2.2⟩
    refine ⟨p1.1, p2.1, fun h3 tk sb => ⟨H2, fun b o e => sm2 _ _ (sm _ _ e), I4.turned (fun b o hb e => (sb.2 b hb).trans e) e1.1 e1.2.1 e1.2.2.2.1 e1.2.2.2.2.1 e1.2.2.2.2.2, e1, e2, ?_⟩⟩
    have et : ks.take (us ++ [Value.ref t]).length = ks.take us.length ++ [k] := by
      rw [List.length_append, List.length_singleton, List.take_add_one, hk]; rfl
    unfold KsOk at hK ⊢
    rw [et]
    exact PySem.W.each_snoc ⟨t, rfl, hT⟩ (hK.mono fun u k ⟨t, h1, h2⟩ => ⟨t, h1, Same.sqT sm2 h2⟩)
  case reads =>
    rintro kS a us s' ⟨H', sm, I', f1, f2, hK⟩ hl
    have et : ks.take us.length = ks := List.take_of_length_le (by rw [List.length_map] at hkl; omega)
    unfold KsOk at hK
    rw [et] at hK
    refine each_map hK fun u k ⟨t, h1, h2⟩ => ?_
    subst h1
    obtain ⟨its2, r2, ⟨o, ho, hc, n, hd⟩, _⟩ := I'.tuple h2
    obtain ⟨u1, u2, rfl, ri, rj⟩ := vals2 r2
    have ri : u1 = Value.bool k.1 := ri
    obtain ⟨t2, rfl⟩ := rj
    subst ri
    exact ⟨_, .tuple ho hc hd (.cons (.bool k.1) (.cons (.int k.2 t2) .nil))⟩
  case h =>
    rintro kS a us s' h' tk out c hkS ha ⟨H', sm, I', f1, f2, hK⟩ hl hk3 hD hko
    let bs := (xs.zip vs).zip ks
    have bl : bs.length = its.length := by
      show ((xs.zip vs).zip ks).length = _
      rw [List.length_zip, List.length_zip]; omega
    have ekz : ks.map kzD = bs.map fun b => kzD b.2 := by
      have e : bs.map Prod.snd = ks := List.map_snd_zip (by rw [List.length_zip]; omega)
      conv => lhs; rw [← e]
      rw [List.map_map]; rfl
    have eR : EachIs (fun (u : Value) (b : (Ag.D × V) × (Bool × Int)) => RelV b.1.2 u) its bs := by
      refine EachIs.of_zip (by rw [bl]) fun p hp => ?_
      obtain ⟨j, hj⟩ := List.getElem?_of_mem hp
      rw [List.getElem?_zip_eq_some] at hj
      obtain ⟨j1, j2⟩ := hj
      have j2 : ((xs.zip vs).zip ks)[j]? = some p.2 := j2
      rw [List.getElem?_zip_eq_some] at j2
      obtain ⟨j3, j4⟩ := j2
      rw [List.getElem?_zip_eq_some] at j3
      obtain ⟨x, hx, rx⟩ := valsBack rv j1
      rw [hx] at j3
      rw [← Option.some.inj j3.2]
      exact rx
    rw [ekz] at hko
    have ho := PySem.W.keyedOut_each (fun b : (Ag.D × V) × (Bool × Int) => kzD b.2) hko eR
    have eb : bs.mergeSort (PySem.W.dataLe false fun b => kzD b.2) = bs.mergeSort fun p q => leBI p.2 q.2 := PySem.W.sort_congr fun p _ q _ => kz_le p.2 q.2
    rw [eb] at ho
    have ev := each_vals (g := fun b : (Ag.D × V) × (Bool × Int) => b.1.2) ho
    have pm : (bs.mergeSort fun p q => leBI p.2 q.2).Perm bs := List.mergeSort_perm _ _
    have rs2 : Reps E.G F1 io1 ((bs.mergeSort fun p q => leBI p.2 q.2).map fun b => b.1.1) ((bs.mergeSort fun p q => leBI p.2 q.2).map fun b => b.1.2) := reps_of fun b hb => by
      have hb : b ∈ bs := pm.mem_iff.mp hb
      exact reps_zip rr _ (List.of_mem_zip hb).1
    have es : (bs.mergeSort fun p q => leBI p.2 q.2).map (fun b => b.1.1) = sortBI xs ks := by
      unfold sortBI
      have e1 : bs.map (fun b => (b.1.1, b.2)) = xs.zip ks := by
        show ((xs.zip vs).zip ks).map (fun b => (b.1.1, b.2)) = xs.zip ks
        refine List.ext_getElem? fun i => ?_
        rw [List.getElem?_map]
        cases e : xs[i]? with
        | none =>
          have h1 : xs.length ≤ i := List.getElem?_eq_none_iff.mp e
          rw [List.getElem?_eq_none (by rw [List.length_zip, List.length_zip]; omega), List.getElem?_eq_none (by rw [List.length_zip]; omega)]; rfl
        | some x =>
          have h1 := (List.getElem?_eq_some_iff.mp e).1
          have h2 : vs[i]? = some vs[i] := List.getElem?_eq_getElem (by omega)
          have h3 : ks[i]? = some ks[i] := List.getElem?_eq_getElem (by omega)
          rw [List.getElem?_zip_eq_some (z := ((x, vs[i]), ks[i])) |>.mpr ⟨List.getElem?_zip_eq_some (z := (x, vs[i])) |>.mpr ⟨e, h2⟩, h3⟩, List.getElem?_zip_eq_some (z := (x, ks[i])) |>.mpr ⟨e, h3⟩]; rfl
      rw [← e1, ← PySem.W.sort_maps (r := fun p q : (Ag.D × V) × (Bool × Int) => leBI p.2 q.2) (s := fun p q : Ag.D × (Bool × Int) => leBI p.2 q.2) (fun b => (b.1.1, b.2)) (fun _ _ _ _ => rfl), List.map_map]; rfl
    rw [es] at rs2
    generalize (bs.mergeSort fun p q => leBI p.2 q.2).map (fun b => b.1.2) = ys at ev rs2
    have hyl : ys.length ≤ sizeLine := by
      have h1 := rs2.length
      have h2 : (sortBI xs ks).length = xs.length := by
        unfold sortBI
        rw [List.length_map, List.length_mergeSort, List.length_zip]; omega
      omega
    refine ⟨.ref a, upd H' a (.lst ys), Inv_turnedAt (ch := [kS, a]) (t' := tk) I' (fun b o hb e => ?_) (fun b hb => ?_) (by simp) ⟨hyl, out, c, ev, hD⟩, rfl, fin H' a ys sm f2.1 rs2⟩
    · simp only [List.mem_cons, List.not_mem_nil, or_false, not_or] at hb
      exact hk3 b o hb.1 hb.2 e
    · simp only [List.mem_cons, List.not_mem_nil, or_false] at hb
      rcases hb with rfl | rfl
      · exact f1
      · exact f2))) Xq9.mk
end
end Ag
namespace Ag
open PySem PySem.Spec L2
open PyProof.Rows hiding St
section
variable {E : En} {a : Expr} {ta : Tm} {fr : Fr} {σ tp : L2.St} {H F : Hp} {io : List Addr} {Q : VK} {pos : Pos}
/-- a call of sorted, whatever it is to reach -/
def rAny (X : Cx) (ks : List Str) : List V → List V → Hp → VK → Prop := fun xs zs H Q => ∀ (pins : List (Addr × Obj)) (s : Shared) (σ : L2.St) (us ws : List Value), Inv X pins σ H s → Vals xs us → Vals zs ws → wpAny (model X.prog X.w) X.A (call (.builtin "sorted") us (ks.zip ws)) (EP X pins σ Q) X.xe s
theorem cr_any {X : Cx} {ks : List Str} : CallRK X (.builtin "sorted") ks (rAny X ks) := fun pins s σ H xs zs us ws Q I r rz h => h pins s σ us ws I r rz
theorem SE_srk (ok : E.Ok) {p px kp : Pos} {x : Str} {i : Nat} (hg : Gl E.X "sorted") (hm : E.X.mg "sorted" = none) (hgx : Gl E.X x) (hdx : (x == ("__debug__" : Str)) = false) (hn : notStar a = true) (ck : SrtOk E x i) (ha : SE E a ta) :
    SE E (.Call (.Name "sorted" p) [a] [⟨some "key", .Name x px, kp⟩] pos) (.srk i ta) := @Rq9 _ _ (fun qz => @Hq9.get _ _ (qz.bar : Hq9 _ (by
  clear qz
  intro fr σ tp H F io Q hl w h
  obtain ⟨fa, hmx, hkx, cK⟩ := ck
  have f1 : allNot [] = true := rfl
  refine wE_of (pe_callBK cr_any hg hm PyProof.Rows.boot_sorted pa_w (pk_cons (pe_glob (v := V.ref fa) hgx hmx rfl hdx) pk_nil) (by decide +kernel) (by decide +kernel) ((congrArg (backTo pos) (star_ne hn _ _)).trans rfl) (plain_of (by unfold allNot; simp [hn]) _ _) rfl rfl rfl) ?_
  unfold ev at h
  have hz := Rs.all_fr h
  have h2 : (evs E.T [ta] fr).all (fun ds fr1 => ∃ d, ds = [d] ∧ ((match d with
    | .lst xs => if xs.all pairOk then match keysBI (E.T.phi i) xs with
      | some ks => .ok (.out (.fresh (sortBI xs ks))) fr1
      | none => .bad else .bad
    | _ => .bad) : Rs RV).all (okE E σ tp F io Q) (exE E σ tp F io)) (exE E σ tp F io) := by
    unfold evs
    cases e : ev E.T ta fr with
    | bad => rw [e] at hz; exact hz
    | exc c fs fr1 => rw [e] at hz; exact hz
    | ok r fr1 =>
      rw [e] at hz
      obtain ⟨d, fr2, e2, z⟩ := hz
      show ((match toD fr1 r with | some (d, fr') => (evs E.T [] fr').bind fun ds fr2 => Rs.ok (d :: ds) fr2 | none => .bad) : Rs (List Ag.D)).all _ _
      rw [e2]
      exact ⟨d, rfl, z⟩
  refine (SEs.cons hn ha .nil).sa fr σ tp H F io _ hl w (Rs.all_imp h2 (fun ds fr1 z => ?_) fun _ _ _ z => z)
  intro vs H1 F1 io1 s1 p1 w1 r1
  obtain ⟨d, rfl, z⟩ := z
  cases r1 with
  | cons rd rn =>
    cases rn
    cases d with
    | lst xs =>
      have z : ((if xs.all pairOk then match keysBI (E.T.phi i) xs with
        | some ks => .ok (.out (.fresh (sortBI xs ks))) fr1
        | none => .bad else .bad) : Rs RV).all _ _ := z
      split at z
      case isFalse => exact z.elim
      rename_i hpo
      cases ek : keysBI (E.T.phi i) xs with
      | none => rw [ek] at z; exact z.elim
      | some ks =>
        rw [ek] at z
        cases rd with
        | lst h1 rr =>
          show rAny E.X [Str.ofString "key"] [V.ref _] [V.ref fa] H1 Q
          intro pins s σ2 us ws I ru rw_
          obtain rfl := Vals.ref1 ru
          obtain rfl := Vals.ref1 rw_
          refine srk_inv ok w1.wr.sub w1.wr.frz I (SqL.of (w1.wr.sub _ _ h1)) rr hpo ek cK fun H' D ys sm hD ry => ?_
          exact okE.fresh (ws_same w1 sm) ry (okE.mono s1 p1 z) hD
    | _ => exact z.elim))) Xq9.mk
end
end Ag
namespace Ag
open PySem PySem.Spec L2
structure Cv where
  N : List Str
  fns : List (Str × Nat)
  nms : List (Str × Nat)
  meths : List Nat
  globs : List (Str × Nat)
  blts : List Str
  fnc : Str → Bool
  xcs : List (Str × (Nat × List Str)) := []
  srt : List (Str × Nat) := []
def visB (sc : Scope) (x : Str) : Bool := match sc.names.lookup x with
  | some .local => true | some .cell => true | some .free => true | _ => false
def glB (sc : Scope) (x : Str) : Bool := match sc.names.lookup x with
  | some .globalImplicit => true | _ => false
def locB (C : Cv) (sc : Scope) (x : Str) : Bool := match sc.names.lookup x with
  | some .local => true | some .cell => C.fnc x | _ => false
def ixOf : List Str → Str → Option Nat
  | [], _ => none
  | y :: ys, x => if y = x then some 0 else (ixOf ys x).map (· + 1)
def dund (x : Str) : Bool := (x == ("__debug__" : Str)) || (x == ("__classdict__" : Str))
/-- the slot of a name that is read -/
def rdSlot (C : Cv) (sc : Scope) (x : Str) : Option Nat := if visB sc x && !dund x then ixOf C.N x else none
/-- the slot of a name that is stored -/
def wrSlot (C : Cv) (sc : Scope) (x : Str) : Option Nat := if locB C sc x then ixOf C.N x else none
def op2 : Operator → Option Op2
  | .Add => some .add | .Sub => some .sub | .Mult => some .mul | .FloorDiv => some .fdiv | .Mod => some .mod | .Pow => some .pow | _ => none
def cm2 : CmpOp → Cm
  | .Eq => .eq | .NotEq => .ne | .Lt => .lt | .LtE => .le | .Gt => .gt | .GtE => .ge | .Is => .is_ | .IsNot => .isn | .In => .in_ | .NotIn => .nin
def bi2 (x : Str) (n : Nat) : Option Bi :=
  if x == ("len" : Str) && n == 1 then some .len
  else if x == ("min" : Str) && n == 2 then some .min2
  else if x == ("max" : Str) && n == 2 then some .max2
  else if x == ("int" : Str) && n == 1 then some .int_
  else if x == ("tuple" : Str) && n == 1 then some .tuple_
  else if x == ("list" : Str) && n == 1 then some .list_
  else if x == ("min" : Str) && n == 1 then some .min1
  else if x == ("max" : Str) && n == 1 then some .max1
  else if x == ("sorted" : Str) && n == 1 then some .sorted_
  else none
def o2 {α β γ : Type} (x : Option α) (y : Option β) (f : α → β → Option γ) : Option γ := x.bind fun a => y.bind fun b => f a b
def o3 {α β γ δ : Type} (x : Option α) (y : Option β) (w : Option δ) (f : α → β → δ → Option γ) : Option γ := x.bind fun a => y.bind fun b => w.bind fun c => f a b c
def popName (C : Cv) (sc : Scope) (o : Expr) (m : Str) : Option Nat := match o with
  | .Name x _ => if m == ("pop" : Str) then rdSlot C sc x else none
  | _ => none
def isSetE : Expr → Bool
  | .Set .. => true
  | _ => false
mutual
def cvG (C : Cv) : Nat → Scope → Expr → Option Tg
  | 0, _, _ => none
  | n + 1, sc, e => match e with
    | .Name x _ => (wrSlot C sc x).map .slot
    | .Tuple es _ _ => if allNot es then (cvGs C n sc es).map .tup else none
    | _ => none
def cvGs (C : Cv) : Nat → Scope → List Expr → Option (List Tg)
  | 0, _, _ => none
  | _ + 1, _, [] => some []
  | n + 1, sc, e :: es => o2 (cvG C n sc e) (cvGs C n sc es) fun t ts => some (t :: ts)
end
def bnm (C : Cv) (sc : Scope) (x s : Str) : Bool := x == s && glB sc x && C.blts.contains x && (C.fns.lookup x).isNone
def isTupE : Expr → Bool
  | .Tuple .. => true
  | _ => false
def tyN (n : Str) : Option TyN :=
  if n == ("tuple" : Str) then some .tup else if n == ("list" : Str) then some .lst else if n == ("int" : Str) then some .int else if n == ("bool" : Str) then some .bool else if n == ("str" : Str) then some .str else none
def isiOf (C : Cv) (sc : Scope) (x : Str) : List Expr → Option (TyN × Expr)
  | [a, .Name n _] => if bnm C sc x ("isinstance" : Str) && bnm C sc n n && notStar a then (tyN n).map fun k => (k, a) else none
  | _ => none
def lzOf (C : Cv) (sc : Scope) (x : Str) : List Expr → Option (Expr × Expr)
  | [.Call (.Name y _) [a, b] [] _] => if bnm C sc x ("list" : Str) && bnm C sc y ("zip" : Str) && (notStar a && notStar b) then some (a, b) else none
  | _ => none
def lrOf (C : Cv) (sc : Scope) (x : Str) : List Expr → Option (Expr × Expr)
  | [.Call (.Name y _) [a, b] [] _] => if bnm C sc x ("list" : Str) && bnm C sc y ("range" : Str) && (notStar a && notStar b) then some (a, b) else none
  | _ => none
/-- sorted(set(a)) -/
def ssOf (C : Cv) (sc : Scope) (x : Str) : List Expr → Option Expr
  | [.Call (.Name y _) [a] [] _] => if bnm C sc x ("sorted" : Str) && bnm C sc y ("set" : Str) && notStar a then some a else none
  | _ => none
/-- [..].index(a) -/
def idxOf (o : Expr) (m : Str) (es : List Expr) : Option Expr := match o, es with
  | .ListComp _ _ _ _, [a] => if m == ("index" : Str) && notStar a then some a else none
  | _, _ => none
def orStuck (o : Option Tm) : Option Tm := some (o.getD .stuck)
def orStuckS (o : Option Stm) : Option Stm := some (o.getD .stuck)
theorem orStuck_some {o : Option Tm} {t : Tm} (h : orStuck o = some t) : o = some t ∨ t = .stuck := @Rq9 _ _ (fun qz => @Hq9.get _ _ (qz.bar : Hq9 _ (by
  clear qz
  cases o with
  | none => exact .inr (Option.some.inj h).symm
  | some u => exact .inl h))) Xq9.mk
theorem orStuckS_some {o : Option Stm} {t : Stm} (h : orStuckS o = some t) : o = some t ∨ t = .stuck := @Rq9 _ _ (fun qz => @Hq9.get _ _ (qz.bar : Hq9 _ (by
  clear qz
  cases o with
  | none => exact .inr (Option.some.inj h).symm
  | some u => exact .inl h))) Xq9.mk
/-- a block's names as the def's -/
def rl (scope sc : Scope) : Scope :=
  { scope with names := scope.names.map fun (n, k) => if (k == .free && sc.kind == .function && sc.names.lookup n == some .cell) then (n, .cell) else (n, k) }
def ownOf (N : List Str) : List (Str × NameKind) → List (Str × Nat)
  | [] => []
  | (n, k) :: r => if k == .local || k == .cell then (match ixOf N n with | some i => (n, i) :: ownOf N r | none => ownOf N r) else ownOf N r
def Cv.blk (C : Cv) (scope : Scope) : Cv := { C with fnc := fun x => scope.names.lookup x == some .cell }
mutual
def cvE : Cv → Nat → Scope → Expr → Option Tm
  | _, 0, _, _ => none
  | C, n + 1, sc, e => orStuck (match e with
    | .Name x _ => match rdSlot C sc x with
      | some i => some (.slot i)
      | none => if glB sc x && !dund x then (C.globs.lookup x).map .glob else none
    | .Constant .none _ _ => some .non
    | .Constant (.bool b) _ _ => some (.bl b)
    | .Constant (.int i) _ _ => some (.int i)
    | .Constant (.str s) _ _ => some (.str s)
    | .BinOp a op b _ => o3 (op2 op) (cvE C n sc a) (cvE C n sc b) fun o x y => some (.bin o x y)
    | .UnaryOp .USub a _ => (cvE C n sc a).map .neg
    | .UnaryOp .Not a _ => (cvE C n sc a).map .not_
    | .BoolOp _ [a] _ => cvE C n sc a
    | .BoolOp .And (a :: b :: r) p => o2 (cvE C n sc a) (cvE C n sc (.BoolOp .And (b :: r) p)) fun x y => some (.and_ x y)
    | .BoolOp .Or (a :: b :: r) p => o2 (cvE C n sc a) (cvE C n sc (.BoolOp .Or (b :: r) p)) fun x y => some (.or_ x y)
    | .Compare a [op] [b] _ => if behindInMarks op b then none else o2 (cvE C n sc a) (cvE C n sc b) fun x y => some (.cmp (cm2 op) x y)
    | .Compare a [op, op'] [b, c] _ => if lastMarks [op, op'] [b, c] then none else o3 (cvE C n sc a) (cvE C n sc b) (cvE C n sc c) fun x y z => some (.chain (cm2 op) (cm2 op') x y z)
    | .IfExp c a b _ => o3 (cvE C n sc c) (cvE C n sc a) (cvE C n sc b) fun x y z => some (.ite x y z)
    | .Call (.Name x _) es [] _ => match isiOf C sc x es with | some (k, a) => (cvE C n sc a).map (.ist k) | none => match lzOf C sc x es with | some (a, b) => o2 (cvE C n sc a) (cvE C n sc b) fun s t => some (.lzip s t) | none => match lrOf C sc x es with | some (a, b) => o2 (cvE C n sc a) (cvE C n sc b) fun s t => some (.lrange s t) | none => match ssOf C sc x es with | some a => (cvE C n sc a).map .sset | none => if glB sc x && !dund x then (match cvEs C n sc es with
      | some ts => (match C.fns.lookup x with
        | some i => some (.call i ts)
        | none => if es.isEmpty || !C.blts.contains x then none else (bi2 x es.length).map fun b => .bi b ts)
      | none => none) else none
    | .Call (.Name x _) [a] [⟨some kw, .Constant .none _ _, _⟩] _ => if kw == ("default" : Str) && notStar a then
        (if bnm C sc x ("min" : Str) then (cvE C n sc a).map fun t => .bi .min1d [t] else if bnm C sc x ("max" : Str) then (cvE C n sc a).map fun t => .bi .max1d [t] else none) else none
    | .Call (.Name x _) [a] [⟨some kw, .Name y _, _⟩] _ => if kw == ("key" : Str) && notStar a && (bnm C sc x ("sorted" : Str) && glB sc y && !dund y) then o2 (C.srt.lookup y) (cvE C n sc a) fun i t => some (.srk i t) else none
    | .Call (.Attribute o m apos) es [] pos => if apos.endLine == pos.line then (match idxOf o m es with | some a => o2 (cvE C n sc o) (cvE C n sc a) fun s t => some (.lidx s t) | none => match popName C sc o m with
      | some i => if es.isEmpty then some (.pop i) else none
      | none => if notSuper o && decide (es.length < 28) then (o3 (cvE C n sc o) (C.nms.lookup m) (cvEs C n sc es) fun to k ts => if C.meths.contains k then some (.meth k to ts) else none) else none) else none
    | .Attribute o f _ => if notSuper o then (o2 (cvE C n sc o) (C.nms.lookup f) fun to k => some (.attr to k)) else none
    | .Subscript o (.Slice lo hi none _) _ => o3 (cvE C n sc o) (cvO C n sc lo) (cvO C n sc hi) fun to l h => some (.slice to l h)
    | .Subscript o (.Slice none none (some (.UnaryOp .USub (.Constant (.int 1) _ _) _)) _) _ => (cvE C n sc o).map .rsl
    | .Subscript o (.Tuple es _ _) _ => o2 (cvE C n sc o) (cvEs C n sc es) fun to ts => some (.ixT to ts)
    | .Subscript o i _ => if notSlice i then (o2 (cvE C n sc o) (cvE C n sc i) fun to ti => some (.ix to ti)) else none
    | .Tuple (.Starred e _ :: es) _ _ => o2 (cvE C n sc e) (cvEs C n sc es) fun t ts => some (.tupS t ts)
    | .List (.Starred e _ :: es) _ => o2 (cvE C n sc e) (cvEs C n sc es) fun t ts => some (.lstS t ts)
    | .Tuple es _ _ => (cvEs C n sc es).map .tup
    | .List es _ => (cvEs C n sc es).map .lst
    | .Dict [] [] _ => some .dict0
    | .Dict ks vs _ => if ks.isEmpty || decide (15 < ks.length) then none else (cvK C n sc ks vs).map .dict
    | .ListComp elt [g] scope _ => if blkC C.N sc scope (ownOf C.N scope.names) && decide (g.is_async = 0) && !isSetE g.iter then
        o2 (cvG (C.blk scope) n (rl scope sc) g.target) (cvI C n sc g.target g.iter) fun tg it => o2 (cvC (C.blk scope) n (rl scope sc) g.ifs) (cvE (C.blk scope) n (rl scope sc) elt) fun tc te =>
          if (tgIx tg).all fun i => ((ownOf C.N scope.names).map (·.2)).contains i then some (.comp te tg it tc ((ownOf C.N scope.names).map (·.2))) else none
      else none
    | .FormattedValue a k none _ => if k = -1 then (cvE C n sc a).map .fmt else none
    | .JoinedStr (v1 :: v2 :: r) _ => (cvEs C n sc (v1 :: v2 :: r)).map .join
    | _ => none)
def cvC : Cv → Nat → Scope → List Expr → Option (Option Tm)
  | _, 0, _, _ => none
  | _, _ + 1, _, [] => some none
  | C, n + 1, sc, [c] => (cvE C n sc c).map some
  | _, _, _, _ => none
def cvI : Cv → Nat → Scope → Expr → Expr → Option Iter
  | _, 0, _, _, _ => none
  | C, n + 1, sc, tg, e => match e with
    | .Call (.Name x _) [a] [] _ => if bnm C sc x ("range" : Str) then (if notStar a then (cvE C n sc a).map .range1 else none)
      else if bnm C sc x ("enumerate" : Str) && isTupE tg then (if notStar a then (cvE C n sc a).map fun t => .enum t 0 else none)
      else if bnm C sc x ("reversed" : Str) then (if notStar a then (cvE C n sc a).map .rev else none)
      else (cvE C n sc e).map .seq
    | .Call (.Name x _) [a, b] [] _ => if bnm C sc x ("range" : Str) then (if notStar a && notStar b then o2 (cvE C n sc a) (cvE C n sc b) fun s t => some (.range2 s t) else none)
      else if bnm C sc x ("zip" : Str) && isTupE tg then (if notStar a && notStar b then o2 (cvE C n sc a) (cvE C n sc b) fun s t => some (.zip s t) else none)
      else (cvE C n sc e).map .seq
    | .Call (.Name x _) [a, b, c] [] _ => if bnm C sc x ("range" : Str) then (if notStar a && notStar b && notStar c then o3 (cvE C n sc a) (cvE C n sc b) (cvE C n sc c) fun s t u => some (.range3 s t u) else none)
      else (cvE C n sc e).map .seq
    | e => if isSetE e then none else (cvE C n sc e).map .seq
def cvEs : Cv → Nat → Scope → List Expr → Option (List Tm)
  | _, 0, _, _ => none
  | _, _ + 1, _, [] => some []
  | C, n + 1, sc, e :: es => if notStar e then (o2 (cvE C n sc e) (cvEs C n sc es) fun t ts => some (t :: ts)) else none
def cvO : Cv → Nat → Scope → Option Expr → Option (Option Tm)
  | _, 0, _, _ => none
  | _, _ + 1, _, none => some none
  | C, n + 1, sc, some e => (cvE C n sc e).map some
def cvK : Cv → Nat → Scope → List (Option Expr) → List Expr → Option (List (Key × Tm))
  | _, 0, _, _, _ => none
  | _, _ + 1, _, [], [] => some []
  | C, n + 1, sc, some (.Constant (.str x) _ _) :: ks, v :: vs => (o2 (cvE C n sc v) (cvK C n sc ks vs) fun t ts => some ((.inr x, t) :: ts))
  | _, _, _, _, _ => none
end
/-- the same world around -/
structure Kin (E E' : En) : Prop where
  prog : E'.X.prog = E.X.prog
  w : E'.X.w = E.X.w
  K : E'.X.K = E.X.K
  mg : E'.X.mg = E.X.mg
  base : E'.X.base = E.X.base
  A : E'.X.A = E.X.A
  G : E'.G = E.G
  T : E'.T = E.T
structure CtxOk (C : Cv) (sc : Scope) (E : En) : Prop where
  ok : E.Ok
  N : E.X.N = C.N
  sc : E.X.env.scope = sc
  kind : E.X.env.scope.kind = .function
  fnsK : ∀ x i, C.fns.lookup x = some i → ∀ E' : En, Kin E E' → E'.Ok → CallOk E' x i
  nms : ∀ x i, C.nms.lookup x = some i → E.G.fn i = x
  methsK : ∀ m, C.meths.contains m = true → ∀ c i, E.T.psi c m = some i → ∀ E' : En, Kin E E' → E'.Ok → MethOk E' c m i
  globs : ∀ x g, C.globs.lookup x = some g → ∃ d v u, E.T.glob g = some d ∧ E.X.mg x = some u ∧ RelV v u ∧ ∀ F io, Rep E.G F io d v
  blts : ∀ x, C.blts.contains x = true → E.X.mg x = none
  fnc : ∀ x, C.fnc x = true → E.X.fn x = true
  xcsK : ∀ x c fs, C.xcs.lookup x = some (c, fs) → ((E.G.xf c).map E.G.fn = fs ∧ (E.G.xf c).Nodup) ∧ E.X.mg x = some (.ref (E.G.cl c)) ∧ XfC E.X.K (E.G.cl c) ∧ (∀ f ∈ fs, PySem.W.findIn E.X.K (.ref (E.G.cl c)) f = some none) ∧ ∀ E' : En, Kin E E' → E'.Ok → RaisOk E' x c fs.length
  subs : ∀ c hc b, E.T.sub c hc = some b → PySem.W.exmOne E.X.K (.ref (E.G.cl c)) (.ref (E.G.cl hc)) = some b
  srtK : ∀ x i, C.srt.lookup x = some i → ∀ E' : En, Kin E E' → E'.Ok → SrtOk E' x i
theorem Kin.refl (E : En) : Kin E E := ⟨rfl, rfl, rfl, rfl, rfl, rfl, rfl, rfl⟩
theorem Kin.at (E : En) (h0 : Ent) : Kin E (E.at h0) := ⟨rfl, rfl, rfl, rfl, rfl, rfl, rfl, rfl⟩
theorem Kin.blk (E : En) (s : Shared) (H : Hp) (scope : Scope) (C : Addr) (cl : List (Str × Addr)) (fp : List Addr) : Kin E (E.blk s H scope C cl fp) := ⟨rfl, rfl, rfl, rfl, rfl, rfl, rfl, rfl⟩
theorem Kin.trans {E E' E2 : En} (a : Kin E E') (b : Kin E' E2) : Kin E E2 := ⟨b.prog.trans a.prog, b.w.trans a.w, b.K.trans a.K, b.mg.trans a.mg, b.base.trans a.base, b.A.trans a.A, b.G.trans a.G, b.T.trans a.T⟩
theorem CtxOk.fns {C : Cv} {sc : Scope} {E : En} (c : CtxOk C sc E) (x : Str) (i : Nat) (e : C.fns.lookup x = some i) (h0 : Ent) : CallOk (E.at h0) x i := c.fnsK x i e _ (Kin.at E h0) (c.ok.at h0)
theorem CtxOk.meths {C : Cv} {sc : Scope} {E : En} (c : CtxOk C sc E) (m : Nat) (hm : C.meths.contains m = true) (cc i : Nat) (e : E.T.psi cc m = some i) (h0 : Ent) : MethOk (E.at h0) cc m i := c.methsK m hm cc i e _ (Kin.at E h0) (c.ok.at h0)
theorem CtxOk.at {C : Cv} {sc : Scope} {E : En} (c : CtxOk C sc E) (h0 : Ent) : CtxOk C sc (E.at h0) :=
  ⟨c.ok.at h0, c.N, c.sc, c.kind, fun x i e E' k => c.fnsK x i e E' ((Kin.at E h0).trans k), c.nms, fun m h cc i e E' k => c.methsK m h cc i e E' ((Kin.at E h0).trans k), c.globs, c.blts, c.fnc, fun x n fs e => ⟨(c.xcsK x n fs e).1, (c.xcsK x n fs e).2.1, (c.xcsK x n fs e).2.2.1, (c.xcsK x n fs e).2.2.2.1, fun E' k => (c.xcsK x n fs e).2.2.2.2 E' ((Kin.at E h0).trans k)⟩, c.subs, fun x i e E' k => c.srtK x i e E' ((Kin.at E h0).trans k)⟩
theorem Kin.tr (E : En) (pn : List (Addr × Obj)) (xe : Value → Shared → Prop) (W : WX) : Kin E (E.tr pn xe W) := ⟨rfl, rfl, rfl, rfl, rfl, rfl, rfl, rfl⟩
theorem CtxOk.tr {C : Cv} {sc : Scope} {E : En} (c : CtxOk C sc E) {pn : List (Addr × Obj)} {xe : Value → Shared → Prop} {W : WX} (tk : Takes (E.X.tr pn xe) W) : CtxOk C sc (E.tr pn xe W) :=
  ⟨c.ok.tr tk, c.N, c.sc, c.kind, fun x i e E' k => c.fnsK x i e E' ((Kin.tr E pn xe W).trans k), c.nms, fun m h cc i e E' k => c.methsK m h cc i e E' ((Kin.tr E pn xe W).trans k), c.globs, c.blts, c.fnc, fun x n fs e => ⟨(c.xcsK x n fs e).1, (c.xcsK x n fs e).2.1, (c.xcsK x n fs e).2.2.1, (c.xcsK x n fs e).2.2.2.1, fun E' k => (c.xcsK x n fs e).2.2.2.2 E' ((Kin.tr E pn xe W).trans k)⟩, c.subs, fun x i e E' k => c.srtK x i e E' ((Kin.tr E pn xe W).trans k)⟩
theorem CtxOk.blk {C : Cv} {sc scope : Scope} {E : En} (c : CtxOk C sc E) (hk : scope.kind = .function) (s : Shared) (H : Hp) (a : Addr) (cl : List (Str × Addr)) (fp : List Addr) : CtxOk (C.blk scope) (rl scope sc) (E.blk s H scope a cl fp) :=
  ⟨c.ok.blk s H scope a cl fp, c.N, by rw [← c.sc]; rfl, hk, fun x i e E' k => c.fnsK x i e E' ((Kin.blk E s H scope a cl fp).trans k), c.nms, fun m h cc i e E' k => c.methsK m h cc i e E' ((Kin.blk E s H scope a cl fp).trans k), c.globs, c.blts, fun x h => h, fun x n fs e => ⟨(c.xcsK x n fs e).1, (c.xcsK x n fs e).2.1, (c.xcsK x n fs e).2.2.1, (c.xcsK x n fs e).2.2.2.1, fun E' k => (c.xcsK x n fs e).2.2.2.2 E' ((Kin.blk E s H scope a cl fp).trans k)⟩, c.subs, fun x i e E' k => c.srtK x i e E' ((Kin.blk E s H scope a cl fp).trans k)⟩
theorem ixOf_at : ∀ {N : List Str} {x : Str} {i : Nat}, ixOf N x = some i → N[i]? = some x
  | [], _, _, e => by cases e
  | y :: ys, x, i, e => by
    unfold ixOf at e
    by_cases h : y = x
    · rw [if_pos h] at e; cases e; simp [h]
    · rw [if_neg h] at e
      cases q : ixOf ys x with
      | none => rw [q] at e; cases e
      | some j => rw [q] at e; cases e; simpa using ixOf_at q
theorem vis_of {sc : Scope} {x : Str} (h : visB sc x = true) : Vis sc x := @Rq9 _ _ (fun qz => @Hq9.get _ _ (qz.bar : Hq9 _ (by
  clear qz
  unfold visB at h
  split at h <;> first | exact .inl (by assumption) | exact .inr (.inl (by assumption)) | exact .inr (.inr (by assumption)) | cases h))) Xq9.mk
theorem gl_of {sc : Scope} {x : Str} (h : glB sc x = true) : sc.names.lookup x = some .globalImplicit := @Rq9 _ _ (fun qz => @Hq9.get _ _ (qz.bar : Hq9 _ (by
  clear qz
  unfold glB at h
  split at h <;> first | assumption | cases h))) Xq9.mk
theorem loc_of {C : Cv} {sc : Scope} {x : Str} (h : locB C sc x = true) : Loc sc x ∧ (C.fnc x = true ∨ sc.names.lookup x = some .local) := @Rq9 _ _ (fun qz => @Hq9.get _ _ (qz.bar : Hq9 _ (by
  clear qz
  unfold locB at h
  split at h
  · exact ⟨.inl (by assumption), .inr (by assumption)⟩
  · exact ⟨.inr (by assumption), .inl h⟩
  · cases h))) Xq9.mk
theorem dund_of {x : Str} (h : (!dund x) = true) : (x == ("__debug__" : Str)) = false ∧ (x == ("__classdict__" : Str)) = false := @Rq9 _ _ (fun qz => @Hq9.get _ _ (qz.bar : Hq9 _ (by
  clear qz
  unfold dund at h
  simp only [Bool.not_or, Bool.and_eq_true, Bool.not_eq_true'] at h
  exact h))) Xq9.mk
theorem rd_of {C : Cv} {sc : Scope} {x : Str} {i : Nat} (h : rdSlot C sc x = some i) : C.N[i]? = some x ∧ Vis sc x ∧ (x == ("__debug__" : Str)) = false ∧ (x == ("__classdict__" : Str)) = false := @Rq9 _ _ (fun qz => @Hq9.get _ _ (qz.bar : Hq9 _ (by
  clear qz
  unfold rdSlot at h
  split at h
  · rename_i q
    rw [Bool.and_eq_true] at q
    exact ⟨ixOf_at h, vis_of q.1, dund_of q.2⟩
  · cases h))) Xq9.mk
theorem wr_of {C : Cv} {sc : Scope} {x : Str} {i : Nat} (h : wrSlot C sc x = some i) : C.N[i]? = some x ∧ Loc sc x ∧ (C.fnc x = true ∨ sc.names.lookup x = some .local) := @Rq9 _ _ (fun qz => @Hq9.get _ _ (qz.bar : Hq9 _ (by
  clear qz
  unfold wrSlot at h
  split at h
  · rename_i q
    exact ⟨ixOf_at h, loc_of q⟩
  · cases h))) Xq9.mk
theorem op2_of {op : Operator} {o : Op2} (h : op2 op = some o) : opM o = op := by
  cases op <;> cases h <;> rfl
theorem cm2_of (op : CmpOp) : cmM (cm2 op) = op := by cases op <;> rfl
end Ag
namespace Ag
open PySem PySem.Spec L2
theorem pair_some {α β γ : Type} {x : Option α} {y : Option β} {f : α → β → Option γ} {z : γ} (h : o2 x y f = some z) : ∃ a b, x = some a ∧ y = some b ∧ f a b = some z := @Rq9 _ _ (fun qz => @Hq9.get _ _ (qz.bar : Hq9 _ (by
  clear qz
  cases x with
  | none => cases h
  | some a => cases y with
    | none => cases h
    | some b => exact ⟨a, b, rfl, rfl, h⟩))) Xq9.mk
theorem triple_some {α β γ δ : Type} {x : Option α} {y : Option β} {w : Option δ} {f : α → β → δ → Option γ} {z : γ} (h : o3 x y w f = some z) : ∃ a b c, x = some a ∧ y = some b ∧ w = some c ∧ f a b c = some z := @Rq9 _ _ (fun qz => @Hq9.get _ _ (qz.bar : Hq9 _ (by
  clear qz
  cases x with
  | none => cases h
  | some a => cases y with
    | none => cases h
    | some b => cases w with
      | none => cases h
      | some c => exact ⟨a, b, c, rfl, rfl, rfl, h⟩))) Xq9.mk
theorem map_some {α β : Type} {x : Option α} {f : α → β} {z : β} (h : x.map f = some z) : ∃ a, x = some a ∧ f a = z := @Rq9 _ _ (fun qz => @Hq9.get _ _ (qz.bar : Hq9 _ (by
  clear qz
  cases x with
  | none => cases h
  | some a => exact ⟨a, rfl, Option.some.inj h⟩))) Xq9.mk
def SWB (E : En) (e : Expr) (t : Tm) : Prop := ∀ op vs pos, e = .BoolOp op vs pos → SW E e t
def All (E : En) (e : Expr) (t : Tm) : Prop := SE E e t ∧ ST E e t ∧ SWB E e t
section
variable {E : En} {e a b c : Expr} {ta tb tc : Tm} {pos : Pos} {es : List Expr} {ts : List Tm}
theorem All.of {t : Tm} (he : SE E e t) (hp : ∀ whole, isTrue e E.X.env whole = (do let v ← whole; standAt e.pos; holding [v] (truthy v))) (hb : ∀ op vs pos, e ≠ .BoolOp op vs pos) : All E e t :=
  ⟨he, ST_of he hp, fun op vs pos z => absurd z (hb op vs pos)⟩
theorem All.stuck : All E e .stuck := ⟨SE_stuck, ST_stuck, fun op vs p _ fr σ tp H F io Q hl w h => by unfold ev at h; exact h.elim⟩
theorem bnm_of {C : Cv} {sc : Scope} {x s : Str} (c : CtxOk C sc E) (h : bnm C sc x s = true) : x = s ∧ Gl E.X s ∧ E.X.mg s = none := @Rq9 _ _ (fun qz => @Hq9.get _ _ (qz.bar : Hq9 _ (by
  clear qz
  unfold bnm at h
  simp only [Bool.and_eq_true, beq_iff_eq] at h
  obtain ⟨⟨⟨h1, h2⟩, h3⟩, _⟩ := h
  subst h1
  exact ⟨rfl, by show E.X.env.scope.names.lookup _ = _; rw [c.sc]; exact gl_of h2, c.blts _ h3⟩))) Xq9.mk
theorem tyN_of {n : Str} {k : TyN} (h : tyN n = some k) : n = Str.ofString (tyNm k) := @Rq9 _ _ (fun qz => @Hq9.get _ _ (qz.bar : Hq9 _ (by
  clear qz
  unfold tyN at h
  repeat' split at h
  all_goals first
    | (cases h; assumption)
    | (cases h; rename_i q; exact eq_of_beq q)
    | cases h))) Xq9.mk
theorem SEs.notall (h : SEs E es ts) : allNot es = true := @Rq9 _ _ (fun qz => @Hq9.get _ _ (qz.bar : Hq9 _ (by
  clear qz
  induction h with
  | nil => rfl
  | cons h1 _ _ ih =>
    unfold allNot at ih ⊢
    rw [List.all_cons, h1, ih]; rfl))) Xq9.mk
theorem SE_glob {g : Nat} {x : Str} (hg : Gl E.X x) (hd : (x == ("__debug__" : Str)) = false) (h : ∃ d v u, E.T.glob g = some d ∧ E.X.mg x = some u ∧ RelV v u ∧ ∀ F io, Rep E.G F io d v) : SE E (.Name x pos) (.glob g) := @Rq9 _ _ (fun qz => @Hq9.get _ _ (qz.bar : Hq9 _ (by
  clear qz
  intro fr σ tp H F io Q hl w hh
  obtain ⟨d, v, u, e1, e2, rv, rp⟩ := h
  refine wE_of (pe_glob hg e2 rv hd) ?_
  unfold ev at hh
  rw [e1] at hh
  exact hh v H F io (Same.refl _) (Pre.refl _) w (rp F io)))) Xq9.mk
theorem bi_all (ok : E.Ok) {x : Str} {n : Nat} {b : Bi} (h : bi2 x n = some b) : x = biName b ∧ BiOk E b ∧ n ≠ 0 := @Rq9 _ _ (fun qz => @Hq9.get _ _ (qz.bar : Hq9 _ (by
  clear qz
  unfold bi2 at h
  repeat' split at h
  all_goals first
    | (cases h
       rename_i q
       rw [Bool.and_eq_true, beq_iff_eq, beq_iff_eq] at q
       refine ⟨q.1, ?_, by omega⟩
       first | exact bi_len ok | exact bi_min2 ok | exact bi_max2 ok | exact bi_int ok | exact bi_tuple ok | exact bi_list ok | exact bi_min1 ok | exact bi_max1 ok | exact bi_sorted ok)
    | cases h))) Xq9.mk
end
theorem cvG_sound (C : Cv) (sc : Scope) (E : En) (c : CtxOk C sc E) : ∀ n, (∀ e g, cvG C n sc e = some g → SG E e g) ∧ (∀ es gs, cvGs C n sc es = some gs → allNot es = true → SGs E es gs ∧ es.length = gs.length) := @Rq9 _ _ (fun qz => @Hq9.get _ _ (qz.bar : Hq9 _ (by
  clear qz
  intro n
  induction n with
  | zero => exact ⟨fun e g h => (by unfold cvG at h; cases h), fun es gs h => (by unfold cvGs at h; cases h)⟩
  | succ n ih =>
    refine ⟨fun e g h => ?_, fun es gs h hs => ?_⟩
    · unfold cvG at h
      split at h
      · obtain ⟨i, h1, rfl⟩ := map_some h
        obtain ⟨g1, g2, g3⟩ := wr_of h1
        exact SG_slot c.ok (by rw [c.N]; exact g1) (by rw [c.sc]; exact g2) (by rw [c.sc]; exact g3.imp (c.fnc _) id)
      · split at h
        case isFalse => cases h
        rename_i hs
        obtain ⟨gs, h1, rfl⟩ := map_some h
        obtain ⟨q1, q2⟩ := ih.2 _ _ h1 hs
        exact SG_tup c.ok hs q2 q1
      · cases h
    · cases es with
      | nil => unfold cvGs at h; cases h; exact ⟨SGs_nil, rfl⟩
      | cons e es =>
        unfold cvGs at h
        obtain ⟨t, ts, h1, h2, h3⟩ := pair_some h
        cases h3
        unfold allNot at hs
        rw [List.all_cons, Bool.and_eq_true] at hs
        obtain ⟨q1, q2⟩ := ih.2 _ _ h2 hs.2
        exact ⟨SGs_cons hs.1 (ih.1 _ _ h1) q1, by simp [q2]⟩))) Xq9.mk
theorem fold_no {e : Expr} (h : isSetE e = false) (env : Env) (x : Value) : foldedSetIterable e env x = pure x := by
  cases e <;> first | rfl | cases h
theorem cv_sound : ∀ (n : Nat) (C : Cv) (sc : Scope), (∀ (E : En) (e : Expr) (t : Tm), CtxOk C sc E → cvE C n sc e = some t → All E e t) ∧
    (∀ (E : En) (es : List Expr) (ts : List Tm), CtxOk C sc E → cvEs C n sc es = some ts → SEs E es ts) ∧
    (∀ (E : En) (oe : Option Expr) (ot : Option Tm), CtxOk C sc E → cvO C n sc oe = some ot → SO E oe ot) ∧
    (∀ (E : En) (ks : List (Option Expr)) (vs : List Expr) (kts : List (Key × Tm)), CtxOk C sc E → cvK C n sc ks vs = some kts → SK E ks vs kts) ∧
    (∀ (E : En) (e : Expr) (it : Iter) (tg : Expr), CtxOk C sc E → cvI C n sc tg e = some it → SI E tg e it ∧ isSetE e = false) ∧
    (∀ (E : En) (es : List Expr) (ot : Option Tm), CtxOk C sc E → cvC C n sc es = some ot → SCs E es ot) := @Rq9 _ _ (fun qz => @Hq9.get _ _ (qz.bar : Hq9 _ (by
  clear qz
  intro n
  induction n with
  | zero =>
    intro C sc
    refine ⟨fun E e t c h => ?_, fun E es ts c h => ?_, fun E oe ot c h => ?_, fun E ks vs kts c h => ?_, fun E e it tg c h => ?_, fun E es ot c h => ?_⟩
    · unfold cvE at h; cases h
    · unfold cvEs at h; cases h
    · unfold cvO at h; cases h
    · unfold cvK at h; cases h
    · unfold cvI at h; cases h
    · unfold cvC at h; cases h
  | succ n ih =>
    intro C sc
    obtain ⟨ihE, ihEs, ihO, ihK, ihI, ihC⟩ := ih C sc
    refine ⟨fun E e t c h => ?_, fun E es ts c h => ?_, fun E oe ot c h => ?_, fun E ks vs kts c h => ?_, fun E e it tg c h => ?_, fun E es ot c h => ?_⟩
    · unfold cvE at h
      have h2 := orStuck_some h
      clear h
      rcases h2 with h | rfl
      case inr => exact All.stuck
      split at h
      · -- Name
        rename_i x p
        split at h
        · rename_i i q
          cases h
          obtain ⟨h1, h2, h3, h4⟩ := rd_of q
          exact All.of (SE_slot (by rw [c.N]; exact h1) (by rw [c.sc]; exact h2) h3 h4) (fun _ => rfl) (fun _ _ _ z => by cases z)
        · split at h
          · rename_i q
            rw [Bool.and_eq_true] at q
            obtain ⟨g, e1, rfl⟩ := map_some h
            exact All.of (SE_glob (by show E.X.env.scope.names.lookup x = _; rw [c.sc]; exact gl_of q.1) (dund_of q.2).1 (c.globs x g e1)) (fun _ => rfl) (fun _ _ _ z => by cases z)
          · cases h
      · cases h; exact All.of SE_non (fun _ => rfl) (fun _ _ _ z => by cases z)
      · cases h; exact All.of SE_bl (fun _ => rfl) (fun _ _ _ z => by cases z)
      · cases h; exact All.of SE_int (fun _ => rfl) (fun _ _ _ z => by cases z)
      · cases h; exact All.of SE_str (fun _ => rfl) (fun _ _ _ z => by cases z)
      · -- BinOp
        obtain ⟨o, x, y, h1, h2, h3, h4⟩ := triple_some h
        cases h4
        rw [← op2_of h1]
        exact All.of (SE_bin c.ok (ihE E _ _ c h2).1 (ihE E _ _ c h3).1) (fun _ => rfl) (fun _ _ _ z => by cases z)
      · obtain ⟨x, h1, rfl⟩ := map_some h
        exact All.of (SE_neg (ihE E _ _ c h1).1) (fun _ => rfl) (fun _ _ _ z => by cases z)
      · obtain ⟨x, h1, rfl⟩ := map_some h
        exact ⟨SE_not (ihE E _ _ c h1).1, ST_not (ihE E _ _ c h1).2.1, fun _ _ _ z => by cases z⟩
      · -- BoolOp one
        rename_i op a p
        have q := ihE E _ _ c h
        have sw : SW E (.BoolOp op [a] p) t := by
          cases op with
          | And => exact SW_and1 q.2.1
          | Or => exact SW_or1 q.2.1
        exact ⟨SE_one q.1, sw.st, fun _ _ _ _ => sw⟩
      · obtain ⟨x, y, h1, h2, h3⟩ := pair_some h
        cases h3
        have q1 := ihE E _ _ c h1
        have q2 := ihE E _ _ c h2
        have sw := SW_and q1.2.1 (q2.2.2 _ _ _ rfl)
        exact ⟨SE_and q1.1 q2.1, sw.st, fun _ _ _ _ => sw⟩
      · obtain ⟨x, y, h1, h2, h3⟩ := pair_some h
        cases h3
        have q1 := ihE E _ _ c h1
        have q2 := ihE E _ _ c h2
        have sw := SW_or q1.2.1 (q2.2.2 _ _ _ rfl)
        exact ⟨SE_or q1.1 q2.1, sw.st, fun _ _ _ _ => sw⟩
      · -- Compare
        rename_i a op b p
        split at h
        · cases h
        · rename_i hm
          obtain ⟨x, y, h1, h2, h3⟩ := pair_some h
          cases h3
          have hm' : behindInMarks (cmM (cm2 op)) b = false := by rw [cm2_of]; simpa using hm
          have e1 := SE_cmp (pos := p) c.ok (ihE E _ _ c h1).1 (ihE E _ _ c h2).1 hm'
          have e2 := ST_cmp (pos := p) c.ok (ihE E _ _ c h1).1 (ihE E _ _ c h2).1 hm'
          rw [cm2_of] at e1 e2
          exact ⟨e1, e2, fun _ _ _ z => by cases z⟩
      · -- chain
        rename_i a op op' b d p
        split at h
        · cases h
        · rename_i hm
          obtain ⟨x, y, z, h1, h2, h3, h4⟩ := triple_some h
          cases h4
          have hm' : lastMarks [cmM (cm2 op), cmM (cm2 op')] [b, d] = false := by rw [cm2_of, cm2_of]; simpa using hm
          have e1 := SE_chain (pos := p) c.ok (ihE E _ _ c h1).1 (ihE E _ _ c h2).1 (ihE E _ _ c h3).1 hm'
          have e2 := ST_chain (pos := p) c.ok (ihE E _ _ c h1).1 (ihE E _ _ c h2).1 (ihE E _ _ c h3).1 hm'
          rw [cm2_of, cm2_of] at e1 e2
          exact ⟨e1, e2, fun _ _ _ z => by cases z⟩
      · -- IfExp
        obtain ⟨x, y, z, h1, h2, h3, h4⟩ := triple_some h
        cases h4
        have q := ihE E _ _ c h1
        exact ⟨SE_ite q.2.1 (ihE E _ _ c h2).1 (ihE E _ _ c h3).1, ST_ite q.2.1 (ihE E _ _ c h2).2.1 (ihE E _ _ c h3).2.1, fun _ _ _ z => by cases z⟩
      · -- Call of a name
        rename_i x p es pp
        split at h
        · rename_i k a hi
          obtain ⟨ta, h1, rfl⟩ := map_some h
          unfold isiOf at hi
          split at hi
          case h_2 => cases hi
          rename_i a' n' p2
          split at hi
          case isFalse => cases hi
          rename_i q
          simp only [Bool.and_eq_true] at q
          obtain ⟨⟨q1, q2⟩, q3⟩ := q
          obtain ⟨k', h2, h3⟩ := map_some hi
          cases h3
          obtain ⟨rfl, g1, g2⟩ := bnm_of c q1
          obtain ⟨_, g3, g4⟩ := bnm_of c q2
          exact All.of (SE_ist c.ok (tyN_of h2) g1 g2 g3 g4 q3 (ihE E _ _ c h1).1) (fun _ => rfl) (fun _ _ _ z => by cases z)
        split at h
        · rename_i a b hi
          obtain ⟨ta, tb, h1, h2, h3⟩ := pair_some h
          cases h3
          unfold lzOf at hi
          split at hi
          case h_2 => cases hi
          split at hi
          case isFalse => cases hi
          rename_i q
          simp only [Bool.and_eq_true] at q
          obtain ⟨⟨q1, q2⟩, q3, q4⟩ := q
          cases hi
          obtain ⟨rfl, g1, g2⟩ := bnm_of c q1
          obtain ⟨rfl, g3, g4⟩ := bnm_of c q2
          exact All.of (SE_lzip c.ok g3 g4 g1 g2 q3 q4 (ihE E _ _ c h1).1 (ihE E _ _ c h2).1) (fun _ => rfl) (fun _ _ _ z => by cases z)
        split at h
        · rename_i a b hi
          obtain ⟨ta, tb, h1, h2, h3⟩ := pair_some h
          cases h3
          unfold lrOf at hi
          split at hi
          case h_2 => cases hi
          split at hi
          case isFalse => cases hi
          rename_i q
          simp only [Bool.and_eq_true] at q
          obtain ⟨⟨q1, q2⟩, q3, q4⟩ := q
          cases hi
          obtain ⟨rfl, g1, g2⟩ := bnm_of c q1
          obtain ⟨rfl, g3, g4⟩ := bnm_of c q2
          exact All.of (SE_lrange c.ok g3 g4 g1 g2 q3 q4 (ihE E _ _ c h1).1 (ihE E _ _ c h2).1) (fun _ => rfl) (fun _ _ _ z => by cases z)
        split at h
        · rename_i a hi
          obtain ⟨ta, h1, rfl⟩ := map_some h
          unfold ssOf at hi
          split at hi
          case h_2 => cases hi
          split at hi
          case isFalse => cases hi
          rename_i q
          simp only [Bool.and_eq_true] at q
          obtain ⟨⟨q1, q2⟩, q3⟩ := q
          cases hi
          obtain ⟨rfl, g1, g2⟩ := bnm_of c q1
          obtain ⟨rfl, g3, g4⟩ := bnm_of c q2
          exact All.of (SE_sset c.ok g1 g2 g3 g4 q3 (ihE E _ _ c h1).1) (fun _ => rfl) (fun _ _ _ z => by cases z)
        split at h
        case isFalse => cases h
        rename_i q
        rw [Bool.and_eq_true] at q
        have hg : Gl E.X x := by show E.X.env.scope.names.lookup x = _; rw [c.sc]; exact gl_of q.1
        split at h
        case h_2 => cases h
        rename_i ts hts
        have ses := ihEs E _ _ c hts
        have hse : SE E (.Call (.Name x p) es [] pp) t := by
          split at h
          · rename_i i hi
            cases h
            have ck := c.fns x i hi E.H0
            cases ses with
            | nil => exact SE_call0 hg (dund_of q.2).1 ck
            | cons h1 h2 h3 => exact SE_call hg (dund_of q.2).1 ck h1 h3.notall (SEs.cons h1 h2 h3).sa
          · split at h
            · cases h
            · rename_i hb
              obtain ⟨b, e1, rfl⟩ := map_some h
              obtain ⟨b1, b2, b3⟩ := bi_all c.ok e1
              have hbl : C.blts.contains x = true := by
                cases z : C.blts.contains x with
                | true => rfl
                | false => rw [z] at hb; simp at hb
              cases ses with
              | nil => exact absurd rfl b3
              | cons h1 h2 h3 => exact SE_bi b1 b2 hg (c.blts x hbl) h1 h3.notall (SEs.cons h1 h2 h3).sp
        exact All.of hse (fun _ => rfl) (fun _ _ _ z => by cases z)
      · -- min, max with default=None
        rename_i x p a kw kk cp kp pp
        split at h
        case isFalse => cases h
        rename_i q
        rw [Bool.and_eq_true, beq_iff_eq] at q
        obtain ⟨rfl, hs⟩ := q
        have hse : SE E (.Call (.Name x p) [a] [⟨some "default", .Constant .none kk cp, kp⟩] pp) t := by
          split at h
          · rename_i hb
            obtain ⟨u, h1, rfl⟩ := map_some h
            obtain ⟨rfl, hg, hm⟩ := bnm_of c hb
            exact SE_min1d c.ok hg hm hs (SEs.cons hs (ihE E _ _ c h1).1 .nil).sp
          · split at h
            case isFalse => cases h
            rename_i hb
            obtain ⟨u, h1, rfl⟩ := map_some h
            obtain ⟨rfl, hg, hm⟩ := bnm_of c hb
            exact SE_max1d c.ok hg hm hs (SEs.cons hs (ihE E _ _ c h1).1 .nil).sp
        exact All.of hse (fun _ => rfl) (fun _ _ _ z => by cases z)
      · -- sorted with a key
        rename_i x p a kw y py kp pp
        split at h
        case isFalse => cases h
        rename_i q
        simp only [Bool.and_eq_true, beq_iff_eq] at q
        obtain ⟨⟨rfl, hs⟩, ⟨hb, hgy⟩, hdy⟩ := q
        obtain ⟨i, ta, h1, h2, h3⟩ := pair_some h
        cases h3
        obtain ⟨rfl, hg, hm⟩ := bnm_of c hb
        exact All.of (SE_srk c.ok hg hm (by show E.X.env.scope.names.lookup y = _; rw [c.sc]; exact gl_of hgy) (dund_of hdy).1 hs (c.srtK y i h1 E (Kin.refl E) c.ok) (ihE E _ _ c h2).1) (fun _ => rfl) (fun _ _ _ z => by cases z)
      · -- Call of a method
        rename_i o m apos es pp
        split at h
        case isFalse => cases h
        rename_i hl
        have hse : SE E (.Call (.Attribute o m apos) es [] pp) t := by
          split at h
          · rename_i a hi
            obtain ⟨to, ta, h1, h2, h3⟩ := pair_some h
            cases h3
            unfold idxOf at hi
            split at hi
            case h_2 => cases hi
            split at hi
            case isFalse => cases hi
            rename_i q
            cases hi
            rw [Bool.and_eq_true, beq_iff_eq] at q
            obtain ⟨rfl, q⟩ := q
            exact SE_lidx c.ok q hl rfl (ihE E _ _ c h1).1 (ihE E _ _ c h2).1
          split at h
          · rename_i i hi
            split at h
            case isFalse => cases h
            rename_i he
            cases h
            have he' : es = [] := List.isEmpty_iff.mp he
            subst he'
            unfold popName at hi
            split at hi
            · split at hi
              · rename_i hm
                obtain ⟨h1, h2, h3, h4⟩ := rd_of hi
                rw [beq_iff_eq] at hm
                subst hm
                exact SE_pop c.ok (by rw [c.N]; exact h1) (by rw [c.sc]; exact h2) h3 h4 hl
              · cases hi
            · cases hi
          · split at h
            case isFalse => cases h
            rename_i q
            rw [Bool.and_eq_true, decide_eq_true_eq] at q
            obtain ⟨to, k, ts, h1, h2, h3, h4⟩ := triple_some h
            split at h4
            case isFalse => cases h4
            rename_i hk
            cases h4
            have ses := ihEs E _ _ c h3
            have hm := fun cc i e => c.meths k hk cc i e E.H0
            cases ses with
            | nil => exact SE_meth0 c.ok (c.nms m k h2) hm (ihE E _ _ c h1).1 q.1 hl
            | cons g1 g2 g3 =>
              refine SE_meth c.ok (c.nms m k h2) hm (ihE E _ _ c h1).1 q.1 g1 g3.notall ?_ hl (SEs.cons g1 g2 g3).sa
              have := q.2
              simp at this; omega
        exact All.of hse (fun _ => rfl) (fun _ _ _ z => by cases z)
      · -- Attribute
        rename_i o f p
        split at h
        case isFalse => cases h
        rename_i q
        obtain ⟨to, k, h1, h2, h3⟩ := pair_some h
        cases h3
        exact All.of (SE_attr c.ok (c.nms f k h2) q (ihE E _ _ c h1).1) (fun _ => rfl) (fun _ _ _ z => by cases z)
      · -- slice
        obtain ⟨to, l, hh, h1, h2, h3, h4⟩ := triple_some h
        cases h4
        exact All.of (SE_slice c.ok (ihE E _ _ c h1).1 (ihO E _ _ c h2) (ihO E _ _ c h3)) (fun _ => rfl) (fun _ _ _ z => by cases z)
      · obtain ⟨ta, h1, rfl⟩ := map_some h
        exact All.of (SE_rsl c.ok (ihE E _ _ c h1).1 (SE_neg SE_int)) (fun _ => rfl) (fun _ _ _ z => by cases z)
      · obtain ⟨to, ts, h1, h2, h3⟩ := pair_some h
        cases h3
        exact All.of (SE_ixT c.ok (ihE E _ _ c h1).1 (ihEs E _ _ c h2).sa) (fun _ => rfl) (fun _ _ _ z => by cases z)
      · -- item
        split at h
        case isFalse => cases h
        rename_i q
        obtain ⟨to, ti, h1, h2, h3⟩ := pair_some h
        cases h3
        exact All.of (SE_ix c.ok q (ihE E _ _ c h1).1 (ihE E _ _ c h2).1) (fun _ => rfl) (fun _ _ _ z => by cases z)
      · obtain ⟨t1, ts, h1, h2, h3⟩ := pair_some h
        cases h3
        exact All.of (SE_tupS c.ok (ihE E _ _ c h1).1 (ihEs E _ _ c h2).sa) (fun _ => rfl) (fun _ _ _ z => by cases z)
      · obtain ⟨t1, ts, h1, h2, h3⟩ := pair_some h
        cases h3
        exact All.of (SE_lstS c.ok (ihE E _ _ c h1).1 (ihEs E _ _ c h2).sa) (fun _ => rfl) (fun _ _ _ z => by cases z)
      · obtain ⟨ts, h1, rfl⟩ := map_some h
        exact All.of (SE_tup (ihEs E _ _ c h1).sa) (fun _ => rfl) (fun _ _ _ z => by cases z)
      · obtain ⟨ts, h1, rfl⟩ := map_some h
        exact All.of (SE_lst (ihEs E _ _ c h1).sa) (fun _ => rfl) (fun _ _ _ z => by cases z)
      · cases h
        exact All.of (SE_dict0 c.ok) (fun _ => rfl) (fun _ _ _ z => by cases z)
      · -- Dict
        rename_i ks vs p hne0
        split at h
        · cases h
        · rename_i q
          obtain ⟨ts, h1, rfl⟩ := map_some h
          have h15 : ks.length ≤ 15 := by
            simp at q; omega
          have h0 : ks ≠ [] := fun z => by subst z; simp at q
          exact All.of (SE_dict (ihK E _ _ _ c h1) h0 h15) (fun _ => rfl) (fun _ _ _ z => by cases z)
      · -- ListComp
        rename_i elt g scope p
        split at h
        case isFalse => cases h
        rename_i q
        simp only [Bool.and_eq_true, decide_eq_true_eq, Bool.not_eq_true'] at q
        obtain ⟨⟨q1, q2⟩, q3⟩ := q
        obtain ⟨tg, it, h1, h2, h3⟩ := pair_some h
        obtain ⟨tc, te, h4, h5, h6⟩ := pair_some h3
        split at h6
        case isFalse => cases h6
        rename_i hx
        cases h6
        have hb : BlkOk E.X.N E.X.env.scope scope (ownOf C.N scope.names) := by rw [c.N, c.sc]; exact blkOk_by q1
        obtain ⟨jhE, _, _, _, _, jhC⟩ := ih (C.blk scope) (rl scope sc)
        have key : SE E (.ListComp elt [⟨g.target, g.iter, g.ifs, 0⟩] scope p) (.comp te tg it tc ((ownOf C.N scope.names).map (·.2))) :=
          SE_comp c.ok hb (ihI E _ _ _ c h2).1 (fun i hi => by
            have := List.all_eq_true.mp hx i hi
            simpa using this) (fun s H a cl fp => (cvG_sound _ _ _ (c.blk hb.kind s H a cl fp) n).1 _ _ h1) (fun s H a cl fp => jhC _ _ _ (c.blk hb.kind s H a cl fp) h4) (fun s H a cl fp => (jhE _ _ _ (c.blk hb.kind s H a cl fp) h5).1)
            (fun x => fold_no q3 _ x)
        obtain ⟨g1, g2, g3, g4⟩ := g
        have q2 : g4 = 0 := q2
        subst q2
        exact All.of key (fun _ => rfl) (fun _ _ _ z => by cases z)
      · split at h
        case isFalse => cases h
        rename_i q
        subst q
        obtain ⟨ta, h1, rfl⟩ := map_some h
        exact All.of (SE_fmt (ihE E _ _ c h1).1) (fun _ => rfl) (fun _ _ _ z => by cases z)
      · obtain ⟨ts, h1, rfl⟩ := map_some h
        exact All.of (SE_join (ihEs E _ _ c h1)) (fun _ => rfl) (fun _ _ _ z => by cases z)
      · cases h
    · cases es with
      | nil => unfold cvEs at h; cases h; exact .nil
      | cons e es =>
        unfold cvEs at h
        split at h
        case isFalse => cases h
        rename_i q
        obtain ⟨t, ts', h1, h2, h3⟩ := pair_some h
        cases h3
        exact .cons q (ihE E _ _ c h1).1 (ihEs E _ _ c h2)
    · cases oe with
      | none => unfold cvO at h; cases h; trivial
      | some e =>
        unfold cvO at h
        obtain ⟨t, h1, rfl⟩ := map_some h
        exact (ihE E _ _ c h1).1
    · unfold cvK at h
      split at h
      · rename_i q; cases q
      · rename_i q
        cases h; exact .nil
      · rename_i x j p ks v vs q
        cases q
        obtain ⟨t, ts', h1, h2, h3⟩ := pair_some h
        cases h3
        exact .str (fun h0 => (ihE (E.at h0) _ _ (c.at h0) h1).1) (ihK E _ _ _ c h2)
      · cases h
    · have tup : ∀ {tg : Expr}, isTupE tg = true → ∃ es k p, tg = .Tuple es k p := fun {tg} h => by
        cases tg <;> first | exact ⟨_, _, _, rfl⟩ | cases h
      unfold cvI at h
      split at h
      · split at h
        · rename_i q
          obtain ⟨rfl, g1, g2⟩ := bnm_of c q
          split at h
          case isFalse => cases h
          rename_i hs
          obtain ⟨t, h1, rfl⟩ := map_some h
          exact ⟨SI_range1 c.ok g1 g2 hs (ihE E _ _ c h1).1, rfl⟩
        split at h
        · rename_i q
          rw [Bool.and_eq_true] at q
          obtain ⟨rfl, g1, g2⟩ := bnm_of c q.1
          obtain ⟨es, k, p, rfl⟩ := tup q.2
          split at h
          case isFalse => cases h
          rename_i hs
          obtain ⟨t, h1, rfl⟩ := map_some h
          exact ⟨SI_enum c.ok g1 g2 hs (ihE E _ _ c h1).1, rfl⟩
        split at h
        · rename_i q
          obtain ⟨rfl, g1, g2⟩ := bnm_of c q
          split at h
          case isFalse => cases h
          rename_i hs
          obtain ⟨t, h1, rfl⟩ := map_some h
          exact ⟨SI_rev c.ok g1 g2 hs (ihE E _ _ c h1).1, rfl⟩
        · obtain ⟨t, h1, rfl⟩ := map_some h
          exact ⟨SI_seq c.ok (ihE E _ _ c h1).1, rfl⟩
      · split at h
        · rename_i q
          obtain ⟨rfl, g1, g2⟩ := bnm_of c q
          split at h
          case isFalse => cases h
          rename_i hs
          rw [Bool.and_eq_true] at hs
          obtain ⟨t, t2, h1, h2, h3⟩ := pair_some h
          cases h3
          exact ⟨SI_range2 c.ok g1 g2 hs.1 hs.2 (ihE E _ _ c h1).1 (ihE E _ _ c h2).1, rfl⟩
        split at h
        · rename_i q
          rw [Bool.and_eq_true] at q
          obtain ⟨rfl, g1, g2⟩ := bnm_of c q.1
          obtain ⟨es, k, p, rfl⟩ := tup q.2
          split at h
          case isFalse => cases h
          rename_i hs
          rw [Bool.and_eq_true] at hs
          obtain ⟨t, t2, h1, h2, h3⟩ := pair_some h
          cases h3
          exact ⟨SI_zip c.ok g1 g2 hs.1 hs.2 (ihE E _ _ c h1).1 (ihE E _ _ c h2).1, rfl⟩
        · obtain ⟨t, h1, rfl⟩ := map_some h
          exact ⟨SI_seq c.ok (ihE E _ _ c h1).1, rfl⟩
      · split at h
        · rename_i q
          obtain ⟨rfl, g1, g2⟩ := bnm_of c q
          split at h
          case isFalse => cases h
          rename_i hs
          simp only [Bool.and_eq_true] at hs
          obtain ⟨t, t2, t3, h1, h2, h3, h4⟩ := triple_some h
          cases h4
          exact ⟨SI_range3 c.ok g1 g2 hs.1.1 hs.1.2 hs.2 (ihE E _ _ c h1).1 (ihE E _ _ c h2).1 (ihE E _ _ c h3).1, rfl⟩
        · obtain ⟨t, h1, rfl⟩ := map_some h
          exact ⟨SI_seq c.ok (ihE E _ _ c h1).1, rfl⟩
      · split at h
        · cases h
        · rename_i q
          obtain ⟨t, h1, rfl⟩ := map_some h
          exact ⟨SI_seq c.ok (ihE E _ _ c h1).1, by simpa using q⟩
    · unfold cvC at h
      split at h
      · rename_i q; cases q
      · cases h; exact scs_nil
      · rename_i q
        cases q
        obtain ⟨t, h1, rfl⟩ := map_some h
        exact scs_one (ihE E _ _ c h1).2.1
      · cases h))) Xq9.mk
/-- the parts of a comprehension -/
theorem lc_parts {n : Nat} {C : Cv} {sc : Scope} {E : En} (c : CtxOk C sc E) {elt : Expr} {g : Comprehension} {scope : Scope} {p : Pos} {t : Tm} (h : cvE C n sc (.ListComp elt [g] scope p) = some t) : t = .stuck ∨ ∃ (tg : Tg) (it : Iter) (tc : Option Tm) (te : Tm), g.is_async = 0 ∧
    t = .comp te tg it tc ((ownOf C.N scope.names).map (·.2)) ∧ BlkOk E.X.N E.X.env.scope scope (ownOf C.N scope.names) ∧ SI E g.target g.iter it ∧ (∀ i ∈ tgIx tg, i ∈ (ownOf C.N scope.names).map (·.2)) ∧
    (∀ s H C cl fp, SG (E.blk s H scope C cl fp) g.target tg) ∧ (∀ s H C cl fp, SCs (E.blk s H scope C cl fp) g.ifs tc) ∧ (∀ s H C cl fp, SE (E.blk s H scope C cl fp) elt te) ∧ ∀ x, foldedSetIterable g.iter E.X.env x = pure x := @Rq9 _ _ (fun qz => @Hq9.get _ _ (qz.bar : Hq9 _ (by
  clear qz
  cases n with
  | zero => unfold cvE at h; cases h
  | succ n =>
    unfold cvE at h
    have h2 := orStuck_some h
    clear h
    rcases h2 with h | rfl
    case inr => exact .inl rfl
    dsimp only at h
    split at h
    case isFalse => cases h
    rename_i q
    simp only [Bool.and_eq_true, decide_eq_true_eq, Bool.not_eq_true'] at q
    obtain ⟨⟨q1, q2⟩, q3⟩ := q
    obtain ⟨tg, it, h1, h2, h3⟩ := pair_some h
    obtain ⟨tc, te, h4, h5, h6⟩ := pair_some h3
    split at h6
    case isFalse => cases h6
    rename_i hx
    cases h6
    have hb : BlkOk E.X.N E.X.env.scope scope (ownOf C.N scope.names) := by rw [c.N, c.sc]; exact blkOk_by q1
    obtain ⟨_, _, _, _, ihI, _⟩ := cv_sound n C sc
    obtain ⟨jhE, _, _, _, _, jhC⟩ := cv_sound n (C.blk scope) (rl scope sc)
    exact .inr ⟨tg, it, tc, te, q2, rfl, hb, (ihI E _ _ _ c h2).1, fun i hi => (by
      have := List.all_eq_true.mp hx i hi
      simpa using this), fun s H a cl fp => (cvG_sound _ _ _ (c.blk hb.kind s H a cl fp) n).1 _ _ h1, fun s H a cl fp => jhC _ _ _ (c.blk hb.kind s H a cl fp) h4, fun s H a cl fp => (jhE _ _ _ (c.blk hb.kind s H a cl fp) h5).1, fun x => fold_no q3 _ x⟩))) Xq9.mk
end Ag
namespace Ag
open PySem PySem.Spec L2
def nmOf (C : Cv) (sc : Scope) : List Expr → Option (List Nat)
  | [] => some []
  | .Name x _ :: r => o2 (wrSlot C sc x) (nmOf C sc r) fun i is => some (i :: is)
  | _ => none
def isLoc (sc : Scope) : Expr → Bool
  | .Name x _ => (match sc.names.lookup x with | some .local => true | _ => false)
  | _ => false
/-- stored one by one through a tuple -/
def noSwap (sc : Scope) (tgs es : List Expr) : Bool :=
  !(tgs.length == 2 || tgs.length == 3) || !(tgs.all (isLoc sc)) || es.all (foldedForSure 8)
/-- the last name first -/
def doSwap (sc : Scope) (tgs es : List Expr) : Bool := match tgs, es with
  | [a, b], [x, y] => isLoc sc a && isLoc sc b && (b.pos.line == a.pos.line) && !([x, y].all (foldedForSure 8)) && !([x, y].all (constantsAlone 8))
  | [a, b, c], [x, y, z] => isLoc sc a && isLoc sc b && isLoc sc c && (b.pos.line == a.pos.line) && (c.pos.line == a.pos.line) && !([x, y, z].all (foldedForSure 8)) && !([x, y, z].all (constantsAlone 8))
  | _, _ => false
def distinct : List Nat → Bool
  | [] => true
  | i :: is => !is.contains i && distinct is
/-- a call of a list's method upon a slot -/
def lstMeth (C : Cv) (sc : Scope) : Expr → Option (Str × Nat × Expr)
  | .Call (.Attribute (.Name x _) m apos) [a] [] cpos => if apos.endLine == cpos.line && notStar a && (m == ("append" : Str) || m == ("extend" : Str)) then (rdSlot C sc x).map fun i => (m, i, a) else none
  | _ => none
def oneComp : Expr → Bool
  | .ListComp .. => true
  | _ => false
/-- x = [..], x a cell of the def -/
def compCell (sc : Scope) (x : Str) : Expr → Bool
  | .ListComp _ [_] _ _ => (match sc.names.lookup x with | some .cell => true | _ => false)
  | _ => false
/-- x = [..] on one line, x a local of its own -/
def compOk (sc : Scope) (x : Str) (p : Pos) : Expr → Bool
  | .ListComp _ [g] scope cpos => (match sc.names.lookup x with | some .local => true | _ => false) && (p.line == cpos.line) && !(scope.names.any fun (n, k) => n == x && (k == .local || k == .cell))
  | _ => false
def isLocN (sc : Scope) (y : Str) : Bool := match sc.names.lookup y with | some .local => true | _ => false
/-- the slot of a plain local that an except clause stores -/
def wrL (C : Cv) (sc : Scope) (y : Str) : Option Nat := if isLocN sc y then ixOf C.N y else none
/-- except clauses without a name -/
def cvHds (C : Cv) (sc : Scope) (n : Nat) : List ExceptHandler → Option (List (Nat × Option Nat × Hst))
  | [] => some []
  | .ExceptHandler (some (.Name xc _)) none [st] _ :: r => if glB sc xc && !dund xc then (C.xcs.lookup xc).bind fun p => o2 (cvHst none 0 [] (wrL C sc) n st) (cvHds C sc n r) fun h l => some ((p.1, none, h) :: l) else none
  | .ExceptHandler (some (.Name xc _)) (some y) [st] _ :: r => if glB sc xc && !dund xc && (isLocN sc y && !dund y) then (C.xcs.lookup xc).bind fun p => (ixOf C.N y).bind fun i => o2 (cvHst (some y) i p.2 (wrL C sc) n st) (cvHds C sc n r) fun h l => some ((p.1, some i, h) :: l) else none
  | _ => none
mutual
def cvS (C : Cv) : Nat → Scope → Stmt → Option Stm
  | 0, _, _ => none
  | n + 1, sc, st => orStuckS (match st with
    | .Expr (.Constant (.str _) _ _) _ => some .skip
    | .Expr e _ => match lstMeth C sc e with
      | some (m, i, a) => (cvE C n sc a).map fun t => if m == ("append" : Str) then .append i t else .extend i t
      | none => if notComp e then (cvE C n sc e).map .expr else none
    | .Assign [.Name x p] a _ => if notComp a then o2 (wrSlot C sc x) (cvE C n sc a) fun i t => some (.asg (.slot i) t) else
        if compCell sc x a then o2 (wrSlot C sc x) (cvE C n sc a) fun i t => some (.asg (.slot i) t) else
        if compOk sc x p a then o2 (wrSlot C sc x) (cvE C n sc a) fun i t => some (.asg (.slot i) t) else none
    | .Assign [.Tuple tgs _ _] (.Tuple es _ _) _ => if (noSwap sc tgs es || doSwap sc tgs es) && decide (tgs.length = es.length) then
        o2 (nmOf C sc tgs) (cvEs C n sc es) fun is ts => if distinct is && decide (is.length < 100) then some (.par is ts) else none
      else none
    | .Assign [.Tuple tgs k p] a _ => if notComp a || oneComp a then o2 (cvG C n sc (.Tuple tgs k p)) (cvE C n sc a) fun g t => some (.asg g t) else none
    | .Assign [.Subscript o (.Tuple es _ _) _] a _ => if notComp a then o3 (cvE C n sc o) (cvEs C n sc es) (cvE C n sc a) fun x y z => some (.setT x y z) else none
    | .Assign [.Subscript o k _] a _ => if notComp a && notSlice k then o3 (cvE C n sc o) (cvE C n sc k) (cvE C n sc a) fun x y z => some (.setk x y z) else none
    | .AugAssign (.Name x _) .Add a _ => o2 (wrSlot C sc x) (cvE C n sc a) fun i t => some (.aug i .add t)
    | .If c a b _ => o3 (cvE C n sc c) (cvSs C n sc a) (cvSs C n sc b) fun x y z => some (.ite x y z)
    | .While c b [] _ => o2 (cvE C n sc c) (cvSs C n sc b) fun x y => some (.whil x y)
    | .For tg it b [] _ => o3 (cvG C n sc tg) (cvI C n sc tg it) (cvSs C n sc b) fun x y z => some (.for_ x y z)
    | .Return none _ => some .retN
    | .Return (some a) _ => (cvE C n sc a).map .ret
    | .Pass _ => some .skip
    | .Break _ => some .brk
    | .Continue _ => some .cont
    | .Raise (some (.Call (.Name x _) (e :: es) [] _)) none _ => if glB sc x && !dund x then (C.xcs.lookup x).bind fun p => if (e :: es).length = p.2.length then (cvEs C n sc (e :: es)).map (.rais p.1) else none else none
    | .Try B [.ExceptHandler (some (.Name xc _)) (some y) [st] _] [] [] _ => if glB sc xc && !dund xc && (isLocN sc y && !dund y) then (C.xcs.lookup xc).bind fun p => (ixOf C.N y).bind fun i => o2 (cvSs C n sc B) (cvHst (some y) i p.2 (wrL C sc) n st) fun t h => some (.tryx t [(p.1, some i, h)]) else none
    | .Try B (h₀ :: hds) [] [] _ => o2 (cvSs C n sc B) (cvHds C sc n (h₀ :: hds)) fun t l => some (.tryx t l)
    | _ => none)
def cvSs (C : Cv) : Nat → Scope → List Stmt → Option (List Stm)
  | 0, _, _ => none
  | _ + 1, _, [] => some []
  | n + 1, sc, s :: ss => o2 (cvS C n sc s) (cvSs C n sc ss) fun t ts => some (t :: ts)
end
structure CtxS (C : Cv) (sc : Scope) (E : En) : Prop where
  c : CtxOk C sc E
  pass : PassesOwn (model E.X.prog E.X.w) E.X.A E.X.env E.X.xe
  stk : E.X.stack = E.X.env :: E.X.outer
  frm : E.X.env.frame = some E.X.env.locals
theorem CtxS.tr {C : Cv} {sc : Scope} {E : En} (c : CtxS C sc E) {pn : List (Addr × Obj)} {xe : Value → Shared → Prop} {W : WX} (tk : Takes (E.X.tr pn xe) W) (ps : PassesOwn (model E.X.prog E.X.w) E.X.A E.X.env xe) : CtxS C sc (E.tr pn xe W) := ⟨c.c.tr tk, ps, c.stk, c.frm⟩
theorem isLocN_of {sc : Scope} {y : Str} (h : isLocN sc y = true) : sc.names.lookup y = some .local := @Rq9 _ _ (fun qz => @Hq9.get _ _ (qz.bar : Hq9 _ (by
  clear qz
  unfold isLocN at h
  split at h <;> first | assumption | cases h))) Xq9.mk
theorem wrL_of {C : Cv} {sc : Scope} {E : En} (c : CtxOk C sc E) : ∀ y j, wrL C sc y = some j → E.X.N[j]? = some y ∧ E.X.env.scope.names.lookup y = some .local := fun y j h => by
  unfold wrL at h
  split at h
  · rename_i q
    exact ⟨by rw [c.N]; exact ixOf_at h, by rw [c.sc]; exact isLocN_of q⟩
  · cases h
theorem SEs.len {E : En} {es : List Expr} {ts : List Tm} (h : SEs E es ts) : ts.length = es.length := @Rq9 _ _ (fun qz => @Hq9.get _ _ (qz.bar : Hq9 _ (by
  clear qz
  induction h with
  | nil => rfl
  | cons _ _ _ ih => rw [List.length_cons, List.length_cons, ih]))) Xq9.mk
theorem xc_names {C : Cv} {sc : Scope} {E : En} (c : CtxOk C sc E) {x : Str} {p : Nat × List Str} (h : (glB sc x && !dund x) = true) (e : C.xcs.lookup x = some p) : Gl E.X x ∧ (x == ("__debug__" : Str)) = false ∧ Names E.X x (.ref (E.G.cl p.1)) := @Rq9 _ _ (fun qz => @Hq9.get _ _ (qz.bar : Hq9 _ (by
  clear qz
  rw [Bool.and_eq_true] at h
  have g : Gl E.X x := by
    show E.X.env.scope.names.lookup x = _
    rw [c.sc]; exact gl_of h.1
  exact ⟨g, (dund_of h.2).1, g, (dund_of h.2).1, .inl (c.xcsK x p.1 p.2 e).2.1⟩))) Xq9.mk
theorem hds_of {C : Cv} {sc : Scope} {E : En} (c : CtxOk C sc E) {n : Nat} : ∀ {hds : List ExceptHandler} {l : List (Nat × Option Nat × Hst)}, cvHds C sc n hds = some l → ∃ m, HdM E n (wrL C sc) hds l m
  | [], l, h => by cases h; exact ⟨_, .nil⟩
  | hd :: r, l, h => by
    unfold cvHds at h
    split at h
    · cases ‹_ :: _ = []›
    · rename_i e
      cases e
      split at h
      case isFalse => cases h
      rename_i q
      cases q2 : C.xcs.lookup _ with
      | none => rw [q2] at h; cases h
      | some p =>
        rw [q2] at h
        have h : o2 (cvHst none 0 [] (wrL C sc) n _) (cvHds C sc n _) (fun h l' => some ((p.1, none, h) :: l')) = some l := h
        obtain ⟨a, b, h1, h2, h3⟩ := pair_some h
        cases h3
        obtain ⟨m, hm⟩ := hds_of c h2
        exact ⟨_, .plain (xc_names c q q2).2.2 (fun c' b' e' => c.subs c' _ b' e') h1 hm⟩
    · rename_i e
      cases e
      split at h
      case isFalse => cases h
      rename_i q
      rw [Bool.and_eq_true] at q
      cases q2 : C.xcs.lookup _ with
      | none => rw [q2] at h; cases h
      | some p =>
        rw [q2] at h
        have h : ((ixOf C.N _).bind fun i => o2 (cvHst (some _) i p.2 (wrL C sc) n _) (cvHds C sc n _) fun h l' => some ((p.1, some i, h) :: l')) = some l := h
        cases q3 : ixOf C.N _ with
        | none => rw [q3] at h; cases h
        | some i =>
          rw [q3] at h
          have h : o2 (cvHst (some _) i p.2 (wrL C sc) n _) (cvHds C sc n _) (fun h l' => some ((p.1, some i, h) :: l')) = some l := h
          obtain ⟨a, b, h1, h2, h3⟩ := pair_some h
          cases h3
          obtain ⟨g1, g2, g3⟩ := xc_names c q.1 q2
          obtain ⟨k1, k2, k3, k4, k5⟩ := c.xcsK _ p.1 p.2 q2
          have q4 := q.2
          rw [Bool.and_eq_true] at q4
          obtain ⟨m, hm⟩ := hds_of c h2
          exact ⟨_, .named (by rw [c.N]; exact ixOf_at q3) (by rw [c.sc]; exact isLocN_of q4.1) (dund_of q4.2).1 (dund_of q4.2).2 g3 (fun c' b' e' => c.subs c' _ b' e') k1.1.symm k3 k4 h1 hm⟩
    · cases h
section
variable {E : En} {e a b c : Expr} {ta tb tc : Tm} {fr : Fr} {σ tp : St} {H F : Hp} {io : List Addr} {Q : VK} {pos : Pos} {es : List Expr} {ts : List Tm} {C : Cv} {sc : Scope}
theorem SS_doc {x : Str} {j : Nat} {p : Pos} : SS E (.Expr (.Constant (.str x) j p) pos) .skip := fun fr σ tp H F io D hl w h => wS_of ps_doc (by unfold ex at h; exact h σ H F io hl (Same.refl _) (Pre.refl _) w)
theorem nm_of (c : CtxOk C sc E) : ∀ {tgs : List Expr} {is : List Nat}, nmOf C sc tgs = some is → Nms E tgs is
  | [], _, h => by cases h; exact .nil
  | e :: r, is, h => by
    cases e with
    | Name x p =>
      obtain ⟨i, is', h1, h2, h3⟩ := pair_some (show o2 (wrSlot C sc x) (nmOf C sc r) (fun i is => some (i :: is)) = some is from h)
      cases h3
      obtain ⟨g1, g2, g3⟩ := wr_of h1
      exact .cons (by rw [c.N]; exact g1) (by rw [c.sc]; exact g2) (by rw [c.sc]; exact g3.imp (c.fnc x) id) (nm_of c h2)
    | _ => cases h
theorem isLoc_of {sc : Scope} {x : Str} {p : Pos} (h : isLoc sc (.Name x p) = true) : sc.names.lookup x = some .local := @Rq9 _ _ (fun qz => @Hq9.get _ _ (qz.bar : Hq9 _ (by
  clear qz
  unfold isLoc at h
  dsimp only at h
  split at h <;> first | assumption | cases h))) Xq9.mk
theorem filterMap_all {α β : Type} {f : α → Option β} : ∀ {l : List α}, (l.filterMap f).length = l.length → ∀ x ∈ l, (f x).isSome = true
  | [], _, _, h => by cases h
  | a :: l, hl, x, hx => by
    have hle : (l.filterMap f).length ≤ l.length := List.length_filterMap_le f l
    cases q : f a with
    | none =>
      rw [List.filterMap_cons_none q] at hl
      rw [List.length_cons] at hl
      omega
    | some b =>
      rw [List.filterMap_cons_some q] at hl
      rcases List.mem_cons.mp hx with rfl | hx
      · rw [q]; rfl
      · exact filterMap_all (by simpa using hl) x hx
theorem swap_none {tgs : List Expr} {k k2 : Nat} {pt pt2 : Pos} {env : Env} (hsc : env.scope = sc) (h : noSwap sc tgs es = true) : swappedStores [.Tuple tgs k pt] (.Tuple es k2 pt2) env = pure none := @Rq9 _ _ (fun qz => @Hq9.get _ _ (qz.bar : Hq9 _ (by
  clear qz
  have key : ∀ l : Nat, (tgs.filterMap fun
      | .Name id pos => if env.kindOf id == some .local && pos.line == l then some id else none
      | _ => none).length = tgs.length → ¬ (tgs.length == 2 || tgs.length == 3) = false → ¬ es.all (foldedForSure 8) = true → False := fun l hl h2 h3 => by
    unfold noSwap at h
    simp only [Bool.or_eq_true, Bool.not_eq_true'] at h
    rcases h with (h | h) | h
    · exact h2 h
    · have q := filterMap_all hl
      have : tgs.all (isLoc sc) = true := List.all_eq_true.mpr fun e he => by
        have q := q e he
        cases e with
        | Name x p =>
          dsimp only at q
          split at q
          · rename_i z
            rw [Bool.and_eq_true, beq_iff_eq] at z
            have z1 : sc.names.lookup x = some .local := by rw [← hsc]; exact z.1
            show (match sc.names.lookup x with | some .local => true | _ => false) = true
            rw [z1]
          · cases q
        | _ => cases q
      rw [this] at h; cases h
    · exact h3 h
  unfold swappedStores
  dsimp only
  split
  · rfl
  · rename_i a1
    split
    · rfl
    · split
      · rfl
      · rename_i a3
        split
        · rfl
        · rename_i a4
          exfalso
          simp only [Bool.or_eq_true, not_or, bne_iff_ne, ne_eq, Decidable.not_not] at a3
          refine key _ a3.1 (fun z => a1 ?_) a4
          rw [z]; rfl))) Xq9.mk
theorem mem_lt {tgs : List Expr} {is : List Nat} (h : Nms E tgs is) : ∀ i ∈ is, i < E.X.N.length := @Rq9 _ _ (fun qz => @Hq9.get _ _ (qz.bar : Hq9 _ (by
  clear qz
  induction h with
  | nil => intro i hi; cases hi
  | cons h1 _ _ _ ih =>
    intro i hi
    rcases List.mem_cons.mp hi with rfl | hi
    · exact (List.getElem?_eq_some_iff.mp h1).1
    · exact ih i hi))) Xq9.mk
theorem swap_par (c : CtxOk C sc E) {tgs : List Expr} {is : List Nat} {k k2 : Nat} {pt pt2 : Pos} (h : doSwap sc tgs es = true) (hn : Nms E tgs is) (hd : distinct is = true) (hs : allNot es = true) : ParOk E (.Assign [.Tuple tgs k pt] (.Tuple es k2 pt2) pos) is es := @Rq9 _ _ (fun qz => @Hq9.get _ _ (qz.bar : Hq9 _ (by
  clear qz
  unfold doSwap at h
  split at h
  · rename_i a b x y
    simp only [Bool.and_eq_true, Bool.not_eq_true'] at h
    obtain ⟨⟨⟨⟨l1, l2⟩, l3⟩, l4⟩, l5⟩ := h
    cases hn with
    | cons n1 _ _ hn => cases hn with
      | cons n2 _ _ hn => cases hn with
        | nil =>
          simp only [distinct, List.contains_cons, List.contains_nil, Bool.and_eq_true, Bool.not_eq_true', Bool.or_eq_false_iff, beq_eq_false_iff_ne, Bool.or_false] at hd
          exact par_two c.ok c.kind n1 n2 (by omega) (by rw [c.sc]; exact isLoc_of l1) (by rw [c.sc]; exact isLoc_of l2) l3 hs l4 l5
  · rename_i a b d x y z
    simp only [Bool.and_eq_true, Bool.not_eq_true'] at h
    obtain ⟨⟨⟨⟨⟨⟨l1, l2⟩, l3⟩, l4⟩, l5⟩, l6⟩, l7⟩ := h
    cases hn with
    | cons n1 _ _ hn => cases hn with
      | cons n2 _ _ hn => cases hn with
        | cons n3 _ _ hn => cases hn with
          | nil =>
            rename_i x1 p1 i1 x2 p2 i2 x3 p3 i3
            simp only [distinct, List.contains_cons, List.contains_nil, Bool.and_eq_true, Bool.not_eq_true', Bool.or_eq_false_iff, beq_eq_false_iff_ne, Bool.or_false] at hd
            exact par_three c.ok c.kind n1 n2 n3 (by omega) (by omega) (by omega) (by rw [c.sc]; exact isLoc_of l1) (by rw [c.sc]; exact isLoc_of l2) (by rw [c.sc]; exact isLoc_of l3) l4 l5 hs l6 l7
  · cases h))) Xq9.mk
theorem cvI_sound {n : Nat} (c : CtxOk C sc E) {tg e : Expr} {it : Iter} (h : cvI C n sc tg e = some it) : SI E tg e it ∧ isSetE e = false := (cv_sound n C sc).2.2.2.2.1 E e it tg c h
theorem lst_of {m : Str} {i : Nat} (c : CtxOk C sc E) {n : Nat} {t : Tm} (h : lstMeth C sc e = some (m, i, a)) (ha : cvE C n sc a = some t) : SS E (.Expr e pos) (if m == ("append" : Str) then .append i t else .extend i t) := @Rq9 _ _ (fun qz => @Hq9.get _ _ (qz.bar : Hq9 _ (by
  clear qz
  have cs := (cv_sound n C sc).1 E
  unfold lstMeth at h
  split at h
  · split at h
    case isFalse => cases h
    rename_i q
    obtain ⟨j, h1, h2⟩ := map_some h
    cases h2
    simp only [Bool.and_eq_true, Bool.or_eq_true, beq_iff_eq] at q
    obtain ⟨⟨q1, q2⟩, q3⟩ := q
    obtain ⟨g1, g2, g3, g4⟩ := rd_of h1
    rcases q3 with rfl | rfl
    · exact SS_append c.ok (by rw [c.N]; exact g1) (by rw [c.sc]; exact g2) g3 g4 q2 (by simpa using q1) (cs _ _ c ha).1
    · have ne : (("extend" : Str) == ("append" : Str)) = false := by decide +kernel
      rw [ne]
      exact SS_extend c.ok (by rw [c.N]; exact g1) (by rw [c.sc]; exact g2) g3 g4 q2 (by simpa using q1) (cs _ _ c ha).1
  · cases h))) Xq9.mk
end
theorem sw_cell {elt : Expr} {gs : List Comprehension} {scope : Scope} {cpos p : Pos} {x : Str} {n : Nat} {env : Env} (h : env.scope.names.lookup x = some .cell) : swapsWith (.ListComp elt gs scope cpos) (some (.Name x p)) n env = pure false := @Rq9 _ _ (fun qz => @Hq9.get _ _ (qz.bar : Hq9 _ (by
  clear qz
  have hk : env.kindOf x = some .cell := h
  show (pure (env.blockKind == .function && env.kindOf x == some .local && p.line == cpos.line && !(scope.names.any fun (n, k) => n == x && (k == .local || k == .cell))) : Sem Bool) = _
  rw [hk]
  have : (some NameKind.cell == some NameKind.local) = false := rfl
  rw [this, Bool.and_false, Bool.false_and, Bool.false_and]))) Xq9.mk
theorem sole_no {a t : Expr} (h : notComp a = true) (n : Nat) (env : Env) : swapsWithSole [t] a n env = pure false := by
  cases a <;> first | rfl | cases h
theorem sole_tup {a : Expr} {tgs : List Expr} {k : Nat} {p : Pos} (h : (notComp a || oneComp a) = true) (n : Nat) (env : Env) : swapsWithSole [.Tuple tgs k p] a n env = pure false := by
  cases a <;> first | rfl | cases h
theorem cvS_all (C : Cv) (sc : Scope) : ∀ n (E : En), CtxS C sc E → (∀ st t, cvS C n sc st = some t → SS E st t) ∧ (∀ sts ts, cvSs C n sc sts = some ts → SSs E sts ts) := @Rq9 _ _ (fun qz => @Hq9.get _ _ (qz.bar : Hq9 _ (by
  clear qz
  intro n
  induction n with
  | zero => exact fun E cx => ⟨fun st t h => (by unfold cvS at h; cases h), fun sts ts h => (by unfold cvSs at h; cases h)⟩
  | succ n ih0 =>
    intro E cx
    have ih := ih0 E cx
    have c := cx.c
    have cs := (cv_sound n C sc).1 E
    have css := (cv_sound n C sc).2.1 E
    refine ⟨fun st t h => ?_, fun sts ts h => ?_⟩
    · unfold cvS at h
      have h2 := orStuckS_some h
      clear h
      rcases h2 with h | rfl
      case inr => exact SS_stuck
      split at h
      · cases h; exact SS_doc
      · split at h
        · rename_i q
          obtain ⟨u, h1, rfl⟩ := map_some h
          exact lst_of c q h1
        · split at h
          case isFalse => cases h
          rename_i hs
          obtain ⟨u, h1, rfl⟩ := map_some h
          exact SS_expr (cs _ _ c h1).1 (swaps_no hs _ _ _)
      · -- name = e
        rename_i x px a ps
        split at h
        · rename_i hs
          obtain ⟨i, u, h1, h2, h3⟩ := pair_some h
          cases h3
          obtain ⟨g1, g2, g3⟩ := wr_of h1
          exact SS_asgName c.ok (by rw [c.N]; exact g1) (by rw [c.sc]; exact g2) (by rw [c.sc]; exact g3.imp (c.fnc _) id) (swaps_no hs _ _ _) (cs _ _ c h2).1
        split at h
        · rename_i hs
          obtain ⟨i, u, h1, h2, h3⟩ := pair_some h
          cases h3
          obtain ⟨g1, g2, g3⟩ := wr_of h1
          unfold compCell at hs
          split at hs
          case h_2 => cases hs
          have hcell : sc.names.lookup x = some NameKind.cell := by
            split at hs
            · assumption
            · cases hs
          exact SS_asgName c.ok (by rw [c.N]; exact g1) (by rw [c.sc]; exact g2) (by rw [c.sc]; exact g3.imp (c.fnc _) id) (sw_cell (by rw [c.sc]; exact hcell)) (cs _ _ c h2).1
        split at h
        case isFalse => cases h
        rename_i hs
        obtain ⟨i, u, h1, h2, h3⟩ := pair_some h
        cases h3
        obtain ⟨g1, g2, g3⟩ := wr_of h1
        unfold compOk at hs
        split at hs
        case h_2 => cases hs
        rename_i elt g scope cpos hnc hcc
        simp only [Bool.and_eq_true, Bool.not_eq_true'] at hs
        obtain ⟨⟨k1, k2⟩, k3⟩ := hs
        have hloc : sc.names.lookup x = some NameKind.local := by
          split at k1
          · assumption
          · cases k1
        rcases lc_parts c h2 with rfl | ⟨tg, it, tc, te, q1, rfl, q3, q4, q5, q6, q7, q8, q9⟩
        · intro fr σ tp H F io D hl w hh
          unfold ex ev at hh
          exact hh.elim
        obtain ⟨e1, e2, e3, e4⟩ := g
        have q1 : e4 = 0 := q1
        subst q1
        exact SS_asgComp c.ok (by rw [c.N]; exact g1) (by rw [c.sc]; exact hloc) (sw_true c.kind (by rw [c.sc]; exact hloc) k2 k3) q3 q4 q5 q6 q7 q8 q9
      · -- several
        split at h
        case isFalse => cases h
        rename_i hs
        rw [Bool.and_eq_true, Bool.or_eq_true] at hs
        obtain ⟨is, us, h1, h2, h3⟩ := pair_some h
        split at h3
        case isFalse => cases h3
        rename_i hd
        rw [Bool.and_eq_true, decide_eq_true_eq] at hd
        cases h3
        have nm := nm_of c h1
        have ses := css _ _ c h2
        refine SS_par ?_ (mem_lt nm) ses
        rcases hs.1 with hs | hs
        · exact par_gen c.ok nm hd.2 (swap_none c.sc hs)
        · exact swap_par c hs nm hd.1 ses.notall
      · -- unpacking
        split at h
        case isFalse => cases h
        rename_i hs
        obtain ⟨g, u, h1, h2, h3⟩ := pair_some h
        cases h3
        have hg := (cvG_sound C sc E c n).1 _ _ h1
        have gt : ∃ gs, g = .tup gs := by
          cases n with
          | zero => unfold cvG at h1; cases h1
          | succ n =>
            unfold cvG at h1
            dsimp only at h1
            split at h1
            · obtain ⟨gs, _, e⟩ := map_some h1
              exact ⟨gs, e.symm⟩
            · cases h1
        obtain ⟨gs, rfl⟩ := gt
        refine SS_asgTup hg (sole_tup hs _ _) ?_ rfl (cs _ _ c h2).1
        rename_i a _ hne
        cases a <;> first | rfl | exact absurd rfl (hne _ _ _)
      · -- o[k1, k2] = e
        split at h
        case isFalse => cases h
        rename_i hs
        obtain ⟨x, y, z, h1, h2, h3, h4⟩ := triple_some h
        cases h4
        exact SS_setT c.ok hs (cs _ _ c h3).1 (cs _ _ c h1).1 (css _ _ c h2).sa
      · -- o[k] = e
        split at h
        case isFalse => cases h
        rename_i hs0
        rw [Bool.and_eq_true] at hs0
        obtain ⟨hs, hns⟩ := hs0
        obtain ⟨x, y, z, h1, h2, h3, h4⟩ := triple_some h
        cases h4
        exact SS_setk c.ok hns hs (sole_no hs _ _) (by rename_i a _ _; cases a <;> first | rfl | cases hs) (cs _ _ c h3).1 (cs _ _ c h1).1 (cs _ _ c h2).1
      · obtain ⟨i, u, h1, h2, h3⟩ := pair_some h
        cases h3
        obtain ⟨g1, g2, g3⟩ := wr_of h1
        exact SS_aug c.ok (by rw [c.N]; exact g1) (by rw [c.sc]; exact g2) (by rw [c.sc]; exact g3.imp (c.fnc _) id) (cs _ _ c h2).1
      · obtain ⟨x, y, z, h1, h2, h3, h4⟩ := triple_some h
        cases h4
        exact SS_ite (cs _ _ c h1).2.1 (ih.2 _ _ h2) (ih.2 _ _ h3)
      · obtain ⟨x, y, h1, h2, h3⟩ := pair_some h
        cases h3
        exact SS_whil c.ok cx.pass (cs _ _ c h1).2.1 (ih.2 _ _ h2)
      · obtain ⟨x, y, z, h1, h2, h3, h4⟩ := triple_some h
        cases h4
        obtain ⟨q1, q2⟩ := cvI_sound c h2
        exact SS_for c.ok cx.pass q1 ((cvG_sound C sc E c n).1 _ _ h1) (ih.2 _ _ h3) (fun x => fold_no q2 _ x)
      · cases h; exact SS_retN
      · obtain ⟨u, h1, rfl⟩ := map_some h
        exact SS_ret (cs _ _ c h1).1
      · cases h; exact SS_pass
      · cases h; exact SS_brk
      · cases h; exact SS_cont
      · -- raise
        split at h
        case isFalse => cases h
        rename_i q
        cases q2 : C.xcs.lookup _ with
        | none => rw [q2] at h; cases h
        | some p =>
          rw [q2] at h
          have h : (if _ then _ else none) = some t := h
          split at h
          case isFalse => cases h
          rename_i q3
          obtain ⟨us, h1, rfl⟩ := map_some h
          obtain ⟨g1, g2, g3⟩ := xc_names c q q2
          have ses := css _ _ c h1
          obtain ⟨k1, k2, k3, k4, k5⟩ := c.xcsK _ p.1 p.2 q2
          exact SS_rais c.ok (by rw [q3]; exact k5 E ⟨rfl, rfl, rfl, rfl, rfl, rfl, rfl, rfl⟩ c.ok) k1.2 g1 g2 ses.notall ses.len ses.sa
      · -- try .. except .. as
        split at h
        case isFalse => cases h
        rename_i q
        rw [Bool.and_eq_true] at q
        cases q2 : C.xcs.lookup _ with
        | none => rw [q2] at h; cases h
        | some p =>
          rw [q2] at h
          have h : ((ixOf C.N _).bind fun i => o2 (cvSs C n sc _) (cvHst (some _) i p.2 (wrL C sc) n _) fun t h => some (Stm.tryx t [(p.1, some i, h)])) = some t := h
          cases q3 : ixOf C.N _ with
          | none => rw [q3] at h; cases h
          | some i =>
            rw [q3] at h
            have h : o2 (cvSs C n sc _) (cvHst (some _) i p.2 (wrL C sc) n _) (fun t h => some (Stm.tryx t [(p.1, some i, h)])) = some t := h
            obtain ⟨tB, hb, h1, h2, h3⟩ := pair_some h
            cases h3
            obtain ⟨g1, g2, g3⟩ := xc_names c q.1 q2
            obtain ⟨k1, k2, k3, k4, k5⟩ := c.xcsK _ p.1 p.2 q2
            have q4 := q.2
            rw [Bool.and_eq_true] at q4
            exact SS_try_as c.ok cx.stk cx.frm (by rw [c.N]; exact ixOf_at q3) (by rw [c.sc]; exact isLocN_of q4.1) (dund_of q4.2).1 (dund_of q4.2).2 g3 (fun c' b' e' => c.subs c' _ b' e') k1.1.symm k3 k4 (fun W pn xe tk ps => (ih0 _ (cx.tr tk ps)).2 _ _ h1) (wrL_of c) h2
      · -- try .. except
        obtain ⟨tB, l, h1, h2, h3⟩ := pair_some h
        cases h3
        obtain ⟨m, hm⟩ := hds_of c h2
        exact SS_try_mx c.ok cx.stk cx.frm (fun W pn xe tk ps => (ih0 _ (cx.tr tk ps)).2 _ _ h1) (wrL_of c) hm
      · cases h
    · cases sts with
      | nil => unfold cvSs at h; cases h; exact SSs_nil
      | cons s ss =>
        unfold cvSs at h
        obtain ⟨t, ts', h1, h2, h3⟩ := pair_some h
        cases h3
        exact SSs_cons (ih.1 _ _ h1) (ih.2 _ _ h2)))) Xq9.mk
theorem cvS_sound (C : Cv) (sc : Scope) (E : En) (cx : CtxS C sc E) : ∀ n, (∀ st t, cvS C n sc st = some t → SS E st t) ∧ (∀ sts ts, cvSs C n sc sts = some ts → SSs E sts ts) := fun n => cvS_all C sc n E cx
end Ag
namespace Ag
open PySem PySem.Spec L2
theorem room5 {k : Nat} {A : Around} (r : Room k A) : A.units + 65 < cLine := by have := r.un; omega
def Fx.all (r : Fx) (P : Out → List Cell → Prop) (PX : Nat → List D → List Cell → Prop) : Prop :=
  match r with
  | .ret o s => P o s
  | .exc c fs s => PX c fs s
  | .bad => False
/-- what a def promises that does what phi tells, of n arguments -/
def spI (G : Glb) (n : Nat) (phi : Fn) : Sp := fun vs H Q Ex => ∃ ds sto F io, ds.length = n ∧ Reps G F io ds vs ∧ Wr G ⟨H, F⟩ io.length sto H F io ∧
  (phi ds sto).all (fun o sto' => ∀ v H' F' io', Same F F' → Pre io io' → Wr G ⟨H, F⟩ io.length sto' H' F' io' → RvOk G ⟨H, F⟩ H' F' io' [] [] (.out o) v → Q v H')
    (fun c fs sto' => ∀ d H' F' io', Same F F' → Pre io io' → Wr G ⟨H, F⟩ io.length sto' H' F' io' → ExOk G F' io' H' c fs d → Ex (.ref (G.cl c)) d H')
section
variable {E : En} {fr : Fr} {σ tp : St} {H F : Hp} {io : List Addr} {Q : VK}
/-- behind a call: the caller's slots stand as they stood -/
theorem Ws.after {sto' : List Cell} {H' F' : Hp} {io' : List Addr} (w : E.ws fr (σ ++ tp) H F io) (s : Same F F') (p : Pre io io') (w' : Wr E.G ⟨H, F⟩ io.length sto' H' F' io') : E.ws { fr with sto := sto' } (σ ++ tp) H' F' io' := @Rq9 _ _ (fun qz => @Hq9.get _ _ (qz.bar : Hq9 _ (by
  clear qz
  have cellN : ∀ (n : Nat) (a : Addr), io'[n]? = some a → n < io.length → io[n]? = some a := fun n a e h => by
    have e2 := p n _ (List.getElem?_eq_getElem h)
    rw [e] at e2; cases e2
    exact List.getElem?_eq_getElem h
  have nw : ∀ a, H a = none → E.H0 a = none := fun a h => (w.wr.fresh h).2.2
  refine ⟨⟨w'.sub, w'.len, w'.cel, w'.inj, fun a o e k => ?_, fun n a hn e => ?_, w'.frz, Nat.le_trans w.wr.nle ?_, fun a o u e1 e2 => ?_⟩, w.sl.len, fun i sl e => ?_, w.sl.dis⟩
  · have k2 : ∀ n : Nat, n < E.n0 → io[n]? ≠ some a := fun n hn z => k n hn (p n a z)
    have h1 := w.wr.keep a o e k2
    refine w'.keep a o h1 fun n hn z => ?_
    have z2 := cellN n a z hn
    by_cases q : n < E.n0
    · exact k2 n q z2
    · have := w.wr.new n a (Nat.le_of_not_lt q) z2
      rw [e] at this; cases this
  · by_cases q : n < io.length
    · exact w.wr.new n a hn (cellN n a e q)
    · exact nw a (w'.new n a (Nat.le_of_not_lt q) e)
  · have : ∀ n : Nat, n < io.length → n < io'.length := fun n h => (List.getElem?_eq_some_iff.mp (p n _ (List.getElem?_eq_getElem h))).1
    by_cases q : io.length = 0
    · omega
    · have := this (io.length - 1) (by omega)
      omega
  · by_cases q : ∃ n : Nat, n < E.n0 ∧ io[n]? = some a
    · obtain ⟨n, hn, en⟩ := q
      have hlt : n < fr.sto.length := by rw [← w.wr.len]; exact (List.getElem?_eq_some_iff.mp en).1
      obtain ⟨a', e3, _, e4⟩ := w.wr.cel n _ (List.getElem?_eq_getElem hlt)
      rw [en] at e3; cases e3
      have hx : ∃ x, H a = some x := by
        cases q : fr.sto[n] with
        | dict kvs => rw [q] at e4; obtain ⟨vs, h, _⟩ := e4; exact ⟨_, h⟩
        | dictT kvs => rw [q] at e4; obtain ⟨vs, h, _⟩ := e4; exact ⟨_, h⟩
        | inst c fs => rw [q] at e4; obtain ⟨dx, vs, h, _⟩ := e4; exact ⟨_, h⟩
      obtain ⟨x, hx⟩ := hx
      exact w.wr.old a o u e1 (w'.old a x u hx e2)
    · have h1 := w.wr.keep a o e1 fun n hn z => q ⟨n, hn, z⟩
      exact w.wr.old a o u e1 (w'.old a o u h1 e2)
  · have q := w.sl.at_ i sl e
    cases sl with
    | un => trivial
    | val d => obtain ⟨v, e1, r⟩ := q; exact ⟨v, e1, r.mono s p⟩
    | own xs =>
      obtain ⟨q, e1, vs, h1, h2, h3, h4, h5⟩ := q
      have nq : ∀ n : Nat, n < io.length → io'[n]? ≠ some q := fun n hn z => h3 n (cellN n q z hn)
      refine ⟨q, e1, vs, w'.keep q _ h1 nq, ?_, fun n z => ?_, h4, h5.mono s p⟩
      · cases z : F' q with
        | none => rfl
        | some u =>
          have : F q = some u := w'.old q _ u h1 z
          rw [h2] at this; cases this
      · by_cases hn : n < io.length
        · exact nq n hn z
        · have := w'.new n q (Nat.le_of_not_lt hn) z
          rw [show (⟨H, F⟩ : Ent) q = H q from rfl, h1] at this; cases this))) Xq9.mk
/-- a new list of the callee is new for the caller -/
theorem RvOk.after {sto' : List Cell} {H' F' : Hp} {io' : List Addr} {o : Out} {v : V} (w : E.ws fr (σ ++ tp) H F io) (r : RvOk E.G ⟨H, F⟩ H' F' io' [] [] (.out o) v) : RvOk E.G E.H0 H' F' io' fr.env (σ ++ tp) (.out o) v := @Rq9 _ _ (fun qz => @Hq9.get _ _ (qz.bar : Hq9 _ (by
  clear qz
  cases o with
  | val d => exact r
  | fresh xs =>
    obtain ⟨p, rfl, ⟨vs, h1, h2, h3, h4, h5⟩, _⟩ := r
    have h4 : H p = none := h4
    refine ⟨p, rfl, ⟨vs, h1, h2, h3, (w.wr.fresh h4).2.2, h5⟩, fun i ys e z => ?_⟩
    obtain ⟨q, e1, own⟩ := w.sl.at_ i _ e
    rw [z] at e1; cases e1
    exact own.ne h4 rfl))) Xq9.mk
theorem calls_of {k n : Nat} {f : Addr} {fd : FuncData} {ps : List Str} {phi : Fn} (ok : E.Ok) (FK : FnOk E.X.prog E.X.w E.X.K E.X.mg E.X.base (L2.CX E.X.prog E.X.w) k f fd ps (spI E.G n phi)) (hr : Room k E.X.A) (hb : Binds E.X.K fd ps [])
    (hn : ∀ ds sto, phi ds sto ≠ .bad → ds.length = n) : Calls E (.ref f) phi := @Rq9 _ _ (fun qz => @Hq9.get _ _ (qz.bar : Hq9 _ (by
  clear qz
  intro fr σ tp H F io Q ds vs us pins s w r rv I h
  have hnb : phi ds fr.sto ≠ .bad := fun z => by rw [z] at h; exact h
  have hsp : spI E.G n phi vs H Q (fun cls d H' => E.W cls d σ H') := by
    refine ⟨ds, fr.sto, F, io, hn _ _ hnb, r, ⟨w.wr.sub, w.wr.len, w.wr.cel, w.wr.inj, fun a o e _ => e, fun m a hm e => ?_, w.wr.frz, Nat.le_refl _, fun a o u _ e => e⟩, ?_⟩
    · have := (List.getElem?_eq_some_iff.mp e).1
      omega
    · cases q : phi ds fr.sto with
      | bad => exact absurd q hnb
      | ret o sto' =>
        rw [q] at h
        intro v H' F' io' s1 p1 w1 r1
        exact h v H' F' io' s1 p1 (w.after s1 p1 w1) (RvOk.after (sto' := sto') (fr := fr) w r1)
      | exc c fs sto' =>
        rw [q] at h
        intro d H' F' io' s1 p1 w1 x
        exact h d H' F' io' s1 p1 (w.after s1 p1 w1) x
  have hl : (us ++ []).length = ps.length := by
    rw [List.append_nil, ← rv.length]; exact FK.len _ _ _ _ hsp
  have hB := hb s us I.kIn hl
  rw [List.append_nil] at hB
  refine wpAny_call (codeAny_mono (FK.run E.X.A E.X.stack s H ⟨us, []⟩ us vs Q (fun cls d H' => E.W cls d σ H') hr I.env0 hB rv hsp) fun r s' hq => ?_)
  cases r with
  | error e => exact ok.tk e s' (XE.of_call I (fun _ _ _ h => h) hq)
  | ok fl =>
    cases fl with
    | ret u => exact I.after hq
    | next => exact False.elim hq
    | brk => exact False.elim hq
    | cont => exact False.elim hq))) Xq9.mk
end
/-- called by sorted for each item -/
theorem callsK_of {E : En} {k n : Nat} {f : Addr} {fd : FuncData} {ps : List Str} {phi : Fn} (FK : FnOk E.X.prog E.X.w E.X.K E.X.mg E.X.base (L2.CX E.X.prog E.X.w) k f fd ps (spI E.G n phi)) (hr : Room (k + 2) E.X.A) (hb : Binds E.X.K fd ps []) (hps : ps.length = 1) (hn : n = 1) (hk2 : E.G.K = E.X.K) : CallsK E (.ref f) phi := @Rq9 _ _ (fun qz => @Hq9.get _ _ (qz.bar : Hq9 _ (by
  clear qz
  intro σ H F d v uv pins s kk hF hz r rv I hk
  have hphi : phi [d] [] = .ret (.val (.tup [.bl kk.1, .int kk.2])) [] := by
    unfold keyBI at hk
    split at hk
    · rename_i e; cases hk; exact e
    · cases hk
  have hsp : spI E.G n phi [v] H (fun u H' => ∃ t, u = .ref t ∧ Same H H' ∧ SqT E.X.K H' t [.bl kk.1, .int kk.2]) (fun _ _ _ => False) := by
    refine ⟨[d], [], F, [], by rw [hn]; rfl, .cons r .nil, ⟨hF, rfl, fun n c e => by simp at e, fun i j a e => by simp at e, fun a o e _ => e, fun n a _ e => by simp at e, hz, Nat.le_refl _, fun a o u _ e => e⟩, ?_⟩
    rw [hphi]
    intro u H' F' io' s1 p1 w1 r1
    have r1 : Rep E.G F' io' (.tup [.bl kk.1, .int kk.2]) u := r1
    cases r1 with
    | tup h1 r2 =>
      cases r2 with
      | cons a b => cases b with
        | cons c e =>
          cases e; cases a; cases c
          refine ⟨_, rfl, fun a o q => w1.keep a o q fun n hn => absurd hn (Nat.not_lt_zero n), ?_⟩
          rw [← hk2]
          exact Same.sqT w1.sub h1
  have hB := hb s [uv] I.kIn (by rw [hps]; rfl)
  refine wpAny_call (codeAny_mono (FK.run E.X.A.in1.in1 E.X.stack s H ⟨[uv], []⟩ [uv] [v] _ _ hr.in1.in1 I.env0.in1.in1 hB (.cons rv .nil) hsp) fun r s' hq => ?_)
  cases r with
  | error e =>
    obtain ⟨_, _, _, _, _, _, _, _, _, _, _, _, z⟩ := hq
    exact z.elim
  | ok fl =>
    cases fl with
    | ret u =>
      obtain ⟨v2, H', I2, rv2, t, rfl, sm, hT⟩ := I.after hq
      exact ⟨H', t, sm, I2, rv2, hT⟩
    | next => exact False.elim hq
    | brk => exact False.elim hq
    | cont => exact False.elim hq))) Xq9.mk
/-- a name of the module that sorted can call, at level k -/
def GoodK (P : Program) (w : World) (K : PySem.W.Frag) (mg : Str → Option Value) (base : Heap) (G : Glb) (k : Nat) (x : Str) (phi : Fn) : Prop :=
  ∃ fa, mg x = some (.ref fa) ∧ PySem.W.keepIn K (.ref fa) = true ∧ ∀ E : En, E.X.prog = P → E.X.w = w → E.X.K = K → E.X.mg = mg → E.X.base = base → E.G = G → E.Ok → Room k E.X.A → CallsK E (.ref fa) phi
/-- a name of the module that can be called, at level k -/
def Good (P : Program) (w : World) (K : PySem.W.Frag) (mg : Str → Option Value) (base : Heap) (G : Glb) (k : Nat) (x : Str) (phi : Fn) : Prop :=
  ∃ u, mg x = some u ∧ PySem.W.keepIn K u = true ∧ ∀ E : En, E.X.prog = P → E.X.w = w → E.X.K = K → E.X.mg = mg → E.X.base = base → E.G = G → E.Ok → Room k E.X.A → Calls E u phi
def GoodM (P : Program) (w : World) (K : PySem.W.Frag) (mg : Str → Option Value) (base : Heap) (G : Glb) (k : Nat) (c m : Nat) (phi : Fn) : Prop :=
  Cls K (G.cl c) ∧ ∃ g, Meth K (G.cl c) (G.fn m) g ∧ ∀ E : En, E.X.prog = P → E.X.w = w → E.X.K = K → E.X.mg = mg → E.X.base = base → E.G = G → E.Ok → Room k E.X.A → Calls E (.ref g) phi
/-- an exception class that can be raised, at level k -/
def GoodX (P : Program) (w : World) (K : PySem.W.Frag) (mg : Str → Option Value) (base : Heap) (G : Glb) (k : Nat) (x : Str) (c : Nat) (fs : List Str) : Prop :=
  ((G.xf c).map G.fn = fs ∧ (G.xf c).Nodup) ∧ mg x = some (.ref (G.cl c)) ∧ XfC K (G.cl c) ∧ (∀ f ∈ fs, PySem.W.findIn K (.ref (G.cl c)) f = some none) ∧
    ∀ E : En, E.X.prog = P → E.X.w = w → E.X.K = K → E.X.mg = mg → E.X.base = base → E.G = G → E.Ok → Room k E.X.A → RaisOk E x c fs.length
theorem GoodX.mono {P : Program} {w : World} {K : PySem.W.Frag} {mg : Str → Option Value} {base : Heap} {G : Glb} {j k : Nat} {x : Str} {c : Nat} {fs : List Str} (h : GoodX P w K mg base G j x c fs) (hj : j ≤ k) : GoodX P w K mg base G k x c fs :=
  ⟨h.1, h.2.1, h.2.2.1, h.2.2.2.1, fun E e1 e2 e3 e4 e5 e6 ok hr => h.2.2.2.2 E e1 e2 e3 e4 e5 e6 ok (hr.mono hj)⟩
/-- what the whole program's terms lean on -/
structure Base (K : PySem.W.Frag) (mg : Str → Option Value) (G : Glb) (T : Tab) (C : Cv) : Prop where
  k : G.K = K
  inj : ∀ f g, G.fn f = G.fn g → f = g
  fld : ∀ c f, T.fld c f = true → Cls K (G.cl c) ∧ NoAttr K (G.cl c) (G.fn f)
  nms : ∀ x i, C.nms.lookup x = some i → G.fn i = x
  globs : ∀ x g, C.globs.lookup x = some g → ∃ d v u, T.glob g = some d ∧ mg x = some u ∧ RelV v u ∧ ∀ F io, Rep G F io d v
  blts : ∀ x, C.blts.contains x = true → mg x = none
section
variable {P : Program} {w : World} {K : PySem.W.Frag} {mg : Str → Option Value} {base : Heap} {G : Glb} {T : Tab} {C : Cv} {k : Nat}
theorem start_reps {N : List Str} {F : Hp} {io : List Addr} {ds : List Ag.D} {vs : List V} {H0 : Ent} {H : Hp} (r : Reps G F io ds vs) (hl : ds.length ≤ N.length) : Sl G H0 H F io (ds.map Slot.val ++ List.replicate (N.length - ds.length) .un) (L2.start N vs) := @Rq9 _ _ (fun qz => @Hq9.get _ _ (qz.bar : Hq9 _ (by
  clear qz
  have hd : ∀ (i : Nat) (s : Slot), (ds.map Slot.val ++ List.replicate (N.length - ds.length) Slot.un)[i]? = some s → s = .un ∨ ∃ d, ds[i]? = some d ∧ s = .val d := fun i s e => by
    by_cases q : i < (ds.map Slot.val).length
    · rw [List.getElem?_append_left q, List.getElem?_map] at e
      cases z : ds[i]? with
      | none => rw [z] at e; cases e
      | some d => rw [z] at e; cases e; exact .inr ⟨d, rfl, rfl⟩
    · rw [List.getElem?_append_right (Nat.le_of_not_lt q), List.getElem?_replicate] at e
      split at e <;> cases e
      exact .inl rfl
  refine ⟨?_, fun i s e => ?_, fun i j xs ys p e1 e2 _ _ => ?_⟩
  · unfold L2.start
    simp only [List.length_append, List.length_map, List.length_replicate]
    rw [r.length]
  · rcases hd i s e with rfl | ⟨d, e1, rfl⟩
    · trivial
    · obtain ⟨v, e2, rv⟩ := r.get e1
      refine ⟨v, ?_, rv⟩
      unfold L2.start
      have : i < (vs.map some).length := by rw [List.length_map]; exact (List.getElem?_eq_some_iff.mp e2).1
      rw [List.getElem?_append_left this, List.getElem?_map, e2]; rfl
  · rcases hd i _ e1 with z | ⟨d, _, z⟩ <;> cases z))) Xq9.mk
/-- THE RULE for a def -/
theorem def_ok {x qual : Str} {st : Stmt} {f : Addr} {fd : FuncData} {ps : List Str} {body : List Stm} {phi : Fn} {n : Nat} (B : Base K mg G T C) (FF : Fun K x qual st f fd) (S : FnScope C.N ps (defScope st))
    (hfn : ∀ x i, C.fns.lookup x = some i → Good P w K mg base G k x (T.phi i)) (hme : ∀ m, C.meths.contains m = true → ∀ c i, T.psi c m = some i → GoodM P w K mg base G k c m (T.phi i))
    (hfc : C.fnc = fun _ => true) (hc : cvSs C n (defScope st) (defBody st) = some body) (hN : ps.length ≤ C.N.length)
    (hphi : ∀ ds sto, phi ds sto ≠ .bad → ds.length = ps.length ∧ run T ⟨C.N.length, body⟩ ds sto = phi ds sto)
    (hxc : ∀ x c fs, C.xcs.lookup x = some (c, fs) → GoodX P w K mg base G k x c fs := by intro _ _ _ e; cases e) (hsu : ∀ c hc b, T.sub c hc = some b → PySem.W.exmOne K (.ref (G.cl c)) (.ref (G.cl hc)) = some b := by intro _ _ _ e; cases e) (hsr : ∀ x i, C.srt.lookup x = some i → GoodK P w K mg base G k x (T.phi i) := by intro _ _ e; cases e) : FnOk P w K mg base (L2.CX P w) (k + 1) f fd ps (spI G ps.length phi) := @Rq9 _ _ (fun qz => @Hq9.get _ _ (qz.bar : Hq9 _ (by
  clear qz
  refine FF.okX S (fun vs H Q Ex h => ?_) fun cdv A outer s H vs Q Ex hr h => ?_
  · obtain ⟨ds, sto, F, io, h1, h2, _⟩ := h
    rw [← h2.length]; exact h1
  · obtain ⟨ds, sto, F, io, h1, h2, h3, h4⟩ := h
    have hnb : phi ds sto ≠ .bad := fun z => by rw [z] at h4; exact h4
    obtain ⟨_, hrun⟩ := hphi ds sto hnb
    let E : En := ⟨cxOf (L2.CX P w) P w K mg base C.N qual (defScope st) f cdv A outer s H Ex, G, ⟨H, F⟩, io.length, T, fun cls d _ H' => Ex cls d H'⟩
    have ok : E.Ok := ⟨B.k, S.nd, rfl, by have := room5 hr; exact this, takes_of rfl rfl rfl rfl, B.inj, B.fld⟩
    have cx : CtxS C (defScope st) E := ⟨⟨ok, rfl, rfl, S.kind, fun x i e E' kn ok' => by
        obtain ⟨u, g1, g2, g3⟩ := hfn x i e
        have hA : E'.X.A = E.X.A := kn.A
        have := g3 E' kn.prog kn.w kn.K kn.mg kn.base kn.G ok' (by rw [hA]; exact hr)
        refine ⟨u, by rw [kn.mg]; exact g1, by rw [kn.K]; exact g2, by rw [kn.T]; exact this⟩, B.nms, fun m hm c i e E' kn ok' => by
        obtain ⟨g1, g, g2, g3⟩ := hme m hm c i e
        have hA : E'.X.A = E.X.A := kn.A
        have := g3 E' kn.prog kn.w kn.K kn.mg kn.base kn.G ok' (by rw [hA]; exact hr)
        exact ⟨by rw [kn.K, kn.G]; exact g1, g, by rw [kn.K, kn.G]; exact g2, by rw [kn.T]; exact this⟩, B.globs, B.blts, fun x h => rfl, fun x c fs e => by
        obtain ⟨g1, g2, g3, g4, g5⟩ := hxc x c fs e
        exact ⟨g1, g2, g3, g4, fun E' kn ok' => g5 E' kn.prog kn.w kn.K kn.mg kn.base kn.G ok' (by
          have hA : E'.X.A = E.X.A := kn.A
          rw [hA]; exact hr)⟩, hsu, fun x i e E' kn ok' => by
        obtain ⟨fa, g1, g2, g3⟩ := hsr x i e
        have hA : E'.X.A = E.X.A := kn.A
        have := g3 E' kn.prog kn.w kn.K kn.mg kn.base kn.G ok' (by rw [hA]; exact hr)
        exact ⟨fa, by rw [kn.mg]; exact g1, by rw [kn.K]; exact g2, by rw [kn.T]; exact this⟩⟩, passes_of rfl, rfl, rfl⟩
    refine ⟨_, pss_w, ?_⟩
    have hs := (cvS_sound C (defScope st) E cx n).2 _ _ hc
    have hlen : (L2.start C.N vs).length = C.N.length := by
      unfold L2.start
      simp only [List.length_append, List.length_map, List.length_replicate]
      have := h2.length
      omega
    refine hs ⟨ds.map Slot.val ++ List.replicate (C.N.length - ds.length) .un, sto⟩ (L2.start C.N vs) [] H F io _ hlen (by rw [List.append_nil]; exact ⟨h3, start_reps h2 (by omega)⟩) ?_
    have q : run T ⟨C.N.length, body⟩ ds sto = phi ds sto := hrun
    unfold run at q
    dsimp only at q
    cases z : exs T body ⟨ds.map Slot.val ++ List.replicate (C.N.length - ds.length) .un, sto⟩ with
    | next fr =>
      rw [z] at q
      rw [← q] at h4
      intro σ' H' F' io' _ s1 p1 w1
      exact h4 .non H' F' io' s1 p1 w1.wr .non
    | ret o fr =>
      rw [z] at q
      rw [← q] at h4
      intro v σ' H' F' io' _ s1 p1 w1 r1
      refine h4 v H' F' io' s1 p1 w1.wr ?_
      cases o with
      | val d => exact r1
      | fresh xs =>
        obtain ⟨p, e, own, _⟩ := r1
        exact ⟨p, e, own, fun i ys z => by simp at z⟩
    | exc c fs fr =>
      rw [z] at q
      rw [← q] at h4
      intro d σ' H' F' io' _ s1 p1 w1 x
      exact h4 d H' F' io' s1 p1 w1.wr x
    | brk fr => rw [z] at q; exact absurd q.symm hnb
    | cont fr => rw [z] at q; exact absurd q.symm hnb
    | bad => rw [z] at q; exact absurd q.symm hnb))) Xq9.mk
theorem def_good {x qual : Str} {st : Stmt} {f : Addr} {fd : FuncData} {ps : List Str} {phi : Fn} (FF : Fun K x qual st f fd) (hm : mg x = some (.ref f)) (hb : Binds K fd ps []) (h : FnOk P w K mg base (L2.CX P w) k f fd ps (spI G ps.length phi))
    (hn : ∀ ds sto, phi ds sto ≠ .bad → ds.length = ps.length) : Good P w K mg base G k x phi :=
  ⟨.ref f, hm, FF.kp, fun E e1 e2 e3 e4 e5 e6 ok hr => calls_of ok (by rw [e1, e2, e3, e4, e5, e6]; exact h) hr (by rw [e3]; exact hb) hn⟩
theorem def_goodK {x qual : Str} {st : Stmt} {f : Addr} {fd : FuncData} {ps : List Str} {phi : Fn} (FF : Fun K x qual st f fd) (hm : mg x = some (.ref f)) (hb : Binds K fd ps []) (hps : ps.length = 1) (h : FnOk P w K mg base (L2.CX P w) k f fd ps (spI G ps.length phi)) : GoodK P w K mg base G (k + 2) x phi :=
  ⟨f, hm, FF.kp, fun E e1 e2 e3 e4 e5 e6 ok hr => callsK_of (n := ps.length) (by rw [e1, e2, e3, e4, e5, e6]; exact h) hr (by rw [e3]; exact hb) hps hps ok.k⟩
theorem GoodK.mono {j : Nat} {x : Str} {phi : Fn} (h : GoodK P w K mg base G j x phi) (hj : j ≤ k) : GoodK P w K mg base G k x phi := @Rq9 _ _ (fun qz => @Hq9.get _ _ (qz.bar : Hq9 _ (by
  clear qz
  obtain ⟨u, h1, h2, h3⟩ := h
  exact ⟨u, h1, h2, fun E e1 e2 e3 e4 e5 e6 ok hr => h3 E e1 e2 e3 e4 e5 e6 ok (hr.mono hj)⟩))) Xq9.mk
theorem Good.mono {j : Nat} {x : Str} {phi : Fn} (h : Good P w K mg base G j x phi) (hj : j ≤ k) : Good P w K mg base G k x phi := @Rq9 _ _ (fun qz => @Hq9.get _ _ (qz.bar : Hq9 _ (by
  clear qz
  obtain ⟨u, h1, h2, h3⟩ := h
  exact ⟨u, h1, h2, fun E e1 e2 e3 e4 e5 e6 ok hr => h3 E e1 e2 e3 e4 e5 e6 ok (hr.mono hj)⟩))) Xq9.mk
end
end Ag
namespace Ag
open PySem L2
/-! ### evaluation, step by step -/
def Sm (x : Int) : Prop := x.natAbs < 2 ^ 1000
instance (x : Int) : Decidable (Sm x) := inferInstanceAs (Decidable (_ < _))
theorem log2_lt {n k : Nat} (h0 : 0 < k) (h : n < 2 ^ k) : n.log2 < k := PySem.Flt.log2_lt_of h0 h
theorem sm_mul {a b : Int} (ha : Sm a) (hb : Sm b) : mulOk a b = true := @Rq9 _ _ (fun qz => @Hq9.get _ _ (qz.bar : Hq9 _ (by
  clear qz
  unfold mulOk
  have h1 := log2_lt (by decide) ha
  have h2 := log2_lt (by decide) hb
  exact decide_eq_true (by omega)))) Xq9.mk
theorem sm_div {b : Int} (h : 0 < b) (hb : Sm b) : divOk b = true := @Rq9 _ _ (fun qz => @Hq9.get _ _ (qz.bar : Hq9 _ (by
  clear qz
  unfold divOk
  have h2 := log2_lt (by decide) hb
  rw [decide_eq_true h, decide_eq_true (show b.natAbs.log2 < 9000 by omega)]; rfl))) Xq9.mk
end Ag
namespace Ag
open PySem L2
/-! ### what holds behind an evaluation -/
abbrev PXt := Nat → List D → Fr → Prop
def A (T : Tab) (t : Tm) (fr : Fr) (P : RV → Fr → Prop) (PX : PXt) : Prop := (ev T t fr).all P PX
def AD (T : Tab) (t : Tm) (fr : Fr) (P : D → Fr → Prop) (PX : PXt) : Prop := ((ev T t fr).fr fun d fr' => Rs.ok d fr').all P PX
def AS (T : Tab) (ts : List Tm) (fr : Fr) (P : List D → Fr → Prop) (PX : PXt) : Prop := (evs T ts fr).all P PX
def AP (T : Tab) (ts : List Tm) (fr : Fr) (P : List RV → Fr → Prop) (PX : PXt) : Prop := (evp T ts fr).all P PX
def AO (T : Tab) (t : Option Tm) (fr : Fr) (P : Option Int → Fr → Prop) (PX : PXt) : Prop := (evo T t fr).all P PX
def AI (T : Tab) (it : Iter) (fr : Fr) (P : List D → Fr → Prop) (PX : PXt) : Prop := (evi T it fr).all P PX
def AK (T : Tab) (ks : List (Key × Tm)) (fr : Fr) (P : List (Key × D) → Fr → Prop) (PX : PXt) : Prop := (evk T ks fr).all P PX
def X (T : Tab) (s : Stm) (fr : Fr) (K : SxP) : Prop := (ex T s fr).all K
def XS (T : Tab) (ss : List Stm) (fr : Fr) (K : SxP) : Prop := (exs T ss fr).all K
theorem all_bind {α β : Type} {m : Rs α} {k : α → Fr → Rs β} {P : β → Fr → Prop} {PX : PXt} (h : m.all (fun a fr => (k a fr).all P PX) PX) : (m.bind k).all P PX := by
  cases m <;> exact h
theorem all_fr {α : Type} {m : Rs RV} {k : D → Fr → Rs α} {P : α → Fr → Prop} {PX : PXt} (h : (m.fr fun d fr => Rs.ok d fr).all (fun d fr => (k d fr).all P PX) PX) : (m.fr k).all P PX := @Rq9 _ _ (fun qz => @Hq9.get _ _ (qz.bar : Hq9 _ (by
  clear qz
  cases m with
  | ok r fr =>
    show (match toD fr r with | some (d, fr') => k d fr' | none => .bad).all P PX
    have h : (match toD fr r with | some (d, fr') => Rs.ok d fr' | none => .bad).all _ PX := h
    cases q : toD fr r with
    | none => rw [q] at h; exact h.elim
    | some p => rw [q] at h; exact h
  | exc c fs fr => exact h
  | bad => exact h))) Xq9.mk
theorem all_toS {α : Type} {m : Rs α} {k : α → Fr → Sx} {K : SxP} (h : m.all (fun a fr => (k a fr).all K) K.exc) : (m.toS k).all K := by
  cases m <;> exact h
theorem all_frS {m : Rs RV} {k : D → Fr → Sx} {K : SxP} (h : (m.fr fun d fr => Rs.ok d fr).all (fun d fr => (k d fr).all K) K.exc) : (m.frS k).all K := @Rq9 _ _ (fun qz => @Hq9.get _ _ (qz.bar : Hq9 _ (by
  clear qz
  cases m with
  | ok r fr =>
    show (match toD fr r with | some (d, fr') => k d fr' | none => .bad).all K
    have h : (match toD fr r with | some (d, fr') => Rs.ok d fr' | none => .bad).all _ K.exc := h
    cases q : toD fr r with
    | none => rw [q] at h; exact h.elim
    | some p => rw [q] at h; exact h
  | exc c fs fr => exact h
  | bad => exact h))) Xq9.mk
/-- within a loop: n behind each turn, K behind the loop -/
def SxP.loop (K : SxP) (n : Fr → Prop) : SxP := { next := n, cont := n, brk := K.next, ret := K.ret, exc := K.exc }
def SxP.thn (K : SxP) (n : Fr → Prop) : SxP := { K with next := n }
theorem all_seq {r : Sx} {k : Fr → Sx} {K : SxP} (h : r.all (K.thn fun fr => (k fr).all K)) : (r.seq k).all K := by
  cases r <;> exact h
section
variable {T : Tab} {fr : Fr} {env : List Slot} {sto : List Cell} {P : RV → Fr → Prop} {PD : D → Fr → Prop} {PX : PXt} {K : SxP} {a b c : Tm} {i : Nat} {d : D} {xs : List D}
theorem AD_of (h : A T a fr (fun r fr1 => ∃ d fr2, toD fr1 r = some (d, fr2) ∧ PD d fr2) PX) : AD T a fr PD PX := @Rq9 _ _ (fun qz => @Hq9.get _ _ (qz.bar : Hq9 _ (by
  clear qz
  unfold A at h
  unfold AD
  cases q : ev T a fr with
  | ok r fr1 =>
    rw [q] at h
    obtain ⟨d, fr2, e, h⟩ := h
    show (match toD fr1 r with | some (d, fr') => Rs.ok d fr' | none => .bad).all PD PX
    rw [e]; exact h
  | exc c fs fr1 => rw [q] at h; exact h
  | bad => rw [q] at h; exact h))) Xq9.mk
theorem A_slot (e : fr.env[i]? = some (.val d)) (h : P (.out (.val d)) fr) : A T (.slot i) fr P PX := by
  unfold A ev; rw [e]; exact h
theorem A_own (e : fr.env[i]? = some (.own xs)) (h : P (.var i) fr) : A T (.slot i) fr P PX := by
  unfold A ev; rw [e]; exact h
theorem A_non (h : P (.out (.val .non)) fr) : A T .non fr P PX := h
theorem A_bl {k : Bool} (h : P (.out (.val (.bl k))) fr) : A T (.bl k) fr P PX := h
theorem A_int {k : Int} (h : P (.out (.val (.int k))) fr) : A T (.int k) fr P PX := h
theorem A_str {k : Str} (h : P (.out (.val (.str k))) fr) : A T (.str k) fr P PX := h
theorem A_bin {op : Op2} (h : A T a fr (fun x fr1 => A T b fr1 (fun y fr2 => ∃ d e o, look fr2.env (hold x) = some d ∧ look fr2.env (hold y) = some e ∧ opD op d e = some o ∧ P (.out o) fr2) PX) PX) : A T (.bin op a b) fr P PX := @Rq9 _ _ (fun qz => @Hq9.get _ _ (qz.bar : Hq9 _ (by
  clear qz
  unfold A ev
  refine all_bind (Rs.all_imp h (fun x fr1 h => all_bind (Rs.all_imp h (fun y fr2 h => ?_) fun _ _ _ z => z)) fun _ _ _ z => z)
  obtain ⟨d, e, o, h1, h2, h3, h4⟩ := h
  rw [h1, h2]
  show (match opD op d e with | some o => Rs.ok (RV.out o) fr2 | none => .bad).all P PX
  rw [h3]; exact h4))) Xq9.mk
theorem A_cmp {op : Cm} (h : A T a fr (fun x fr1 => A T b fr1 (fun y fr2 => ∃ d e k, look fr2.env (hold x) = some d ∧ look fr2.env (hold y) = some e ∧ cmpD op d e = some k ∧ P (.out (.val (.bl k))) fr2) PX) PX) : A T (.cmp op a b) fr P PX := @Rq9 _ _ (fun qz => @Hq9.get _ _ (qz.bar : Hq9 _ (by
  clear qz
  unfold A ev
  refine all_bind (Rs.all_imp h (fun x fr1 h => all_bind (Rs.all_imp h (fun y fr2 h => ?_) fun _ _ _ z => z)) fun _ _ _ z => z)
  obtain ⟨d, e, o, h1, h2, h3, h4⟩ := h
  rw [h1, h2]
  show (match cmpD op d e with | some o => Rs.ok (RV.out (.val (.bl o))) fr2 | none => .bad).all P PX
  rw [h3]; exact h4))) Xq9.mk
theorem A_neg (h : AD T a fr (fun d fr1 => ∃ n, d = .int n ∧ P (.out (.val (.int (-n)))) fr1) PX) : A T (.neg a) fr P PX := @Rq9 _ _ (fun qz => @Hq9.get _ _ (qz.bar : Hq9 _ (by
  clear qz
  unfold A ev
  refine all_fr (Rs.all_imp h (fun d fr1 h => ?_) fun _ _ _ z => z)
  obtain ⟨n, rfl, h⟩ := h
  exact h))) Xq9.mk
theorem A_not (h : AD T a fr (fun d fr1 => ∃ k, d = .bl k ∧ P (.out (.val (.bl (!k)))) fr1) PX) : A T (.not_ a) fr P PX := @Rq9 _ _ (fun qz => @Hq9.get _ _ (qz.bar : Hq9 _ (by
  clear qz
  unfold A ev
  refine all_fr (Rs.all_imp h (fun d fr1 h => ?_) fun _ _ _ z => z)
  obtain ⟨n, rfl, h⟩ := h
  exact h))) Xq9.mk
theorem A_and (h : AD T a fr (fun d fr1 => ∃ k, d = .bl k ∧ (k = true → A T b fr1 P PX) ∧ (k = false → P (.out (.val (.bl false))) fr1)) PX) : A T (.and_ a b) fr P PX := @Rq9 _ _ (fun qz => @Hq9.get _ _ (qz.bar : Hq9 _ (by
  clear qz
  unfold A ev
  refine all_fr (Rs.all_imp h (fun d fr1 h => ?_) fun _ _ _ z => z)
  obtain ⟨n, rfl, h1, h2⟩ := h
  cases n with
  | true => exact h1 rfl
  | false => exact h2 rfl))) Xq9.mk
theorem A_or (h : AD T a fr (fun d fr1 => ∃ k, d = .bl k ∧ (k = false → A T b fr1 P PX) ∧ (k = true → P (.out (.val (.bl true))) fr1)) PX) : A T (.or_ a b) fr P PX := @Rq9 _ _ (fun qz => @Hq9.get _ _ (qz.bar : Hq9 _ (by
  clear qz
  unfold A ev
  refine all_fr (Rs.all_imp h (fun d fr1 h => ?_) fun _ _ _ z => z)
  obtain ⟨n, rfl, h1, h2⟩ := h
  cases n with
  | true => exact h2 rfl
  | false => exact h1 rfl))) Xq9.mk
theorem A_ite (h : AD T c fr (fun d fr1 => ∃ k, d = .bl k ∧ (k = true → A T a fr1 P PX) ∧ (k = false → A T b fr1 P PX)) PX) : A T (.ite c a b) fr P PX := @Rq9 _ _ (fun qz => @Hq9.get _ _ (qz.bar : Hq9 _ (by
  clear qz
  unfold A ev
  refine all_fr (Rs.all_imp h (fun d fr1 h => ?_) fun _ _ _ z => z)
  obtain ⟨n, rfl, h1, h2⟩ := h
  cases n with
  | true => exact h1 rfl
  | false => exact h2 rfl))) Xq9.mk
theorem AS_nil {P : List D → Fr → Prop} (h : P [] fr) : AS T [] fr P PX := h
theorem AS_cons {ts : List Tm} {P : List D → Fr → Prop} (h : AD T a fr (fun d fr1 => AS T ts fr1 (fun ds fr2 => P (d :: ds) fr2) PX) PX) : AS T (a :: ts) fr P PX := @Rq9 _ _ (fun qz => @Hq9.get _ _ (qz.bar : Hq9 _ (by
  clear qz
  unfold AS evs
  exact all_fr (Rs.all_imp h (fun d fr1 h => all_bind (Rs.all_imp h (fun ds fr2 h => h) fun _ _ _ z => z)) fun _ _ _ z => z)))) Xq9.mk
theorem AP_nil {P : List RV → Fr → Prop} (h : P [] fr) : AP T [] fr P PX := h
theorem AP_cons {ts : List Tm} {P : List RV → Fr → Prop} (h : A T a fr (fun r fr1 => AP T ts fr1 (fun rs fr2 => P (hold r :: rs) fr2) PX) PX) : AP T (a :: ts) fr P PX := @Rq9 _ _ (fun qz => @Hq9.get _ _ (qz.bar : Hq9 _ (by
  clear qz
  unfold AP evp
  exact all_bind (Rs.all_imp h (fun d fr1 h => all_bind (Rs.all_imp h (fun ds fr2 h => h) fun _ _ _ z => z)) fun _ _ _ z => z)))) Xq9.mk
theorem AK_nil {P : List (Key × D) → Fr → Prop} (h : P [] fr) : AK T [] fr P PX := h
theorem AK_cons {k : Key} {ts : List (Key × Tm)} {P : List (Key × D) → Fr → Prop} (h : AD T a fr (fun d fr1 => AK T ts fr1 (fun ds fr2 => P ((k, d) :: ds) fr2) PX) PX) : AK T ((k, a) :: ts) fr P PX := @Rq9 _ _ (fun qz => @Hq9.get _ _ (qz.bar : Hq9 _ (by
  clear qz
  unfold AK evk
  exact all_fr (Rs.all_imp h (fun d fr1 h => all_bind (Rs.all_imp h (fun ds fr2 h => h) fun _ _ _ z => z)) fun _ _ _ z => z)))) Xq9.mk
theorem A_tup {ts : List Tm} (h : AS T ts fr (fun ds fr1 => ds.length ≤ sizeLine ∧ P (.out (.val (.tup ds))) fr1) PX) : A T (.tup ts) fr P PX := @Rq9 _ _ (fun qz => @Hq9.get _ _ (qz.bar : Hq9 _ (by
  clear qz
  unfold A ev
  refine all_bind (Rs.all_imp h (fun ds fr1 h => ?_) fun _ _ _ z => z)
  rw [if_pos h.1]; exact h.2))) Xq9.mk
theorem A_lst {ts : List Tm} (h : AS T ts fr (fun ds fr1 => ds.length ≤ sizeLine ∧ P (.out (.fresh ds)) fr1) PX) : A T (.lst ts) fr P PX := @Rq9 _ _ (fun qz => @Hq9.get _ _ (qz.bar : Hq9 _ (by
  clear qz
  unfold A ev
  refine all_bind (Rs.all_imp h (fun ds fr1 h => ?_) fun _ _ _ z => z)
  rw [if_pos h.1]; exact h.2))) Xq9.mk
theorem A_dict {ks : List (Key × Tm)} (h : AK T ks fr (fun ds fr1 => ds.length ≤ 15 ∧ P (.out (.val (.cell fr1.sto.length))) { fr1 with sto := fr1.sto ++ [.dict (kmerge [] ds)] }) PX) : A T (.dict ks) fr P PX := @Rq9 _ _ (fun qz => @Hq9.get _ _ (qz.bar : Hq9 _ (by
  clear qz
  unfold A ev
  refine all_bind (Rs.all_imp h (fun ds fr1 h => ?_) fun _ _ _ z => z)
  rw [if_pos h.1]; exact h.2))) Xq9.mk
theorem A_bi {k : Bi} {ts : List Tm} (h : AP T ts fr (fun rs fr1 => ∃ ds o, looks fr1.env rs = some ds ∧ biD k ds = some o ∧ P (.out o) fr1) PX) : A T (.bi k ts) fr P PX := @Rq9 _ _ (fun qz => @Hq9.get _ _ (qz.bar : Hq9 _ (by
  clear qz
  unfold A ev
  refine all_bind (Rs.all_imp h (fun rs fr1 h => ?_) fun _ _ _ z => z)
  obtain ⟨ds, o, h1, h2, h3⟩ := h
  rw [h1]
  show (match biD k ds with | some o => Rs.ok (RV.out o) fr1 | none => .bad).all P PX
  rw [h2]; exact h3))) Xq9.mk
theorem A_call {f : Nat} {ts : List Tm} (h : AS T ts fr (fun ds fr1 => (T.phi f ds fr1.sto).all (fun o s => P (.out o) { fr1 with sto := s }) (fun c fs s => PX c fs { fr1 with sto := s })) PX) : A T (.call f ts) fr P PX := @Rq9 _ _ (fun qz => @Hq9.get _ _ (qz.bar : Hq9 _ (by
  clear qz
  unfold A ev
  refine all_bind (Rs.all_imp h (fun ds fr1 h => ?_) fun _ _ _ z => z)
  cases q : T.phi f ds fr1.sto with
  | ret o s => rw [q] at h; exact h
  | exc c fs s => rw [q] at h; exact h
  | bad => rw [q] at h; exact h))) Xq9.mk
theorem A_attr {f : Nat} (h : AD T a fr (fun d fr1 => ∃ c fs v, insD fr1.sto d = some (c, fs) ∧ T.fld c f = true ∧ fget fs f = some v ∧ P (.out (.val v)) fr1) PX) : A T (.attr a f) fr P PX := @Rq9 _ _ (fun qz => @Hq9.get _ _ (qz.bar : Hq9 _ (by
  clear qz
  unfold A ev
  refine all_fr (Rs.all_imp h (fun d fr1 h => ?_) fun _ _ _ z => z)
  obtain ⟨c, fs, v, h1, h2, h3, h4⟩ := h
  rw [h1]
  show (if T.fld c f = true then (match fget fs f with | some v => Rs.ok (RV.out (.val v)) fr1 | none => .bad) else .bad : Rs RV).all P PX
  rw [if_pos h2, h3]; exact h4))) Xq9.mk
theorem A_ix (h : A T a fr (fun x fr1 => AD T b fr1 (fun k fr2 => ∃ d v, look fr2.env (hold x) = some d ∧ ixD fr2.sto d k = some v ∧ P (.out (.val v)) fr2) PX) PX) : A T (.ix a b) fr P PX := @Rq9 _ _ (fun qz => @Hq9.get _ _ (qz.bar : Hq9 _ (by
  clear qz
  unfold A ev
  refine all_bind (Rs.all_imp h (fun x fr1 h => all_fr (Rs.all_imp h (fun k fr2 h => ?_) fun _ _ _ z => z)) fun _ _ _ z => z)
  obtain ⟨d, v, h1, h2, h3⟩ := h
  rw [h1]
  show (match ixD fr2.sto d k with | some v => Rs.ok (RV.out (.val v)) fr2 | none => .bad).all P PX
  rw [h2]; exact h3))) Xq9.mk
theorem AO_none {P : Option Int → Fr → Prop} (h : P none fr) : AO T none fr P PX := h
theorem AO_some {P : Option Int → Fr → Prop} (h : AD T a fr (fun d fr1 => ∃ n, d = .int n ∧ P (some n) fr1) PX) : AO T (some a) fr P PX := @Rq9 _ _ (fun qz => @Hq9.get _ _ (qz.bar : Hq9 _ (by
  clear qz
  unfold AO evo
  refine all_fr (Rs.all_imp h (fun d fr1 h => ?_) fun _ _ _ z => z)
  obtain ⟨n, rfl, h⟩ := h
  exact h))) Xq9.mk
theorem A_slice {lo hi : Option Tm} (h : A T a fr (fun x fr1 => AO T lo fr1 (fun l fr2 => AO T hi fr2 (fun u fr3 => ∃ d, look fr3.env (hold x) = some d ∧
    ((∃ xs, d = .lst xs ∧ P (.out (.fresh (cutL xs l u))) fr3) ∨ (∃ xs, d = .rol xs ∧ P (.out (.fresh (cutL xs l u))) fr3) ∨ (∃ xs, d = .tup xs ∧ P (.out (.val (.tup (cutL xs l u)))) fr3))) PX) PX) PX) : A T (.slice a lo hi) fr P PX := @Rq9 _ _ (fun qz => @Hq9.get _ _ (qz.bar : Hq9 _ (by
  clear qz
  unfold A ev
  refine all_bind (Rs.all_imp h (fun x fr1 h => all_bind (Rs.all_imp h (fun l fr2 h => all_bind (Rs.all_imp h (fun u fr3 h => ?_) fun _ _ _ z => z)) fun _ _ _ z => z)) fun _ _ _ z => z)
  obtain ⟨d, h1, h⟩ := h
  rw [h1]
  rcases h with ⟨xs, rfl, h⟩ | ⟨xs, rfl, h⟩ | ⟨xs, rfl, h⟩ <;> exact h))) Xq9.mk
theorem A_pop {d : D} (e : fr.env[i]? = some (.own xs)) (e2 : xs.getLast? = some d) (h : P (.out (.val d)) { fr with env := fr.env.set i (.own xs.dropLast) }) : A T (.pop i) fr P PX := by
  unfold A ev; rw [e]; dsimp only; rw [e2]; exact h
/-! iterators -/
theorem AI_seq {P : List D → Fr → Prop} (h : AD T a fr (fun d fr1 => ∃ xs, seqOf d = some xs ∧ P xs fr1) PX) : AI T (.seq a) fr P PX := @Rq9 _ _ (fun qz => @Hq9.get _ _ (qz.bar : Hq9 _ (by
  clear qz
  unfold AI evi
  refine all_fr (Rs.all_imp h (fun d fr1 h => ?_) fun _ _ _ z => z)
  obtain ⟨xs, e, h⟩ := h
  rw [e]; exact h))) Xq9.mk
theorem AI_range1 {P : List D → Fr → Prop} (h : AD T a fr (fun d fr1 => ∃ n, d = .int n ∧ (n < 2 ^ 62 ∧ -(2 ^ 62) < n) ∧ P (rangeD 0 n.toNat) fr1) PX) : AI T (.range1 a) fr P PX := @Rq9 _ _ (fun qz => @Hq9.get _ _ (qz.bar : Hq9 _ (by
  clear qz
  unfold AI evi
  refine all_fr (Rs.all_imp h (fun d fr1 h => ?_) fun _ _ _ z => z)
  obtain ⟨n, rfl, h1, h⟩ := h
  dsimp only; rw [if_pos h1]; exact h))) Xq9.mk
theorem AI_range2 {P : List D → Fr → Prop} (h : AD T a fr (fun d fr1 => AD T b fr1 (fun e fr2 => ∃ lo hi, d = .int lo ∧ e = .int hi ∧ (-(2 ^ 62) < lo ∧ lo < 2 ^ 62 ∧ -(2 ^ 62) < hi ∧ hi < 2 ^ 62) ∧ P (rangeD lo (hi - lo).toNat) fr2) PX) PX) : AI T (.range2 a b) fr P PX := @Rq9 _ _ (fun qz => @Hq9.get _ _ (qz.bar : Hq9 _ (by
  clear qz
  unfold AI evi
  refine all_fr (Rs.all_imp h (fun d fr1 h => all_fr (Rs.all_imp h (fun e fr2 h => ?_) fun _ _ _ z => z)) fun _ _ _ z => z)
  obtain ⟨lo, hi, rfl, rfl, h1, h⟩ := h
  dsimp only; rw [if_pos h1]; exact h))) Xq9.mk
/-! statements -/
theorem XS_nil (h : K.next fr) : XS T [] fr K := h
theorem XS_cons {s : Stm} {ss : List Stm} (h : X T s fr (K.thn fun fr1 => XS T ss fr1 K)) : XS T (s :: ss) fr K := @Rq9 _ _ (fun qz => @Hq9.get _ _ (qz.bar : Hq9 _ (by
  clear qz
  unfold XS exs
  exact all_seq h))) Xq9.mk
theorem N_thn {n : Fr → Prop} (h : n fr) : (K.thn n).next fr := h
theorem R_thn {n : Fr → Prop} {o : Out} (h : K.ret o fr) : (K.thn n).ret o fr := h
theorem X_asg {tg : Tg} (h : A T a fr (fun r fr1 => (asgR tg r fr1).all K) K.exc) : X T (.asg tg a) fr K := @Rq9 _ _ (fun qz => @Hq9.get _ _ (qz.bar : Hq9 _ (by
  clear qz
  unfold X ex
  exact all_toS h))) Xq9.mk
theorem X_setk {o k v : Tm} (hq : ownSlot o fr.env = none) (h : AD T v fr (fun dv fr1 => AD T o fr1 (fun d fr2 => AD T k fr2 (fun dk fr3 => ∃ n kk kvs, d = .cell n ∧ keyOf dk = some kk ∧ fr3.sto[n]? = some (.dict kvs) ∧ kvs.length < 1000 ∧
    K.next { fr3 with sto := fr3.sto.set n (.dict (kput kvs kk dv)) }) K.exc) K.exc) K.exc) : X T (.setk o k v) fr K := @Rq9 _ _ (fun qz => @Hq9.get _ _ (qz.bar : Hq9 _ (by
  clear qz
  unfold X ex
  rw [hq]
  refine all_frS (Rs.all_imp h (fun dv fr1 h => all_frS (Rs.all_imp h (fun d fr2 h => all_frS (Rs.all_imp h (fun dk fr3 h => ?_) fun _ _ _ z => z)) fun _ _ _ z => z)) fun _ _ _ z => z)
  obtain ⟨n, kk, kvs, rfl, h1, h2, h3, h4⟩ := h
  rw [h1]
  dsimp only
  rw [h2]
  dsimp only
  rw [if_pos h3]; exact h4))) Xq9.mk
theorem X_append (e : fr.env[i]? = some (.own xs)) (h : AD T a fr (fun d fr1 => ∃ ys, fr1.env[i]? = some (.own ys) ∧ ys.length < sizeLine ∧ K.next (setE fr1 i (.own (ys ++ [d])))) K.exc) : X T (.append i a) fr K := @Rq9 _ _ (fun qz => @Hq9.get _ _ (qz.bar : Hq9 _ (by
  clear qz
  unfold X ex
  rw [e]
  refine all_frS (Rs.all_imp h (fun d fr1 h => ?_) fun _ _ _ z => z)
  obtain ⟨ys, h1, h2, h⟩ := h
  rw [h1]
  dsimp only
  rw [if_pos h2]; exact h))) Xq9.mk
theorem X_ite {A' B' : List Stm} (h : AD T c fr (fun d fr1 => ∃ k, d = .bl k ∧ (k = true → XS T A' fr1 K) ∧ (k = false → XS T B' fr1 K)) K.exc) : X T (.ite c A' B') fr K := @Rq9 _ _ (fun qz => @Hq9.get _ _ (qz.bar : Hq9 _ (by
  clear qz
  unfold X ex
  refine all_frS (Rs.all_imp h (fun d fr1 h => ?_) fun _ _ _ z => z)
  obtain ⟨n, rfl, h1, h2⟩ := h
  cases n with
  | true => exact h1 rfl
  | false => exact h2 rfl))) Xq9.mk
theorem X_ret (h : A T a fr (fun r fr1 => match r with
    | .out o => K.ret o fr1
    | .var i => ∃ xs, fr1.env[i]? = some (.own xs) ∧ K.ret (.fresh xs) (setE fr1 i .un)) K.exc) : X T (.ret a) fr K := @Rq9 _ _ (fun qz => @Hq9.get _ _ (qz.bar : Hq9 _ (by
  clear qz
  unfold X ex
  refine all_toS (Rs.all_imp h (fun r fr1 h => ?_) fun _ _ _ z => z)
  cases r with
  | out o => exact h
  | var i =>
    obtain ⟨xs, e, h⟩ := h
    dsimp only; rw [e]; exact h))) Xq9.mk
theorem X_for {tg : Tg} {it : Iter} {B : List Stm} (h : AI T it fr (fun xs fr1 => (forGo (bindT tg) (fun fr2 => exs T B fr2) xs fr1).all K) K.exc) : X T (.for_ tg it B) fr K := @Rq9 _ _ (fun qz => @Hq9.get _ _ (qz.bar : Hq9 _ (by
  clear qz
  unfold X ex
  exact all_toS h))) Xq9.mk
theorem X_par {is : List Nat} {ts : List Tm} (h : (cutX fr.env.length (parGo T fr.env.length ts fr)).all (fun rs fr1 => ∃ fr2, parSet fr.env.length is rs fr1 = some fr2 ∧ K.next (cutE fr.env.length fr2)) K.exc) : X T (.par is ts) fr K := @Rq9 _ _ (fun qz => @Hq9.get _ _ (qz.bar : Hq9 _ (by
  clear qz
  unfold X ex
  refine all_toS (Rs.all_imp h (fun r fr1 h => ?_) fun _ _ _ z => z)
  obtain ⟨fr2, e, h⟩ := h
  rw [e]; exact h))) Xq9.mk
/-- a for by what holds ahead of each turn -/
theorem for_inv {tg : D → Fr → Option Fr} {B : Fr → Sx} {xs : List D} (I : Nat → Fr → Prop) (h0 : I 0 fr)
    (hs : ∀ i x fr, xs[i]? = some x → I i fr → ∃ fr1, tg x fr = some fr1 ∧ (B fr1).all (K.loop (I (i + 1))))
    (hd : ∀ fr, I xs.length fr → K.next fr) : (forGo tg B xs fr).all K := @Rq9 _ _ (fun qz => @Hq9.get _ _ (qz.bar : Hq9 _ (by
  clear qz
  have key : ∀ (n i : Nat) (fr : Fr), n = xs.length - i → i ≤ xs.length → I i fr → (forGo tg B (xs.drop i) fr).all K := by
    intro n
    induction n with
    | zero =>
      intro i fr hn hi h
      have : i = xs.length := by omega
      subst this
      rw [List.drop_length]
      exact hd fr h
    | succ n ih =>
      intro i fr hn hi h
      have hlt : i < xs.length := by omega
      rw [List.drop_eq_getElem_cons hlt]
      obtain ⟨fr1, e, hb⟩ := hs i xs[i] fr (List.getElem?_eq_getElem hlt) h
      unfold forGo
      rw [e]
      dsimp only
      cases q : B fr1 with
      | next fr2 => rw [q] at hb; exact ih (i + 1) fr2 (by omega) (by omega) hb
      | cont fr2 => rw [q] at hb; exact ih (i + 1) fr2 (by omega) (by omega) hb
      | brk fr2 => rw [q] at hb; exact hb
      | ret o fr2 => rw [q] at hb; exact hb
      | exc c fs fr2 => rw [q] at hb; exact hb
      | bad => rw [q] at hb; exact hb
  have := key xs.length 0 fr rfl (Nat.zero_le _) h0
  simpa using this))) Xq9.mk
/-- the rule for a for -/
theorem X_forI {tg : Tg} {it : Iter} {B : List Stm} (h : AI T it fr (fun xs fr1 => ∃ I : Nat → Fr → Prop, I 0 fr1 ∧
    (∀ i x fr, xs[i]? = some x → I i fr → ∃ fr2, bindT tg x fr = some fr2 ∧ XS T B fr2 (K.loop (I (i + 1)))) ∧ ∀ fr, I xs.length fr → K.next fr) K.exc) : X T (.for_ tg it B) fr K :=
  X_for (Rs.all_imp h (fun xs fr1 ⟨I, h0, hs, hd⟩ => for_inv I h0 hs hd) fun _ _ _ z => z)
end
/-- a def: how many parameters, how many slots, its body; the numbers of its slots at the start -/
@[irreducible] noncomputable def fx (T : Tab) (np n : Nat) (body : List Stm) : Fn := fun ds sto => if ds.length = np then run T ⟨n, body⟩ ds sto else .bad
theorem fx_len {T : Tab} {np n : Nat} {body : List Stm} {ds : List D} {sto : List Cell} (h : fx T np n body ds sto ≠ .bad) : ds.length = np ∧ run T ⟨n, body⟩ ds sto = fx T np n body ds sto := @Rq9 _ _ (fun qz => @Hq9.get _ _ (qz.bar : Hq9 _ (by
  clear qz
  unfold fx at h ⊢
  by_cases q : ds.length = np
  · exact ⟨q, by rw [if_pos q]⟩
  · rw [if_neg q] at h; exact absurd rfl h))) Xq9.mk
def fxK (P : Out → List Cell → Prop) (PX : Nat → List D → List Cell → Prop) : SxP where
  next := fun fr => P (.val .non) fr.sto
  ret := fun o fr => P o fr.sto
  brk := fun _ => False
  cont := fun _ => False
  exc := fun c fs fr => PX c fs fr.sto
theorem R_fx {P : Out → List Cell → Prop} {PX : Nat → List D → List Cell → Prop} {o : Out} {fr : Fr} (h : P o fr.sto) : (fxK P PX).ret o fr := h
theorem N_fx {P : Out → List Cell → Prop} {PX : Nat → List D → List Cell → Prop} {fr : Fr} (h : P (.val .non) fr.sto) : (fxK P PX).next fr := h
/-- a def's run, its slots as they stand at the start -/
theorem fx_all {T : Tab} {np n : Nat} {body : List Stm} {ds : List D} {sto : List Cell} {env : List Slot} {P : Out → List Cell → Prop} {PX : Nat → List D → List Cell → Prop} (hl : ds.length = np) (he : ds.map Slot.val ++ List.replicate (n - ds.length) .un = env)
    (h : XS T body ⟨env, sto⟩ (fxK P PX)) : (fx T np n body ds sto).all P PX := @Rq9 _ _ (fun qz => @Hq9.get _ _ (qz.bar : Hq9 _ (by
  clear qz
  unfold fx
  rw [if_pos hl]
  unfold run
  dsimp only
  rw [he]
  unfold XS at h
  cases q : exs T body ⟨env, sto⟩ <;> (rw [q] at h; exact h)))) Xq9.mk
theorem fx_eq {r : Fx} {o : Out} {s : List Cell} (h : r.all (fun o' s' => o' = o ∧ s' = s) (fun _ _ _ => False)) : r = .ret o s := @Rq9 _ _ (fun qz => @Hq9.get _ _ (qz.bar : Hq9 _ (by
  clear qz
  cases r with
  | ret o' s' => obtain ⟨rfl, rfl⟩ := h; rfl
  | exc c fs s' => exact h.elim
  | bad => exact h.elim))) Xq9.mk
theorem all_of_eq {r : Fx} {o : Out} {s : List Cell} {P : Out → List Cell → Prop} {PX : Nat → List D → List Cell → Prop} (e : r = .ret o s) (h : P o s) : r.all P PX := by rw [e]; exact h
theorem fx_imp {r : Fx} {P P' : Out → List Cell → Prop} {PX PX' : Nat → List D → List Cell → Prop} (h : r.all P PX) (h1 : ∀ o s, P o s → P' o s) (h2 : ∀ c fs s, PX c fs s → PX' c fs s) : r.all P' PX' := @Rq9 _ _ (fun qz => @Hq9.get _ _ (qz.bar : Hq9 _ (by
  clear qz
  cases r with
  | ret o s => exact h1 _ _ h
  | exc c fs s => exact h2 _ _ _ h
  | bad => exact h))) Xq9.mk
end Ag
namespace Ag
open PySem L2
/-! ### values that are no new list -/
def AV (T : Tab) (t : Tm) (fr : Fr) (P : D → Fr → Prop) (PX : PXt) : Prop := A T t fr (fun r fr1 => ∃ d, r = .out (.val d) ∧ P d fr1) PX
section
variable {T : Tab} {fr : Fr} {env : List Slot} {sto : List Cell} {P : RV → Fr → Prop} {PD : D → Fr → Prop} {PX : PXt} {K : SxP} {a b c : Tm} {i : Nat} {d : D} {xs : List D}
theorem A_imp {P P' : RV → Fr → Prop} (h : A T a fr P PX) (h1 : ∀ r fr, P r fr → P' r fr) : A T a fr P' PX := Rs.all_imp h (fun r fr h => h1 r fr h) fun _ _ _ z => z
theorem A_V (h : AV T a fr (fun d fr1 => P (.out (.val d)) fr1) PX) : A T a fr P PX := A_imp h fun r fr1 z => by
  obtain ⟨d, rfl, z⟩ := z; exact z
theorem AD_V (h : AV T a fr PD PX) : AD T a fr PD PX := AD_of (A_imp h fun r fr1 z => by
  obtain ⟨d, rfl, z⟩ := z; exact ⟨d, fr1, rfl, z⟩)
theorem V_A (h : A T a fr (fun r fr1 => ∃ d, r = .out (.val d) ∧ PD d fr1) PX) : AV T a fr PD PX := h
theorem V_slot (e : fr.env[i]? = some (.val d)) (h : PD d fr) : AV T (.slot i) fr PD PX := A_slot e ⟨_, rfl, h⟩
theorem V_int {k : Int} (h : PD (.int k) fr) : AV T (.int k) fr PD PX := A_int ⟨_, rfl, h⟩
theorem V_str {k : Str} (h : PD (.str k) fr) : AV T (.str k) fr PD PX := A_str ⟨_, rfl, h⟩
theorem V_bl {k : Bool} (h : PD (.bl k) fr) : AV T (.bl k) fr PD PX := A_bl ⟨_, rfl, h⟩
theorem V_non (h : PD .non fr) : AV T .non fr PD PX := A_non ⟨_, rfl, h⟩
theorem V_bin {op : Op2} (h : AV T a fr (fun x fr1 => AV T b fr1 (fun y fr2 => ∃ d, opD op x y = some (.val d) ∧ PD d fr2) PX) PX) : AV T (.bin op a b) fr PD PX :=
  A_bin (A_V (A_imp h fun r fr1 z => by
    obtain ⟨x, rfl, z⟩ := z
    refine ⟨x, rfl, ?_⟩
    refine A_V (A_imp z fun r fr2 z => ?_)
    obtain ⟨y, rfl, z⟩ := z
    obtain ⟨d, h1, h2⟩ := z
    exact ⟨y, rfl, x, y, _, rfl, rfl, h1, d, rfl, h2⟩))
theorem V_cmp {op : Cm} (h : AV T a fr (fun x fr1 => AV T b fr1 (fun y fr2 => ∃ k, cmpD op x y = some k ∧ PD (.bl k) fr2) PX) PX) : AV T (.cmp op a b) fr PD PX :=
  A_cmp (A_V (A_imp h fun r fr1 z => by
    obtain ⟨x, rfl, z⟩ := z
    refine ⟨x, rfl, ?_⟩
    refine A_V (A_imp z fun r fr2 z => ?_)
    obtain ⟨y, rfl, z⟩ := z
    obtain ⟨k, h1, h2⟩ := z
    exact ⟨y, rfl, x, y, k, rfl, rfl, h1, _, rfl, h2⟩))
theorem V_neg (h : AV T a fr (fun d fr1 => ∃ n, d = .int n ∧ PD (.int (-n)) fr1) PX) : AV T (.neg a) fr PD PX := A_neg (AD_V (A_imp h fun r fr1 z => by
  obtain ⟨_, rfl, n, rfl, z⟩ := z; exact ⟨_, rfl, n, rfl, _, rfl, z⟩))
theorem V_not (h : AV T a fr (fun d fr1 => ∃ n, d = .bl n ∧ PD (.bl (!n)) fr1) PX) : AV T (.not_ a) fr PD PX := A_not (AD_V (A_imp h fun r fr1 z => by
  obtain ⟨_, rfl, n, rfl, z⟩ := z; exact ⟨_, rfl, n, rfl, _, rfl, z⟩))
theorem V_and (h : AV T a fr (fun d fr1 => ∃ k, d = .bl k ∧ (k = true → AV T b fr1 PD PX) ∧ (k = false → PD (.bl false) fr1)) PX) : AV T (.and_ a b) fr PD PX := A_and (AD_V (A_imp h fun r fr1 z => by
  obtain ⟨_, rfl, n, rfl, z1, z2⟩ := z; exact ⟨_, rfl, n, rfl, z1, fun e => ⟨_, rfl, z2 e⟩⟩))
theorem V_or (h : AV T a fr (fun d fr1 => ∃ k, d = .bl k ∧ (k = false → AV T b fr1 PD PX) ∧ (k = true → PD (.bl true) fr1)) PX) : AV T (.or_ a b) fr PD PX := A_or (AD_V (A_imp h fun r fr1 z => by
  obtain ⟨_, rfl, n, rfl, z1, z2⟩ := z; exact ⟨_, rfl, n, rfl, z1, fun e => ⟨_, rfl, z2 e⟩⟩))
theorem V_ite (h : AV T c fr (fun d fr1 => ∃ k, d = .bl k ∧ (k = true → AV T a fr1 PD PX) ∧ (k = false → AV T b fr1 PD PX)) PX) : AV T (.ite c a b) fr PD PX := A_ite (AD_V (A_imp h fun r fr1 z => by
  obtain ⟨_, rfl, n, rfl, z1, z2⟩ := z; exact ⟨_, rfl, n, rfl, z1, z2⟩))
theorem V_call {f : Nat} {ts : List Tm} (h : AS T ts fr (fun ds fr1 => (T.phi f ds fr1.sto).all (fun o s => ∃ d, o = .val d ∧ PD d { fr1 with sto := s }) (fun c fs s => PX c fs { fr1 with sto := s })) PX) : AV T (.call f ts) fr PD PX := A_call (Rs.all_imp h (fun ds fr1 z => fx_imp z (fun o s z => by
  obtain ⟨d, rfl, z⟩ := z; exact ⟨d, rfl, z⟩) fun _ _ _ z => z) fun _ _ _ z => z)
theorem V_ix (h : AV T a fr (fun x fr1 => AV T b fr1 (fun k fr2 => ∃ v, ixD fr2.sto x k = some v ∧ PD v fr2) PX) PX) : AV T (.ix a b) fr PD PX := A_ix (A_V (A_imp h fun r fr1 z => by
    obtain ⟨x, rfl, z⟩ := z
    refine ⟨x, rfl, ?_⟩
    refine AD_V (A_imp z fun r fr2 z => ?_)
    obtain ⟨y, rfl, v, h1, h2⟩ := z
    exact ⟨y, rfl, x, v, rfl, h1, v, rfl, h2⟩))
theorem V_tup {ts : List Tm} (h : AS T ts fr (fun ds fr1 => ds.length ≤ sizeLine ∧ PD (.tup ds) fr1) PX) : AV T (.tup ts) fr PD PX := A_tup (Rs.all_imp h (fun ds fr1 z => ⟨z.1, _, rfl, z.2⟩) fun _ _ _ z => z)
theorem V_dict {ks : List (Key × Tm)} (h : AK T ks fr (fun ds fr1 => ds.length ≤ 15 ∧ PD (.cell fr1.sto.length) { fr1 with sto := fr1.sto ++ [.dict (kmerge [] ds)] }) PX) : AV T (.dict ks) fr PD PX := A_dict (Rs.all_imp h (fun ds fr1 z => ⟨z.1, _, rfl, z.2⟩) fun _ _ _ z => z)
/-- built-ins -/
theorem AP_consA {ts : List Tm} {P : List RV → Fr → Prop} (h : AV T a fr (fun d fr1 => AP T ts fr1 (fun rs fr2 => P (.out (.val d) :: rs) fr2) PX) PX) : AP T (a :: ts) fr P PX := AP_cons (A_V h)
theorem V_bi {k : Bi} {ts : List Tm} (h : AP T ts fr (fun rs fr1 => ∃ ds d, looks fr1.env rs = some ds ∧ biD k ds = some (.val d) ∧ PD d fr1) PX) : AV T (.bi k ts) fr PD PX := A_bi (Rs.all_imp h (fun rs fr1 z => by
  obtain ⟨ds, d, h1, h2, h3⟩ := z
  exact ⟨ds, _, h1, h2, d, rfl, h3⟩) fun _ _ _ z => z)
theorem AO_someV {P : Option Int → Fr → Prop} (h : AV T a fr (fun d fr1 => ∃ n, d = .int n ∧ P (some n) fr1) PX) : AO T (some a) fr P PX := AO_some (AD_V h)
/-- statements -/
theorem X_asgV (h : AV T a fr (fun d fr1 => K.next (setE fr1 i (.val d))) K.exc) : X T (.asg (.slot i) a) fr K := X_asg (A_imp h fun r fr1 z => by
  obtain ⟨d, rfl, z⟩ := z; exact z)
theorem X_asgF (h : A T a fr (fun r fr1 => ∃ xs, r = .out (.fresh xs) ∧ K.next (setE fr1 i (.own xs))) K.exc) : X T (.asg (.slot i) a) fr K := X_asg (A_imp h fun r fr1 z => by
  obtain ⟨d, rfl, z⟩ := z; exact z)
theorem X_iteV {A' B' : List Stm} (h : AV T c fr (fun d fr1 => ∃ k, d = .bl k ∧ (k = true → XS T A' fr1 K) ∧ (k = false → XS T B' fr1 K)) K.exc) : X T (.ite c A' B') fr K := X_ite (AD_V h)
theorem X_retV (h : AV T a fr (fun d fr1 => K.ret (.val d) fr1) K.exc) : X T (.ret a) fr K := X_ret (A_imp h fun r fr1 z => by
  obtain ⟨d, rfl, z⟩ := z; exact z)
theorem X_setkV {o k v : Tm} (hq : ownSlot o fr.env = none) (h : AV T v fr (fun dv fr1 => AV T o fr1 (fun d fr2 => AV T k fr2 (fun dk fr3 => ∃ n kk kvs, d = .cell n ∧ keyOf dk = some kk ∧ fr3.sto[n]? = some (.dict kvs) ∧ kvs.length < 1000 ∧
    K.next { fr3 with sto := fr3.sto.set n (.dict (kput kvs kk dv)) }) K.exc) K.exc) K.exc) : X T (.setk o k v) fr K := X_setk hq (AD_V (A_imp h fun r fr1 z => by
  obtain ⟨d, rfl, z⟩ := z
  refine ⟨d, rfl, AD_V (A_imp z fun r fr2 z => ?_)⟩
  obtain ⟨d2, rfl, z⟩ := z
  exact ⟨d2, rfl, AD_V z⟩))
theorem AI_seqF {P : List D → Fr → Prop} (h : A T a fr (fun r fr1 => ∃ xs, r = .out (.fresh xs) ∧ P xs fr1) PX) : AI T (.seq a) fr P PX := AI_seq (AD_of (A_imp h fun r fr1 z => by
  obtain ⟨xs, rfl, z⟩ := z; exact ⟨_, fr1, rfl, xs, rfl, z⟩))
theorem AI_range1V {P : List D → Fr → Prop} (h : AV T a fr (fun d fr1 => ∃ n, d = .int n ∧ (n < 2 ^ 62 ∧ -(2 ^ 62) < n) ∧ P (rangeD 0 n.toNat) fr1) PX) : AI T (.range1 a) fr P PX := AI_range1 (AD_V h)
/-- operators by values -/
theorem O_add {x y : Int} {P : D → Prop} (h : P (.int (x + y))) : ∃ d, opD .add (.int x) (.int y) = some (.val d) ∧ P d := ⟨_, rfl, h⟩
theorem O_sub {x y : Int} {P : D → Prop} (h : P (.int (x - y))) : ∃ d, opD .sub (.int x) (.int y) = some (.val d) ∧ P d := ⟨_, rfl, h⟩
theorem O_mul {x y : Int} {P : D → Prop} (e : mulOk x y = true) (h : P (.int (x * y))) : ∃ d, opD .mul (.int x) (.int y) = some (.val d) ∧ P d := ⟨_, by show (if mulOk x y = true then _ else _) = _; rw [if_pos e], h⟩
theorem O_fdiv {x y : Int} {P : D → Prop} (e : divOk y = true) (h : P (.int (x / y))) : ∃ d, opD .fdiv (.int x) (.int y) = some (.val d) ∧ P d := ⟨_, by show (if divOk y = true then _ else _) = _; rw [if_pos e], h⟩
theorem O_mod {x y : Int} {P : D → Prop} (e : 0 < y) (h : P (.int (x % y))) : ∃ d, opD .mod (.int x) (.int y) = some (.val d) ∧ P d := ⟨_, by show (if 0 < y then _ else _) = _; rw [if_pos e], h⟩
theorem O_pow {x y : Int} {P : D → Prop} (e : powOk x y = true) (h : P (.int (x ^ y.toNat))) : ∃ d, opD .pow (.int x) (.int y) = some (.val d) ∧ P d := ⟨_, by show (if powOk x y = true then _ else _) = _; rw [if_pos e], h⟩
theorem C_eqI {x y : Int} {P : Bool → Prop} (h : P (decide (x = y))) : ∃ k, cmpD .eq (.int x) (.int y) = some k ∧ P k := ⟨_, rfl, h⟩
end
section
variable {T : Tab} {fr : Fr} {env : List Slot} {sto : List Cell} {P : RV → Fr → Prop} {PD : D → Fr → Prop} {PX : PXt} {K : SxP} {a b c : Tm} {i : Nat} {d : D} {xs : List D}
/-! ### a value handed on: a new list becomes one that does not change any more -/
inductive IsD : Out → D → Prop where
  | val (d : D) : IsD (.val d) d
  | fresh (xs : List D) : IsD (.fresh xs) (.lst xs)
inductive IsS : Out → Slot → Prop where
  | val (d : D) : IsS (.val d) (.val d)
  | fresh (xs : List D) : IsS (.fresh xs) (.own xs)
theorem isD_val {P : D → Prop} (h : P d) : ∃ e, IsD (.val d) e ∧ P e := ⟨d, .val d, h⟩
theorem isS_val {P : Slot → Prop} (h : P (.val d)) : ∃ e, IsS (.val d) e ∧ P e := ⟨_, .val d, h⟩
theorem isS_fresh {P : Slot → Prop} (h : P (.own xs)) : ∃ e, IsS (.fresh xs) e ∧ P e := ⟨_, .fresh xs, h⟩
theorem isV {P : D → Prop} (h : P d) : ∃ e, Out.val d = .val e ∧ P e := ⟨_, rfl, h⟩
theorem D_call {f : Nat} {ts : List Tm} (h : AS T ts fr (fun ds fr1 => (T.phi f ds fr1.sto).all (fun o s => ∃ d, IsD o d ∧ PD d { fr1 with sto := s }) (fun c fs s => PX c fs { fr1 with sto := s })) PX) : AD T (.call f ts) fr PD PX :=
  AD_of (A_call (Rs.all_imp h (fun ds fr1 z => fx_imp z (fun o s z => by
    obtain ⟨d, e, z⟩ := z
    cases e <;> exact ⟨_, _, rfl, z⟩) fun _ _ _ z => z) fun _ _ _ z => z))
theorem D_lst {ts : List Tm} (h : AS T ts fr (fun ds fr1 => ds.length ≤ sizeLine ∧ PD (.lst ds) fr1) PX) : AD T (.lst ts) fr PD PX :=
  AD_of (A_lst (Rs.all_imp h (fun ds fr1 z => ⟨z.1, _, _, rfl, z.2⟩) fun _ _ _ z => z))
theorem D_own (e : fr.env[i]? = some (.own xs)) (h : PD (.lst xs) { fr with env := fr.env.set i (.val (.lst xs)) }) : AD T (.slot i) fr PD PX :=
  AD_of (A_own e ⟨_, _, by show (match fr.env[i]? with | some (.own xs) => some (D.lst xs, { fr with env := fr.env.set i (.val (.lst xs)) }) | some (.val d) => some (d, fr) | _ => none) = _; rw [e], h⟩)
theorem A_lstF {ts : List Tm} {Q : List D → Fr → Prop} (h : AS T ts fr (fun ds fr1 => ds.length ≤ sizeLine ∧ Q ds fr1) PX) : A T (.lst ts) fr (fun r fr1 => ∃ xs, r = .out (.fresh xs) ∧ Q xs fr1) PX :=
  A_lst (Rs.all_imp h (fun ds fr1 z => ⟨z.1, _, rfl, z.2⟩) fun _ _ _ z => z)
theorem X_asgC {f : Nat} {ts : List Tm} (h : AS T ts fr (fun ds fr1 => (T.phi f ds fr1.sto).all (fun o s => ∃ e, IsS o e ∧ K.next (setE { fr1 with sto := s } i e)) (fun c fs s => K.exc c fs { fr1 with sto := s })) K.exc) : X T (.asg (.slot i) (.call f ts)) fr K :=
  X_asg (A_call (Rs.all_imp h (fun ds fr1 z => fx_imp z (fun o s z => by
    obtain ⟨d, e, z⟩ := z
    cases e <;> exact z) fun _ _ _ z => z) fun _ _ _ z => z))
theorem X_retO (e : fr.env[i]? = some (.own xs)) (h : K.ret (.fresh xs) (setE fr i .un)) : X T (.ret (.slot i)) fr K := X_ret (A_own e ⟨xs, e, h⟩)
theorem V_ixO (e : fr.env[i]? = some (.own xs)) (h : AV T b fr (fun k fr2 => fr2.env[i]? = some (.own xs) ∧ ∃ v, ixD fr2.sto (.lst xs) k = some v ∧ PD v fr2) PX) : AV T (.ix (.slot i) b) fr PD PX := A_ix (A_own e (AD_V (A_imp h fun r fr1 z => by
  obtain ⟨d, rfl, h1, v, h2, h3⟩ := z
  refine ⟨d, rfl, .lst xs, v, ?_, h2, v, rfl, h3⟩
  show (match fr1.env[i]? with | some (.own xs) => some (D.lst xs) | some (.val d) => some d | _ => none) = _
  rw [h1])))
theorem AP_consO {ts : List Tm} {P : List RV → Fr → Prop} (e : fr.env[i]? = some (.own xs)) (h : AP T ts fr (fun rs fr2 => P (.var i :: rs) fr2) PX) : AP T (.slot i :: ts) fr P PX := AP_cons (A_own e h)
/-! several values at once -/
def AG (T : Tab) (n : Nat) (ts : List Tm) (fr : Fr) (P : List RV → Fr → Prop) (PX : PXt) : Prop := (parGo T n ts fr).all P PX
theorem X_parG {is : List Nat} {ts : List Tm} (h : AG T fr.env.length ts fr (fun rs fr1 => ∃ fr2, parSet fr.env.length is rs fr1 = some fr2 ∧ K.next (cutE fr.env.length fr2)) (fun c fs fr1 => K.exc c fs (cutE fr.env.length fr1))) : X T (.par is ts) fr K := @Rq9 _ _ (fun qz => @Hq9.get _ _ (qz.bar : Hq9 _ (by
  clear qz
  refine X_par ?_
  unfold AG at h
  cases q : parGo T fr.env.length ts fr <;> (rw [q] at h; exact h)))) Xq9.mk
variable {n : Nat} {ts : List Tm} {PR : List RV → Fr → Prop}
theorem AG_nil (h : PR [] fr) : AG T n [] fr PR PX := h
theorem AG_val (h : AV T a fr (fun d fr1 => AG T n ts fr1 (fun rs fr2 => PR (.out (.val d) :: rs) fr2) PX) PX) : AG T n (a :: ts) fr PR PX := @Rq9 _ _ (fun qz => @Hq9.get _ _ (qz.bar : Hq9 _ (by
  clear qz
  unfold AG parGo
  refine all_bind (Rs.all_imp h (fun r fr1 z => ?_) fun _ _ _ z => z)
  obtain ⟨d, rfl, z⟩ := z
  exact all_bind z))) Xq9.mk
theorem AG_new (h : A T a fr (fun r fr1 => ∃ xs, r = .out (.fresh xs) ∧ AG T n ts { fr1 with env := fr1.env ++ [.own xs] } (fun rs fr2 => PR (.var fr1.env.length :: rs) fr2) PX) PX) : AG T n (a :: ts) fr PR PX := @Rq9 _ _ (fun qz => @Hq9.get _ _ (qz.bar : Hq9 _ (by
  clear qz
  unfold AG parGo
  refine all_bind (Rs.all_imp h (fun r fr1 z => ?_) fun _ _ _ z => z)
  obtain ⟨xs, rfl, z⟩ := z
  exact all_bind z))) Xq9.mk
/-! a for over few things -/
theorem AI_lst {ts : List Tm} {P : List D → Fr → Prop} (h : AS T ts fr (fun ds fr1 => ds.length ≤ sizeLine ∧ P ds fr1) PX) : AI T (.seq (.lst ts)) fr P PX := AI_seqF (A_lstF h)
end
/-! comprehensions -/
/-- branches by a decided test -/
theorem B_dec {p : Prop} [Decidable p] {R S : Prop} (h1 : p → R) (h2 : ¬ p → S) : ∃ k, D.bl (decide p) = D.bl k ∧ (k = true → R) ∧ (k = false → S) := ⟨_, rfl, fun e => h1 (of_decide_eq_true e), fun e => h2 (of_decide_eq_false e)⟩
theorem B_not {p : Prop} [Decidable p] {R S : Prop} (h1 : ¬ p → R) (h2 : p → S) : ∃ k, D.bl (!decide p) = D.bl k ∧ (k = true → R) ∧ (k = false → S) := ⟨_, rfl, fun e => h1 (by simpa using e), fun e => h2 (by simpa using e)⟩
theorem B_bl {q : Bool} {R S : Prop} (h1 : q = true → R) (h2 : q = false → S) : ∃ k, D.bl q = D.bl k ∧ (k = true → R) ∧ (k = false → S) := ⟨_, rfl, h1, h2⟩
theorem B_t {R S : Prop} (h1 : R) : ∃ k, D.bl true = D.bl k ∧ (k = true → R) ∧ (k = false → S) := ⟨true, rfl, fun _ => h1, fun e => Bool.noConfusion e⟩
theorem B_f {R S : Prop} (h1 : S) : ∃ k, D.bl false = D.bl k ∧ (k = true → R) ∧ (k = false → S) := ⟨false, rfl, fun e => Bool.noConfusion e, fun _ => h1⟩
theorem B_t' {R S : Prop} (h1 : R) : ∃ k, D.bl true = D.bl k ∧ (k = false → S) ∧ (k = true → R) := ⟨true, rfl, fun e => Bool.noConfusion e, fun _ => h1⟩
theorem B_f' {R S : Prop} (h1 : S) : ∃ k, D.bl false = D.bl k ∧ (k = false → S) ∧ (k = true → R) := ⟨false, rfl, fun _ => h1, fun e => Bool.noConfusion e⟩
end Ag
namespace Ag
open PySem L2
section
variable {T : Tab} {fr : Fr} {env : List Slot} {sto : List Cell} {P : RV → Fr → Prop} {PD : D → Fr → Prop} {PX : PXt} {K : SxP} {a b c : Tm} {i : Nat} {d : D} {xs : List D}
/-! ### None or an int -/
def optD : Option Int → D
  | none => .non
  | some i => .int i
theorem optD_none : optD none = .non := rfl
theorem optD_some (i : Int) : optD (some i) = .int i := rfl
theorem L_minM {x y : Int} {P : D → Prop} (h : P (.int (min x y))) : ∃ ds e, looks env [.out (.val (.int x)), .out (.val (.int y))] = some ds ∧ biD .min2 ds = some (.val e) ∧ P e := ⟨_, _, rfl, rfl, by
  have : (if y < x then y else x) = min x y := by split <;> omega
  rw [this]; exact h⟩
theorem L_maxM {x y : Int} {P : D → Prop} (h : P (.int (max x y))) : ∃ ds e, looks env [.out (.val (.int x)), .out (.val (.int y))] = some ds ∧ biD .max2 ds = some (.val e) ∧ P e := ⟨_, _, rfl, rfl, by
  have : (if y > x then y else x) = max x y := by split <;> omega
  rw [this]; exact h⟩
theorem B_dA {p : Prop} [Decidable p] {R S : Prop} (hp : p) (h : R) : ∃ k, D.bl (decide p) = .bl k ∧ (k = true → R) ∧ (k = false → S) := ⟨true, by rw [decide_eq_true hp], fun _ => h, fun z => Bool.noConfusion z⟩
theorem B_dN {p : Prop} [Decidable p] {R S : Prop} (hp : ¬ p) (h : S) : ∃ k, D.bl (decide p) = .bl k ∧ (k = true → R) ∧ (k = false → S) := ⟨false, by rw [decide_eq_false hp], fun z => Bool.noConfusion z, fun _ => h⟩
theorem Bn_id {x : Bool} {Q : Bool → Prop} (h : Q x) : ∃ n, D.bl x = .bl n ∧ Q n := ⟨x, rfl, h⟩
theorem B_nf' {R S : Prop} (h : S) : ∃ k, D.bl (!true) = .bl k ∧ (k = false → S) ∧ (k = true → R) := ⟨false, rfl, fun _ => h, fun z => Bool.noConfusion z⟩
/-! ### iterators -/
theorem AI_range2V {P : List D → Fr → Prop} (h : AV T a fr (fun d fr1 => AV T b fr1 (fun e fr2 => ∃ lo hi, d = .int lo ∧ e = .int hi ∧ (-(2 ^ 62) < lo ∧ lo < 2 ^ 62 ∧ -(2 ^ 62) < hi ∧ hi < 2 ^ 62) ∧ P (rangeD lo (hi - lo).toNat) fr2) PX) PX) : AI T (.range2 a b) fr P PX :=
  AI_range2 (AD_V (A_imp h fun r fr1 z => by
    obtain ⟨d, rfl, z⟩ := z
    exact ⟨d, rfl, AD_V z⟩))
/-- a for over what an iterator gives, by what is left -/
theorem for_rest {α : Type} {f : α → D} {tg : D → Fr → Option Fr} {B : Fr → Sx} (I : List α → Fr → Prop)
    (hs : ∀ x l fr, I (x :: l) fr → ∃ fr1, tg (f x) fr = some fr1 ∧ (B fr1).all (K.loop (I l)))
    (hd : ∀ fr, I [] fr → K.next fr) : ∀ (l : List α) {fr : Fr}, I l fr → (forGo tg B (l.map f) fr).all K := @Rq9 _ _ (fun qz => @Hq9.get _ _ (qz.bar : Hq9 _ (by
  clear qz
  intro l
  induction l with
  | nil => intro fr h0; exact hd fr h0
  | cons x l ih =>
    intro fr h0
    obtain ⟨fr1, e, hb⟩ := hs x l fr h0
    show (match tg (f x) fr with
      | none => .bad
      | some fr1 => match B fr1 with
        | .next fr2 => forGo tg B (l.map f) fr2
        | .cont fr2 => forGo tg B (l.map f) fr2
        | .brk fr2 => .next fr2
        | r => r : Sx).all K
    rw [e]
    dsimp only
    cases q : B fr1 with
    | next fr2 => rw [q] at hb; exact ih hb
    | cont fr2 => rw [q] at hb; exact ih hb
    | brk fr2 => rw [q] at hb; exact hb
    | ret o fr2 => rw [q] at hb; exact hb
    | exc c fs fr2 => rw [q] at hb; exact hb
    | bad => rw [q] at hb; exact hb))) Xq9.mk
/-- the rule for a for over a mapped list, by what is left -/
theorem X_forL {α : Type} {tg : Tg} {it : Iter} {B : List Stm} (h : AI T it fr (fun xs fr1 => ∃ (f : α → D) (l : List α) (I : List α → Fr → Prop), xs = l.map f ∧ I l fr1 ∧
    (∀ x l fr, I (x :: l) fr → ∃ fr2, bindT tg (f x) fr = some fr2 ∧ XS T B fr2 (K.loop (I l))) ∧ ∀ fr, I [] fr → K.next fr) K.exc) : X T (.for_ tg it B) fr K :=
  X_for (Rs.all_imp h (fun xs fr1 ⟨f, l, I, e, h0, hs, hd⟩ => by rw [e]; exact for_rest I hs hd l h0) fun _ _ _ z => z)
/-- a list of the def's own beside [] -/
theorem V_cmpOwn0 {op : Cm} (e : fr.env[i]? = some (.own xs)) (h : ∃ k, cmpD op (.lst xs) (.lst []) = some k ∧ PD (.bl k) fr) : AV T (.cmp op (.slot i) (.lst [])) fr PD PX := @Rq9 _ _ (fun qz => @Hq9.get _ _ (qz.bar : Hq9 _ (by
  clear qz
  obtain ⟨k, h1, h2⟩ := h
  refine A_cmp (A_own e (A_lst (AS_nil ⟨by decide, .lst xs, .lst [], k, ?_, rfl, h1, _, rfl, h2⟩)))
  show (match fr.env[i]? with | some (.own xs) => some (D.lst xs) | some (.val d) => some d | _ => none) = _
  rw [e]))) Xq9.mk
theorem atI_last {α : Type} {xs : List α} {d : α} (h : xs.getLast? = some d) : atI xs (-1) = some d := @Rq9 _ _ (fun qz => @Hq9.get _ _ (qz.bar : Hq9 _ (by
  clear qz
  have hne : xs ≠ [] := fun z => by rw [z] at h; cases h
  have hl : 0 < xs.length := List.length_pos_iff.mpr hne
  unfold atI ixN
  rw [if_neg (by decide), if_pos (by omega)]
  show xs[(-1 + (xs.length : Int)).toNat]? = _
  rw [show (-1 + (xs.length : Int)).toNat = xs.length - 1 by omega, ← List.getLast?_eq_getElem?, h]))) Xq9.mk
theorem V_pop (e : fr.env[i]? = some (.own xs)) (hq : xs.getLast? = some d) (h : PD d { fr with env := fr.env.set i (.own xs.dropLast) }) : AV T (.pop i) fr PD PX := V_A (A_pop e hq ⟨_, rfl, h⟩)
/-! ### attributes and methods of instances -/
/-- x, y = e, a tuple -/
theorem X_asgT {ts : List Tg} (h : AD T a fr (fun d fr1 => ∃ fr2, bindT (.tup ts) d fr1 = some fr2 ∧ K.next fr2) K.exc) : X T (.asg (.tup ts) a) fr K := @Rq9 _ _ (fun qz => @Hq9.get _ _ (qz.bar : Hq9 _ (by
  clear qz
  unfold X ex
  refine all_toS (Rs.all_imp (show A T a fr (fun r fr1 => ∃ d fr2, toD fr1 r = some (d, fr2) ∧ ∃ fr3, bindT (.tup ts) d fr2 = some fr3 ∧ K.next fr3) K.exc from ?_) (fun r fr1 h => ?_) fun _ _ _ z => z)
  · unfold AD at h
    unfold A
    cases q : ev T a fr with
    | ok r fr1 =>
      rw [q] at h
      have h : (match toD fr1 r with | some (d, fr') => Rs.ok d fr' | none => .bad).all _ _ := h
      cases q2 : toD fr1 r with
      | none => rw [q2] at h; exact h.elim
      | some p => rw [q2] at h; exact ⟨p.1, p.2, q2, h⟩
    | exc c fs fr1 => rw [q] at h; exact h
    | bad => rw [q] at h; exact h
  · obtain ⟨d, fr2, e, fr3, e2, k⟩ := h
    show ((match toD fr1 r with | some (d, fr') => (match bindT (.tup ts) d fr' with | some fr2 => Sx.next fr2 | none => .bad) | none => .bad) : Sx).all K
    rw [e]
    dsimp only
    rw [e2]
    exact k))) Xq9.mk
theorem bT_id {ts : List Tg} {fr2 : Fr} {Q : Fr → Prop} (h : bindT (.tup ts) d fr = some fr2) (k : Q fr2) : ∃ fr2, bindT (.tup ts) d fr = some fr2 ∧ Q fr2 := ⟨fr2, h, k⟩
theorem Pa_id {n : Nat} {is : List Nat} {rs : List RV} {fr2 : Fr} {Q : Fr → Prop} (h : parSet n is rs fr = some fr2) (k : Q fr2) : ∃ fr2, parSet n is rs fr = some fr2 ∧ Q fr2 := ⟨fr2, h, k⟩
theorem size_is : sizeLine = 16777216 := by decide
theorem Ap_id2 {Q : List D → Prop} (h1 : env[i]? = some (.own xs)) (h2 : xs.length < 16777216) (k : Q xs) : ∃ ys, env[i]? = some (.own ys) ∧ ys.length < sizeLine ∧ Q ys := ⟨xs, h1, by rw [size_is]; exact h2, k⟩
theorem Sz_id {n : Nat} {Q : Prop} (h : Nat.ble n 16777216 = true) (k : Q) : n ≤ sizeLine ∧ Q := ⟨by rw [size_is]; exact Nat.le_of_ble_eq_true h, k⟩
theorem X_appendD (e : fr.env[i]? = some (.own xs)) (h : AD T a fr (fun d fr1 => ∃ ys, fr1.env[i]? = some (.own ys) ∧ ys.length < sizeLine ∧ K.next (setE fr1 i (.own (ys ++ [d])))) K.exc) : X T (.append i a) fr K := X_append e h
/-! ### isinstance of a built-in type -/
theorem V_istV {k : TyN} (h : AV T a fr (fun d fr1 => ∃ t, istD k d = some t ∧ PD (.bl t) fr1) PX) : AV T (.ist k a) fr PD PX := @Rq9 _ _ (fun qz => @Hq9.get _ _ (qz.bar : Hq9 _ (by
  clear qz
  refine V_A ?_
  unfold A ev
  refine all_bind (Rs.all_imp h (fun r fr1 z => ?_) fun _ _ _ z => z)
  obtain ⟨d, rfl, t, h1, h2⟩ := z
  show (match istD k d with | some b => Rs.ok (RV.out (.val (.bl b))) fr1 | none => .bad : Rs RV).all _ _
  rw [h1]
  exact ⟨_, rfl, h2⟩))) Xq9.mk
/-! ### comprehensions -/
theorem comp_inv {n : Nat} {tg : D → Fr → Option Fr} {own : List Nat} {C : Fr → Rs Bool} {G : Fr → Rs D} {P : Unit → Fr → Prop} (I : Nat → Fr → Prop) {xs : List D} (h0 : I 0 fr)
    (hs : ∀ i x fr, xs[i]? = some x → I i fr → ∃ fr1, tg x { fr with env := wipeE fr.env own } = some fr1 ∧ (C fr1).all (fun t fr2 => (t = true → (G fr2).all (fun d fr3 => ∃ acc, fr3.env[n]? = some (.own acc) ∧ acc.length < sizeLine ∧ I (i + 1) { fr3 with env := fr3.env.set n (.own (acc ++ [d])) }) (fun _ _ _ => False)) ∧ (t = false → I (i + 1) fr2)) (fun _ _ _ => False))
    (hd : ∀ fr, I xs.length fr → P () fr) : (compGo n tg own C G xs fr).all P PX := by
  have key : ∀ (m i : Nat) (fr : Fr), m = xs.length - i → i ≤ xs.length → I i fr → (compGo n tg own C G (xs.drop i) fr).all P PX := by
    intro m
    induction m with
    | zero =>
      intro i fr hn hi h
      have : i = xs.length := by omega
      subst this
      rw [List.drop_length]
      exact hd fr h
    | succ m ih =>
      intro i fr hn hi h
      have hlt : i < xs.length := by omega
      rw [List.drop_eq_getElem_cons hlt]
      obtain ⟨fr1, e, hb⟩ := hs i xs[i] fr (List.getElem?_eq_getElem hlt) h
      unfold compGo
      rw [e]
      dsimp only
      cases q : C fr1 with
      | bad => rw [q] at hb; exact hb.elim
      | exc c fs fr2 => rw [q] at hb; exact hb.elim
      | ok t fr2 =>
        rw [q] at hb
        obtain ⟨b1, b2⟩ := hb
        cases t with
        | false => exact ih (i + 1) fr2 (by omega) (by omega) (b2 rfl)
        | true =>
          have b1 := b1 rfl
          show (((G fr2).calm.bind fun d fr3 => match fr3.env[n]? with
            | some (.own acc) => if acc.length < sizeLine then compGo n tg own C G (xs.drop (i + 1)) { fr3 with env := fr3.env.set n (.own (acc ++ [d])) } else .bad
            | _ => .bad) : Rs Unit).all P PX
          cases q2 : G fr2 with
          | bad => rw [q2] at b1; exact b1.elim
          | exc c fs fr2 => rw [q2] at b1; exact b1.elim
          | ok d fr3 =>
            rw [q2] at b1
            obtain ⟨acc, e1, e2, e3⟩ := b1
            show (match fr3.env[n]? with | some (.own acc) => (if acc.length < sizeLine then compGo n tg own C G (xs.drop (i + 1)) { fr3 with env := fr3.env.set n (.own (acc ++ [d])) } else .bad) | _ => .bad : Rs Unit).all P PX
            rw [e1]
            dsimp only
            rw [if_pos e2]
            exact ih (i + 1) _ (by omega) (by omega) e3
  have := key xs.length 0 fr rfl (Nat.zero_le _) h0
  simpa using this
def AC (T : Tab) (t : Option Tm) (fr : Fr) (P : Bool → Fr → Prop) (PX : PXt) : Prop := (evc T t fr).all P PX
theorem AC_some {P : Bool → Fr → Prop} (h : AV T a fr (fun d fr1 => ∃ k, d = .bl k ∧ P k fr1) PX) : AC T (some a) fr P PX := @Rq9 _ _ (fun qz => @Hq9.get _ _ (qz.bar : Hq9 _ (by
  clear qz
  unfold AC evc
  refine all_fr (Rs.all_imp (AD_V h) (fun d fr1 h => ?_) fun _ _ _ z => z)
  obtain ⟨k, rfl, h⟩ := h
  exact h))) Xq9.mk
def noX : PXt := fun _ _ _ => False
theorem A_compI {tg : Tg} {it : Iter} {cond : Option Tm} {own : List Nat} (h : AI T it fr (fun xs fr1 => ownFree fr1.env own = true ∧ ∃ I : Nat → Fr → Prop, I 0 { fr1 with env := fr1.env ++ [.own []] } ∧
    (∀ i x fr2, xs[i]? = some x → I i fr2 → ∃ fr3, bindT tg x { fr2 with env := wipeE fr2.env own } = some fr3 ∧ AC T cond fr3 (fun t fr4 => (t = true → AD T a fr4 (fun d fr5 => ∃ acc, fr5.env[fr1.env.length]? = some (.own acc) ∧ acc.length < sizeLine ∧ I (i + 1) { fr5 with env := fr5.env.set fr1.env.length (.own (acc ++ [d])) }) noX) ∧ (t = false → I (i + 1) fr4)) noX) ∧
    ∀ fr2, I xs.length fr2 → ∃ acc, fr2.env[fr1.env.length]? = some (.own acc) ∧ P (.out (.fresh acc)) { fr2 with env := backE fr1.env (fr2.env.take fr1.env.length) own }) PX) : A T (.comp a tg it cond own) fr P PX := by
  unfold A ev
  refine all_bind (Rs.all_imp h (fun xs fr1 z => ?_) fun _ _ _ z => z)
  obtain ⟨z0, I, h0, hs, hd⟩ := z
  rw [if_pos z0]
  refine all_bind (comp_inv (P := fun _ fr2 => ((match fr2.env[fr1.env.length]? with
    | some (.own acc) => .ok (.out (.fresh acc)) { fr2 with env := backE fr1.env (fr2.env.take fr1.env.length) own }
    | _ => .bad : Rs RV)).all P PX) I h0 hs fun fr2 q => ?_)
  obtain ⟨acc, e, q⟩ := hd fr2 q
  rw [e]
  exact q
/-! a comprehension that changes nothing: each item by itself -/
theorem wipe_get {env : List Slot} {n : Nat} : ∀ {own : List Nat}, (∀ v ∈ own, v ≠ n) → (wipeE env own)[n]? = env[n]?
  | [], _ => rfl
  | v :: vs, h => by
    show ((wipeE env vs).set v .un)[n]? = _
    rw [List.getElem?_set_ne (h v (List.mem_cons_self ..)), wipe_get fun w hw => h w (List.mem_cons_of_mem _ hw)]
theorem wipe_set {env : List Slot} {n : Nat} {s : Slot} : ∀ {own : List Nat}, (∀ v ∈ own, v ≠ n) → (wipeE env own).set n s = wipeE (env.set n s) own
  | [], _ => rfl
  | v :: vs, h => by
    show ((wipeE env vs).set v .un).set n s = (wipeE (env.set n s) vs).set v .un
    rw [List.set_comm _ _ (h v (List.mem_cons_self ..)), wipe_set fun w hw => h w (List.mem_cons_of_mem _ hw)]
theorem wipe_len {env : List Slot} : ∀ {own : List Nat}, (wipeE env own).length = env.length
  | [] => rfl
  | v :: vs => by
    show ((wipeE env vs).set v .un).length = _
    rw [List.length_set, wipe_len]
theorem back_eq {env e2 : List Slot} : ∀ {own : List Nat}, (∀ v ∈ own, v < env.length) → e2.length = env.length → (∀ i, (∀ v ∈ own, v ≠ i) → e2[i]? = env[i]?) → backE env e2 own = env := @Rq9 _ _ (fun qz => @Hq9.get _ _ (qz.bar : Hq9 _ (by
  clear qz
  intro own
  have key : ∀ own : List Nat, (∀ v ∈ own, v < env.length) → e2.length = env.length → ∀ i, (backE env e2 own)[i]? = if i ∈ own then env[i]? else e2[i]? := by
    intro own
    induction own with
    | nil => intro _ _ i; simp [backE]
    | cons v vs ih =>
      intro h1 h2 i
      show ((backE env e2 vs).set v (env.getD v .un))[i]? = _
      have hl : (backE env e2 vs).length = env.length := by
        clear ih h1
        induction vs with
        | nil => exact h2
        | cons w ws ih2 => show ((backE env e2 ws).set w _).length = _; rw [List.length_set, ih2]
      have hv := h1 v (List.mem_cons_self ..)
      by_cases q : v = i
      · subst q
        rw [List.getElem?_set_self (by omega), if_pos (List.mem_cons_self ..), List.getElem?_eq_getElem hv]
        simp [List.getD, List.getElem?_eq_getElem hv]
      · rw [List.getElem?_set_ne q, ih (fun w hw => h1 w (List.mem_cons_of_mem _ hw)) h2 i]
        have : (i ∈ v :: vs) ↔ i ∈ vs := by simp [Ne.symm q]
        simp only [this]
  intro h1 h2 h3
  refine List.ext_getElem? fun i => ?_
  rw [key own h1 h2 i]
  by_cases q : i ∈ own
  · rw [if_pos q]
  · rw [if_neg q, h3 i fun v hv z => q (z ▸ hv)]))) Xq9.mk
/-- [elt for tg in it if cond] by each item -/
theorem A_compL {α : Type} {tg : Tg} {it : Iter} {cond : Option Tm} {own : List Nat} (h : AI T it fr (fun xs fr1 => ∃ (f : α → D) (l : List α) (g : α → Option D), xs = l.map f ∧ ownFree fr1.env own = true ∧ (own.all fun v => Nat.blt v fr1.env.length) = true ∧ l.length ≤ 16777216 ∧
    (∀ x acc, x ∈ l → ∃ e3, bindT tg (f x) ⟨wipeE (fr1.env ++ [.own acc]) own, fr1.sto⟩ = some ⟨e3, fr1.sto⟩ ∧ wipeE e3 own = wipeE (fr1.env ++ [.own acc]) own ∧ AC T cond ⟨e3, fr1.sto⟩ (fun t fr4 => fr4 = ⟨e3, fr1.sto⟩ ∧ (t = true → AD T a ⟨e3, fr1.sto⟩ (fun d fr5 => fr5 = ⟨e3, fr1.sto⟩ ∧ g x = some d) noX) ∧ (t = false → g x = none)) noX) ∧
    P (.out (.fresh (l.filterMap g))) fr1) PX) : A T (.comp a tg it cond own) fr P PX := @Rq9 _ _ (fun qz => @Hq9.get _ _ (qz.bar : Hq9 _ (by
  clear qz
  refine A_compI (Rs.all_imp h (fun xs fr1 z => ?_) fun _ _ _ z => z)
  obtain ⟨f, l, g, rfl, z0, z1, z2, hs, hP⟩ := z
  have z2 : l.length ≤ sizeLine := by rw [size_is]; exact z2
  have z1 : ∀ v ∈ own, v < fr1.env.length := fun v hv => Nat.le_of_ble_eq_true (List.all_eq_true.mp z1 v hv)
  have hne : ∀ v ∈ own, v ≠ fr1.env.length := fun v hv => by have := z1 v hv; omega
  have hset : ∀ acc acc', (fr1.env ++ [Slot.own acc]).set fr1.env.length (.own acc') = fr1.env ++ [Slot.own acc'] := fun acc acc' => by
    rw [List.set_append_right _ _ (Nat.le_refl _), Nat.sub_self]; rfl
  have hget : ∀ acc, (fr1.env ++ [Slot.own acc])[fr1.env.length]? = some (.own acc) := fun acc => by
    rw [List.getElem?_append_right (Nat.le_refl _), Nat.sub_self]; rfl
  refine ⟨z0, fun i fr2 => fr2.sto = fr1.sto ∧ wipeE fr2.env own = wipeE (fr1.env ++ [.own ((l.take i).filterMap g)]) own, ⟨rfl, rfl⟩, ?_, ?_⟩
  · rintro i x ⟨e2, s2⟩ hx ⟨rfl, hw⟩
    have hw : wipeE e2 own = wipeE (fr1.env ++ [.own ((l.take i).filterMap g)]) own := hw
    rw [List.getElem?_map] at hx
    cases hy : l[i]? with
    | none => rw [hy] at hx; cases hx
    | some y =>
    rw [hy] at hx; cases hx
    have hlt := (List.getElem?_eq_some_iff.mp hy).1
    obtain ⟨e3, h1, h2, h3⟩ := hs y ((l.take i).filterMap g) (List.mem_of_getElem? hy)
    refine ⟨_, by rw [hw]; exact h1, ?_⟩
    have htake : l.take (i + 1) = l.take i ++ [y] := by rw [List.take_add_one, hy]; rfl
    refine Rs.all_imp h3 (fun t fr4 z => ?_) fun _ _ _ z => z
    obtain ⟨rfl, q1, q2⟩ := z
    have hle : ((l.take i).filterMap g).length < sizeLine := by
      have h5 := List.length_filterMap_le g (l.take i)
      have h6 : (l.take i).length = i := by rw [List.length_take]; omega
      omega
    refine ⟨fun e => Rs.all_imp (q1 e) (fun d fr5 z => ?_) fun _ _ _ z => z, fun e => ⟨rfl, ?_⟩⟩
    · obtain ⟨rfl, z⟩ := z
      have h3g : e3[fr1.env.length]? = some (.own ((l.take i).filterMap g)) := by
        have := wipe_get (env := e3) hne
        rw [h2, wipe_get hne, hget] at this
        exact this.symm
      refine ⟨_, h3g, hle, rfl, ?_⟩
      rw [← wipe_set hne, h2, wipe_set hne, hset, htake, List.filterMap_append]
      simp [z]
    · show wipeE e3 own = _
      rw [h2, htake, List.filterMap_append]
      simp [q2 e]
  · rintro ⟨e2, s2⟩ ⟨rfl, hw⟩
    have hw : wipeE e2 own = wipeE (fr1.env ++ [.own ((l.take (l.map f).length).filterMap g)]) own := hw
    rw [List.length_map, List.take_length] at hw
    refine ⟨l.filterMap g, ?_, ?_⟩
    · have := wipe_get (env := e2) hne
      rw [hw, wipe_get hne, hget] at this
      exact this.symm
    · have hl : e2.length = fr1.env.length + 1 := by
        have := congrArg List.length hw
        rw [wipe_len, wipe_len] at this
        simpa using this
      have : backE fr1.env (e2.take fr1.env.length) own = fr1.env := by
        refine back_eq z1 (by rw [List.length_take]; omega) fun i hi => ?_
        by_cases q : i < fr1.env.length
        · rw [List.getElem?_take_of_lt q]
          have := wipe_get (env := e2) (n := i) hi
          rw [hw, wipe_get hi, List.getElem?_append_left q] at this
          exact this.symm
        · rw [List.getElem?_eq_none (by rw [List.length_take]; omega), List.getElem?_eq_none (by omega)]
      show P _ ⟨backE fr1.env (e2.take fr1.env.length) own, fr1.sto⟩
      rw [this]
      exact hP))) Xq9.mk
/-! where a comprehension stands -/
theorem V_cmpComp0 {op : Cm} {tg : Tg} {it : Iter} {cond : Option Tm} {own : List Nat} (h : A T (.comp a tg it cond own) fr (fun r fr1 => ∃ xs, r = .out (.fresh xs) ∧ ∃ k, cmpD op (.lst xs) (.lst []) = some k ∧ PD (.bl k) fr1) PX) : AV T (.cmp op (.comp a tg it cond own) (.lst [])) fr PD PX :=
  A_cmp (A_imp h fun r fr1 z => by
    obtain ⟨xs, rfl, k, h1, h2⟩ := z
    exact A_lst (AS_nil ⟨by decide, .lst xs, .lst [], k, rfl, rfl, h1, _, rfl, h2⟩))
end
end Ag
namespace Ag
open PySem PySem.Spec L2
section
variable {G : Glb} {B : Ent} {n0 : Nat} {fr : Fr} {ρ : St} {H F F' : Hp} {io : List Addr} {x : Addr} {o1 o2 : HO} {sto : List Cell}
/-- the thing that is being made changes -/
theorem Ws.repend (w : Ws G (B.add x o1) n0 fr ρ H F io) (fx : F x = none) (nio : ∀ n : Nat, io[n]? ≠ some x) : Ws G (B.add x o2) n0 fr ρ (upd H x o2) F io := @Rq9 _ _ (fun qz => @Hq9.get _ _ (qz.bar : Hq9 _ (by
  clear qz
  have add : ∀ {a : Addr} {o : HO}, a ≠ x → (B.add x o).hp a = B.hp a := fun {a o} n => upd_ne n
  have hne : ∀ a u, H a = some u → a ≠ x → (upd H x o2) a = some u := fun a u e n => by rw [upd_ne n]; exact e
  refine ⟨⟨fun a u e => ?_, w.wr.len, fun n c e => ?_, w.wr.inj, fun a u e k => ?_, fun n a hn e => ?_, w.wr.frz, w.wr.nle, fun a u v e1 e2 => ?_⟩, w.sl.len, fun i sl e => ?_, w.sl.dis⟩
  · exact hne a u (w.wr.sub a u e) fun z => by rw [z, fx] at e; cases e
  · obtain ⟨a, e1, e2, e3⟩ := w.wr.cel n c e
    have na : a ≠ x := fun z => nio n (z ▸ e1)
    refine ⟨a, e1, e2, ?_⟩
    cases c with
    | dict kvs => obtain ⟨us, h1, h2⟩ := e3; exact ⟨us, hne _ _ h1 na, h2⟩
    | dictT kvs => obtain ⟨us, h1, h2⟩ := e3; exact ⟨us, hne _ _ h1 na, h2⟩
    | inst c fs => obtain ⟨dx, us, h1, h2⟩ := e3; exact ⟨dx, us, hne _ _ h1 na, h2⟩
  · have e : (B.add x o2).hp a = some u := e
    by_cases q : a = x
    · subst q
      have e' : upd B.hp a o2 a = some u := e
      rw [upd_same] at e' ⊢; exact e'
    · rw [add q] at e
      exact hne a u (w.wr.keep a u (by show (B.add x o1).hp a = _; rw [add q]; exact e) k) q
  · have na : a ≠ x := fun z => nio n (z ▸ e)
    have := w.wr.new n a hn e
    have this : (B.add x o1).hp a = none := this
    show (B.add x o2).hp a = none
    rw [add na] at this ⊢; exact this
  · have na : a ≠ x := fun z => by rw [z, fx] at e2; cases e2
    have e1 : (B.add x o2).hp a = some u := e1
    rw [add na] at e1
    exact w.wr.old a u v (by show (B.add x o1).hp a = _; rw [add na]; exact e1) e2
  · have q := w.sl.at_ i sl e
    cases sl with
    | un => trivial
    | val d => exact q
    | own xs =>
      obtain ⟨q, e1, vs, h1, h2, h3, h4, h5⟩ := q
      have h4 : (B.add x o1).hp q = none := h4
      have nq : q ≠ x := fun z => by
        have h4' : upd B.hp x o1 q = none := h4
        rw [z, upd_same] at h4'; cases h4'
      refine ⟨q, e1, vs, hne _ _ h1 nq, h2, h3, ?_, h5⟩
      show (B.add x o2).hp q = none
      rw [add nq] at h4 ⊢; exact h4))) Xq9.mk
end
section
variable {E : En} {e a b c : Expr} {ta tb tc : Tm} {fr : Fr} {σ tp : St} {H F : Hp} {io : List Addr} {Q : VK} {pos : Pos} {es : List Expr} {ts : List Tm} {D : Ends}
theorem RepF.put (inj : ∀ f g, E.G.fn f = E.G.fn g → f = g) {f : Nat} {d : Ag.D} {v : V} (h : Rep E.G F io d v) : ∀ {fs : List (Nat × Ag.D)} {us : List (Str × V)}, RepF E.G F io fs us → RepF E.G F io (fput f d fs) (putF (E.G.fn f) v us)
  | _, _, .nil => .cons h .nil
  | _, _, .cons (f := g) (d := d') (v := v') (ds := ds) (vs := vs) h1 r => by
    unfold fput putF
    by_cases q : g = f
    · subst q
      rw [if_pos rfl, if_pos rfl]
      exact .cons h r
    · rw [if_neg q, if_neg fun z => q (inj _ _ z)]
      exact .cons h1 (RepF.put inj h r)
theorem RepF.len {G : Glb} : ∀ {fs : List (Nat × Ag.D)} {us : List (Str × V)}, RepF G F io fs us → fs.length = us.length
  | _, _, .nil => rfl
  | _, _, .cons _ r => by rw [List.length_cons, List.length_cons, r.len]
/-- where the thing that is being made stands: known from the entry on, no part of F, no cell -/
structure Pend (E : En) (B : Ent) (x dx : Addr) (c : Nat) (us : List (Str × V)) (fr : Fr) (ρ : St) (H F : Hp) (io : List Addr) : Prop where
  ws : (E.at (B.add x (.ins (E.G.cl c) dx us))).ws fr ρ H F io
  fx : F x = none
  io : ∀ n : Nat, io[n]? ≠ some x
theorem Pend.at_ {B : Ent} {x dx : Addr} {k : Nat} {us : List (Str × V)} {ρ : St} (p : Pend E B x dx k us fr ρ H F io) : H x = some (.ins (E.G.cl k) dx us) := p.ws.wr.keep x _ upd_same fun n _ => p.io n
theorem Pend.of {B : Ent} {x dx : Addr} {k : Nat} {us : List (Str × V)} {ρ : St} {fr1 : Fr} {H1 F1 : Hp} {io1 : List Addr} (bx : B.fz x = none) (p : Pend E B x dx k us fr ρ H F io) (q : Pre io io1)
    (w : (E.at (B.add x (.ins (E.G.cl k) dx us))).ws fr1 ρ H1 F1 io1) : Pend E B x dx k us fr1 ρ H1 F1 io1 := @Rq9 _ _ (fun qz => @Hq9.get _ _ (qz.bar : Hq9 _ (by
  clear qz
  have hx : (B.add x (.ins (E.G.cl k) dx us)).hp x = some (.ins (E.G.cl k) dx us) := upd_same
  refine ⟨w, ?_, fun n e => ?_⟩
  · cases z : F1 x with
    | none => rfl
    | some u =>
      have : B.fz x = some u := w.wr.old x _ u hx z
      rw [bx] at this; cases this
  · by_cases h : n < E.n0
    · have hlt : n < io.length := Nat.lt_of_lt_of_le h p.ws.wr.nle
      have e2 := q n _ (List.getElem?_eq_getElem hlt)
      rw [e] at e2
      exact p.io n ((List.getElem?_eq_getElem hlt).trans e2.symm)
    · have := w.wr.new n x (Nat.le_of_not_lt h) e
      have this : (B.add x (.ins (E.G.cl k) dx us)).hp x = none := this
      rw [hx] at this; cases this))) Xq9.mk
/-- the statements of an __init__ -/
inductive Ini (E : En) (self : Str) : List Stmt → List (Option Nat × Tm) → Prop
  | nil : Ini E self [] []
  | doc {y : Str} {j : Nat} {p q : Pos} {sts ib} : Ini E self sts ib → Ini E self (.Expr (.Constant (.str y) j p) q :: sts) ib
  | set {f : Nat} {x : Str} {v : Expr} {t : Tm} {p1 p2 p3 : Pos} {sts ib} : E.G.fn f = x → (∀ l, swapsWith v (some (.Attribute (.Name self p1) x p2)) l E.X.env = pure false) → (∀ h0, SE (E.at h0) v t) → Ini E self sts ib → Ini E self (.Assign [.Attribute (.Name self p1) x p2] v p3 :: sts) ((some f, t) :: ib)
  | expr {v : Expr} {t : Tm} {p : Pos} {sts ib} : (∀ l, swapsWith v none l E.X.env = pure false) → (∀ h0, SE (E.at h0) v t) → Ini E self sts ib → Ini E self (.Expr v p :: sts) ((none, t) :: ib)
theorem Ini.run {self : Str} {sts : List Stmt} {ib : List (Option Nat × Tm)} (ok : E.Ok) (h : Ini E self sts ib) {k : Nat} (hN : E.X.N[0]? = some self) (hv : Vis E.X.env.scope self) (hd : (self == ("__debug__" : Str)) = false) (hcd : (self == ("__classdict__" : Str)) = false)
    (hc : Cls E.X.K (E.G.cl k)) (hna : ∀ f t, (some f, t) ∈ ib → NoAttr E.X.K (E.G.cl k) (E.G.fn f)) : ∀ {B : Ent} {x dx : Addr} {us : List (Str × V)} {fs : List (Nat × Ag.D)} {fr : Fr} {H F : Hp} {io : List Addr}, B.fz x = none → Ext E.H0 (B.add x (.ins (E.G.cl k) dx us)) → (∀ us, Ext E.H0 (B.add x (.ins (E.G.cl k) dx us))) → σ.length = E.X.N.length →
    σ[0]? = some (some (.ref x)) → Pend E B x dx k us fr (σ ++ tp) H F io → RepF E.G F io fs us →
    (iniGo E.T ib fs fr).all (fun fs' fr' => ∀ H' F' io' us', Same F F' → Pre io io' → Pend E B x dx k us' fr' (σ ++ tp) H' F' io' → RepF E.G F' io' fs' us' → D.nx σ H') (exE E σ tp F io) → wSs E.X sts D σ H := @Rq9 _ _ (fun qz => @Hq9.get _ _ (qz.bar : Hq9 _ (by
  clear qz
  induction h with
  | nil =>
    intro B x dx us fs fr H F io bx _ ext hl hs p r z
    unfold iniGo at z
    exact wSs_of pss_nil (z H F io us (Same.refl _) (Pre.refl _) p r)
  | doc h ih =>
    intro B x dx us fs fr H F io bx e1 ext hl hs p r z
    exact wSs_of (pss_cons ps_doc pss_w) (ih hna bx e1 ext hl hs p r z)
  | @set f y v t p1 p2 p3 sts ib hf hsw hv' h ih =>
    intro B x dx us fs fr H F io bx e1 ext hl hs p r z
    refine wSs_of (pss_cons (ps_fld (pe_var hN hv hd hcd) pe_w (hsw _)) pss_w) ?_
    unfold iniGo at z
    show wE E.X v σ H _
    refine SE.partX (E := E) (hv' (B.add x (.ins (E.G.cl k) dx us))) e1 hl p.ws z fun d fr1 u H1 F1 io1 s1 q1 w1 rd z1 => ?_
    have p1' := p.of bx q1 w1
    refine ⟨.ref x, hs, x, _, dx, us, rfl, p1'.at_, hc, by rw [← hf]; exact hna f t (List.mem_cons_self ..), ?_, ?_⟩
    · split at z1
      case isFalse => exact z1.elim
      rename_i hz
      rw [← r.len]; exact hz
    · split at z1
      case isFalse => exact z1.elim
      have w2 := Ws.repend (o2 := .ins (E.G.cl k) dx (putF y u us)) w1 p1'.fx p1'.io
      refine ih (us := putF y u us) (fs := fput f d fs) (fr := fr1) (fun g t' hg => hna g t' (List.mem_cons_of_mem _ hg)) bx (ext _) ext hl hs ⟨w2, p1'.fx, p1'.io⟩ ?_ ?_
      · rw [← hf]; exact RepF.put ok.inj rd (r.mono s1 q1)
      · exact Rs.all_imp z1 (fun fs' fr' g H' F' io' us' s2 q2 => g H' F' io' us' (s1.trans s2) (q1.trans q2)) fun _ _ _ g => g
  | @expr v t p0 sts ib hsw hv' h ih =>
    intro B x dx us fs fr H F io bx e1 ext hl hs p r z
    refine wSs_of (pss_cons (ps_expr pe_w (hsw _)) pss_w) ?_
    unfold iniGo at z
    show wE E.X v σ H _
    refine hv' (B.add x (.ins (E.G.cl k) dx us)) fr σ tp H F io _ hl p.ws (Rs.all_imp (Rs.all_bind z) (fun rv fr1 z1 => ?_) fun _ _ _ g => g.at e1)
    intro u H1 F1 io1 s1 q1 w1 _
    have p1' := p.of bx q1 w1
    exact ih (us := us) (fs := fs) (fr := fr1) (fun g t' hg => hna g t' (List.mem_cons_of_mem _ hg)) bx (ext _) ext hl hs p1' (r.mono s1 q1) (Rs.all_imp z1 (fun fs' fr' g H' F' io' us' s2 q2 => g H' F' io' us' (s1.trans s2) (q1.trans q2)) fun _ _ _ g => g.mono s1 q1)))) Xq9.mk
end
end Ag
namespace Ag
open PySem L2
section
variable {E : En} {fr : Fr} {σ tp : St} {H F : Hp} {io : List Addr} {Q : VK}
end
section
variable {P : Program} {w : World} {K : PySem.W.Frag} {mg : Str → Option Value} {base : Heap} {G : Glb} {T : Tab} {C : Cv} {k : Nat}
theorem GoodM.mono {j : Nat} {c m : Nat} {phi : Fn} (h : GoodM P w K mg base G j c m phi) (hj : j ≤ k) : GoodM P w K mg base G k c m phi := @Rq9 _ _ (fun qz => @Hq9.get _ _ (qz.bar : Hq9 _ (by
  clear qz
  obtain ⟨h1, g, h2, h3⟩ := h
  exact ⟨h1, g, h2, fun E e1 e2 e3 e4 e5 e6 ok hr => h3 E e1 e2 e3 e4 e5 e6 ok (hr.mono hj)⟩))) Xq9.mk
end
/-! ### names of attributes, numbers of classes -/
def fnT (tab : List Str) (n : Nat) : Str := match tab[n]? with | some s => s | none => ⟨Array.replicate (n + 1000) 120⟩
theorem fnT_inj {tab : List Str} (h1 : tab.Nodup) (h2 : tab.all (fun s => decide (s.cps.size < 1000)) = true) : ∀ f g, fnT tab f = fnT tab g → f = g := @Rq9 _ _ (fun qz => @Hq9.get _ _ (qz.bar : Hq9 _ (by
  clear qz
  have sz : ∀ (n : Nat) (s : Str), tab[n]? = some s → s.cps.size < 1000 := fun n s e => by
    have := List.all_eq_true.mp h2 s (List.mem_of_getElem? e)
    simpa using this
  intro f g e
  unfold fnT at e
  cases q1 : tab[f]? with
  | some a =>
    cases q2 : tab[g]? with
    | some b =>
      rw [q1, q2] at e
      have e : a = b := e
      subst e
      obtain ⟨l1, z1⟩ := List.getElem?_eq_some_iff.mp q1
      obtain ⟨l2, z2⟩ := List.getElem?_eq_some_iff.mp q2
      exact (List.getElem_inj h1).mp (z1.trans z2.symm)
    | none =>
      rw [q1, q2] at e
      have := congrArg (fun s : Str => s.cps.size) e
      have h := sz f a q1
      simp at this
      omega
  | none =>
    cases q2 : tab[g]? with
    | some b =>
      rw [q1, q2] at e
      have := congrArg (fun s : Str => s.cps.size) e
      have h := sz g b q2
      simp at this
      omega
    | none =>
      rw [q1, q2] at e
      have := congrArg (fun s : Str => s.cps.size) e
      simp at this
      omega))) Xq9.mk
def clT (cs : List Addr) (n : Nat) : Addr := cs.getD n 0
/-- the fields of the exception classes, by number -/
def xfT (c : Nat) : List Nat := (([(5, [10]), (6, [11]), (7, [12]), (8, [12]), (9, [5, 13]), (10, [14])] : List (Nat × List Nat)).lookup c).getD []
def glbT (K : PySem.W.Frag) (cs : List Addr) (tab : List Str) : Glb := ⟨K, clT cs, fnT tab, xfT⟩
def fldT (fl : List (Nat × List Nat)) (c f : Nat) : Bool := match fl.lookup c with | some l => l.contains f | none => false
theorem baseT {K : PySem.W.Frag} {mg : Str → Option Value} {T : Tab} {C : Cv} {cs : List Addr} {tab : List Str} (h1 : tab.Nodup) (h2 : tab.all (fun s => decide (s.cps.size < 1000)) = true) (hf : ∀ c f, T.fld c f = true → Cls K (clT cs c) ∧ NoAttr K (clT cs c) (fnT tab f))
    (hn : ∀ x i, C.nms.lookup x = some i → fnT tab i = x) (hg : C.globs = []) (hb : ∀ x, C.blts.contains x = true → mg x = none) : Base K mg (glbT K cs tab) T C where
  k := rfl
  inj := fnT_inj h1 h2
  fld := hf
  nms := hn
  globs := fun x g e => by rw [hg] at e; cases e
  blts := hb
/-! ### tables of methods and of fields -/
def psiT (l : List ((Nat × Nat) × Nat)) (c m : Nat) : Option Nat := l.lookup (c, m)
theorem psi_nil {Q : Nat → Nat → Nat → Prop} : ∀ c m i, psiT [] c m = some i → Q c m i := fun c m i e => by cases e
theorem fld_nil {Q : Nat → Nat → Prop} : ∀ c f, fldT [] c f = true → Q c f := fun c f e => by cases e
theorem nms_nil {Q : Str → Nat → Prop} : ∀ x i, ([] : List (Str × Nat)).lookup x = some i → Q x i := fun x i e => by cases e
end Ag
/-! an own exception over ValueError whose __init__ says super().__init__("..") and keeps its arguments -/
namespace Ag
open PySem PySem.Spec PyProof.Rows L2
section
variable {prog : Program} {w : World} {A : Around} {E : Value → Shared → Prop} {h : Heap} {g : Array GenState} {d : Drawn} {t : Nat} {os : OsState}
end
end Ag
namespace Ag
open PySem PySem.Spec PyProof.Rows L2
/-- what the written part says of such an __init__ of the class at C -/
structure SupC (P : Program) (K : PySem.W.Frag) (mg : Str → Option Value) (C cc : Addr) : Prop where
  ox : OexC K C
  cell : ∃ cl cld csl, K.lookup cc = some ⟨cl, cld, .cell (some (.ref C)), csl⟩
  sup : PySem.W.ks_superIn K C C "__init__" = some (some (.builtin "ValueError.__init__"))
  opq : PySem.W.nsIn K cStatics "thirdparty.any" = some none
  ve : PySem.W.subIn K (.ref C) (.type "ValueError") = some true
  self : PySem.W.mroIn K C (.ref C) = some true
  nosup : mg "super" = none
  top : (P.main.scope.names.lookup ("super" : Str)).isSome = false
/-- the names of such an __init__'s scope -/
structure SupScope (ps : List Str) (sc : Scope) : Prop where
  kind : sc.kind = .function
  co : sc.isCoroutine = false
  gen : sc.isGenerator = false
  nd : (("self" : Str) :: ps).Nodup
  par : ∀ x ∈ (("self" : Str) :: ps), sc.names.lookup x = some .local
  free : ∀ x, (sc.names.lookup x = some .cell ∨ sc.names.lookup x = some .free) → x = "__class__"
  cells : ∀ x ∈ sc.names, x.2 ≠ .cell
  sup : sc.names.lookup ("super" : Str) = some .globalImplicit
  cls : sc.names.lookup ("__class__" : Str) = some .free
section
variable {P : Program} {w : World} {K : PySem.W.Frag} {mg : Str → Option Value} {base : Heap} {ps : List Str} {qual : Str} {scope : Scope} {f cc cda C a : Addr} {A : Around} {outer : List Env} {s s1 : Shared} {H : Hp} {E : XK} {us : List Value} {vs : List V}
end
end Ag
namespace Ag
open PySem PySem.Spec PyProof.Rows L2
/-- a def with its class at hand -/
structure FunS (K : PySem.W.Frag) (P : Program) (x qual : Str) (st : Stmt) (f cc : Addr) (fd : FuncData) : Prop where
  ex : ∃ (oc : Value) (od : Option Addr) (kV doc pm : Value) (an : Option Addr) (cda : Addr) (ct : Value) (osl : Array (Option Value)) (oc2 : Value) (od2 : Option Addr) (osl2 : Array (Option Value)) (cvs : Array Value) (file : Str) (tf : Tok),
    fd = PySem.W.ksFn x qual (defArgs st) (defBody st) (defScope st) .none kV doc pm an (.ref cda) ct cc ∧ K.lookup f = some ⟨oc, od, .func fd, osl⟩ ∧ PySem.W.codeIn K (.ref cda) qual = true ∧
    K.lookup cda = some ⟨oc2, od2, .fields cvs, osl2⟩ ∧ cvs[2]? = some (.str file tf) ∧ ((P.main.file : Str) == file) = true
  kp : PySem.W.keepIn K (.ref f) = true
section
variable {P : Program} {w : World} {K : PySem.W.Frag} {mg : Str → Option Value} {base : Heap} {ps fs : List Str} {qual : Str} {st : Stmt} {f cc C : Addr} {fd : FuncData} {k : Nat}
end
end Ag
namespace Ag
open PySem PySem.Spec L2
section
variable {P : Program} {w : World} {K : PySem.W.Frag} {mg : Str → Option Value} {base : Heap} {G : Glb}
theorem FunS.binds {x qual : Str} {st : Stmt} {f cc : Addr} {fd : FuncData} {ps : List Str} (FF : FunS K P x qual st f cc fd)
    (h : ∀ (kV doc pm : Value) (an : Option Addr) (cda : Addr) (ct : Value) (us : List Value), us.length = ps.length → bindArgs (PySem.W.ksFn x qual (defArgs st) (defBody st) (defScope st) .none kV doc pm an (.ref cda) ct cc) ⟨us, []⟩ = pure (ps.zip us)) : Binds K fd ps [] := @Rq9 _ _ (fun qz => @Hq9.get _ _ (qz.bar : Hq9 _ (by
  clear qz
  obtain ⟨oc, od, kV, doc, pm, an, cda, ct, osl, oc2, od2, osl2, cvs, file, tf, rfl, _⟩ := FF.ex
  exact Binds.all fun us hl => h _ _ _ _ _ _ us hl))) Xq9.mk
end
/-! ### tables -/
end Ag
namespace Ag
open PySem PySem.Spec PyProof.Rows L2
def spLaw (K : PySem.W.Frag) : Sp := fun vs H Q _ => ∃ (a : Addr) (ns : List Int), vs = [V.ref a] ∧ SqL K H a (ns.map V.int) ∧ ns.length ≤ 63 ∧ Only H ∧ ∀ H', Q (.bl true) H'
def Keeps (phi : Fn) : Prop := ∀ ns : List Int, ns.length ≤ 63 → (phi [.rol (ns.map D.int)] []).all (fun o _ => o = .val (.bl true)) (fun _ _ _ => False)
theorem reps_ints {G : Glb} {F : Hp} {io : List Addr} : ∀ ns : List Int, Reps G F io (ns.map D.int) (ns.map V.int)
  | [] => .nil
  | n :: ns => .cons (.int n) (reps_ints ns)
theorem law_sp {P : Program} {w : World} {K : PySem.W.Frag} {mg : Str → Option Value} {base : Heap} {CX : CXT} {k : Nat} {f : Addr} {fd : FuncData} {ps : List Str} {G : Glb} {phi : Fn} (F : FnOk P w K mg base CX k f fd ps (spI G 1 phi)) (hK : G.K = K)
    (h : Keeps phi) : FnOk P w K mg base CX k f fd ps (spLaw K) := F.imp fun vs H Q Ex ⟨a, ns, e, hS, hl, hO, hq⟩ => by
  subst e
  have hk := h ns hl
  refine ⟨[.rol (ns.map D.int)], [], H, [], rfl, .cons (.rol (by rw [hK]; exact hS) (reps_ints ns)) .nil, ⟨fun _ _ e => e, rfl, fun n c e => (by cases e), fun i j b e => (by cases e), fun b o e _ => e, fun n b _ e => (by cases e), fun b o e => ?_, Nat.le_refl _, fun b o u _ e => e⟩, ?_⟩
  · rcases hO b with z | ⟨o', xs, z⟩
    · rw [z] at e; cases e
    · rw [z] at e; cases e; trivial
  · cases q : phi [.rol (ns.map D.int)] [] with
    | ret o s =>
      rw [q] at hk
      have e : o = .val (.bl true) := hk
      subst e
      intro v H' F' io' _ _ _ r
      cases r
      exact hq H'
    | exc c fs s => rw [q] at hk; exact hk.elim
    | bad => rw [q] at hk; exact hk.elim
theorem law_walk {l : PySem.W.OpenLaw} {k : Nat} {q : Program} {loose : List Str} {XP : (Str → Option Value) → Heap → Prop} {YP : World → Heap → Prop} {d : DefRec} {K : Params → PySem.W.Frag} (hn : l.most = some 63) (hdf : d.params.defaults = []) (hr : Room k callerA)
    (hY : ∀ (w : World) (h : Heap), YP w h → (K w.params).In h)
    (F : ∀ (w : World) (mg : Str → Option Value) (fa : Addr) (h : Heap), (K w.params).In h → h.Ns mainGlobals mg → mg d.name = some (.ref fa) →
      ∃ fd : FuncData, (∀ (s : Shared) (u : Value), BindsTo s fd ⟨[u], []⟩ [("_law_script", u)]) ∧ ∀ base : Heap, (K w.params).In base → base.Ns mainGlobals mg → FnOk l.prog w (K w.params) mg base (L2.CX l.prog w) k fa fd ["_law_script"] (spLaw (K w.params))) :
    PySem.W.WalkO q loose XP YP l.row.toRowW d [] (fun f vs => PySem.call f vs) :=
  L2.walk_of (n := 63) (k := k) (x := "_law_script") (CX := fun w => L2.CX l.prog w) (sp := fun w => spLaw (K w.params)) hn (by decide) hdf hr hY F (fun _ _ a ns hl hO hS => ⟨a, ns, rfl, hS, hl, hO, fun _ => rfl⟩)
    fun w H s e s' z => by
      obtain ⟨a, B, H', cls, dd, _, _, _, _, _, _, _, z⟩ := z
      exact z
/-! ### tables -/
theorem fns_nil {Q : Str → Nat → Prop} : ∀ x i, ([] : List (Str × Nat)).lookup x = some i → Q x i := fun x i e => by cases e
theorem fns_cons {Q : Str → Nat → Prop} {n : Str} {j : Nat} {L : List (Str × Nat)} (h : Q n j) (t : ∀ x i, L.lookup x = some i → Q x i) : ∀ x i, ((n, j) :: L).lookup x = some i → Q x i := fun x i e => by
  have e' : (match x == n with | true => some j | false => L.lookup x) = some i := e
  cases q : x == n with
  | true =>
    rw [q] at e'
    cases e'
    rw [eq_of_beq q]; exact h
  | false => rw [q] at e'; exact t x i e'
theorem blts_nil {mg : Str → Option Value} : ∀ x, ([] : List Str).contains x = true → mg x = none := fun x e => by cases e
theorem blts_cons {mg : Str → Option Value} {b : Str} {L : List Str} (h : mg b = none) (t : ∀ x, L.contains x = true → mg x = none) : ∀ x, (b :: L).contains x = true → mg x = none := fun x e => by
  rw [List.contains_cons] at e
  cases q : x == b with
  | true => rw [eq_of_beq q]; exact h
  | false => rw [q] at e; exact t x e
end Ag
namespace Ag
open PySem L2
def Nf {α : Type} (a b : α) : Prop := a = b
theorem Nf.rfl {α : Type} {a : α} : Nf a a := Eq.refl a
theorem XS_norm {T : Tab} {ss : List Stm} {fr : Fr} {K : SxP} {env : List Slot} {sto : List Cell} (e1 : Nf fr.env env) (e2 : Nf fr.sto sto) (h : XS T ss ⟨env, sto⟩ K) : XS T ss fr K := by
  cases e1; cases e2; exact h
def T0 : Tab := ⟨fun _ _ _ => .bad, fun _ _ => false, fun _ _ => none, fun _ => none, fun _ _ => none⟩
def Tab.add (T : Tab) (i : Nat) (f : Fn) : Tab := { T with phi := fun j => if j = i then f else T.phi j }
/-- a small number -/
theorem sm_of {n : Int} (h1 : -1000000000000000000000000000000000000000000000000000000000000000000000000000000000000000000000000000000 < n) (h2 : n < 1000000000000000000000000000000000000000000000000000000000000000000000000000000000000000000000000000000) : Sm n := @Rq9 _ _ (fun qz => @Hq9.get _ _ (qz.bar : Hq9 _ (by
  clear qz
  unfold Sm
  have : (1000000000000000000000000000000000000000000000000000000000000000000000000000000000000000000000000000000 : Nat) < 2 ^ 1000 := by decide
  omega))) Xq9.mk
theorem mul_ok {a b : Int} (h1 : -1000000000000000000000000000000000000000000000000000000000000000000000000000000000000000000000000000000 < a) (h2 : a < 1000000000000000000000000000000000000000000000000000000000000000000000000000000000000000000000000000000)
    (h3 : -1000000000000000000000000000000000000000000000000000000000000000000000000000000000000000000000000000000 < b) (h4 : b < 1000000000000000000000000000000000000000000000000000000000000000000000000000000000000000000000000000000) : mulOk a b = true := sm_mul (sm_of h1 h2) (sm_of h3 h4)
theorem div_ok {b : Int} (h3 : 0 < b) (h4 : b < 1000000000000000000000000000000000000000000000000000000000000000000000000000000000000000000000000000000) : divOk b = true := sm_div h3 (sm_of (by omega) h4)
section
variable {T : Tab} {fr : Fr} {P : RV → Fr → Prop} {PD : D → Fr → Prop} {PX : PXt} {K : SxP} {a b c : Tm} {i : Nat} {d : D} {xs : List D} {sto : List Cell} {env : List Slot}
theorem C_lt {x y : Int} {P : Bool → Prop} (h : P (decide (x < y))) : ∃ k, cmpD .lt (.int x) (.int y) = some k ∧ P k := ⟨_, rfl, h⟩
theorem C_le {x y : Int} {P : Bool → Prop} (h : P (decide (x ≤ y))) : ∃ k, cmpD .le (.int x) (.int y) = some k ∧ P k := ⟨_, rfl, h⟩
theorem C_ge {x y : Int} {P : Bool → Prop} (h : P (decide (y ≤ x))) : ∃ k, cmpD .ge (.int x) (.int y) = some k ∧ P k := ⟨_, rfl, h⟩
theorem C_isnI {x : Int} {P : Bool → Prop} (h : P true) : ∃ k, cmpD .isn (.int x) .non = some k ∧ P k := ⟨_, rfl, h⟩
theorem C_isnN {P : Bool → Prop} (h : P false) : ∃ k, cmpD .isn .non .non = some k ∧ P k := ⟨_, rfl, h⟩
theorem C_isI {x : Int} {P : Bool → Prop} (h : P false) : ∃ k, cmpD .is_ (.int x) .non = some k ∧ P k := ⟨_, rfl, h⟩
theorem C_isN {P : Bool → Prop} (h : P true) : ∃ k, cmpD .is_ .non .non = some k ∧ P k := ⟨_, rfl, h⟩
theorem I_neg {n : Int} {P : Int → Prop} (h : P n) : ∃ m, D.int n = .int m ∧ P m := ⟨_, rfl, h⟩
theorem L_int {n : Int} {P : D → Prop} (h : P (.int n)) : ∃ ds e, looks env [.out (.val (.int n))] = some ds ∧ biD .int_ ds = some (.val e) ∧ P e := ⟨_, _, rfl, rfl, h⟩
theorem L_lenL {P : D → Prop} (h : P (.int xs.length)) : ∃ ds e, looks env [.out (.val (.lst xs))] = some ds ∧ biD .len ds = some (.val e) ∧ P e := ⟨_, _, rfl, rfl, h⟩
theorem L_lenR {P : D → Prop} (h : P (.int xs.length)) : ∃ ds e, looks env [.out (.val (.rol xs))] = some ds ∧ biD .len ds = some (.val e) ∧ P e := ⟨_, _, rfl, rfl, h⟩
theorem L_lenT {P : D → Prop} (h : P (.int xs.length)) : ∃ ds e, looks env [.out (.val (.tup xs))] = some ds ∧ biD .len ds = some (.val e) ∧ P e := ⟨_, _, rfl, rfl, h⟩
theorem O_powN {x y z : Int} {P : D → Prop} (e : powOk x y = true) (e2 : Nf (x ^ y.toNat) z) (h : P (.int z)) : ∃ d, opD .pow (.int x) (.int y) = some (.val d) ∧ P d := by cases e2; exact O_pow e h
/-! ### the pen -/
def penC (cs : List Int) (a l : Int) : Cell := .dict [(.inr "cells", .lst (cs.map D.int)), (.inr "at", .int a), (.inr "left", .int l)]
theorem ix_cell {n : Nat} {kvs : List (Key × D)} {k : D} {kk : Key} {v : D} (h : sto[n]? = some (.dict kvs)) (hk : keyOf k = some kk) (hd : dget kvs kk = some v) : ixD sto (.cell n) k = some v := @Rq9 _ _ (fun qz => @Hq9.get _ _ (qz.bar : Hq9 _ (by
  clear qz
  have : ixD sto (.cell n) k = (match sto[n]?, keyOf k with | some (.dict kvs), some k => dget kvs k | _, _ => none) := rfl
  rw [this, h, hk]; exact hd))) Xq9.mk
theorem ix_left {p : Nat} {cs : List Int} {a l : Int} (h : sto[p]? = some (penC cs a l)) {P : D → Prop} (k : P (.int l)) : ∃ v, ixD sto (.cell p) (.str "left") = some v ∧ P v := ⟨_, ix_cell h rfl (by kernel_rfl), k⟩
theorem ix_at {p : Nat} {cs : List Int} {a l : Int} (h : sto[p]? = some (penC cs a l)) {P : D → Prop} (k : P (.int a)) : ∃ v, ixD sto (.cell p) (.str "at") = some v ∧ P v := ⟨_, ix_cell h rfl (by kernel_rfl), k⟩
theorem ix_cells {p : Nat} {cs : List Int} {a l : Int} (h : sto[p]? = some (penC cs a l)) {P : D → Prop} (k : P (.lst (cs.map D.int))) : ∃ v, ixD sto (.cell p) (.str "cells") = some v ∧ P v := ⟨_, ix_cell h rfl (by kernel_rfl), k⟩
theorem X_left {o : Nat} {v : Tm} (hq : ownSlot (.slot o) fr.env = none) (h : AV T v fr (fun d fr1 => ∃ z p cs a l, d = .int z ∧ fr1.env[o]? = some (.val (.cell p)) ∧ fr1.sto[p]? = some (penC cs a l) ∧ K.next ⟨fr1.env, fr1.sto.set p (penC cs a z)⟩) K.exc) : X T (.setk (.slot o) (.str "left") v) fr K :=
  X_setkV hq (A_imp h fun r fr1 q => by
    obtain ⟨d, rfl, z, p, cs, a, l, rfl, h1, h2, h3⟩ := q
    refine ⟨_, rfl, V_slot h1 (V_str ⟨p, _, _, rfl, rfl, h2, (by decide : 3 < 1000), ?_⟩)⟩
    have e : Cell.dict (kput [(.inr "cells", .lst (cs.map D.int)), (.inr "at", .int a), (.inr "left", .int l)] (.inr "left") (.int z)) = penC cs a z := by kernel_rfl
    rw [e]; exact h3)
theorem X_at {o : Nat} {v : Tm} (hq : ownSlot (.slot o) fr.env = none) (h : AV T v fr (fun d fr1 => ∃ z p cs a l, d = .int z ∧ fr1.env[o]? = some (.val (.cell p)) ∧ fr1.sto[p]? = some (penC cs a l) ∧ K.next ⟨fr1.env, fr1.sto.set p (penC cs z l)⟩) K.exc) : X T (.setk (.slot o) (.str "at") v) fr K :=
  X_setkV hq (A_imp h fun r fr1 q => by
    obtain ⟨d, rfl, z, p, cs, a, l, rfl, h1, h2, h3⟩ := q
    refine ⟨_, rfl, V_slot h1 (V_str ⟨p, _, _, rfl, rfl, h2, (by decide : 3 < 1000), ?_⟩)⟩
    have e : Cell.dict (kput [(.inr "cells", .lst (cs.map D.int)), (.inr "at", .int a), (.inr "left", .int l)] (.inr "at") (.int z)) = penC cs z l := by kernel_rfl
    rw [e]; exact h3)
theorem set_get {α : Type} {xs : List α} {p : Nat} {x y : α} (h : xs[p]? = some x) : (xs.set p y)[p]? = some y := @Rq9 _ _ (fun qz => @Hq9.get _ _ (qz.bar : Hq9 _ (by
  clear qz
  have := (List.getElem?_eq_some_iff.mp h).1
  rw [List.getElem?_set_self this]))) Xq9.mk
theorem set_set {α : Type} {xs : List α} {p : Nat} {x y : α} : (xs.set p x).set p y = xs.set p y := List.set_set ..
end
/-! ### a list beside [] -/
theorem toPys_ints : ∀ cs : List Int, toPys (cs.map D.int) = some (cs.map PyData.int)
  | [] => rfl
  | c :: cs => by
    show (match toPy (.int c), toPys (cs.map D.int) with | some x, some xs => some (x :: xs) | _, _ => none) = _
    rw [toPys_ints cs]; rfl
theorem depths_ints : ∀ cs : List Int, PyData.depthAll (cs.map PyData.int) = 0
  | [] => rfl
  | c :: cs => by
    show max (PyData.depth (.int c)) (PyData.depthAll (cs.map PyData.int)) = 0
    rw [depths_ints cs]; rfl
theorem canLay_ints : ∀ cs : List Int, PyData.canLayAll0 (cs.map PyData.int) = true
  | [] => rfl
  | c :: cs => by
    show (PyData.canLay0 (.int c) && PyData.canLayAll0 (cs.map PyData.int)) = true
    rw [canLay_ints cs]; rfl
theorem eqD_ints_nil (cs : List Int) : eqD (.lst (cs.map D.int)) (.lst []) = some cs.isEmpty := @Rq9 _ _ (fun qz => @Hq9.get _ _ (qz.bar : Hq9 _ (by
  clear qz
  have e1 : toPy (.lst (cs.map D.int)) = some (.list (cs.map PyData.int)) := by
    show (toPys (cs.map D.int)).map PyData.list = _
    rw [toPys_ints]; rfl
  have e2 : SeqAt.shaped (.list (cs.map PyData.int)) = true := by
    show (PyData.canLayAll0 (cs.map PyData.int) && decide (PyData.depthAll (cs.map PyData.int) + 1 ≤ 64)) = true
    rw [canLay_ints, depths_ints]; rfl
  have : eqD (.lst (cs.map D.int)) (.lst []) = eqP (.lst (cs.map D.int)) (.lst []) := rfl
  rw [this]
  unfold eqP
  rw [e1]
  show (if (SeqAt.shaped (.list (cs.map PyData.int)) && SeqAt.shaped (.list [])) = true then some (PyData.eqv (.list (cs.map PyData.int)) (.list [])) else none) = _
  rw [e2]
  cases cs with
  | nil => rfl
  | cons c cs => rfl))) Xq9.mk
def b_pen : List Stm := [.ret (.dict [(.inr "cells", .bi .list_ [.slice (.slot 0) none (some (.int 63))]), (.inr "at", .int 0), (.inr "left", .int 0)])]
def b_draw : List Stm := [.ite (.cmp .ge (.ix (.slot 0) (.str "left")) (.slot 1)) [.asg (.slot 5) (.bin .mod (.bi .int_ [.ix (.slot 0) (.str "left")]) (.slot 1)), .setk (.slot 0) (.str "left") (.bin .fdiv (.ix (.slot 0) (.str "left")) (.slot 1)), .ret (.slot 5)] [], .asg (.slot 2) (.ix (.slot 0) (.str "at")), .setk (.slot 0) (.str "at") (.bin .add (.slot 2) (.int 1)), .asg (.slot 3) (.bin .add (.bin .mul (.int 41) (.slot 2)) (.int 23)), .ite (.cmp .ne (.ix (.slot 0) (.str "cells")) (.lst [])) [.asg (.slot 3) (.ix (.ix (.slot 0) (.str "cells")) (.bin .mod (.bi .int_ [.slot 2]) (.bi .len [.ix (.slot 0) (.str "cells")])))] [], .ite (.and_ (.cmp .lt (.slot 2) (.bi .len [.ix (.slot 0) (.str "cells")])) (.cmp .ge (.slot 3) (.bin .pow (.int 10) (.int 18)))) [.setk (.slot 0) (.str "left") (.bin .fdiv (.bin .sub (.slot 3) (.bin .pow (.int 10) (.int 18))) (.slot 1)), .ret (.bin .mod (.bi .int_ [.bin .sub (.slot 3) (.bin .pow (.int 10) (.int 18))]) (.slot 1))] [], .asg (.slot 4) (.bin .add (.bin .add (.bin .add (.bin .mul (.bin .mod (.bi .int_ [.slot 3]) (.int 2147483587)) (.int 48271)) (.bin .mul (.bin .mul (.int 40014) (.slot 2)) (.slot 2))) (.bin .mul (.int 59) (.slot 2))) (.int 17)), .asg (.slot 4) (.bin .mod (.bi .int_ [.slot 4]) (.int 2147483629)), .asg (.slot 4) (.bin .mod (.bi .int_ [.bin .mul (.slot 4) (.bin .add (.slot 4) (.int 69621))]) (.int 2147483549)), .ret (.bin .mod (.bi .int_ [.bin .fdiv (.bin .mod (.bi .int_ [.bin .mul (.slot 4) (.slot 4)]) (.int 2147483579)) (.int 32)]) (.slot 1))]
def b_pick : List Stm := [.ret (.ix (.slot 1) (.call 201 [.slot 0, .bi .len [.slot 1]]))]
noncomputable def p_pen : Fn := fx T0 1 1 b_pen
noncomputable def p_draw : Fn := fx T0 2 6 b_draw
noncomputable def T_pick : Tab := T0.add 201 p_draw
noncomputable def p_pick : Fn := fx T_pick 2 2 b_pick
section
variable {T : Tab} {fr : Fr} {P : RV → Fr → Prop} {PD : D → Fr → Prop} {PX : PXt} {K : SxP} {a b c : Tm} {i : Nat} {d : D} {xs : List D} {sto : List Cell} {env : List Slot}
theorem V_cmpNil {op : Cm} (h : AV T a fr (fun x fr1 => ∃ k, cmpD op x (.lst []) = some k ∧ PD (.bl k) fr1) PX) : AV T (.cmp op a (.lst [])) fr PD PX :=
  A_cmp (A_V (A_imp h fun r fr1 z => by
    obtain ⟨x, rfl, k, h1, h2⟩ := z
    exact ⟨x, rfl, A_lst (AS_nil ⟨by decide, x, .lst [], k, rfl, rfl, h1, _, rfl, h2⟩)⟩))
theorem C_neNil {cs : List Int} {P : Bool → Prop} (h : P (!cs.isEmpty)) : ∃ k, cmpD .ne (.lst (cs.map D.int)) (.lst []) = some k ∧ P k := ⟨_, by
  show (eqD (.lst (cs.map D.int)) (.lst [])).map (!·) = _
  rw [eqD_ints_nil]; rfl, h⟩
theorem atI_ok {α : Type} {xs : List α} {i : Int} (h0 : 0 ≤ i) (h1 : i < xs.length) : atI xs i = xs[i.toNat]? := @Rq9 _ _ (fun qz => @Hq9.get _ _ (qz.bar : Hq9 _ (by
  clear qz
  unfold atI ixN
  rw [if_pos h0, if_pos h1]; rfl))) Xq9.mk
theorem ix_ints {cs : List Int} {i : Int} (h0 : 0 ≤ i) (h1 : i < cs.length) {P : D → Prop} (k : ∀ z, P (.int z)) : ∃ v, ixD sto (.lst (cs.map D.int)) (.int i) = some v ∧ P v := @Rq9 _ _ (fun qz => @Hq9.get _ _ (qz.bar : Hq9 _ (by
  clear qz
  have hlt : i.toNat < cs.length := by omega
  refine ⟨.int cs[i.toNat], ?_, k _⟩
  show atI (cs.map D.int) i = _
  rw [atI_ok h0 (by rw [List.length_map]; exact h1), List.getElem?_map, List.getElem?_eq_getElem hlt]; rfl))) Xq9.mk
theorem ix_lst {i : Int} (h0 : 0 ≤ i) (h1 : i < xs.length) {P : D → Prop} (k : ∀ z, xs[i.toNat]? = some z → P z) : ∃ v, ixD sto (.lst xs) (.int i) = some v ∧ P v := @Rq9 _ _ (fun qz => @Hq9.get _ _ (qz.bar : Hq9 _ (by
  clear qz
  have hlt : i.toNat < xs.length := by omega
  refine ⟨xs[i.toNat], ?_, k _ (List.getElem?_eq_getElem hlt)⟩
  show atI xs i = _
  rw [atI_ok h0 h1, List.getElem?_eq_getElem hlt]))) Xq9.mk
def PenC (B : Int) (c : Cell) : Prop := ∃ cs a l, c = penC cs a l ∧ 0 ≤ a ∧ a ≤ B ∧ 0 ≤ l
theorem PenC.mono {B B' : Int} {c : Cell} (h : PenC B c) (hb : B ≤ B') : PenC B' c := @Rq9 _ _ (fun qz => @Hq9.get _ _ (qz.bar : Hq9 _ (by
  clear qz
  obtain ⟨cs, a, l, e, h1, h2, h3⟩ := h
  exact ⟨cs, a, l, e, h1, by omega, h3⟩))) Xq9.mk
end
section
variable {T : Tab} {fr : Fr} {PD : D → Fr → Prop} {PX : PXt} {K : SxP} {a : Tm} {sto : List Cell} {env : List Slot}
theorem V_id (h : AV T a fr PD PX) : AV T a fr PD PX := h
theorem O_id {op : Op2} {x y : D} {P : D → Prop} (h : ∃ d, opD op x y = some (.val d) ∧ P d) : ∃ d, opD op x y = some (.val d) ∧ P d := h
theorem C_id {op : Cm} {x y : D} {P : Bool → Prop} (h : ∃ k, cmpD op x y = some k ∧ P k) : ∃ k, cmpD op x y = some k ∧ P k := h
theorem L_id {b : Bi} {rs : List RV} {P : D → Prop} (h : ∃ ds e, looks env rs = some ds ∧ biD b ds = some (.val e) ∧ P e) : ∃ ds e, looks env rs = some ds ∧ biD b ds = some (.val e) ∧ P e := h
theorem I_id {x y : D} {P : D → Prop} (h : ∃ v, ixD sto x y = some v ∧ P v) : ∃ v, ixD sto x y = some v ∧ P v := h
theorem B_id {b : Bool} {P : Bool → Prop} (h : ∃ k, D.bl b = D.bl k ∧ P k) : ∃ k, D.bl b = D.bl k ∧ P k := h
theorem D_id {PD : D → Fr → Prop} (h : AD T a fr PD PX) : AD T a fr PD PX := h
theorem X_id {s : Stm} (h : X T s fr K) : X T s fr K := h
theorem XS_id {ss : List Stm} (h : XS T ss fr K) : XS T ss fr K := h
end
section
local macro_rules | `(tactic| walk_at "nrm") => `(tactic| with_reducible refine XS_norm (by with_unfolding_all ((try simp only [setE, cutE, optD_none, optD_some, List.set_cons_zero, List.set_cons_succ, List.cons_append, List.nil_append, List.length_cons, List.length_nil, Nat.reduceAdd, List.take_succ_cons, List.take_zero]); exact Nf.rfl)) (by with_unfolding_all ((try simp only [setE, cutE, optD_none, optD_some, set_set, List.set_cons_zero, List.set_cons_succ]); exact Nf.rfl)) ?_)
local macro_rules | `(tactic| walk_at "w") => `(tactic| repeat' first
  | (with_reducible refine V_id ?_; first
    | (with_reducible refine' V_slot ?s1 ?_; (case s1 => with_unfolding_all exact rfl)) | (with_reducible refine V_int ?_) | (with_reducible refine V_bin ?_) | (with_reducible refine V_cmpComp0 ?_) | (with_reducible refine' V_cmpOwn0 ?s1 ?_; (case s1 => with_unfolding_all exact rfl)) | (with_reducible refine V_cmpNil ?_) | (with_reducible refine V_cmp ?_)
    | (with_reducible refine V_str ?_) | (with_reducible refine V_bi ?_) | (with_reducible refine' V_ixO ?s1 ?_; (case s1 => with_unfolding_all exact rfl)) | (with_reducible refine V_ix ?_) | (with_reducible refine V_call ?_) | (with_reducible refine V_attr ?_)
    | (with_reducible refine V_and ?_) | (with_reducible refine V_or ?_) | (with_reducible refine V_not ?_) | (with_reducible refine V_ite ?_) | (with_reducible refine V_tup ?_) | (with_reducible refine V_neg ?_) | (with_reducible refine V_non ?_) | (with_reducible refine V_bl ?_) | (with_reducible refine V_dict ?_) | (with_reducible refine V_meth ?_) | (with_reducible refine V_istV ?_))
  | (with_reducible refine O_id ?_; first
    | (with_reducible refine O_add ?_) | (with_reducible refine O_sub ?_) | (with_reducible refine' O_mul (mul_ok ?s1 ?s2 ?s3 ?s4) ?_; (case s1 => omega); (case s2 => omega); (case s3 => omega); (case s4 => omega)) | (with_reducible refine' O_fdiv (div_ok ?s1 ?s2) ?_; (case s1 => omega); (case s2 => omega)) | (with_reducible refine' O_mod ?s1 ?_; (case s1 => omega))
    | (with_reducible refine' O_powN ?s1 ?s2 ?_; (case s1 => decide); (case s2 => with_unfolding_all (simp only [Int.reduceToNat, Int.reducePow]; exact Nf.rfl))))
  | (with_reducible refine C_id ?_; first
    | (with_reducible refine' C_eqIt ?s1 ?_; (case s1 => assumption)) | (with_reducible refine' C_eqIf ?s1 ?_; (case s1 => assumption)) | (with_reducible refine C_eqI ?_) | (with_reducible refine C_neI ?_) | (with_reducible refine C_eqS ?_) | (with_reducible refine C_neS ?_) | (with_reducible refine C_lt ?_) | (with_reducible refine C_le ?_) | (with_reducible refine C_gt ?_) | (with_reducible refine C_ge ?_)
    | (with_reducible refine C_nett ?_) | (with_reducible refine C_netf ?_) | (with_reducible refine C_neft ?_) | (with_reducible refine C_neff ?_) | (with_reducible refine C_eqtt ?_) | (with_reducible refine C_eqtf ?_) | (with_reducible refine C_eqft ?_) | (with_reducible refine C_eqff ?_) | (with_reducible refine C_neB ?_) | (with_reducible refine C_eqB ?_) | (with_reducible refine C_neNil ?_) | (with_reducible refine C_isN ?_) | (with_reducible refine C_isnN ?_) | (with_reducible refine C_isI ?_) | (with_reducible refine C_isnI ?_) | (with_reducible refine C_neNN ?_) | (with_reducible refine C_neNI ?_) | (with_reducible refine C_neIN ?_))
  | (with_reducible refine B_id ?_; first
    | (with_reducible refine B_t ?_) | (with_reducible refine B_nt ?_) | (with_reducible refine B_nf ?_) | (with_reducible refine B_nt' ?_) | (with_reducible refine B_nf' ?_) | (with_reducible refine B_f ?_) | (with_reducible refine B_t' ?_) | (with_reducible refine B_f' ?_)
    | (with_reducible refine' B_dA ?s1 ?_; (case s1 => assumption)) | (with_reducible refine' B_dN ?s1 ?_; (case s1 => assumption)) | (with_reducible refine' B_dA' ?s1 ?_; (case s1 => assumption)) | (with_reducible refine' B_dN' ?s1 ?_; (case s1 => assumption)) | (with_reducible refine' B_xA ?s1 ?_; (case s1 => assumption)) | (with_reducible refine' B_xN ?s1 ?_; (case s1 => assumption)) | (with_reducible refine' B_xA' ?s1 ?_; (case s1 => assumption)) | (with_reducible refine' B_xN' ?s1 ?_; (case s1 => assumption)) | (with_reducible refine B_dec (fun _ => ?_) (fun _ => ?_)) | (with_reducible refine B_dec' (fun _ => ?_) (fun _ => ?_)) | (with_reducible refine B_not (fun _ => ?_) (fun _ => ?_)) | (with_reducible refine B_not' (fun _ => ?_) (fun _ => ?_)) | (with_reducible refine B_bl (fun _ => ?_) (fun _ => ?_)) | (with_reducible refine B_bl' (fun _ => ?_) (fun _ => ?_)))
  | (with_reducible refine Bn_id ?_)
  | (with_reducible refine L_id ?_; first
    | (with_reducible refine L_int ?_) | (with_reducible refine L_lenL ?_) | (with_reducible refine L_lenR ?_) | (with_reducible refine L_lenT ?_) | (with_reducible refine' L_lenO ?s1 ?_; (case s1 => with_unfolding_all exact rfl)) | (with_reducible refine L_minM ?_) | (with_reducible refine L_maxM ?_))
  | (with_reducible refine I_id ?_; first
    | (with_reducible refine' ix_left ?s1 ?_; (case s1 => assumption)) | (with_reducible refine' ix_at ?s1 ?_; (case s1 => assumption)) | (with_reducible refine' ix_cells ?s1 ?_; (case s1 => assumption)))
  | (with_reducible refine X_id ?_; first
    | (with_reducible refine X_iteV ?_) | (with_reducible refine X_asgComp ?_) | (with_reducible refine X_retComp ?_) | (with_reducible refine X_exprC ?_) | (with_reducible refine' X_retO ?s1 ?_; (case s1 => with_unfolding_all exact rfl)) | (with_reducible refine X_asgM ?_) | (with_reducible refine X_retM ?_) | (with_reducible refine X_asgT ?_) | (with_reducible refine' X_appendD ?s1 ?_; (case s1 => with_unfolding_all exact rfl)) | (with_reducible refine X_asgC ?_) | (with_reducible refine X_retC ?_) | (with_reducible refine X_parG ?_) | (with_reducible refine X_asgF (A_lstF ?_)) | (with_reducible refine' X_left ?s1 ?_; (case s1 => with_unfolding_all exact rfl)) | (with_reducible refine' X_at ?s1 ?_; (case s1 => with_unfolding_all exact rfl))
    | (with_reducible refine' X_asgV (V_slot ?s1 ?_); (case s1 => with_unfolding_all exact rfl)) | (with_reducible refine X_asgV (V_int ?_)) | (with_reducible refine X_asgV (V_bin ?_)) | (with_reducible refine X_asgV (V_ix ?_)) | (with_reducible refine X_asgV (V_bi ?_)) | (with_reducible refine X_asgV (V_ite ?_)) | (with_reducible refine X_asgV (V_non ?_)) | (with_reducible refine X_asgV (V_bl ?_)) | (with_reducible refine X_asgV (V_str ?_)) | (with_reducible refine X_asgV (V_tup ?_)) | (with_reducible refine X_asgV (V_attr ?_)) | (with_reducible refine X_asgV (V_cmp ?_)) | (with_reducible refine X_asgV (V_and ?_)) | (with_reducible refine X_asgV (V_or ?_)) | (with_reducible refine X_asgV (V_not ?_)) | (with_reducible refine X_asgV (V_neg ?_)) | (with_reducible refine X_asgV (V_dict ?_))
    | (with_reducible refine' X_retV (V_slot ?s1 ?_); (case s1 => with_unfolding_all exact rfl)) | (with_reducible refine X_retV (V_int ?_)) | (with_reducible refine X_retV (V_bin ?_)) | (with_reducible refine X_retV (V_ix ?_)) | (with_reducible refine X_retV (V_bi ?_)) | (with_reducible refine X_retV (V_ite ?_)) | (with_reducible refine X_retV (V_non ?_)) | (with_reducible refine X_retV (V_bl ?_)) | (with_reducible refine X_retV (V_tup ?_)) | (with_reducible refine X_retV (V_neg ?_)) | (with_reducible refine X_retV (V_cmp ?_)) | (with_reducible refine X_retV (V_and ?_)) | (with_reducible refine X_retV (V_or ?_)) | (with_reducible refine X_retV (V_not ?_)) | (with_reducible refine X_retV (V_attr ?_)) | (with_reducible refine X_retV (V_str ?_)))
  | (with_reducible refine XS_id ?_; first | (with_reducible refine XS_nil ?_) | (with_reducible refine XS_norm (by with_unfolding_all ((try simp only [setE, cutE, optD_none, optD_some, List.set_cons_zero, List.set_cons_succ, List.cons_append, List.nil_append, List.length_cons, List.length_nil, Nat.reduceAdd, List.take_succ_cons, List.take_zero]); exact Nf.rfl)) (by with_unfolding_all ((try simp only [setE, cutE, optD_none, optD_some, set_set, List.set_cons_zero, List.set_cons_succ]); exact Nf.rfl)) ?_; with_reducible refine XS_cons ?_))
  | (with_reducible refine AS_nil ?_)
  | (with_reducible refine AS_cons ?_)
  | (with_reducible refine D_id ?_; first | (with_reducible refine D_comp ?_) | (with_reducible refine D_call ?_) | (with_reducible refine D_meth ?_) | (with_reducible refine D_lst ?_) | (with_reducible refine' D_own ?s1 ?_; (case s1 => with_unfolding_all exact rfl)) | (with_reducible refine AD_V ?_))
  | (with_reducible refine' At_id ?s1 ?s2 ?s3 ?_; (case s1 => with_unfolding_all exact rfl); (case s2 => with_unfolding_all exact rfl); (case s3 => with_unfolding_all exact rfl))
  | (with_reducible refine' Mt_id ?s1 ?s2 ?s3 ?_; (case s1 => with_unfolding_all exact rfl); (case s2 => with_unfolding_all exact rfl); (case s3 => with_unfolding_all exact rfl))
  | (with_reducible refine' Ap_id2 ?s1 ?s2 ?_; (case s1 => with_unfolding_all exact rfl); (case s2 => first | assumption | omega | (simp only [List.length_append, List.length_cons, List.length_nil, List.length_map] at *; omega)))
  | (with_reducible refine' Sz_id ?s1 ?_; (case s1 => with_unfolding_all exact rfl))
  | (with_reducible refine' bT_id ?s1 ?_; (case s1 => with_unfolding_all exact rfl))
  | (with_reducible refine' Pa_id ?s1 ?_; (case s1 => with_unfolding_all exact rfl))
  | (with_reducible refine AI_zip ?_)
  | (with_reducible refine AI_enum ?_)
  | (with_reducible refine AI_rev ?_)
  | (with_reducible refine AI_range1V ?_)
  | (with_reducible refine AI_range2V ?_)
  | (with_reducible refine AP_nil ?_)
  | (with_reducible refine' AP_consO ?s1 ?_; (case s1 => with_unfolding_all exact rfl))
  | (with_reducible refine AP_consA ?_)
  | (with_reducible refine AK_nil ?_)
  | (with_reducible refine AK_cons ?_)
  | (with_reducible refine AO_none ?_)
  | (with_reducible refine AO_someV ?_)
  | (with_reducible refine I_neg ?_)
  | (with_reducible refine isD_val ?_)
  | (with_reducible refine isD_fresh ?_)
  | (with_reducible refine isS_val ?_)
  | (with_reducible refine isS_fresh ?_)
  | (with_reducible refine isV ?_)
  | (with_reducible refine AG_nil ?_)
  | (with_reducible refine AG_call ?_)
  | (with_reducible refine AG_new (A_lstF ?_))
  | (with_reducible refine AG_val ?_)
  | (with_reducible refine FG_nil ?_)
  | (with_reducible refine AI_lst ?_)
  | (with_reducible refine N_thn ?_)
  | (with_reducible refine R_thn ?_)
  | (with_reducible refine N_loop ?_)
  | (with_reducible refine R_loop ?_)
  | (with_reducible refine E_loop ?_)
  | (with_reducible refine B_loop ?_)
  | (with_reducible refine C_loop ?_)
  | (with_reducible refine B_thn ?_)
  | (with_reducible refine C_thn ?_)
  | (with_reducible refine X_brk ?_)
  | (with_reducible refine X_cont ?_)
  | (with_reducible refine E_thn ?_)
  | (with_reducible refine R_fx ?_)
  | (with_reducible refine N_fx ?_))
theorem range_at {lo : Int} {n i : Nat} {x : D} (h : (rangeD lo n)[i]? = some x) : i < n ∧ x = .int (lo + i) := @Rq9 _ _ (fun qz => @Hq9.get _ _ (qz.bar : Hq9 _ (by
  clear qz
  unfold rangeD at h
  rw [List.getElem?_map] at h
  by_cases q : i < n
  · rw [List.getElem?_range q] at h
    cases h
    exact ⟨q, rfl⟩
  · rw [List.getElem?_eq_none (by rw [List.length_range]; omega)] at h
    cases h))) Xq9.mk
theorem draw_is {p : Nat} {c : Cell} {B m : Int} {sto : List Cell} (hs : sto[p]? = some c) (hc : PenC B c) (hB : B < 1000000000000000000000000000000) (h0 : 0 < m) (h1 : m < 1000000000000000000000000000000000000000000000000000000000000000000000000000000000000000000) :
    (p_draw [.cell p, .int m] sto).all (fun o s => ∃ r c', o = .val (.int r) ∧ 0 ≤ r ∧ r < m ∧ s = sto.set p c' ∧ PenC (B + 1) c') (fun _ _ _ => False) := @Rq9 _ _ (fun qz => @Hq9.get _ _ (qz.bar : Hq9 _ (by
  clear qz
  obtain ⟨cs, a, l, rfl, ha, ha2, hl⟩ := hc
  refine fx_all rfl (env := [.val (.cell p), .val (.int m), .un, .un, .un, .un]) rfl ?_
  unfold b_draw
  have fin : ∀ (x l' : Int), 0 ≤ l' → ∃ r c', Out.val (D.int (x % m)) = .val (.int r) ∧ 0 ≤ r ∧ r < m ∧ sto.set p (penC cs (a + 1) l') = sto.set p c' ∧ PenC (B + 1) c' := fun x l' h =>
    ⟨_, _, rfl, Int.emod_nonneg _ (by omega), Int.emod_lt_of_pos _ h0, rfl, _, _, _, rfl, by omega, by omega, h⟩
  walk_at "w"
  · refine ⟨_, p, cs, a, l, rfl, rfl, hs, ?_⟩
    walk_at "w"
    exact ⟨_, _, rfl, Int.emod_nonneg _ (by omega), Int.emod_lt_of_pos _ h0, rfl, _, _, _, rfl, ha, by omega, Int.ediv_nonneg hl (by omega)⟩
  · refine ⟨_, p, cs, a, l, rfl, rfl, hs, ?_⟩
    have hs2 : (sto.set p (penC cs (a + 1) l))[p]? = some (penC cs (a + 1) l) := set_get hs
    walk_at "w"
    · have hlen : 0 < (((cs.map D.int).length : Nat) : Int) := by
        cases cs with
        | nil => contradiction
        | cons x xs => simp
      refine O_mod hlen (ix_ints (Int.emod_nonneg _ (by omega)) ?_ fun z => ?_)
      · have := Int.emod_lt_of_pos a hlen
        rw [List.length_map] at this ⊢; exact this
      walk_at "w"
      · refine ⟨_, p, cs, a + 1, l, rfl, rfl, hs2, ?_⟩
        walk_at "w"
        exact fin _ _ (Int.ediv_nonneg (by omega) (by omega))
      · exact fin _ _ hl
      · exact fin _ _ hl
    · refine ⟨_, p, cs, a + 1, l, rfl, rfl, hs2, ?_⟩
      walk_at "w"
      exact fin _ _ (Int.ediv_nonneg (by omega) (by omega))
    · exact fin _ _ hl
    · exact fin _ _ hl))) Xq9.mk
/-- one of the items -/
theorem pick_is {p : Nat} {c : Cell} {B : Int} {xs : List D} {sto : List Cell} (hs : sto[p]? = some c) (hc : PenC B c) (hB : B < 1000000000000000000000000000000) (h0 : xs ≠ []) (h1 : xs.length < 1000000) :
    (p_pick [.cell p, .lst xs] sto).all (fun o s => ∃ x c', o = .val x ∧ x ∈ xs ∧ s = sto.set p c' ∧ PenC (B + 1) c') (fun _ _ _ => False) := @Rq9 _ _ (fun qz => @Hq9.get _ _ (qz.bar : Hq9 _ (by
  clear qz
  have hl : 0 < (xs.length : Int) := by
    cases xs with
    | nil => exact absurd rfl h0
    | cons x xs => simp
  refine fx_all rfl (env := [.val (.cell p), .val (.lst xs)]) rfl ?_
  unfold b_pick
  walk_at "w"
  refine fx_imp (draw_is (m := (xs.length : Int)) hs hc hB hl (by omega)) (fun o s h => ?_) fun _ _ _ z => z.elim
  obtain ⟨r, c', rfl, h2, h3, rfl, h5⟩ := h
  refine ⟨_, rfl, ix_lst h2 h3 fun z hz => ?_⟩
  walk_at "w"
  exact ⟨z, c', rfl, List.mem_of_getElem? hz, rfl, h5⟩))) Xq9.mk
def Way (w : Str) : Prop := w = "down" ∨ w = "up" ∨ w = "near"
/-- a new pen -/
theorem pen_is {ns : List Int} {sto : List Cell} : (p_pen [.rol (ns.map D.int)] sto).all (fun o s => ∃ c', o = .val (.cell sto.length) ∧ s = sto ++ [c'] ∧ PenC 0 c') (fun _ _ _ => False) := @Rq9 _ _ (fun qz => @Hq9.get _ _ (qz.bar : Hq9 _ (by
  clear qz
  refine fx_all rfl (env := [.val (.rol (ns.map D.int))]) rfl ?_
  unfold b_pen
  refine XS_cons (X_retV (V_dict (AK_cons (AD_of (A_bi (AP_cons (A_slice (A_slot rfl (AO_none (AO_someV (V_int ⟨63, rfl, _, rfl, .inr (.inl ⟨_, rfl, AP_nil ?_⟩)⟩)))))))))))
  have e : ∃ cs : List Int, cutL (ns.map D.int) none (some 63) = cs.map D.int := ⟨(ns.drop (HT.sIx (ns.map D.int).length 0 none)).take (HT.sIx (ns.map D.int).length (ns.map D.int).length (some 63) - HT.sIx (ns.map D.int).length 0 none), by
    unfold cutL
    rw [List.map_take, List.map_drop]⟩
  obtain ⟨cs, e⟩ := e
  refine ⟨_, _, rfl, rfl, _, _, rfl, ?_⟩
  walk_at "w"
  refine ⟨(by show 3 ≤ 15; decide), ?_⟩
  walk_at "w"
  refine ⟨_, rfl, rfl, cs, 0, 0, ?_, by decide, by decide, by decide⟩
  rw [e]
  kernel_rfl))) Xq9.mk
end
end Ag
namespace Ag
open PySem L2
/-! ### the pen alone in the store -/
def Pn (B : Int) (s : List Cell) : Prop := ∃ c r, s = c :: r ∧ PenC B c
theorem Pn.mono {B B' : Int} {s : List Cell} (h : Pn B s) (hb : B ≤ B') : Pn B' s := @Rq9 _ _ (fun qz => @Hq9.get _ _ (qz.bar : Hq9 _ (by
  clear qz
  obtain ⟨c, r, e, h⟩ := h
  exact ⟨c, r, e, h.mono hb⟩))) Xq9.mk
theorem Pn.app {B : Int} {s t : List Cell} (h : Pn B s) : Pn B (s ++ t) := @Rq9 _ _ (fun qz => @Hq9.get _ _ (qz.bar : Hq9 _ (by
  clear qz
  obtain ⟨c, r, rfl, h⟩ := h
  exact ⟨c, r ++ t, rfl, h⟩))) Xq9.mk
section
variable {T : Tab} {P : Out → List Cell → Prop} {PX : Nat → List D → List Cell → Prop} {s : List Cell} {B : Int}
theorem C_draw {m : Int} (hT : T.phi 201 = p_draw) (hp : Pn B s) (hB : B < 1000000000000000000000000000000) (h0 : 0 < m) (h1 : m < 1000000000000000000000000000000000000000000000000000000000000000000000000000000000000000000)
    (k : ∀ (r : Int) (s' : List Cell), 0 ≤ r → r < m → Pn (B + 1) s' → P (.val (.int r)) s') : (T.phi 201 [.cell 0, .int m] s).all P PX := @Rq9 _ _ (fun qz => @Hq9.get _ _ (qz.bar : Hq9 _ (by
  clear qz
  obtain ⟨c, rr, rfl, hc⟩ := hp
  rw [hT]
  refine fx_imp (draw_is (p := 0) rfl hc hB h0 h1) (fun o s h => ?_) fun _ _ _ z => z.elim
  obtain ⟨r, c', rfl, h2, h3, rfl, h5⟩ := h
  exact k r _ h2 h3 ⟨c', rr, rfl, h5⟩))) Xq9.mk
theorem C_pick {xs : List D} (hT : T.phi 202 = p_pick) (hp : Pn B s) (hB : B < 1000000000000000000000000000000) (h0 : xs ≠ []) (h1 : xs.length < 1000000)
    (k : ∀ (x : D) (s' : List Cell), x ∈ xs → Pn (B + 1) s' → P (.val x) s') : (T.phi 202 [.cell 0, .lst xs] s).all P PX := @Rq9 _ _ (fun qz => @Hq9.get _ _ (qz.bar : Hq9 _ (by
  clear qz
  obtain ⟨c, rr, rfl, hc⟩ := hp
  rw [hT]
  refine fx_imp (pick_is (p := 0) rfl hc hB h0 h1) (fun o s h => ?_) fun _ _ _ z => z.elim
  obtain ⟨x, c', rfl, h2, rfl, h5⟩ := h
  exact k x _ h2 ⟨c', rr, rfl, h5⟩))) Xq9.mk
theorem C_pen {ns : List Int} (hT : T.phi 200 = p_pen) (k : ∀ s', Pn 0 s' → P (.val (.cell 0)) s') : (T.phi 200 [.rol (ns.map D.int)] []).all P PX := @Rq9 _ _ (fun qz => @Hq9.get _ _ (qz.bar : Hq9 _ (by
  clear qz
  rw [hT]
  refine fx_imp (pen_is (sto := [])) (fun o s h => ?_) fun _ _ _ z => z.elim
  obtain ⟨c', rfl, rfl, h5⟩ := h
  exact k _ ⟨c', [], rfl, h5⟩))) Xq9.mk
end
end Ag
namespace Ag
open PySem L2
local macro_rules | `(tactic| fail "a1") => `(tactic| first
  | (with_reducible refine V_id ?_; first
    | (with_reducible refine' V_slot ?s1 ?_; (case s1 => with_unfolding_all exact rfl)) | (with_reducible refine V_int ?_) | (with_reducible refine V_bin ?_) | (with_reducible refine V_cmpComp0 ?_) | (with_reducible refine' V_cmpOwn0 ?s1 ?_; (case s1 => with_unfolding_all exact rfl)) | (with_reducible refine V_cmpNil ?_) | (with_reducible refine V_cmp ?_)
    | (with_reducible refine V_str ?_) | (with_reducible refine V_bi ?_) | (with_reducible refine' V_ixO ?s1 ?_; (case s1 => with_unfolding_all exact rfl)) | (with_reducible refine V_ix ?_) | (with_reducible refine V_call ?_) | (with_reducible refine V_attr ?_)
    | (with_reducible refine V_and ?_) | (with_reducible refine V_or ?_) | (with_reducible refine V_not ?_) | (with_reducible refine V_ite ?_) | (with_reducible refine V_tup ?_) | (with_reducible refine V_neg ?_) | (with_reducible refine V_non ?_) | (with_reducible refine V_bl ?_) | (with_reducible refine V_dict ?_) | (with_reducible refine V_meth ?_) | (with_reducible refine V_istV ?_))
  | (with_reducible refine O_id ?_; first
    | (with_reducible refine O_add ?_) | (with_reducible refine O_sub ?_) | (with_reducible refine' O_mul (mul_ok ?s1 ?s2 ?s3 ?s4) ?_; (case s1 => omega); (case s2 => omega); (case s3 => omega); (case s4 => omega)) | (with_reducible refine' O_fdiv (div_ok ?s1 ?s2) ?_; (case s1 => omega); (case s2 => omega)) | (with_reducible refine' O_mod ?s1 ?_; (case s1 => omega))
    | (with_reducible refine' O_powN ?s1 ?s2 ?_; (case s1 => decide); (case s2 => with_unfolding_all (simp only [Int.reduceToNat, Int.reducePow]; exact Nf.rfl))))
  | (with_reducible refine C_id ?_; first
    | (with_reducible refine' C_eqIt ?s1 ?_; (case s1 => assumption)) | (with_reducible refine' C_eqIf ?s1 ?_; (case s1 => assumption)) | (with_reducible refine C_eqI ?_) | (with_reducible refine C_neI ?_) | (with_reducible refine C_eqS ?_) | (with_reducible refine C_neS ?_) | (with_reducible refine C_lt ?_) | (with_reducible refine C_le ?_) | (with_reducible refine C_gt ?_) | (with_reducible refine C_ge ?_)
    | (with_reducible refine C_nett ?_) | (with_reducible refine C_netf ?_) | (with_reducible refine C_neft ?_) | (with_reducible refine C_neff ?_) | (with_reducible refine C_eqtt ?_) | (with_reducible refine C_eqtf ?_) | (with_reducible refine C_eqft ?_) | (with_reducible refine C_eqff ?_) | (with_reducible refine C_neB ?_) | (with_reducible refine C_eqB ?_) | (with_reducible refine C_neNil ?_) | (with_reducible refine C_isN ?_) | (with_reducible refine C_isnN ?_) | (with_reducible refine C_isI ?_) | (with_reducible refine C_isnI ?_) | (with_reducible refine C_neNN ?_) | (with_reducible refine C_neNI ?_) | (with_reducible refine C_neIN ?_))
  | (with_reducible refine B_id ?_; first
    | (with_reducible refine B_t ?_) | (with_reducible refine B_nt ?_) | (with_reducible refine B_nf ?_) | (with_reducible refine B_nt' ?_) | (with_reducible refine B_nf' ?_) | (with_reducible refine B_f ?_) | (with_reducible refine B_t' ?_) | (with_reducible refine B_f' ?_)
    | (with_reducible refine' B_dA ?s1 ?_; (case s1 => assumption)) | (with_reducible refine' B_dN ?s1 ?_; (case s1 => assumption)) | (with_reducible refine' B_dA' ?s1 ?_; (case s1 => assumption)) | (with_reducible refine' B_dN' ?s1 ?_; (case s1 => assumption)) | (with_reducible refine' B_xA ?s1 ?_; (case s1 => assumption)) | (with_reducible refine' B_xN ?s1 ?_; (case s1 => assumption)) | (with_reducible refine' B_xA' ?s1 ?_; (case s1 => assumption)) | (with_reducible refine' B_xN' ?s1 ?_; (case s1 => assumption)) | (with_reducible refine B_dec (fun _ => ?_) (fun _ => ?_)) | (with_reducible refine B_dec' (fun _ => ?_) (fun _ => ?_)) | (with_reducible refine B_not (fun _ => ?_) (fun _ => ?_)) | (with_reducible refine B_not' (fun _ => ?_) (fun _ => ?_)) | (with_reducible refine B_bl (fun _ => ?_) (fun _ => ?_)) | (with_reducible refine B_bl' (fun _ => ?_) (fun _ => ?_)))
  | (with_reducible refine Bn_id ?_)
  | (with_reducible refine L_id ?_; first
    | (with_reducible refine L_int ?_) | (with_reducible refine L_lenL ?_) | (with_reducible refine L_lenR ?_) | (with_reducible refine L_lenT ?_) | (with_reducible refine' L_lenO ?s1 ?_; (case s1 => with_unfolding_all exact rfl)) | (with_reducible refine L_minM ?_) | (with_reducible refine L_maxM ?_))
  | (with_reducible refine I_id ?_; first
    | (with_reducible refine' ix_left ?s1 ?_; (case s1 => assumption)) | (with_reducible refine' ix_at ?s1 ?_; (case s1 => assumption)) | (with_reducible refine' ix_cells ?s1 ?_; (case s1 => assumption)))
  | (with_reducible refine X_id ?_; first
    | (with_reducible refine X_iteV ?_) | (with_reducible refine X_asgComp ?_) | (with_reducible refine X_retComp ?_) | (with_reducible refine X_exprC ?_) | (with_reducible refine' X_retO ?s1 ?_; (case s1 => with_unfolding_all exact rfl)) | (with_reducible refine X_asgM ?_) | (with_reducible refine X_retM ?_) | (with_reducible refine X_asgT ?_) | (with_reducible refine' X_appendD ?s1 ?_; (case s1 => with_unfolding_all exact rfl)) | (with_reducible refine X_asgC ?_) | (with_reducible refine X_retC ?_) | (with_reducible refine X_parG ?_) | (with_reducible refine X_asgF (A_lstF ?_)) | (with_reducible refine' X_left ?s1 ?_; (case s1 => with_unfolding_all exact rfl)) | (with_reducible refine' X_at ?s1 ?_; (case s1 => with_unfolding_all exact rfl))
    | (with_reducible refine' X_asgV (V_slot ?s1 ?_); (case s1 => with_unfolding_all exact rfl)) | (with_reducible refine X_asgV (V_int ?_)) | (with_reducible refine X_asgV (V_bin ?_)) | (with_reducible refine X_asgV (V_ix ?_)) | (with_reducible refine X_asgV (V_bi ?_)) | (with_reducible refine X_asgV (V_ite ?_)) | (with_reducible refine X_asgV (V_non ?_)) | (with_reducible refine X_asgV (V_bl ?_)) | (with_reducible refine X_asgV (V_str ?_)) | (with_reducible refine X_asgV (V_tup ?_)) | (with_reducible refine X_asgV (V_attr ?_)) | (with_reducible refine X_asgV (V_cmp ?_)) | (with_reducible refine X_asgV (V_and ?_)) | (with_reducible refine X_asgV (V_or ?_)) | (with_reducible refine X_asgV (V_not ?_)) | (with_reducible refine X_asgV (V_neg ?_)) | (with_reducible refine X_asgV (V_dict ?_))
    | (with_reducible refine' X_retV (V_slot ?s1 ?_); (case s1 => with_unfolding_all exact rfl)) | (with_reducible refine X_retV (V_int ?_)) | (with_reducible refine X_retV (V_bin ?_)) | (with_reducible refine X_retV (V_ix ?_)) | (with_reducible refine X_retV (V_bi ?_)) | (with_reducible refine X_retV (V_ite ?_)) | (with_reducible refine X_retV (V_non ?_)) | (with_reducible refine X_retV (V_bl ?_)) | (with_reducible refine X_retV (V_tup ?_)) | (with_reducible refine X_retV (V_neg ?_)) | (with_reducible refine X_retV (V_cmp ?_)) | (with_reducible refine X_retV (V_and ?_)) | (with_reducible refine X_retV (V_or ?_)) | (with_reducible refine X_retV (V_not ?_)) | (with_reducible refine X_retV (V_attr ?_)) | (with_reducible refine X_retV (V_str ?_)))
  | (with_reducible refine XS_id ?_; first | (with_reducible refine XS_nil ?_) | (with_reducible refine XS_norm (by with_unfolding_all ((try simp only [setE, cutE, optD_none, optD_some, List.set_cons_zero, List.set_cons_succ, List.cons_append, List.nil_append, List.length_cons, List.length_nil, Nat.reduceAdd, List.take_succ_cons, List.take_zero]); exact Nf.rfl)) (by with_unfolding_all ((try simp only [setE, cutE, optD_none, optD_some, set_set, List.set_cons_zero, List.set_cons_succ]); exact Nf.rfl)) ?_; with_reducible refine XS_cons ?_)))
local macro_rules | `(tactic| fail "a1p") => `(tactic| first
  | (with_reducible refine V_id ?_; first
    | (with_reducible refine' V_slot ?s1 ?_; (case s1 => with_unfolding_all exact rfl)) | (with_reducible refine V_int ?_) | (with_reducible refine V_bin ?_) | (with_reducible refine V_cmpComp0 ?_) | (with_reducible refine' V_cmpOwn0 ?s1 ?_; (case s1 => with_unfolding_all exact rfl)) | (with_reducible refine V_cmpNil ?_) | (with_reducible refine V_cmp ?_)
    | (with_reducible refine V_str ?_) | (with_reducible refine V_bi ?_) | (with_reducible refine' V_ixO ?s1 ?_; (case s1 => with_unfolding_all exact rfl)) | (with_reducible refine V_ix ?_) | (with_reducible refine V_call ?_) | (with_reducible refine V_attr ?_)
    | (with_reducible refine V_and ?_) | (with_reducible refine V_or ?_) | (with_reducible refine V_not ?_) | (with_reducible refine V_ite ?_) | (with_reducible refine V_tup ?_) | (with_reducible refine V_neg ?_) | (with_reducible refine V_non ?_) | (with_reducible refine V_bl ?_) | (with_reducible refine V_dict ?_) | (with_reducible refine V_meth ?_) | (with_reducible refine V_istV ?_))
  | (with_reducible refine O_id ?_; first
    | (with_reducible refine O_add ?_) | (with_reducible refine O_sub ?_) | (with_reducible refine' O_mul (mul_ok ?s1 ?s2 ?s3 ?s4) ?_; (case s1 => omega); (case s2 => omega); (case s3 => omega); (case s4 => omega)) | (with_reducible refine' O_fdiv (div_ok ?s1 ?s2) ?_; (case s1 => omega); (case s2 => omega)) | (with_reducible refine' O_mod ?s1 ?_; (case s1 => omega))
    | (with_reducible refine' O_powN ?s1 ?s2 ?_; (case s1 => decide); (case s2 => with_unfolding_all (simp only [Int.reduceToNat, Int.reducePow]; exact Nf.rfl))))
  | (with_reducible refine C_id ?_; first
    | (with_reducible refine' C_eqIt ?s1 ?_; (case s1 => assumption)) | (with_reducible refine' C_eqIf ?s1 ?_; (case s1 => assumption)) | (with_reducible refine C_eqI ?_) | (with_reducible refine C_neI ?_) | (with_reducible refine C_eqS ?_) | (with_reducible refine C_neS ?_) | (with_reducible refine C_lt ?_) | (with_reducible refine C_le ?_) | (with_reducible refine C_gt ?_) | (with_reducible refine C_ge ?_)
    | (with_reducible refine C_nett ?_) | (with_reducible refine C_netf ?_) | (with_reducible refine C_neft ?_) | (with_reducible refine C_neff ?_) | (with_reducible refine C_eqtt ?_) | (with_reducible refine C_eqtf ?_) | (with_reducible refine C_eqft ?_) | (with_reducible refine C_eqff ?_) | (with_reducible refine C_neB ?_) | (with_reducible refine C_eqB ?_) | (with_reducible refine C_neNil ?_) | (with_reducible refine C_isN ?_) | (with_reducible refine C_isnN ?_) | (with_reducible refine C_isI ?_) | (with_reducible refine C_isnI ?_) | (with_reducible refine C_neNN ?_) | (with_reducible refine C_neNI ?_) | (with_reducible refine C_neIN ?_))
  | (with_reducible refine B_id ?_; first
    | (with_reducible refine B_t ?_) | (with_reducible refine B_nt ?_) | (with_reducible refine B_nf ?_) | (with_reducible refine B_nt' ?_) | (with_reducible refine B_nf' ?_) | (with_reducible refine B_f ?_) | (with_reducible refine B_t' ?_) | (with_reducible refine B_f' ?_)
    | (with_reducible refine' B_dA ?s1 ?_; (case s1 => assumption)) | (with_reducible refine' B_dN ?s1 ?_; (case s1 => assumption)) | (with_reducible refine' B_dA' ?s1 ?_; (case s1 => assumption)) | (with_reducible refine' B_dN' ?s1 ?_; (case s1 => assumption)) | (with_reducible refine' B_xA ?s1 ?_; (case s1 => assumption)) | (with_reducible refine' B_xN ?s1 ?_; (case s1 => assumption)) | (with_reducible refine' B_xA' ?s1 ?_; (case s1 => assumption)) | (with_reducible refine' B_xN' ?s1 ?_; (case s1 => assumption)) | ((with_reducible refine B_dec (fun _ => ?_) (fun _ => ?_)) <;> (try first | contradiction | (exfalso; omega) | (exact absurd rfl (by assumption)))) | ((with_reducible refine B_dec' (fun _ => ?_) (fun _ => ?_)) <;> (try first | contradiction | (exfalso; omega) | (exact absurd rfl (by assumption)))) | ((with_reducible refine B_not (fun _ => ?_) (fun _ => ?_)) <;> (try first | contradiction | (exfalso; omega) | (exact absurd rfl (by assumption)))) | ((with_reducible refine B_not' (fun _ => ?_) (fun _ => ?_)) <;> (try first | contradiction | (exfalso; omega) | (exact absurd rfl (by assumption)))) | ((with_reducible refine B_bl (fun _ => ?_) (fun _ => ?_)) <;> (try first | contradiction | (exfalso; omega) | (exact absurd rfl (by assumption)))) | ((with_reducible refine B_bl' (fun _ => ?_) (fun _ => ?_)) <;> (try first | contradiction | (exfalso; omega) | (exact absurd rfl (by assumption)))))
  | (with_reducible refine Bn_id ?_)
  | (with_reducible refine L_id ?_; first
    | (with_reducible refine L_int ?_) | (with_reducible refine L_lenL ?_) | (with_reducible refine L_lenR ?_) | (with_reducible refine L_lenT ?_) | (with_reducible refine' L_lenO ?s1 ?_; (case s1 => with_unfolding_all exact rfl)) | (with_reducible refine L_minM ?_) | (with_reducible refine L_maxM ?_))
  | (with_reducible refine I_id ?_; first
    | (with_reducible refine' ix_left ?s1 ?_; (case s1 => assumption)) | (with_reducible refine' ix_at ?s1 ?_; (case s1 => assumption)) | (with_reducible refine' ix_cells ?s1 ?_; (case s1 => assumption)))
  | (with_reducible refine X_id ?_; first
    | (with_reducible refine X_iteV ?_) | (with_reducible refine X_asgComp ?_) | (with_reducible refine X_retComp ?_) | (with_reducible refine X_exprC ?_) | (with_reducible refine' X_retO ?s1 ?_; (case s1 => with_unfolding_all exact rfl)) | (with_reducible refine X_asgM ?_) | (with_reducible refine X_retM ?_) | (with_reducible refine X_asgT ?_) | (with_reducible refine' X_appendD ?s1 ?_; (case s1 => with_unfolding_all exact rfl)) | (with_reducible refine X_asgC ?_) | (with_reducible refine X_retC ?_) | (with_reducible refine X_parG ?_) | (with_reducible refine X_asgF (A_lstF ?_)) | (with_reducible refine' X_left ?s1 ?_; (case s1 => with_unfolding_all exact rfl)) | (with_reducible refine' X_at ?s1 ?_; (case s1 => with_unfolding_all exact rfl))
    | (with_reducible refine' X_asgV (V_slot ?s1 ?_); (case s1 => with_unfolding_all exact rfl)) | (with_reducible refine X_asgV (V_int ?_)) | (with_reducible refine X_asgV (V_bin ?_)) | (with_reducible refine X_asgV (V_ix ?_)) | (with_reducible refine X_asgV (V_bi ?_)) | (with_reducible refine X_asgV (V_ite ?_)) | (with_reducible refine X_asgV (V_non ?_)) | (with_reducible refine X_asgV (V_bl ?_)) | (with_reducible refine X_asgV (V_str ?_)) | (with_reducible refine X_asgV (V_tup ?_)) | (with_reducible refine X_asgV (V_attr ?_)) | (with_reducible refine X_asgV (V_cmp ?_)) | (with_reducible refine X_asgV (V_and ?_)) | (with_reducible refine X_asgV (V_or ?_)) | (with_reducible refine X_asgV (V_not ?_)) | (with_reducible refine X_asgV (V_neg ?_)) | (with_reducible refine X_asgV (V_dict ?_))
    | (with_reducible refine' X_retV (V_slot ?s1 ?_); (case s1 => with_unfolding_all exact rfl)) | (with_reducible refine X_retV (V_int ?_)) | (with_reducible refine X_retV (V_bin ?_)) | (with_reducible refine X_retV (V_ix ?_)) | (with_reducible refine X_retV (V_bi ?_)) | (with_reducible refine X_retV (V_ite ?_)) | (with_reducible refine X_retV (V_non ?_)) | (with_reducible refine X_retV (V_bl ?_)) | (with_reducible refine X_retV (V_tup ?_)) | (with_reducible refine X_retV (V_neg ?_)) | (with_reducible refine X_retV (V_cmp ?_)) | (with_reducible refine X_retV (V_and ?_)) | (with_reducible refine X_retV (V_or ?_)) | (with_reducible refine X_retV (V_not ?_)) | (with_reducible refine X_retV (V_attr ?_)) | (with_reducible refine X_retV (V_str ?_)))
  | (with_reducible refine XS_id ?_; first | (with_reducible refine XS_nil ?_) | (with_reducible refine XS_norm (by with_unfolding_all ((try simp only [setE, cutE, optD_none, optD_some, List.set_cons_zero, List.set_cons_succ, List.cons_append, List.nil_append, List.length_cons, List.length_nil, Nat.reduceAdd, List.take_succ_cons, List.take_zero]); exact Nf.rfl)) (by with_unfolding_all ((try simp only [setE, cutE, optD_none, optD_some, set_set, List.set_cons_zero, List.set_cons_succ]); exact Nf.rfl)) ?_; with_reducible refine XS_cons ?_)))
local macro_rules | `(tactic| fail "a2") => `(tactic| first
  | (with_reducible refine AS_nil ?_)
  | (with_reducible refine AS_cons ?_)
  | (with_reducible refine D_id ?_; first | (with_reducible refine D_comp ?_) | (with_reducible refine D_call ?_) | (with_reducible refine D_meth ?_) | (with_reducible refine D_lst ?_) | (with_reducible refine' D_own ?s1 ?_; (case s1 => with_unfolding_all exact rfl)) | (with_reducible refine AD_V ?_))
  | (with_reducible refine' At_id ?s1 ?s2 ?s3 ?_; (case s1 => with_unfolding_all exact rfl); (case s2 => with_unfolding_all exact rfl); (case s3 => with_unfolding_all exact rfl))
  | (with_reducible refine' Mt_id ?s1 ?s2 ?s3 ?_; (case s1 => with_unfolding_all exact rfl); (case s2 => with_unfolding_all exact rfl); (case s3 => with_unfolding_all exact rfl))
  | (with_reducible refine' Ap_id2 ?s1 ?s2 ?_; (case s1 => with_unfolding_all exact rfl); (case s2 => first | assumption | omega | (simp only [List.length_append, List.length_cons, List.length_nil, List.length_map] at *; omega)))
  | (with_reducible refine' Sz_id ?s1 ?_; (case s1 => with_unfolding_all exact rfl))
  | (with_reducible refine' bT_id ?s1 ?_; (case s1 => with_unfolding_all exact rfl))
  | (with_reducible refine' Pa_id ?s1 ?_; (case s1 => with_unfolding_all exact rfl))
  | (with_reducible refine AI_zip ?_)
  | (with_reducible refine AI_enum ?_)
  | (with_reducible refine AI_rev ?_)
  | (with_reducible refine AI_range1V ?_)
  | (with_reducible refine AI_range2V ?_)
  | (with_reducible refine AP_nil ?_)
  | (with_reducible refine' AP_consO ?s1 ?_; (case s1 => with_unfolding_all exact rfl))
  | (with_reducible refine AP_consA ?_)
  | (with_reducible refine AK_nil ?_)
  | (with_reducible refine AK_cons ?_)
  | (with_reducible refine AO_none ?_)
  | (with_reducible refine AO_someV ?_)
  | (with_reducible refine I_neg ?_)
  | (with_reducible refine isD_val ?_)
  | (with_reducible refine isD_fresh ?_)
  | (with_reducible refine isS_val ?_)
  | (with_reducible refine isS_fresh ?_)
  | (with_reducible refine isV ?_)
  | (with_reducible refine AG_nil ?_)
  | (with_reducible refine AG_call ?_)
  | (with_reducible refine AG_new (A_lstF ?_))
  | (with_reducible refine AG_val ?_)
  | (with_reducible refine FG_nil ?_)
  | (with_reducible refine AI_lst ?_)
  | (with_reducible refine N_thn ?_)
  | (with_reducible refine R_thn ?_)
  | (with_reducible refine N_loop ?_)
  | (with_reducible refine R_loop ?_)
  | (with_reducible refine E_loop ?_)
  | (with_reducible refine B_loop ?_)
  | (with_reducible refine C_loop ?_)
  | (with_reducible refine B_thn ?_)
  | (with_reducible refine C_thn ?_)
  | (with_reducible refine X_brk ?_)
  | (with_reducible refine X_cont ?_)
  | (with_reducible refine E_thn ?_)
  | (with_reducible refine R_fx ?_)
  | (with_reducible refine N_fx ?_))
local macro_rules | `(tactic| fail "a2s") => `(tactic| first
  | (with_reducible refine AS_nil ?_)
  | (with_reducible refine AS_cons ?_)
  | (with_reducible refine D_id ?_; first | (with_reducible refine D_comp ?_) | (with_reducible refine D_call ?_) | (with_reducible refine D_meth ?_) | (with_reducible refine D_lst ?_) | (with_reducible refine' D_own ?s1 ?_; (case s1 => with_unfolding_all exact rfl)) | (with_reducible refine AD_V ?_))
  | (with_reducible refine' At_id ?s1 ?s2 ?s3 ?_; (case s1 => with_unfolding_all exact rfl); (case s2 => with_unfolding_all exact rfl); (case s3 => with_unfolding_all exact rfl))
  | (with_reducible refine' Mt_id ?s1 ?s2 ?s3 ?_; (case s1 => with_unfolding_all exact rfl); (case s2 => with_unfolding_all exact rfl); (case s3 => with_unfolding_all exact rfl))
  | (with_reducible refine' Ap_id2 ?s1 ?s2 ?_; (case s1 => with_unfolding_all exact rfl); (case s2 => first | assumption | omega | (simp only [List.length_append, List.length_cons, List.length_nil, List.length_map] at *; omega)))
  | (with_reducible refine' Sz_id ?s1 ?_; (case s1 => with_unfolding_all exact rfl))
  | (with_reducible refine' bT_id ?s1 ?_; (case s1 => with_unfolding_all exact rfl))
  | (with_reducible refine' Pa_id ?s1 ?_; (case s1 => with_unfolding_all exact rfl))
  | (with_reducible refine AI_zip ?_)
  | (with_reducible refine AI_enum ?_)
  | (with_reducible refine AI_rev ?_)
  | (with_reducible refine AI_range1V ?_)
  | (with_reducible refine AI_range2V ?_)
  | (with_reducible refine AP_nil ?_)
  | (with_reducible refine' AP_consO ?s1 ?_; (case s1 => with_unfolding_all exact rfl))
  | (with_reducible refine AP_consA ?_)
  | (with_reducible refine AK_nil ?_)
  | (with_reducible refine AK_cons ?_)
  | (with_reducible refine AO_none ?_)
  | (with_reducible refine AO_someV ?_)
  | (with_reducible refine I_neg ?_)
  | (with_reducible refine isD_val ?_)
  | (with_reducible refine isD_fresh ?_)
  | (with_reducible refine isS_val ?_)
  | (with_reducible refine isS_fresh ?_)
  | (with_reducible refine isV ?_)
  | (with_reducible refine AG_nil ?_)
  | (with_reducible refine AG_call ?_)
  | (with_reducible refine AG_new (A_lstF ?_))
  | (with_reducible refine AG_val ?_)
  | (with_reducible refine FG_nil ?_)
  | (with_reducible refine AI_lst ?_)
  | (with_reducible refine R_thn ?_)
  | (with_reducible refine N_loop ?_)
  | (with_reducible refine R_loop ?_)
  | (with_reducible refine E_loop ?_)
  | (with_reducible refine B_loop ?_)
  | (with_reducible refine C_loop ?_)
  | (with_reducible refine B_thn ?_)
  | (with_reducible refine C_thn ?_)
  | (with_reducible refine X_brk ?_)
  | (with_reducible refine X_cont ?_)
  | (with_reducible refine E_thn ?_)
  | (with_reducible refine R_fx ?_)
  | (with_reducible refine N_fx ?_))
section
open PySem L2
/-! ### wordings: rows, counts, labels -/
def cnt (w : Str) (u a : Int) : Int := if w = "down" then a / u else if w = "up" then -(-a / u) else (2 * a + u) / (2 * u)
def off (w : Str) (u : Int) : Int := if w = "down" then 0 else if w = "up" then 1 else -(u / 2)
def foc (w : Str) (u c : Int) : Int := if w = "down" then c * u else if w = "up" then (c - 1) * u + 1 else c * u - u / 2
def c0 (w : Str) : Int := if w = "up" then 1 else 0
theorem div_is {x u c : Int} (h : 0 < u) (h1 : c * u ≤ x) (h2 : x < (c + 1) * u) : x / u = c := @Rq9 _ _ (fun qz => @Hq9.get _ _ (qz.bar : Hq9 _ (by
  clear qz
  have h3 : c ≤ x / u := (Int.le_ediv_iff_mul_le h).mpr h1
  have h4 : x / u < c + 1 := (Int.ediv_lt_iff_lt_mul h).mpr h2
  omega))) Xq9.mk
theorem div_at {x u : Int} (h : 0 < u) : (x / u) * u ≤ x ∧ x < (x / u + 1) * u := @Rq9 _ _ (fun qz => @Hq9.get _ _ (qz.bar : Hq9 _ (by
  clear qz
  have h1 := Int.mul_ediv_add_emod x u
  have h2 := Int.emod_nonneg x (show u ≠ 0 by omega)
  have h3 := Int.emod_lt_of_pos x h
  rw [Int.add_mul, Int.mul_comm (x / u)]
  omega))) Xq9.mk
theorem cnt_off {w : Str} {u a : Int} (h : 0 < u) : cnt w u a = (a - off w u) / u + c0 w := @Rq9 _ _ (fun qz => @Hq9.get _ _ (qz.bar : Hq9 _ (by
  clear qz
  unfold cnt off c0
  split
  · rename_i e
    subst e
    rw [if_neg (by decide), Int.sub_zero, Int.add_zero]
  split
  · obtain ⟨h1, h2⟩ := div_at (x := -a) h
    rw [← Int.sub_eq_iff_eq_add]
    refine (div_is h ?_ ?_).symm
    · rw [Int.sub_mul, Int.neg_mul]; rw [Int.add_mul] at h2; omega
    · rw [Int.sub_add_cancel, Int.neg_mul]; omega
  · obtain ⟨h1, h2⟩ := div_at (x := a - -(u / 2)) h
    rw [Int.add_zero]
    refine div_is (by omega) ?_ ?_
    · rw [Int.mul_left_comm]; omega
    · rw [Int.mul_left_comm]; omega))) Xq9.mk
theorem foc_off {w : Str} {u c : Int} : foc w u c = (c - c0 w) * u + off w u := @Rq9 _ _ (fun qz => @Hq9.get _ _ (qz.bar : Hq9 _ (by
  clear qz
  unfold foc off c0
  split
  · rename_i e; subst e
    rw [if_neg (by decide)]; simp
  split
  · rfl
  · rw [Int.sub_zero]; omega))) Xq9.mk
/-- a count is at least c just from the first number with that count on -/
theorem foc_le {w : Str} {u a c : Int} (h : 0 < u) : foc w u c ≤ a ↔ c ≤ cnt w u a := @Rq9 _ _ (fun qz => @Hq9.get _ _ (qz.bar : Hq9 _ (by
  clear qz
  rw [foc_off, cnt_off h]
  have := Int.le_ediv_iff_mul_le (a := c - c0 w) (b := a - off w u) h
  constructor
  · intro q; have := this.mpr (by omega); omega
  · intro q; have := this.mp (by omega); omega))) Xq9.mk
theorem cnt_mono {w : Str} {u a b : Int} (h : 0 < u) (hab : a ≤ b) : cnt w u a ≤ cnt w u b := @Rq9 _ _ (fun qz => @Hq9.get _ _ (qz.bar : Hq9 _ (by
  clear qz
  have := (foc_le (w := w) (c := cnt w u a) (a := a) h).mpr (Int.le_refl _)
  exact (foc_le h).mp (by omega)))) Xq9.mk
theorem cnt_iff {w : Str} {u a c : Int} (h : 0 < u) : cnt w u a = c ↔ foc w u c ≤ a ∧ a ≤ foc w u (c + 1) - 1 := @Rq9 _ _ (fun qz => @Hq9.get _ _ (qz.bar : Hq9 _ (by
  clear qz
  have h1 := foc_le (w := w) (a := a) (c := c) h
  have h2 := foc_le (w := w) (a := a) (c := c + 1) h
  omega))) Xq9.mk
theorem foc_step {w : Str} {u c : Int} : foc w u (c + 1) = foc w u c + u := by
  rw [foc_off, foc_off, show c + 1 - c0 w = c - c0 w + 1 by omega, Int.add_mul]; omega
/-- the least number greater than another with the rest of an offset -/
def fwi (low u o : Int) : Int := low + 1 + (o - low - 1) % u
structure Rw where
  u : Option Int
  k : Option Int
  w : Str
  s : Str
deriving DecidableEq
abbrev Lb := Str × Option Int
def rlab (r : Rw) (a : Int) : Lb := (r.s, r.k.map fun u => cnt r.w u a)
def lab : List Rw → Int → Lb
  | [], _ => ("", none)
  | r :: rs, a => match r.u with
    | none => rlab r a
    | some v => if a < v then rlab r a else lab rs a
abbrev Sg := Int × Option Int × Rw
/-- numbers of a row -/
def RwN (B : Int) (r : Rw) : Prop := ∀ u, r.k = some u → 0 < u ∧ u < B
def Ok (B : Int) : Int → List Rw → Prop
  | _, [] => False
  | l, r :: rs => RwN B r ∧ 0 ≤ l ∧ l < B ∧ match r.u with
    | none => rs = []
    | some v => l < v ∧ Ok B v rs
def Upto (h : Option Int) (a : Int) : Prop := ∀ v, h = some v → a < v
def SegOk (B : Int) (L : Int → Lb) : Int → List Sg → Prop
  | _, [] => False
  | low, (l, h, r) :: t => l = low ∧ 0 ≤ l ∧ l < B ∧ RwN B r ∧ h = r.u ∧ (∀ a, l ≤ a → Upto h a → L a = rlab r a) ∧ match h with
    | none => t = []
    | some v => l < v ∧ SegOk B L v t
def Edge (L : Int → Lb) (b : Int) : Prop := 0 < b ∧ L b ≠ L (b - 1)
instance (L : Int → Lb) (b : Int) : Decidable (Edge L b) := inferInstanceAs (Decidable (_ ∧ _))
theorem rlab_some {r : Rw} {u : Int} (h : r.k = some u) (a : Int) : rlab r a = (r.s, some (cnt r.w u a)) := by unfold rlab; rw [h]; rfl
theorem int_up {P : Int → Prop} {l : Int} (h0 : P l) (hs : ∀ b, l < b → P (b - 1) → P b) : ∀ b, l ≤ b → P b := @Rq9 _ _ (fun qz => @Hq9.get _ _ (qz.bar : Hq9 _ (by
  clear qz
  have key : ∀ n : Nat, P (l + n) := by
    intro n
    induction n with
    | zero => simpa using h0
    | succ n ih =>
      have := hs (l + (n + 1 : Nat)) (by omega)
      rw [show l + ((n + 1 : Nat) : Int) - 1 = l + n by omega] at this
      exact this ih
  intro b hb
  have := key (b - l).toNat
  rw [show l + ((b - l).toNat : Int) = b by omega] at this
  exact this))) Xq9.mk
theorem flat {L : Int → Lb} {l m : Int} (h0 : 0 ≤ l) (h : ∀ b, l < b → b ≤ m → ¬ Edge L b) : ∀ a, l ≤ a → a ≤ m → L a = L l := @Rq9 _ _ (fun qz => @Hq9.get _ _ (qz.bar : Hq9 _ (by
  clear qz
  intro a ha
  refine int_up (P := fun a => a ≤ m → L a = L l) (fun _ => rfl) (fun b hb ih hm => ?_) a ha
  have := h b hb hm
  rw [← ih (by omega)]
  exact Classical.byContradiction fun z => this ⟨by omega, z⟩))) Xq9.mk
/-! ### edges ahead and behind -/
def IsLater (L : Int → Lb) (a : Int) : Option Int → Prop
  | none => ∀ b, a < b → ¬ Edge L b
  | some e => a < e ∧ Edge L e ∧ ∀ b, a < b → b < e → ¬ Edge L b
def IsLast (L : Int → Lb) (a e : Int) : Prop := 0 ≤ e ∧ e ≤ a ∧ (e = 0 ∨ Edge L e) ∧ ∀ b, e < b → b ≤ a → ¬ Edge L b
/-! ### the ages with a label -/
abbrev St2 := Int × Option Int
def InS (p : St2) (a : Int) : Prop := p.1 ≤ a ∧ ∀ v, p.2 = some v → a ≤ v
def InL (ps : List St2) (a : Int) : Prop := ∃ p ∈ ps, InS p a
def Gd (p : St2) : Prop := 0 ≤ p.1 ∧ ∀ v, p.2 = some v → p.1 ≤ v
def Ap (p q : St2) : Prop := ∃ v, p.2 = some v ∧ v + 1 < q.1
def Form (ps : List St2) : Prop := ps.Pairwise Ap ∧ ∀ p ∈ ps, Gd p
theorem Form.cons {p : St2} {ps : List St2} : Form (p :: ps) ↔ (∀ q ∈ ps, Ap p q) ∧ Gd p ∧ Form ps := @Rq9 _ _ (fun qz => @Hq9.get _ _ (qz.bar : Hq9 _ (by
  clear qz
  unfold Form
  rw [List.pairwise_cons]
  simp only [List.mem_cons, forall_eq_or_imp]
  constructor
  · rintro ⟨⟨h1, h2⟩, h3, h4⟩; exact ⟨h1, h3, h2, h4⟩
  · rintro ⟨h1, h3, h2, h4⟩; exact ⟨⟨h1, h2⟩, h3, h4⟩))) Xq9.mk
theorem InL.cons {p : St2} {ps : List St2} {a : Int} : InL (p :: ps) a ↔ InS p a ∨ InL ps a := by
  unfold InL; simp
/-- what is found below an age -/
def IA (L : Int → Lb) (x : Lb) (low : Int) (ps : List St2) : Prop := Form ps ∧ (∀ p ∈ ps, ∃ v, p.2 = some v ∧ v < low) ∧ ∀ a, 0 ≤ a → a < low → (L a = x ↔ InL ps a)
theorem InL.app {ps qs : List St2} {a : Int} : InL (ps ++ qs) a ↔ InL ps a ∨ InL qs a := @Rq9 _ _ (fun qz => @Hq9.get _ _ (qz.bar : Hq9 _ (by
  clear qz
  unfold InL
  simp only [List.mem_append]
  constructor
  · rintro ⟨p, h | h, z⟩
    · exact .inl ⟨p, h, z⟩
    · exact .inr ⟨p, h, z⟩
  · rintro (⟨p, h, z⟩ | ⟨p, h, z⟩)
    · exact ⟨p, .inl h, z⟩
    · exact ⟨p, .inr h, z⟩))) Xq9.mk
theorem InL.one {p : St2} {a : Int} : InL [p] a ↔ InS p a := by unfold InL; simp
theorem IA.nil {L : Int → Lb} {x : Lb} : IA L x 0 [] := ⟨⟨.nil, fun _ h => nomatch h⟩, fun _ h => (nomatch h), fun a h0 h1 => by omega⟩
/-- a part without the label -/
theorem IA.skip {L : Int → Lb} {x : Lb} {low v : Int} {ps : List St2} (h : IA L x low ps) (hv : low ≤ v) (hn : ∀ a, low ≤ a → a < v → L a ≠ x) : IA L x v ps := @Rq9 _ _ (fun qz => @Hq9.get _ _ (qz.bar : Hq9 _ (by
  clear qz
  obtain ⟨h1, h2, h3⟩ := h
  refine ⟨h1, fun p hp => ?_, fun a h0 ha => ?_⟩
  · obtain ⟨w, e, hw⟩ := h2 p hp; exact ⟨w, e, by omega⟩
  · by_cases q : a < low
    · exact h3 a h0 q
    · refine ⟨fun z => absurd z (hn a (by omega) ha), fun ⟨p, hp, z⟩ => ?_⟩
      obtain ⟨w, e, hw⟩ := h2 p hp
      have := z.2 w e; omega))) Xq9.mk
/-- a stretch within the next part, put behind or joined -/
theorem IA.put {L : Int → Lb} {x : Lb} {low : Int} {ps : List St2} {p : St2} (h : IA L x low ps) (hp : Gd p) (hl : low ≤ p.1) (hap : ∀ q ∈ ps, Ap q p) : Form (ps ++ [p]) := @Rq9 _ _ (fun qz => @Hq9.get _ _ (qz.bar : Hq9 _ (by
  clear qz
  obtain ⟨⟨h1, h2⟩, h3, h4⟩ := h
  refine ⟨List.pairwise_append.mpr ⟨h1, List.pairwise_singleton _ _, fun a ha b hb => ?_⟩, fun q hq => ?_⟩
  · rw [List.mem_singleton.mp hb]; exact hap a ha
  · rcases List.mem_append.mp hq with z | z
    · exact h2 q z
    · rw [List.mem_singleton.mp z]; exact hp))) Xq9.mk
/-- the last one of some stretches -/
theorem IA.apart {L : Int → Lb} {x : Lb} {low : Int} {ps : List St2} {p : St2} (h : IA L x low ps) (hl : low ≤ p.1) (hne : ∀ q, ps.getLast? = some q → q.2 ≠ some (p.1 - 1)) : ∀ q ∈ ps, Ap q p := @Rq9 _ _ (fun qz => @Hq9.get _ _ (qz.bar : Hq9 _ (by
  clear qz
  intro q hq
  obtain ⟨⟨h1, h2⟩, h3, h4⟩ := h
  obtain ⟨v, e, hv⟩ := h3 q hq
  refine ⟨v, e, ?_⟩
  by_cases z : v = p.1 - 1
  · -- then q is the last one
    exfalso
    subst z
    cases hlast : ps.getLast? with
    | none => rw [List.getLast?_eq_none_iff] at hlast; rw [hlast] at hq; cases hq
    | some t =>
      obtain ⟨ys, hys⟩ := List.getLast?_eq_some_iff.mp hlast
      rw [hys] at hq h1
      rcases List.mem_append.mp hq with z | z
      · have := (List.pairwise_append.mp h1).2.2 q z t (List.mem_singleton.mpr rfl)
        obtain ⟨v2, e2, hv2⟩ := this
        rw [e] at e2; cases e2
        have ht := h2 t (by rw [hys]; simp)
        obtain ⟨w, ew, hw⟩ := h3 t (by rw [hys]; simp)
        have := ht.2 w ew
        omega
      · rw [List.mem_singleton.mp z] at e
        exact hne t hlast e
  · omega))) Xq9.mk
theorem IA.push {L : Int → Lb} {x : Lb} {low v : Int} {ps : List St2} {p : St2} (h : IA L x low ps) (hp : Gd p) (hl : low ≤ p.1) (hv : ∃ w, p.2 = some w ∧ w < v) (hlv : low ≤ v) (hne : ∀ q, ps.getLast? = some q → q.2 ≠ some (p.1 - 1))
    (hm : ∀ a, low ≤ a → a < v → (L a = x ↔ InS p a)) : IA L x v (ps ++ [p]) := @Rq9 _ _ (fun qz => @Hq9.get _ _ (qz.bar : Hq9 _ (by
  clear qz
  refine ⟨h.put hp hl (h.apart hl hne), fun q hq => ?_, fun a h0 ha => ?_⟩
  · rcases List.mem_append.mp hq with z | z
    · obtain ⟨w, e, hw⟩ := h.2.1 q z; exact ⟨w, e, by omega⟩
    · rw [List.mem_singleton.mp z]; exact hv
  · rw [InL.app, InL.one]
    by_cases q : a < low
    · rw [h.2.2 a h0 q]
      exact ⟨.inl, fun z => z.resolve_right fun y => by have := y.1; omega⟩
    · rw [hm a (by omega) ha]
      refine ⟨.inr, fun z => z.resolve_left fun ⟨r, hr, y⟩ => ?_⟩
      obtain ⟨w, e, hw⟩ := h.2.1 r hr
      have := y.2 w e; omega))) Xq9.mk
/-- the last stretch goes on -/
theorem IA.drop {L : Int → Lb} {x : Lb} {low lo : Int} {ps : List St2} {q : St2} (h : IA L x low (ps ++ [q])) (hq : q.2 = some (lo - 1)) (hl : low ≤ lo) : IA L x q.1 ps ∧ lo = low ∧ Gd q ∧ (∀ a, q.1 ≤ a → a < low → L a = x) ∧ ∀ t, ps.getLast? = some t → t.2 ≠ some (q.1 - 1) := @Rq9 _ _ (fun qz => @Hq9.get _ _ (qz.bar : Hq9 _ (by
  clear qz
  obtain ⟨⟨h1, h2⟩, h3, h4⟩ := h
  have hg := h2 q (by simp)
  obtain ⟨w, e, hw⟩ := h3 q (by simp)
  rw [hq] at e; cases e
  have hap := (List.pairwise_append.mp h1).2.2
  refine ⟨⟨⟨(List.pairwise_append.mp h1).1, fun p hp => h2 p (by simp [hp])⟩, fun p hp => ?_, fun a h0 ha => ?_⟩, by omega, hg, fun a h0 ha => ?_, fun t ht => ?_⟩
  · obtain ⟨v, e, hv⟩ := hap p hp q (by simp)
    exact ⟨v, e, by omega⟩
  · have := hg.2 _ hq
    rw [h4 a h0 (by omega), InL.app, InL.one]
    exact ⟨fun z => z.resolve_right fun y => by have := y.1; omega, .inl⟩
  · have := hg.1
    refine (h4 a (by omega) ha).mpr (InL.app.mpr (.inr (InL.one.mpr ⟨h0, fun v e => ?_⟩)))
    rw [hq] at e; cases e; omega
  · obtain ⟨v, e, hv⟩ := hap t (List.mem_of_getLast? ht) q (by simp)
    intro z; rw [e] at z; cases z; omega))) Xq9.mk
end
section
open PySem L2
end
section
open PySem L2
/-! ### rows and wordings as data -/
section
variable {T : Tab} {P : Out → List Cell → Prop} {PX : Nat → List D → List Cell → Prop} {s sto : List Cell} {r : Rw} {rs : List Rw} {v : Int} {Q : D → Prop}
end
section
local macro_rules | `(tactic| walk_at "w") => `(tactic| repeat' first
  | fail "a1"
  | fail "a2")
end
section
variable {T : Tab} {P : Out → List Cell → Prop} {PX : Nat → List D → List Cell → Prop} {s sto : List Cell} {r : Rw} {rs : List Rw} {u a c l o : Int} {w : Str}
end
section
local macro_rules | `(tactic| walk_at "w") => `(tactic| repeat' first
  | fail "a1"
  | (with_reducible refine' C_count ?s1 ?s2 ?s3 ?s4 ?s5 ?_; (case s1 => with_unfolding_all exact rfl); (case s2 => omega); (case s3 => omega); (case s4 => omega); (case s5 => omega))
  | (with_reducible refine' C_offset ?s1 ?_; (case s1 => with_unfolding_all exact rfl))
  | (with_reducible refine' C_fwi ?s1 ?s2 ?_; (case s1 => with_unfolding_all exact rfl); (case s2 => omega))
  | (with_reducible refine' C_foc ?s1 ?s2 ?s3 ?s4 ?s5 ?_; (case s1 => with_unfolding_all exact rfl); (case s2 => omega); (case s3 => omega); (case s4 => omega); (case s5 => omega))
  | (with_reducible refine' C_check ?s1 ?s2 ?_; (case s1 => with_unfolding_all exact rfl); (case s2 => omega))
  | (with_reducible refine' At_uS ?s1 ?s2 ?_; (case s1 => with_unfolding_all exact rfl); (case s2 => assumption))
  | (with_reducible refine' At_uN ?s1 ?s2 ?_; (case s1 => with_unfolding_all exact rfl); (case s2 => assumption))
  | (with_reducible refine' At_kS ?s1 ?s2 ?_; (case s1 => with_unfolding_all exact rfl); (case s2 => assumption))
  | (with_reducible refine' At_kN ?s1 ?s2 ?_; (case s1 => with_unfolding_all exact rfl); (case s2 => assumption))
  | (with_reducible refine' At_u ?s1 ?_; (case s1 => with_unfolding_all exact rfl))
  | (with_reducible refine' At_w ?s1 ?_; (case s1 => with_unfolding_all exact rfl))
  | (with_reducible refine' At_s ?s1 ?_; (case s1 => with_unfolding_all exact rfl))
  | (with_reducible refine' At_rs ?s1 ?_; (case s1 => with_unfolding_all exact rfl))
  | (with_reducible refine' Mt_wg ?s1 ?s2 ?_; (case s1 => with_unfolding_all exact rfl); (case s2 => with_unfolding_all exact rfl))
  | fail "a2")
end
end
section
open PySem L2
section
variable {T : Tab} {P : Out → List Cell → Prop} {PX : Nat → List D → List Cell → Prop} {s sto : List Cell} {r : Rw} {rs : List Rw} {u a c l o : Int} {w : Str}
end
section
local macro_rules | `(tactic| walk_at "w") => `(tactic| repeat' first
  | fail "a1"
  | (with_reducible refine' C_count ?s1 ?s2 ?s3 ?s4 ?s5 ?_; (case s1 => with_unfolding_all exact rfl); (case s2 => omega); (case s3 => omega); (case s4 => omega); (case s5 => omega))
  | (with_reducible refine' C_offset ?s1 ?_; (case s1 => with_unfolding_all exact rfl))
  | (with_reducible refine' C_fwi ?s1 ?s2 ?_; (case s1 => with_unfolding_all exact rfl); (case s2 => omega))
  | (with_reducible refine' C_foc ?s1 ?s2 ?s3 ?s4 ?s5 ?_; (case s1 => with_unfolding_all exact rfl); (case s2 => omega); (case s3 => omega); (case s4 => omega); (case s5 => omega))
  | (with_reducible refine' C_check ?s1 ?s2 ?_; (case s1 => with_unfolding_all exact rfl); (case s2 => omega))
  | (with_reducible refine' At_uS ?s1 ?s2 ?_; (case s1 => with_unfolding_all exact rfl); (case s2 => assumption))
  | (with_reducible refine' At_uN ?s1 ?s2 ?_; (case s1 => with_unfolding_all exact rfl); (case s2 => assumption))
  | (with_reducible refine' At_kS ?s1 ?s2 ?_; (case s1 => with_unfolding_all exact rfl); (case s2 => assumption))
  | (with_reducible refine' At_kN ?s1 ?s2 ?_; (case s1 => with_unfolding_all exact rfl); (case s2 => assumption))
  | (with_reducible refine' At_u ?s1 ?_; (case s1 => with_unfolding_all exact rfl))
  | (with_reducible refine' At_w ?s1 ?_; (case s1 => with_unfolding_all exact rfl))
  | (with_reducible refine' At_s ?s1 ?_; (case s1 => with_unfolding_all exact rfl))
  | (with_reducible refine' At_rs ?s1 ?_; (case s1 => with_unfolding_all exact rfl))
  | (with_reducible refine' Mt_wg ?s1 ?s2 ?_; (case s1 => with_unfolding_all exact rfl); (case s2 => with_unfolding_all exact rfl))
  | (with_reducible refine' C_rlab ?s1 ?s2 ?s3 ?s4 ?_; (case s1 => with_unfolding_all exact rfl); (case s2 => assumption); (case s3 => omega); (case s4 => omega))
  | fail "a2")
end
end
section
open PySem L2
/-! ### the ages of a row with a label -/
/-- the stretch of the ages from l on and before h with a label by a row -/
def lages (r : Rw) (l : Int) (h : Option Int) (x : Lb) : Option St2 :=
  if x.1 ≠ r.s then none else
  match r.k, x.2 with
  | none, none => some (l, h.map (· - 1))
  | some u, some c =>
    let b := max l (foc r.w u c)
    let e := foc r.w u (c + 1) - 1
    let e2 := match h with | none => e | some v => min (v - 1) e
    if e2 < b then none else some (b, some e2)
  | _, _ => none
theorem lages_some {B : Int} {L : Int → Lb} {r : Rw} {l : Int} {h : Option Int} {x : Lb} {p : St2} (hN : RwN B r) (h0 : 0 ≤ l) (hh : ∀ v, h = some v → l < v) (hL : ∀ a, l ≤ a → Upto h a → L a = rlab r a) (e : lages r l h x = some p) :
    Gd p ∧ l ≤ p.1 ∧ (∀ v, h = some v → ∃ w, p.2 = some w ∧ w < v) ∧ ∀ a, l ≤ a → Upto h a → (L a = x ↔ InS p a) := @Rq9 _ _ (fun qz => @Hq9.get _ _ (qz.bar : Hq9 _ (by
  clear qz
  obtain ⟨xs, xc⟩ := x
  unfold lages at e
  split at e
  · cases e
  rename_i hs
  have hs : xs = r.s := Decidable.not_not.mp hs
  subst hs
  cases hk : r.k with
  | none =>
    cases xc with
    | some c => rw [hk] at e; cases e
    | none =>
      rw [hk] at e
      cases e
      refine ⟨⟨h0, fun v z => ?_⟩, Int.le_refl _, fun v z => ⟨v - 1, by rw [z]; rfl, by omega⟩, fun a ha hu => ⟨fun _ => ⟨ha, fun v z => ?_⟩, fun _ => ?_⟩⟩
      · cases h with
        | none => cases z
        | some w => cases z; have := hh w rfl; show l ≤ w - 1; omega
      · cases h with
        | none => cases z
        | some w => cases z; have := hu w rfl; show a ≤ w - 1; omega
      · rw [hL a ha hu]; unfold rlab; rw [hk]; rfl
  | some u =>
    have hu := (hN u hk).1
    cases xc with
    | none => rw [hk] at e; cases e
    | some c =>
      rw [hk] at e
      have hst := foc_step (w := r.w) (u := u) (c := c)
      have key : ∀ a, l ≤ a → Upto h a → (L a = (r.s, some c) ↔ foc r.w u c ≤ a ∧ a ≤ foc r.w u (c + 1) - 1) := fun a ha hu' => by
        rw [hL a ha hu', rlab_some hk, ← cnt_iff hu]
        simp
      cases h with
      | none =>
        dsimp only at e
        split at e
        · cases e
        rename_i hlt
        cases e
        refine ⟨⟨by show 0 ≤ max l _; omega, fun v z => by cases z; show max l _ ≤ _; omega⟩, by show l ≤ max l _; omega, fun v z => (by cases z), fun a ha hu' => ?_⟩
        rw [key a ha hu']
        exact ⟨fun q => ⟨by show max l _ ≤ a; omega, fun v z => by cases z; omega⟩, fun q => ⟨by have : max l _ ≤ a := q.1; omega, q.2 _ rfl⟩⟩
      | some v =>
        have hlv := hh v rfl
        dsimp only at e
        split at e
        · cases e
        rename_i hlt
        cases e
        refine ⟨⟨by show 0 ≤ max l _; omega, fun v z => by cases z; show max l _ ≤ _; omega⟩, by show l ≤ max l _; omega, fun v' z => ⟨_, rfl, by cases z; show min _ _ < _; omega⟩, fun a ha hu' => ?_⟩
        rw [key a ha hu']
        have := hu' v rfl
        exact ⟨fun q => ⟨by show max l _ ≤ a; omega, fun v z => by cases z; omega⟩, fun q => ⟨by have : max l _ ≤ a := q.1; omega, by have := q.2 _ rfl; omega⟩⟩))) Xq9.mk
/-- what is found by the rows one behind the other -/
def addS (ps : List St2) (p : St2) : List St2 := match ps.getLast? with
  | some q => if q.2 = some (p.1 - 1) then ps.dropLast ++ [(q.1, p.2)] else ps ++ [p]
  | none => ps ++ [p]
theorem last_drop {ps : List St2} {q : St2} (h : ps.getLast? = some q) : ps = ps.dropLast ++ [q] := @Rq9 _ _ (fun qz => @Hq9.get _ _ (qz.bar : Hq9 _ (by
  clear qz
  obtain ⟨ys, e⟩ := List.getLast?_eq_some_iff.mp h
  rw [e]; simp))) Xq9.mk
theorem IA.add {B : Int} {L : Int → Lb} {x : Lb} {r : Rw} {l v : Int} {p : St2} {ps : List St2} (h : IA L x l ps) (hN : RwN B r) (h0 : 0 ≤ l) (hlv : l < v) (hL : ∀ a, l ≤ a → Upto (some v) a → L a = rlab r a) (e : lages r l (some v) x = some p) : IA L x v (addS ps p) := @Rq9 _ _ (fun qz => @Hq9.get _ _ (qz.bar : Hq9 _ (by
  clear qz
  obtain ⟨g1, g2, g3, g4⟩ := lages_some hN h0 (fun w z => by cases z; exact hlv) hL e
  have g4 : ∀ a, l ≤ a → a < v → (L a = x ↔ InS p a) := fun a ha hu => g4 a ha fun w z => by cases z; exact hu
  have g3 := g3 v rfl
  unfold addS
  split
  · rename_i q hq
    split
    · rename_i hj
      have e2 := last_drop hq
      rw [e2] at h
      obtain ⟨i1, i2, i3, i4, i5⟩ := h.drop hj (by omega)
      refine i1.push ⟨i3.1, fun w z => ?_⟩ (Int.le_refl _) g3 (by have := i3.2 _ hj; omega) i5 fun a ha hv => ?_
      · have := g1.2 w z; have := i3.2 _ hj; show q.1 ≤ w; omega
      · by_cases y : a < l
        · refine ⟨fun _ => ⟨ha, fun w z => ?_⟩, fun _ => i4 a ha y⟩
          have := g1.2 w z; omega
        · rw [g4 a (by omega) hv]
          exact ⟨fun z => ⟨ha, z.2⟩, fun z => ⟨by omega, z.2⟩⟩
    · rename_i hj
      exact h.push g1 g2 g3 (by omega) (fun t ht => by rw [hq] at ht; cases ht; exact hj) g4
  · rename_i hq
    exact h.push g1 g2 g3 (by omega) (fun t ht => by rw [hq] at ht; cases ht) g4))) Xq9.mk
end
section
open PySem L2
section
variable {T : Tab} {P : Out → List Cell → Prop} {PX : Nat → List D → List Cell → Prop} {s sto : List Cell} {r : Rw} {rs : List Rw} {u a c l o : Int} {w : Str}
end
section
local macro_rules | `(tactic| walk_at "w") => `(tactic| repeat' first
  | fail "a1"
  | (with_reducible refine' C_count ?s1 ?s2 ?s3 ?s4 ?s5 ?_; (case s1 => with_unfolding_all exact rfl); (case s2 => omega); (case s3 => omega); (case s4 => omega); (case s5 => omega))
  | (with_reducible refine' C_offset ?s1 ?_; (case s1 => with_unfolding_all exact rfl))
  | (with_reducible refine' C_fwi ?s1 ?s2 ?_; (case s1 => with_unfolding_all exact rfl); (case s2 => omega))
  | (with_reducible refine' C_foc ?s1 ?s2 ?s3 ?s4 ?s5 ?_; (case s1 => with_unfolding_all exact rfl); (case s2 => omega); (case s3 => omega); (case s4 => omega); (case s5 => omega))
  | (with_reducible refine' C_check ?s1 ?s2 ?_; (case s1 => with_unfolding_all exact rfl); (case s2 => omega))
  | (with_reducible refine' At_uS ?s1 ?s2 ?_; (case s1 => with_unfolding_all exact rfl); (case s2 => assumption))
  | (with_reducible refine' At_uN ?s1 ?s2 ?_; (case s1 => with_unfolding_all exact rfl); (case s2 => assumption))
  | (with_reducible refine' At_kS ?s1 ?s2 ?_; (case s1 => with_unfolding_all exact rfl); (case s2 => assumption))
  | (with_reducible refine' At_kN ?s1 ?s2 ?_; (case s1 => with_unfolding_all exact rfl); (case s2 => assumption))
  | (with_reducible refine' At_u ?s1 ?_; (case s1 => with_unfolding_all exact rfl))
  | (with_reducible refine' At_w ?s1 ?_; (case s1 => with_unfolding_all exact rfl))
  | (with_reducible refine' At_s ?s1 ?_; (case s1 => with_unfolding_all exact rfl))
  | (with_reducible refine' At_rs ?s1 ?_; (case s1 => with_unfolding_all exact rfl))
  | (with_reducible refine' Mt_wg ?s1 ?s2 ?_; (case s1 => with_unfolding_all exact rfl); (case s2 => with_unfolding_all exact rfl))
  | (with_reducible refine' C_rlab ?s1 ?s2 ?s3 ?s4 ?_; (case s1 => with_unfolding_all exact rfl); (case s2 => assumption); (case s3 => omega); (case s4 => omega))
  | fail "a2")
end
end
section
open PySem L2
/-! ### == of data -/
theorem beq_dec {α : Type} [DecidableEq α] (a b : α) : (a == b) = decide (a = b) := by
  by_cases h : a = b <;> simp [h]
def optP : Option Int → PyData
  | none => .none
  | some i => .int i
theorem toPy_opt : ∀ o : Option Int, toPy (optD o) = some (optP o)
  | none => rfl
  | some _ => rfl
theorem eqv_opt : ∀ a b : Option Int, PyData.eqv (optP a) (optP b) = decide (a = b)
  | none, none => rfl
  | none, some _ => rfl
  | some _, none => rfl
  | some a, some b => by
    show (a == b) = _
    rw [beq_dec]
    simp
theorem lay_opt : ∀ a : Option Int, PyData.canLay0 (optP a) = true
  | none => rfl
  | some _ => rfl
theorem dep_opt : ∀ a : Option Int, PyData.depth (optP a) = 0
  | none => rfl
  | some _ => rfl
section
variable {P : Bool → Prop} {l m : Lb} {ps qs : List St2}
end
section
variable {sto : List Cell} {env : List Slot} {i : Nat} {x k v d : D} {xs : List D} {PD : D → Prop} {P : Bool → Prop}
theorem Ix_id (h : ixD sto x k = some v) (q : PD v) : ∃ v, ixD sto x k = some v ∧ PD v := ⟨v, h, q⟩
theorem Il_id (h1 : env[i]? = some (.own xs)) (hq : xs.getLast? = some d) (q : PD d) : env[i]? = some (.own xs) ∧ ∃ v, ixD sto (.lst xs) (.int (-1)) = some v ∧ PD v := ⟨h1, d, atI_last hq, q⟩
theorem C_isnO {o : Option Int} (h : P (!decide (o = none))) : ∃ k, cmpD .isn (optD o) .non = some k ∧ P k := ⟨_, by cases o <;> rfl, h⟩
end
end
section
open PySem L2
section
variable {T : Tab} {fr : Fr} {K : SxP}
/-- what stands behind a turn, by a name -/
structure Kf (K K' : SxP) (n : Fr → Prop) : Prop where
  next : ∀ fr, n fr → K'.next fr
  cont : ∀ fr, n fr → K'.cont fr
  brk : ∀ fr, K.next fr → K'.brk fr
  ret : ∀ o fr, K.ret o fr → K'.ret o fr
  exc : ∀ c fs fr, K.exc c fs fr → K'.exc c fs fr
theorem Kf.loop (n : Fr → Prop) : Kf K (K.loop n) n := ⟨fun _ h => h, fun _ h => h, fun _ h => h, fun _ _ h => h, fun _ _ _ h => h⟩
theorem X_forIK {tg : Tg} {it : Iter} {B : List Stm} (h : AI T it fr (fun xs fr1 => ∃ I : Nat → Fr → Prop, I 0 fr1 ∧
    (∀ i x fr, xs[i]? = some x → I i fr → ∃ fr2, bindT tg x fr = some fr2 ∧ ∀ K', Kf K K' (I (i + 1)) → XS T B fr2 K') ∧ ∀ fr, I xs.length fr → K.next fr) K.exc) : X T (.for_ tg it B) fr K :=
  X_forI (Rs.all_imp h (fun xs fr1 ⟨I, h0, hs, hd⟩ => ⟨I, h0, fun i x fr hx hi => by
    obtain ⟨fr2, e, h⟩ := hs i x fr hx hi
    exact ⟨fr2, e, h _ (Kf.loop _)⟩, hd⟩) fun _ _ _ z => z)
theorem X_forLK {α : Type} {tg : Tg} {it : Iter} {B : List Stm} (h : AI T it fr (fun xs fr1 => ∃ (f : α → D) (l : List α) (I : List α → Fr → Prop), xs = l.map f ∧ I l fr1 ∧
    (∀ x l fr, I (x :: l) fr → ∃ fr2, bindT tg (f x) fr = some fr2 ∧ ∀ K', Kf K K' (I l) → XS T B fr2 K') ∧ ∀ fr, I [] fr → K.next fr) K.exc) : X T (.for_ tg it B) fr K :=
  X_forL (Rs.all_imp h (fun xs fr1 ⟨f, l, I, e, h0, hs, hd⟩ => ⟨f, l, I, e, h0, fun x l fr hi => by
    obtain ⟨fr2, e, h⟩ := hs x l fr hi
    exact ⟨fr2, e, h _ (Kf.loop _)⟩, hd⟩) fun _ _ _ z => z)
theorem fx_allK {np n : Nat} {body : List Stm} {ds : List D} {sto : List Cell} {env : List Slot} {P : Out → List Cell → Prop} {PX : Nat → List D → List Cell → Prop} (hl : ds.length = np) (he : ds.map Slot.val ++ List.replicate (n - ds.length) .un = env)
    (h : ∀ K : SxP, (∀ o fr, P o fr.sto → K.ret o fr) → (∀ fr, P (.val .non) fr.sto → K.next fr) → (∀ c fs fr, PX c fs fr.sto → K.exc c fs fr) → XS T body ⟨env, sto⟩ K) : (fx T np n body ds sto).all P PX :=
  fx_all hl he (h _ (fun _ _ h => h) (fun _ h => h) fun _ _ _ h => h)
end
end
section
open PySem L2
end
section
open PySem L2
section
variable {T : Tab} {fr : Fr} {P : RV → Fr → Prop} {PX : PXt} {K : SxP} {a c : Tm}
/-- [m x for x in l if p x] -/
theorem A_compF {α : Type} {tg : Tg} {it : Iter} {own : List Nat} (h : AI T it fr (fun xs fr1 => ∃ (f : α → D) (l : List α) (p : α → Bool) (m : α → D), xs = l.map f ∧ ownFree fr1.env own = true ∧ (own.all fun v => Nat.blt v fr1.env.length) = true ∧ l.length ≤ 16777216 ∧
    (∀ x acc, x ∈ l → ∃ e3, bindT tg (f x) ⟨wipeE (fr1.env ++ [.own acc]) own, fr1.sto⟩ = some ⟨e3, fr1.sto⟩ ∧ wipeE e3 own = wipeE (fr1.env ++ [.own acc]) own ∧
      AV T c ⟨e3, fr1.sto⟩ (fun d fr4 => d = .bl (p x) ∧ fr4 = ⟨e3, fr1.sto⟩) noX ∧ (p x = true → AD T a ⟨e3, fr1.sto⟩ (fun d fr5 => d = m x ∧ fr5 = ⟨e3, fr1.sto⟩) noX)) ∧
    P (.out (.fresh ((l.filter p).map m))) fr1) PX) : A T (.comp a tg it (some c) own) fr P PX :=
  A_compL (Rs.all_imp h (fun xs fr1 z => by
    obtain ⟨f, l, p, m, h1, h2, h3, h4, h5, h6⟩ := z
    have e : l.filterMap (fun x => if p x = true then some (m x) else none) = (l.filter p).map m := by
      clear h1 h4 h5 h6
      induction l with
      | nil => rfl
      | cons x l ih =>
        rw [List.filterMap_cons, List.filter_cons]
        by_cases q : p x = true
        · rw [if_pos q, if_pos q]; simp [ih]
        · rw [if_neg q, if_neg q]; exact ih
    refine ⟨f, l, fun x => if p x = true then some (m x) else none, h1, h2, h3, h4, fun x acc hx => ?_, by rw [e]; exact h6⟩
    obtain ⟨e3, g1, g2, g3, g4⟩ := h5 x acc hx
    refine ⟨e3, g1, g2, AC_some (A_imp g3 fun r fr2 z => ?_)⟩
    obtain ⟨d, rfl, rfl, rfl⟩ := z
    refine ⟨_, rfl, p x, rfl, rfl, fun hp => Rs.all_imp (g4 hp) (fun d fr3 z => ⟨z.2, (if_pos hp).trans (by rw [z.1])⟩) fun _ _ _ z => z, fun hp => if_neg (by rw [hp]; decide)⟩) fun _ _ _ z => z)
end
end
section
open PySem L2
end
section
open PySem L2
end
section
open PySem L2
end
section
open PySem L2
end
section
open PySem L2
end
section
open PySem L2
end
section
open PySem L2
end
section
open PySem L2
end
section
open PySem L2
end
section
open PySem L2
theorem IA.addG {L : Int → Lb} {x : Lb} {l v : Int} {p : St2} {ps : List St2} (h : IA L x l ps) (g1 : Gd p) (g2 : l ≤ p.1) (g3 : ∃ w, p.2 = some w ∧ w < v) (hlv : l ≤ v) (g4 : ∀ a, l ≤ a → a < v → (L a = x ↔ InS p a)) : IA L x v (addS ps p) := @Rq9 _ _ (fun qz => @Hq9.get _ _ (qz.bar : Hq9 _ (by
  clear qz
  unfold addS
  split
  · rename_i q hq
    split
    · rename_i hj
      have e2 := last_drop hq
      rw [e2] at h
      obtain ⟨i1, i2, i3, i4, i5⟩ := h.drop hj (by omega)
      refine i1.push ⟨i3.1, fun w z => ?_⟩ (Int.le_refl _) g3 (by have := i3.2 _ hj; omega) i5 fun a ha hv => ?_
      · have := g1.2 w z; have := i3.2 _ hj; show q.1 ≤ w; omega
      · by_cases y : a < l
        · refine ⟨fun _ => ⟨ha, fun w z => ?_⟩, fun _ => i4 a ha y⟩
          have := g1.2 w z; omega
        · rw [g4 a (by omega) hv]
          exact ⟨fun z => ⟨ha, z.2⟩, fun z => ⟨by omega, z.2⟩⟩
    · rename_i hj
      exact h.push g1 g2 g3 hlv (fun t ht => by rw [hq] at ht; cases ht; exact hj) g4
  · rename_i hq
    exact h.push g1 g2 g3 hlv (fun t ht => by rw [hq] at ht; cases ht) g4))) Xq9.mk
theorem IA.one {L : Int → Lb} {x : Lb} {i : Int} {ps : List St2} (h : IA L x i ps) (h0 : 0 ≤ i) (e : L i = x) : IA L x (i + 1) (addS ps (i, some i)) :=
  h.addG ⟨h0, fun v z => by cases z; exact Int.le_refl _⟩ (Int.le_refl _) ⟨i, rfl, by omega⟩ (by omega) fun a h1 h2 => by
    have : a = i := by omega
    subst this
    exact ⟨fun _ => ⟨Int.le_refl _, fun v z => by cases z; exact Int.le_refl _⟩, fun _ => e⟩
theorem IA.none {L : Int → Lb} {x : Lb} {i : Int} {ps : List St2} (h : IA L x i ps) (e : L i ≠ x) : IA L x (i + 1) ps :=
  h.skip (by omega) fun a h1 h2 => by rw [show a = i by omega]; exact e
theorem IsLater.from {L : Int → Lb} {a x : Int} {o : Option Int} (h : IsLater L x o) (hax : a ≤ x) (hn : ∀ b, a < b → b ≤ x → ¬ Edge L b) : IsLater L a o := @Rq9 _ _ (fun qz => @Hq9.get _ _ (qz.bar : Hq9 _ (by
  clear qz
  cases o with
  | none =>
    intro b hb
    by_cases z : b ≤ x
    · exact hn b hb z
    · exact h b (by omega)
  | some e =>
    obtain ⟨h1, h2, h3⟩ := h
    refine ⟨by omega, h2, fun b hb hb2 => ?_⟩
    by_cases z : b ≤ x
    · exact hn b hb z
    · exact h3 b (by omega) hb2))) Xq9.mk
end
section
open PySem L2
end
section
open PySem L2
/-! ### stretches of one label that cover the ages up to g -/
abbrev Pr := Int × Int
end
section
open PySem L2
def Met (L : Int → Lb) (xs : List Lb) (g : Int) : Prop := xs.Nodup ∧ ∀ x, x ∈ xs ↔ ∃ b, 0 ≤ b ∧ b ≤ g ∧ L b = x
end
section
open PySem L2
/-! ### segments seen from within -/
/-- each age ahead of a segment lies in one of those before it -/
theorem SegOk.find {B : Int} {L : Int → Lb} : ∀ {p : List Sg} {low : Int} {x : Sg} {q : List Sg}, SegOk B L low (p ++ x :: q) → ∀ a, low ≤ a → a < x.1 → ∃ y ∈ p, y.1 ≤ a ∧ ∃ v, y.2.1 = some v ∧ a < v
  | [], low, (l, h, r), q, ⟨h1, _⟩ => fun a h2 h3 => by
    have h3 : a < l := h3
    omega
  | (l, h, r) :: p, low, x, q, ⟨h1, h2, h3, h4, h5, h6, h7⟩ => fun a h10 h11 => by
    cases h with
    | none => simp at h7
    | some v =>
      obtain ⟨h8, h9⟩ := h7
      by_cases z : a < v
      · exact ⟨_, List.mem_cons_self .., by show l ≤ a; omega, v, rfl, z⟩
      · obtain ⟨y, hy, k⟩ := SegOk.find h9 a (by omega) h11
        exact ⟨y, List.mem_cons_of_mem _ hy, k⟩
/-! ### the edge at or ahead -/
section
variable {B : Int} {L : Int → Lb} {l a top u : Int} {h : Option Int} {r : Rw}
end
/-! ### labels that come back -/
def Ret (L : Int → Lb) (e : Int) : Prop := Edge L e ∧ ∃ a, 0 ≤ a ∧ a < e ∧ L a = L e
def Steady (L : Int → Lb) : Prop := ∀ e, ¬ Ret L e
section
variable {B : Int} {L : Int → Lb} {l b n : Int} {h : Option Int} {r r' : Rw}
end
end
section
open PySem L2
section
variable {T : Tab} {fr : Fr} {P : RV → Fr → Prop} {PD : D → Fr → Prop} {PX : PXt} {K : SxP} {a b c : Tm} {i : Nat} {sto : List Cell} {env : List Slot}
def minO : List Int → Option Int
  | [] => none
  | i :: is => some (minL (i :: is))
theorem minL_spec (i : Int) (is : List Int) : minL (i :: is) ∈ i :: is ∧ ∀ y ∈ i :: is, minL (i :: is) ≤ y := @Rq9 _ _ (fun qz => @Hq9.get _ _ (qz.bar : Hq9 _ (by
  clear qz
  have key : ∀ (l : List Int) (a : Int), (l.foldl (fun a b => if b < a then b else a) a) ∈ a :: l ∧ ∀ y ∈ a :: l, l.foldl (fun a b => if b < a then b else a) a ≤ y := by
    intro l
    induction l with
    | nil => intro a; simp
    | cons b l ih =>
      intro a
      rw [List.foldl_cons]
      obtain ⟨h1, h2⟩ := ih (if b < a then b else a)
      refine ⟨?_, fun y hy => ?_⟩
      · rcases List.mem_cons.mp h1 with h1 | h1
        · rw [h1]; split <;> simp
        · exact List.mem_cons_of_mem _ (List.mem_cons_of_mem _ h1)
      · have h3 := h2 _ (List.mem_cons_self ..)
        have h4 : (if b < a then b else a) ≤ a ∧ (if b < a then b else a) ≤ b := by split <;> omega
        generalize List.foldl (fun a b => if b < a then b else a) (if b < a then b else a) l = m at *
        rcases List.mem_cons.mp hy with rfl | hy
        · exact Int.le_trans h3 h4.1
        · rcases List.mem_cons.mp hy with rfl | hy
          · exact Int.le_trans h3 h4.2
          · exact h2 y (List.mem_cons_of_mem _ hy)
  exact key is i))) Xq9.mk
theorem minO_none {l : List Int} (h : minO l = none) : l = [] := by cases l with | nil => rfl | cons => cases h
theorem minO_some {l : List Int} {m : Int} (h : minO l = some m) : m ∈ l ∧ ∀ y ∈ l, m ≤ y := @Rq9 _ _ (fun qz => @Hq9.get _ _ (qz.bar : Hq9 _ (by
  clear qz
  cases l with
  | nil => cases h
  | cons i is => cases h; exact minL_spec i is))) Xq9.mk
end
end
local macro_rules | `(tactic| fail "a3") => `(tactic| first
  | (with_reducible refine' Ix_id ?s1 ?_; (case s1 => with_unfolding_all exact rfl))
  | (with_reducible refine' Il_id ?s1 ?s2 ?_; (case s1 => with_unfolding_all exact rfl); (case s2 => assumption))
  | (with_reducible refine' V_pop ?s1 ?s2 ?_; (case s1 => with_unfolding_all exact rfl); (case s2 => assumption))
  | (with_reducible refine C_isnTup ?_)
  | (with_reducible refine C_isTup ?_)
  | (with_reducible refine C_neSt0 ?_)
  | (with_reducible refine C_eqSt0 ?_)
  | (with_reducible refine C_eqOI ?_)
  | (with_reducible refine C_neOI ?_)
  | (with_reducible refine C_isO ?_)
  | (with_reducible refine C_isnO ?_))
section
open PySem L2
section
variable {T : Tab} {P : Out → List Cell → Prop} {PX : Nat → List D → List Cell → Prop} {s sto : List Cell} {r : Rw} {rs : List Rw} {u a c l o : Int} {w : Str}
end
section
local macro_rules | `(tactic| walk_at "w") => `(tactic| repeat' first
  | fail "a1"
  | (with_reducible refine' C_count ?s1 ?s2 ?s3 ?s4 ?s5 ?_; (case s1 => with_unfolding_all exact rfl); (case s2 => omega); (case s3 => omega); (case s4 => omega); (case s5 => omega))
  | (with_reducible refine' C_offset ?s1 ?_; (case s1 => with_unfolding_all exact rfl))
  | (with_reducible refine' C_fwi ?s1 ?s2 ?_; (case s1 => with_unfolding_all exact rfl); (case s2 => omega))
  | (with_reducible refine' C_foc ?s1 ?s2 ?s3 ?s4 ?s5 ?_; (case s1 => with_unfolding_all exact rfl); (case s2 => omega); (case s3 => omega); (case s4 => omega); (case s5 => omega))
  | (with_reducible refine' C_check ?s1 ?s2 ?_; (case s1 => with_unfolding_all exact rfl); (case s2 => omega))
  | (with_reducible refine' At_uS ?s1 ?s2 ?_; (case s1 => with_unfolding_all exact rfl); (case s2 => assumption))
  | (with_reducible refine' At_uN ?s1 ?s2 ?_; (case s1 => with_unfolding_all exact rfl); (case s2 => assumption))
  | (with_reducible refine' At_kS ?s1 ?s2 ?_; (case s1 => with_unfolding_all exact rfl); (case s2 => assumption))
  | (with_reducible refine' At_kN ?s1 ?s2 ?_; (case s1 => with_unfolding_all exact rfl); (case s2 => assumption))
  | (with_reducible refine' At_u ?s1 ?_; (case s1 => with_unfolding_all exact rfl))
  | (with_reducible refine' At_w ?s1 ?_; (case s1 => with_unfolding_all exact rfl))
  | (with_reducible refine' At_s ?s1 ?_; (case s1 => with_unfolding_all exact rfl))
  | (with_reducible refine' At_rs ?s1 ?_; (case s1 => with_unfolding_all exact rfl))
  | (with_reducible refine' Mt_wg ?s1 ?s2 ?_; (case s1 => with_unfolding_all exact rfl); (case s2 => with_unfolding_all exact rfl))
  | (with_reducible refine' C_rlab ?s1 ?s2 ?s3 ?s4 ?_; (case s1 => with_unfolding_all exact rfl); (case s2 => assumption); (case s3 => omega); (case s4 => omega))
  | fail "a3"
  | (with_reducible refine' C_rages ?s1 ?s2 ?_; (case s1 => with_unfolding_all exact rfl); (case s2 => assumption))
  | fail "a2")
end
end
section
open PySem L2
/-! ### making a wording -/
section
variable {T : Tab} {P : Out → List Cell → Prop} {PX : Nat → List D → List Cell → Prop} {s sto : List Cell} {r : Rw} {rs : List Rw} {u a c l o : Int} {w : Str} {env : List Slot} {i : Nat} {xs : List D}
end
section
local macro_rules | `(tactic| walk_at "w") => `(tactic| repeat' first
  | fail "a1"
  | (with_reducible refine' C_count ?s1 ?s2 ?s3 ?s4 ?s5 ?_; (case s1 => with_unfolding_all exact rfl); (case s2 => omega); (case s3 => omega); (case s4 => omega); (case s5 => omega))
  | (with_reducible refine' C_offset ?s1 ?_; (case s1 => with_unfolding_all exact rfl))
  | (with_reducible refine' C_fwi ?s1 ?s2 ?_; (case s1 => with_unfolding_all exact rfl); (case s2 => omega))
  | (with_reducible refine' C_foc ?s1 ?s2 ?s3 ?s4 ?s5 ?_; (case s1 => with_unfolding_all exact rfl); (case s2 => omega); (case s3 => omega); (case s4 => omega); (case s5 => omega))
  | (with_reducible refine' C_check ?s1 ?s2 ?_; (case s1 => with_unfolding_all exact rfl); (case s2 => omega))
  | (with_reducible refine' At_uS ?s1 ?s2 ?_; (case s1 => with_unfolding_all exact rfl); (case s2 => assumption))
  | (with_reducible refine' At_uN ?s1 ?s2 ?_; (case s1 => with_unfolding_all exact rfl); (case s2 => assumption))
  | (with_reducible refine' At_kS ?s1 ?s2 ?_; (case s1 => with_unfolding_all exact rfl); (case s2 => assumption))
  | (with_reducible refine' At_kN ?s1 ?s2 ?_; (case s1 => with_unfolding_all exact rfl); (case s2 => assumption))
  | (with_reducible refine' At_u ?s1 ?_; (case s1 => with_unfolding_all exact rfl))
  | (with_reducible refine' At_w ?s1 ?_; (case s1 => with_unfolding_all exact rfl))
  | (with_reducible refine' At_s ?s1 ?_; (case s1 => with_unfolding_all exact rfl))
  | (with_reducible refine' At_rs ?s1 ?_; (case s1 => with_unfolding_all exact rfl))
  | (with_reducible refine' Mt_wg ?s1 ?s2 ?_; (case s1 => with_unfolding_all exact rfl); (case s2 => with_unfolding_all exact rfl))
  | (with_reducible refine' C_rlab ?s1 ?s2 ?s3 ?s4 ?_; (case s1 => with_unfolding_all exact rfl); (case s2 => assumption); (case s3 => omega); (case s4 => omega))
  | fail "a3"
  | fail "a2")
end
/-! an __init__ -/
section
variable {T : Tab} {ib : List (Option Nat × Tm)} {fs : List (Nat × D)} {fr : Fr} {P : List (Nat × D) → Fr → Prop} {PX : PXt} {t : Tm} {f : Nat}
end
section
variable {T : Tab} {P : Out → List Cell → Prop} {PX : Nat → List D → List Cell → Prop} {s sto : List Cell} {rs : List Rw}
end
section
local macro_rules | `(tactic| walk_at "w") => `(tactic| repeat' first
  | fail "a1"
  | (with_reducible refine' C_count ?s1 ?s2 ?s3 ?s4 ?s5 ?_; (case s1 => with_unfolding_all exact rfl); (case s2 => omega); (case s3 => omega); (case s4 => omega); (case s5 => omega))
  | (with_reducible refine' C_offset ?s1 ?_; (case s1 => with_unfolding_all exact rfl))
  | (with_reducible refine' C_fwi ?s1 ?s2 ?_; (case s1 => with_unfolding_all exact rfl); (case s2 => omega))
  | (with_reducible refine' C_foc ?s1 ?s2 ?s3 ?s4 ?s5 ?_; (case s1 => with_unfolding_all exact rfl); (case s2 => omega); (case s3 => omega); (case s4 => omega); (case s5 => omega))
  | (with_reducible refine' C_check ?s1 ?s2 ?_; (case s1 => with_unfolding_all exact rfl); (case s2 => omega))
  | (with_reducible refine' At_uS ?s1 ?s2 ?_; (case s1 => with_unfolding_all exact rfl); (case s2 => assumption))
  | (with_reducible refine' At_uN ?s1 ?s2 ?_; (case s1 => with_unfolding_all exact rfl); (case s2 => assumption))
  | (with_reducible refine' At_kS ?s1 ?s2 ?_; (case s1 => with_unfolding_all exact rfl); (case s2 => assumption))
  | (with_reducible refine' At_kN ?s1 ?s2 ?_; (case s1 => with_unfolding_all exact rfl); (case s2 => assumption))
  | (with_reducible refine' At_u ?s1 ?_; (case s1 => with_unfolding_all exact rfl))
  | (with_reducible refine' At_w ?s1 ?_; (case s1 => with_unfolding_all exact rfl))
  | (with_reducible refine' At_s ?s1 ?_; (case s1 => with_unfolding_all exact rfl))
  | (with_reducible refine' At_rs ?s1 ?_; (case s1 => with_unfolding_all exact rfl))
  | (with_reducible refine' Mt_wg ?s1 ?s2 ?_; (case s1 => with_unfolding_all exact rfl); (case s2 => with_unfolding_all exact rfl))
  | (with_reducible refine' C_rlab ?s1 ?s2 ?s3 ?s4 ?_; (case s1 => with_unfolding_all exact rfl); (case s2 => assumption); (case s3 => omega); (case s4 => omega))
  | fail "a3"
  | (with_reducible refine L_tupL ?_)
  | (with_reducible refine' C_checkr ?s1 ?s2 ?_; (case s1 => with_unfolding_all exact rfl); (case s2 => assumption))
  | fail "a2")
end
section
variable {T : Tab} {P : Out → List Cell → Prop} {PX : Nat → List D → List Cell → Prop} {s sto : List Cell} {rs : List Rw} {r : Rw}
end
section
local macro_rules | `(tactic| walk_at "w") => `(tactic| repeat' first
  | fail "a1"
  | (with_reducible refine' C_count ?s1 ?s2 ?s3 ?s4 ?s5 ?_; (case s1 => with_unfolding_all exact rfl); (case s2 => omega); (case s3 => omega); (case s4 => omega); (case s5 => omega))
  | (with_reducible refine' C_offset ?s1 ?_; (case s1 => with_unfolding_all exact rfl))
  | (with_reducible refine' C_fwi ?s1 ?s2 ?_; (case s1 => with_unfolding_all exact rfl); (case s2 => omega))
  | (with_reducible refine' C_foc ?s1 ?s2 ?s3 ?s4 ?s5 ?_; (case s1 => with_unfolding_all exact rfl); (case s2 => omega); (case s3 => omega); (case s4 => omega); (case s5 => omega))
  | (with_reducible refine' C_check ?s1 ?s2 ?_; (case s1 => with_unfolding_all exact rfl); (case s2 => omega))
  | (with_reducible refine' At_uS ?s1 ?s2 ?_; (case s1 => with_unfolding_all exact rfl); (case s2 => assumption))
  | (with_reducible refine' At_uN ?s1 ?s2 ?_; (case s1 => with_unfolding_all exact rfl); (case s2 => assumption))
  | (with_reducible refine' At_kS ?s1 ?s2 ?_; (case s1 => with_unfolding_all exact rfl); (case s2 => assumption))
  | (with_reducible refine' At_kN ?s1 ?s2 ?_; (case s1 => with_unfolding_all exact rfl); (case s2 => assumption))
  | (with_reducible refine' At_u ?s1 ?_; (case s1 => with_unfolding_all exact rfl))
  | (with_reducible refine' At_w ?s1 ?_; (case s1 => with_unfolding_all exact rfl))
  | (with_reducible refine' At_s ?s1 ?_; (case s1 => with_unfolding_all exact rfl))
  | (with_reducible refine' At_rs ?s1 ?_; (case s1 => with_unfolding_all exact rfl))
  | (with_reducible refine' Mt_wg ?s1 ?s2 ?_; (case s1 => with_unfolding_all exact rfl); (case s2 => with_unfolding_all exact rfl))
  | (with_reducible refine' C_rlab ?s1 ?s2 ?s3 ?s4 ?_; (case s1 => with_unfolding_all exact rfl); (case s2 => assumption); (case s3 => omega); (case s4 => omega))
  | fail "a3"
  | (with_reducible refine' C_Wording ?s1 ?s2 ?_; (case s1 => with_unfolding_all exact rfl); (case s2 => assumption))
  | (with_reducible refine' C_Row ?s1 ?_; (case s1 => with_unfolding_all exact rfl))
  | fail "a2")
end
end
section
open PySem L2
/-! ### drawn rows -/
/-- rows all with an until, from l to e -/
def Chn (B : Int) : Int → List Rw → Int → Prop
  | l, [], e => l = e
  | l, r :: rs, e => RwN B r ∧ ∃ v, r.u = some v ∧ l < v ∧ v < B ∧ Chn B v rs e
theorem Chn.snoc {B : Int} : ∀ {rs : List Rw} {l e v : Int} {r : Rw}, Chn B l rs e → RwN B r → r.u = some v → e < v → v < B → Chn B l (rs ++ [r]) v
  | [], l, e, v, r, h, h1, h2, h3, h4 => by
    have h : l = e := h
    subst h
    exact ⟨h1, v, h2, h3, h4, rfl⟩
  | x :: xs, l, e, v, r, ⟨g1, w, g2, g3, g4, g5⟩, h1, h2, h3, h4 => ⟨g1, w, g2, g3, g4, g5.snoc h1 h2 h3 h4⟩
theorem Chn.last {B : Int} : ∀ {rs : List Rw} {l e : Int} {r : Rw}, Chn B l rs e → 0 ≤ l → l < B → RwN B r → r.u = none → Ok B l (rs ++ [r])
  | [], l, e, r, h, h0, hB, h1, h2 => ⟨h1, h0, hB, by rw [h2]⟩
  | x :: xs, l, e, r, ⟨g1, w, g2, g3, g4, g5⟩, h0, hB, h1, h2 => ⟨g1, h0, hB, by rw [g2]; exact ⟨g3, g5.last (by omega) g4 h1 h2⟩⟩
theorem Ok.mono {B B' : Int} (hb : B ≤ B') : ∀ {rs : List Rw} {l : Int}, Ok B l rs → Ok B' l rs
  | [], _, h => h
  | r :: rs, l, ⟨h1, h2, h3, h4⟩ => ⟨fun u e => by have := h1 u e; omega, h2, by omega, by
    cases q : r.u with
    | none => rw [q] at h4; exact h4
    | some v => rw [q] at h4; exact ⟨h4.1, Ok.mono hb h4.2⟩⟩
/-- steady: unlike words, and rows that go on as the one before -/
def stW : List Str := ["now", "s", "m", "h", "d", "w"]
def Std (rs : List Rw) : Prop := ∀ i r, rs[i]? = some r → (stW[i]? = some r.s) ∨ ∃ p, 0 < i ∧ rs[i - 1]? = some p ∧ r.k = p.k ∧ r.w = p.w ∧ r.s = p.s
/-- drawn rows -/
structure Drawn (B : Int) (ws : List Str) (rs : List Rw) : Prop where
  ok : Ok B 0 rs
  len : rs.length ≤ 6
  way : ∀ r ∈ rs, Way r.w
  std : ws = [] → Std rs
  wrd : ∀ r ∈ rs, r.s ∈ stW ∨ r.s ∈ ws
section
variable {T : Tab} {P : Out → List Cell → Prop} {PX : Nat → List D → List Cell → Prop} {s sto : List Cell} {rs : List Rw} {r : Rw} {B : Int}
end
section
local macro_rules | `(tactic| walk_at "w") => `(tactic| repeat' first
  | fail "a1"
  | (with_reducible refine' C_draw ?s1 ?s2 ?s3 ?s4 ?s5 ?_; (case s1 => with_unfolding_all exact rfl); (case s2 => assumption); (case s3 => omega); (case s4 => omega); (case s5 => omega); intro r s' hr0 hr1 hp)
  | fail "a2")
end
section
variable {T : Tab} {P : Out → List Cell → Prop} {PX : Nat → List D → List Cell → Prop} {s : List Cell} {B : Int}
end
end
section
open PySem L2
/-! ### lists of texts -/
section
variable {T : Tab} {fr : Fr} {PD : D → Fr → Prop} {PX : PXt} {b : Tm} {ts : List Tm} {P : Bool → Prop} {ws : List Str} {sto : List Cell} {Q : D → Prop}
end
/-- drawn rows so far -/
structure Dr (m : Int) (ws : List Str) (i : Nat) (e : Int) (rs : List Rw) : Prop where
  len : rs.length = i
  chn : (i : Int) < m → Chn 2000 0 rs e ∧ 0 ≤ e ∧ e ≤ 90 * i
  ok : (i : Int) = m → Ok 2000 0 rs
  way : ∀ r ∈ rs, Way r.w
  std : ws = [] → Std rs
  wrd : ∀ r ∈ rs, r.s ∈ stW ∨ r.s ∈ ws
theorem Dr.step {m : Int} {ws : List Str} {i : Nat} {e n : Int} {rs : List Rw} {r : Rw} (h : Dr m ws i e rs) (hi : (i : Int) < m) (hm : m ≤ 6) (hn : 0 ≤ n ∧ n < 90) (hu : r.u = if (i : Int) = m - 1 then none else some (e + 1 + n)) (hN : RwN 2000 r) (hw : Way r.w)
    (hs : ws = [] → (stW[i]? = some r.s) ∨ ∃ p, rs.getLast? = some p ∧ r.k = p.k ∧ r.w = p.w ∧ r.s = p.s) (hws : ¬ ws = [] → r.s ∈ ws) : Dr m ws (i + 1) (e + 1 + n) (rs ++ [r]) := @Rq9 _ _ (fun qz => @Hq9.get _ _ (qz.bar : Hq9 _ (by
  clear qz
  obtain ⟨c1, c2, c3⟩ := h.chn hi
  refine ⟨by rw [List.length_append, h.len]; rfl, fun q => ?_, fun q => ?_, fun x hx => ?_, fun q => ?_, fun x hx => ?_⟩
  · rw [if_neg (by omega)] at hu
    exact ⟨c1.snoc hN hu (by omega) (by omega), by omega, by omega⟩
  · rw [if_pos (by omega)] at hu
    exact c1.last (by omega) (by omega) hN hu
  · rcases List.mem_append.mp hx with z | z
    · exact h.way x z
    · rw [List.mem_singleton.mp z]; exact hw
  · intro j x hx
    by_cases z : j < rs.length
    · rw [List.getElem?_append_left z] at hx
      rcases h.std q j x hx with y | ⟨p, h1, h2, h3⟩
      · exact .inl y
      · exact .inr ⟨p, h1, by rw [List.getElem?_append_left (by omega)]; exact h2, h3⟩
    · have hj : j = rs.length := by
        have := (List.getElem?_eq_some_iff.mp hx).1
        rw [List.length_append] at this
        simp only [List.length_cons, List.length_nil] at this
        omega
      subst hj
      rw [List.getElem?_append_right (Nat.le_refl _), Nat.sub_self] at hx
      cases hx
      rcases hs q with y | ⟨p, h1, h2⟩
      · rw [h.len]; exact .inl y
      · have hne : rs ≠ [] := fun z => by rw [z] at h1; cases h1
        have hl := List.length_pos_iff.mpr hne
        refine .inr ⟨p, hl, ?_, h2⟩
        rw [List.getElem?_append_left (by omega), ← List.getLast?_eq_getElem?]; exact h1
  · rcases List.mem_append.mp hx with z | z
    · exact h.wrd x z
    · rw [List.mem_singleton.mp z]
      by_cases q : ws = []
      · rcases hs q with y | ⟨p, h1, _, _, h4⟩
        · exact .inl (List.mem_of_getElem? y)
        · rw [h4]; exact h.wrd p (List.mem_of_getLast? h1)
      · exact .inr (hws q)))) Xq9.mk
section
local macro_rules | `(tactic| walk_at "w") => `(tactic| repeat' first
  | (with_reducible refine V_ixLst ?_)
  | fail "a1"
  | fail "a3"
  | (with_reducible refine' C_draw ?s1 ?s2 ?s3 ?s4 ?s5 ?_; (case s1 => with_unfolding_all exact rfl); (case s2 => assumption); (case s3 => omega); (case s4 => omega); (case s5 => omega); intro r s' hr0 hr1 hp)
  | (with_reducible refine' C_number ?s1 ?s2 ?s3 ?_; (case s1 => with_unfolding_all exact rfl); (case s2 => assumption); (case s3 => omega); intro n s' hn0 hn1 hp)
  | (with_reducible refine' C_way ?s1 ?s2 ?s3 ?_; (case s1 => with_unfolding_all exact rfl); (case s2 => assumption); (case s3 => omega); intro w s' hw hp)
  | (with_reducible refine' C_eqStrs0T ?s1 ?s2 ?_; (case s1 => assumption); (case s2 => assumption))
  | (with_reducible refine' C_eqStrs0F ?s1 ?s2 ?_; (case s1 => assumption); (case s2 => assumption))
  | fail "a2")
end
end
section
open PySem L2
/-! ### the law's own reading of rows -/
/-- the place of the row of an age -/
def rowOf : List Rw → Int → Nat
  | [], _ => 0
  | r :: rs, a => match r.u with
    | none => 0
    | some v => if a < v then 0 else rowOf rs a + 1
theorem rowOf_lab {B : Int} : ∀ {rs : List Rw} {l a : Int}, Ok B l rs → ∃ r, rs[rowOf rs a]? = some r ∧ lab rs a = rlab r a ∧ RwN B r ∧ (∀ v, r.u = some v → a < v) ∧ ∀ j r', j < rowOf rs a → rs[j]? = some r' → ∃ v, r'.u = some v ∧ v ≤ a
  | [], _, _, h => h.elim
  | r :: rs, l, a, ⟨h1, h2, h3, h4⟩ => by
    unfold rowOf lab
    cases q : r.u with
    | none => exact ⟨r, rfl, rfl, h1, fun v z => (by rw [q] at z; cases z), fun j r' hj => (by cases hj)⟩
    | some v =>
      rw [q] at h4
      dsimp only
      by_cases z : a < v
      · rw [if_pos z, if_pos z]
        exact ⟨r, rfl, rfl, h1, fun w y => (by rw [q] at y; cases y; exact z), fun j r' hj => (by cases hj)⟩
      · rw [if_neg z, if_neg z]
        obtain ⟨r', g1, g2, g3, g4, g5⟩ := rowOf_lab (a := a) h4.2
        refine ⟨r', by simpa using g1, g2, g3, g4, fun j r'' hj hr => ?_⟩
        cases j with
        | zero => cases hr; exact ⟨v, q, by omega⟩
        | succ j => exact g5 j r'' (by omega) (by simpa using hr)
section
variable {T : Tab} {P : Out → List Cell → Prop} {PX : Nat → List D → List Cell → Prop} {s sto : List Cell} {rs : List Rw} {r : Rw} {B u a m : Int} {w : Str} {ws : List Str}
end
section
local macro_rules | `(tactic| walk_at "w") => `(tactic| repeat' first
  | fail "a1"
  | fail "a3"
  | fail "a2")
end
section
variable {T : Tab} {P : Out → List Cell → Prop} {PX : Nat → List D → List Cell → Prop} {s sto : List Cell} {rs : List Rw} {r : Rw} {B u a m : Int} {w : Str}
end
section
local macro_rules | `(tactic| walk_at "w") => `(tactic| repeat' first
  | fail "a1"
  | fail "a3"
  | (with_reducible refine' C_lcount ?s1 ?s2 ?s3 ?s4 ?s5 ?_; (case s1 => with_unfolding_all exact rfl); (case s2 => omega); (case s3 => omega); (case s4 => omega); (case s5 => omega))
  | (with_reducible refine' C_rowof ?s1 ?s2 ?_; (case s1 => with_unfolding_all exact rfl); (case s2 => assumption))
  | fail "a2")
end
section
variable {T : Tab} {P : Out → List Cell → Prop} {PX : Nat → List D → List Cell → Prop} {s sto : List Cell} {rs : List Rw} {r : Rw} {B u a m f : Int} {w : Str}
end
end
section
open PySem L2
/-- the words are texts -/
def SOk (rs : List Rw) : Prop := ∀ r ∈ rs, PyData.strOk r.s = true
/-- where the row of an index begins -/
def lo : Int → List Rw → Nat → Int
  | l, [], _ => l
  | l, _ :: _, 0 => l
  | _, r :: rs, i + 1 => lo (r.u.getD 0) rs i
section
local macro_rules | `(tactic| walk_at "w") => `(tactic| repeat' first
  | fail "a1"
  | fail "a3"
  | (with_reducible refine' C_draw ?s1 ?s2 ?s3 ?s4 ?s5 ?_; (case s1 => with_unfolding_all exact rfl); (case s2 => assumption); (case s3 => omega); (case s4 => omega); (case s5 => omega); intro r s' hr0 hr1 hp)
  | (with_reducible refine' C_llab ?s1 ?s2 ?s3 ?s4 ?_; (case s1 => with_unfolding_all exact rfl); (case s2 => assumption); (case s3 => omega); (case s4 => omega))
  | (with_reducible refine' C_eqLb ?s1 ?s2 ?_; (case s1 => first | assumption | exact lab_ok _ (by assumption)); (case s2 => first | assumption | exact lab_ok _ (by assumption)))
  | (with_reducible refine' C_neLb ?s1 ?s2 ?_; (case s1 => first | assumption | exact lab_ok _ (by assumption)); (case s2 => first | assumption | exact lab_ok _ (by assumption)))
  | fail "a2")
end
end
section
open PySem L2
section
variable {T : Tab} {P : Out → List Cell → Prop} {PX : Nat → List D → List Cell → Prop} {s sto : List Cell} {rs : List Rw} {r : Rw} {x h : Int}
end
section
local macro_rules | `(tactic| walk_at "w") => `(tactic| repeat' first
  | fail "a1"
  | fail "a3"
  | (with_reducible refine' C_draw ?s1 ?s2 ?s3 ?s4 ?s5 ?_; (case s1 => with_unfolding_all exact rfl); (case s2 => assumption); (case s3 => omega); (case s4 => omega); (case s5 => omega); intro r s' hr0 hr1 hp)
  | (with_reducible refine' C_llab ?s1 ?s2 ?s3 ?s4 ?_; (case s1 => with_unfolding_all exact rfl); (case s2 => assumption); (case s3 => omega); (case s4 => omega))
  | (with_reducible refine' C_eqLb ?s1 ?s2 ?_; (case s1 => first | assumption | exact lab_ok _ (by assumption)); (case s2 => first | assumption | exact lab_ok _ (by assumption)))
  | (with_reducible refine' C_neLb ?s1 ?s2 ?_; (case s1 => first | assumption | exact lab_ok _ (by assumption)); (case s2 => first | assumption | exact lab_ok _ (by assumption)))
  | fail "a2")
end
end
section
open PySem L2
section
variable {B : Int} {L : Int → Lb} {l a m u : Int} {h : Option Int} {r : Rw}
end
section
variable {T : Tab} {P : Out → List Cell → Prop} {PX : Nat → List D → List Cell → Prop} {s sto : List Cell} {rs : List Rw} {a : Int}
local macro_rules | `(tactic| walk_at "w") => `(tactic| repeat' first
  | fail "a1"
  | (with_reducible refine' C_count ?s1 ?s2 ?s3 ?s4 ?s5 ?_; (case s1 => with_unfolding_all exact rfl); (case s2 => omega); (case s3 => omega); (case s4 => omega); (case s5 => omega))
  | (with_reducible refine' C_offset ?s1 ?_; (case s1 => with_unfolding_all exact rfl))
  | (with_reducible refine' C_fwi ?s1 ?s2 ?_; (case s1 => with_unfolding_all exact rfl); (case s2 => omega))
  | (with_reducible refine' C_foc ?s1 ?s2 ?s3 ?s4 ?s5 ?_; (case s1 => with_unfolding_all exact rfl); (case s2 => omega); (case s3 => omega); (case s4 => omega); (case s5 => omega))
  | (with_reducible refine' C_check ?s1 ?s2 ?_; (case s1 => with_unfolding_all exact rfl); (case s2 => omega))
  | (with_reducible refine' At_uS ?s1 ?s2 ?_; (case s1 => with_unfolding_all exact rfl); (case s2 => assumption))
  | (with_reducible refine' At_uN ?s1 ?s2 ?_; (case s1 => with_unfolding_all exact rfl); (case s2 => assumption))
  | (with_reducible refine' At_kS ?s1 ?s2 ?_; (case s1 => with_unfolding_all exact rfl); (case s2 => assumption))
  | (with_reducible refine' At_kN ?s1 ?s2 ?_; (case s1 => with_unfolding_all exact rfl); (case s2 => assumption))
  | (with_reducible refine' At_u ?s1 ?_; (case s1 => with_unfolding_all exact rfl))
  | (with_reducible refine' At_w ?s1 ?_; (case s1 => with_unfolding_all exact rfl))
  | (with_reducible refine' At_s ?s1 ?_; (case s1 => with_unfolding_all exact rfl))
  | (with_reducible refine' At_rs ?s1 ?_; (case s1 => with_unfolding_all exact rfl))
  | (with_reducible refine' Mt_wg ?s1 ?s2 ?_; (case s1 => with_unfolding_all exact rfl); (case s2 => with_unfolding_all exact rfl))
  | (with_reducible refine' C_rlab ?s1 ?s2 ?s3 ?s4 ?_; (case s1 => with_unfolding_all exact rfl); (case s2 => assumption); (case s3 => omega); (case s4 => omega))
  | fail "a3"
  | (with_reducible refine' C_draw ?s1 ?s2 ?s3 ?s4 ?s5 ?_; (case s1 => with_unfolding_all exact rfl); (case s2 => assumption); (case s3 => omega); (case s4 => omega); (case s5 => omega); intro r s' hr0 hr1 hp)
  | (with_reducible refine' C_llab ?s1 ?s2 ?s3 ?s4 ?_; (case s1 => with_unfolding_all exact rfl); (case s2 => assumption); (case s3 => omega); (case s4 => omega))
  | (with_reducible refine' C_eqLb ?s1 ?s2 ?_; (case s1 => first | assumption | exact lab_ok _ (by assumption)); (case s2 => first | assumption | exact lab_ok _ (by assumption)))
  | (with_reducible refine' C_neLb ?s1 ?s2 ?_; (case s1 => first | assumption | exact lab_ok _ (by assumption)); (case s2 => first | assumption | exact lab_ok _ (by assumption)))
  | (with_reducible refine' C_rages ?s1 ?s2 ?_; (case s1 => with_unfolding_all exact rfl); (case s2 => assumption))
  | (with_reducible refine' C_label ?s1 ?s2 ?s3 ?s4 ?_; (case s1 => with_unfolding_all exact rfl); (case s2 => assumption); (case s3 => omega); (case s4 => omega))
  | (with_reducible refine' C_neLb (lab_ok _ ?s1) (lab_ok _ ?s2) ?_; (case s1 => assumption); (case s2 => assumption))
  | fail "a2")
end
/-! ### the number of edges -/
section
variable {B : Int} {L : Int → Lb} {l top u : Int} {h : Option Int} {r : Rw}
end
section
variable {T : Tab} {P : Out → List Cell → Prop} {PX : Nat → List D → List Cell → Prop} {s sto : List Cell} {rs : List Rw} {a : Int}
local macro_rules | `(tactic| walk_at "w") => `(tactic| repeat' first
  | (with_reducible refine' X_augV ?s1 ?_; (case s1 => with_unfolding_all exact rfl))
  | fail "a1"
  | (with_reducible refine' C_count ?s1 ?s2 ?s3 ?s4 ?s5 ?_; (case s1 => with_unfolding_all exact rfl); (case s2 => omega); (case s3 => omega); (case s4 => omega); (case s5 => omega))
  | (with_reducible refine' C_offset ?s1 ?_; (case s1 => with_unfolding_all exact rfl))
  | (with_reducible refine' C_fwi ?s1 ?s2 ?_; (case s1 => with_unfolding_all exact rfl); (case s2 => omega))
  | (with_reducible refine' C_foc ?s1 ?s2 ?s3 ?s4 ?s5 ?_; (case s1 => with_unfolding_all exact rfl); (case s2 => omega); (case s3 => omega); (case s4 => omega); (case s5 => omega))
  | (with_reducible refine' C_check ?s1 ?s2 ?_; (case s1 => with_unfolding_all exact rfl); (case s2 => omega))
  | (with_reducible refine' At_uS ?s1 ?s2 ?_; (case s1 => with_unfolding_all exact rfl); (case s2 => assumption))
  | (with_reducible refine' At_uN ?s1 ?s2 ?_; (case s1 => with_unfolding_all exact rfl); (case s2 => assumption))
  | (with_reducible refine' At_kS ?s1 ?s2 ?_; (case s1 => with_unfolding_all exact rfl); (case s2 => assumption))
  | (with_reducible refine' At_kN ?s1 ?s2 ?_; (case s1 => with_unfolding_all exact rfl); (case s2 => assumption))
  | (with_reducible refine' At_u ?s1 ?_; (case s1 => with_unfolding_all exact rfl))
  | (with_reducible refine' At_w ?s1 ?_; (case s1 => with_unfolding_all exact rfl))
  | (with_reducible refine' At_s ?s1 ?_; (case s1 => with_unfolding_all exact rfl))
  | (with_reducible refine' At_rs ?s1 ?_; (case s1 => with_unfolding_all exact rfl))
  | (with_reducible refine' Mt_wg ?s1 ?s2 ?_; (case s1 => with_unfolding_all exact rfl); (case s2 => with_unfolding_all exact rfl))
  | (with_reducible refine' C_rlab ?s1 ?s2 ?s3 ?s4 ?_; (case s1 => with_unfolding_all exact rfl); (case s2 => assumption); (case s3 => omega); (case s4 => omega))
  | fail "a3"
  | (with_reducible refine' C_draw ?s1 ?s2 ?s3 ?s4 ?s5 ?_; (case s1 => with_unfolding_all exact rfl); (case s2 => assumption); (case s3 => omega); (case s4 => omega); (case s5 => omega); intro r s' hr0 hr1 hp)
  | (with_reducible refine' C_llab ?s1 ?s2 ?s3 ?s4 ?_; (case s1 => with_unfolding_all exact rfl); (case s2 => assumption); (case s3 => omega); (case s4 => omega))
  | (with_reducible refine' C_eqLb ?s1 ?s2 ?_; (case s1 => first | assumption | exact lab_ok _ (by assumption)); (case s2 => first | assumption | exact lab_ok _ (by assumption)))
  | (with_reducible refine' C_neLb ?s1 ?s2 ?_; (case s1 => first | assumption | exact lab_ok _ (by assumption)); (case s2 => first | assumption | exact lab_ok _ (by assumption)))
  | (with_reducible refine' C_rages ?s1 ?s2 ?_; (case s1 => with_unfolding_all exact rfl); (case s2 => assumption))
  | (with_reducible refine' C_label ?s1 ?s2 ?s3 ?s4 ?_; (case s1 => with_unfolding_all exact rfl); (case s2 => assumption); (case s3 => omega); (case s4 => omega))
  | (with_reducible refine' C_neLb (lab_ok _ ?s1) (lab_ok _ ?s2) ?_; (case s1 => assumption); (case s2 => assumption))
  | fail "a2")
end
end
section
open PySem L2
section
variable {T : Tab} {P : Out → List Cell → Prop} {PX : Nat → List D → List Cell → Prop} {s sto : List Cell} {rs : List Rw} {a : Int}
local macro_rules | `(tactic| walk_at "w") => `(tactic| repeat' first
  | (with_reducible refine D_lzip ?_)
  | fail "a1p"
  | (with_reducible refine' C_count ?s1 ?s2 ?s3 ?s4 ?s5 ?_; (case s1 => with_unfolding_all exact rfl); (case s2 => omega); (case s3 => omega); (case s4 => omega); (case s5 => omega))
  | (with_reducible refine' C_offset ?s1 ?_; (case s1 => with_unfolding_all exact rfl))
  | (with_reducible refine' C_fwi ?s1 ?s2 ?_; (case s1 => with_unfolding_all exact rfl); (case s2 => omega))
  | (with_reducible refine' C_foc ?s1 ?s2 ?s3 ?s4 ?s5 ?_; (case s1 => with_unfolding_all exact rfl); (case s2 => omega); (case s3 => omega); (case s4 => omega); (case s5 => omega))
  | (with_reducible refine' C_check ?s1 ?s2 ?_; (case s1 => with_unfolding_all exact rfl); (case s2 => omega))
  | (with_reducible refine' At_uS ?s1 ?s2 ?_; (case s1 => with_unfolding_all exact rfl); (case s2 => assumption))
  | (with_reducible refine' At_uN ?s1 ?s2 ?_; (case s1 => with_unfolding_all exact rfl); (case s2 => assumption))
  | (with_reducible refine' At_kS ?s1 ?s2 ?_; (case s1 => with_unfolding_all exact rfl); (case s2 => assumption))
  | (with_reducible refine' At_kN ?s1 ?s2 ?_; (case s1 => with_unfolding_all exact rfl); (case s2 => assumption))
  | (with_reducible refine' At_u ?s1 ?_; (case s1 => with_unfolding_all exact rfl))
  | (with_reducible refine' At_w ?s1 ?_; (case s1 => with_unfolding_all exact rfl))
  | (with_reducible refine' At_s ?s1 ?_; (case s1 => with_unfolding_all exact rfl))
  | (with_reducible refine' At_rs ?s1 ?_; (case s1 => with_unfolding_all exact rfl))
  | (with_reducible refine' Mt_wg ?s1 ?s2 ?_; (case s1 => with_unfolding_all exact rfl); (case s2 => with_unfolding_all exact rfl))
  | (with_reducible refine' C_rlab ?s1 ?s2 ?s3 ?s4 ?_; (case s1 => with_unfolding_all exact rfl); (case s2 => assumption); (case s3 => omega); (case s4 => omega))
  | fail "a3"
  | (with_reducible refine' C_draw ?s1 ?s2 ?s3 ?s4 ?s5 ?_; (case s1 => with_unfolding_all exact rfl); (case s2 => assumption); (case s3 => omega); (case s4 => omega); (case s5 => omega); intro r s' hr0 hr1 hp)
  | (with_reducible refine' C_llab ?s1 ?s2 ?s3 ?s4 ?_; (case s1 => with_unfolding_all exact rfl); (case s2 => assumption); (case s3 => omega); (case s4 => omega))
  | (with_reducible refine' C_eqLb ?s1 ?s2 ?_; (case s1 => first | assumption | exact lab_ok _ (by assumption)); (case s2 => first | assumption | exact lab_ok _ (by assumption)))
  | (with_reducible refine' C_neLb ?s1 ?s2 ?_; (case s1 => first | assumption | exact lab_ok _ (by assumption)); (case s2 => first | assumption | exact lab_ok _ (by assumption)))
  | (with_reducible refine' C_rages ?s1 ?s2 ?_; (case s1 => with_unfolding_all exact rfl); (case s2 => assumption))
  | (with_reducible refine' C_label ?s1 ?s2 ?s3 ?s4 ?_; (case s1 => with_unfolding_all exact rfl); (case s2 => assumption); (case s3 => omega); (case s4 => omega))
  | (with_reducible refine' C_neLb (lab_ok _ ?s1) (lab_ok _ ?s2) ?_; (case s1 => assumption); (case s2 => assumption))
  | fail "a2")
end
end
section
open PySem L2
section
variable {B : Int} {L : Int → Lb} {l x u e : Int} {h : Option Int} {r : Rw}
theorem IsLast.from {a : Int} (h : IsLast L x e) (hxa : x ≤ a) (hn : ∀ b, x < b → b ≤ a → ¬ Edge L b) : IsLast L a e := @Rq9 _ _ (fun qz => @Hq9.get _ _ (qz.bar : Hq9 _ (by
  clear qz
  obtain ⟨h1, h2, h3, h4⟩ := h
  refine ⟨h1, by omega, h3, fun b hb hb2 => ?_⟩
  by_cases z : b ≤ x
  · exact h4 b hb z
  · exact hn b (by omega) hb2))) Xq9.mk
end
section
variable {T : Tab} {P : Out → List Cell → Prop} {PX : Nat → List D → List Cell → Prop} {s sto : List Cell} {rs : List Rw} {a x l : Int}
local macro_rules | `(tactic| walk_at "w") => `(tactic| repeat' first
  | fail "a1p"
  | fail "a3"
  | (with_reducible refine' C_draw ?s1 ?s2 ?s3 ?s4 ?s5 ?_; (case s1 => with_unfolding_all exact rfl); (case s2 => assumption); (case s3 => omega); (case s4 => omega); (case s5 => omega); intro r s' hr0 hr1 hp)
  | (with_reducible refine' C_llab ?s1 ?s2 ?s3 ?s4 ?_; (case s1 => with_unfolding_all exact rfl); (case s2 => assumption); (case s3 => omega); (case s4 => omega))
  | (with_reducible refine' C_eqLb ?s1 ?s2 ?_; (case s1 => first | assumption | exact lab_ok _ (by assumption)); (case s2 => first | assumption | exact lab_ok _ (by assumption)))
  | (with_reducible refine' C_neLb ?s1 ?s2 ?_; (case s1 => first | assumption | exact lab_ok _ (by assumption)); (case s2 => first | assumption | exact lab_ok _ (by assumption)))
  | fail "a2")
end
section
variable {T : Tab} {P : Out → List Cell → Prop} {PX : Nat → List D → List Cell → Prop} {s sto : List Cell} {rs : List Rw} {a x l : Int}
local macro_rules | `(tactic| walk_at "w") => `(tactic| repeat' first
  | fail "a1p"
  | fail "a3"
  | (with_reducible refine' C_draw ?s1 ?s2 ?s3 ?s4 ?s5 ?_; (case s1 => with_unfolding_all exact rfl); (case s2 => assumption); (case s3 => omega); (case s4 => omega); (case s5 => omega); intro r s' hr0 hr1 hp)
  | (with_reducible refine' C_llab ?s1 ?s2 ?s3 ?s4 ?_; (case s1 => with_unfolding_all exact rfl); (case s2 => assumption); (case s3 => omega); (case s4 => omega))
  | (with_reducible refine' C_eqLb ?s1 ?s2 ?_; (case s1 => first | assumption | exact lab_ok _ (by assumption)); (case s2 => first | assumption | exact lab_ok _ (by assumption)))
  | (with_reducible refine' C_neLb ?s1 ?s2 ?_; (case s1 => first | assumption | exact lab_ok _ (by assumption)); (case s2 => first | assumption | exact lab_ok _ (by assumption)))
  | (with_reducible refine AI_range3 ?_)
  | fail "a2")
end
end
section
open PySem L2
/-! ### labels in a list of labels -/
section
variable {T : Tab} {fr : Fr} {PD : D → Fr → Prop} {PX : PXt} {a : Tm} {i : Nat} {x : Lb} {ls : List Lb} {P : Bool → Prop}
end
section
variable {T : Tab} {P : Out → List Cell → Prop} {PX : Nat → List D → List Cell → Prop} {s sto : List Cell} {rs : List Rw} {a b : Int}
end
section
variable {T : Tab} {P : Out → List Cell → Prop} {PX : Nat → List D → List Cell → Prop} {s sto : List Cell} {rs : List Rw} {a b : Int}
local macro_rules | `(tactic| walk_at "w") => `(tactic| repeat' first
  | fail "a1"
  | (with_reducible refine' C_count ?s1 ?s2 ?s3 ?s4 ?s5 ?_; (case s1 => with_unfolding_all exact rfl); (case s2 => omega); (case s3 => omega); (case s4 => omega); (case s5 => omega))
  | (with_reducible refine' C_offset ?s1 ?_; (case s1 => with_unfolding_all exact rfl))
  | (with_reducible refine' C_fwi ?s1 ?s2 ?_; (case s1 => with_unfolding_all exact rfl); (case s2 => omega))
  | (with_reducible refine' C_foc ?s1 ?s2 ?s3 ?s4 ?s5 ?_; (case s1 => with_unfolding_all exact rfl); (case s2 => omega); (case s3 => omega); (case s4 => omega); (case s5 => omega))
  | (with_reducible refine' C_check ?s1 ?s2 ?_; (case s1 => with_unfolding_all exact rfl); (case s2 => omega))
  | (with_reducible refine' At_uS ?s1 ?s2 ?_; (case s1 => with_unfolding_all exact rfl); (case s2 => assumption))
  | (with_reducible refine' At_uN ?s1 ?s2 ?_; (case s1 => with_unfolding_all exact rfl); (case s2 => assumption))
  | (with_reducible refine' At_kS ?s1 ?s2 ?_; (case s1 => with_unfolding_all exact rfl); (case s2 => assumption))
  | (with_reducible refine' At_kN ?s1 ?s2 ?_; (case s1 => with_unfolding_all exact rfl); (case s2 => assumption))
  | (with_reducible refine' At_u ?s1 ?_; (case s1 => with_unfolding_all exact rfl))
  | (with_reducible refine' At_w ?s1 ?_; (case s1 => with_unfolding_all exact rfl))
  | (with_reducible refine' At_s ?s1 ?_; (case s1 => with_unfolding_all exact rfl))
  | (with_reducible refine' At_rs ?s1 ?_; (case s1 => with_unfolding_all exact rfl))
  | (with_reducible refine' Mt_wg ?s1 ?s2 ?_; (case s1 => with_unfolding_all exact rfl); (case s2 => with_unfolding_all exact rfl))
  | (with_reducible refine' C_rlab ?s1 ?s2 ?s3 ?s4 ?_; (case s1 => with_unfolding_all exact rfl); (case s2 => assumption); (case s3 => omega); (case s4 => omega))
  | fail "a3"
  | (with_reducible refine' C_eupto ?s1 ?s2 ?s3 ?s4 ?_; (case s1 => with_unfolding_all exact rfl); (case s2 => assumption); (case s3 => assumption); (case s4 => omega))
  | fail "a2")
end
/-! ### the labels that are met -/
theorem Met.next {L : Int → Lb} {xs : List Lb} {g e : Int} (h : Met L xs g) (h0 : 0 ≤ g) (he : IsLater L g (some e)) : (L e ∈ xs → Met L xs e) ∧ (L e ∉ xs → Met L (xs ++ [L e]) e) := @Rq9 _ _ (fun qz => @Hq9.get _ _ (qz.bar : Hq9 _ (by
  clear qz
  obtain ⟨h1, h2⟩ := h
  obtain ⟨e1, e2, e3⟩ := he
  have hb : ∀ b, g < b → b < e → L b = L g := fun b hb hb2 => flat h0 (fun c hc hc2 => e3 c hc (by omega)) b (by omega) (Int.le_refl _)
  have old : ∀ x, (∃ b, 0 ≤ b ∧ b ≤ e ∧ L b = x) ↔ x ∈ xs ∨ x = L e := fun x => by
    constructor
    · rintro ⟨b, b1, b2, rfl⟩
      by_cases z : b = e
      · exact .inr (by rw [z])
      · by_cases y : b ≤ g
        · exact .inl ((h2 _).mpr ⟨b, b1, y, rfl⟩)
        · exact .inl ((h2 _).mpr ⟨g, h0, Int.le_refl _, (hb b (by omega) (by omega)).symm⟩)
    · rintro (z | rfl)
      · obtain ⟨b, b1, b2, b3⟩ := (h2 x).mp z
        exact ⟨b, b1, by omega, b3⟩
      · exact ⟨e, by omega, Int.le_refl _, rfl⟩
  refine ⟨fun z => ⟨h1, fun x => ?_⟩, fun z => ⟨?_, fun x => ?_⟩⟩
  · rw [old]
    exact ⟨.inl, fun y => y.elim id fun y => y ▸ z⟩
  · rw [List.nodup_append]
    refine ⟨h1, by simp, fun a ha b hb => ?_⟩
    rw [List.mem_singleton.mp hb]
    exact fun y => z (y ▸ ha)
  · rw [old, List.mem_append, List.mem_singleton]))) Xq9.mk
section
variable {T : Tab} {P : Out → List Cell → Prop} {PX : Nat → List D → List Cell → Prop} {s sto : List Cell} {rs : List Rw} {m : Int}
local macro_rules | `(tactic| walk_at "w") => `(tactic| repeat' first
  | (with_reducible refine V_ninOwn ?_)
  | fail "a1"
  | (with_reducible refine' C_count ?s1 ?s2 ?s3 ?s4 ?s5 ?_; (case s1 => with_unfolding_all exact rfl); (case s2 => omega); (case s3 => omega); (case s4 => omega); (case s5 => omega))
  | (with_reducible refine' C_offset ?s1 ?_; (case s1 => with_unfolding_all exact rfl))
  | (with_reducible refine' C_fwi ?s1 ?s2 ?_; (case s1 => with_unfolding_all exact rfl); (case s2 => omega))
  | (with_reducible refine' C_foc ?s1 ?s2 ?s3 ?s4 ?s5 ?_; (case s1 => with_unfolding_all exact rfl); (case s2 => omega); (case s3 => omega); (case s4 => omega); (case s5 => omega))
  | (with_reducible refine' C_check ?s1 ?s2 ?_; (case s1 => with_unfolding_all exact rfl); (case s2 => omega))
  | (with_reducible refine' At_uS ?s1 ?s2 ?_; (case s1 => with_unfolding_all exact rfl); (case s2 => assumption))
  | (with_reducible refine' At_uN ?s1 ?s2 ?_; (case s1 => with_unfolding_all exact rfl); (case s2 => assumption))
  | (with_reducible refine' At_kS ?s1 ?s2 ?_; (case s1 => with_unfolding_all exact rfl); (case s2 => assumption))
  | (with_reducible refine' At_kN ?s1 ?s2 ?_; (case s1 => with_unfolding_all exact rfl); (case s2 => assumption))
  | (with_reducible refine' At_u ?s1 ?_; (case s1 => with_unfolding_all exact rfl))
  | (with_reducible refine' At_w ?s1 ?_; (case s1 => with_unfolding_all exact rfl))
  | (with_reducible refine' At_s ?s1 ?_; (case s1 => with_unfolding_all exact rfl))
  | (with_reducible refine' At_rs ?s1 ?_; (case s1 => with_unfolding_all exact rfl))
  | (with_reducible refine' Mt_wg ?s1 ?s2 ?_; (case s1 => with_unfolding_all exact rfl); (case s2 => with_unfolding_all exact rfl))
  | (with_reducible refine' C_rlab ?s1 ?s2 ?s3 ?s4 ?_; (case s1 => with_unfolding_all exact rfl); (case s2 => assumption); (case s3 => omega); (case s4 => omega))
  | fail "a3"
  | (with_reducible refine' C_label ?s1 ?s2 ?s3 ?s4 ?_; (case s1 => with_unfolding_all exact rfl); (case s2 => assumption); (case s3 => omega); (case s4 => omega))
  | (with_reducible refine' C_ninLb (lab_ok _ ?s1) ?s2 ?_; (case s1 => assumption); (case s2 => assumption))
  | fail "a2")
end
end
section
open PySem L2
end
section
open PySem L2
section
variable {T : Tab} {fr : Fr} {K : SxP} {i : Nat}
end
section
variable {T : Tab} {P : Out → List Cell → Prop} {PX : Nat → List D → List Cell → Prop} {s sto : List Cell} {rs : List Rw} {xs : List Lb} {m : Int}
local macro_rules | `(tactic| walk_at "w") => `(tactic| repeat' first
  | fail "a1"
  | (with_reducible refine' C_count ?s1 ?s2 ?s3 ?s4 ?s5 ?_; (case s1 => with_unfolding_all exact rfl); (case s2 => omega); (case s3 => omega); (case s4 => omega); (case s5 => omega))
  | (with_reducible refine' C_offset ?s1 ?_; (case s1 => with_unfolding_all exact rfl))
  | (with_reducible refine' C_fwi ?s1 ?s2 ?_; (case s1 => with_unfolding_all exact rfl); (case s2 => omega))
  | (with_reducible refine' C_foc ?s1 ?s2 ?s3 ?s4 ?s5 ?_; (case s1 => with_unfolding_all exact rfl); (case s2 => omega); (case s3 => omega); (case s4 => omega); (case s5 => omega))
  | (with_reducible refine' C_check ?s1 ?s2 ?_; (case s1 => with_unfolding_all exact rfl); (case s2 => omega))
  | (with_reducible refine' At_uS ?s1 ?s2 ?_; (case s1 => with_unfolding_all exact rfl); (case s2 => assumption))
  | (with_reducible refine' At_uN ?s1 ?s2 ?_; (case s1 => with_unfolding_all exact rfl); (case s2 => assumption))
  | (with_reducible refine' At_kS ?s1 ?s2 ?_; (case s1 => with_unfolding_all exact rfl); (case s2 => assumption))
  | (with_reducible refine' At_kN ?s1 ?s2 ?_; (case s1 => with_unfolding_all exact rfl); (case s2 => assumption))
  | (with_reducible refine' At_u ?s1 ?_; (case s1 => with_unfolding_all exact rfl))
  | (with_reducible refine' At_w ?s1 ?_; (case s1 => with_unfolding_all exact rfl))
  | (with_reducible refine' At_s ?s1 ?_; (case s1 => with_unfolding_all exact rfl))
  | (with_reducible refine' At_rs ?s1 ?_; (case s1 => with_unfolding_all exact rfl))
  | (with_reducible refine' Mt_wg ?s1 ?s2 ?_; (case s1 => with_unfolding_all exact rfl); (case s2 => with_unfolding_all exact rfl))
  | (with_reducible refine' C_rlab ?s1 ?s2 ?s3 ?s4 ?_; (case s1 => with_unfolding_all exact rfl); (case s2 => assumption); (case s3 => omega); (case s4 => omega))
  | fail "a3"
  | (with_reducible refine' C_ages ?s1 ?s2 ?s3 ?_; (case s1 => with_unfolding_all exact rfl); (case s2 => assumption); (case s3 => assumption))
  | fail "a2")
end
end
section
open PySem L2
theorem SOk.of {B : Int} {ws : List Str} {rs : List Rw} (h : Drawn B ws rs) (hw : (ws.all PyData.strOk) = true) : SOk rs := fun r hr => by
  rcases h.wrd r hr with z | z
  · have : (stW.all PyData.strOk) = true := by decide +kernel
    exact List.all_eq_true.mp this _ z
  · exact List.all_eq_true.mp hw _ z
section
variable {T : Tab} {P : Out → List Cell → Prop} {PX : Nat → List D → List Cell → Prop} {s sto : List Cell} {rs : List Rw} {xs : List Lb} {m : Int}
end
end
section
open PySem L2
section
variable {T : Tab} {P : Out → List Cell → Prop} {PX : Nat → List D → List Cell → Prop} {s sto : List Cell} {rs : List Rw} {r : Rw} {a x l : Int} {h c d : Option Int}
local macro_rules | `(tactic| walk_at "w") => `(tactic| repeat' first
  | (with_reducible refine X_retIteL ?_)
  | fail "a1p"
  | (with_reducible refine' C_count ?s1 ?s2 ?s3 ?s4 ?s5 ?_; (case s1 => with_unfolding_all exact rfl); (case s2 => omega); (case s3 => omega); (case s4 => omega); (case s5 => omega))
  | (with_reducible refine' C_offset ?s1 ?_; (case s1 => with_unfolding_all exact rfl))
  | (with_reducible refine' C_fwi ?s1 ?s2 ?_; (case s1 => with_unfolding_all exact rfl); (case s2 => omega))
  | (with_reducible refine' C_foc ?s1 ?s2 ?s3 ?s4 ?s5 ?_; (case s1 => with_unfolding_all exact rfl); (case s2 => omega); (case s3 => omega); (case s4 => omega); (case s5 => omega))
  | (with_reducible refine' C_check ?s1 ?s2 ?_; (case s1 => with_unfolding_all exact rfl); (case s2 => omega))
  | (with_reducible refine' At_uS ?s1 ?s2 ?_; (case s1 => with_unfolding_all exact rfl); (case s2 => assumption))
  | (with_reducible refine' At_uN ?s1 ?s2 ?_; (case s1 => with_unfolding_all exact rfl); (case s2 => assumption))
  | (with_reducible refine' At_kS ?s1 ?s2 ?_; (case s1 => with_unfolding_all exact rfl); (case s2 => assumption))
  | (with_reducible refine' At_kN ?s1 ?s2 ?_; (case s1 => with_unfolding_all exact rfl); (case s2 => assumption))
  | (with_reducible refine' At_u ?s1 ?_; (case s1 => with_unfolding_all exact rfl))
  | (with_reducible refine' At_w ?s1 ?_; (case s1 => with_unfolding_all exact rfl))
  | (with_reducible refine' At_s ?s1 ?_; (case s1 => with_unfolding_all exact rfl))
  | (with_reducible refine' At_rs ?s1 ?_; (case s1 => with_unfolding_all exact rfl))
  | (with_reducible refine' Mt_wg ?s1 ?s2 ?_; (case s1 => with_unfolding_all exact rfl); (case s2 => with_unfolding_all exact rfl))
  | (with_reducible refine' C_rlab ?s1 ?s2 ?s3 ?s4 ?_; (case s1 => with_unfolding_all exact rfl); (case s2 => assumption); (case s3 => omega); (case s4 => omega))
  | fail "a3"
  | (with_reducible refine' C_draw ?s1 ?s2 ?s3 ?s4 ?s5 ?_; (case s1 => with_unfolding_all exact rfl); (case s2 => assumption); (case s3 => omega); (case s4 => omega); (case s5 => omega); intro r s' hr0 hr1 hp)
  | (with_reducible refine' C_llab ?s1 ?s2 ?s3 ?s4 ?_; (case s1 => with_unfolding_all exact rfl); (case s2 => assumption); (case s3 => omega); (case s4 => omega))
  | (with_reducible refine' C_eqLb ?s1 ?s2 ?_; (case s1 => first | assumption | exact lab_ok _ (by assumption)); (case s2 => first | assumption | exact lab_ok _ (by assumption)))
  | (with_reducible refine' C_neLb ?s1 ?s2 ?_; (case s1 => first | assumption | exact lab_ok _ (by assumption)); (case s2 => first | assumption | exact lab_ok _ (by assumption)))
  | (with_reducible refine' C_label ?s1 ?s2 ?s3 ?s4 ?_; (case s1 => with_unfolding_all exact rfl); (case s2 => assumption); (case s3 => omega); (case s4 => omega))
  | (with_reducible refine' C_neLb (lab_ok _ ?s1) (lab_ok _ ?s2) ?_; (case s1 => assumption); (case s2 => assumption))
  | fail "a2")
end
end
section
open PySem L2
section
variable {T : Tab} {P : Out → List Cell → Prop} {PX : Nat → List D → List Cell → Prop} {s sto : List Cell} {rs : List Rw} {r : Rw} {a x l : Int} {h c d : Option Int} {Q : D → Prop}
local macro_rules | `(tactic| walk_at "w") => `(tactic| repeat' first
  | (with_reducible refine V_sliceT ?_)
  | (with_reducible refine' L_min1d ?s1 ?_; (case s1 => with_unfolding_all exact rfl))
  | fail "a1p"
  | (with_reducible refine' At_k ?s1 ?_; (case s1 => with_unfolding_all exact rfl))
  | (with_reducible refine' X_extend ?s1 ?_; (case s1 => with_unfolding_all exact rfl))
  | (with_reducible refine' Ex_id ?s1 ?s2 ?_; (case s1 => with_unfolding_all exact rfl); (case s2 => first | assumption | omega | (simp only [List.length_append, List.length_map] at *; omega)))
  | (with_reducible refine' ix_rw ?s1 ?_; (case s1 => assumption))
  | (with_reducible refine Et_id ?_)
  | (with_reducible refine' C_shown ?s1 ?s2 ?s3 ?s4 ?s5 ?s6 ?s7 ?_; (case s1 => with_unfolding_all exact rfl); (case s2 => assumption); (case s3 => assumption); (case s4 => assumption); (case s5 => omega); (case s6 => omega); (case s7 => assumption))
  | (with_reducible refine' C_count ?s1 ?s2 ?s3 ?s4 ?s5 ?_; (case s1 => with_unfolding_all exact rfl); (case s2 => omega); (case s3 => omega); (case s4 => omega); (case s5 => omega))
  | (with_reducible refine' C_offset ?s1 ?_; (case s1 => with_unfolding_all exact rfl))
  | (with_reducible refine' C_fwi ?s1 ?s2 ?_; (case s1 => with_unfolding_all exact rfl); (case s2 => omega))
  | (with_reducible refine' C_foc ?s1 ?s2 ?s3 ?s4 ?s5 ?_; (case s1 => with_unfolding_all exact rfl); (case s2 => omega); (case s3 => omega); (case s4 => omega); (case s5 => omega))
  | (with_reducible refine' C_check ?s1 ?s2 ?_; (case s1 => with_unfolding_all exact rfl); (case s2 => omega))
  | (with_reducible refine' At_uS ?s1 ?s2 ?_; (case s1 => with_unfolding_all exact rfl); (case s2 => assumption))
  | (with_reducible refine' At_uN ?s1 ?s2 ?_; (case s1 => with_unfolding_all exact rfl); (case s2 => assumption))
  | (with_reducible refine' At_kS ?s1 ?s2 ?_; (case s1 => with_unfolding_all exact rfl); (case s2 => assumption))
  | (with_reducible refine' At_kN ?s1 ?s2 ?_; (case s1 => with_unfolding_all exact rfl); (case s2 => assumption))
  | (with_reducible refine' At_u ?s1 ?_; (case s1 => with_unfolding_all exact rfl))
  | (with_reducible refine' At_w ?s1 ?_; (case s1 => with_unfolding_all exact rfl))
  | (with_reducible refine' At_s ?s1 ?_; (case s1 => with_unfolding_all exact rfl))
  | (with_reducible refine' At_rs ?s1 ?_; (case s1 => with_unfolding_all exact rfl))
  | (with_reducible refine' Mt_wg ?s1 ?s2 ?_; (case s1 => with_unfolding_all exact rfl); (case s2 => with_unfolding_all exact rfl))
  | (with_reducible refine' C_rlab ?s1 ?s2 ?s3 ?s4 ?_; (case s1 => with_unfolding_all exact rfl); (case s2 => assumption); (case s3 => omega); (case s4 => omega))
  | fail "a3"
  | (with_reducible refine' C_draw ?s1 ?s2 ?s3 ?s4 ?s5 ?_; (case s1 => with_unfolding_all exact rfl); (case s2 => assumption); (case s3 => omega); (case s4 => omega); (case s5 => omega); intro r s' hr0 hr1 hp)
  | (with_reducible refine' C_llab ?s1 ?s2 ?s3 ?s4 ?_; (case s1 => with_unfolding_all exact rfl); (case s2 => assumption); (case s3 => omega); (case s4 => omega))
  | (with_reducible refine' C_eqLb ?s1 ?s2 ?_; (case s1 => first | assumption | exact lab_ok _ (by assumption)); (case s2 => first | assumption | exact lab_ok _ (by assumption)))
  | (with_reducible refine' C_neLb ?s1 ?s2 ?_; (case s1 => first | assumption | exact lab_ok _ (by assumption)); (case s2 => first | assumption | exact lab_ok _ (by assumption)))
  | (with_reducible refine' C_rages ?s1 ?s2 ?_; (case s1 => with_unfolding_all exact rfl); (case s2 => assumption))
  | fail "a2")
end
section
variable {T : Tab} {P : Out → List Cell → Prop} {PX : Nat → List D → List Cell → Prop} {s sto : List Cell} {rs : List Rw} {r : Rw} {a x l : Int} {h c d : Option Int} {Q : D → Prop}
local macro_rules | `(tactic| walk_at "w") => `(tactic| repeat' first
  | fail "a1p"
  | (with_reducible refine' C_count ?s1 ?s2 ?s3 ?s4 ?s5 ?_; (case s1 => with_unfolding_all exact rfl); (case s2 => omega); (case s3 => omega); (case s4 => omega); (case s5 => omega))
  | (with_reducible refine' C_offset ?s1 ?_; (case s1 => with_unfolding_all exact rfl))
  | (with_reducible refine' C_fwi ?s1 ?s2 ?_; (case s1 => with_unfolding_all exact rfl); (case s2 => omega))
  | (with_reducible refine' C_foc ?s1 ?s2 ?s3 ?s4 ?s5 ?_; (case s1 => with_unfolding_all exact rfl); (case s2 => omega); (case s3 => omega); (case s4 => omega); (case s5 => omega))
  | (with_reducible refine' C_check ?s1 ?s2 ?_; (case s1 => with_unfolding_all exact rfl); (case s2 => omega))
  | (with_reducible refine' At_uS ?s1 ?s2 ?_; (case s1 => with_unfolding_all exact rfl); (case s2 => assumption))
  | (with_reducible refine' At_uN ?s1 ?s2 ?_; (case s1 => with_unfolding_all exact rfl); (case s2 => assumption))
  | (with_reducible refine' At_kS ?s1 ?s2 ?_; (case s1 => with_unfolding_all exact rfl); (case s2 => assumption))
  | (with_reducible refine' At_kN ?s1 ?s2 ?_; (case s1 => with_unfolding_all exact rfl); (case s2 => assumption))
  | (with_reducible refine' At_u ?s1 ?_; (case s1 => with_unfolding_all exact rfl))
  | (with_reducible refine' At_w ?s1 ?_; (case s1 => with_unfolding_all exact rfl))
  | (with_reducible refine' At_s ?s1 ?_; (case s1 => with_unfolding_all exact rfl))
  | (with_reducible refine' At_rs ?s1 ?_; (case s1 => with_unfolding_all exact rfl))
  | (with_reducible refine' Mt_wg ?s1 ?s2 ?_; (case s1 => with_unfolding_all exact rfl); (case s2 => with_unfolding_all exact rfl))
  | (with_reducible refine' C_rlab ?s1 ?s2 ?s3 ?s4 ?_; (case s1 => with_unfolding_all exact rfl); (case s2 => assumption); (case s3 => omega); (case s4 => omega))
  | fail "a3"
  | (with_reducible refine' C_draw ?s1 ?s2 ?s3 ?s4 ?s5 ?_; (case s1 => with_unfolding_all exact rfl); (case s2 => assumption); (case s3 => omega); (case s4 => omega); (case s5 => omega); intro r s' hr0 hr1 hp)
  | (with_reducible refine' C_llab ?s1 ?s2 ?s3 ?s4 ?_; (case s1 => with_unfolding_all exact rfl); (case s2 => assumption); (case s3 => omega); (case s4 => omega))
  | (with_reducible refine' C_eqLb ?s1 ?s2 ?_; (case s1 => first | assumption | exact lab_ok _ (by assumption)); (case s2 => first | assumption | exact lab_ok _ (by assumption)))
  | (with_reducible refine' C_neLb ?s1 ?s2 ?_; (case s1 => first | assumption | exact lab_ok _ (by assumption)); (case s2 => first | assumption | exact lab_ok _ (by assumption)))
  | (with_reducible refine' C_rages ?s1 ?s2 ?_; (case s1 => with_unfolding_all exact rfl); (case s2 => assumption))
  | fail "a2")
end
/-! ### steady wordings -/
theorem Std.from {rs : List Rw} (h : Std rs) : ∀ (i : Nat) (r : Rw), rs[i]? = some r → ∃ o, o ≤ i ∧ stW[o]? = some r.s ∧ ∀ j r', o ≤ j → j ≤ i → rs[j]? = some r' → r'.k = r.k ∧ r'.w = r.w ∧ r'.s = r.s := @Rq9 _ _ (fun qz => @Hq9.get _ _ (qz.bar : Hq9 _ (by
  clear qz
  intro i
  induction i with
  | zero =>
    intro r hr
    rcases h 0 r hr with z | ⟨p, z, _⟩
    · exact ⟨0, Nat.le_refl _, z, fun j r' h1 h2 h3 => by
        have : j = 0 := by omega
        subst this; rw [hr] at h3; cases h3; exact ⟨rfl, rfl, rfl⟩⟩
    · omega
  | succ i ih =>
    intro r hr
    rcases h (i + 1) r hr with z | ⟨p, z, z1, z2, z3, z4⟩
    · exact ⟨i + 1, Nat.le_refl _, z, fun j r' h1 h2 h3 => by
        have : j = i + 1 := by omega
        subst this; rw [hr] at h3; cases h3; exact ⟨rfl, rfl, rfl⟩⟩
    · obtain ⟨o, o1, o2, o3⟩ := ih p z1
      refine ⟨o, by omega, by rw [z4]; exact o2, fun j r' h1 h2 h3 => ?_⟩
      by_cases y : j ≤ i
      · obtain ⟨a, b, c⟩ := o3 j r' h1 y h3
        exact ⟨by rw [a, z2], by rw [b, z3], by rw [c, z4]⟩
      · have : j = i + 1 := by omega
        subst this; rw [hr] at h3; cases h3; exact ⟨rfl, rfl, rfl⟩))) Xq9.mk
theorem rowOf_mono : ∀ {rs : List Rw} {a b : Int}, a ≤ b → rowOf rs a ≤ rowOf rs b := @Rq9 _ _ (fun qz => @Hq9.get _ _ (qz.bar : Hq9 _ (by
  clear qz
  intro rs
  induction rs with
  | nil => intro a b _; exact Nat.le_refl _
  | cons r rs ih =>
    intro a b hab
    unfold rowOf
    cases r.u with
    | none => exact Nat.le_refl _
    | some v =>
      dsimp only
      by_cases z : b < v
      · rw [if_pos z, if_pos (show a < v by omega)]; exact Nat.le_refl _
      · rw [if_neg z]
        by_cases y : a < v
        · rw [if_pos y]; exact Nat.zero_le _
        · rw [if_neg y]; exact Nat.add_le_add_right (ih hab) 1))) Xq9.mk
end
section
open PySem L2
end
section
open PySem L2
theorem last_ex {L : Int → Lb} {a : Int} (h : 0 ≤ a) : ∃ e, IsLast L a e := @Rq9 _ _ (fun qz => @Hq9.get _ _ (qz.bar : Hq9 _ (by
  clear qz
  refine int_up (P := fun a => ∃ e, IsLast L a e) ⟨0, Int.le_refl _, Int.le_refl _, .inl rfl, fun b h1 h2 => by omega⟩ (fun b hb ⟨e, h1, h2, h3, h4⟩ => ?_) a h
  by_cases z : Edge L b
  · exact ⟨b, by omega, Int.le_refl _, .inr z, fun c h5 h6 => by omega⟩
  · refine ⟨e, h1, by omega, h3, fun c h5 h6 => ?_⟩
    by_cases y : c = b
    · subst y; exact z
    · exact h4 c h5 (by omega)))) Xq9.mk
theorem IsLast.eq {L : Int → Lb} {a e : Int} (h : IsLast L a e) : L a = L e := flat h.1 h.2.2.2 a h.2.1 (Int.le_refl _)
end
section
open PySem L2
section
variable {T : Tab} {P : Out → List Cell → Prop} {PX : Nat → List D → List Cell → Prop} {s sto : List Cell} {rs : List Rw} {r : Rw} {a : Int} {i : Int} {ps : List St2} {p : St2} {Q : D → Prop}
end
section
local macro_rules | `(tactic| walk_at "w") => `(tactic| repeat' first
  | fail "a1"
  | fail "a3"
  | (with_reducible refine' C_draw ?s1 ?s2 ?s3 ?s4 ?s5 ?_; (case s1 => with_unfolding_all exact rfl); (case s2 => assumption); (case s3 => omega); (case s4 => omega); (case s5 => omega); intro r s' hr0 hr1 hp)
  | (with_reducible refine' C_llab ?s1 ?s2 ?s3 ?s4 ?_; (case s1 => with_unfolding_all exact rfl); (case s2 => assumption); (case s3 => omega); (case s4 => omega))
  | (with_reducible refine' C_eqLb ?s1 ?s2 ?_; (case s1 => first | assumption | exact lab_ok _ (by assumption)); (case s2 => first | assumption | exact lab_ok _ (by assumption)))
  | (with_reducible refine' C_neLb ?s1 ?s2 ?_; (case s1 => first | assumption | exact lab_ok _ (by assumption)); (case s2 => first | assumption | exact lab_ok _ (by assumption)))
  | (with_reducible refine Is_tup ?_)
  | fail "a2")
end
/-! ### the walk through all ages -/
section
local macro_rules | `(tactic| walk_at "w") => `(tactic| repeat' first
  | fail "a1"
  | fail "a3"
  | (with_reducible refine' C_eqLb ?s1 ?s2 ?_; (case s1 => assumption); (case s2 => assumption))
  | (with_reducible refine' X_setlV ?s1 ?_; (case s1 => with_unfolding_all exact rfl))
  | (with_reducible refine' Ow_id ?s1 ?_; (case s1 => with_unfolding_all exact rfl))
  | fail "a2")
end
end
section
open PySem L2
section
variable {T : Tab} {P : Out → List Cell → Prop} {PX : Nat → List D → List Cell → Prop} {s sto : List Cell} {rs : List Rw} {a b : Int} {ps : List St2}
local macro_rules | `(tactic| walk_at "w") => `(tactic| repeat' first
  | fail "a1p"
  | (with_reducible refine' C_count ?s1 ?s2 ?s3 ?s4 ?s5 ?_; (case s1 => with_unfolding_all exact rfl); (case s2 => omega); (case s3 => omega); (case s4 => omega); (case s5 => omega))
  | (with_reducible refine' C_offset ?s1 ?_; (case s1 => with_unfolding_all exact rfl))
  | (with_reducible refine' C_fwi ?s1 ?s2 ?_; (case s1 => with_unfolding_all exact rfl); (case s2 => omega))
  | (with_reducible refine' C_foc ?s1 ?s2 ?s3 ?s4 ?s5 ?_; (case s1 => with_unfolding_all exact rfl); (case s2 => omega); (case s3 => omega); (case s4 => omega); (case s5 => omega))
  | (with_reducible refine' C_check ?s1 ?s2 ?_; (case s1 => with_unfolding_all exact rfl); (case s2 => omega))
  | (with_reducible refine' At_uS ?s1 ?s2 ?_; (case s1 => with_unfolding_all exact rfl); (case s2 => assumption))
  | (with_reducible refine' At_uN ?s1 ?s2 ?_; (case s1 => with_unfolding_all exact rfl); (case s2 => assumption))
  | (with_reducible refine' At_kS ?s1 ?s2 ?_; (case s1 => with_unfolding_all exact rfl); (case s2 => assumption))
  | (with_reducible refine' At_kN ?s1 ?s2 ?_; (case s1 => with_unfolding_all exact rfl); (case s2 => assumption))
  | (with_reducible refine' At_u ?s1 ?_; (case s1 => with_unfolding_all exact rfl))
  | (with_reducible refine' At_w ?s1 ?_; (case s1 => with_unfolding_all exact rfl))
  | (with_reducible refine' At_s ?s1 ?_; (case s1 => with_unfolding_all exact rfl))
  | (with_reducible refine' At_rs ?s1 ?_; (case s1 => with_unfolding_all exact rfl))
  | (with_reducible refine' Mt_wg ?s1 ?s2 ?_; (case s1 => with_unfolding_all exact rfl); (case s2 => with_unfolding_all exact rfl))
  | (with_reducible refine' C_rlab ?s1 ?s2 ?s3 ?s4 ?_; (case s1 => with_unfolding_all exact rfl); (case s2 => assumption); (case s3 => omega); (case s4 => omega))
  | fail "a3"
  | (with_reducible refine' C_draw ?s1 ?s2 ?s3 ?s4 ?s5 ?_; (case s1 => with_unfolding_all exact rfl); (case s2 => assumption); (case s3 => omega); (case s4 => omega); (case s5 => omega); intro r s' hr0 hr1 hp)
  | (with_reducible refine' C_llab ?s1 ?s2 ?s3 ?s4 ?_; (case s1 => with_unfolding_all exact rfl); (case s2 => assumption); (case s3 => omega); (case s4 => omega))
  | (with_reducible refine' C_eqLb ?s1 ?s2 ?_; (case s1 => first | assumption | exact lab_ok _ (by assumption)); (case s2 => first | assumption | exact lab_ok _ (by assumption)))
  | (with_reducible refine' C_neLb ?s1 ?s2 ?_; (case s1 => first | assumption | exact lab_ok _ (by assumption)); (case s2 => first | assumption | exact lab_ok _ (by assumption)))
  | (with_reducible refine' C_label ?s1 ?s2 ?s3 ?s4 ?_; (case s1 => with_unfolding_all exact rfl); (case s2 => assumption); (case s3 => omega); (case s4 => omega))
  | (with_reducible refine' C_ages ?s1 ?s2 ?s3 ?_; (case s1 => with_unfolding_all exact rfl); (case s2 => assumption); (case s3 => assumption))
  | (with_reducible refine' C_lastU ?s1 ?s2 ?s3 ?s4 ?s5 ?_; (case s1 => with_unfolding_all exact rfl); (case s2 => assumption); (case s3 => assumption); (case s4 => omega); (case s5 => assumption))
  | (with_reducible refine' C_ledgeU ?s1 ?s2 ?s3 ?s4 ?s5 ?_; (case s1 => with_unfolding_all exact rfl); (case s2 => assumption); (case s3 => assumption); (case s4 => omega); (case s5 => assumption))
  | (with_reducible refine' C_llastU ?s1 ?s2 ?s3 ?s4 ?s5 ?s6 ?_; (case s1 => with_unfolding_all exact rfl); (case s2 => assumption); (case s3 => assumption); (case s4 => omega); (case s5 => omega); (case s6 => assumption))
  | (with_reducible refine' C_laterU ?s1 ?s2 ?s3 ?s4 ?s5 ?s6 ?s7 ?_; (case s1 => with_unfolding_all exact rfl); (case s2 => assumption); (case s3 => omega); (case s4 => assumption); (case s5 => omega); (case s6 => omega); (case s7 => assumption))
  | (with_reducible refine' Mt_wg ?s1 ?s2 ?_; (case s1 => with_unfolding_all exact rfl); (case s2 => with_unfolding_all exact rfl))
  | (with_reducible refine C_neNOe ?_)
  | (with_reducible refine C_neIOe ?_)
  | (with_reducible refine C_neOO ?_)
  | (with_reducible refine C_eqStt1N ?_)
  | (with_reducible refine C_eqStt1I ?_)
  | fail "a2")
end
section
variable {T : Tab} {P : Out → List Cell → Prop} {PX : Nat → List D → List Cell → Prop} {s sto : List Cell} {rs : List Rw} {a b : Int} {ps : List St2}
local macro_rules | `(tactic| walk_at "w") => `(tactic| repeat' first
  | (with_reducible refine' X_augV ?s1 ?_; (case s1 => with_unfolding_all exact rfl))
  | fail "a1p"
  | (with_reducible refine' C_count ?s1 ?s2 ?s3 ?s4 ?s5 ?_; (case s1 => with_unfolding_all exact rfl); (case s2 => omega); (case s3 => omega); (case s4 => omega); (case s5 => omega))
  | (with_reducible refine' C_offset ?s1 ?_; (case s1 => with_unfolding_all exact rfl))
  | (with_reducible refine' C_fwi ?s1 ?s2 ?_; (case s1 => with_unfolding_all exact rfl); (case s2 => omega))
  | (with_reducible refine' C_foc ?s1 ?s2 ?s3 ?s4 ?s5 ?_; (case s1 => with_unfolding_all exact rfl); (case s2 => omega); (case s3 => omega); (case s4 => omega); (case s5 => omega))
  | (with_reducible refine' C_check ?s1 ?s2 ?_; (case s1 => with_unfolding_all exact rfl); (case s2 => omega))
  | (with_reducible refine' At_uS ?s1 ?s2 ?_; (case s1 => with_unfolding_all exact rfl); (case s2 => assumption))
  | (with_reducible refine' At_uN ?s1 ?s2 ?_; (case s1 => with_unfolding_all exact rfl); (case s2 => assumption))
  | (with_reducible refine' At_kS ?s1 ?s2 ?_; (case s1 => with_unfolding_all exact rfl); (case s2 => assumption))
  | (with_reducible refine' At_kN ?s1 ?s2 ?_; (case s1 => with_unfolding_all exact rfl); (case s2 => assumption))
  | (with_reducible refine' At_u ?s1 ?_; (case s1 => with_unfolding_all exact rfl))
  | (with_reducible refine' At_w ?s1 ?_; (case s1 => with_unfolding_all exact rfl))
  | (with_reducible refine' At_s ?s1 ?_; (case s1 => with_unfolding_all exact rfl))
  | (with_reducible refine' At_rs ?s1 ?_; (case s1 => with_unfolding_all exact rfl))
  | (with_reducible refine' Mt_wg ?s1 ?s2 ?_; (case s1 => with_unfolding_all exact rfl); (case s2 => with_unfolding_all exact rfl))
  | (with_reducible refine' C_rlab ?s1 ?s2 ?s3 ?s4 ?_; (case s1 => with_unfolding_all exact rfl); (case s2 => assumption); (case s3 => omega); (case s4 => omega))
  | fail "a3"
  | (with_reducible refine' C_draw ?s1 ?s2 ?s3 ?s4 ?s5 ?_; (case s1 => with_unfolding_all exact rfl); (case s2 => assumption); (case s3 => omega); (case s4 => omega); (case s5 => omega); intro r s' hr0 hr1 hp)
  | (with_reducible refine' C_llab ?s1 ?s2 ?s3 ?s4 ?_; (case s1 => with_unfolding_all exact rfl); (case s2 => assumption); (case s3 => omega); (case s4 => omega))
  | (with_reducible refine' C_eqLb ?s1 ?s2 ?_; (case s1 => first | assumption | exact lab_ok _ (by assumption)); (case s2 => first | assumption | exact lab_ok _ (by assumption)))
  | (with_reducible refine' C_neLb ?s1 ?s2 ?_; (case s1 => first | assumption | exact lab_ok _ (by assumption)); (case s2 => first | assumption | exact lab_ok _ (by assumption)))
  | (with_reducible refine' C_label ?s1 ?s2 ?s3 ?s4 ?_; (case s1 => with_unfolding_all exact rfl); (case s2 => assumption); (case s3 => omega); (case s4 => omega))
  | (with_reducible refine' C_lastU ?s1 ?s2 ?s3 ?s4 ?s5 ?_; (case s1 => with_unfolding_all exact rfl); (case s2 => assumption); (case s3 => assumption); (case s4 => omega); (case s5 => assumption))
  | (with_reducible refine' C_ledgeU ?s1 ?s2 ?s3 ?s4 ?s5 ?_; (case s1 => with_unfolding_all exact rfl); (case s2 => assumption); (case s3 => assumption); (case s4 => omega); (case s5 => assumption))
  | (with_reducible refine' C_edges ?s1 ?s2 ?s3 ?s4 ?s5 ?_; (case s1 => with_unfolding_all exact rfl); (case s2 => assumption); (case s3 => assumption); (case s4 => omega); (case s5 => omega))
  | (with_reducible refine' C_eqLb (lab_ok _ ?s1) (lab_ok _ ?s2) ?_; (case s1 => assumption); (case s2 => assumption))
  | (with_reducible refine' Mt_wg ?s1 ?s2 ?_; (case s1 => with_unfolding_all exact rfl); (case s2 => with_unfolding_all exact rfl))
  | fail "a2")
end
end
section
open PySem L2
section
variable {T : Tab} {P : Out → List Cell → Prop} {PX : Nat → List D → List Cell → Prop} {s sto : List Cell} {rs : List Rw} {f : Int} {ws : List Str}
end
end
section
open PySem L2
/-! ### == of data, built up -/
structure En2 {α : Type} [DecidableEq α] (f : α → D) (ok : α → Prop) (n : Nat) where
  p : α → PyData
  py : ∀ a, toPy (f a) = some (p a)
  eqv : ∀ a b, PyData.eqv (p a) (p b) = decide (a = b)
  lay : ∀ a, ok a → PyData.canLay0 (p a) = true
  dep : ∀ a, PyData.depth (p a) ≤ n
/-- never None -/
structure En2.Nn {α : Type} [DecidableEq α] {f : α → D} {ok : α → Prop} {n : Nat} (E : En2 f ok n) : Prop where
  l : ∀ a, PyData.eqv .none (E.p a) = false
  r : ∀ a, PyData.eqv (E.p a) .none = false
def noC {α : Type} : α → Prop := fun _ => True
def eI : En2 D.int noC 0 := ⟨PyData.int, fun _ => rfl, fun a b => by show (a == b) = _; exact beq_dec a b, fun _ _ => rfl, fun _ => Nat.le_refl _⟩
def eO : En2 optD noC 0 := ⟨optP, toPy_opt, eqv_opt, fun a _ => lay_opt a, fun a => by rw [dep_opt]; exact Nat.le_refl _⟩
section
variable {α β : Type} [DecidableEq α] [DecidableEq β] {f : α → D} {g : β → D} {ok : α → Prop} {ok2 : β → Prop} {n m : Nat}
theorem toPys_map (E : En2 f ok n) : ∀ xs : List α, toPys (xs.map f) = some (xs.map E.p)
  | [] => rfl
  | x :: xs => by
    show (match toPy (f x), toPys (xs.map f) with | some x, some xs => some (x :: xs) | _, _ => none) = _
    rw [E.py, toPys_map E xs]; rfl
theorem eqvs_map (E : En2 f ok n) : ∀ xs ys : List α, PyData.eqvAll (xs.map E.p) (ys.map E.p) = decide (xs = ys)
  | [], [] => rfl
  | [], _ :: _ => rfl
  | _ :: _, [] => rfl
  | x :: xs, y :: ys => by
    show (PyData.eqv (E.p x) (E.p y) && PyData.eqvAll (xs.map E.p) (ys.map E.p)) = _
    rw [E.eqv, eqvs_map E xs ys, ← Bool.decide_and]
    exact decide_eq_decide.mpr ⟨fun ⟨h1, h2⟩ => by rw [h1, h2], fun h => by cases h; exact ⟨rfl, rfl⟩⟩
theorem lays_map (E : En2 f ok n) : ∀ xs : List α, (∀ x ∈ xs, ok x) → PyData.canLayAll0 (xs.map E.p) = true
  | [], _ => rfl
  | x :: xs, h => by
    show (PyData.canLay0 (E.p x) && PyData.canLayAll0 (xs.map E.p)) = true
    rw [E.lay x (h x (.head _)), lays_map E xs fun y hy => h y (.tail _ hy)]; rfl
theorem deps_map (E : En2 f ok n) : ∀ xs : List α, PyData.depthAll (xs.map E.p) ≤ n
  | [] => Nat.zero_le _
  | x :: xs => by
    show max (PyData.depth (E.p x)) (PyData.depthAll (xs.map E.p)) ≤ n
    have := deps_map E xs
    have := E.dep x
    omega
def lstD (f : α → D) (xs : List α) : D := .lst (xs.map f)
def En2.lst (E : En2 f ok n) : En2 (lstD f) (fun xs => ∀ x ∈ xs, ok x) (n + 1) where
  p := fun xs => .list (xs.map E.p)
  py := fun xs => by show (toPys (xs.map f)).map PyData.list = _; rw [toPys_map E]; rfl
  eqv := fun xs ys => eqvs_map E xs ys
  lay := fun xs h => lays_map E xs h
  dep := fun xs => Nat.add_le_add_right (deps_map E xs) 1
def prD (f : α → D) (g : β → D) (p : α × β) : D := .tup [f p.1, g p.2]
def En2.pair (E : En2 f ok n) (G : En2 g ok2 m) : En2 (prD f g) (fun p => ok p.1 ∧ ok2 p.2) (max n m + 1) where
  p := fun p => .tuple [E.p p.1, G.p p.2]
  py := fun p => by
    show ((match toPy (f p.1), toPys [g p.2] with | some x, some xs => some (x :: xs) | _, _ => none).map PyData.tuple) = _
    have : toPys [g p.2] = some [G.p p.2] := by
      show (match toPy (g p.2), toPys [] with | some x, some xs => some (x :: xs) | _, _ => none) = _
      rw [G.py]; rfl
    rw [this, E.py]; rfl
  eqv := fun p q => by
    show (PyData.eqv (E.p p.1) (E.p q.1) && (PyData.eqv (G.p p.2) (G.p q.2) && true)) = _
    rw [E.eqv, G.eqv, Bool.and_true, ← Bool.decide_and]
    exact decide_eq_decide.mpr ⟨fun ⟨h1, h2⟩ => Prod.ext h1 h2, fun h => ⟨congrArg (·.1) h, congrArg (·.2) h⟩⟩
  lay := fun p h => by
    show (PyData.canLay0 (E.p p.1) && (PyData.canLay0 (G.p p.2) && true)) = true
    rw [E.lay _ h.1, G.lay _ h.2]; rfl
  dep := fun p => by
    show max (PyData.depth (E.p p.1)) (max (PyData.depth (G.p p.2)) 0) + 1 ≤ _
    have := E.dep p.1
    have := G.dep p.2
    omega
theorem En2.eq (E : En2 f ok n) (hn : n ≤ 60) {a b : α} (ha : ok a) (hb : ok b) (hs : scalD (f a) (f b) = none) : eqD (f a) (f b) = some (decide (a = b)) := @Rq9 _ _ (fun qz => @Hq9.get _ _ (qz.bar : Hq9 _ (by
  clear qz
  have sh : ∀ a, ok a → SeqAt.shaped (E.p a) = true := fun a h => by
    show (PyData.canLay0 (E.p a) && decide (PyData.depth (E.p a) ≤ 64)) = true
    have := E.dep a
    rw [E.lay a h, decide_eq_true (by omega)]; rfl
  unfold eqD
  rw [hs]
  show eqP _ _ = _
  unfold eqP
  rw [E.py, E.py]
  show (if (SeqAt.shaped (E.p a) && SeqAt.shaped (E.p b)) = true then some (PyData.eqv (E.p a) (E.p b)) else none) = _
  rw [sh a ha, sh b hb, E.eqv]; rfl))) Xq9.mk
end
/-- two ends, each left out or not -/
abbrev O2 := Option Int × Option Int
def oo (p : O2) : D := .tup [optD p.1, optD p.2]
def eOO : En2 oo (fun p => noC p.1 ∧ noC p.2) 1 := En2.pair eO eO
section
variable {P : Bool → Prop} {p q : O2} {xs ys : List (Option Lb)}
end
end
section
open PySem L2
/-- what a look at m shows of an event x -/
def shw (L : Int → Lb) (x m : Int) : Option Lb := if x ≤ m then some (L (m - x)) else none
def SameE (L : Int → Lb) (M : Int → Prop) (e x : Int) : Prop := ∀ m, M m → shw L x m = shw L e m
def InO (p : O2) (x : Int) : Prop := (∀ v, p.1 = some v → v ≤ x) ∧ ∀ v, p.2 = some v → x ≤ v
def IsStr (L : Int → Lb) (M : Int → Prop) (e : Int) (p : O2) : Prop := ∀ x, SameE L M e x ↔ InO p x
theorem InO.none (x : Int) : InO (none, none) x := by constructor <;> (intro v hv; cases hv)
/-- the greater one of two lower bounds -/
def gl : Option Int → Option Int → Option Int
  | none, b => b
  | a, none => a
  | some a, some b => some (max a b)
def lh : Option Int → Option Int → Option Int
  | none, b => b
  | a, none => a
  | some a, some b => some (min a b)
end
section
open PySem L2
end
section
open PySem L2
section
variable {T : Tab} {P : Out → List Cell → Prop} {PX : Nat → List D → List Cell → Prop} {s sto : List Cell} {rs : List Rw} {a b : Int} {o p : Option Int} {Q : D → Prop}
local macro_rules | `(tactic| walk_at "w") => `(tactic| repeat' first
  | fail "a1p"
  | (with_reducible refine C_isO ?_)
  | fail "a2")
end
section
variable {T : Tab} {P : Out → List Cell → Prop} {PX : Nat → List D → List Cell → Prop} {s sto : List Cell} {rs : List Rw} {a b : Int} {o p : Option Int} {Q : D → Prop}
local macro_rules | `(tactic| walk_at "w") => `(tactic| repeat' first
  | fail "a1p"
  | fail "a3"
  | (with_reducible refine' C_returnsS ?s1 ?s2 ?s3 ?s4 ?_; (case s1 => with_unfolding_all exact rfl); (case s2 => assumption); (case s3 => assumption); (case s4 => assumption))
  | (with_reducible refine' Mt_wg ?s1 ?s2 ?_; (case s1 => with_unfolding_all exact rfl); (case s2 => with_unfolding_all exact rfl))
  | fail "a2")
end
section
variable {T : Tab} {P : Out → List Cell → Prop} {PX : Nat → List D → List Cell → Prop} {s sto : List Cell} {rs : List Rw} {a b e : Int} {o p : Option Int} {Q : D → Prop} {ms : List Int}
local macro_rules | `(tactic| walk_at "w") => `(tactic| repeat' first
  | fail "a1p"
  | fail "a3"
  | (with_reducible refine' C_steady ?s1 ?s2 ?s3 ?s4 ?_; (case s1 => with_unfolding_all exact rfl); (case s2 => assumption); (case s3 => assumption); (case s4 => assumption))
  | (with_reducible refine' C_lastU ?s1 ?s2 ?s3 ?s4 ?s5 ?_; (case s1 => with_unfolding_all exact rfl); (case s2 => assumption); (case s3 => assumption); (case s4 => omega); (case s5 => assumption))
  | (with_reducible refine' C_ledgeU ?s1 ?s2 ?s3 ?s4 ?s5 ?_; (case s1 => with_unfolding_all exact rfl); (case s2 => assumption); (case s3 => assumption); (case s4 => omega); (case s5 => assumption))
  | (with_reducible refine' C_glowI ?s1 ?_; (case s1 => with_unfolding_all exact rfl))
  | (with_reducible refine' C_lhighI ?s1 ?_; (case s1 => with_unfolding_all exact rfl))
  | (with_reducible refine C_isO ?_)
  | (with_reducible refine' Mt_wg ?s1 ?s2 ?_; (case s1 => with_unfolding_all exact rfl); (case s2 => with_unfolding_all exact rfl))
  | fail "a2")
end
end
section
open PySem L2
section
variable {c : Fr → Rs Bool} {b : Fr → Sx}
end
section
variable {T : Tab} {fr : Fr} {K : SxP} {c : Tm} {B : List Stm}
end
section
variable {T : Tab} {fr : Fr} {P : RV → Fr → Prop} {PX : PXt} {K : SxP} {a b c : Tm} {i : Nat} {ts us : List Tm}
end
end
section
open PySem L2
/-! ### rests of rows of numbers -/
theorem emod_of {x y s q : Int} (h : x = y + s * q) : x % s = y % s := by rw [h, Int.add_mul_emod_self_left]
theorem emod_le_self {x s : Int} (h0 : 0 ≤ x) (hs : 0 < s) : x % s ≤ x := @Rq9 _ _ (fun qz => @Hq9.get _ _ (qz.bar : Hq9 _ (by
  clear qz
  have h1 := Int.emod_add_mul_ediv x s
  have h2 : 0 ≤ x / s := Int.ediv_nonneg h0 (by omega)
  have h3 : 0 ≤ s * (x / s) := Int.mul_nonneg (by omega) h2
  omega))) Xq9.mk
theorem emod_is {x u r q : Int} (h0 : 0 ≤ r) (h1 : r < u) (h : x = r + u * q) : x % u = r := by
  rw [emod_of h, Int.emod_eq_of_lt h0 h1]
/-- from one row of numbers to that of what is left behind each turn of the unit -/
theorem rest_mem {f s u n j : Int} (hu : 0 < u) (hf : 0 ≤ f ∧ f < u) (hs : 0 < s) (hsu : s ≤ u) (hj0 : 0 ≤ j) (hj : j < (s * (n - 1) + f) / u) :
    ∃ k, 0 ≤ k ∧ k < n ∧ (f + k * s) % u = ((f - u) % s + j * (-u % s)) % s := @Rq9 _ _ (fun qz => @Hq9.get _ _ (qz.bar : Hq9 _ (by
  clear qz
  have hw : ((s * (n - 1) + f) / u) * u ≤ s * (n - 1) + f := Int.ediv_mul_le _ (by omega)
  generalize (s * (n - 1) + f) / u = w at hj hw
  have hju : (j + 1) * u ≤ w * u := Int.mul_le_mul_of_nonneg_right (by omega) (by omega)
  -- k: the first place at or behind (j + 1) * u
  have hr1 := Int.emod_nonneg (f - (j + 1) * u) (show s ≠ 0 by omega)
  have hr2 := Int.emod_lt_of_pos (f - (j + 1) * u) hs
  have hr3 := Int.emod_add_mul_ediv (f - (j + 1) * u) s
  refine ⟨-((f - (j + 1) * u) / s), ?_, ?_, ?_⟩
  · have : (f - (j + 1) * u) / s ≤ 0 := by
      refine Classical.byContradiction fun z => ?_
      have h1 : s * 1 ≤ s * ((f - (j + 1) * u) / s) := Int.mul_le_mul_of_nonneg_left (by omega) (by omega)
      have h2 : u * 1 ≤ u * (j + 1) := Int.mul_le_mul_of_nonneg_left (by omega) (by omega)
      have h3 : (j + 1) * u = u * (j + 1) := Int.mul_comm _ _
      omega
    omega
  · refine Classical.byContradiction fun z => ?_
    have h1 : s * n ≤ s * -((f - (j + 1) * u) / s) := Int.mul_le_mul_of_nonneg_left (by omega) (by omega)
    rw [Int.mul_neg] at h1
    have h2 : s * (n - 1) = s * n - s := by rw [Int.mul_sub, Int.mul_one]
    omega
  · have e1 : (f + -((f - (j + 1) * u) / s) * s) % u = (f - (j + 1) * u) % s := by
      refine emod_is hr1 (by omega) (q := j + 1) ?_
      have : -((f - (j + 1) * u) / s) * s = -(s * ((f - (j + 1) * u) / s)) := by rw [Int.neg_mul, Int.mul_comm]
      have : (j + 1) * u = u * (j + 1) := Int.mul_comm _ _
      omega
    rw [e1]
    have a1 := Int.emod_add_mul_ediv (f - u) s
    have a2 := Int.emod_add_mul_ediv (-u) s
    refine emod_of (q := (f - u) / s + j * (-u / s)) ?_
    have b1 : j * (-u % s) = j * (-u) - j * (s * (-u / s)) := by
      rw [← Int.mul_sub]; congr 1; omega
    have b2 : s * ((f - u) / s + j * (-u / s)) = s * ((f - u) / s) + j * (s * (-u / s)) := by
      rw [Int.mul_add]; congr 1; rw [Int.mul_left_comm]
    have b3 : (j + 1) * u = j * u + u := by rw [Int.add_mul, Int.one_mul]
    have b4 : j * (-u) = -(j * u) := Int.mul_neg _ _
    omega))) Xq9.mk
theorem rest_low {f s u n k : Int} (hu : 0 < u) (hf : 0 ≤ f ∧ f < u) (hs : 0 < s) (hk0 : 0 ≤ k) (hk : k < n) :
    f ≤ (f + k * s) % u ∨ ∃ j, 0 ≤ j ∧ j < (s * (n - 1) + f) / u ∧ ((f - u) % s + j * (-u % s)) % s ≤ (f + k * s) % u := @Rq9 _ _ (fun qz => @Hq9.get _ _ (qz.bar : Hq9 _ (by
  clear qz
  have hks : 0 ≤ k * s := Int.mul_nonneg hk0 (by omega)
  have q1 := Int.emod_nonneg (f + k * s) (show u ≠ 0 by omega)
  have q2 := Int.emod_lt_of_pos (f + k * s) hu
  have q3 := Int.emod_add_mul_ediv (f + k * s) u
  have q0 : 0 ≤ (f + k * s) / u := Int.ediv_nonneg (by omega) (by omega)
  by_cases z : (f + k * s) / u = 0
  · left
    rw [z, Int.mul_zero] at q3
    omega
  · right
    refine ⟨(f + k * s) / u - 1, by omega, ?_, ?_⟩
    · have h1 : k * s ≤ (n - 1) * s := Int.mul_le_mul_of_nonneg_right (by omega) (by omega)
      have h2 : (n - 1) * s = s * (n - 1) := Int.mul_comm _ _
      have : (f + k * s) / u ≤ (s * (n - 1) + f) / u := Int.ediv_le_ediv hu (by omega)
      omega
    · have e : ((f - u) % s + ((f + k * s) / u - 1) * (-u % s)) % s = ((f + k * s) % u) % s := by
        have a1 := Int.emod_add_mul_ediv (f - u) s
        have a2 := Int.emod_add_mul_ediv (-u) s
        generalize (f + k * s) / u = q at *
        refine emod_of (q := -((f - u) / s) - (q - 1) * (-u / s) - k) ?_
        have b1 : (q - 1) * (-u % s) = (q - 1) * (-u) - (q - 1) * (s * (-u / s)) := by
          rw [← Int.mul_sub]; congr 1; omega
        have b2 : s * (-((f - u) / s) - (q - 1) * (-u / s) - k) = -(s * ((f - u) / s)) - (q - 1) * (s * (-u / s)) - k * s := by
          rw [Int.mul_sub, Int.mul_sub, Int.mul_neg, Int.mul_left_comm, Int.mul_comm s k]
        have b3 : (q - 1) * (-u) = -(u * q) + u := by
          rw [Int.mul_neg, Int.sub_mul, Int.one_mul, Int.mul_comm]; omega
        omega
      rw [e]
      exact emod_le_self q1 hs))) Xq9.mk
/-- m is least among the numbers with O -/
def IsMin (O : Int → Prop) (m : Int) : Prop := O m ∧ ∀ r, O r → m ≤ r
/-- the rests of first + k * step -/
def Rests (f s u : Int) (n : Option Int) (r : Int) : Prop := ∃ k, 0 ≤ k ∧ (∀ v, n = some v → k < v) ∧ r = (f + k * s) % u
/-- what least_rest's loop keeps: O the numbers asked for -/
structure LrI (O : Int → Prop) (f s u n l : Int) : Prop where
  u0 : 0 < u
  lO : O l
  low : ∀ r, O r → l ≤ r ∨ ∃ k, 0 ≤ k ∧ k < n ∧ (f + k * s) % u ≤ r
  mem : ∀ k, 0 ≤ k → k < n → O ((f + k * s) % u)
theorem LrI.start {f s u n : Int} (hu : 0 < u) (hn : 0 < n) : LrI (Rests f s u (some n)) f s u n (f % u) := @Rq9 _ _ (fun qz => @Hq9.get _ _ (qz.bar : Hq9 _ (by
  clear qz
  refine ⟨hu, ⟨0, Int.le_refl _, fun v e => by cases e; exact hn, by rw [Int.zero_mul, Int.add_zero]⟩, ?_, ?_⟩
  · rintro r ⟨k, k0, k1, rfl⟩
    exact .inr ⟨k, k0, k1 n rfl, Int.le_refl _⟩
  · intro k k0 k1
    exact ⟨k, k0, fun v e => by cases e; exact k1, rfl⟩))) Xq9.mk
theorem LrI.done {O : Int → Prop} {f s u n l : Int} (h : LrI O f s u n l) (hn : n ≤ 0) : IsMin O l := ⟨h.lO, fun r hr => by
  rcases h.low r hr with z | ⟨k, k0, k1, _⟩
  · exact z
  · omega⟩
theorem LrI.step {O : Int → Prop} {f s u n l : Int} (h : LrI O f s u n l) (hf : 0 ≤ f ∧ f < u) (hs : 0 < s) (hsu : s ≤ u) (hl : l ≤ f) : LrI O ((f - u) % s) (-u % s) s ((s * (n - 1) + f) / u) l := @Rq9 _ _ (fun qz => @Hq9.get _ _ (qz.bar : Hq9 _ (by
  clear qz
  refine ⟨hs, h.lO, fun r hr => ?_, fun j j0 j1 => ?_⟩
  · rcases h.low r hr with z | ⟨k, k0, k1, k2⟩
    · exact .inl z
    · rcases rest_low h.u0 hf hs k0 k1 with z | ⟨j, j0, j1, j2⟩
      · exact .inl (by omega)
      · exact .inr ⟨j, j0, j1, by omega⟩
  · obtain ⟨k, k0, k1, k2⟩ := rest_mem h.u0 hf hs hsu j0 j1
    rw [← k2]
    exact h.mem k k0 k1))) Xq9.mk
/-! ### the greatest common divisor -/
def IsG (S U g : Int) : Prop := 0 < g ∧ g ∣ S ∧ g ∣ U ∧ ∃ x y, g = x * S + y * U
structure GI (S U a b : Int) : Prop where
  b0 : 0 ≤ b
  dv : ∀ d, d ∣ a → d ∣ b → d ∣ S ∧ d ∣ U
  sa : ∃ x y, a = x * S + y * U
  sb : ∃ x y, b = x * S + y * U
theorem GI.start {S U : Int} (hu : 0 ≤ U) : GI S U S U := ⟨hu, fun d h k => ⟨h, k⟩, ⟨1, 0, by omega⟩, ⟨0, 1, by omega⟩⟩
theorem GI.step {S U a b : Int} (h : GI S U a b) (hb : 0 < b) : GI S U b (a % b) := @Rq9 _ _ (fun qz => @Hq9.get _ _ (qz.bar : Hq9 _ (by
  clear qz
  refine ⟨Int.emod_nonneg _ (by omega), fun d h1 h2 => ?_, h.sb, ?_⟩
  · have := Int.emod_add_mul_ediv a b
    exact h.dv d (by rw [← this]; exact Int.dvd_add h2 (Int.dvd_mul_of_dvd_left h1)) h1
  · obtain ⟨x, y, e1⟩ := h.sa
    obtain ⟨z, w, e2⟩ := h.sb
    have := Int.emod_add_mul_ediv a b
    refine ⟨x - (a / b) * z, y - (a / b) * w, ?_⟩
    have e3 : b * (a / b) = (a / b) * z * S + (a / b) * w * U := by
      rw [Int.mul_comm, Int.mul_assoc, Int.mul_assoc, ← Int.mul_add, ← e2]
    have e4 : (x - (a / b) * z) * S + (y - (a / b) * w) * U = x * S + y * U - ((a / b) * z * S + (a / b) * w * U) := by
      rw [Int.sub_mul, Int.sub_mul]; omega
    omega))) Xq9.mk
theorem GI.done {S U a : Int} (h : GI S U a 0) (ha : 0 < a) : IsG S U a := @Rq9 _ _ (fun qz => @Hq9.get _ _ (qz.bar : Hq9 _ (by
  clear qz
  obtain ⟨h1, h2⟩ := h.dv a (Int.dvd_refl _) (Int.dvd_zero _)
  exact ⟨ha, h1, h2, h.sa⟩))) Xq9.mk
end
section
open PySem L2
section
variable {T : Tab} {P : Out → List Cell → Prop} {PX : Nat → List D → List Cell → Prop} {s sto : List Cell} {f st u g : Int} {n : Option Int}
local macro_rules | `(tactic| walk_at "w") => `(tactic| repeat' first
  | fail "a1p"
  | fail "a2")
end
section
variable {T : Tab} {P : Out → List Cell → Prop} {PX : Nat → List D → List Cell → Prop} {s sto : List Cell} {f st u g : Int} {n : Option Int}
local macro_rules | `(tactic| walk_at "w") => `(tactic| repeat' first
  | fail "a1p"
  | (with_reducible refine' C_gcd ?s1 ?s2 ?_; (case s1 => with_unfolding_all exact rfl); (case s2 => omega); intro g hg)
  | (with_reducible refine' O_mod ?s1 ?_; (case s1 => assumption))
  | fail "a2")
end
end
section
open PySem L2
/-! ### zones -/
structure Zn where
  lo : Int
  hi : Option Int
  u : Option Int
  o : Int
deriving DecidableEq
def ZU (L : Int → Lb) (z : Zn) : Option Int → Prop
  | none => ∀ b, z.lo < b → Upto z.hi b → ¬ Edge L b
  | some u => 0 < u ∧ ∀ a, z.lo ≤ a → Upto z.hi a → IsLast L a (a - (a - z.o) % u) ∧ IsLater L a (some (fwi a u z.o)) ∧ IsLater L (fwi a u z.o) (some (fwi a u z.o + u))
structure ZP (B : Int) (L : Int → Lb) (z : Zn) : Prop where
  l0 : 0 ≤ z.lo
  lB : z.lo < B
  hB : ∀ v, z.hi = some v → z.lo < v ∧ v < B
  uB : ∀ u, z.u = some u → u < B
  oB : -B < z.o ∧ z.o < B
  un : ZU L z z.u
def ZC (B : Int) (L : Int → Lb) : Int → Option Int → List Zn → Prop
  | low, hi, [] => hi = some low
  | low, hi, z :: r => z.lo = low ∧ ZP B L z ∧ match z.hi with
    | none => hi = none ∧ r = []
    | some v => ZC B L v hi r
theorem ZC.app {B : Int} {L : Int → Lb} : ∀ {zs : List Zn} {l m : Int} {h : Option Int} {ys : List Zn}, ZC B L l (some m) zs → ZC B L m h ys → ZC B L l h (zs ++ ys)
  | [], l, m, h, ys, z, y => by cases z; exact y
  | x :: zs, l, m, h, ys, ⟨z1, z2, z3⟩, y => by
    refine ⟨z1, z2, ?_⟩
    cases q : x.hi with
    | none => rw [q] at z3; cases z3.1
    | some v => rw [q] at z3; exact ZC.app z3 y
def rz (r : Rw) (l : Int) (h : Option Int) : List Zn := match r.k with
  | none => [⟨l, h, none, 0⟩]
  | some u => match h with
    | none => [⟨l, some (fwi l u (off r.w u)), none, 0⟩, ⟨fwi l u (off r.w u), none, some u, off r.w u⟩]
    | some v => if v ≤ fwi l u (off r.w u) then [⟨l, some v, none, 0⟩] else
      [⟨l, some (fwi l u (off r.w u)), none, 0⟩] ++ (if fwi l u (off r.w u) < v - 1 - (v - 1 - off r.w u) % u - u then [⟨fwi l u (off r.w u), some (v - 1 - (v - 1 - off r.w u) % u - u), some u, off r.w u⟩] else []) ++
        (if fwi l u (off r.w u) < v - 1 - (v - 1 - off r.w u) % u then [⟨v - 1 - (v - 1 - off r.w u) % u - u, some (v - 1 - (v - 1 - off r.w u) % u), none, 0⟩] else []) ++ [⟨v - 1 - (v - 1 - off r.w u) % u, some v, none, 0⟩]
section
variable {B : Int} {L : Int → Lb} {l : Int} {h : Option Int} {r : Rw}
end
end
section
open PySem L2
/-- k is one of the first n numbers from 0 on; all for none -/
def Kn (n : Option Int) (k : Int) : Prop := 0 ≤ k ∧ ∀ v, n = some v → k < v
def BhS (L : Int → Lb) (f s : Int) (n : Option Int) (d : Int) : Prop := ∃ k, Kn n k ∧ IsLast L (f + k * s) (f + k * s - d)
def AhS (L : Int → Lb) (f s : Int) (n : Option Int) (d : Int) : Prop := ∃ k, Kn n k ∧ IsLater L (f + k * s) (some (f + k * s + d))
def IsMinO (O : Int → Prop) : Option Int → Prop
  | none => ∀ d, ¬ O d
  | some m => IsMin O m
/-- the least k with f + k * s at or behind a number -/
def ceilK (f s a : Int) : Int := -((f - a) / s)
theorem ceilK_iff {f s a k : Int} (hs : 0 < s) : ceilK f s a ≤ k ↔ a ≤ f + k * s := @Rq9 _ _ (fun qz => @Hq9.get _ _ (qz.bar : Hq9 _ (by
  clear qz
  unfold ceilK
  have h1 : -k ≤ (f - a) / s ↔ -k * s ≤ f - a := Int.le_ediv_iff_mul_le hs
  rw [Int.neg_mul] at h1
  omega))) Xq9.mk
/-- steps_within: (k, count) -/
def swB (z : Zn) (f s : Int) : Int := max 0 (ceilK f s z.lo)
def swC (z : Zn) (f s : Int) (n : Option Int) : Option Int := match n with
  | some v => if v ≤ swB z f s then some 0 else match z.hi with
    | none => some (v - swB z f s)
    | some h => some (min (max (swB z f s) (ceilK f s h)) v - swB z f s)
  | none => match z.hi with
    | none => none
    | some h => some (max (swB z f s) (ceilK f s h) - swB z f s)
def InZ (z : Zn) (a : Int) : Prop := z.lo ≤ a ∧ Upto z.hi a
theorem sw_spec {z : Zn} {f s : Int} {n : Option Int} (hs : 0 < s) : 0 ≤ swB z f s ∧ (∀ w, swC z f s n = some w → 0 ≤ w) ∧ (swC z f s n = none → n = none ∧ z.hi = none) ∧
    (∀ k, Kn n k → (InZ z (f + k * s) ↔ swB z f s ≤ k ∧ ∀ w, swC z f s n = some w → k < swB z f s + w)) ∧ (∀ k, swB z f s ≤ k → (∀ w, swC z f s n = some w → k < swB z f s + w) → Kn n k) := @Rq9 _ _ (fun qz => @Hq9.get _ _ (qz.bar : Hq9 _ (by
  clear qz
  have lo : ∀ k, swB z f s ≤ k ↔ 0 ≤ k ∧ z.lo ≤ f + k * s := fun k => by
    unfold swB
    rw [← ceilK_iff hs]; omega
  have h0 : 0 ≤ swB z f s := by unfold swB; omega
  have hi : ∀ h k, z.hi = some h → (Upto z.hi (f + k * s) ↔ k < ceilK f s h) := fun h k e => by
    rw [e]
    have := ceilK_iff (f := f) (a := h) (k := k) hs
    unfold Upto
    constructor
    · intro y; have := y h rfl; omega
    · intro y v ev; cases ev; omega
  have hiN : z.hi = none → ∀ a, Upto z.hi a := fun e a v ev => by rw [e] at ev; cases ev
  refine ⟨h0, ?_, ?_, ?_, ?_⟩
  · intro w e
    unfold swC at e
    cases n with
    | none => cases q : z.hi with
      | none => rw [q] at e; cases e
      | some h => rw [q] at e; cases e; omega
    | some v =>
      dsimp only at e
      split at e
      · cases e; omega
      · cases q : z.hi with
        | none => rw [q] at e; cases e; omega
        | some h => rw [q] at e; cases e; omega
  · intro e
    unfold swC at e
    cases n with
    | none => cases q : z.hi with
      | none => exact ⟨rfl, rfl⟩
      | some h => rw [q] at e; cases e
    | some v =>
      dsimp only at e
      split at e
      · cases e
      · cases q : z.hi with
        | none => rw [q] at e; cases e
        | some h => rw [q] at e; cases e
  · rintro k ⟨k0, k1⟩
    unfold InZ
    have lk := lo k
    unfold swC
    cases n with
    | none =>
      cases q : z.hi with
      | none =>
        have := hiN q
        rw [q] at this
        exact ⟨fun y => ⟨lk.mpr ⟨k0, y.1⟩, fun w e => by cases e⟩, fun y => ⟨(lk.mp y.1).2, this _⟩⟩
      | some h =>
        have hk := hi h k q
        rw [q] at hk
        rw [hk]
        exact ⟨fun y => ⟨lk.mpr ⟨k0, y.1⟩, fun w e => by cases e; omega⟩, fun y => ⟨(lk.mp y.1).2, by have := y.2 _ rfl; omega⟩⟩
    | some v =>
      have kv := k1 v rfl
      dsimp only
      split
      · rename_i c
        exact ⟨fun y => ⟨by have := lk.mpr ⟨k0, y.1⟩; omega, fun w e => by have := lk.mpr ⟨k0, y.1⟩; omega⟩, fun y => by have := y.2 0 rfl; omega⟩
      · cases q : z.hi with
        | none =>
          have := hiN q
          rw [q] at this
          exact ⟨fun y => ⟨lk.mpr ⟨k0, y.1⟩, fun w e => by cases e; omega⟩, fun y => ⟨(lk.mp y.1).2, this _⟩⟩
        | some h =>
          have hk := hi h k q
          rw [q] at hk
          rw [hk]
          exact ⟨fun y => ⟨lk.mpr ⟨k0, y.1⟩, fun w e => by cases e; omega⟩, fun y => ⟨(lk.mp y.1).2, by have := y.2 _ rfl; omega⟩⟩
  · intro k y1 y2
    refine ⟨by omega, fun v ev => ?_⟩
    subst ev
    unfold swC at y2
    dsimp only at y2
    split at y2
    · have := y2 0 rfl; omega
    · cases q : z.hi with
      | none => rw [q] at y2; have := y2 _ rfl; omega
      | some h => rw [q] at y2; have := y2 _ rfl; omega))) Xq9.mk
section
variable {B : Int} {L : Int → Lb} {z : Zn} {f s : Int} {n : Option Int}
end
/-- an age lies in one of the zones -/
theorem ZC.find {B : Int} {L : Int → Lb} : ∀ {zs : List Zn} {low a : Int}, ZC B L low none zs → low ≤ a → ∃ z ∈ zs, InZ z a
  | [], _, _, h, _ => by cases h
  | z :: r, low, a, ⟨h1, h2, h3⟩, hl => by
    cases q : z.hi with
    | none => exact ⟨z, .head _, by rw [h1]; exact hl, fun v ev => by rw [q] at ev; cases ev⟩
    | some v =>
      rw [q] at h3
      by_cases y : a < v
      · exact ⟨z, .head _, by rw [h1]; exact hl, fun w ew => by rw [q] at ew; cases ew; exact y⟩
      · obtain ⟨x, hx, k⟩ := ZC.find h3 (show v ≤ a by omega)
        exact ⟨x, .tail _ hx, k⟩
theorem ZC.all {B : Int} {L : Int → Lb} : ∀ {zs : List Zn} {low : Int} {h : Option Int}, ZC B L low h zs → ∀ z ∈ zs, ZP B L z
  | [], _, _, _ => fun z hz => nomatch hz
  | z :: r, low, h, ⟨h1, h2, h3⟩ => fun x hx => by
    rcases List.mem_cons.mp hx with rfl | hx
    · exact h2
    · cases q : z.hi with
      | none => rw [q] at h3; rw [h3.2] at hx; cases hx
      | some v => rw [q] at h3; exact ZC.all h3 x hx
/-! ### what looks of a beat tell -/
def Bt (f s : Int) (n : Option Int) (m : Int) : Prop := ∃ k, Kn n k ∧ m = f + k * s
section
variable {L : Int → Lb} {f s e : Int} {n : Option Int}
end
end
section
open PySem L2
section
variable {T : Tab} {P : Out → List Cell → Prop} {PX : Nat → List D → List Cell → Prop} {s sto : List Cell} {f st u g l : Int} {n h : Option Int} {r : Rw} {rs : List Rw}
local macro_rules | `(tactic| walk_at "w") => `(tactic| repeat' first
  | fail "a1p"
  | (with_reducible refine' X_retLstSO ?s1 ?_; (case s1 => with_unfolding_all exact rfl))
  | (with_reducible refine' C_count ?s1 ?s2 ?s3 ?s4 ?s5 ?_; (case s1 => with_unfolding_all exact rfl); (case s2 => omega); (case s3 => omega); (case s4 => omega); (case s5 => omega))
  | (with_reducible refine' C_offset ?s1 ?_; (case s1 => with_unfolding_all exact rfl))
  | (with_reducible refine' C_fwi ?s1 ?s2 ?_; (case s1 => with_unfolding_all exact rfl); (case s2 => omega))
  | (with_reducible refine' C_foc ?s1 ?s2 ?s3 ?s4 ?s5 ?_; (case s1 => with_unfolding_all exact rfl); (case s2 => omega); (case s3 => omega); (case s4 => omega); (case s5 => omega))
  | (with_reducible refine' C_check ?s1 ?s2 ?_; (case s1 => with_unfolding_all exact rfl); (case s2 => omega))
  | (with_reducible refine' At_uS ?s1 ?s2 ?_; (case s1 => with_unfolding_all exact rfl); (case s2 => assumption))
  | (with_reducible refine' At_uN ?s1 ?s2 ?_; (case s1 => with_unfolding_all exact rfl); (case s2 => assumption))
  | (with_reducible refine' At_kS ?s1 ?s2 ?_; (case s1 => with_unfolding_all exact rfl); (case s2 => assumption))
  | (with_reducible refine' At_kN ?s1 ?s2 ?_; (case s1 => with_unfolding_all exact rfl); (case s2 => assumption))
  | (with_reducible refine' At_u ?s1 ?_; (case s1 => with_unfolding_all exact rfl))
  | (with_reducible refine' At_w ?s1 ?_; (case s1 => with_unfolding_all exact rfl))
  | (with_reducible refine' At_s ?s1 ?_; (case s1 => with_unfolding_all exact rfl))
  | (with_reducible refine' At_rs ?s1 ?_; (case s1 => with_unfolding_all exact rfl))
  | (with_reducible refine' Mt_wg ?s1 ?s2 ?_; (case s1 => with_unfolding_all exact rfl); (case s2 => with_unfolding_all exact rfl))
  | (with_reducible refine' C_rlab ?s1 ?s2 ?s3 ?s4 ?_; (case s1 => with_unfolding_all exact rfl); (case s2 => assumption); (case s3 => omega); (case s4 => omega))
  | fail "a3"
  | fail "a2")
local macro_rules | `(tactic| walk_at "w") => `(tactic| repeat' first
  | fail "a1p"
  | (with_reducible refine' C_count ?s1 ?s2 ?s3 ?s4 ?s5 ?_; (case s1 => with_unfolding_all exact rfl); (case s2 => omega); (case s3 => omega); (case s4 => omega); (case s5 => omega))
  | (with_reducible refine' C_offset ?s1 ?_; (case s1 => with_unfolding_all exact rfl))
  | (with_reducible refine' C_fwi ?s1 ?s2 ?_; (case s1 => with_unfolding_all exact rfl); (case s2 => omega))
  | (with_reducible refine' C_foc ?s1 ?s2 ?s3 ?s4 ?s5 ?_; (case s1 => with_unfolding_all exact rfl); (case s2 => omega); (case s3 => omega); (case s4 => omega); (case s5 => omega))
  | (with_reducible refine' C_check ?s1 ?s2 ?_; (case s1 => with_unfolding_all exact rfl); (case s2 => omega))
  | (with_reducible refine' At_uS ?s1 ?s2 ?_; (case s1 => with_unfolding_all exact rfl); (case s2 => assumption))
  | (with_reducible refine' At_uN ?s1 ?s2 ?_; (case s1 => with_unfolding_all exact rfl); (case s2 => assumption))
  | (with_reducible refine' At_kS ?s1 ?s2 ?_; (case s1 => with_unfolding_all exact rfl); (case s2 => assumption))
  | (with_reducible refine' At_kN ?s1 ?s2 ?_; (case s1 => with_unfolding_all exact rfl); (case s2 => assumption))
  | (with_reducible refine' At_u ?s1 ?_; (case s1 => with_unfolding_all exact rfl))
  | (with_reducible refine' At_w ?s1 ?_; (case s1 => with_unfolding_all exact rfl))
  | (with_reducible refine' At_s ?s1 ?_; (case s1 => with_unfolding_all exact rfl))
  | (with_reducible refine' At_rs ?s1 ?_; (case s1 => with_unfolding_all exact rfl))
  | (with_reducible refine' Mt_wg ?s1 ?s2 ?_; (case s1 => with_unfolding_all exact rfl); (case s2 => with_unfolding_all exact rfl))
  | (with_reducible refine' C_rlab ?s1 ?s2 ?s3 ?s4 ?_; (case s1 => with_unfolding_all exact rfl); (case s2 => assumption); (case s3 => omega); (case s4 => omega))
  | fail "a3"
  | (with_reducible refine' C_rages ?s1 ?s2 ?_; (case s1 => with_unfolding_all exact rfl); (case s2 => assumption))
  | (with_reducible refine' X_extend ?s1 ?_; (case s1 => with_unfolding_all exact rfl))
  | (with_reducible refine' C_rzones ?s1 ?s2 ?_; (case s1 => with_unfolding_all exact rfl); (case s2 => assumption))
  | fail "a2")
end
end
section
open PySem L2
section
variable {T : Tab} {P : Out → List Cell → Prop} {PX : Nat → List D → List Cell → Prop} {s sto : List Cell} {f st u g l : Int} {n h : Option Int} {r : Rw} {rs : List Rw} {z : Zn}
local macro_rules | `(tactic| walk_at "w") => `(tactic| repeat' first
  | fail "a1p"
  | fail "a3"
  | fail "a2")
end
section
variable {T : Tab} {P : Out → List Cell → Prop} {PX : Nat → List D → List Cell → Prop} {s sto : List Cell} {f st u g l : Int} {n h : Option Int} {r : Rw} {rs : List Rw} {z : Zn}
local macro_rules | `(tactic| walk_at "w") => `(tactic| repeat' first
  | fail "a1p"
  | (with_reducible refine' C_count ?s1 ?s2 ?s3 ?s4 ?s5 ?_; (case s1 => with_unfolding_all exact rfl); (case s2 => omega); (case s3 => omega); (case s4 => omega); (case s5 => omega))
  | (with_reducible refine' C_offset ?s1 ?_; (case s1 => with_unfolding_all exact rfl))
  | (with_reducible refine' C_fwi ?s1 ?s2 ?_; (case s1 => with_unfolding_all exact rfl); (case s2 => omega))
  | (with_reducible refine' C_foc ?s1 ?s2 ?s3 ?s4 ?s5 ?_; (case s1 => with_unfolding_all exact rfl); (case s2 => omega); (case s3 => omega); (case s4 => omega); (case s5 => omega))
  | (with_reducible refine' C_check ?s1 ?s2 ?_; (case s1 => with_unfolding_all exact rfl); (case s2 => omega))
  | (with_reducible refine' At_uS ?s1 ?s2 ?_; (case s1 => with_unfolding_all exact rfl); (case s2 => assumption))
  | (with_reducible refine' At_uN ?s1 ?s2 ?_; (case s1 => with_unfolding_all exact rfl); (case s2 => assumption))
  | (with_reducible refine' At_kS ?s1 ?s2 ?_; (case s1 => with_unfolding_all exact rfl); (case s2 => assumption))
  | (with_reducible refine' At_kN ?s1 ?s2 ?_; (case s1 => with_unfolding_all exact rfl); (case s2 => assumption))
  | (with_reducible refine' At_u ?s1 ?_; (case s1 => with_unfolding_all exact rfl))
  | (with_reducible refine' At_w ?s1 ?_; (case s1 => with_unfolding_all exact rfl))
  | (with_reducible refine' At_s ?s1 ?_; (case s1 => with_unfolding_all exact rfl))
  | (with_reducible refine' At_rs ?s1 ?_; (case s1 => with_unfolding_all exact rfl))
  | (with_reducible refine' Mt_wg ?s1 ?s2 ?_; (case s1 => with_unfolding_all exact rfl); (case s2 => with_unfolding_all exact rfl))
  | (with_reducible refine' C_rlab ?s1 ?s2 ?s3 ?s4 ?_; (case s1 => with_unfolding_all exact rfl); (case s2 => assumption); (case s3 => omega); (case s4 => omega))
  | fail "a3"
  | (with_reducible refine' C_least ?s1 ?s2 ?s3 ?s4 ?_; (case s1 => with_unfolding_all exact rfl); (case s2 => omega); (case s3 => omega); (case s4 => assumption); intro m hm)
  | (with_reducible refine' C_lastU ?s1 ?s2 ?s3 ?s4 ?s5 ?_; (case s1 => with_unfolding_all exact rfl); (case s2 => assumption); (case s3 => assumption); (case s4 => omega); (case s5 => assumption))
  | (with_reducible refine' C_ledgeU ?s1 ?s2 ?s3 ?s4 ?s5 ?_; (case s1 => with_unfolding_all exact rfl); (case s2 => assumption); (case s3 => assumption); (case s4 => omega); (case s5 => assumption))
  | (with_reducible refine' Mt_wg ?s1 ?s2 ?_; (case s1 => with_unfolding_all exact rfl); (case s2 => with_unfolding_all exact rfl))
  | fail "a2")
end
end
section
open PySem L2
theorem ZP.mono {B C : Int} {L : Int → Lb} {z : Zn} (h : ZP B L z) (hb : B ≤ C) : ZP C L z :=
  ⟨h.l0, by have := h.lB; omega, fun v e => by have := h.hB v e; omega, fun u e => by have := h.uB u e; omega, by have := h.oB; omega, h.un⟩
/-- what nearest_edges gathers -/
structure EdI (L : Int → Lb) (f s : Int) (n : Option Int) (Z : List Zn) (bs as : List Int) : Prop where
  bM : ∀ b ∈ bs, BhS L f s n b
  bL : ∀ z ∈ Z, ∀ k, Kn n k → InZ z (f + k * s) → ∀ d, IsLast L (f + k * s) (f + k * s - d) → ∃ b ∈ bs, b ≤ d
  aM : ∀ b ∈ as, AhS L f s n b
  aL : ∀ z ∈ Z, ∀ k, Kn n k → InZ z (f + k * s) → ∀ d, IsLater L (f + k * s) (some (f + k * s + d)) → ∃ b ∈ as, b ≤ d
section
variable {L : Int → Lb} {f s : Int} {n : Option Int} {Z : List Zn} {bs as : List Int} {z : Zn}
theorem EdI.nil : EdI L f s n [] [] [] := ⟨fun _ h => (nomatch h), fun _ h => (nomatch h), fun _ h => (nomatch h), fun _ h => (nomatch h)⟩
theorem EdI.skip (h : EdI L f s n Z bs as) (hs : 0 < s) (hc : swC z f s n = some 0) : EdI L f s n (Z ++ [z]) bs as := @Rq9 _ _ (fun qz => @Hq9.get _ _ (qz.bar : Hq9 _ (by
  clear qz
  obtain ⟨s1, s2, s3, s4, s5⟩ := sw_spec (z := z) (f := f) (n := n) hs
  have no : ∀ k, Kn n k → ¬ InZ z (f + k * s) := fun k hk hi => by
    have := (s4 k hk).mp hi
    have := this.2 0 hc
    omega
  refine ⟨h.bM, fun x hx k hk hi d hd => ?_, h.aM, fun x hx k hk hi d hd => ?_⟩
  · rcases List.mem_append.mp hx with hx | hx
    · exact h.bL x hx k hk hi d hd
    · rw [List.mem_singleton.mp hx] at hi; exact absurd hi (no k hk)
  · rcases List.mem_append.mp hx with hx | hx
    · exact h.aL x hx k hk hi d hd
    · rw [List.mem_singleton.mp hx] at hi; exact absurd hi (no k hk)))) Xq9.mk
theorem sw_row {k : Int} : f + swB z f s * s + k * s = f + (k + swB z f s) * s := by rw [Int.add_mul]; omega
theorem EdI.add {b : Int} {a : Option Int} (h : EdI L f s n Z bs as) (hs : 0 < s) (hb : IsMin (BhS L (f + swB z f s * s) s (swC z f s n)) b) (ha : IsMinO (AhS L (f + swB z f s * s) s (swC z f s n)) a) : EdI L f s n (Z ++ [z]) (bs ++ [b]) (as ++ a.toList) := @Rq9 _ _ (fun qz => @Hq9.get _ _ (qz.bar : Hq9 _ (by
  clear qz
  obtain ⟨s1, s2, s3, s4, s5⟩ := sw_spec (z := z) (f := f) (n := n) hs
  have up : ∀ k, Kn (swC z f s n) k → Kn n (k + swB z f s) := fun k hk => s5 _ (by have := hk.1; omega) fun w e => by have := hk.2 w e; omega
  have dn : ∀ k, Kn n k → InZ z (f + k * s) → Kn (swC z f s n) (k - swB z f s) := fun k hk hi => by
    obtain ⟨h1, h2⟩ := (s4 k hk).mp hi
    exact ⟨by omega, fun w e => by have := h2 w e; omega⟩
  have ag : ∀ k, f + swB z f s * s + (k - swB z f s) * s = f + k * s := fun k => by rw [sw_row, show k - swB z f s + swB z f s = k by omega]
  refine ⟨fun x hx => ?_, fun x hx k hk hi d hd => ?_, fun x hx => ?_, fun x hx k hk hi d hd => ?_⟩
  · rcases List.mem_append.mp hx with hx | hx
    · exact h.bM x hx
    · rw [List.mem_singleton.mp hx]
      obtain ⟨k, hk, hl⟩ := hb.1
      rw [sw_row] at hl
      exact ⟨_, up k hk, hl⟩
  · rcases List.mem_append.mp hx with hx | hx
    · obtain ⟨y, hy, hle⟩ := h.bL x hx k hk hi d hd
      exact ⟨y, List.mem_append.mpr (.inl hy), hle⟩
    · rw [List.mem_singleton.mp hx] at hi
      exact ⟨b, List.mem_append.mpr (.inr (List.mem_singleton.mpr rfl)), hb.2 d ⟨_, dn k hk hi, by rw [ag]; exact hd⟩⟩
  · rcases List.mem_append.mp hx with hx | hx
    · exact h.aM x hx
    · cases a with
      | none => cases hx
      | some a =>
        have hx : x = a := List.mem_singleton.mp hx
        subst hx
        obtain ⟨k, hk, hl⟩ := ha.1
        rw [sw_row] at hl
        exact ⟨_, up k hk, hl⟩
  · rcases List.mem_append.mp hx with hx | hx
    · obtain ⟨y, hy, hle⟩ := h.aL x hx k hk hi d hd
      exact ⟨y, List.mem_append.mpr (.inl hy), hle⟩
    · rw [List.mem_singleton.mp hx] at hi
      have mem : AhS L (f + swB z f s * s) s (swC z f s n) d := ⟨_, dn k hk hi, by rw [ag]; exact hd⟩
      cases a with
      | none => exact absurd mem (ha d)
      | some a => exact ⟨a, List.mem_append.mpr (.inr (List.mem_singleton.mpr rfl)), ha.2 d mem⟩))) Xq9.mk
/-- with all zones looked at -/
theorem EdI.done {C : Int} (h : EdI L f s n Z bs as) (hz : ZC C L 0 none Z) (hf : 0 ≤ f) (hs : 0 < s) (h0 : Kn n 0) : bs ≠ [] ∧ (∀ m, minO bs = some m → IsMin (BhS L f s n) m) ∧ IsMinO (AhS L f s n) (minO as) := @Rq9 _ _ (fun qz => @Hq9.get _ _ (qz.bar : Hq9 _ (by
  clear qz
  have pos : ∀ k, Kn n k → 0 ≤ f + k * s := fun k hk => by have := Int.mul_nonneg hk.1 (show 0 ≤ s by omega); omega
  have lowB : ∀ d, BhS L f s n d → ∃ b ∈ bs, b ≤ d := fun d ⟨k, hk, hl⟩ => by
    obtain ⟨z, hz1, hz2⟩ := hz.find (pos k hk)
    exact h.bL z hz1 k hk hz2 d hl
  have lowA : ∀ d, AhS L f s n d → ∃ b ∈ as, b ≤ d := fun d ⟨k, hk, hl⟩ => by
    obtain ⟨z, hz1, hz2⟩ := hz.find (pos k hk)
    exact h.aL z hz1 k hk hz2 d hl
  refine ⟨fun e => ?_, fun m hm => ?_, ?_⟩
  · obtain ⟨l, hl⟩ := last_ex (L := L) hf
    have : BhS L f s n (f - l) := ⟨0, h0, by rw [Int.zero_mul, Int.add_zero, show f - (f - l) = l by omega]; exact hl⟩
    obtain ⟨b, hb, _⟩ := lowB _ this
    rw [e] at hb; cases hb
  · obtain ⟨h1, h2⟩ := minO_some hm
    refine ⟨h.bM m h1, fun d hd => ?_⟩
    obtain ⟨b, hb, hle⟩ := lowB d hd
    have := h2 b hb
    omega
  · cases q : minO as with
    | none =>
      have := minO_none q
      subst this
      intro d hd
      obtain ⟨b, hb, _⟩ := lowA d hd
      cases hb
    | some m =>
      obtain ⟨h1, h2⟩ := minO_some q
      refine ⟨h.aM m h1, fun d hd => ?_⟩
      obtain ⟨b, hb, hle⟩ := lowA d hd
      have := h2 b hb
      omega))) Xq9.mk
end
end
section
open PySem L2
section
variable {T : Tab} {P : Out → List Cell → Prop} {PX : Nat → List D → List Cell → Prop} {s sto : List Cell} {f st u g l : Int} {n h : Option Int} {r : Rw} {rs : List Rw} {z : Zn} {zs : List Zn}
local macro_rules | `(tactic| walk_at "w") => `(tactic| repeat' first
  | (with_reducible refine' L_min1d ?s1 ?_; (case s1 => with_unfolding_all exact rfl))
  | (with_reducible refine' L_min1 ?s1 ?s2 ?_; (case s1 => with_unfolding_all exact rfl); (case s2 => assumption))
  | fail "a1p"
  | (with_reducible refine' C_count ?s1 ?s2 ?s3 ?s4 ?s5 ?_; (case s1 => with_unfolding_all exact rfl); (case s2 => omega); (case s3 => omega); (case s4 => omega); (case s5 => omega))
  | (with_reducible refine' C_offset ?s1 ?_; (case s1 => with_unfolding_all exact rfl))
  | (with_reducible refine' C_fwi ?s1 ?s2 ?_; (case s1 => with_unfolding_all exact rfl); (case s2 => omega))
  | (with_reducible refine' C_foc ?s1 ?s2 ?s3 ?s4 ?s5 ?_; (case s1 => with_unfolding_all exact rfl); (case s2 => omega); (case s3 => omega); (case s4 => omega); (case s5 => omega))
  | (with_reducible refine' C_check ?s1 ?s2 ?_; (case s1 => with_unfolding_all exact rfl); (case s2 => omega))
  | (with_reducible refine' At_uS ?s1 ?s2 ?_; (case s1 => with_unfolding_all exact rfl); (case s2 => assumption))
  | (with_reducible refine' At_uN ?s1 ?s2 ?_; (case s1 => with_unfolding_all exact rfl); (case s2 => assumption))
  | (with_reducible refine' At_kS ?s1 ?s2 ?_; (case s1 => with_unfolding_all exact rfl); (case s2 => assumption))
  | (with_reducible refine' At_kN ?s1 ?s2 ?_; (case s1 => with_unfolding_all exact rfl); (case s2 => assumption))
  | (with_reducible refine' At_u ?s1 ?_; (case s1 => with_unfolding_all exact rfl))
  | (with_reducible refine' At_w ?s1 ?_; (case s1 => with_unfolding_all exact rfl))
  | (with_reducible refine' At_s ?s1 ?_; (case s1 => with_unfolding_all exact rfl))
  | (with_reducible refine' At_rs ?s1 ?_; (case s1 => with_unfolding_all exact rfl))
  | (with_reducible refine' Mt_wg ?s1 ?s2 ?_; (case s1 => with_unfolding_all exact rfl); (case s2 => with_unfolding_all exact rfl))
  | (with_reducible refine' C_rlab ?s1 ?s2 ?s3 ?s4 ?_; (case s1 => with_unfolding_all exact rfl); (case s2 => assumption); (case s3 => omega); (case s4 => omega))
  | fail "a3"
  | (with_reducible refine' C_swE ?s1 ?s2 ?s3 ?s4 ?s5 ?s6 ?s7 ?_; (case s1 => with_unfolding_all exact rfl); (case s2 => assumption); (case s3 => omega); (case s4 => omega); (case s5 => assumption); (case s6 => assumption); (case s7 => assumption))
  | (with_reducible refine' C_nbehindI ?s1 ?s2 ?s3 ?s4 ?s5 ?s6 ?s7 ?s8 ?_; (case s1 => with_unfolding_all exact rfl); (case s2 => assumption); (case s3 => assumption); (case s4 => assumption); (case s5 => omega); (case s6 => omega); (case s7 => assumption); (case s8 => assumption); intro m hm)
  | (with_reducible refine' C_nbehindN ?s1 ?s2 ?s3 ?s4 ?s5 ?s6 ?s7 ?_; (case s1 => with_unfolding_all exact rfl); (case s2 => assumption); (case s3 => assumption); (case s4 => assumption); (case s5 => omega); (case s6 => omega); (case s7 => assumption); intro m hm)
  | (with_reducible refine' C_naheadI ?s1 ?s2 ?s3 ?s4 ?s5 ?s6 ?s7 ?s8 ?s9 ?_; (case s1 => with_unfolding_all exact rfl); (case s2 => assumption); (case s3 => assumption); (case s4 => assumption); (case s5 => omega); (case s6 => omega); (case s7 => omega); (case s8 => assumption); (case s9 => assumption); intro m hm)
  | (with_reducible refine' C_naheadN ?s1 ?s2 ?s3 ?s4 ?s5 ?s6 ?s7 ?s8 ?s9 ?_; (case s1 => with_unfolding_all exact rfl); (case s2 => assumption); (case s3 => assumption); (case s4 => assumption); (case s5 => omega); (case s6 => omega); (case s7 => omega); (case s8 => assumption); (case s9 => assumption); intro m hm)
  | (with_reducible refine' X_extend ?s1 ?_; (case s1 => with_unfolding_all exact rfl))
  | (with_reducible refine D_iteL ?_)
  | (with_reducible refine' Ex_id ?s1 ?s2 ?_; (case s1 => with_unfolding_all exact rfl); (case s2 => simp only [List.length_append, List.length_cons, List.length_nil, List.length_map] at *; omega))
  | fail "a2")
end
end
section
open PySem L2
section
variable {i : Nat} {env : List Slot} {P : D → Prop} {a b : Int}
end
section
variable {T : Tab} {P : Out → List Cell → Prop} {PX : Nat → List D → List Cell → Prop} {s sto : List Cell} {f st u g l e : Int} {n h : Option Int} {r : Rw} {rs : List Rw} {z : Zn} {zs : List Zn} {Q : D → Prop}
end
section
variable {T : Tab} {P : Out → List Cell → Prop} {PX : Nat → List D → List Cell → Prop} {s sto : List Cell} {f st u g l e : Int} {n h : Option Int} {r : Rw} {rs : List Rw} {z : Zn} {zs : List Zn} {Q : D → Prop}
local macro_rules | `(tactic| walk_at "w") => `(tactic| repeat' first
  | (with_reducible refine X_asgIteL2 ?_)
  | (with_reducible refine' L_max1d0 ?s1 ?_; (case s1 => with_unfolding_all exact rfl))
  | (with_reducible refine' L_max1d1 ?s1 ?_; (case s1 => with_unfolding_all exact rfl))
  | (with_reducible refine' L_max1d2 ?s1 ?_; (case s1 => with_unfolding_all exact rfl))
  | fail "a1p"
  | fail "a3"
  | (with_reducible refine' At_b5 ?s1 ?_; (case s1 => with_unfolding_all exact rfl))
  | (with_reducible refine' At_b6 ?s1 ?_; (case s1 => with_unfolding_all exact rfl))
  | (with_reducible refine' At_b7 ?s1 ?_; (case s1 => with_unfolding_all exact rfl))
  | (with_reducible refine' C_nedgesI ?s1 ?s2 ?s3 ?s4 ?s5 ?s6 ?s7 ?s8 ?s9 ?s10 ?s11 ?_; (case s1 => with_unfolding_all exact rfl); (case s2 => assumption); (case s3 => assumption); (case s4 => assumption); (case s5 => assumption); (case s6 => omega); (case s7 => omega); (case s8 => omega); (case s9 => omega); (case s10 => omega); (case s11 => omega); intro b a hb ha)
  | (with_reducible refine' C_nedgesN ?s1 ?s2 ?s3 ?s4 ?s5 ?s6 ?s7 ?s8 ?s9 ?_; (case s1 => with_unfolding_all exact rfl); (case s2 => assumption); (case s3 => assumption); (case s4 => assumption); (case s5 => assumption); (case s6 => omega); (case s7 => omega); (case s8 => omega); (case s9 => omega); intro b a hb ha)
  | (with_reducible refine' X_extend ?s1 ?_; (case s1 => with_unfolding_all exact rfl))
  | (with_reducible refine D_iteL ?_)
  | (with_reducible refine C_eqIN ?_)
  | (with_reducible refine' Ex_id ?s1 ?s2 ?_; (case s1 => with_unfolding_all exact rfl); (case s2 => simp only [List.length_append, List.length_cons, List.length_nil, List.length_map] at *; omega))
  | fail "a2")
end
section
variable {T : Tab} {P : Out → List Cell → Prop} {PX : Nat → List D → List Cell → Prop} {s sto : List Cell} {f st u g l e : Int} {n h : Option Int} {r : Rw} {rs : List Rw} {z : Zn} {zs : List Zn} {Q : D → Prop}
local macro_rules | `(tactic| walk_at "w") => `(tactic| repeat' first
  | fail "a1p"
  | (with_reducible refine' C_steady ?s1 ?s2 ?s3 ?s4 ?_; (case s1 => with_unfolding_all exact rfl); (case s2 => assumption); (case s3 => assumption); (case s4 => assumption))
  | (with_reducible refine' C_zones ?s1 ?s2 ?_; (case s1 => with_unfolding_all exact rfl); (case s2 => assumption))
  | (with_reducible refine' C_told ?s1 ?s2 ?s3 ?s4 ?s5 ?s6 ?s7 ?s8 ?s9 ?s10 ?s11 ?_; (case s1 => with_unfolding_all exact rfl); (case s2 => assumption); (case s3 => assumption); (case s4 => assumption); (case s5 => assumption); (case s6 => assumption); (case s7 => omega); (case s8 => omega); (case s9 => assumption); (case s10 => assumption); (case s11 => assumption); intro p hp)
  | fail "a2")
end
end
section
open PySem L2
section
variable {T : Tab} {P : Out → List Cell → Prop} {PX : Nat → List D → List Cell → Prop} {s sto : List Cell} {rs : List Rw} {a b e x m : Int} {o p : Option Int} {Q : D → Prop} {ms : List Int}
local macro_rules | `(tactic| walk_at "w") => `(tactic| repeat' first
  | fail "a1p"
  | fail "a3"
  | (with_reducible refine' C_llab ?s1 ?s2 ?s3 ?s4 ?_; (case s1 => with_unfolding_all exact rfl); (case s2 => assumption); (case s3 => omega); (case s4 => omega))
  | fail "a2")
end
section
variable {T : Tab} {P : Out → List Cell → Prop} {PX : Nat → List D → List Cell → Prop} {s sto : List Cell} {rs : List Rw} {a b e x m : Int} {o p : Option Int} {Q : D → Prop} {ms : List Int}
local macro_rules | `(tactic| walk_at "w") => `(tactic| repeat' first
  | fail "a1p"
  | fail "a3"
  | (with_reducible refine' C_show ?s1 ?s2 ?s3 ?_; (case s1 => with_unfolding_all exact rfl); (case s2 => assumption); (case s3 => assumption))
  | (with_reducible refine Of_id ?_)
  | fail "a2")
end
section
variable {T : Tab} {P : Out → List Cell → Prop} {PX : Nat → List D → List Cell → Prop} {s sto : List Cell} {rs : List Rw} {a b e x m : Int} {o p : Option Int} {Q : D → Prop} {ms : List Int} {B : Int}
local macro_rules | `(tactic| walk_at "w") => `(tactic| repeat' first
  | (with_reducible refine X_retCmp0 ?_)
  | (with_reducible refine' V_cmpCallO ?s1 ?_; (case s1 => with_unfolding_all exact rfl))
  | fail "a1p"
  | fail "a3"
  | (with_reducible refine Is_tup ?_)
  | (with_reducible refine' Og0 ?s1 ?_; (case s1 => with_unfolding_all exact rfl))
  | (with_reducible refine' Og1 ?s1 ?_; (case s1 => with_unfolding_all exact rfl))
  | (with_reducible refine' C_draw ?s1 ?s2 ?s3 ?s4 ?s5 ?_; (case s1 => with_unfolding_all exact rfl); (case s2 => assumption); (case s3 => omega); (case s4 => omega); (case s5 => omega); intro r s' hr0 hr1 hp)
  | (with_reducible refine' C_showsB ?s1 ?s2 ?s3 ?s4 ?s5 ?s6 ?_; (case s1 => with_unfolding_all exact rfl); (case s2 => assumption); (case s3 => assumption); (case s4 => omega); (case s5 => assumption); (case s6 => omega))
  | (with_reducible refine' C_eqShl (shs_ok ?s1 _ _) (shs_ok ?s2 _ _) ?_; (case s1 => assumption); (case s2 => assumption))
  | (with_reducible refine' C_neShl (shs_ok ?s1 _ _) (shs_ok ?s2 _ _) ?_; (case s1 => assumption); (case s2 => assumption))
  | (with_reducible refine Of_id ?_)
  | (with_reducible refine' Oe_id ?s1 ?_; (case s1 => with_unfolding_all exact rfl))
  | fail "a2")
end
end
section
open PySem L2
end
section
open PySem L2
/-! ### stretches within stretches -/
def Sub (p q : O2) : Prop := (∀ v, q.1 = some v → ∃ w, p.1 = some w ∧ v ≤ w) ∧ ∀ v, q.2 = some v → ∃ w, p.2 = some w ∧ w ≤ v
/-! ### a wording of one row that counts -/
def one (u : Int) (w s : Str) : List Rw := [⟨none, some u, w, s⟩]
section
variable {u f s e g : Int} {w t : Str} {n : Option Int}
end
/-! ### Euclid's turns -/
end
section
open PySem L2
/-! ### short stretches, the fewest looks -/
def shortB (p : O2) (w : Int) : Bool := match p with
  | (some a, some b) => decide (b - a < w)
  | _ => false
section
variable {B X f s e x : Int} {rs : List Rw}
end
/-! ### the least number of looks -/
structure IsNeed (L : Int → Lb) (f s e w : Int) (n o : Option Int) : Prop where
  no : o = none → ∀ p, IsStr L (Bt f s n) e p → shortB p w = false
  yes : ∀ m, o = some m → 1 ≤ m ∧ (∀ v, n = some v → m ≤ v) ∧ (∀ p, IsStr L (Bt f s (some m)) e p → shortB p w = true) ∧ ∀ p, IsStr L (Bt f s (some (m - 1))) e p → shortB p w = false
section
variable {L : Int → Lb} {f s e w : Int} {n m : Option Int} {p : O2}
end
end
section
open PySem L2
section
variable {B f s e : Int} {rs : List Rw} {n : Option Int} {p : O2}
end
end
section
open PySem L2
/-! ### the last row -/
section
variable {B f s e : Int} {rs : List Rw} {p : O2}
end
/-! ### rows rounded down, times a number -/
def dn (r : Rw) : Rw := ⟨r.u, r.k, "down", r.s⟩
end
section
open PySem L2
/-! ### two wordings beside one another -/
structure IsFU (L L' : Int → Lb) (s : Int) (h o : Option Int) : Prop where
  no : o = none → ∀ a, s ≤ a → Upto h a → L a = L' a
  yes : ∀ b, o = some b → s ≤ b ∧ Upto h b ∧ L b ≠ L' b ∧ ∀ a, s ≤ a → a < b → L a = L' a
section
variable {L L' : Int → Lb} {s : Int} {h : Option Int} {r r' : Rw} {u u' : Int}
end
/-- the least age at which labels are unlike -/
structure IsUnl (L L' : Int → Lb) (o : Option Int) : Prop where
  no : o = none → ∀ a, 0 ≤ a → L a = L' a
  yes : ∀ b, o = some b → 0 ≤ b ∧ L b ≠ L' b ∧ ∀ a, 0 ≤ a → a < b → L a = L' a
theorem IsUnl.symm {L L' : Int → Lb} {o : Option Int} (h : IsUnl L L' o) : IsUnl L' L o := ⟨fun z a ha => (h.no z a ha).symm, fun b z => by
  obtain ⟨h1, h2, h3⟩ := h.yes b z
  exact ⟨h1, fun y => h2 y.symm, fun a h0 h4 => (h3 a h0 h4).symm⟩⟩
end
section
open PySem L2
section
variable {T : Tab} {P : Out → List Cell → Prop} {PX : Nat → List D → List Cell → Prop} {s sto : List Cell} {rs qs : List Rw} {r r' : Rw} {a : Int} {h h' : Option Int}
local macro_rules | `(tactic| walk_at "w") => `(tactic| repeat' first
  | fail "a1p"
  | fail "a3"
  | fail "a2")
end
section
variable {T : Tab} {P : Out → List Cell → Prop} {PX : Nat → List D → List Cell → Prop} {s sto : List Cell} {rs qs : List Rw} {r r' : Rw} {a : Int} {h h' : Option Int}
local macro_rules | `(tactic| walk_at "w") => `(tactic| repeat' first
  | fail "a1p"
  | fail "a3"
  | (with_reducible refine' At_uS ?s1 ?s2 ?_; (case s1 => with_unfolding_all exact rfl); (case s2 => assumption))
  | (with_reducible refine' C_label ?s1 ?s2 ?s3 ?s4 ?_; (case s1 => with_unfolding_all exact rfl); (case s2 => assumption); (case s3 => omega); (case s4 => omega))
  | (with_reducible refine' C_fwi ?s1 ?s2 ?_; (case s1 => with_unfolding_all exact rfl); (case s2 => omega))
  | (with_reducible refine' C_offset ?s1 ?_; (case s1 => with_unfolding_all exact rfl))
  | (with_reducible refine' C_neLb ?s1 ?s2 ?_; (case s1 => first | assumption | exact lab_ok _ (by assumption)); (case s2 => first | assumption | exact lab_ok _ (by assumption)))
  | (with_reducible refine Of_id ?_)
  | fail "a2")
end
end
section
open PySem L2
section
variable {T : Tab} {P : Out → List Cell → Prop} {PX : Nat → List D → List Cell → Prop} {s sto : List Cell} {rs qs : List Rw} {r r' : Rw} {a : Int} {h h' : Option Int}
local macro_rules | `(tactic| walk_at "w") => `(tactic| repeat' first
  | fail "a1p"
  | fail "a3"
  | (with_reducible refine' C_rages ?s1 ?s2 ?_; (case s1 => with_unfolding_all exact rfl); (case s2 => assumption))
  | (with_reducible refine' C_lendE ?s1 ?s2 ?_; (case s1 => with_unfolding_all exact rfl); (case s2 => assumption))
  | fail "a2")
end
end
section
open PySem L2
/-! ### steady wordings by any unlike words -/
def StdW (W : List Str) (rs : List Rw) : Prop := ∀ i r, rs[i]? = some r → (W[i]? = some r.s) ∨ ∃ p, 0 < i ∧ rs[i - 1]? = some p ∧ r.k = p.k ∧ r.w = p.w ∧ r.s = p.s
theorem StdW.from {W : List Str} {rs : List Rw} (h : StdW W rs) : ∀ (i : Nat) (r : Rw), rs[i]? = some r → ∃ o, o ≤ i ∧ W[o]? = some r.s ∧ ∀ j r', o ≤ j → j ≤ i → rs[j]? = some r' → r'.k = r.k ∧ r'.w = r.w ∧ r'.s = r.s := @Rq9 _ _ (fun qz => @Hq9.get _ _ (qz.bar : Hq9 _ (by
  clear qz
  intro i
  induction i with
  | zero =>
    intro r hr
    rcases h 0 r hr with z | ⟨p, z, _⟩
    · exact ⟨0, Nat.le_refl _, z, fun j r' h1 h2 h3 => by
        have : j = 0 := by omega
        subst this; rw [hr] at h3; cases h3; exact ⟨rfl, rfl, rfl⟩⟩
    · omega
  | succ i ih =>
    intro r hr
    rcases h (i + 1) r hr with z | ⟨p, z, z1, z2, z3, z4⟩
    · exact ⟨i + 1, Nat.le_refl _, z, fun j r' h1 h2 h3 => by
        have : j = i + 1 := by omega
        subst this; rw [hr] at h3; cases h3; exact ⟨rfl, rfl, rfl⟩⟩
    · obtain ⟨o, o1, o2, o3⟩ := ih p z1
      refine ⟨o, by omega, by rw [z4]; exact o2, fun j r' h1 h2 h3 => ?_⟩
      by_cases y : j ≤ i
      · obtain ⟨a, b, c⟩ := o3 j r' h1 y h3
        exact ⟨by rw [a, z2], by rw [b, z3], by rw [c, z4]⟩
      · have : j = i + 1 := by omega
        subst this; rw [hr] at h3; cases h3; exact ⟨rfl, rfl, rfl⟩))) Xq9.mk
theorem steady_words {W : List Str} {B : Int} {rs : List Rw} (nd : ∀ i, i < W.length → ∀ j, j < W.length → W[i]? = W[j]? → i = j) (hw : Ok B 0 rs) (h : StdW W rs) : Steady (lab rs) := @Rq9 _ _ (fun qz => @Hq9.get _ _ (qz.bar : Hq9 _ (by
  clear qz
  rintro e ⟨⟨e0, he⟩, a, a0, ae, hl⟩
  obtain ⟨ra, qa1, qa2, qa3, _⟩ := rowOf_lab (a := a) hw
  obtain ⟨re, qe1, qe2, qe3, _⟩ := rowOf_lab (a := e) hw
  obtain ⟨rm, qm1, qm2, qm3, _⟩ := rowOf_lab (a := e - 1) hw
  obtain ⟨oa, a1, a2, a3⟩ := h.from _ _ qa1
  obtain ⟨oe, e1, e2, e3⟩ := h.from _ _ qe1
  have hs : ra.s = re.s := by
    have := congrArg Prod.fst hl
    rw [qa2, qe2] at this
    exact this
  have hoe : oa = oe := by
    rw [hs] at a2
    have i1 : oa < W.length := (List.getElem?_eq_some_iff.mp a2).1
    have i2 : oe < W.length := (List.getElem?_eq_some_iff.mp e2).1
    exact nd oa i1 oe i2 (a2.trans e2.symm)
  subst hoe
  have m1 := rowOf_mono (rs := rs) (show a ≤ e by omega)
  have m2 := rowOf_mono (rs := rs) (show a ≤ e - 1 by omega)
  have m3 := rowOf_mono (rs := rs) (show e - 1 ≤ e by omega)
  obtain ⟨ka, wa, _⟩ := e3 _ _ a1 m1 qa1
  obtain ⟨km, wm, sm⟩ := e3 _ _ (by omega) m3 qm1
  rw [qe2, qm2] at he
  rw [qa2, qe2] at hl
  unfold rlab at he hl
  rw [km, wm, sm] at he
  rw [ka, wa] at hl
  cases q : re.k with
  | none => rw [q] at he; exact he rfl
  | some u =>
    have hu := (qe3 u q).1
    rw [q] at he hl
    simp only [Option.map_some, Prod.mk.injEq, Option.some.injEq] at hl he
    have hl := hl.2
    have c1 := cnt_mono (w := re.w) hu (show a ≤ e - 1 by omega)
    have c2 := cnt_mono (w := re.w) hu (show e - 1 ≤ e by omega)
    exact he (by rw [show cnt re.w u e = cnt re.w u (e - 1) by omega])))) Xq9.mk
end
section
open PySem L2
/-! ### rows of which one is changed -/
/-- drawn and bent rows -/
structure Bent (B : Int) (rs : List Rw) : Prop where
  ok : Ok B 0 rs
  len : rs.length ≤ 7
  way : ∀ r ∈ rs, Way r.w
  str : SOk rs
theorem Bent.mono {B B' : Int} {rs : List Rw} (h : Bent B rs) (hB : B ≤ B') : Bent B' rs := ⟨h.ok.mono hB, h.len, h.way, h.str⟩
/-! ### the first age at which labels are unlike is not far -/
end
section
open PySem L2
/-! ### the first age at which labels are unlike is not far -/
end
section
open PySem L2
/-! ### edges of another wording that are no edges of one -/
/-- the least stray edge from g on -/
structure IsFS (L L' : Int → Lb) (g : Int) (h o : Option Int) : Prop where
  no : o = none → ∀ b, g ≤ b → Upto h b → Edge L' b → Edge L b
  yes : ∀ b, o = some b → g ≤ b ∧ Upto h b ∧ Edge L' b ∧ ¬ Edge L b ∧ ∀ c, g ≤ c → c < b → Edge L' c → Edge L c
/-- the least stray edge -/
structure IsFin (L L' : Int → Lb) (o : Option Int) : Prop where
  no : o = none → ∀ b, Edge L' b → Edge L b
  yes : ∀ b, o = some b → Edge L' b ∧ ¬ Edge L b ∧ ∀ c, c < b → Edge L' c → Edge L c
section
variable {L L' : Int → Lb} {s u v o p : Int} {h e : Option Int} {r : Rw}
end
end
section
open PySem L2
section
variable {T : Tab} {P : Out → List Cell → Prop} {PX : Nat → List D → List Cell → Prop} {s sto : List Cell} {rs qs : List Rw} {m r : Rw} {a b low : Int} {h : Option Int}
local macro_rules | `(tactic| walk_at "w") => `(tactic| repeat' first
  | fail "a1p"
  | fail "a3"
  | (with_reducible refine' At_uS ?s1 ?s2 ?_; (case s1 => with_unfolding_all exact rfl); (case s2 => assumption))
  | (with_reducible refine' C_label ?s1 ?s2 ?s3 ?s4 ?_; (case s1 => with_unfolding_all exact rfl); (case s2 => assumption); (case s3 => omega); (case s4 => omega))
  | (with_reducible refine' C_neLb ?s1 ?s2 ?_; (case s1 => first | assumption | exact lab_ok _ (by assumption)); (case s2 => first | assumption | exact lab_ok _ (by assumption)))
  | fail "a2")
end
section
variable {T : Tab} {P : Out → List Cell → Prop} {PX : Nat → List D → List Cell → Prop} {s sto : List Cell} {rs : List Rw} {L' : Int → Lb} {m r : Rw} {a b low u : Int} {h : Option Int}
local macro_rules | `(tactic| walk_at "w") => `(tactic| repeat' first
  | (with_reducible refine' X_augV ?s1 ?_; (case s1 => with_unfolding_all exact rfl))
  | (with_reducible refine' At_kS ?s1 ?s2 ?_; (case s1 => with_unfolding_all exact rfl); (case s2 => assumption))
  | (with_reducible refine' At_kN ?s1 ?s2 ?_; (case s1 => with_unfolding_all exact rfl); (case s2 => assumption))
  | fail "a1p"
  | fail "a3"
  | (with_reducible refine' C_isEdge ?s1 ?s2 ?s3 ?s4 ?s5 ?_; (case s1 => with_unfolding_all exact rfl); (case s2 => assumption); (case s3 => assumption); (case s4 => omega); (case s5 => omega))
  | (with_reducible refine' C_fwi ?s1 ?s2 ?_; (case s1 => with_unfolding_all exact rfl); (case s2 => omega))
  | (with_reducible refine' C_offset ?s1 ?_; (case s1 => with_unfolding_all exact rfl))
  | fail "a2")
local macro_rules | `(tactic| walk_at "s") => `(tactic| repeat' first
  | (with_reducible refine' X_augV ?s1 ?_; (case s1 => with_unfolding_all exact rfl))
  | (with_reducible refine' At_kS ?s1 ?s2 ?_; (case s1 => with_unfolding_all exact rfl); (case s2 => assumption))
  | (with_reducible refine' At_kN ?s1 ?s2 ?_; (case s1 => with_unfolding_all exact rfl); (case s2 => assumption))
  | fail "a1p"
  | fail "a3"
  | (with_reducible refine' C_isEdge ?s1 ?s2 ?s3 ?s4 ?s5 ?_; (case s1 => with_unfolding_all exact rfl); (case s2 => assumption); (case s3 => assumption); (case s4 => omega); (case s5 => omega))
  | (with_reducible refine' C_fwi ?s1 ?s2 ?_; (case s1 => with_unfolding_all exact rfl); (case s2 => omega))
  | (with_reducible refine' C_offset ?s1 ?_; (case s1 => with_unfolding_all exact rfl))
  | fail "a2s")
end
end
section
open PySem L2
section
variable {L L' : Int → Lb} {l w : Int} {h o : Option Int}
end
section
variable {T : Tab} {P : Out → List Cell → Prop} {PX : Nat → List D → List Cell → Prop} {s sto : List Cell} {rs qs : List Rw} {L' : Int → Lb} {m r : Rw} {a b low u : Int} {h : Option Int}
local macro_rules | `(tactic| walk_at "w") => `(tactic| repeat' first
  | (with_reducible refine' At_kS ?s1 ?s2 ?_; (case s1 => with_unfolding_all exact rfl); (case s2 => assumption))
  | (with_reducible refine' At_kN ?s1 ?s2 ?_; (case s1 => with_unfolding_all exact rfl); (case s2 => assumption))
  | fail "a1p"
  | fail "a3"
  | (with_reducible refine' C_rages ?s1 ?s2 ?_; (case s1 => with_unfolding_all exact rfl); (case s2 => assumption))
  | (with_reducible refine' C_lend ?s1 ?_; (case s1 => with_unfolding_all exact rfl))
  | (with_reducible refine' C_isEdge ?s1 ?s2 ?s3 ?s4 ?s5 ?_; (case s1 => with_unfolding_all exact rfl); (case s2 => assumption); (case s3 => assumption); (case s4 => omega); (case s5 => omega))
  | fail "a2")
local macro_rules | `(tactic| walk_at "s") => `(tactic| repeat' first
  | (with_reducible refine' At_kS ?s1 ?s2 ?_; (case s1 => with_unfolding_all exact rfl); (case s2 => assumption))
  | (with_reducible refine' At_kN ?s1 ?s2 ?_; (case s1 => with_unfolding_all exact rfl); (case s2 => assumption))
  | fail "a1p"
  | fail "a3"
  | (with_reducible refine' C_rages ?s1 ?s2 ?_; (case s1 => with_unfolding_all exact rfl); (case s2 => assumption))
  | (with_reducible refine' C_lend ?s1 ?_; (case s1 => with_unfolding_all exact rfl))
  | (with_reducible refine' C_isEdge ?s1 ?s2 ?s3 ?s4 ?s5 ?_; (case s1 => with_unfolding_all exact rfl); (case s2 => assumption); (case s3 => assumption); (case s4 => omega); (case s5 => omega))
  | fail "a2s")
end
end
section
open PySem L2
end
section
open PySem L2
end
section
open PySem L2
end
section
open PySem L2
end
section
open PySem L2
end
section
open PySem L2
end
section
open PySem L2
end
section
open PySem L2
end
section
open PySem L2
end
section
open PySem L2
end
section
open PySem L2
/- law_are_apart : 303 (_law_stretches, _law_k, _law_pair) -/
def b_law_are_apart : List Stm := [.for_ (.slot 1) (.range2 (.int 1) (.bi .len [.slot 0])) [.ite (.or_ (.cmp .is_ (.ix (.ix (.slot 0) (.bin .sub (.slot 1) (.int 1))) (.int 1)) .non) (.or_ (.cmp .is_ (.ix (.ix (.slot 0) (.slot 1)) (.int 0)) .non) (.cmp .lt (.ix (.ix (.slot 0) (.slot 1)) (.int 0)) (.bin .add (.ix (.ix (.slot 0) (.bin .sub (.slot 1) (.int 1))) (.int 1)) (.int 2))))) [.ret (.bl false)] []], .ret (.cmp .eq (.comp (.slot 2) (.slot 2) (.seq (.slot 0)) (some (.and_ (.cmp .isn (.ix (.slot 2) (.int 0)) .non) (.and_ (.cmp .isn (.ix (.slot 2) (.int 1)) .non) (.cmp .gt (.ix (.slot 2) (.int 0)) (.ix (.slot 2) (.int 1)))))) [2]) (.lst []))]
noncomputable def T_law_are_apart : Tab := { T0 with psi := psiT [], fld := fldT [] }
noncomputable def p_law_are_apart : Fn := fx T_law_are_apart 1 3 b_law_are_apart
/- law_has_v2 : 362 (_law_told, _law_moment, _law_phases, _law_differences, _law_low, _law_high) -/
def b_law_has_v2 : List Stm := [.for_ (.tup [.slot 2, .slot 3]) (.seq (.slot 0)) [.asg (.tup [.slot 4, .slot 5]) (.slot 3), .ite (.or_ (.cmp .is_ (.slot 4) .non) (.cmp .le (.bin .add (.ix (.slot 2) (.int 0)) (.slot 4)) (.slot 1))) [.ite (.or_ (.cmp .is_ (.slot 5) .non) (.cmp .le (.slot 1) (.bin .add (.ix (.slot 2) (.int 1)) (.slot 5)))) [.ret (.bl true)] []] []], .ret (.bl false)]
noncomputable def T_law_has_v2 : Tab := { T0 with psi := psiT [], fld := fldT [] }
noncomputable def p_law_has_v2 : Fn := fx T_law_has_v2 2 6 b_law_has_v2
/- law_in : 365 (_law_stretches, _law_moment, _law_low, _law_high) -/
def b_law_in : List Stm := [.for_ (.tup [.slot 2, .slot 3]) (.seq (.slot 0)) [.ite (.and_ (.or_ (.cmp .is_ (.slot 2) .non) (.cmp .le (.slot 2) (.slot 1))) (.or_ (.cmp .is_ (.slot 3) .non) (.cmp .le (.slot 1) (.slot 3)))) [.ret (.bl true)] []], .ret (.bl false)]
noncomputable def T_law_in : Tab := { T0 with psi := psiT [], fld := fldT [] }
noncomputable def p_law_in : Fn := fx T_law_in 2 4 b_law_in
/- law_pieces : 435 (_law_pen_here, _law_size, _law_found, _law_low, _law_k, _law_high, _law_first, _law_last) -/
def b_law_pieces : List Stm := [.par [2, 3] [.lst [], .int 0], .for_ (.slot 4) (.range1 (.call 201 [.slot 0, .int 6])) [.asg (.slot 5) (.bin .add (.slot 3) (.call 201 [.slot 0, .int 12])), .asg (.slot 6) (.bin .mul (.bin .sub (.call 201 [.slot 0, .int 80]) (.int 40)) (.slot 1)), .asg (.slot 7) (.bin .add (.slot 6) (.bin .mul (.call 201 [.slot 0, .int 9]) (.slot 1))), .par [6, 7] [.ite (.cmp .eq (.call 201 [.slot 0, .int 9]) (.int 0)) .non (.slot 6), .ite (.cmp .eq (.call 201 [.slot 0, .int 9]) (.int 0)) .non (.slot 7)], .append 2 (.tup [.tup [.slot 3, .slot 5], .tup [.slot 6, .slot 7]]), .asg (.slot 3) (.bin .add (.bin .add (.slot 5) (.int 1)) (.call 201 [.slot 0, .int 4]))], .ret (.slot 2)]
noncomputable def T_law_pieces : Tab := { (T0.add 201 p_draw) with psi := psiT [], fld := fldT [] }
noncomputable def p_law_pieces : Fn := fx T_law_pieces 2 8 b_law_pieces
/- joined_stretch : 100 (one, other) -/
def b_joined_stretch : List Stm := [.ite (.or_ (.cmp .is_ (.ix (.slot 0) (.int 1)) .non) (.cmp .is_ (.ix (.slot 1) (.int 1)) .non)) [.ret (.tup [.ix (.slot 0) (.int 0), .non])] [], .ret (.tup [.ix (.slot 0) (.int 0), .bi .max2 [.bi .int_ [.ix (.slot 0) (.int 1)], .bi .int_ [.ix (.slot 1) (.int 1)]]])]
noncomputable def T_joined_stretch : Tab := { T0 with psi := psiT [], fld := fldT [] }
noncomputable def p_joined_stretch : Fn := fx T_joined_stretch 2 2 b_joined_stretch
/- low_first : 97 (stretch) -/
def b_low_first : List Stm := [.ret (.tup [.cmp .isn (.ix (.slot 0) (.int 0)) .non, .ite (.cmp .is_ (.ix (.slot 0) (.int 0)) .non) (.int 0) (.ix (.slot 0) (.int 0))])]
noncomputable def T_low_first : Tab := { T0 with psi := psiT [], fld := fldT [] }
noncomputable def p_low_first : Fn := fx T_low_first 1 1 b_low_first
/- touches : 99 (one, other) -/
def b_touches : List Stm := [.ret (.or_ (.cmp .is_ (.ix (.slot 0) (.int 1)) .non) (.or_ (.cmp .is_ (.ix (.slot 1) (.int 0)) .non) (.cmp .le (.ix (.slot 1) (.int 0)) (.bin .add (.ix (.slot 0) (.int 1)) (.int 1)))))]
noncomputable def T_touches : Tab := { T0 with psi := psiT [], fld := fldT [] }
noncomputable def p_touches : Fn := fx T_touches 2 2 b_touches
/- events_of : 98 (told, stretches, low, high, least, most, found, stretch) -/
def b_events_of : List Stm := [.asg (.slot 1) (.lst []), .for_ (.tup [.tup [.slot 2, .slot 3], .tup [.slot 4, .slot 5]]) (.seq (.slot 0)) [.append 1 (.tup [.ite (.cmp .is_ (.slot 4) .non) .non (.bin .add (.slot 2) (.slot 4)), .ite (.cmp .is_ (.slot 5) .non) .non (.bin .add (.slot 3) (.slot 5))])], .asg (.slot 6) (.lst []), .for_ (.slot 7) (.seq (.srk 97 (.slot 1))) [.ite (.and_ (.cmp .ne (.slot 6) (.lst [])) (.call 99 [.ix (.slot 6) (.neg (.int 1)), .slot 7])) [.asg (.slot 7) (.call 100 [.pop 6, .slot 7])] [], .append 6 (.slot 7)], .ret (.bi .tuple_ [.slot 6])]
noncomputable def T_events_of : Tab := { (((T0.add 97 p_low_first).add 99 p_touches).add 100 p_joined_stretch) with psi := psiT [], fld := fldT [] }
noncomputable def p_events_of : Fn := fx T_events_of 1 8 b_events_of
end
section
open PySem L2
/-! ### two events told apart by looks -/
def loB : Option Int → Int → Bool
  | none, _ => true
  | some v, x => decide (v ≤ x)
def hiB : Option Int → Int → Bool
  | none, _ => true
  | some v, x => decide (x ≤ v)
def inB (p : O2) (x : Int) : Bool := loB p.1 x && hiB p.2 x
theorem inB_iff {p : O2} {x : Int} : inB p x = true ↔ InO p x := @Rq9 _ _ (fun qz => @Hq9.get _ _ (qz.bar : Hq9 _ (by
  clear qz
  obtain ⟨p1, p2⟩ := p
  unfold inB InO
  cases p1 <;> cases p2 <;> simp [loB, hiB]))) Xq9.mk
def Apt (L : Int → Lb) (M : Int → Prop) (a b : Int) : Prop := ∃ m, M m ∧ shw L a m ≠ shw L b m
section
variable {L : Int → Lb} {M N : Int → Prop} {a b : Int} {p q : O2}
theorem Apt.symm (h : Apt L M a b) : Apt L M b a := by obtain ⟨m, h1, h2⟩ := h; exact ⟨m, h1, fun z => h2 z.symm⟩
theorem Apt.mono (h : Apt L M a b) (hs : ∀ m, M m → N m) : Apt L N a b := by obtain ⟨m, h1, h2⟩ := h; exact ⟨m, hs m h1, h2⟩
/-- what the number of first looks is -/
structure IsFst (L : Int → Lb) (f s : Int) (N : Option Int) (a b : Int) (o : Option Int) : Prop where
  no : o = none → ¬ Apt L (Bt f s N) a b
  yes : ∀ n, o = some n → 0 < n ∧ (∀ v, N = some v → n ≤ v) ∧ Apt L (Bt f s (some n)) a b ∧ ¬ Apt L (Bt f s (some (n - 1))) a b
end
end
section
open PySem L2
/-! ### the events that looks let be -/
/-- a look: its moment, what is shown -/
abbrev Lk2 := Int × Option Lb
/-- what all of some stretches share -/
def mtS (q : O2) : List O2 → O2
  | [] => q
  | p :: ps => mtS (gl q.1 p.1, lh q.2 p.2) ps
/-- looks of one event -/
def seen (L : Int → Lb) (e : Int) (ms : List Int) : List Lk2 := ms.map fun m => (m, shw L e m)
/-! ### two events beside one another -/
end
section
open PySem L2
/-! ### orders of events: what the words tell -/
end
section
open PySem L2
/-! ### what stretches share, or two of them that share nothing -/
end
section
open PySem L2
/-- meet_of of any stretches: a Clash of the two places x, y -/
def MtX (ps : List O2) (x y : Int) : Prop := ∃ (a b : Int) (i j : Nat) (p q : O2), mtS (none, none) ps = (some a, some b) ∧ b < a ∧ ps[i]? = some p ∧ p.1 = some a ∧ ps[j]? = some q ∧ q.2 = some b ∧
  (∀ (k : Nat) (p' : O2), ps[k]? = some p' → p'.1 = some a → i ≤ k) ∧ (∀ (k : Nat) (p' : O2), ps[k]? = some p' → p'.2 = some b → j ≤ k) ∧ x = min (i : Int) j ∧ y = max (i : Int) j
theorem MtX.no {ps : List O2} {x y : Int} (h : MtX ps x y) : ¬ ∃ z, ∀ p ∈ ps, InO p z := @Rq9 _ _ (fun qz => @Hq9.get _ _ (qz.bar : Hq9 _ (by
  clear qz
  obtain ⟨a, b, i, j, p, q, h1, h2, h3, h4, h5, h6, _⟩ := h
  rintro ⟨z, hz⟩
  have k1 := (hz p (List.mem_of_getElem? h3)).1 a h4
  have k2 := (hz q (List.mem_of_getElem? h5)).2 b h6
  omega))) Xq9.mk
/-! ### the highest low, the lowest high -/
end
section
open PySem L2
/-! ### looks at a screen with a phase that is not known -/
/-- the last moment at which a screen words, less its phase: for phases from a on, as long as no remainder parts them -/
def wrd (st a m : Int) : Int := if a ≤ m % st then m - m % st else m - m % st - st
structure PhOk (st lo : Int) (rests : List Int) (a b : Int) : Prop where
  lo : lo ≤ a
  le : a ≤ b
  lt : b < st
  no : ∀ r ∈ rests, ¬ (a ≤ r ∧ r < b)
/-! moments moved -/
/-! the pieces -/
open Classical in
end
section
open PySem L2
/-! ### all events of pieces -/
/-- the events of a piece -/
def evS (p : (Int × Int) × O2) : O2 := (p.2.1.map (p.1.1 + ·), p.2.2.map (p.1.2 + ·))
def keyO (o : O2) : Bool × Int := match o.1 with | none => (false, 0) | some v => (true, v)
def tchB (a b : O2) : Bool := match a.2, b.1 with | some v, some u => decide (u ≤ v + 1) | _, _ => true
def jnO (a b : O2) : O2 := (a.1, match a.2, b.2 with | some v, some w => some (max v w) | _, _ => none)
def mrg (acc : List O2) (s : O2) : List O2 := match acc.getLast? with | some l => if tchB l s then acc.dropLast ++ [jnO l s] else acc ++ [s] | none => [s]
def sortO (l : List O2) : List O2 := l.mergeSort fun p q => leBI (keyO p) (keyO q)
def evsO (told : List ((Int × Int) × O2)) : List O2 := (sortO (told.map evS)).foldl mrg []
/-- some moment is in it -/
def NeO (p : O2) : Prop := ∀ v w, p.1 = some v → p.2 = some w → v ≤ w
def ApO (a b : O2) : Prop := ∃ v u, a.2 = some v ∧ b.1 = some u ∧ v + 2 ≤ u
structure Apt9 (l : List O2) : Prop where
  ne : ∀ a ∈ l, NeO a
  ap : l.Pairwise ApO
theorem key_le {l s : O2} : leBI (keyO l) (keyO s) = true ↔ l.1 = none ∨ ∃ v w, l.1 = some v ∧ s.1 = some w ∧ v ≤ w := @Rq9 _ _ (fun qz => @Hq9.get _ _ (qz.bar : Hq9 _ (by
  clear qz
  obtain ⟨a, b⟩ := l
  obtain ⟨c, d⟩ := s
  cases a <;> cases c <;> simp only [keyO, leBI] <;> simp
  exact decide_eq_true_iff))) Xq9.mk
theorem mrg_snoc (acc : List O2) (l s : O2) : mrg (acc ++ [l]) s = if tchB l s then acc ++ [jnO l s] else acc ++ [l] ++ [s] := @Rq9 _ _ (fun qz => @Hq9.get _ _ (qz.bar : Hq9 _ (by
  clear qz
  unfold mrg
  rw [List.getLast?_append, List.getLast?_singleton]
  simp only [Option.or, List.dropLast_concat]))) Xq9.mk
theorem jn_in {l s : O2} (hk : leBI (keyO l) (keyO s) = true) (ht : tchB l s = true) (n1 : NeO l) (n2 : NeO s) (x : Int) : InO (jnO l s) x ↔ InO l x ∨ InO s x := @Rq9 _ _ (fun qz => @Hq9.get _ _ (qz.bar : Hq9 _ (by
  clear qz
  rw [key_le] at hk
  obtain ⟨a, b⟩ := l
  obtain ⟨c, d⟩ := s
  unfold NeO at n1 n2
  unfold InO jnO
  unfold tchB at ht
  cases a <;> cases b <;> cases c <;> cases d <;> simp at hk ht n1 n2 ⊢ <;> omega))) Xq9.mk
theorem jn_ne {l s : O2} (n1 : NeO l) : NeO (jnO l s) := fun v w h1 h2 => by
  obtain ⟨a, b⟩ := l
  obtain ⟨c, d⟩ := s
  unfold NeO at n1
  unfold jnO at h1 h2
  cases b with
  | none => cases h2
  | some b => cases d with
    | none => cases h2
    | some d =>
      have h1 : a = some v := h1
      have h2 : max b d = w := Option.some.inj h2
      have := n1 v b h1 rfl
      omega
theorem ap_of {l s : O2} (hk : leBI (keyO l) (keyO s) = true) (ht : tchB l s = false) : ApO l s := @Rq9 _ _ (fun qz => @Hq9.get _ _ (qz.bar : Hq9 _ (by
  clear qz
  obtain ⟨a, b⟩ := l
  obtain ⟨c, d⟩ := s
  unfold tchB at ht
  cases b with
  | none => cases ht
  | some b => cases c with
    | none => cases ht
    | some c =>
      have ht : decide (c ≤ b + 1) = false := ht
      have := of_decide_eq_false ht
      exact ⟨b, c, rfl, rfl, by omega⟩))) Xq9.mk
theorem ap_trans {a l s : O2} (n : NeO l) (h : ApO a l) (k : ApO l s) : ApO a s := @Rq9 _ _ (fun qz => @Hq9.get _ _ (qz.bar : Hq9 _ (by
  clear qz
  obtain ⟨v, u, h1, h2, h3⟩ := h
  obtain ⟨v2, u2, k1, k2, k3⟩ := k
  have := n u v2 h2 k1
  exact ⟨v, u2, h1, k2, by omega⟩))) Xq9.mk
theorem ap_jn {a l s : O2} (h : ApO a l) : ApO a (jnO l s) := h
theorem key_jn {l s r : O2} (h : leBI (keyO l) (keyO r) = true) : leBI (keyO (jnO l s)) (keyO r) = true := h
theorem fold_mrg : ∀ (rest acc : List O2) (l : O2), Apt9 (acc ++ [l]) → (∀ r ∈ rest, NeO r) → (∀ r ∈ rest, leBI (keyO l) (keyO r) = true) → rest.Pairwise (fun p q => leBI (keyO p) (keyO q) = true) →
    Apt9 (rest.foldl mrg (acc ++ [l])) ∧ ∀ x, (∃ a ∈ rest.foldl mrg (acc ++ [l]), InO a x) ↔ ∃ a ∈ acc ++ [l] ++ rest, InO a x
  | [], acc, l, h, _, _, _ => ⟨h, fun x => by rw [List.append_nil]; exact Iff.rfl⟩
  | s :: rest, acc, l, h, hn, hk, hp => by
    obtain ⟨p1, p2⟩ := List.pairwise_cons.mp hp
    have k1 := hk s (.head _)
    have n1 := h.ne l (by simp)
    have n2 := hn s (.head _)
    obtain ⟨q1, q2, q3⟩ := List.pairwise_append.mp h.ap
    rw [List.foldl_cons, mrg_snoc]
    cases ht : tchB l s with
    | true =>
      rw [if_pos rfl]
      have ih := fold_mrg rest acc (jnO l s) ⟨fun a ha => by
        rcases List.mem_append.mp ha with ha | ha
        · exact h.ne a (List.mem_append_left _ ha)
        · rw [List.mem_singleton.mp ha]; exact jn_ne n1, List.pairwise_append.mpr ⟨q1, List.pairwise_singleton _ _, fun a ha b hb => by
        rw [List.mem_singleton.mp hb]
        exact ap_jn (q3 a ha l (List.mem_singleton.mpr rfl))⟩⟩ (fun r hr => hn r (.tail _ hr)) (fun r hr => key_jn (hk r (.tail _ hr))) p2
      refine ⟨ih.1, fun x => (ih.2 x).trans ?_⟩
      have hj := jn_in k1 ht n1 n2 x
      simp only [List.mem_append, List.mem_cons, List.not_mem_nil, or_false]
      constructor
      · rintro ⟨a, (ha | rfl) | ha, hx⟩
        · exact ⟨a, .inl (.inl ha), hx⟩
        · rcases hj.mp hx with hx | hx
          · exact ⟨l, .inl (.inr rfl), hx⟩
          · exact ⟨s, .inr (.inl rfl), hx⟩
        · exact ⟨a, .inr (.inr ha), hx⟩
      · rintro ⟨a, (ha | rfl) | (rfl | ha), hx⟩
        · exact ⟨a, .inl (.inl ha), hx⟩
        · exact ⟨_, .inl (.inr rfl), hj.mpr (.inl hx)⟩
        · exact ⟨_, .inl (.inr rfl), hj.mpr (.inr hx)⟩
        · exact ⟨a, .inr ha, hx⟩
    | false =>
      rw [if_neg (by decide)]
      have hap := ap_of k1 ht
      have ih := fold_mrg rest (acc ++ [l]) s ⟨fun a ha => by
        rcases List.mem_append.mp ha with ha | ha
        · exact h.ne a ha
        · rw [List.mem_singleton.mp ha]; exact n2, List.pairwise_append.mpr ⟨h.ap, List.pairwise_singleton _ _, fun a ha b hb => by
        rw [List.mem_singleton.mp hb]
        rcases List.mem_append.mp ha with ha | ha
        · exact ap_trans n1 (q3 a ha l (List.mem_singleton.mpr rfl)) hap
        · rw [List.mem_singleton.mp ha]; exact hap⟩⟩ (fun r hr => hn r (.tail _ hr)) (fun r hr => p1 r hr) p2
      refine ⟨ih.1, fun x => (ih.2 x).trans ?_⟩
      rw [List.append_assoc (acc ++ [l]), List.singleton_append]
theorem leBI_total (a b : Bool × Int) : (leBI a b || leBI b a) = true := @Rq9 _ _ (fun qz => @Hq9.get _ _ (qz.bar : Hq9 _ (by
  clear qz
  obtain ⟨a, i⟩ := a
  obtain ⟨b, j⟩ := b
  cases a <;> cases b <;> simp [leBI] <;> omega))) Xq9.mk
theorem leBI_trans (a b c : Bool × Int) (h : leBI a b = true) (k : leBI b c = true) : leBI a c = true := @Rq9 _ _ (fun qz => @Hq9.get _ _ (qz.bar : Hq9 _ (by
  clear qz
  obtain ⟨a, i⟩ := a
  obtain ⟨b, j⟩ := b
  obtain ⟨c, k⟩ := c
  cases a <;> cases b <;> cases c <;> simp [leBI] at h k ⊢ <;> omega))) Xq9.mk
theorem sortO_srt (l : List O2) : (sortO l).Pairwise fun p q => leBI (keyO p) (keyO q) = true := List.pairwise_mergeSort (le := fun p q => leBI (keyO p) (keyO q)) (fun _ _ _ => leBI_trans _ _ _) (fun _ _ => leBI_total _ _) l
theorem sortO_perm (l : List O2) : (sortO l).Perm l := List.mergeSort_perm _ _
theorem evsO_is {told : List ((Int × Int) × O2)} (hn : ∀ p ∈ told, NeO (evS p)) : Apt9 (evsO told) ∧ ∀ x, (∃ a ∈ evsO told, InO a x) ↔ ∃ p ∈ told, InO (evS p) x := @Rq9 _ _ (fun qz => @Hq9.get _ _ (qz.bar : Hq9 _ (by
  clear qz
  have hs := sortO_srt (told.map evS)
  have hm : ∀ a, a ∈ sortO (told.map evS) ↔ ∃ p ∈ told, evS p = a := fun a => ((sortO_perm _).mem_iff).trans List.mem_map
  unfold evsO
  generalize sortO (told.map evS) = L at hs hm
  have fin : ∀ x, (∃ a ∈ L, InO a x) ↔ ∃ p ∈ told, InO (evS p) x := fun x => by
    constructor
    · rintro ⟨a, ha, hx⟩
      obtain ⟨p, hp, rfl⟩ := (hm a).mp ha
      exact ⟨p, hp, hx⟩
    · rintro ⟨p, hp, hx⟩
      exact ⟨_, (hm _).mpr ⟨p, hp, rfl⟩, hx⟩
  have hne : ∀ a ∈ L, NeO a := fun a ha => by
    obtain ⟨p, hp, rfl⟩ := (hm a).mp ha
    exact hn p hp
  cases L with
  | nil => exact ⟨⟨fun a h => (nomatch h), .nil⟩, fin⟩
  | cons s rest =>
    obtain ⟨p1, p2⟩ := List.pairwise_cons.mp hs
    have e : (s :: rest).foldl mrg [] = rest.foldl mrg ([] ++ [s]) := rfl
    rw [e]
    have := fold_mrg rest [] s ⟨fun a ha => by rw [List.mem_singleton.mp ha]; exact hne s (.head _), List.pairwise_singleton _ _⟩ (fun r hr => hne r (.tail _ hr)) p1 p2
    exact ⟨this.1, fun x => (this.2 x).trans (fin x)⟩))) Xq9.mk
end
section
open PySem L2
section
variable {T : Tab} {fr : Fr} {PX : PXt} {PD : D → Fr → Prop}
end
section
variable {T : Tab} {P : Out → List Cell → Prop} {PX : Nat → List D → List Cell → Prop} {s sto : List Cell} {rs : List Rw} {f st a b : Int} {n N : Option Int}
local macro_rules | `(tactic| walk_at "w") => `(tactic| repeat' first
  | fail "a1p"
  | fail "a3"
  | (with_reducible refine' At_b5 ?s1 ?_; (case s1 => with_unfolding_all exact rfl))
  | (with_reducible refine' At_b6 ?s1 ?_; (case s1 => with_unfolding_all exact rfl))
  | (with_reducible refine' At_b7 ?s1 ?_; (case s1 => with_unfolding_all exact rfl))
  | (with_reducible refine' C_Beat ?s1 ?_; (case s1 => with_unfolding_all exact rfl))
  | fail "a2")
local macro_rules | `(tactic| walk_at "s") => `(tactic| repeat' first
  | fail "a1p"
  | fail "a3"
  | (with_reducible refine' At_b5 ?s1 ?_; (case s1 => with_unfolding_all exact rfl))
  | (with_reducible refine' At_b6 ?s1 ?_; (case s1 => with_unfolding_all exact rfl))
  | (with_reducible refine' At_b7 ?s1 ?_; (case s1 => with_unfolding_all exact rfl))
  | (with_reducible refine' C_Beat ?s1 ?_; (case s1 => with_unfolding_all exact rfl))
  | fail "a2s")
end
end
section
open PySem L2
section
variable {T : Tab} {P : Out → List Cell → Prop} {PX : Nat → List D → List Cell → Prop} {s sto : List Cell} {f st e w : Int} {n : Option Int} {rs : List Rw} {p : O2}
local macro_rules | `(tactic| walk_at "w") => `(tactic| repeat' first
  | fail "a1p"
  | fail "a2")
end
section
variable {T : Tab} {P : Out → List Cell → Prop} {PX : Nat → List D → List Cell → Prop} {s sto : List Cell} {f st e w : Int} {n : Option Int} {rs : List Rw} {p : O2}
local macro_rules | `(tactic| walk_at "w") => `(tactic| repeat' first
  | fail "a1p"
  | fail "a3"
  | (with_reducible refine' C_steady ?s1 ?s2 ?s3 ?s4 ?_; (case s1 => with_unfolding_all exact rfl); (case s2 => assumption); (case s3 => assumption); (case s4 => assumption))
  | (with_reducible refine' C_zones ?s1 ?s2 ?_; (case s1 => with_unfolding_all exact rfl); (case s2 => assumption))
  | (with_reducible refine' At_b5 ?s1 ?_; (case s1 => with_unfolding_all exact rfl))
  | (with_reducible refine' At_b6 ?s1 ?_; (case s1 => with_unfolding_all exact rfl))
  | (with_reducible refine' C_BeatI ?s1 ?_; (case s1 => with_unfolding_all exact rfl))
  | (with_reducible refine' C_short ?s1 ?_; (case s1 => with_unfolding_all exact rfl))
  | fail "a2")
end
end
section
open PySem L2
section
variable {T : Tab} {P : Out → List Cell → Prop} {PX : Nat → List D → List Cell → Prop} {s sto : List Cell} {rs : List Rw} {x m : Int} {ms : List Int}
local macro_rules | `(tactic| walk_at "w") => `(tactic| repeat' first
  | fail "a1p"
  | fail "a3"
  | (with_reducible refine' C_label ?s1 ?s2 ?s3 ?s4 ?_; (case s1 => with_unfolding_all exact rfl); (case s2 => assumption); (case s3 => omega); (case s4 => omega))
  | (with_reducible refine Of_id ?_)
  | fail "a2")
end
section
variable {T : Tab} {fr : Fr} {PX : PXt} {PD : D → Fr → Prop}
end
section
variable {T : Tab} {P : Out → List Cell → Prop} {PX : Nat → List D → List Cell → Prop} {s sto : List Cell} {rs : List Rw} {f st e k : Int} {N : Option Int}
local macro_rules | `(tactic| walk_at "w") => `(tactic| repeat' first
  | (with_reducible refine X_retV (V_ixCallF ?_))
  | (with_reducible refine V_ixCallF ?_)
  | fail "a1p"
  | fail "a3"
  | (with_reducible refine' At_b5 ?s1 ?_; (case s1 => with_unfolding_all exact rfl))
  | (with_reducible refine' At_b6 ?s1 ?_; (case s1 => with_unfolding_all exact rfl))
  | fail "a2")
end
section
variable {T : Tab} {P : Out → List Cell → Prop} {PX : Nat → List D → List Cell → Prop} {s sto : List Cell} {rs : List Rw} {f st a b X B : Int} {N : Option Int}
local macro_rules | `(tactic| walk_at "w") => `(tactic| repeat' first
  | fail "a1p"
  | fail "a3"
  | (with_reducible refine' At_b7 ?s1 ?_; (case s1 => with_unfolding_all exact rfl))
  | (with_reducible refine C_isB ?_)
  | (with_reducible refine C_isnB ?_)
  | (with_reducible refine C_eqBS ?_)
  | fail "a2")
local macro_rules | `(tactic| walk_at "s") => `(tactic| repeat' first
  | fail "a1p"
  | fail "a3"
  | (with_reducible refine' At_b7 ?s1 ?_; (case s1 => with_unfolding_all exact rfl))
  | (with_reducible refine C_isB ?_)
  | (with_reducible refine C_isnB ?_)
  | (with_reducible refine C_eqBS ?_)
  | fail "a2s")
end
end
section
open PySem L2
/-! ### ages that are first rounded to multiples of a step -/
/-- an age rounded to a multiple of a step -/
def rnd (w : Str) (st a : Int) : Int := cnt w st a * st
/-- the least age worded otherwise if it is first rounded -/
structure IsHrm (L : Int → Lb) (w : Str) (st : Int) (o : Option Int) : Prop where
  no : o = none → ∀ a, 0 ≤ a → L (rnd w st a) = L a
  yes : ∀ b, o = some b → 0 ≤ b ∧ L (rnd w st b) ≠ L b ∧ ∀ a, 0 ≤ a → a < b → L (rnd w st a) = L a
section
variable {L : Int → Lb} {w : Str} {st : Int} {e : Option Int}
end
end
section
open PySem L2
section
variable {w : Str} {st X b : Int} {qs : List Rw}
end
end
section
open PySem L2
section
variable {T : Tab} {P : Out → List Cell → Prop} {PX : Nat → List D → List Cell → Prop} {s sto : List Cell} {qs : List Rw} {w : Str} {st : Int}
local macro_rules | `(tactic| walk_at "w") => `(tactic| repeat' first
  | fail "a1p"
  | fail "a3"
  | fail "a2")
local macro_rules | `(tactic| walk_at "s") => `(tactic| repeat' first
  | fail "a1p"
  | fail "a3"
  | fail "a2s")
end
end
section
open PySem L2
section
variable {P : Bool → Prop} {x y : Option Lb}
end
section
variable {T : Tab} {P : Out → List Cell → Prop} {PX : Nat → List D → List Cell → Prop} {s : List Cell} {B : Int}
local macro_rules | `(tactic| walk_at "w") => `(tactic| repeat' first
  | fail "a1p"
  | fail "a3"
  | (with_reducible refine' C_draw ?s1 ?s2 ?s3 ?s4 ?s5 ?_; (case s1 => with_unfolding_all exact rfl); (case s2 => assumption); (case s3 => omega); (case s4 => omega); (case s5 => omega); intro r s' hr0 hr1 hp)
  | (with_reducible refine' C_way ?s1 ?s2 ?s3 ?_; (case s1 => with_unfolding_all exact rfl); (case s2 => assumption); (case s3 => omega); intro w s' hw hp)
  | (with_reducible refine' C_BeatN ?s1 ?_; (case s1 => with_unfolding_all exact rfl))
  | (with_reducible refine C_eqIS ?_)
  | (with_reducible refine C_eqNS ?_)
  | (with_reducible refine' Ow2a ?s1 ?_; (case s1 => with_unfolding_all exact rfl))
  | (with_reducible refine' Ow2b ?s1 ?_; (case s1 => with_unfolding_all exact rfl))
  | fail "a2")
local macro_rules | `(tactic| walk_at "s") => `(tactic| repeat' first
  | fail "a1p"
  | fail "a3"
  | (with_reducible refine' C_draw ?s1 ?s2 ?s3 ?s4 ?s5 ?_; (case s1 => with_unfolding_all exact rfl); (case s2 => assumption); (case s3 => omega); (case s4 => omega); (case s5 => omega); intro r s' hr0 hr1 hp)
  | (with_reducible refine' C_way ?s1 ?s2 ?s3 ?_; (case s1 => with_unfolding_all exact rfl); (case s2 => assumption); (case s3 => omega); intro w s' hw hp)
  | (with_reducible refine' C_BeatN ?s1 ?_; (case s1 => with_unfolding_all exact rfl))
  | (with_reducible refine C_eqIS ?_)
  | (with_reducible refine C_eqNS ?_)
  | (with_reducible refine' Ow2a ?s1 ?_; (case s1 => with_unfolding_all exact rfl))
  | (with_reducible refine' Ow2b ?s1 ?_; (case s1 => with_unfolding_all exact rfl))
  | fail "a2s")
end
end
section
open PySem L2
section
variable {T : Tab} {P : Out → List Cell → Prop} {PX : Nat → List D → List Cell → Prop} {s sto : List Cell} {rs : List Rw} {q : Lk2} {i : Int}
local macro_rules | `(tactic| walk_at "w") => `(tactic| repeat' first
  | fail "a1p"
  | (with_reducible refine' C_count ?s1 ?s2 ?s3 ?s4 ?s5 ?_; (case s1 => with_unfolding_all exact rfl); (case s2 => omega); (case s3 => omega); (case s4 => omega); (case s5 => omega))
  | (with_reducible refine' C_offset ?s1 ?_; (case s1 => with_unfolding_all exact rfl))
  | (with_reducible refine' C_fwi ?s1 ?s2 ?_; (case s1 => with_unfolding_all exact rfl); (case s2 => omega))
  | (with_reducible refine' C_foc ?s1 ?s2 ?s3 ?s4 ?s5 ?_; (case s1 => with_unfolding_all exact rfl); (case s2 => omega); (case s3 => omega); (case s4 => omega); (case s5 => omega))
  | (with_reducible refine' C_check ?s1 ?s2 ?_; (case s1 => with_unfolding_all exact rfl); (case s2 => omega))
  | (with_reducible refine' At_uS ?s1 ?s2 ?_; (case s1 => with_unfolding_all exact rfl); (case s2 => assumption))
  | (with_reducible refine' At_uN ?s1 ?s2 ?_; (case s1 => with_unfolding_all exact rfl); (case s2 => assumption))
  | (with_reducible refine' At_kS ?s1 ?s2 ?_; (case s1 => with_unfolding_all exact rfl); (case s2 => assumption))
  | (with_reducible refine' At_kN ?s1 ?s2 ?_; (case s1 => with_unfolding_all exact rfl); (case s2 => assumption))
  | (with_reducible refine' At_u ?s1 ?_; (case s1 => with_unfolding_all exact rfl))
  | (with_reducible refine' At_w ?s1 ?_; (case s1 => with_unfolding_all exact rfl))
  | (with_reducible refine' At_s ?s1 ?_; (case s1 => with_unfolding_all exact rfl))
  | (with_reducible refine' At_rs ?s1 ?_; (case s1 => with_unfolding_all exact rfl))
  | (with_reducible refine' Mt_wg ?s1 ?s2 ?_; (case s1 => with_unfolding_all exact rfl); (case s2 => with_unfolding_all exact rfl))
  | (with_reducible refine' C_rlab ?s1 ?s2 ?s3 ?s4 ?_; (case s1 => with_unfolding_all exact rfl); (case s2 => assumption); (case s3 => omega); (case s4 => omega))
  | fail "a3"
  | (with_reducible refine C_isLb ?_)
  | (with_reducible refine Ix_hd ?_)
  | (with_reducible refine' Ix_id ?s1 ?_; (case s1 => with_unfolding_all exact rfl))
  | fail "a2")
local macro_rules | `(tactic| walk_at "s") => `(tactic| repeat' first
  | fail "a1p"
  | (with_reducible refine' C_count ?s1 ?s2 ?s3 ?s4 ?s5 ?_; (case s1 => with_unfolding_all exact rfl); (case s2 => omega); (case s3 => omega); (case s4 => omega); (case s5 => omega))
  | (with_reducible refine' C_offset ?s1 ?_; (case s1 => with_unfolding_all exact rfl))
  | (with_reducible refine' C_fwi ?s1 ?s2 ?_; (case s1 => with_unfolding_all exact rfl); (case s2 => omega))
  | (with_reducible refine' C_foc ?s1 ?s2 ?s3 ?s4 ?s5 ?_; (case s1 => with_unfolding_all exact rfl); (case s2 => omega); (case s3 => omega); (case s4 => omega); (case s5 => omega))
  | (with_reducible refine' C_check ?s1 ?s2 ?_; (case s1 => with_unfolding_all exact rfl); (case s2 => omega))
  | (with_reducible refine' At_uS ?s1 ?s2 ?_; (case s1 => with_unfolding_all exact rfl); (case s2 => assumption))
  | (with_reducible refine' At_uN ?s1 ?s2 ?_; (case s1 => with_unfolding_all exact rfl); (case s2 => assumption))
  | (with_reducible refine' At_kS ?s1 ?s2 ?_; (case s1 => with_unfolding_all exact rfl); (case s2 => assumption))
  | (with_reducible refine' At_kN ?s1 ?s2 ?_; (case s1 => with_unfolding_all exact rfl); (case s2 => assumption))
  | (with_reducible refine' At_u ?s1 ?_; (case s1 => with_unfolding_all exact rfl))
  | (with_reducible refine' At_w ?s1 ?_; (case s1 => with_unfolding_all exact rfl))
  | (with_reducible refine' At_s ?s1 ?_; (case s1 => with_unfolding_all exact rfl))
  | (with_reducible refine' At_rs ?s1 ?_; (case s1 => with_unfolding_all exact rfl))
  | (with_reducible refine' Mt_wg ?s1 ?s2 ?_; (case s1 => with_unfolding_all exact rfl); (case s2 => with_unfolding_all exact rfl))
  | (with_reducible refine' C_rlab ?s1 ?s2 ?s3 ?s4 ?_; (case s1 => with_unfolding_all exact rfl); (case s2 => assumption); (case s3 => omega); (case s4 => omega))
  | fail "a3"
  | (with_reducible refine C_isLb ?_)
  | (with_reducible refine Ix_hd ?_)
  | (with_reducible refine' Ix_id ?s1 ?_; (case s1 => with_unfolding_all exact rfl))
  | fail "a2s")
end
section
variable {T : Tab} {P : Out → List Cell → Prop} {PX : Nat → List D → List Cell → Prop} {s sto : List Cell} {ps : List O2} {e : Int}
local macro_rules | `(tactic| walk_at "w") => `(tactic| repeat' first
  | fail "a1p"
  | fail "a3"
  | (with_reducible refine' C_glow ?s1 ?_; (case s1 => with_unfolding_all exact rfl))
  | (with_reducible refine' C_lhigh ?s1 ?_; (case s1 => with_unfolding_all exact rfl))
  | fail "a2")
local macro_rules | `(tactic| walk_at "s") => `(tactic| repeat' first
  | fail "a1p"
  | fail "a3"
  | (with_reducible refine' C_glow ?s1 ?_; (case s1 => with_unfolding_all exact rfl))
  | (with_reducible refine' C_lhigh ?s1 ?_; (case s1 => with_unfolding_all exact rfl))
  | fail "a2s")
end
section
variable {T : Tab} {P : Out → List Cell → Prop} {PX : Nat → List D → List Cell → Prop} {s sto : List Cell} {rs : List Rw} {sn : List Lk2} {e : Int}
local macro_rules | `(tactic| walk_at "w") => `(tactic| repeat' first
  | fail "a1p"
  | fail "a3"
  | (with_reducible refine Of_id ?_)
  | fail "a2")
local macro_rules | `(tactic| walk_at "s") => `(tactic| repeat' first
  | fail "a1p"
  | fail "a3"
  | (with_reducible refine Of_id ?_)
  | fail "a2s")
end
section
variable {T : Tab} {P : Out → List Cell → Prop} {PX : Nat → List D → List Cell → Prop} {s sto : List Cell} {p q : O2}
local macro_rules | `(tactic| walk_at "w") => `(tactic| repeat' first
  | fail "a1p"
  | fail "a3"
  | fail "a2")
local macro_rules | `(tactic| walk_at "s") => `(tactic| repeat' first
  | fail "a1p"
  | fail "a3"
  | fail "a2s")
end
end
section
open PySem L2
end
section
open PySem L2
section
local macro_rules | `(tactic| walk_at "w") => `(tactic| repeat' first
  | (with_reducible refine V_ixLst ?_)
  | fail "a1"
  | fail "a3"
  | (with_reducible refine' C_draw ?s1 ?s2 ?s3 ?s4 ?s5 ?_; (case s1 => with_unfolding_all exact rfl); (case s2 => assumption); (case s3 => omega); (case s4 => omega); (case s5 => omega); intro r s' hr0 hr1 hp)
  | (with_reducible refine' C_number ?s1 ?s2 ?s3 ?_; (case s1 => with_unfolding_all exact rfl); (case s2 => assumption); (case s3 => omega); intro n s' hn0 hn1 hp)
  | (with_reducible refine' C_way ?s1 ?s2 ?s3 ?_; (case s1 => with_unfolding_all exact rfl); (case s2 => assumption); (case s3 => omega); intro w s' hw hp)
  | (with_reducible refine' C_eqStrs0T ?s1 ?s2 ?_; (case s1 => assumption); (case s2 => assumption))
  | (with_reducible refine' C_eqStrs0F ?s1 ?s2 ?_; (case s1 => assumption); (case s2 => assumption))
  | fail "a2")
end
section
variable {T : Tab} {P : Out → List Cell → Prop} {PX : Nat → List D → List Cell → Prop} {s : List Cell} {B m : Int} {ws : List Str}
end
end
section
open PySem L2
section
variable {T : Tab} {fr : Fr} {PX : PXt} {K : SxP}
end
section
local macro_rules | `(tactic| walk_at "w") => `(tactic| repeat' first
  | fail "a1p"
  | fail "a3"
  | fail "a2")
local macro_rules | `(tactic| walk_at "s") => `(tactic| repeat' first
  | fail "a1p"
  | fail "a3"
  | fail "a2s")
end
section
local macro_rules | `(tactic| walk_at "w") => `(tactic| repeat' first
  | fail "a1p"
  | fail "a3"
  | fail "a2")
local macro_rules | `(tactic| walk_at "s") => `(tactic| repeat' first
  | fail "a1p"
  | fail "a3"
  | fail "a2s")
end
end
section
open PySem L2
section
variable {T : Tab} {fr : Fr} {PX : PXt} {K : SxP}
end
section
local macro_rules | `(tactic| walk_at "w") => `(tactic| repeat' first
  | (with_reducible refine' V_max1add ?s1 ?s2 ?_; (case s1 => with_unfolding_all exact rfl); (case s2 => omega))
  | fail "a1p"
  | fail "a3"
  | (with_reducible refine' C_llab ?s1 ?s2 ?s3 ?s4 ?_; (case s1 => with_unfolding_all exact rfl); (case s2 => assumption); (case s3 => omega); (case s4 => omega))
  | (with_reducible refine' C_neLb ?s1 ?s2 ?_; (case s1 => first | assumption | exact lab_ok _ (by assumption)); (case s2 => first | assumption | exact lab_ok _ (by assumption)))
  | fail "a2")
local macro_rules | `(tactic| walk_at "s") => `(tactic| repeat' first
  | (with_reducible refine' V_max1add ?s1 ?s2 ?_; (case s1 => with_unfolding_all exact rfl); (case s2 => omega))
  | fail "a1p"
  | fail "a3"
  | (with_reducible refine' C_llab ?s1 ?s2 ?s3 ?s4 ?_; (case s1 => with_unfolding_all exact rfl); (case s2 => assumption); (case s3 => omega); (case s4 => omega))
  | (with_reducible refine' C_neLb ?s1 ?s2 ?_; (case s1 => first | assumption | exact lab_ok _ (by assumption)); (case s2 => first | assumption | exact lab_ok _ (by assumption)))
  | fail "a2s")
end
section
variable {T : Tab} {P : Out → List Cell → Prop} {PX : Nat → List D → List Cell → Prop} {s : List Cell} {rs qs : List Rw} {X B : Int}
end
end
section
open PySem L2
/-! ### rows with the same untils, whose units are multiples -/
theorem ok_same {B B' : Int} (hB : B ≤ B') : ∀ {rs qs : List Rw} {l : Int}, Ok B l rs → qs.length = rs.length → (∀ (j : Nat) r q, rs[j]? = some r → qs[j]? = some q → q.u = r.u ∧ RwN B' q) → Ok B' l qs
  | [], _, _, h, _, _ => h.elim
  | r :: rs, [], _, _, h, _ => nomatch h
  | r :: rs, q :: qs, l, ⟨h1, h2, h3, h4⟩, hl, h => by
    obtain ⟨e, n⟩ := h 0 r q rfl rfl
    refine ⟨n, h2, by omega, ?_⟩
    have hl' : qs.length = rs.length := by simpa using hl
    show match q.u with | none => _ | some v => _
    rw [e]
    cases hu : r.u with
    | none =>
      rw [hu] at h4
      have h4 : rs = [] := h4
      subst h4
      exact List.length_eq_zero_iff.mp hl'
    | some v =>
      rw [hu] at h4
      exact ⟨h4.1, ok_same hB h4.2 hl' fun j r q h5 h6 => h (j + 1) r q h5 h6⟩
structure Coa (X : Int) (rs qs : List Rw) (n : Nat) : Prop where
  len : qs.length = n
  le : n ≤ rs.length
  at_ : ∀ (j : Nat) r q, rs[j]? = some r → qs[j]? = some q → q.u = r.u ∧ RwN X q ∧ q.w = r.w ∧ q.s = r.s ++ Txt.mul "x" ((j : Int) + 1)
theorem Coa.step {X : Int} {rs qs : List Rw} {n : Nat} {r q : Rw} (h : Coa X rs qs n) (hr : rs[n]? = some r) (h1 : q.u = r.u) (h2 : RwN X q) (h3 : q.w = r.w) (h4 : q.s = r.s ++ Txt.mul "x" ((n : Int) + 1)) : Coa X rs (qs ++ [q]) (n + 1) := @Rq9 _ _ (fun qz => @Hq9.get _ _ (qz.bar : Hq9 _ (by
  clear qz
  have hl := h.len
  refine ⟨by rw [List.length_append, hl]; rfl, ?_, fun j r' q' e1 e2 => ?_⟩
  · have := (List.getElem?_eq_some_iff.mp hr).1; omega
  · by_cases z : j < n
    · rw [List.getElem?_append_left (by omega)] at e2
      exact h.at_ j r' q' e1 e2
    · have : j = n := by
        have := (List.getElem?_eq_some_iff.mp e2).1
        rw [List.length_append, hl] at this
        have : j < n + 1 := this
        omega
      subst this
      rw [List.getElem?_append_right (by omega), hl, Nat.sub_self] at e2
      cases e2
      rw [hr] at e1
      cases e1
      exact ⟨h1, h2, h3, h4⟩))) Xq9.mk
theorem coa_nd : ∀ a ∈ stW, ∀ b ∈ stW, ∀ i, i < 6 → ∀ j, j < 6 → a ++ Txt.mul "x" (((i : Nat) : Int) + 1) = b ++ Txt.mul "x" (((j : Nat) : Int) + 1) → i = j := by decide +kernel
section
variable {X B : Int} {rs qs : List Rw}
theorem Coa.ok (h : Coa X rs qs rs.length) (hw : Ok B 0 rs) (hB : B ≤ X) : Ok X 0 qs := ok_same hB hw h.len fun j r q h1 h2 => ⟨(h.at_ j r q h1 h2).1, (h.at_ j r q h1 h2).2.1⟩
theorem Coa.get (h : Coa X rs qs rs.length) {j : Nat} {q : Rw} (e : qs[j]? = some q) : ∃ r, rs[j]? = some r ∧ j < rs.length ∧ q.s = r.s ++ Txt.mul "x" ((j : Int) + 1) := @Rq9 _ _ (fun qz => @Hq9.get _ _ (qz.bar : Hq9 _ (by
  clear qz
  have hj : j < rs.length := by have := (List.getElem?_eq_some_iff.mp e).1; rw [h.len] at this; exact this
  exact ⟨rs[j], List.getElem?_eq_getElem hj, hj, (h.at_ j _ q (List.getElem?_eq_getElem hj) e).2.2.2⟩))) Xq9.mk
theorem Coa.steady (h : Coa X rs qs rs.length) (hw : Ok B 0 rs) (hB : B ≤ X) (hl : rs.length ≤ 6) (hs : ∀ r ∈ rs, r.s ∈ stW) : Steady (lab qs) := @Rq9 _ _ (fun qz => @Hq9.get _ _ (qz.bar : Hq9 _ (by
  clear qz
  have hq := h.len
  refine steady_words (W := qs.map (·.s)) (fun i hi j hj e => ?_) (h.ok hw hB) fun i r hr => .inl (by rw [List.getElem?_map, hr]; rfl)
  rw [List.length_map] at hi hj
  rw [List.getElem?_map, List.getElem?_map, List.getElem?_eq_getElem hi, List.getElem?_eq_getElem hj] at e
  have e : qs[i].s = qs[j].s := Option.some.inj e
  obtain ⟨r, h1, h2, h3⟩ := h.get (List.getElem?_eq_getElem hi)
  obtain ⟨r', h1', h2', h3'⟩ := h.get (List.getElem?_eq_getElem hj)
  rw [h3, h3'] at e
  exact coa_nd _ (hs r (List.mem_of_getElem? h1)) _ (hs r' (List.mem_of_getElem? h1')) i (by omega) j (by omega) e))) Xq9.mk
end
/-! ### steps together -/
section
variable {L L' : Int → Lb} {w : Str} {st p o : Int} {e e' : Option Int}
end
end
section
open PySem L2
section
local macro_rules | `(tactic| walk_at "w") => `(tactic| repeat' first
  | fail "a1p"
  | fail "a3"
  | fail "a2")
local macro_rules | `(tactic| walk_at "s") => `(tactic| repeat' first
  | fail "a1p"
  | fail "a3"
  | fail "a2s")
end
section
variable {T : Tab} {P : Out → List Cell → Prop} {PX : Nat → List D → List Cell → Prop} {s : List Cell} {B X : Int} {rs : List Rw}
end
end
section
open PySem L2
/-- rows with the same untils and words -/
structure Coa3 (X : Int) (rs qs : List Rw) (n : Nat) : Prop where
  len : qs.length = n
  le : n ≤ rs.length
  at_ : ∀ (j : Nat) r q, rs[j]? = some r → qs[j]? = some q → q.u = r.u ∧ RwN X q ∧ q.s = r.s
theorem Coa3.step {X : Int} {rs qs : List Rw} {n : Nat} {r q : Rw} (h : Coa3 X rs qs n) (hr : rs[n]? = some r) (h1 : q.u = r.u) (h2 : RwN X q) (h4 : q.s = r.s) : Coa3 X rs (qs ++ [q]) (n + 1) := @Rq9 _ _ (fun qz => @Hq9.get _ _ (qz.bar : Hq9 _ (by
  clear qz
  have hl := h.len
  refine ⟨by rw [List.length_append, hl]; rfl, ?_, fun j r' q' e1 e2 => ?_⟩
  · have := (List.getElem?_eq_some_iff.mp hr).1; omega
  · by_cases z : j < n
    · rw [List.getElem?_append_left (by omega)] at e2
      exact h.at_ j r' q' e1 e2
    · have : j = n := by
        have := (List.getElem?_eq_some_iff.mp e2).1
        rw [List.length_append, hl] at this
        have : j < n + 1 := this
        omega
      subst this
      rw [List.getElem?_append_right (by omega), hl, Nat.sub_self] at e2
      cases e2
      rw [hr] at e1
      cases e1
      exact ⟨h1, h2, h4⟩))) Xq9.mk
theorem Coa3.ok {B X : Int} {rs qs : List Rw} (h : Coa3 X rs qs rs.length) (hw : Ok B 0 rs) (hB : B ≤ X) : Ok X 0 qs := ok_same hB hw h.len fun j r q h1 h2 => ⟨(h.at_ j r q h1 h2).1, (h.at_ j r q h1 h2).2.1⟩
section
local macro_rules | `(tactic| walk_at "w") => `(tactic| repeat' first
  | fail "a1p"
  | fail "a3"
  | fail "a2")
local macro_rules | `(tactic| walk_at "s") => `(tactic| repeat' first
  | fail "a1p"
  | fail "a3"
  | fail "a2s")
end
section
local macro_rules | `(tactic| walk_at "w") => `(tactic| repeat' first
  | (with_reducible refine' V_max1add ?s1 ?s2 ?_; (case s1 => with_unfolding_all exact rfl); (case s2 => omega))
  | fail "a1p"
  | fail "a3"
  | (with_reducible refine' C_llab ?s1 ?s2 ?s3 ?s4 ?_; (case s1 => with_unfolding_all exact rfl); (case s2 => assumption); (case s3 => omega); (case s4 => omega))
  | (with_reducible refine' C_neLb ?s1 ?s2 ?_; (case s1 => first | assumption | exact lab_ok _ (by assumption)); (case s2 => first | assumption | exact lab_ok _ (by assumption)))
  | (with_reducible refine' C_eqLb ?s1 ?s2 ?_; (case s1 => first | assumption | exact lab_ok _ (by assumption)); (case s2 => first | assumption | exact lab_ok _ (by assumption)))
  | fail "a2")
local macro_rules | `(tactic| walk_at "s") => `(tactic| repeat' first
  | (with_reducible refine' V_max1add ?s1 ?s2 ?_; (case s1 => with_unfolding_all exact rfl); (case s2 => omega))
  | fail "a1p"
  | fail "a3"
  | (with_reducible refine' C_llab ?s1 ?s2 ?s3 ?s4 ?_; (case s1 => with_unfolding_all exact rfl); (case s2 => assumption); (case s3 => omega); (case s4 => omega))
  | (with_reducible refine' C_neLb ?s1 ?s2 ?_; (case s1 => first | assumption | exact lab_ok _ (by assumption)); (case s2 => first | assumption | exact lab_ok _ (by assumption)))
  | (with_reducible refine' C_eqLb ?s1 ?s2 ?_; (case s1 => first | assumption | exact lab_ok _ (by assumption)); (case s2 => first | assumption | exact lab_ok _ (by assumption)))
  | fail "a2s")
end
section
variable {T : Tab} {P : Out → List Cell → Prop} {PX : Nat → List D → List Cell → Prop} {s : List Cell} {rs qs : List Rw} {X B : Int}
end
end
section
open PySem L2
section
variable {T : Tab} {fr : Fr} {P : RV → Fr → Prop} {PD : D → Fr → Prop} {PX : PXt} {K : SxP}
/-- try: what the body leaves, or what the clauses do with its exception -/
def SxP.tr (K : SxP) (T : Tab) (hs : List (Nat × Option Nat × Hst)) : SxP := { K with exc := fun c fs fr => (exh T hs c fs fr).all K }
end
section
local macro_rules | `(tactic| walk_at "w") => `(tactic| repeat' first
  | fail "a1p"
  | (with_reducible refine' C_count ?s1 ?s2 ?s3 ?s4 ?s5 ?_; (case s1 => with_unfolding_all exact rfl); (case s2 => omega); (case s3 => omega); (case s4 => omega); (case s5 => omega))
  | (with_reducible refine' C_offset ?s1 ?_; (case s1 => with_unfolding_all exact rfl))
  | (with_reducible refine' C_fwi ?s1 ?s2 ?_; (case s1 => with_unfolding_all exact rfl); (case s2 => omega))
  | (with_reducible refine' C_foc ?s1 ?s2 ?s3 ?s4 ?s5 ?_; (case s1 => with_unfolding_all exact rfl); (case s2 => omega); (case s3 => omega); (case s4 => omega); (case s5 => omega))
  | (with_reducible refine' C_check ?s1 ?s2 ?_; (case s1 => with_unfolding_all exact rfl); (case s2 => omega))
  | (with_reducible refine' At_uS ?s1 ?s2 ?_; (case s1 => with_unfolding_all exact rfl); (case s2 => assumption))
  | (with_reducible refine' At_uN ?s1 ?s2 ?_; (case s1 => with_unfolding_all exact rfl); (case s2 => assumption))
  | (with_reducible refine' At_kS ?s1 ?s2 ?_; (case s1 => with_unfolding_all exact rfl); (case s2 => assumption))
  | (with_reducible refine' At_kN ?s1 ?s2 ?_; (case s1 => with_unfolding_all exact rfl); (case s2 => assumption))
  | (with_reducible refine' At_u ?s1 ?_; (case s1 => with_unfolding_all exact rfl))
  | (with_reducible refine' At_w ?s1 ?_; (case s1 => with_unfolding_all exact rfl))
  | (with_reducible refine' At_s ?s1 ?_; (case s1 => with_unfolding_all exact rfl))
  | (with_reducible refine' At_rs ?s1 ?_; (case s1 => with_unfolding_all exact rfl))
  | (with_reducible refine' Mt_wg ?s1 ?s2 ?_; (case s1 => with_unfolding_all exact rfl); (case s2 => with_unfolding_all exact rfl))
  | (with_reducible refine' C_rlab ?s1 ?s2 ?s3 ?s4 ?_; (case s1 => with_unfolding_all exact rfl); (case s2 => assumption); (case s3 => omega); (case s4 => omega))
  | fail "a2")
local macro_rules | `(tactic| walk_at "s") => `(tactic| repeat' first
  | fail "a1p"
  | (with_reducible refine' C_count ?s1 ?s2 ?s3 ?s4 ?s5 ?_; (case s1 => with_unfolding_all exact rfl); (case s2 => omega); (case s3 => omega); (case s4 => omega); (case s5 => omega))
  | (with_reducible refine' C_offset ?s1 ?_; (case s1 => with_unfolding_all exact rfl))
  | (with_reducible refine' C_fwi ?s1 ?s2 ?_; (case s1 => with_unfolding_all exact rfl); (case s2 => omega))
  | (with_reducible refine' C_foc ?s1 ?s2 ?s3 ?s4 ?s5 ?_; (case s1 => with_unfolding_all exact rfl); (case s2 => omega); (case s3 => omega); (case s4 => omega); (case s5 => omega))
  | (with_reducible refine' C_check ?s1 ?s2 ?_; (case s1 => with_unfolding_all exact rfl); (case s2 => omega))
  | (with_reducible refine' At_uS ?s1 ?s2 ?_; (case s1 => with_unfolding_all exact rfl); (case s2 => assumption))
  | (with_reducible refine' At_uN ?s1 ?s2 ?_; (case s1 => with_unfolding_all exact rfl); (case s2 => assumption))
  | (with_reducible refine' At_kS ?s1 ?s2 ?_; (case s1 => with_unfolding_all exact rfl); (case s2 => assumption))
  | (with_reducible refine' At_kN ?s1 ?s2 ?_; (case s1 => with_unfolding_all exact rfl); (case s2 => assumption))
  | (with_reducible refine' At_u ?s1 ?_; (case s1 => with_unfolding_all exact rfl))
  | (with_reducible refine' At_w ?s1 ?_; (case s1 => with_unfolding_all exact rfl))
  | (with_reducible refine' At_s ?s1 ?_; (case s1 => with_unfolding_all exact rfl))
  | (with_reducible refine' At_rs ?s1 ?_; (case s1 => with_unfolding_all exact rfl))
  | (with_reducible refine' Mt_wg ?s1 ?s2 ?_; (case s1 => with_unfolding_all exact rfl); (case s2 => with_unfolding_all exact rfl))
  | (with_reducible refine' C_rlab ?s1 ?s2 ?s3 ?s4 ?_; (case s1 => with_unfolding_all exact rfl); (case s2 => assumption); (case s3 => omega); (case s4 => omega))
  | fail "a2s")
end
section
variable {T : Tab} {P : Out → List Cell → Prop} {PX : Nat → List D → List Cell → Prop} {s : List Cell} {rs qs : List Rw} {a : Int}
end
section
local macro_rules | `(tactic| walk_at "w") => `(tactic| repeat' first
  | fail "a1p"
  | (with_reducible refine' C_count ?s1 ?s2 ?s3 ?s4 ?s5 ?_; (case s1 => with_unfolding_all exact rfl); (case s2 => omega); (case s3 => omega); (case s4 => omega); (case s5 => omega))
  | (with_reducible refine' C_offset ?s1 ?_; (case s1 => with_unfolding_all exact rfl))
  | (with_reducible refine' C_fwi ?s1 ?s2 ?_; (case s1 => with_unfolding_all exact rfl); (case s2 => omega))
  | (with_reducible refine' C_foc ?s1 ?s2 ?s3 ?s4 ?s5 ?_; (case s1 => with_unfolding_all exact rfl); (case s2 => omega); (case s3 => omega); (case s4 => omega); (case s5 => omega))
  | (with_reducible refine' C_check ?s1 ?s2 ?_; (case s1 => with_unfolding_all exact rfl); (case s2 => omega))
  | (with_reducible refine' At_uS ?s1 ?s2 ?_; (case s1 => with_unfolding_all exact rfl); (case s2 => assumption))
  | (with_reducible refine' At_uN ?s1 ?s2 ?_; (case s1 => with_unfolding_all exact rfl); (case s2 => assumption))
  | (with_reducible refine' At_kS ?s1 ?s2 ?_; (case s1 => with_unfolding_all exact rfl); (case s2 => assumption))
  | (with_reducible refine' At_kN ?s1 ?s2 ?_; (case s1 => with_unfolding_all exact rfl); (case s2 => assumption))
  | (with_reducible refine' At_u ?s1 ?_; (case s1 => with_unfolding_all exact rfl))
  | (with_reducible refine' At_w ?s1 ?_; (case s1 => with_unfolding_all exact rfl))
  | (with_reducible refine' At_s ?s1 ?_; (case s1 => with_unfolding_all exact rfl))
  | (with_reducible refine' At_rs ?s1 ?_; (case s1 => with_unfolding_all exact rfl))
  | (with_reducible refine' Mt_wg ?s1 ?s2 ?_; (case s1 => with_unfolding_all exact rfl); (case s2 => with_unfolding_all exact rfl))
  | (with_reducible refine' C_rlab ?s1 ?s2 ?s3 ?s4 ?_; (case s1 => with_unfolding_all exact rfl); (case s2 => assumption); (case s3 => omega); (case s4 => omega))
  | fail "a2")
local macro_rules | `(tactic| walk_at "s") => `(tactic| repeat' first
  | fail "a1p"
  | (with_reducible refine' C_count ?s1 ?s2 ?s3 ?s4 ?s5 ?_; (case s1 => with_unfolding_all exact rfl); (case s2 => omega); (case s3 => omega); (case s4 => omega); (case s5 => omega))
  | (with_reducible refine' C_offset ?s1 ?_; (case s1 => with_unfolding_all exact rfl))
  | (with_reducible refine' C_fwi ?s1 ?s2 ?_; (case s1 => with_unfolding_all exact rfl); (case s2 => omega))
  | (with_reducible refine' C_foc ?s1 ?s2 ?s3 ?s4 ?s5 ?_; (case s1 => with_unfolding_all exact rfl); (case s2 => omega); (case s3 => omega); (case s4 => omega); (case s5 => omega))
  | (with_reducible refine' C_check ?s1 ?s2 ?_; (case s1 => with_unfolding_all exact rfl); (case s2 => omega))
  | (with_reducible refine' At_uS ?s1 ?s2 ?_; (case s1 => with_unfolding_all exact rfl); (case s2 => assumption))
  | (with_reducible refine' At_uN ?s1 ?s2 ?_; (case s1 => with_unfolding_all exact rfl); (case s2 => assumption))
  | (with_reducible refine' At_kS ?s1 ?s2 ?_; (case s1 => with_unfolding_all exact rfl); (case s2 => assumption))
  | (with_reducible refine' At_kN ?s1 ?s2 ?_; (case s1 => with_unfolding_all exact rfl); (case s2 => assumption))
  | (with_reducible refine' At_u ?s1 ?_; (case s1 => with_unfolding_all exact rfl))
  | (with_reducible refine' At_w ?s1 ?_; (case s1 => with_unfolding_all exact rfl))
  | (with_reducible refine' At_s ?s1 ?_; (case s1 => with_unfolding_all exact rfl))
  | (with_reducible refine' At_rs ?s1 ?_; (case s1 => with_unfolding_all exact rfl))
  | (with_reducible refine' Mt_wg ?s1 ?s2 ?_; (case s1 => with_unfolding_all exact rfl); (case s2 => with_unfolding_all exact rfl))
  | (with_reducible refine' C_rlab ?s1 ?s2 ?s3 ?s4 ?_; (case s1 => with_unfolding_all exact rfl); (case s2 => assumption); (case s3 => omega); (case s4 => omega))
  | fail "a2s")
end
section
variable {T : Tab} {P : Out → List Cell → Prop} {PX : Nat → List D → List Cell → Prop} {s : List Cell} {rs qs : List Rw} {a : Int}
end
section
local macro_rules | `(tactic| walk_at "w") => `(tactic| repeat' first
  | fail "a1p"
  | (with_reducible refine' C_count ?s1 ?s2 ?s3 ?s4 ?s5 ?_; (case s1 => with_unfolding_all exact rfl); (case s2 => omega); (case s3 => omega); (case s4 => omega); (case s5 => omega))
  | (with_reducible refine' C_offset ?s1 ?_; (case s1 => with_unfolding_all exact rfl))
  | (with_reducible refine' C_fwi ?s1 ?s2 ?_; (case s1 => with_unfolding_all exact rfl); (case s2 => omega))
  | (with_reducible refine' C_foc ?s1 ?s2 ?s3 ?s4 ?s5 ?_; (case s1 => with_unfolding_all exact rfl); (case s2 => omega); (case s3 => omega); (case s4 => omega); (case s5 => omega))
  | (with_reducible refine' C_check ?s1 ?s2 ?_; (case s1 => with_unfolding_all exact rfl); (case s2 => omega))
  | (with_reducible refine' At_uS ?s1 ?s2 ?_; (case s1 => with_unfolding_all exact rfl); (case s2 => assumption))
  | (with_reducible refine' At_uN ?s1 ?s2 ?_; (case s1 => with_unfolding_all exact rfl); (case s2 => assumption))
  | (with_reducible refine' At_kS ?s1 ?s2 ?_; (case s1 => with_unfolding_all exact rfl); (case s2 => assumption))
  | (with_reducible refine' At_kN ?s1 ?s2 ?_; (case s1 => with_unfolding_all exact rfl); (case s2 => assumption))
  | (with_reducible refine' At_u ?s1 ?_; (case s1 => with_unfolding_all exact rfl))
  | (with_reducible refine' At_w ?s1 ?_; (case s1 => with_unfolding_all exact rfl))
  | (with_reducible refine' At_s ?s1 ?_; (case s1 => with_unfolding_all exact rfl))
  | (with_reducible refine' At_rs ?s1 ?_; (case s1 => with_unfolding_all exact rfl))
  | (with_reducible refine' Mt_wg ?s1 ?s2 ?_; (case s1 => with_unfolding_all exact rfl); (case s2 => with_unfolding_all exact rfl))
  | (with_reducible refine' C_rlab ?s1 ?s2 ?s3 ?s4 ?_; (case s1 => with_unfolding_all exact rfl); (case s2 => assumption); (case s3 => omega); (case s4 => omega))
  | fail "a2")
local macro_rules | `(tactic| walk_at "s") => `(tactic| repeat' first
  | fail "a1p"
  | (with_reducible refine' C_count ?s1 ?s2 ?s3 ?s4 ?s5 ?_; (case s1 => with_unfolding_all exact rfl); (case s2 => omega); (case s3 => omega); (case s4 => omega); (case s5 => omega))
  | (with_reducible refine' C_offset ?s1 ?_; (case s1 => with_unfolding_all exact rfl))
  | (with_reducible refine' C_fwi ?s1 ?s2 ?_; (case s1 => with_unfolding_all exact rfl); (case s2 => omega))
  | (with_reducible refine' C_foc ?s1 ?s2 ?s3 ?s4 ?s5 ?_; (case s1 => with_unfolding_all exact rfl); (case s2 => omega); (case s3 => omega); (case s4 => omega); (case s5 => omega))
  | (with_reducible refine' C_check ?s1 ?s2 ?_; (case s1 => with_unfolding_all exact rfl); (case s2 => omega))
  | (with_reducible refine' At_uS ?s1 ?s2 ?_; (case s1 => with_unfolding_all exact rfl); (case s2 => assumption))
  | (with_reducible refine' At_uN ?s1 ?s2 ?_; (case s1 => with_unfolding_all exact rfl); (case s2 => assumption))
  | (with_reducible refine' At_kS ?s1 ?s2 ?_; (case s1 => with_unfolding_all exact rfl); (case s2 => assumption))
  | (with_reducible refine' At_kN ?s1 ?s2 ?_; (case s1 => with_unfolding_all exact rfl); (case s2 => assumption))
  | (with_reducible refine' At_u ?s1 ?_; (case s1 => with_unfolding_all exact rfl))
  | (with_reducible refine' At_w ?s1 ?_; (case s1 => with_unfolding_all exact rfl))
  | (with_reducible refine' At_s ?s1 ?_; (case s1 => with_unfolding_all exact rfl))
  | (with_reducible refine' At_rs ?s1 ?_; (case s1 => with_unfolding_all exact rfl))
  | (with_reducible refine' Mt_wg ?s1 ?s2 ?_; (case s1 => with_unfolding_all exact rfl); (case s2 => with_unfolding_all exact rfl))
  | (with_reducible refine' C_rlab ?s1 ?s2 ?s3 ?s4 ?_; (case s1 => with_unfolding_all exact rfl); (case s2 => assumption); (case s3 => omega); (case s4 => omega))
  | fail "a2s")
end
section
variable {T : Tab} {P : Out → List Cell → Prop} {PX : Nat → List D → List Cell → Prop} {s : List Cell} {rs qs : List Rw} {a : Int}
end
end
section
open PySem L2
/-! ### rules: [..].index(a), list(range(a, b)), f-strings -/
section
variable {T : Tab} {fr : Fr} {P : RV → Fr → Prop} {PD : D → Fr → Prop} {PX : PXt} {K : SxP} {a b o : Tm} {ts : List Tm}
end
end
section
open PySem L2
section
variable {T : Tab} {P : Out → List Cell → Prop} {PX : Nat → List D → List Cell → Prop} {s sto : List Cell} {ps : List O2} {e : Int}
local macro_rules | `(tactic| walk_at "w") => `(tactic| repeat' first
  | fail "a1p"
  | fail "a3"
  | (with_reducible refine' C_glow ?s1 ?_; (case s1 => with_unfolding_all exact rfl))
  | (with_reducible refine' C_lhigh ?s1 ?_; (case s1 => with_unfolding_all exact rfl))
  | fail "a2")
local macro_rules | `(tactic| walk_at "s") => `(tactic| repeat' first
  | fail "a1p"
  | fail "a3"
  | (with_reducible refine' C_glow ?s1 ?_; (case s1 => with_unfolding_all exact rfl))
  | (with_reducible refine' C_lhigh ?s1 ?_; (case s1 => with_unfolding_all exact rfl))
  | fail "a2s")
end
section
variable {T : Tab} {P : Out → List Cell → Prop} {PX : Nat → List D → List Cell → Prop} {s sto : List Cell} {rs : List Rw} {sn : List Lk2}
local macro_rules | `(tactic| walk_at "w") => `(tactic| repeat' first
  | fail "a1p"
  | fail "a3"
  | (with_reducible refine' Ix_id ?s1 ?_; (case s1 => with_unfolding_all exact rfl))
  | (with_reducible refine' Il_id ?s1 ?s2 ?_; (case s1 => with_unfolding_all exact rfl); (case s2 => assumption))
  | (with_reducible refine' V_pop ?s1 ?s2 ?_; (case s1 => with_unfolding_all exact rfl); (case s2 => assumption))
  | (with_reducible refine C_isO ?_)
  | (with_reducible refine C_isnO ?_)
  | (with_reducible refine Of_id ?_)
  | fail "a2")
local macro_rules | `(tactic| walk_at "s") => `(tactic| repeat' first
  | fail "a1p"
  | fail "a3"
  | (with_reducible refine' Ix_id ?s1 ?_; (case s1 => with_unfolding_all exact rfl))
  | (with_reducible refine' Il_id ?s1 ?s2 ?_; (case s1 => with_unfolding_all exact rfl); (case s2 => assumption))
  | (with_reducible refine' V_pop ?s1 ?s2 ?_; (case s1 => with_unfolding_all exact rfl); (case s2 => assumption))
  | (with_reducible refine C_isO ?_)
  | (with_reducible refine C_isnO ?_)
  | (with_reducible refine Of_id ?_)
  | fail "a2s")
end
section
variable {T : Tab} {P : Out → List Cell → Prop} {PX : Nat → List D → List Cell → Prop} {s sto : List Cell} {rs : List Rw} {sn : List Lk2}
local macro_rules | `(tactic| walk_at "w") => `(tactic| repeat' first
  | fail "a1p"
  | fail "a3"
  | fail "a2")
local macro_rules | `(tactic| walk_at "s") => `(tactic| repeat' first
  | fail "a1p"
  | fail "a3"
  | fail "a2s")
end
end
section
open PySem L2
section
variable {T : Tab} {P : Out → List Cell → Prop} {PX : Nat → List D → List Cell → Prop} {s sto : List Cell} {rs : List Rw} {q : Lk2} {i : Int}
local macro_rules | `(tactic| walk_at "w") => `(tactic| repeat' first
  | fail "a1p"
  | (with_reducible refine' C_count ?s1 ?s2 ?s3 ?s4 ?s5 ?_; (case s1 => with_unfolding_all exact rfl); (case s2 => omega); (case s3 => omega); (case s4 => omega); (case s5 => omega))
  | (with_reducible refine' C_offset ?s1 ?_; (case s1 => with_unfolding_all exact rfl))
  | (with_reducible refine' C_fwi ?s1 ?s2 ?_; (case s1 => with_unfolding_all exact rfl); (case s2 => omega))
  | (with_reducible refine' C_foc ?s1 ?s2 ?s3 ?s4 ?s5 ?_; (case s1 => with_unfolding_all exact rfl); (case s2 => omega); (case s3 => omega); (case s4 => omega); (case s5 => omega))
  | (with_reducible refine' C_check ?s1 ?s2 ?_; (case s1 => with_unfolding_all exact rfl); (case s2 => omega))
  | (with_reducible refine' At_uS ?s1 ?s2 ?_; (case s1 => with_unfolding_all exact rfl); (case s2 => assumption))
  | (with_reducible refine' At_uN ?s1 ?s2 ?_; (case s1 => with_unfolding_all exact rfl); (case s2 => assumption))
  | (with_reducible refine' At_kS ?s1 ?s2 ?_; (case s1 => with_unfolding_all exact rfl); (case s2 => assumption))
  | (with_reducible refine' At_kN ?s1 ?s2 ?_; (case s1 => with_unfolding_all exact rfl); (case s2 => assumption))
  | (with_reducible refine' At_u ?s1 ?_; (case s1 => with_unfolding_all exact rfl))
  | (with_reducible refine' At_w ?s1 ?_; (case s1 => with_unfolding_all exact rfl))
  | (with_reducible refine' At_s ?s1 ?_; (case s1 => with_unfolding_all exact rfl))
  | (with_reducible refine' At_rs ?s1 ?_; (case s1 => with_unfolding_all exact rfl))
  | (with_reducible refine' Mt_wg ?s1 ?s2 ?_; (case s1 => with_unfolding_all exact rfl); (case s2 => with_unfolding_all exact rfl))
  | (with_reducible refine' C_rlab ?s1 ?s2 ?s3 ?s4 ?_; (case s1 => with_unfolding_all exact rfl); (case s2 => assumption); (case s3 => omega); (case s4 => omega))
  | fail "a3"
  | (with_reducible refine C_isLb ?_)
  | (with_reducible refine Ix_hd ?_)
  | (with_reducible refine' Ix_id ?s1 ?_; (case s1 => with_unfolding_all exact rfl))
  | fail "a2")
local macro_rules | `(tactic| walk_at "s") => `(tactic| repeat' first
  | fail "a1p"
  | (with_reducible refine' C_count ?s1 ?s2 ?s3 ?s4 ?s5 ?_; (case s1 => with_unfolding_all exact rfl); (case s2 => omega); (case s3 => omega); (case s4 => omega); (case s5 => omega))
  | (with_reducible refine' C_offset ?s1 ?_; (case s1 => with_unfolding_all exact rfl))
  | (with_reducible refine' C_fwi ?s1 ?s2 ?_; (case s1 => with_unfolding_all exact rfl); (case s2 => omega))
  | (with_reducible refine' C_foc ?s1 ?s2 ?s3 ?s4 ?s5 ?_; (case s1 => with_unfolding_all exact rfl); (case s2 => omega); (case s3 => omega); (case s4 => omega); (case s5 => omega))
  | (with_reducible refine' C_check ?s1 ?s2 ?_; (case s1 => with_unfolding_all exact rfl); (case s2 => omega))
  | (with_reducible refine' At_uS ?s1 ?s2 ?_; (case s1 => with_unfolding_all exact rfl); (case s2 => assumption))
  | (with_reducible refine' At_uN ?s1 ?s2 ?_; (case s1 => with_unfolding_all exact rfl); (case s2 => assumption))
  | (with_reducible refine' At_kS ?s1 ?s2 ?_; (case s1 => with_unfolding_all exact rfl); (case s2 => assumption))
  | (with_reducible refine' At_kN ?s1 ?s2 ?_; (case s1 => with_unfolding_all exact rfl); (case s2 => assumption))
  | (with_reducible refine' At_u ?s1 ?_; (case s1 => with_unfolding_all exact rfl))
  | (with_reducible refine' At_w ?s1 ?_; (case s1 => with_unfolding_all exact rfl))
  | (with_reducible refine' At_s ?s1 ?_; (case s1 => with_unfolding_all exact rfl))
  | (with_reducible refine' At_rs ?s1 ?_; (case s1 => with_unfolding_all exact rfl))
  | (with_reducible refine' Mt_wg ?s1 ?s2 ?_; (case s1 => with_unfolding_all exact rfl); (case s2 => with_unfolding_all exact rfl))
  | (with_reducible refine' C_rlab ?s1 ?s2 ?s3 ?s4 ?_; (case s1 => with_unfolding_all exact rfl); (case s2 => assumption); (case s3 => omega); (case s4 => omega))
  | fail "a3"
  | (with_reducible refine C_isLb ?_)
  | (with_reducible refine Ix_hd ?_)
  | (with_reducible refine' Ix_id ?s1 ?_; (case s1 => with_unfolding_all exact rfl))
  | fail "a2s")
end
section
variable {T : Tab} {P : Out → List Cell → Prop} {PX : Nat → List D → List Cell → Prop} {s sto : List Cell} {rs : List Rw} {sn : List Lk2} {st a b : Int}
local macro_rules | `(tactic| walk_at "w") => `(tactic| repeat' first
  | fail "a1p"
  | fail "a3"
  | fail "a2")
local macro_rules | `(tactic| walk_at "s") => `(tactic| repeat' first
  | fail "a1p"
  | fail "a3"
  | fail "a2s")
end
/-- pairs of ints -/
def phD (p : Int × Int) : D := .tup [.int p.1, .int p.2]
section
variable {T : Tab} {P : Out → List Cell → Prop} {PX : Nat → List D → List Cell → Prop} {s sto : List Cell} {rs : List Rw} {sn : List Lk2} {st a b : Int} {ta : Tm} {fr : Fr} {PD : D → Fr → Prop} {PR : RV → Fr → Prop}
local macro_rules | `(tactic| walk_at "w") => `(tactic| repeat' first
  | (with_reducible refine D_sset ?_)
  | fail "a1p"
  | fail "a3"
  | fail "a2")
local macro_rules | `(tactic| walk_at "s") => `(tactic| repeat' first
  | (with_reducible refine D_sset ?_)
  | fail "a1p"
  | fail "a3"
  | fail "a2s")
end
end
section
open PySem L2
def pcD (x : (Int × Int) × O2) : D := .tup [phD x.1, oo x.2]
section
variable {T : Tab} {P : Out → List Cell → Prop} {PX : Nat → List D → List Cell → Prop} {s sto : List Cell} {rs : List Rw} {sn : List Lk2} {st a b : Int}
local macro_rules | `(tactic| walk_at "w") => `(tactic| repeat' first
  | fail "a1p"
  | fail "a3"
  | fail "a2")
local macro_rules | `(tactic| walk_at "s") => `(tactic| repeat' first
  | fail "a1p"
  | fail "a3"
  | fail "a2s")
end
/-! ### k62: the law's own copies, what it reads of pieces -/
section
variable {T : Tab} {P : Out → List Cell → Prop} {PX : Nat → List D → List Cell → Prop} {s sto : List Cell} {rs : List Rw} {sn : List Lk2} {st a b B m p : Int} {ws : List Str} {xs : List D} {L : List ((Int × Int) × O2)}
local macro_rules | `(tactic| walk_at "w") => `(tactic| repeat' first
  | (with_reducible refine X_retV (V_bi (AP_cons (A_compM (α := Option Int) (AI_seq ?_)))))
  | fail "a1p"
  | fail "a3"
  | fail "a2")
local macro_rules | `(tactic| walk_at "s") => `(tactic| repeat' first
  | (with_reducible refine X_retV (V_bi (AP_cons (A_compM (α := Option Int) (AI_seq ?_)))))
  | fail "a1p"
  | fail "a3"
  | fail "a2s")
end
section
variable {T : Tab} {P : Out → List Cell → Prop} {PX : Nat → List D → List Cell → Prop} {s sto : List Cell} {rs : List Rw} {sn : List Lk2} {x y : Option O2}
local macro_rules | `(tactic| walk_at "w") => `(tactic| repeat' first
  | fail "a1p"
  | fail "a3"
  | fail "a2")
local macro_rules | `(tactic| walk_at "s") => `(tactic| repeat' first
  | fail "a1p"
  | fail "a3"
  | fail "a2s")
local macro_rules | `(tactic| walk_at "w") => `(tactic| repeat' first
  | fail "a1p"
  | fail "a3"
  | (with_reducible refine C_isClash0 ?_)
  | (with_reducible refine C_isClash1 ?_)
  | fail "a2")
local macro_rules | `(tactic| walk_at "s") => `(tactic| repeat' first
  | fail "a1p"
  | fail "a3"
  | (with_reducible refine C_isClash0 ?_)
  | (with_reducible refine C_isClash1 ?_)
  | fail "a2s")
end
end
section
open PySem L2
/-! ### events_of -/
theorem oo_pairs (l : List O2) : (l.map oo).all pairOk = true := @Rq9 _ _ (fun qz => @Hq9.get _ _ (qz.bar : Hq9 _ (by
  clear qz
  rw [List.all_eq_true]
  intro d hd
  obtain ⟨⟨a, b⟩, _, rfl⟩ := List.mem_map.mp hd
  cases a <;> cases b <;> rfl))) Xq9.mk
theorem sort_oo (l : List O2) : sortBI (l.map oo) (l.map keyO) = (sortO l).map oo := @Rq9 _ _ (fun qz => @Hq9.get _ _ (qz.bar : Hq9 _ (by
  clear qz
  unfold sortBI sortO
  have e : (l.map oo).zip (l.map keyO) = l.map fun o => (oo o, keyO o) := by rw [List.zip_map']
  rw [e, ← PySem.W.sort_maps (r := fun p q : O2 => leBI (keyO p) (keyO q)) (s := fun p q : D × (Bool × Int) => leBI p.2 q.2) (fun o => (oo o, keyO o)) (fun _ _ _ _ => rfl), List.map_map]; rfl))) Xq9.mk
section
variable {T : Tab} {fr : Fr} {P : RV → Fr → Prop} {PX : PXt} {K : SxP} {a : Tm}
theorem A_srk {f : Nat} (h : AD T a fr (fun d fr1 => ∃ xs ks, d = .lst xs ∧ xs.all pairOk = true ∧ keysBI (T.phi f) xs = some ks ∧ P (.out (.fresh (sortBI xs ks))) fr1) PX) : A T (.srk f a) fr P PX := @Rq9 _ _ (fun qz => @Hq9.get _ _ (qz.bar : Hq9 _ (by
  clear qz
  unfold A ev
  refine all_fr (Rs.all_imp h (fun d fr1 h => ?_) fun _ _ _ z => z)
  obtain ⟨xs, ks, rfl, h1, h2, h3⟩ := h
  show ((if xs.all pairOk then match keysBI (T.phi f) xs with
    | some ks => .ok (.out (.fresh (sortBI xs ks))) fr1
    | none => .bad else .bad) : Rs RV).all P PX
  rw [if_pos h1, h2]; exact h3))) Xq9.mk
end
theorem C_neOs {acc : List O2} {P : Bool → Prop} (h : acc ≠ []) (k : P true) : ∃ b, cmpD .ne (.lst (acc.map oo)) (.lst []) = some b ∧ P b := ⟨true, by
  show (eqD (.lst (acc.map oo)) (.lst [])).map (!·) = _
  rw [show eqD (.lst (acc.map oo)) (.lst []) = some (decide (acc = [])) from (En2.lst eOO).eq (a := acc) (b := []) (by decide) (fun _ _ => ⟨trivial, trivial⟩) (fun _ _ => ⟨trivial, trivial⟩) rfl, decide_eq_false h]; rfl, k⟩
section
variable {T : Tab} {P : Out → List Cell → Prop} {PX : Nat → List D → List Cell → Prop} {s sto : List Cell} {p q : O2}
theorem oo_un2 (a b : Option Int) : oo (a, b) = .tup [optD a, optD b] := rfl
local macro_rules | `(tactic| walk_at "w") => `(tactic| repeat' first
  | fail "a1p"
  | fail "a3"
  | fail "a2")
theorem low_first_is : p_low_first [oo p] sto = .ret (.val (.tup [.bl (keyO p).1, .int (keyO p).2])) sto := @Rq9 _ _ (fun qz => @Hq9.get _ _ (qz.bar : Hq9 _ (by
  clear qz
  obtain ⟨a, b⟩ := p
  refine fx_eq (fx_allK rfl (env := [.val (oo (a, b))]) rfl fun K hret _ _ => ?_)
  have hr := fun fr z => hret _ fr ⟨rfl, z⟩
  clear hret
  unfold b_low_first
  rw [oo_un2]
  cases a with
  | none => walk_at "w"; exact hr _ rfl
  | some a => walk_at "w"; exact hr _ rfl))) Xq9.mk
theorem low_key (o : O2) : keyBI (p_low_first [oo o] []) = some (keyO o) := by
  rw [low_first_is]; rfl
theorem low_keys : ∀ l : List O2, keysBI p_low_first (l.map oo) = some (l.map keyO)
  | [] => rfl
  | o :: l => by
    show (match keyBI (p_low_first [oo o] []), keysBI p_low_first (l.map oo) with | some k, some ks => some (k :: ks) | _, _ => none) = _
    rw [low_key, low_keys l]; rfl
theorem touches_is : p_touches [oo p, oo q] sto = .ret (.val (.bl (tchB p q))) sto := @Rq9 _ _ (fun qz => @Hq9.get _ _ (qz.bar : Hq9 _ (by
  clear qz
  obtain ⟨a, b⟩ := p
  obtain ⟨c, d⟩ := q
  refine fx_eq (fx_allK rfl (env := [.val (oo (a, b)), .val (oo (c, d))]) rfl fun K hret _ _ => ?_)
  have hr := fun fr z => hret _ fr ⟨rfl, z⟩
  clear hret
  unfold b_touches
  rw [oo_un2, oo_un2]
  unfold tchB at hr
  cases b with
  | none => cases c <;> walk_at "w" <;> exact hr _ rfl
  | some b => cases c with
    | none => walk_at "w"; exact hr _ rfl
    | some c => walk_at "w"; exact hr _ rfl))) Xq9.mk
theorem joined_is : p_joined_stretch [oo p, oo q] sto = .ret (.val (oo (jnO p q))) sto := @Rq9 _ _ (fun qz => @Hq9.get _ _ (qz.bar : Hq9 _ (by
  clear qz
  obtain ⟨a, b⟩ := p
  obtain ⟨c, d⟩ := q
  refine fx_eq (fx_allK rfl (env := [.val (oo (a, b)), .val (oo (c, d))]) rfl fun K hret _ _ => ?_)
  have hr := fun fr z => hret _ fr ⟨rfl, z⟩
  clear hret
  unfold b_joined_stretch
  rw [oo_un2, oo_un2]
  unfold jnO at hr
  cases b with
  | none => cases d with
    | none => walk_at "w"; exact hr _ rfl
    | some d => walk_at "w"; exact hr _ rfl
  | some b => cases d with
    | none => walk_at "w"; exact hr _ rfl
    | some d => walk_at "w"; exact hr _ rfl))) Xq9.mk
theorem C_touches (hT : T.phi 99 = p_touches) (k : P (.val (.bl (tchB p q))) s) : (T.phi 99 [oo p, oo q] s).all P PX := by
  rw [hT]; exact all_of_eq touches_is k
theorem C_joined (hT : T.phi 100 = p_joined_stretch) (k : P (.val (oo (jnO p q))) s) : (T.phi 100 [oo p, oo q] s).all P PX := by
  rw [hT]; exact all_of_eq joined_is k
end
section
variable {T : Tab} {P : Out → List Cell → Prop} {PX : Nat → List D → List Cell → Prop} {s sto : List Cell} {L : List ((Int × Int) × O2)} {d : D}
local macro_rules | `(tactic| walk_at "w") => `(tactic| repeat' first
  | fail "a1p"
  | fail "a3"
  | (with_reducible refine' C_neOs ?s1 ?_; (case s1 => assumption))
  | fail "a2")
local macro_rules | `(tactic| walk_at "s") => `(tactic| repeat' first
  | fail "a1p"
  | fail "a3"
  | (with_reducible refine' C_neOs ?s1 ?_; (case s1 => assumption))
  | fail "a2s")
theorem events_of_is (hd : d = .tup (L.map pcD) ∨ d = .lst (L.map pcD)) (hl : L.length ≤ 10000) : p_events_of [d] sto = .ret (.val (.tup ((evsO L).map oo))) sto := @Rq9 _ _ (fun qz => @Hq9.get _ _ (qz.bar : Hq9 _ (by
  clear qz
  refine fx_eq (fx_allK rfl (env := [.val d, .un, .un, .un, .un, .un, .un, .un]) rfl fun K hret _ _ => ?_)
  have hr := fun fr z => hret _ fr ⟨rfl, z⟩
  clear hret
  have hsq : seqOf d = some (L.map pcD) := by rcases hd with rfl | rfl <;> rfl
  unfold b_events_of
  walk_at "s"
  with_reducible refine N_thn ?_
  with_reducible refine XS_cons ?_
  refine X_forLK (α := (Int × Int) × O2) (AI_seq (AD_V (V_slot rfl ⟨_, hsq, pcD, L, fun l fr => ∃ acc s2 s3 s4 s5, acc ++ l.map evS = L.map evS ∧ fr = ⟨[.val d, .own (acc.map oo), s2, s3, s4, s5, .un, .un], sto⟩, rfl, ⟨[], _, _, _, _, rfl, rfl⟩, ?_, ?_⟩)))
  · rintro ⟨⟨a, b⟩, c, e⟩ l fr ⟨acc, s2, s3, s4, s5, h1, rfl⟩
    refine ⟨_, rfl, fun K' kp => ?_⟩
    have nx := kp.next ⟨[.val d, .own (acc.map oo ++ [oo (evS ((a, b), (c, e)))]), .val (.int a), .val (.int b), .val (optD c), .val (optD e), .un, .un], sto⟩ ⟨acc ++ [evS ((a, b), (c, e))], _, _, _, _, by rw [List.append_assoc]; exact h1, by rw [List.map_append]; rfl⟩
    have hsz : (acc.map oo).length < 16777216 := by
      have := congrArg List.length h1
      rw [List.length_append, List.length_map, List.length_map] at this
      rw [List.length_map]; omega
    clear kp hr hsq h1
    rw [show oo (evS ((a, b), (c, e))) = .tup [optD (c.map (a + ·)), optD (e.map (b + ·))] from rfl] at nx
    generalize acc.map oo = A at *
    cases c <;> cases e
    all_goals
      walk_at "s"
      with_reducible refine N_thn (XS_nil ?_)
      exact nx
  · rintro fr ⟨acc, s2, s3, s4, s5, h1, rfl⟩
    rw [List.map_nil, List.append_nil] at h1
    subst h1
    with_reducible refine N_thn ?_
    walk_at "s"
    with_reducible refine N_thn ?_
    with_reducible refine XS_cons ?_
    have hF : (sortO (L.map evS)).foldl mrg [] = evsO L := rfl
    have hsl : (sortO (L.map evS)).length ≤ 10000 := by
      rw [(sortO_perm _).length_eq, List.length_map]; exact hl
    refine X_forLK (α := O2) (AI_seqF (A_srk (D_own (by with_unfolding_all exact rfl) ⟨_, _, rfl, oo_pairs _, low_keys _, _, rfl, ?_⟩)))
    rw [sort_oo]
    generalize sortO (L.map evS) = S at hF hsl
    refine ⟨oo, S, fun l fr => ∃ acc s7, l.foldl mrg acc = evsO L ∧ acc.length + l.length ≤ 10000 ∧ fr = ⟨[.val d, .val (.lst ((L.map evS).map oo)), s2, s3, s4, s5, .own (acc.map oo), s7], sto⟩, rfl, ⟨[], _, hF, by simpa using hsl, rfl⟩, ?_, ?_⟩
    · rintro o l fr ⟨acc, s7, h1, h2, rfl⟩
      refine ⟨_, rfl, fun K' kp => ?_⟩
      have nx := fun (acc2 : List O2) (h : acc2 = mrg acc o) (hq : acc2.length ≤ acc.length + 1) s7 => kp.next ⟨[.val d, .val (.lst ((L.map evS).map oo)), s2, s3, s4, s5, .own (acc2.map oo), s7], sto⟩ ⟨acc2, _, by rw [h]; exact h1, by rw [List.length_cons] at h2; omega, rfl⟩
      clear kp hr hsq h1 hF hsl
      rcases List.eq_nil_or_concat acc with rfl | ⟨acc0, z, rfl⟩
      · have nx := nx [o] rfl (by simp)
        rw [show ([] : List O2).map oo = [] from rfl, show [o].map oo = [oo o] from rfl] at *
        generalize oo o = x at *
        generalize D.lst ((L.map evS).map oo) = y at *
        walk_at "s"
        refine ⟨false, rfl, ?_⟩
        walk_at "s"
        with_reducible refine N_thn ?_
        walk_at "s"
        with_reducible refine N_thn (XS_nil ?_)
        exact nx _
      · rw [List.concat_eq_append] at *
        have hne : acc0 ++ [z] ≠ [] := by simp
        have hlast : ((acc0 ++ [z]).map oo).getLast? = some (oo z) := by rw [List.map_append, List.map_singleton, List.getLast?_append]; rfl
        have hdl : ((acc0 ++ [z]).map oo).dropLast = acc0.map oo := by rw [List.map_append, List.map_singleton, List.dropLast_concat]
        have hz1 : (acc0.map oo).length < 16777216 := by
          rw [List.length_append] at h2
          rw [List.length_map]; omega
        have hz2 : ((acc0 ++ [z]).map oo).length < 16777216 := by
          rw [List.length_map]; omega
        rw [mrg_snoc] at nx
        generalize D.lst ((L.map evS).map oo) = y at *
        walk_at "s"
        refine C_touches (by with_unfolding_all exact rfl) ?_
        refine isV ?_
        cases ht : tchB z o with
        | true =>
          rw [ht, if_pos rfl] at nx
          have nx := nx _ rfl (by simp) (.val (oo (jnO z o)))
          rw [List.map_append, List.map_singleton] at nx
          walk_at "s"
          refine C_joined (by with_unfolding_all exact rfl) ?_
          refine isS_val ?_
          rw [hdl]
          with_reducible refine N_thn ?_
          with_reducible refine XS_nil (N_thn ?_)
          with_reducible refine XS_norm (by with_unfolding_all ((try simp only [setE, cutE, optD_none, optD_some, List.set_cons_zero, List.set_cons_succ, List.cons_append, List.nil_append, List.length_cons, List.length_nil, Nat.reduceAdd, List.take_succ_cons, List.take_zero]); exact Nf.rfl)) (by with_unfolding_all ((try simp only [setE, cutE, optD_none, optD_some, set_set, List.set_cons_zero, List.set_cons_succ]); exact Nf.rfl)) ?_
          with_reducible refine XS_cons ?_
          walk_at "s"
          with_reducible refine N_thn (XS_nil ?_)
          exact nx
        | false =>
          rw [ht, if_neg (by decide)] at nx
          have nx := nx _ rfl (by simp) (.val (oo o))
          rw [List.map_append (l₁ := acc0 ++ [z]), List.map_singleton] at nx
          generalize oo o = x at *
          walk_at "s"
          with_reducible refine N_thn ?_
          walk_at "s"
          with_reducible refine N_thn (XS_nil ?_)
          exact nx
    · rintro fr ⟨acc, s7, h1, h2, rfl⟩
      have h1 : acc = evsO L := h1
      subst h1
      with_reducible refine N_thn ?_
      walk_at "s"
      exact ⟨_, _, rfl, rfl, R_thn (hr _ rfl)⟩))) Xq9.mk
theorem C_eventsOf (hT : T.phi 98 = p_events_of) (hl : L.length ≤ 10000) (k : P (.val (.tup ((evsO L).map oo))) s) : (T.phi 98 [.tup (L.map pcD)] s).all P PX := by
  rw [hT]; exact all_of_eq (events_of_is (.inl rfl) hl) k
theorem C_eventsOfL (hT : T.phi 98 = p_events_of) (hl : L.length ≤ 10000) (k : P (.val (.tup ((evsO L).map oo))) s) : (T.phi 98 [.lst (L.map pcD)] s).all P PX := by
  rw [hT]; exact all_of_eq (events_of_is (.inr rfl) hl) k
end
end
section
open PySem L2
/-! ### k44: stretches apart, moments in pieces -/
theorem anyB_iff {l : List O2} {x : Int} : (l.any fun p => inB p x) = true ↔ ∃ a ∈ l, InO a x := @Rq9 _ _ (fun qz => @Hq9.get _ _ (qz.bar : Hq9 _ (by
  clear qz
  rw [List.any_eq_true]
  exact exists_congr fun a => and_congr Iff.rfl inB_iff))) Xq9.mk
def ePc7 := En2.pair (En2.pair eI eI) eOO
theorem C_eqPc0 {L : List ((Int × Int) × O2)} {P : Bool → Prop} (h : P (decide (L = []))) : ∃ k, cmpD .eq (.lst (L.map pcD)) (.lst []) = some k ∧ P k := ⟨_, (En2.lst ePc7).eq (a := L) (b := []) (by decide) (fun _ _ => ⟨⟨trivial, trivial⟩, trivial, trivial⟩) (fun _ h => nomatch h) rfl, h⟩
theorem ix_oo {l : List O2} {i : Int} {j : Nat} {p : O2} {sto : List Cell} {Q : D → Prop} (e : i = (j : Int)) (h : l[j]? = some p) (k : Q (oo p)) : ∃ v, ixD sto (.tup (l.map oo)) (.int i) = some v ∧ Q v := @Rq9 _ _ (fun qz => @Hq9.get _ _ (qz.bar : Hq9 _ (by
  clear qz
  refine ⟨_, ?_, k⟩
  have hj := (List.getElem?_eq_some_iff.mp h).1
  subst e
  show atI (l.map oo) (j : Int) = _
  rw [atI_ok (by omega) (by rw [List.length_map]; omega), Int.toNat_natCast, List.getElem?_map, h]; rfl))) Xq9.mk
section
variable {T : Tab} {P : Out → List Cell → Prop} {PX : Nat → List D → List Cell → Prop} {s sto : List Cell} {l : List O2} {L : List ((Int × Int) × O2)} {m : Int}
local macro_rules | `(tactic| walk_at "w") => `(tactic| repeat' first
  | fail "a1p"
  | fail "a3"
  | fail "a2")
local macro_rules | `(tactic| walk_at "s") => `(tactic| repeat' first
  | fail "a1p"
  | fail "a3"
  | fail "a2s")
theorem law_in_is : p_law_in [.tup (l.map oo), .int m] sto = .ret (.val (.bl (l.any fun p => inB p m))) sto := @Rq9 _ _ (fun qz => @Hq9.get _ _ (qz.bar : Hq9 _ (by
  clear qz
  refine fx_eq (fx_allK rfl (env := [.val (.tup (l.map oo)), .val (.int m), .un, .un]) rfl fun K hret _ _ => ?_)
  have hr := fun fr z => hret _ fr ⟨rfl, z⟩
  clear hret
  unfold b_law_in
  refine XS_cons ?_
  refine X_forLK (α := O2) (AI_seq (AD_V (V_slot rfl ⟨_, rfl, oo, l, fun t fr => ∃ s2 s3, (t.any fun p => inB p m) = (l.any fun p => inB p m) ∧ fr = ⟨[.val (.tup (l.map oo)), .val (.int m), s2, s3], sto⟩, rfl, ⟨_, _, rfl, rfl⟩, ?_, ?_⟩)))
  · rintro ⟨a, b⟩ t fr ⟨s2, s3, h1, rfl⟩
    refine ⟨_, rfl, fun K' kp => ?_⟩
    rw [List.any_cons] at h1
    have nx := fun (h : inB (a, b) m = false) => kp.next ⟨[.val (.tup (l.map oo)), .val (.int m), .val (optD a), .val (optD b)], sto⟩ ⟨_, _, by rw [← h1, h]; rfl, rfl⟩
    have rt := fun (h : inB (a, b) m = true) fr (e : fr.sto = sto) => kp.ret (.val (.bl true)) fr (by
      have : (l.any fun p => inB p m) = true := by rw [← h1, h]; rfl
      rw [this] at hr
      exact hr fr e)
    clear kp hr h1
    unfold inB at nx rt
    generalize D.tup (l.map oo) = y at *
    have L0 : loB none m = true := rfl
    have H0 : hiB none m = true := rfl
    have L1 : ∀ v, loB (some v) m = decide (v ≤ m) := fun _ => rfl
    have H1 : ∀ v, hiB (some v) m = decide (m ≤ v) := fun _ => rfl
    dsimp only at nx rt
    cases a with
    | none => cases b with
      | none =>
        walk_at "s"
        exact rt rfl _ rfl
      | some b =>
        rw [L0, H1] at nx rt
        by_cases h : m ≤ b
        · walk_at "s"
          exact rt (by simp [h]) _ rfl
        · walk_at "s"
          with_reducible refine N_thn (XS_nil ?_)
          exact nx (by simp [h])
    | some a => cases b with
      | none =>
        rw [L1, H0] at nx rt
        by_cases h : a ≤ m
        · walk_at "s"
          exact rt (by simp [h]) _ rfl
        · walk_at "s"
          with_reducible refine N_thn (XS_nil ?_)
          exact nx (by simp [h])
      | some b =>
        rw [L1, H1] at nx rt
        by_cases h : a ≤ m
        · by_cases h2 : m ≤ b
          · walk_at "s"
            exact rt (by simp [h, h2]) _ rfl
          · walk_at "s"
            with_reducible refine N_thn (XS_nil ?_)
            exact nx (by simp [h2])
        · walk_at "s"
          with_reducible refine N_thn (XS_nil ?_)
          exact nx (by simp [h])
  · rintro fr ⟨s2, s3, h1, rfl⟩
    rw [List.any_nil] at h1
    rw [← h1] at hr
    with_reducible refine N_thn ?_
    walk_at "s"
    exact hr _ rfl))) Xq9.mk
theorem C_in (hT : T.phi 365 = p_law_in) (k : P (.val (.bl (l.any fun p => inB p m))) s) : (T.phi 365 [.tup (l.map oo), .int m] s).all P PX := by
  rw [hT]; exact all_of_eq law_in_is k
theorem law_has_is : p_law_has_v2 [.lst (L.map pcD), .int m] sto = .ret (.val (.bl (L.any fun p => inB (evS p) m))) sto := @Rq9 _ _ (fun qz => @Hq9.get _ _ (qz.bar : Hq9 _ (by
  clear qz
  refine fx_eq (fx_allK rfl (env := [.val (.lst (L.map pcD)), .val (.int m), .un, .un, .un, .un]) rfl fun K hret _ _ => ?_)
  have hr := fun fr z => hret _ fr ⟨rfl, z⟩
  clear hret
  unfold b_law_has_v2
  refine XS_cons ?_
  refine X_forLK (α := (Int × Int) × O2) (AI_seq (AD_V (V_slot rfl ⟨_, rfl, pcD, L, fun t fr => ∃ s2 s3 s4 s5, (t.any fun p => inB (evS p) m) = (L.any fun p => inB (evS p) m) ∧ fr = ⟨[.val (.lst (L.map pcD)), .val (.int m), s2, s3, s4, s5], sto⟩, rfl, ⟨_, _, _, _, rfl, rfl⟩, ?_, ?_⟩)))
  · rintro ⟨⟨p1, p2⟩, a, b⟩ t fr ⟨s2, s3, s4, s5, h1, rfl⟩
    refine ⟨_, rfl, fun K' kp => ?_⟩
    rw [List.any_cons] at h1
    have nx := fun (h : inB (evS ((p1, p2), (a, b))) m = false) s4 s5 => kp.next ⟨[.val (.lst (L.map pcD)), .val (.int m), .val (phD (p1, p2)), .val (oo (a, b)), s4, s5], sto⟩ ⟨_, _, _, _, by rw [← h1, h]; rfl, rfl⟩
    have rt := fun (h : inB (evS ((p1, p2), (a, b))) m = true) fr (e : fr.sto = sto) => kp.ret (.val (.bl true)) fr (by
      have : (L.any fun p => inB (evS p) m) = true := by rw [← h1, h]; rfl
      rw [this] at hr
      exact hr fr e)
    clear kp hr h1
    unfold inB evS at nx rt
    rw [show phD (p1, p2) = .tup [.int p1, .int p2] from rfl, oo_un2] at *
    generalize D.lst (L.map pcD) = y at *
    have L0 : loB (Option.map (p1 + ·) none) m = true := rfl
    have H0 : hiB (Option.map (p2 + ·) none) m = true := rfl
    have L1 : ∀ v, loB (Option.map (p1 + ·) (some v)) m = decide (p1 + v ≤ m) := fun _ => rfl
    have H1 : ∀ v, hiB (Option.map (p2 + ·) (some v)) m = decide (m ≤ p2 + v) := fun _ => rfl
    dsimp only at nx rt
    walk_at "s"
    with_reducible refine N_thn ?_
    cases a with
    | none => cases b with
      | none =>
        walk_at "s"
        exact rt rfl _ rfl
      | some b =>
        rw [L0, H1] at nx rt
        by_cases h : m ≤ p2 + b
        · walk_at "s"
          exact rt (by simp [h]) _ rfl
        · walk_at "s"
          with_reducible refine N_thn (XS_nil ?_)
          walk_at "s"
          exact nx (by simp [h]) _ _
    | some a => cases b with
      | none =>
        rw [L1, H0] at nx rt
        by_cases h : p1 + a ≤ m
        · walk_at "s"
          exact rt (by simp [h]) _ rfl
        · walk_at "s"
          with_reducible refine N_thn (XS_nil ?_)
          exact nx (by simp [h]) _ _
      | some b =>
        rw [L1, H1] at nx rt
        by_cases h : p1 + a ≤ m
        · by_cases h2 : m ≤ p2 + b
          · walk_at "s"
            exact rt (by simp [h, h2]) _ rfl
          · walk_at "s"
            with_reducible refine N_thn (XS_nil ?_)
            walk_at "s"
            exact nx (by simp [h2]) _ _
        · walk_at "s"
          with_reducible refine N_thn (XS_nil ?_)
          exact nx (by simp [h]) _ _
  · rintro fr ⟨s2, s3, s4, s5, h1, rfl⟩
    rw [List.any_nil] at h1
    rw [← h1] at hr
    with_reducible refine N_thn ?_
    walk_at "s"
    exact hr _ rfl))) Xq9.mk
theorem C_has2 (hT : T.phi 362 = p_law_has_v2) (k : P (.val (.bl (L.any fun p => inB (evS p) m))) s) : (T.phi 362 [.lst (L.map pcD), .int m] s).all P PX := by
  rw [hT]; exact all_of_eq law_has_is k
end
section
variable {T : Tab} {P : Out → List Cell → Prop} {PX : Nat → List D → List Cell → Prop} {s sto : List Cell} {l : List O2}
local macro_rules | `(tactic| walk_at "w") => `(tactic| repeat' first
  | fail "a1p"
  | fail "a3"
  | (with_reducible refine' ix_oo ?s1 ?s2 ?_; (case s1 => omega); (case s2 => assumption))
  | (with_reducible refine' ix_oo rfl ?s1 ?_; (case s1 => assumption))
  | fail "a2")
local macro_rules | `(tactic| walk_at "s") => `(tactic| repeat' first
  | fail "a1p"
  | fail "a3"
  | (with_reducible refine' ix_oo ?s1 ?s2 ?_; (case s1 => omega); (case s2 => assumption))
  | (with_reducible refine' ix_oo rfl ?s1 ?_; (case s1 => assumption))
  | fail "a2s")
theorem law_apart_is (h : Apt9 l) (hl : l.length ≤ 10000) : p_law_are_apart [.tup (l.map oo)] sto = .ret (.val (.bl true)) sto := @Rq9 _ _ (fun qz => @Hq9.get _ _ (qz.bar : Hq9 _ (by
  clear qz
  refine fx_eq (fx_allK rfl (env := [.val (.tup (l.map oo)), .un, .un]) rfl fun K hret _ _ => ?_)
  have hr := fun fr z => hret _ fr ⟨rfl, z⟩
  clear hret
  have hml : (l.map oo).length = l.length := List.length_map _
  unfold b_law_are_apart
  refine XS_cons ?_
  with_reducible refine X_forIK (AI_range2V ?_)
  walk_at "s"
  refine ⟨_, _, rfl, rfl, by omega, fun i fr => ∃ s1, fr = ⟨[.val (.tup (l.map oo)), s1, .un], sto⟩, ⟨_, rfl⟩, ?_, ?_⟩
  · rintro i y fr hy ⟨s1, rfl⟩
    obtain ⟨hi, rfl⟩ := range_at hy
    have hi2 : i + 1 < l.length := by omega
    refine ⟨_, rfl, fun K' kp => ?_⟩
    have nx := kp.next ⟨[.val (.tup (l.map oo)), .val (.int (1 + (i : Int))), .un], sto⟩ ⟨_, rfl⟩
    have e1 : l[i]? = some l[i] := List.getElem?_eq_getElem (by omega)
    have e2 : l[i + 1]? = some l[i + 1] := List.getElem?_eq_getElem hi2
    obtain ⟨v, u, g1, g2, g3⟩ := List.pairwise_iff_getElem.mp h.ap i (i + 1) (by omega) hi2 (by omega)
    have e1 : ∀ k : Int, k = ((i : Nat) : Int) → l[i]? = some (l[i].1, some v) := fun _ _ => by rw [e1, ← g1]
    have e2 : ∀ k : Int, k = ((i + 1 : Nat) : Int) → l[i + 1]? = some (some u, l[i + 1].2) := fun _ _ => by rw [e2, ← g2]
    generalize l[i].1 = a at e1
    generalize l[i + 1].2 = b at e2
    have e1 := e1 i rfl
    have e2 := e2 _ rfl
    have ix1 : ∀ {sto : List Cell} {Q : D → Prop}, Q (.tup [optD a, .int v]) → ∃ w, ixD sto (.tup (l.map oo)) (.int (1 + (i : Int) - 1)) = some w ∧ Q w := fun {sto Q} k => ix_oo (by omega) e1 k
    have ix2 : ∀ {sto : List Cell} {Q : D → Prop}, Q (.tup [.int u, optD b]) → ∃ w, ixD sto (.tup (l.map oo)) (.int (1 + (i : Int))) = some w ∧ Q w := fun {sto Q} k => ix_oo (by push_cast; omega) e2 k
    clear kp hr hy hi e1 e2 g1 g2 h
    walk_at "s"
    refine ix1 ?_
    walk_at "s"
    refine ix2 ?_
    walk_at "s"
    refine ix2 ?_
    walk_at "s"
    refine ix1 ?_
    walk_at "s"
    with_reducible refine N_thn (XS_nil ?_)
    exact nx
  · rintro fr ⟨s1, rfl⟩
    with_reducible refine N_thn ?_
    refine XS_cons (X_retV (V_cmpComp0 (A_compF (α := O2) (AI_seq ?_))))
    walk_at "s"
    refine ⟨_, rfl, oo, l, fun _ => false, oo, rfl, rfl, rfl, by omega, fun x acc hx => ⟨_, rfl, rfl, ?_, fun z => nomatch z⟩, ?_⟩
    · obtain ⟨a, b⟩ := x
      have hn := h.ne _ hx
      unfold NeO at hn
      rw [oo_un2]
      cases a with
      | none => walk_at "s"; exact ⟨rfl, rfl⟩
      | some a => cases b with
        | none => walk_at "s"; exact ⟨rfl, rfl⟩
        | some b =>
          have := hn a b rfl rfl
          walk_at "s"
          exact ⟨decide (b < a), rfl, by rw [decide_eq_false (by omega)], rfl⟩
    rw [show l.filter (fun _ => false) = [] from List.filter_eq_nil_iff.mpr fun _ _ => by simp]
    refine ⟨_, rfl, true, rfl, ?_⟩
    exact R_thn (hr _ rfl)))) Xq9.mk
theorem C_apartS (hT : T.phi 303 = p_law_are_apart) (h : Apt9 l) (hl : l.length ≤ 10000) (k : P (.val (.bl true)) s) : (T.phi 303 [.tup (l.map oo)] s).all P PX := by
  rw [hT]; exact all_of_eq (law_apart_is h hl) k
end
/-- a drawn piece -/
def PcOk (p : (Int × Int) × O2) : Prop := NeO (evS p) ∧ -10000 ≤ p.1.1 ∧ p.1.1 ≤ 10000 ∧ -10000 ≤ p.1.2 ∧ p.1.2 ≤ 10000 ∧ (∀ v, p.2.1 = some v → -1000000000000000000000000000000 ≤ v ∧ v ≤ 1000000000000000000000000000000) ∧ ∀ v, p.2.2 = some v → -1000000000000000000000000000000 ≤ v ∧ v ≤ 1000000000000000000000000000000
theorem mul_sz {d sz A B C : Int} (h1 : -A ≤ d) (h2 : d ≤ A) (h3 : 0 ≤ sz) (h4 : sz ≤ B) (hC : A * B = C) : -C ≤ d * sz ∧ d * sz ≤ C := @Rq9 _ _ (fun qz => @Hq9.get _ _ (qz.bar : Hq9 _ (by
  clear qz
  subst hC
  have a1 := Int.mul_le_mul_of_nonneg_right h2 h3
  have a2 := Int.mul_le_mul_of_nonneg_left h4 (show 0 ≤ A by omega)
  have a3 := Int.mul_le_mul_of_nonneg_right h1 h3
  rw [Int.neg_mul] at a3
  omega))) Xq9.mk
section
variable {T : Tab} {P : Out → List Cell → Prop} {PX : Nat → List D → List Cell → Prop} {s sto : List Cell} {B sz : Int}
local macro_rules | `(tactic| walk_at "w") => `(tactic| repeat' first
  | fail "a1p"
  | fail "a3"
  | fail "a2")
local macro_rules | `(tactic| walk_at "s") => `(tactic| repeat' first
  | fail "a1p"
  | fail "a3"
  | fail "a2s")
theorem law_pieces_is (hp : Pn B s) (hB : B < 10000000000000000000000000000) (h0 : 1 ≤ sz) (h1 : sz ≤ 10000000000000000000000000000) : (p_law_pieces [.cell 0, .int sz] s).all (fun o s' => ∃ L : List ((Int × Int) × O2), o = .fresh (L.map pcD) ∧ L.length ≤ 6 ∧ (∀ p ∈ L, PcOk p) ∧ Pn (B + 100) s') (fun _ _ _ => False) := @Rq9 _ _ (fun qz => @Hq9.get _ _ (qz.bar : Hq9 _ (by
  clear qz
  refine fx_allK rfl (env := [.val (.cell 0), .val (.int sz), .un, .un, .un, .un, .un, .un]) rfl fun K hret _ _ => ?_
  unfold b_law_pieces
  walk_at "s"
  with_reducible refine N_thn ?_
  with_reducible refine XS_cons ?_
  with_reducible refine X_forIK (AI_range1V ?_)
  walk_at "s"
  refine C_draw (by with_unfolding_all exact rfl) hp (by omega) (by omega) (by omega) fun d1 st1 d10 d11 hp1 => ?_
  refine isV ?_
  refine ⟨_, rfl, by omega, fun i fr => i ≤ 6 ∧ ∃ (L : List ((Int × Int) × O2)) (low : Int) (st : List Cell) (s4 s5 s6 s7 : Slot), L.length = i ∧ (∀ p ∈ L, PcOk p) ∧ 0 ≤ low ∧ low ≤ 100 * i ∧ Pn (B + 1 + 8 * i) st ∧ fr = ⟨[.val (.cell 0), .val (.int sz), .own (L.map pcD), .val (.int low), s4, s5, s6, s7], st⟩, ⟨by omega, [], 0, _, _, _, _, _, rfl, fun p h => (nomatch h), by omega, by omega, hp1.mono (by omega), rfl⟩, ?_, ?_⟩
  · rintro i y fr hy ⟨hi6, L, low, st, s4, s5, s6, s7, hL, hpc, hl0, hl1, hp2, rfl⟩
    obtain ⟨hi, rfl⟩ := range_at hy
    have hi : i < 6 := by omega
    refine ⟨_, rfl, fun K' kp => ?_⟩
    have nx := fun (p : (Int × Int) × O2) (low2 : Int) st s5 s6 s7 (h1 : PcOk p) (h2 : 0 ≤ low2 ∧ low2 ≤ 100 * ((i + 1 : Nat) : Int)) (h3 : Pn (B + 1 + 8 * ((i + 1 : Nat) : Int)) st) => kp.next ⟨[.val (.cell 0), .val (.int sz), .own (L.map pcD ++ [pcD p]), .val (.int low2), .val (.int (0 + (i : Int))), s5, s6, s7], st⟩ ⟨by omega, L ++ [p], low2, st, _, _, _, _, by rw [List.length_append, hL]; rfl, fun q hq => by
      rcases List.mem_append.mp hq with hq | hq
      · exact hpc q hq
      · rw [List.mem_singleton.mp hq]; exact h1, h2.1, h2.2, h3, by rw [List.map_append]; rfl⟩
    have hsz : (L.map pcD).length < 16777216 := by rw [List.length_map]; omega
    clear kp hret hy hpc
    generalize L.map pcD = A at *
    generalize D.int (0 + (i : Int)) = t4 at *
    walk_at "s"
    refine C_draw (by with_unfolding_all exact rfl) hp2 (by omega) (by omega) (by omega) fun d2 st2 d20 d21 hp3 => ?_
    refine isV ?_
    walk_at "s"
    with_reducible refine N_thn ?_
    walk_at "s"
    refine C_draw (by with_unfolding_all exact rfl) hp3 (by omega) (by omega) (by omega) fun d3 st3 d30 d31 hp4 => ?_
    refine isV ?_
    walk_at "s"
    have m1 := mul_sz (d := d3 - 40) (sz := sz) (A := 40) (B := 10000000000000000000000000000) (C := 400000000000000000000000000000) (by omega) (by omega) (by omega) (by omega) (by decide)
    generalize (d3 - 40) * sz = fi at m1
    with_reducible refine N_thn ?_
    walk_at "s"
    refine C_draw (by with_unfolding_all exact rfl) hp4 (by omega) (by omega) (by omega) fun d4 st4 d40 d41 hp5 => ?_
    refine isV ?_
    walk_at "s"
    have m2 := mul_sz (d := d4) (sz := sz) (A := 9) (B := 10000000000000000000000000000) (C := 90000000000000000000000000000) (by omega) (by omega) (by omega) (by omega) (by decide)
    have m3 : 0 ≤ d4 * sz := Int.mul_nonneg d40 (by omega)
    generalize d4 * sz = la at m2 m3
    with_reducible refine N_thn ?_
    walk_at "s"
    refine C_draw (by with_unfolding_all exact rfl) hp5 (by omega) (by omega) (by omega) fun d5 st5 d50 d51 hp6 => ?_
    refine isV ?_
    have tail2 : ∀ (a b : Option Int) st6, (a = none ∨ a = some fi) → (b = none ∨ b = some (fi + la)) → Pn (B + 1 + 8 * i + 5) st6 → XS T_law_pieces [.append 2 (.tup [.tup [.slot 3, .slot 5], .tup [.slot 6, .slot 7]]), .asg (.slot 3) (.bin .add (.bin .add (.slot 5) (.int 1)) (.call 201 [.slot 0, .int 4]))] ⟨[.val (.cell 0), .val (.int sz), .own A, .val (.int low), .val t4, .val (.int (low + d2)), .val (optD a), .val (optD b)], st6⟩ K' := by
      intro a b st6 ha hb hp7
      have hpo : PcOk ((low, low + d2), (a, b)) := by
        refine ⟨?_, by dsimp only; omega, by dsimp only; omega, by dsimp only; omega, by dsimp only; omega, fun v hv => ?_, fun v hv => ?_⟩
        · intro v w h1 h2
          unfold evS at h1 h2
          rcases ha with rfl | rfl
          · cases h1
          · rcases hb with rfl | rfl
            · cases h2
            · have h1 : low + fi = v := Option.some.inj h1
              have h2 : low + d2 + (fi + la) = w := Option.some.inj h2
              omega
        · have hv : a = some v := hv
          rcases ha with rfl | rfl
          · cases hv
          · cases hv; omega
        · have hv : b = some v := hv
          rcases hb with rfl | rfl
          · cases hv
          · cases hv; omega
      have nx := fun low2 st s5 s6 s7 => nx ((low, low + d2), (a, b)) low2 st s5 s6 s7 hpo
      rw [show pcD ((low, low + d2), (a, b)) = .tup [.tup [.int low, .int (low + d2)], .tup [optD a, optD b]] from rfl] at nx
      clear hpo ha hb
      generalize optD a = ta at *
      generalize optD b = tb at *
      walk_at "s"
      with_reducible refine N_thn ?_
      walk_at "s"
      refine C_draw (by with_unfolding_all exact rfl) hp7 (by omega) (by omega) (by omega) fun d7 st7 d70 d71 hp8 => ?_
      refine isV ?_
      walk_at "s"
      with_reducible refine N_thn (XS_nil ?_)
      exact nx _ _ _ _ _ (by push_cast; omega) (hp8.mono (by push_cast; omega))
    clear nx
    walk_at "s"
    · refine C_draw (by with_unfolding_all exact rfl) hp6 (by omega) (by omega) (by omega) fun d6 st6 d60 d61 hp7 => ?_
      refine isV ?_
      walk_at "s"
      · with_reducible refine N_thn ?_
        exact tail2 none none _ (.inl rfl) (.inl rfl) (hp7.mono (by omega))
      · with_reducible refine N_thn ?_
        exact tail2 none (some (fi + la)) _ (.inl rfl) (.inr rfl) (hp7.mono (by omega))
    · refine C_draw (by with_unfolding_all exact rfl) hp6 (by omega) (by omega) (by omega) fun d6 st6 d60 d61 hp7 => ?_
      refine isV ?_
      walk_at "s"
      · with_reducible refine N_thn ?_
        exact tail2 (some fi) none _ (.inr rfl) (.inl rfl) (hp7.mono (by omega))
      · with_reducible refine N_thn ?_
        exact tail2 (some fi) (some (fi + la)) _ (.inr rfl) (.inr rfl) (hp7.mono (by omega))
  · rintro fr ⟨hi6, L, low, st, s4, s5, s6, s7, hL, hpc, hl0, hl1, hp2, rfl⟩
    with_reducible refine N_thn ?_
    walk_at "s"
    exact hret _ _ ⟨L, rfl, by omega, hpc, hp2.mono (by omega)⟩))) Xq9.mk
theorem C_lpieces (hT : T.phi 435 = p_law_pieces) (hp : Pn B s) (hB : B < 10000000000000000000000000000) (h0 : 1 ≤ sz) (h1 : sz ≤ 10000000000000000000000000000) (k : ∀ (L : List ((Int × Int) × O2)) s', L.length ≤ 6 → (∀ p ∈ L, PcOk p) → Pn (B + 100) s' → P (.fresh (L.map pcD)) s') : (T.phi 435 [.cell 0, .int sz] s).all P PX := @Rq9 _ _ (fun qz => @Hq9.get _ _ (qz.bar : Hq9 _ (by
  clear qz
  rw [hT]
  refine fx_imp (law_pieces_is hp hB h0 h1) (fun o s h => ?_) fun _ _ _ z => z.elim
  obtain ⟨L, rfl, h1, h2, h3⟩ := h
  exact k L s h1 h2 h3))) Xq9.mk
end
end
section
open PySem L2
def topS (i : Nat) : Stmt := PySem.Challenge.pw_agewords_k44_whole_events_of_pieces.main.body.getD i (.Pass ⟨0, 0, 0, 0⟩)
def atT : List Str := (["until", "unit", "way", "word", "rows", "first", "step", "number", "wording", "waits", "index", "line", "age", "second", "guard", "now", "past", "future", "held", "trials", "label", "text", "later_edge", "last_edge", "edges", "ages", "returns", "read", "worded", "shows", "names", "guards", "undoable", "redoable", "looks", "events", "put", "drop", "keep", "free", "undo", "redo", "tried", "exchange", "check_back"] : List String).map Str.ofString
abbrev s_law_are_apart : Stmt := topS 11
def n_law_are_apart : List Str := ["_law_stretches", "_law_k", "_law_pair"]
def c_law_are_apart : Cv := { N := n_law_are_apart, fns := [], nms := [], meths := [], globs := [], blts := ["len", "range"], fnc := fun _ => true }
theorem cv_law_are_apart : cvSs c_law_are_apart 60 (defScope s_law_are_apart) (defBody s_law_are_apart) = some b_law_are_apart := by kernel_rfl
theorem sc_law_are_apart : FnScope c_law_are_apart.N ["_law_stretches"] (defScope s_law_are_apart) := ⟨rfl, rfl, rfl, by decide +kernel, rfl, by decide +kernel, by decide +kernel⟩
abbrev s_law_has_v2 : Stmt := topS 9
def n_law_has_v2 : List Str := ["_law_told", "_law_moment", "_law_phases", "_law_differences", "_law_low", "_law_high"]
def c_law_has_v2 : Cv := { N := n_law_has_v2, fns := [], nms := [], meths := [], globs := [], blts := [], fnc := fun _ => true }
theorem cv_law_has_v2 : cvSs c_law_has_v2 60 (defScope s_law_has_v2) (defBody s_law_has_v2) = some b_law_has_v2 := by kernel_rfl
theorem sc_law_has_v2 : FnScope c_law_has_v2.N ["_law_told", "_law_moment"] (defScope s_law_has_v2) := ⟨rfl, rfl, rfl, by decide +kernel, rfl, by decide +kernel, by decide +kernel⟩
abbrev s_law_in : Stmt := topS 10
def n_law_in : List Str := ["_law_stretches", "_law_moment", "_law_low", "_law_high"]
def c_law_in : Cv := { N := n_law_in, fns := [], nms := [], meths := [], globs := [], blts := [], fnc := fun _ => true }
theorem cv_law_in : cvSs c_law_in 60 (defScope s_law_in) (defBody s_law_in) = some b_law_in := by kernel_rfl
theorem sc_law_in : FnScope c_law_in.N ["_law_stretches", "_law_moment"] (defScope s_law_in) := ⟨rfl, rfl, rfl, by decide +kernel, rfl, by decide +kernel, by decide +kernel⟩
abbrev s_law_pen : Stmt := topS 6
def n_law_pen : List Str := ["_law_script"]
def c_law_pen : Cv := { N := n_law_pen, fns := [], nms := [], meths := [], globs := [], blts := ["list"], fnc := fun _ => true }
theorem cv_law_pen : cvSs c_law_pen 60 (defScope s_law_pen) (defBody s_law_pen) = some b_pen := by kernel_rfl
theorem sc_law_pen : FnScope c_law_pen.N ["_law_script"] (defScope s_law_pen) := ⟨rfl, rfl, rfl, by decide +kernel, rfl, by decide +kernel, by decide +kernel⟩
abbrev s_law_draw : Stmt := topS 7
def n_law_draw : List Str := ["_law_pen_here", "_law_many", "_law_at", "_law_cell", "_law_mixed", "_law_digit"]
def c_law_draw : Cv := { N := n_law_draw, fns := [], nms := [], meths := [], globs := [], blts := ["int", "len"], fnc := fun _ => true }
theorem cv_law_draw : cvSs c_law_draw 60 (defScope s_law_draw) (defBody s_law_draw) = some b_draw := by kernel_rfl
theorem sc_law_draw : FnScope c_law_draw.N ["_law_pen_here", "_law_many"] (defScope s_law_draw) := ⟨rfl, rfl, rfl, by decide +kernel, rfl, by decide +kernel, by decide +kernel⟩
abbrev s_law_pick : Stmt := topS 8
def n_law_pick : List Str := ["_law_pen_here", "_law_items"]
def c_law_pick : Cv := { N := n_law_pick, fns := [("_law_draw", 201)], nms := [], meths := [], globs := [], blts := ["len"], fnc := fun _ => true }
theorem cv_law_pick : cvSs c_law_pick 60 (defScope s_law_pick) (defBody s_law_pick) = some b_pick := by kernel_rfl
theorem sc_law_pick : FnScope c_law_pick.N ["_law_pen_here", "_law_items"] (defScope s_law_pick) := ⟨rfl, rfl, rfl, by decide +kernel, rfl, by decide +kernel, by decide +kernel⟩
abbrev s_law_pieces : Stmt := topS 12
def n_law_pieces : List Str := ["_law_pen_here", "_law_size", "_law_found", "_law_low", "_law_k", "_law_high", "_law_first", "_law_last"]
def c_law_pieces : Cv := { N := n_law_pieces, fns := [("_law_draw", 201)], nms := [], meths := [], globs := [], blts := ["range"], fnc := fun _ => true }
theorem cv_law_pieces : cvSs c_law_pieces 60 (defScope s_law_pieces) (defBody s_law_pieces) = some b_law_pieces := by kernel_rfl
theorem sc_law_pieces : FnScope c_law_pieces.N ["_law_pen_here", "_law_size"] (defScope s_law_pieces) := ⟨rfl, rfl, rfl, by decide +kernel, rfl, by decide +kernel, by decide +kernel⟩
abbrev s_joined_stretch : Stmt := topS 4
def n_joined_stretch : List Str := ["one", "other"]
def c_joined_stretch : Cv := { N := n_joined_stretch, fns := [], nms := [], meths := [], globs := [], blts := ["int", "max"], fnc := fun _ => true }
theorem cv_joined_stretch : cvSs c_joined_stretch 60 (defScope s_joined_stretch) (defBody s_joined_stretch) = some b_joined_stretch := by kernel_rfl
theorem sc_joined_stretch : FnScope c_joined_stretch.N ["one", "other"] (defScope s_joined_stretch) := ⟨rfl, rfl, rfl, by decide +kernel, rfl, by decide +kernel, by decide +kernel⟩
abbrev s_low_first : Stmt := topS 1
def n_low_first : List Str := ["stretch"]
def c_low_first : Cv := { N := n_low_first, fns := [], nms := [], meths := [], globs := [], blts := [], fnc := fun _ => true }
theorem cv_low_first : cvSs c_low_first 60 (defScope s_low_first) (defBody s_low_first) = some b_low_first := by kernel_rfl
theorem sc_low_first : FnScope c_low_first.N ["stretch"] (defScope s_low_first) := ⟨rfl, rfl, rfl, by decide +kernel, rfl, by decide +kernel, by decide +kernel⟩
abbrev s_touches : Stmt := topS 3
def n_touches : List Str := ["one", "other"]
def c_touches : Cv := { N := n_touches, fns := [], nms := [], meths := [], globs := [], blts := [], fnc := fun _ => true }
theorem cv_touches : cvSs c_touches 60 (defScope s_touches) (defBody s_touches) = some b_touches := by kernel_rfl
theorem sc_touches : FnScope c_touches.N ["one", "other"] (defScope s_touches) := ⟨rfl, rfl, rfl, by decide +kernel, rfl, by decide +kernel, by decide +kernel⟩
abbrev s_events_of : Stmt := topS 2
def n_events_of : List Str := ["told", "stretches", "low", "high", "least", "most", "found", "stretch"]
def c_events_of : Cv := { N := n_events_of, fns := [("joined_stretch", 100), ("low_first", 97), ("touches", 99)], nms := [], meths := [], globs := [], blts := ["sorted", "tuple"], fnc := fun _ => true, srt := [("low_first", 97)] }
theorem cv_events_of : cvSs c_events_of 60 (defScope s_events_of) (defBody s_events_of) = some b_events_of := by kernel_rfl
theorem sc_events_of : FnScope c_events_of.N ["told"] (defScope s_events_of) := ⟨rfl, rfl, rfl, by decide +kernel, rfl, by decide +kernel, by decide +kernel⟩
def b_law : List Stm := [.asg (.slot 1) (.call 200 [.slot 0]), .for_ (.slot 2) (.range1 (.bin .add (.int 5) (.bi .min2 [.int 7, .bi .len [.slot 0]]))) [.asg (.slot 3) (.call 435 [.slot 1, .call 202 [.slot 1, .lst [.int 1, .int 1, .int 7, .bin .pow (.int 10) (.int 28)]]]), .asg (.slot 4) (.call 98 [.call 202 [.slot 1, .lst [.slot 3, .bi .tuple_ [.slot 3]]]]), .ite (.or_ (.not_ (.ist .tup (.slot 4))) (.or_ (.not_ (.call 303 [.slot 4])) (.and_ (.cmp .eq (.slot 3) (.lst [])) (.cmp .ne (.slot 4) (.tup []))))) [.ret (.bl false)] [], .asg (.slot 5) (.lst [.int 0, .bin .pow (.int 10) (.int 31), .neg (.bin .pow (.int 10) (.int 31))]), .for_ (.tup [.slot 6, .tup [.slot 7, .slot 8]]) (.seq (.slot 3)) [.for_ (.slot 10) (.seq (.slot 6)) [.asg (.slot 5) (.bin .add (.slot 5) (.comp (.bin .add (.slot 9) (.slot 10)) (.slot 9) (.seq (.lst [.slot 7, .slot 8])) (some (.cmp .isn (.slot 9) .non)) [9]))]], .for_ (.slot 9) (.seq (.slot 5)) [.for_ (.slot 11) (.seq (.lst [.bin .sub (.slot 9) (.int 1), .slot 9, .bin .add (.slot 9) (.int 1)])) [.ite (.cmp .ne (.call 365 [.slot 4, .slot 11]) (.call 362 [.slot 3, .slot 11])) [.ret (.bl false)] []]]], .ret (.bl true)]
noncomputable def T_law : Tab := { (((((((T0.add 98 p_events_of).add 200 p_pen).add 202 p_pick).add 303 p_law_are_apart).add 362 p_law_has_v2).add 365 p_law_in).add 435 p_law_pieces) with psi := psiT [], fld := fldT [] }
noncomputable def p_law : Fn := fx T_law 1 12 b_law
abbrev s_law : Stmt := topS 13
def n_law : List Str := ["_law_script", "_law_pen_here", "_law_turn", "_law_told", "_law_found", "_law_ends", "_law_phases", "_law_low", "_law_high", "_law_end", "_law_phase", "_law_moment"]
def c_law : Cv := { N := n_law, fns := [("_law_are_apart", 303), ("_law_has", 362), ("_law_in", 365), ("_law_pen", 200), ("_law_pick", 202), ("_law_pieces", 435), ("events_of", 98)], nms := [], meths := [], globs := [], blts := ["isinstance", "len", "min", "range", "tuple"], fnc := fun _ => true }
theorem cv_law : cvSs c_law 60 (defScope s_law) (defBody s_law) = some b_law := by kernel_rfl
theorem sc_law : FnScope c_law.N ["_law_script"] (defScope s_law) := ⟨rfl, rfl, rfl, by decide +kernel, rfl, by decide +kernel, by decide +kernel⟩
end
section
open PySem L2
section
variable {T : Tab} {P : Out → List Cell → Prop} {PX : Nat → List D → List Cell → Prop} {s sto : List Cell} {rs : List Rw} {sn sm : List Lk2} {e e' : Int}
local macro_rules | `(tactic| walk_at "w") => `(tactic| repeat' first
  | fail "a1p"
  | fail "a3"
  | (with_reducible refine' C_glow ?s1 ?_; (case s1 => with_unfolding_all exact rfl))
  | (with_reducible refine' C_lhigh ?s1 ?_; (case s1 => with_unfolding_all exact rfl))
  | (with_reducible refine' C_before ?s1 ?_; (case s1 => with_unfolding_all exact rfl))
  | fail "a2")
local macro_rules | `(tactic| walk_at "s") => `(tactic| repeat' first
  | fail "a1p"
  | fail "a3"
  | (with_reducible refine' C_glow ?s1 ?_; (case s1 => with_unfolding_all exact rfl))
  | (with_reducible refine' C_lhigh ?s1 ?_; (case s1 => with_unfolding_all exact rfl))
  | (with_reducible refine' C_before ?s1 ?_; (case s1 => with_unfolding_all exact rfl))
  | fail "a2s")
end
end
section
open PySem L2
section
variable {i : Nat} {env : List Slot} {P : D → Prop} {a b : Int}
end
def two : Option Int → Option Int → List D
  | none, none => []
  | some a, none => [.int a]
  | none, some b => [.int b]
  | some a, some b => [.int a, .int b]
section
variable {T : Tab} {P : Out → List Cell → Prop} {PX : Nat → List D → List Cell → Prop} {s sto : List Cell} {p q : O2} {x : Int}
local macro_rules | `(tactic| walk_at "w") => `(tactic| repeat' first
  | fail "a1p"
  | fail "a3"
  | fail "a2")
local macro_rules | `(tactic| walk_at "s") => `(tactic| repeat' first
  | fail "a1p"
  | fail "a3"
  | fail "a2s")
end
section
variable {T : Tab} {P : Out → List Cell → Prop} {PX : Nat → List D → List Cell → Prop} {s sto : List Cell} {p q : O2} {x : Int}
local macro_rules | `(tactic| walk_at "w") => `(tactic| repeat' first
  | fail "a1p"
  | fail "a3"
  | (with_reducible refine C_eqE ?_)
  | (with_reducible refine C_eqO1 ?_)
  | (with_reducible refine C_eqO2 ?_)
  | (with_reducible refine' L_mx1 ?s1 ?_; (case s1 => with_unfolding_all exact rfl))
  | (with_reducible refine' L_mx2 ?s1 ?_; (case s1 => with_unfolding_all exact rfl))
  | (with_reducible refine' L_mn1 ?s1 ?_; (case s1 => with_unfolding_all exact rfl))
  | (with_reducible refine' L_mn2 ?s1 ?_; (case s1 => with_unfolding_all exact rfl))
  | (with_reducible refine' O_addT ?s1 ?_; (case s1 => (simp only [List.length_cons, List.length_nil]; omega)))
  | (with_reducible refine Of_id ?_)
  | fail "a2")
local macro_rules | `(tactic| walk_at "s") => `(tactic| repeat' first
  | fail "a1p"
  | fail "a3"
  | (with_reducible refine C_eqE ?_)
  | (with_reducible refine C_eqO1 ?_)
  | (with_reducible refine C_eqO2 ?_)
  | (with_reducible refine' L_mx1 ?s1 ?_; (case s1 => with_unfolding_all exact rfl))
  | (with_reducible refine' L_mx2 ?s1 ?_; (case s1 => with_unfolding_all exact rfl))
  | (with_reducible refine' L_mn1 ?s1 ?_; (case s1 => with_unfolding_all exact rfl))
  | (with_reducible refine' L_mn2 ?s1 ?_; (case s1 => with_unfolding_all exact rfl))
  | (with_reducible refine' O_addT ?s1 ?_; (case s1 => (simp only [List.length_cons, List.length_nil]; omega)))
  | (with_reducible refine Of_id ?_)
  | fail "a2s")
end
end
section
open PySem L2
theorem C_neBs {x y : Bool} {P : Bool → Prop} (h : x = y) (k : P false) : ∃ b, cmpD .ne (.bl x) (.bl y) = some b ∧ P b := ⟨false, by
  subst h
  show Option.map (!·) (some (decide (x = x))) = _
  rw [decide_eq_true rfl]; rfl, k⟩
theorem opAdd44 {xs ys : List D} (h : xs.length + ys.length ≤ 16777216) : opD .add (.lst xs) (.lst ys) = some (.fresh (xs ++ ys)) := @Rq9 _ _ (fun qz => @Hq9.get _ _ (qz.bar : Hq9 _ (by
  clear qz
  show (if xs.length + ys.length ≤ sizeLine then some (Out.fresh (xs ++ ys)) else none) = _
  rw [if_pos (by rw [size_is]; exact h)]))) Xq9.mk
def EnOk (e : Int) : Prop := -100000000000000000000000000000000 ≤ e ∧ e ≤ 100000000000000000000000000000000
section
local macro_rules | `(tactic| walk_at "w") => `(tactic| repeat' first
  | (with_reducible refine' X_asgF (A_bin (A_own ?s1 ?_)); (case s1 => with_unfolding_all exact rfl))
  | fail "a1p"
  | fail "a3"
  | fail "a2")
local macro_rules | `(tactic| walk_at "s") => `(tactic| repeat' first
  | (with_reducible refine' X_asgF (A_bin (A_own ?s1 ?_)); (case s1 => with_unfolding_all exact rfl))
  | fail "a1p"
  | fail "a3"
  | fail "a2s")
theorem keeps (ns : List Int) (h63 : ns.length ≤ 63) : (p_law [.rol (ns.map D.int)] []).all (fun o _ => o = .val (.bl true)) (fun _ _ _ => False) := @Rq9 _ _ (fun qz => @Hq9.get _ _ (qz.bar : Hq9 _ (by
  clear qz
  refine fx_allK rfl (env := [.val (.rol (ns.map D.int)), .un, .un, .un, .un, .un, .un, .un, .un, .un, .un, .un]) rfl fun K hret _ _ => ?_
  have hl9 : (ns.map D.int).length ≤ 1000 := by rw [List.length_map]; omega
  unfold b_law
  walk_at "s"
  refine C_pen (by with_unfolding_all exact rfl) fun s0 hp0 => ?_
  refine isS_val ?_
  refine N_thn ?_
  refine XS_cons ?_
  with_reducible refine X_forIK (AI_range1V ?_)
  walk_at "s"
  have hM : 5 + min 7 ((ns.map D.int).length : Int) ≤ 12 ∧ 0 ≤ 5 + min 7 ((ns.map D.int).length : Int) := by omega
  generalize 5 + min 7 ((ns.map D.int).length : Int) = M at hM
  generalize ns.map D.int = scr
  refine ⟨⟨by omega, by omega⟩, fun i fr => i ≤ 12 ∧ ∃ st s2 s3 s4 s5 s6 s7 s8 s9 s10 s11, (∀ zs, s9 ≠ Slot.own zs) ∧ Pn (1000 * i) st ∧ fr = ⟨[.val (.rol scr), .val (.cell 0), s2, s3, s4, s5, s6, s7, s8, s9, s10, s11], st⟩, ⟨by omega, _, _, _, _, _, _, _, _, Slot.un, _, _, fun zs h => (nomatch h), hp0.mono (by omega), rfl⟩, ?_, ?_⟩
  · rintro i0 y fr hy ⟨hi8, st, s2, s3, s4, s5, s6, s7, s8, s9, s10, s11, h9, hp, rfl⟩
    obtain ⟨hi, rfl⟩ := range_at hy
    have hi9 : i0 < 12 := by omega
    clear hy hi
    refine ⟨_, rfl, fun K' kp => ?_⟩
    have hnx := fun st s3 s4 s5 s6 s7 s8 s9 s10 s11 (h9 : ∀ zs, s9 ≠ Slot.own zs) (q : Pn (1000 * ((i0 + 1 : Nat) : Int)) st) => kp.next ⟨[.val (.rol scr), .val (.cell 0), .val (.int (0 + (i0 : Int))), s3, s4, s5, s6, s7, s8, s9, s10, s11], st⟩ ⟨by omega, _, _, _, _, _, _, _, _, _, _, _, h9, q, rfl⟩
    clear kp hret
    generalize D.int (0 + (i0 : Int)) = tj at *
    walk_at "s"
    refine C_pick (by with_unfolding_all exact rfl) hp (by omega) (by simp) (by simp) fun x st1 hx hp1 => ?_
    obtain ⟨sz, rfl, z0, z1⟩ : ∃ c : Int, x = .int c ∧ 1 ≤ c ∧ c ≤ 10000000000000000000000000000 := by
      simp only [List.mem_cons, List.not_mem_nil, or_false] at hx
      rcases hx with rfl | rfl | rfl | rfl
      all_goals exact ⟨_, rfl, by omega, by omega⟩
    clear hx hp
    refine isD_val ?_
    walk_at "s"
    refine C_lpieces (by with_unfolding_all exact rfl) hp1 (by omega) z0 z1 fun L st2 hL hpc hp2 => ?_
    refine isS_fresh ?_
    clear hp1
    have hap := evsO_is (told := L) fun p hp => (hpc p hp).1
    have hel : (evsO L).length ≤ 10000 := by
      have key : ∀ (rest acc : List O2), (rest.foldl mrg acc).length ≤ acc.length + rest.length := fun rest => by
        induction rest with
        | nil => intro acc; simp
        | cons r rest ih =>
          intro acc
          rw [List.foldl_cons]
          have h1 := ih (mrg acc r)
          have h2 : (mrg acc r).length ≤ acc.length + 1 := by
            rcases List.eq_nil_or_concat acc with rfl | ⟨a0, z, rfl⟩
            · exact Nat.le_refl _
            · rw [List.concat_eq_append, mrg_snoc]
              split <;> simp
          rw [List.length_cons]; omega
      have := key (sortO (L.map evS)) []
      rw [(sortO_perm _).length_eq, List.length_map] at this
      have : (evsO L).length ≤ 0 + L.length := this
      omega
    have heq : ∀ m, ((evsO L).any fun p => inB p m) = L.any fun p => inB (evS p) m := fun m => by
      rw [Bool.eq_iff_iff, anyB_iff, hap.2 m, List.any_eq_true]
      exact exists_congr fun a => and_congr Iff.rfl inB_iff.symm
    have hnil : L = [] → evsO L = [] := fun z => by rw [z]; unfold evsO sortO; simp
    with_reducible refine N_thn ?_
    with_reducible refine XS_norm (by with_unfolding_all ((try simp only [setE, cutE, optD_none, optD_some, List.set_cons_zero, List.set_cons_succ, List.cons_append, List.nil_append, List.length_cons, List.length_nil, Nat.reduceAdd, List.take_succ_cons, List.take_zero]); exact Nf.rfl)) (by with_unfolding_all ((try simp only [setE, cutE, optD_none, optD_some, set_set, List.set_cons_zero, List.set_cons_succ]); exact Nf.rfl)) ?_
    with_reducible refine XS_cons ?_
    walk_at "s"
    refine ⟨_, _, rfl, rfl, ?_⟩
    walk_at "s"
    refine C_pick (by with_unfolding_all exact rfl) hp2 (by omega) (by simp) (by simp) fun x st3 hx hp3 => ?_
    have hd : x = .tup (L.map pcD) ∨ x = .lst (L.map pcD) := by
      simp only [List.mem_cons, List.not_mem_nil, or_false] at hx
      exact hx.symm
    refine isD_val ?_
    walk_at "s"
    have tail : XS T_law ([.ite (.or_ (.not_ (.ist .tup (.slot 4))) (.or_ (.not_ (.call 303 [.slot 4])) (.and_ (.cmp .eq (.slot 3) (.lst [])) (.cmp .ne (.slot 4) (.tup []))))) [.ret (.bl false)] [], .asg (.slot 5) (.lst [.int 0, .bin .pow (.int 10) (.int 31), .neg (.bin .pow (.int 10) (.int 31))]), .for_ (.tup [.slot 6, .tup [.slot 7, .slot 8]]) (.seq (.slot 3)) [.for_ (.slot 10) (.seq (.slot 6)) [.asg (.slot 5) (.bin .add (.slot 5) (.comp (.bin .add (.slot 9) (.slot 10)) (.slot 9) (.seq (.lst [.slot 7, .slot 8])) (some (.cmp .isn (.slot 9) .non)) [9]))]], .for_ (.slot 9) (.seq (.slot 5)) [.for_ (.slot 11) (.seq (.lst [.bin .sub (.slot 9) (.int 1), .slot 9, .bin .add (.slot 9) (.int 1)])) [.ite (.cmp .ne (.call 365 [.slot 4, .slot 11]) (.call 362 [.slot 3, .slot 11])) [.ret (.bl false)] []]]]) ⟨[.val (.rol scr), .val (.cell 0), .val tj, .val (.lst (L.map pcD)), .val (.tup ((evsO L).map oo)), s5, s6, s7, s8, s9, s10, s11], st3⟩ K' := by
      have hap1 := hap.1
      clear hd hx hp2 hap
      walk_at "s"
      refine ⟨true, rfl, ?_⟩
      walk_at "s"
      refine C_apartS (by with_unfolding_all exact rfl) hap1 hel ?_
      refine isV ?_
      walk_at "s"
      refine C_eqPc0 ?_
      have tail2 : XS T_law ([.asg (.slot 5) (.lst [.int 0, .bin .pow (.int 10) (.int 31), .neg (.bin .pow (.int 10) (.int 31))]), .for_ (.tup [.slot 6, .tup [.slot 7, .slot 8]]) (.seq (.slot 3)) [.for_ (.slot 10) (.seq (.slot 6)) [.asg (.slot 5) (.bin .add (.slot 5) (.comp (.bin .add (.slot 9) (.slot 10)) (.slot 9) (.seq (.lst [.slot 7, .slot 8])) (some (.cmp .isn (.slot 9) .non)) [9]))]], .for_ (.slot 9) (.seq (.slot 5)) [.for_ (.slot 11) (.seq (.lst [.bin .sub (.slot 9) (.int 1), .slot 9, .bin .add (.slot 9) (.int 1)])) [.ite (.cmp .ne (.call 365 [.slot 4, .slot 11]) (.call 362 [.slot 3, .slot 11])) [.ret (.bl false)] []]]]) ⟨[.val (.rol scr), .val (.cell 0), .val tj, .val (.lst (L.map pcD)), .val (.tup ((evsO L).map oo)), s5, s6, s7, s8, s9, s10, s11], st3⟩ K' := by
        clear hnil hel hap1
        walk_at "s"
        with_reducible refine N_thn ?_
        with_reducible refine XS_cons ?_
        refine X_forLK (α := (Int × Int) × O2) (AI_seq (AD_V (V_slot rfl ⟨_, rfl, pcD, L, fun l fr => ∃ (es : List Int) (s6 s7 s8 s10 : Slot), es.length + 4 * l.length ≤ 40 ∧ (∀ e ∈ es, EnOk e) ∧ (∀ p ∈ l, PcOk p) ∧ fr = ⟨[.val (.rol scr), .val (.cell 0), .val tj, .val (.lst (L.map pcD)), .val (.tup ((evsO L).map oo)), .own (es.map D.int), s6, s7, s8, s9, s10, s11], st3⟩, rfl, ⟨[0, 10000000000000000000000000000000, -10000000000000000000000000000000], _, _, _, _, by simp only [List.length_cons, List.length_nil]; omega, fun e he => by
          simp only [List.mem_cons, List.not_mem_nil, or_false] at he
          unfold EnOk
          omega, hpc, rfl⟩, ?_, ?_⟩)))
        · rintro ⟨⟨a, b⟩, c, d⟩ l fr ⟨es, s6, s7, s8, s10, hes, heo, hpl, rfl⟩
          refine ⟨_, rfl, fun K2 kp => ?_⟩
          have hpo := hpl _ (.head _)
          have nx := fun (es2 : List Int) (s10 : Slot) (h1 : es2.length ≤ es.length + 4) (h2 : ∀ e ∈ es2, EnOk e) => kp.next ⟨[.val (.rol scr), .val (.cell 0), .val tj, .val (.lst (L.map pcD)), .val (.tup ((evsO L).map oo)), .own (es2.map D.int), .val (phD (a, b)), .val (optD c), .val (optD d), s9, s10, s11], st3⟩ ⟨es2, _, _, _, _, by rw [List.length_cons] at hes; omega, h2, fun p hp => hpl p (.tail _ hp), rfl⟩
          clear kp hnx hpc
          have hes9 : es.length ≤ 40 := by omega
          rw [show phD (a, b) = .tup ([a, b].map D.int) from rfl] at *
          obtain ⟨_, b1, b2, b3, b4, b5, b6⟩ := hpo
          dsimp only at b1 b2 b3 b4 b5 b6
          with_reducible refine XS_cons ?_
          refine X_forLK (α := Int) (AI_seq (AD_V (V_slot rfl ⟨_, rfl, D.int, [a, b], fun l fr => ∃ (es2 : List Int) (s10 : Slot), es2.length + 2 * l.length ≤ es.length + 4 ∧ (∀ e ∈ es2, EnOk e) ∧ (∀ p ∈ l, p = a ∨ p = b) ∧ fr = ⟨[.val (.rol scr), .val (.cell 0), .val tj, .val (.lst (L.map pcD)), .val (.tup ((evsO L).map oo)), .own (es2.map D.int), .val (.tup ([a, b].map D.int)), .val (optD c), .val (optD d), s9, s10, s11], st3⟩, rfl, ⟨es, _, by simp, heo, fun p hp => by simpa using hp, rfl⟩, ?_, ?_⟩)))
          · rintro ph l2 fr ⟨es2, s10, h1, h2, h3, rfl⟩
            refine ⟨_, rfl, fun K3 kp => ?_⟩
            have hph : -10000 ≤ ph ∧ ph ≤ 10000 := by rcases h3 ph (.head _) with rfl | rfl <;> omega
            have nx3 := fun (es3 : List Int) (g1 : es3.length ≤ es2.length + 2) (g2 : ∀ e ∈ es3, EnOk e) => kp.next ⟨[.val (.rol scr), .val (.cell 0), .val tj, .val (.lst (L.map pcD)), .val (.tup ((evsO L).map oo)), .own (es3.map D.int), .val (.tup ([a, b].map D.int)), .val (optD c), .val (optD d), s9, .val (.int ph), s11], st3⟩ ⟨es3, _, by rw [List.length_cons] at h1; omega, g2, fun p hp => h3 p (.tail _ hp), rfl⟩
            clear kp nx hes heo hpl
            have hfr : ownFree [.val (.rol scr), .val (.cell 0), .val tj, .val (.lst (L.map pcD)), .val (.tup ((evsO L).map oo)), .own (es2.map D.int), .val (.tup ([a, b].map D.int)), .val (optD c), .val (optD d), s9, .val (.int ph), s11] [9] = true := by
              unfold ownFree
              cases s9 with
              | own zs => exact (h9 zs rfl).elim
              | _ => rfl
            walk_at "s"
            refine A_compF (α := Option Int) (AI_seq ?_)
            walk_at "s"
            refine ⟨_, rfl, optD, [c, d], fun o => o.isSome, fun o => .int (o.getD 0 + ph), rfl, hfr, rfl, by simp, fun o acc ho => ⟨_, rfl, rfl, ?_, ?_⟩, ?_⟩
            · cases o with
              | none => walk_at "s"; exact ⟨rfl, rfl⟩
              | some v => walk_at "s"; exact ⟨rfl, rfl⟩
            · intro hs
              cases o with
              | none => cases hs
              | some v => rw [optD_some]; walk_at "s"; exact ⟨rfl, rfl⟩
            · have eg : ([c, d].filter fun o => o.isSome).map (fun o => D.int (o.getD 0 + ph)) = (([c, d].filter fun o => o.isSome).map fun o => o.getD 0 + ph).map D.int := by rw [List.map_map]; rfl
              have hg : ∀ e ∈ (([c, d].filter fun o => o.isSome).map fun o => o.getD 0 + ph), EnOk e := fun e he => by
                obtain ⟨o, ho, rfl⟩ := List.mem_map.mp he
                obtain ⟨ho, hs⟩ := List.mem_filter.mp ho
                simp only [List.mem_cons, List.not_mem_nil, or_false] at ho
                unfold EnOk
                cases o with
                | none => cases hs
                | some v =>
                  show -100000000000000000000000000000000 ≤ v + ph ∧ v + ph ≤ 100000000000000000000000000000000
                  rcases ho with ho | ho
                  · have := b5 v ho.symm
                    omega
                  · have := b6 v ho.symm
                    omega
              have hl : (([c, d].filter fun o => o.isSome).map fun o => o.getD 0 + ph).length ≤ 2 := by
                rw [List.length_map]
                exact List.length_filter_le _ _
              rw [eg]
              generalize (([c, d].filter fun o => o.isSome).map fun o => o.getD 0 + ph) = g at hg hl
              refine ⟨_, _, _, rfl, rfl, opAdd44 (by rw [List.length_map, List.length_map]; omega), _, rfl, ?_⟩
              rw [← List.map_append]
              with_reducible refine N_thn (XS_nil ?_)
              exact nx3 (es2 ++ g) (by rw [List.length_append]; omega) fun e he => (List.mem_append.mp he).elim (h2 e) (hg e)
          · rintro fr ⟨es2, s10, h1, h2, h3, rfl⟩
            with_reducible refine N_thn (XS_nil ?_)
            exact nx es2 s10 (by simpa using h1) h2
        · rintro fr ⟨es, s6, s7, s8, s10, hes, heo, hpl, rfl⟩
          with_reducible refine N_thn ?_
          with_reducible refine XS_cons ?_
          refine X_forLK (α := Int) (AI_seq (D_own (by with_unfolding_all exact rfl) ⟨_, rfl, D.int, es, fun l fr => ∃ s9 s11, (∀ zs, s9 ≠ Slot.own zs) ∧ (∀ e ∈ l, EnOk e) ∧ fr = ⟨[.val (.rol scr), .val (.cell 0), .val tj, .val (.lst (L.map pcD)), .val (.tup ((evsO L).map oo)), .val (.lst (es.map D.int)), s6, s7, s8, s9, s10, s11], st3⟩, rfl, ⟨_, _, h9, heo, rfl⟩, ?_, ?_⟩))
          · rintro e l fr ⟨s9, s11, h9, heo, rfl⟩
            refine ⟨_, rfl, fun K2 kp => ?_⟩
            have he := heo e (.head _)
            unfold EnOk at he
            have nx := fun s11 => kp.next ⟨[.val (.rol scr), .val (.cell 0), .val tj, .val (.lst (L.map pcD)), .val (.tup ((evsO L).map oo)), .val (.lst (es.map D.int)), s6, s7, s8, .val (.int e), s10, s11], st3⟩ ⟨.val (.int e), _, (fun _ h => nomatch h), fun x hx => heo x (.tail _ hx), rfl⟩
            clear kp hnx hpc
            generalize D.lst (es.map D.int) = t5 at *
            with_reducible refine XS_cons ?_
            with_reducible refine X_forLK (α := Int) (AI_lst ?_)
            walk_at "s"
            refine ⟨D.int, [e - 1, e, e + 1], fun l fr => ∃ s11, fr = ⟨[.val (.rol scr), .val (.cell 0), .val tj, .val (.lst (L.map pcD)), .val (.tup ((evsO L).map oo)), .val t5, s6, s7, s8, .val (.int e), s10, s11], st3⟩, rfl, ⟨_, rfl⟩, ?_, ?_⟩
            · rintro m l2 fr ⟨s11, rfl⟩
              refine ⟨_, rfl, fun K3 kp => ?_⟩
              have nx3 := kp.next ⟨[.val (.rol scr), .val (.cell 0), .val tj, .val (.lst (L.map pcD)), .val (.tup ((evsO L).map oo)), .val t5, s6, s7, s8, .val (.int e), s10, .val (.int m)], st3⟩ ⟨_, rfl⟩
              clear kp nx
              walk_at "s"
              refine C_in (by with_unfolding_all exact rfl) ?_
              refine isV ?_
              walk_at "s"
              refine C_has2 (by with_unfolding_all exact rfl) ?_
              refine isV ?_
              refine C_neBs (heq m) ?_
              walk_at "s"
              with_reducible refine N_thn (XS_nil ?_)
              exact nx3
            · rintro fr ⟨s11, rfl⟩
              with_reducible refine N_thn (XS_nil ?_)
              exact nx _
          · rintro fr ⟨s9, s11, h9, heo, rfl⟩
            with_reducible refine N_thn (XS_nil ?_)
            exact hnx _ _ _ _ _ _ _ _ _ _ h9 (hp3.mono (by push_cast; omega))
      by_cases hz : L = []
      · have hz2 := hnil hz
        rw [decide_eq_true hz]
        walk_at "s"
        rw [hz2]
        refine ⟨false, rfl, ?_⟩
        walk_at "s"
        rw [← hz2]
        with_reducible refine N_thn ?_
        exact tail2
      · rw [decide_eq_false hz]
        walk_at "s"
        with_reducible refine N_thn ?_
        exact tail2
    rcases hd with rfl | rfl
    · refine C_eventsOf (by with_unfolding_all exact rfl) (by omega) ?_
      refine isS_val ?_
      with_reducible refine N_thn ?_
      exact tail
    · refine C_eventsOfL (by with_unfolding_all exact rfl) (by omega) ?_
      refine isS_val ?_
      with_reducible refine N_thn ?_
      exact tail
  · rintro fr ⟨_, st, s2, s3, s4, s5, s6, s7, s8, s9, s10, s11, h9, hp, rfl⟩
    refine N_thn ?_
    walk_at "s"
    exact hret _ _ rfl))) Xq9.mk
end
end
open PySem PySem.Spec PyProof.Rows L2
theorem atT_nd : atT.Nodup := by decide +kernel
theorem atT_ns : atT.all (fun s => decide (s.cps.size < 1000)) = true := by decide +kernel
theorem q_law_are_apart {l : PySem.W.OpenLaw} {w : World} {K : PySem.W.Frag} {h : Heap} {mg : Str → Option Value} {f1 : Addr} {od1 an1 : Option Addr} {sl1 : Array (Option Value)} {oc1 kV1 dc1 pm1 cd1 ct1 : Value} (X : K.In h) (G : h.Ns mainGlobals mg) (a1 : PySem.W.nsIn K mainGlobals "_law_are_apart" = some (some (.ref f1))) (l1 : K.lookup f1 = some ⟨oc1, od1, .func (PySem.W.fnOf "_law_are_apart" "_law_are_apart" (defArgs s_law_are_apart) (defBody s_law_are_apart) (defScope s_law_are_apart) .none kV1 dc1 pm1 an1 cd1 ct1), sl1⟩) (c1 : PySem.W.codeIn K cd1 "_law_are_apart" = true) (k1 : PySem.W.keepIn K (.ref f1) = true)  (z_len : PySem.W.nsIn K mainGlobals "len" = some none) (z_range : PySem.W.nsIn K mainGlobals "range" = some none)    :
    ∀ base : Heap, Good l.prog w K mg base (glbT K [] atT) 1 "_law_are_apart" p_law_are_apart := @Rq9 _ _ (fun qz => @Hq9.get _ _ (qz.bar : Hq9 _ (by
  clear qz
  have F1 := fun_mk (st := s_law_are_apart) l1 c1 k1
  have b1 := F1.binds (ps := ["_law_stretches"]) fun _ _ _ _ _ _ us hl => match us, hl with | [_], _ => rfl
  have hfl1 : ∀ c f, fldT [] c f = true → Cls K (clT [] c) ∧ NoAttr K (clT [] c) (fnT atT f) := fld_nil
  have o1 : ∀ base : Heap, FnOk l.prog w K mg base (L2.CX l.prog w) 1 f1 _ ["_law_stretches"] (spI (glbT K [] atT) 1 p_law_are_apart) := fun base => def_ok (T := T_law_are_apart) (C := c_law_are_apart) (n := 60) (body := b_law_are_apart) (phi := p_law_are_apart) (baseT (cs := []) (tab := atT) atT_nd atT_ns hfl1 nms_nil rfl (blts_cons (PySem.W.mg_none_of X G z_len) (blts_cons (PySem.W.mg_none_of X G z_range) blts_nil))) F1 sc_law_are_apart fns_nil (fun m _ c i e => (psi_nil : ∀ c m i, psiT [] c m = some i → GoodM l.prog w K mg base (glbT K [] atT) 0 c m (T_law_are_apart.phi i)) c m i e) rfl cv_law_are_apart (by decide) (hphi := fun ds sto h => fx_len (T := T_law_are_apart) (np := 1) (n := 3) (body := b_law_are_apart) h)
  exact fun base => def_good F1 (PySem.W.mg_of X G a1) b1 (o1 base) fun ds sto h => (fx_len (T := T_law_are_apart) (np := 1) (n := 3) (body := b_law_are_apart) h).1))) Xq9.mk
theorem q_law_has_v2 {l : PySem.W.OpenLaw} {w : World} {K : PySem.W.Frag} {h : Heap} {mg : Str → Option Value} {f2 : Addr} {od2 an2 : Option Addr} {sl2 : Array (Option Value)} {oc2 kV2 dc2 pm2 cd2 ct2 : Value} (X : K.In h) (G : h.Ns mainGlobals mg) (a2 : PySem.W.nsIn K mainGlobals "_law_has" = some (some (.ref f2))) (l2 : K.lookup f2 = some ⟨oc2, od2, .func (PySem.W.fnOf "_law_has" "_law_has" (defArgs s_law_has_v2) (defBody s_law_has_v2) (defScope s_law_has_v2) .none kV2 dc2 pm2 an2 cd2 ct2), sl2⟩) (c2 : PySem.W.codeIn K cd2 "_law_has" = true) (k2 : PySem.W.keepIn K (.ref f2) = true)      :
    ∀ base : Heap, Good l.prog w K mg base (glbT K [] atT) 2 "_law_has" p_law_has_v2 := @Rq9 _ _ (fun qz => @Hq9.get _ _ (qz.bar : Hq9 _ (by
  clear qz
  have F2 := fun_mk (st := s_law_has_v2) l2 c2 k2
  have b2 := F2.binds (ps := ["_law_told", "_law_moment"]) fun _ _ _ _ _ _ us hl => match us, hl with | [_, _], _ => rfl
  have hfl2 : ∀ c f, fldT [] c f = true → Cls K (clT [] c) ∧ NoAttr K (clT [] c) (fnT atT f) := fld_nil
  have o2 : ∀ base : Heap, FnOk l.prog w K mg base (L2.CX l.prog w) 2 f2 _ ["_law_told", "_law_moment"] (spI (glbT K [] atT) 2 p_law_has_v2) := fun base => def_ok (T := T_law_has_v2) (C := c_law_has_v2) (n := 60) (body := b_law_has_v2) (phi := p_law_has_v2) (baseT (cs := []) (tab := atT) atT_nd atT_ns hfl2 nms_nil rfl blts_nil) F2 sc_law_has_v2 fns_nil (fun m _ c i e => (psi_nil : ∀ c m i, psiT [] c m = some i → GoodM l.prog w K mg base (glbT K [] atT) 1 c m (T_law_has_v2.phi i)) c m i e) rfl cv_law_has_v2 (by decide) (hphi := fun ds sto h => fx_len (T := T_law_has_v2) (np := 2) (n := 6) (body := b_law_has_v2) h)
  exact fun base => def_good F2 (PySem.W.mg_of X G a2) b2 (o2 base) fun ds sto h => (fx_len (T := T_law_has_v2) (np := 2) (n := 6) (body := b_law_has_v2) h).1))) Xq9.mk
theorem q_law_in {l : PySem.W.OpenLaw} {w : World} {K : PySem.W.Frag} {h : Heap} {mg : Str → Option Value} {f3 : Addr} {od3 an3 : Option Addr} {sl3 : Array (Option Value)} {oc3 kV3 dc3 pm3 cd3 ct3 : Value} (X : K.In h) (G : h.Ns mainGlobals mg) (a3 : PySem.W.nsIn K mainGlobals "_law_in" = some (some (.ref f3))) (l3 : K.lookup f3 = some ⟨oc3, od3, .func (PySem.W.fnOf "_law_in" "_law_in" (defArgs s_law_in) (defBody s_law_in) (defScope s_law_in) .none kV3 dc3 pm3 an3 cd3 ct3), sl3⟩) (c3 : PySem.W.codeIn K cd3 "_law_in" = true) (k3 : PySem.W.keepIn K (.ref f3) = true)      :
    ∀ base : Heap, Good l.prog w K mg base (glbT K [] atT) 3 "_law_in" p_law_in := @Rq9 _ _ (fun qz => @Hq9.get _ _ (qz.bar : Hq9 _ (by
  clear qz
  have F3 := fun_mk (st := s_law_in) l3 c3 k3
  have b3 := F3.binds (ps := ["_law_stretches", "_law_moment"]) fun _ _ _ _ _ _ us hl => match us, hl with | [_, _], _ => rfl
  have hfl3 : ∀ c f, fldT [] c f = true → Cls K (clT [] c) ∧ NoAttr K (clT [] c) (fnT atT f) := fld_nil
  have o3 : ∀ base : Heap, FnOk l.prog w K mg base (L2.CX l.prog w) 3 f3 _ ["_law_stretches", "_law_moment"] (spI (glbT K [] atT) 2 p_law_in) := fun base => def_ok (T := T_law_in) (C := c_law_in) (n := 60) (body := b_law_in) (phi := p_law_in) (baseT (cs := []) (tab := atT) atT_nd atT_ns hfl3 nms_nil rfl blts_nil) F3 sc_law_in fns_nil (fun m _ c i e => (psi_nil : ∀ c m i, psiT [] c m = some i → GoodM l.prog w K mg base (glbT K [] atT) 2 c m (T_law_in.phi i)) c m i e) rfl cv_law_in (by decide) (hphi := fun ds sto h => fx_len (T := T_law_in) (np := 2) (n := 4) (body := b_law_in) h)
  exact fun base => def_good F3 (PySem.W.mg_of X G a3) b3 (o3 base) fun ds sto h => (fx_len (T := T_law_in) (np := 2) (n := 4) (body := b_law_in) h).1))) Xq9.mk
theorem q_law_pen {l : PySem.W.OpenLaw} {w : World} {K : PySem.W.Frag} {h : Heap} {mg : Str → Option Value} {f4 : Addr} {od4 an4 : Option Addr} {sl4 : Array (Option Value)} {oc4 kV4 dc4 pm4 cd4 ct4 : Value} (X : K.In h) (G : h.Ns mainGlobals mg) (a4 : PySem.W.nsIn K mainGlobals "_law_pen" = some (some (.ref f4))) (l4 : K.lookup f4 = some ⟨oc4, od4, .func (PySem.W.fnOf "_law_pen" "_law_pen" (defArgs s_law_pen) (defBody s_law_pen) (defScope s_law_pen) .none kV4 dc4 pm4 an4 cd4 ct4), sl4⟩) (c4 : PySem.W.codeIn K cd4 "_law_pen" = true) (k4 : PySem.W.keepIn K (.ref f4) = true)  (z_list : PySem.W.nsIn K mainGlobals "list" = some none)    :
    ∀ base : Heap, Good l.prog w K mg base (glbT K [] atT) 4 "_law_pen" p_pen := @Rq9 _ _ (fun qz => @Hq9.get _ _ (qz.bar : Hq9 _ (by
  clear qz
  have F4 := fun_mk (st := s_law_pen) l4 c4 k4
  have b4 := F4.binds (ps := ["_law_script"]) fun _ _ _ _ _ _ us hl => match us, hl with | [_], _ => rfl
  have hf0 : ∀ c f, (fun _ _ => false : Nat → Nat → Bool) c f = true → Cls K (clT [] c) ∧ NoAttr K (clT [] c) (fnT atT f) := fun c f e => nomatch e
  have o4 : ∀ base : Heap, FnOk l.prog w K mg base (L2.CX l.prog w) 4 f4 _ ["_law_script"] (spI (glbT K [] atT) 1 p_pen) := fun base => def_ok (T := T0) (C := c_law_pen) (n := 60) (body := b_pen) (phi := p_pen) (baseT (cs := []) (tab := atT) atT_nd atT_ns hf0 nms_nil rfl (blts_cons (PySem.W.mg_none_of X G z_list) blts_nil)) F4 sc_law_pen fns_nil (fun m _ c i e => nomatch e) rfl cv_law_pen (by decide) (hphi := fun ds sto h => fx_len (T := T0) (np := 1) (n := 1) (body := b_pen) h)
  exact fun base => def_good F4 (PySem.W.mg_of X G a4) b4 (o4 base) fun ds sto h => (fx_len (T := T0) (np := 1) (n := 1) (body := b_pen) h).1))) Xq9.mk
theorem q_law_draw {l : PySem.W.OpenLaw} {w : World} {K : PySem.W.Frag} {h : Heap} {mg : Str → Option Value} {f5 : Addr} {od5 an5 : Option Addr} {sl5 : Array (Option Value)} {oc5 kV5 dc5 pm5 cd5 ct5 : Value} (X : K.In h) (G : h.Ns mainGlobals mg) (a5 : PySem.W.nsIn K mainGlobals "_law_draw" = some (some (.ref f5))) (l5 : K.lookup f5 = some ⟨oc5, od5, .func (PySem.W.fnOf "_law_draw" "_law_draw" (defArgs s_law_draw) (defBody s_law_draw) (defScope s_law_draw) .none kV5 dc5 pm5 an5 cd5 ct5), sl5⟩) (c5 : PySem.W.codeIn K cd5 "_law_draw" = true) (k5 : PySem.W.keepIn K (.ref f5) = true)  (z_int : PySem.W.nsIn K mainGlobals "int" = some none) (z_len : PySem.W.nsIn K mainGlobals "len" = some none)    :
    ∀ base : Heap, Good l.prog w K mg base (glbT K [] atT) 5 "_law_draw" p_draw := @Rq9 _ _ (fun qz => @Hq9.get _ _ (qz.bar : Hq9 _ (by
  clear qz
  have F5 := fun_mk (st := s_law_draw) l5 c5 k5
  have b5 := F5.binds (ps := ["_law_pen_here", "_law_many"]) fun _ _ _ _ _ _ us hl => match us, hl with | [_, _], _ => rfl
  have hf0 : ∀ c f, (fun _ _ => false : Nat → Nat → Bool) c f = true → Cls K (clT [] c) ∧ NoAttr K (clT [] c) (fnT atT f) := fun c f e => nomatch e
  have o5 : ∀ base : Heap, FnOk l.prog w K mg base (L2.CX l.prog w) 5 f5 _ ["_law_pen_here", "_law_many"] (spI (glbT K [] atT) 2 p_draw) := fun base => def_ok (T := T0) (C := c_law_draw) (n := 60) (body := b_draw) (phi := p_draw) (baseT (cs := []) (tab := atT) atT_nd atT_ns hf0 nms_nil rfl (blts_cons (PySem.W.mg_none_of X G z_int) (blts_cons (PySem.W.mg_none_of X G z_len) blts_nil))) F5 sc_law_draw fns_nil (fun m _ c i e => nomatch e) rfl cv_law_draw (by decide) (hphi := fun ds sto h => fx_len (T := T0) (np := 2) (n := 6) (body := b_draw) h)
  exact fun base => def_good F5 (PySem.W.mg_of X G a5) b5 (o5 base) fun ds sto h => (fx_len (T := T0) (np := 2) (n := 6) (body := b_draw) h).1))) Xq9.mk
theorem q_law_pick {l : PySem.W.OpenLaw} {w : World} {K : PySem.W.Frag} {h : Heap} {mg : Str → Option Value} {f6 : Addr} {od6 an6 : Option Addr} {sl6 : Array (Option Value)} {oc6 kV6 dc6 pm6 cd6 ct6 : Value} (X : K.In h) (G : h.Ns mainGlobals mg) (a6 : PySem.W.nsIn K mainGlobals "_law_pick" = some (some (.ref f6))) (l6 : K.lookup f6 = some ⟨oc6, od6, .func (PySem.W.fnOf "_law_pick" "_law_pick" (defArgs s_law_pick) (defBody s_law_pick) (defScope s_law_pick) .none kV6 dc6 pm6 an6 cd6 ct6), sl6⟩) (c6 : PySem.W.codeIn K cd6 "_law_pick" = true) (k6 : PySem.W.keepIn K (.ref f6) = true)  (z_len : PySem.W.nsIn K mainGlobals "len" = some none)  (g5 : ∀ base : Heap, Good l.prog w K mg base (glbT K [] atT) 5 "_law_draw" p_draw)  :
    ∀ base : Heap, Good l.prog w K mg base (glbT K [] atT) 6 "_law_pick" p_pick := @Rq9 _ _ (fun qz => @Hq9.get _ _ (qz.bar : Hq9 _ (by
  clear qz
  have F6 := fun_mk (st := s_law_pick) l6 c6 k6
  have b6 := F6.binds (ps := ["_law_pen_here", "_law_items"]) fun _ _ _ _ _ _ us hl => match us, hl with | [_, _], _ => rfl
  have hf0 : ∀ c f, (fun _ _ => false : Nat → Nat → Bool) c f = true → Cls K (clT [] c) ∧ NoAttr K (clT [] c) (fnT atT f) := fun c f e => nomatch e
  have o6 : ∀ base : Heap, FnOk l.prog w K mg base (L2.CX l.prog w) 6 f6 _ ["_law_pen_here", "_law_items"] (spI (glbT K [] atT) 2 p_pick) := fun base => def_ok (T := T_pick) (C := c_law_pick) (n := 60) (body := b_pick) (phi := p_pick) (baseT (cs := []) (tab := atT) atT_nd atT_ns hf0 nms_nil rfl (blts_cons (PySem.W.mg_none_of X G z_len) blts_nil)) F6 sc_law_pick (fns_cons (Good.mono (phi := p_draw) (g5 base) (by decide)) fns_nil) (fun m _ c i e => nomatch e) rfl cv_law_pick (by decide) (hphi := fun ds sto h => fx_len (T := T_pick) (np := 2) (n := 2) (body := b_pick) h)
  exact fun base => def_good F6 (PySem.W.mg_of X G a6) b6 (o6 base) fun ds sto h => (fx_len (T := T_pick) (np := 2) (n := 2) (body := b_pick) h).1))) Xq9.mk
theorem q_law_pieces {l : PySem.W.OpenLaw} {w : World} {K : PySem.W.Frag} {h : Heap} {mg : Str → Option Value} {f7 : Addr} {od7 an7 : Option Addr} {sl7 : Array (Option Value)} {oc7 kV7 dc7 pm7 cd7 ct7 : Value} (X : K.In h) (G : h.Ns mainGlobals mg) (a7 : PySem.W.nsIn K mainGlobals "_law_pieces" = some (some (.ref f7))) (l7 : K.lookup f7 = some ⟨oc7, od7, .func (PySem.W.fnOf "_law_pieces" "_law_pieces" (defArgs s_law_pieces) (defBody s_law_pieces) (defScope s_law_pieces) .none kV7 dc7 pm7 an7 cd7 ct7), sl7⟩) (c7 : PySem.W.codeIn K cd7 "_law_pieces" = true) (k7 : PySem.W.keepIn K (.ref f7) = true)  (z_range : PySem.W.nsIn K mainGlobals "range" = some none)  (g5 : ∀ base : Heap, Good l.prog w K mg base (glbT K [] atT) 5 "_law_draw" p_draw)  :
    ∀ base : Heap, Good l.prog w K mg base (glbT K [] atT) 7 "_law_pieces" p_law_pieces := @Rq9 _ _ (fun qz => @Hq9.get _ _ (qz.bar : Hq9 _ (by
  clear qz
  have F7 := fun_mk (st := s_law_pieces) l7 c7 k7
  have b7 := F7.binds (ps := ["_law_pen_here", "_law_size"]) fun _ _ _ _ _ _ us hl => match us, hl with | [_, _], _ => rfl
  have hfl7 : ∀ c f, fldT [] c f = true → Cls K (clT [] c) ∧ NoAttr K (clT [] c) (fnT atT f) := fld_nil
  have o7 : ∀ base : Heap, FnOk l.prog w K mg base (L2.CX l.prog w) 7 f7 _ ["_law_pen_here", "_law_size"] (spI (glbT K [] atT) 2 p_law_pieces) := fun base => def_ok (T := T_law_pieces) (C := c_law_pieces) (n := 60) (body := b_law_pieces) (phi := p_law_pieces) (baseT (cs := []) (tab := atT) atT_nd atT_ns hfl7 nms_nil rfl (blts_cons (PySem.W.mg_none_of X G z_range) blts_nil)) F7 sc_law_pieces (fns_cons (Good.mono (phi := p_draw) (g5 base) (by decide)) fns_nil) (fun m _ c i e => (psi_nil : ∀ c m i, psiT [] c m = some i → GoodM l.prog w K mg base (glbT K [] atT) 6 c m (T_law_pieces.phi i)) c m i e) rfl cv_law_pieces (by decide) (hphi := fun ds sto h => fx_len (T := T_law_pieces) (np := 2) (n := 8) (body := b_law_pieces) h)
  exact fun base => def_good F7 (PySem.W.mg_of X G a7) b7 (o7 base) fun ds sto h => (fx_len (T := T_law_pieces) (np := 2) (n := 8) (body := b_law_pieces) h).1))) Xq9.mk
theorem q_joined_stretch {l : PySem.W.OpenLaw} {w : World} {K : PySem.W.Frag} {h : Heap} {mg : Str → Option Value} {f8 : Addr} {od8 an8 : Option Addr} {sl8 : Array (Option Value)} {oc8 kV8 dc8 pm8 cd8 ct8 : Value} (X : K.In h) (G : h.Ns mainGlobals mg) (a8 : PySem.W.nsIn K mainGlobals "joined_stretch" = some (some (.ref f8))) (l8 : K.lookup f8 = some ⟨oc8, od8, .func (PySem.W.fnOf "joined_stretch" "joined_stretch" (defArgs s_joined_stretch) (defBody s_joined_stretch) (defScope s_joined_stretch) .none kV8 dc8 pm8 an8 cd8 ct8), sl8⟩) (c8 : PySem.W.codeIn K cd8 "joined_stretch" = true) (k8 : PySem.W.keepIn K (.ref f8) = true)  (z_int : PySem.W.nsIn K mainGlobals "int" = some none) (z_max : PySem.W.nsIn K mainGlobals "max" = some none)    :
    ∀ base : Heap, Good l.prog w K mg base (glbT K [] atT) 8 "joined_stretch" p_joined_stretch := @Rq9 _ _ (fun qz => @Hq9.get _ _ (qz.bar : Hq9 _ (by
  clear qz
  have F8 := fun_mk (st := s_joined_stretch) l8 c8 k8
  have b8 := F8.binds (ps := ["one", "other"]) fun _ _ _ _ _ _ us hl => match us, hl with | [_, _], _ => rfl
  have hfl8 : ∀ c f, fldT [] c f = true → Cls K (clT [] c) ∧ NoAttr K (clT [] c) (fnT atT f) := fld_nil
  have o8 : ∀ base : Heap, FnOk l.prog w K mg base (L2.CX l.prog w) 8 f8 _ ["one", "other"] (spI (glbT K [] atT) 2 p_joined_stretch) := fun base => def_ok (T := T_joined_stretch) (C := c_joined_stretch) (n := 60) (body := b_joined_stretch) (phi := p_joined_stretch) (baseT (cs := []) (tab := atT) atT_nd atT_ns hfl8 nms_nil rfl (blts_cons (PySem.W.mg_none_of X G z_int) (blts_cons (PySem.W.mg_none_of X G z_max) blts_nil))) F8 sc_joined_stretch fns_nil (fun m _ c i e => (psi_nil : ∀ c m i, psiT [] c m = some i → GoodM l.prog w K mg base (glbT K [] atT) 7 c m (T_joined_stretch.phi i)) c m i e) rfl cv_joined_stretch (by decide) (hphi := fun ds sto h => fx_len (T := T_joined_stretch) (np := 2) (n := 2) (body := b_joined_stretch) h)
  exact fun base => def_good F8 (PySem.W.mg_of X G a8) b8 (o8 base) fun ds sto h => (fx_len (T := T_joined_stretch) (np := 2) (n := 2) (body := b_joined_stretch) h).1))) Xq9.mk
theorem q_low_first {l : PySem.W.OpenLaw} {w : World} {K : PySem.W.Frag} {h : Heap} {mg : Str → Option Value} {f9 : Addr} {od9 an9 : Option Addr} {sl9 : Array (Option Value)} {oc9 kV9 dc9 pm9 cd9 ct9 : Value} (X : K.In h) (G : h.Ns mainGlobals mg) (a9 : PySem.W.nsIn K mainGlobals "low_first" = some (some (.ref f9))) (l9 : K.lookup f9 = some ⟨oc9, od9, .func (PySem.W.fnOf "low_first" "low_first" (defArgs s_low_first) (defBody s_low_first) (defScope s_low_first) .none kV9 dc9 pm9 an9 cd9 ct9), sl9⟩) (c9 : PySem.W.codeIn K cd9 "low_first" = true) (k9 : PySem.W.keepIn K (.ref f9) = true)      :
    ∀ base : Heap, Good l.prog w K mg base (glbT K [] atT) 9 "low_first" p_low_first := @Rq9 _ _ (fun qz => @Hq9.get _ _ (qz.bar : Hq9 _ (by
  clear qz
  have F9 := fun_mk (st := s_low_first) l9 c9 k9
  have b9 := F9.binds (ps := ["stretch"]) fun _ _ _ _ _ _ us hl => match us, hl with | [_], _ => rfl
  have hfl9 : ∀ c f, fldT [] c f = true → Cls K (clT [] c) ∧ NoAttr K (clT [] c) (fnT atT f) := fld_nil
  have o9 : ∀ base : Heap, FnOk l.prog w K mg base (L2.CX l.prog w) 9 f9 _ ["stretch"] (spI (glbT K [] atT) 1 p_low_first) := fun base => def_ok (T := T_low_first) (C := c_low_first) (n := 60) (body := b_low_first) (phi := p_low_first) (baseT (cs := []) (tab := atT) atT_nd atT_ns hfl9 nms_nil rfl blts_nil) F9 sc_low_first fns_nil (fun m _ c i e => (psi_nil : ∀ c m i, psiT [] c m = some i → GoodM l.prog w K mg base (glbT K [] atT) 8 c m (T_low_first.phi i)) c m i e) rfl cv_low_first (by decide) (hphi := fun ds sto h => fx_len (T := T_low_first) (np := 1) (n := 1) (body := b_low_first) h)
  exact fun base => def_good F9 (PySem.W.mg_of X G a9) b9 (o9 base) fun ds sto h => (fx_len (T := T_low_first) (np := 1) (n := 1) (body := b_low_first) h).1))) Xq9.mk
theorem qk_low_first {l : PySem.W.OpenLaw} {w : World} {K : PySem.W.Frag} {h : Heap} {mg : Str → Option Value} {f9 : Addr} {od9 an9 : Option Addr} {sl9 : Array (Option Value)} {oc9 kV9 dc9 pm9 cd9 ct9 : Value} (X : K.In h) (G : h.Ns mainGlobals mg) (a9 : PySem.W.nsIn K mainGlobals "low_first" = some (some (.ref f9))) (l9 : K.lookup f9 = some ⟨oc9, od9, .func (PySem.W.fnOf "low_first" "low_first" (defArgs s_low_first) (defBody s_low_first) (defScope s_low_first) .none kV9 dc9 pm9 an9 cd9 ct9), sl9⟩) (c9 : PySem.W.codeIn K cd9 "low_first" = true) (k9 : PySem.W.keepIn K (.ref f9) = true)      :
    ∀ base : Heap, GoodK l.prog w K mg base (glbT K [] atT) 11 "low_first" p_low_first := @Rq9 _ _ (fun qz => @Hq9.get _ _ (qz.bar : Hq9 _ (by
  clear qz
  have F9 := fun_mk (st := s_low_first) l9 c9 k9
  have b9 := F9.binds (ps := ["stretch"]) fun _ _ _ _ _ _ us hl => match us, hl with | [_], _ => rfl
  have hfl9 : ∀ c f, fldT [] c f = true → Cls K (clT [] c) ∧ NoAttr K (clT [] c) (fnT atT f) := fld_nil
  have o9 : ∀ base : Heap, FnOk l.prog w K mg base (L2.CX l.prog w) 9 f9 _ ["stretch"] (spI (glbT K [] atT) 1 p_low_first) := fun base => def_ok (T := T_low_first) (C := c_low_first) (n := 60) (body := b_low_first) (phi := p_low_first) (baseT (cs := []) (tab := atT) atT_nd atT_ns hfl9 nms_nil rfl blts_nil) F9 sc_low_first fns_nil (fun m _ c i e => (psi_nil : ∀ c m i, psiT [] c m = some i → GoodM l.prog w K mg base (glbT K [] atT) 8 c m (T_low_first.phi i)) c m i e) rfl cv_low_first (by decide) (hphi := fun ds sto h => fx_len (T := T_low_first) (np := 1) (n := 1) (body := b_low_first) h)
  exact fun base => def_goodK F9 (PySem.W.mg_of X G a9) b9 rfl (o9 base)))) Xq9.mk
theorem q_touches {l : PySem.W.OpenLaw} {w : World} {K : PySem.W.Frag} {h : Heap} {mg : Str → Option Value} {f10 : Addr} {od10 an10 : Option Addr} {sl10 : Array (Option Value)} {oc10 kV10 dc10 pm10 cd10 ct10 : Value} (X : K.In h) (G : h.Ns mainGlobals mg) (a10 : PySem.W.nsIn K mainGlobals "touches" = some (some (.ref f10))) (l10 : K.lookup f10 = some ⟨oc10, od10, .func (PySem.W.fnOf "touches" "touches" (defArgs s_touches) (defBody s_touches) (defScope s_touches) .none kV10 dc10 pm10 an10 cd10 ct10), sl10⟩) (c10 : PySem.W.codeIn K cd10 "touches" = true) (k10 : PySem.W.keepIn K (.ref f10) = true)      :
    ∀ base : Heap, Good l.prog w K mg base (glbT K [] atT) 10 "touches" p_touches := @Rq9 _ _ (fun qz => @Hq9.get _ _ (qz.bar : Hq9 _ (by
  clear qz
  have F10 := fun_mk (st := s_touches) l10 c10 k10
  have b10 := F10.binds (ps := ["one", "other"]) fun _ _ _ _ _ _ us hl => match us, hl with | [_, _], _ => rfl
  have hfl10 : ∀ c f, fldT [] c f = true → Cls K (clT [] c) ∧ NoAttr K (clT [] c) (fnT atT f) := fld_nil
  have o10 : ∀ base : Heap, FnOk l.prog w K mg base (L2.CX l.prog w) 10 f10 _ ["one", "other"] (spI (glbT K [] atT) 2 p_touches) := fun base => def_ok (T := T_touches) (C := c_touches) (n := 60) (body := b_touches) (phi := p_touches) (baseT (cs := []) (tab := atT) atT_nd atT_ns hfl10 nms_nil rfl blts_nil) F10 sc_touches fns_nil (fun m _ c i e => (psi_nil : ∀ c m i, psiT [] c m = some i → GoodM l.prog w K mg base (glbT K [] atT) 9 c m (T_touches.phi i)) c m i e) rfl cv_touches (by decide) (hphi := fun ds sto h => fx_len (T := T_touches) (np := 2) (n := 2) (body := b_touches) h)
  exact fun base => def_good F10 (PySem.W.mg_of X G a10) b10 (o10 base) fun ds sto h => (fx_len (T := T_touches) (np := 2) (n := 2) (body := b_touches) h).1))) Xq9.mk
theorem q_events_of {l : PySem.W.OpenLaw} {w : World} {K : PySem.W.Frag} {h : Heap} {mg : Str → Option Value} {f11 : Addr} {od11 an11 : Option Addr} {sl11 : Array (Option Value)} {oc11 kV11 dc11 pm11 cd11 ct11 : Value} (X : K.In h) (G : h.Ns mainGlobals mg) (a11 : PySem.W.nsIn K mainGlobals "events_of" = some (some (.ref f11))) (l11 : K.lookup f11 = some ⟨oc11, od11, .func (PySem.W.fnOf "events_of" "events_of" (defArgs s_events_of) (defBody s_events_of) (defScope s_events_of) .none kV11 dc11 pm11 an11 cd11 ct11), sl11⟩) (c11 : PySem.W.codeIn K cd11 "events_of" = true) (k11 : PySem.W.keepIn K (.ref f11) = true)  (z_sorted : PySem.W.nsIn K mainGlobals "sorted" = some none) (z_tuple : PySem.W.nsIn K mainGlobals "tuple" = some none)  (g10 : ∀ base : Heap, Good l.prog w K mg base (glbT K [] atT) 10 "touches" p_touches) (g9 : ∀ base : Heap, Good l.prog w K mg base (glbT K [] atT) 9 "low_first" p_low_first) (g8 : ∀ base : Heap, Good l.prog w K mg base (glbT K [] atT) 8 "joined_stretch" p_joined_stretch) (gk9 : ∀ base : Heap, GoodK l.prog w K mg base (glbT K [] atT) 11 "low_first" p_low_first) :
    ∀ base : Heap, Good l.prog w K mg base (glbT K [] atT) 12 "events_of" p_events_of := @Rq9 _ _ (fun qz => @Hq9.get _ _ (qz.bar : Hq9 _ (by
  clear qz
  have F11 := fun_mk (st := s_events_of) l11 c11 k11
  have b11 := F11.binds (ps := ["told"]) fun _ _ _ _ _ _ us hl => match us, hl with | [_], _ => rfl
  have hfl11 : ∀ c f, fldT [] c f = true → Cls K (clT [] c) ∧ NoAttr K (clT [] c) (fnT atT f) := fld_nil
  have o11 : ∀ base : Heap, FnOk l.prog w K mg base (L2.CX l.prog w) 12 f11 _ ["told"] (spI (glbT K [] atT) 1 p_events_of) := fun base => def_ok (T := T_events_of) (C := c_events_of) (n := 60) (body := b_events_of) (phi := p_events_of) (baseT (cs := []) (tab := atT) atT_nd atT_ns hfl11 nms_nil rfl (blts_cons (PySem.W.mg_none_of X G z_sorted) (blts_cons (PySem.W.mg_none_of X G z_tuple) blts_nil))) F11 sc_events_of (fns_cons (Good.mono (phi := p_joined_stretch) (g8 base) (by decide)) (fns_cons (Good.mono (phi := p_low_first) (g9 base) (by decide)) (fns_cons (Good.mono (phi := p_touches) (g10 base) (by decide)) fns_nil))) (fun m _ c i e => (psi_nil : ∀ c m i, psiT [] c m = some i → GoodM l.prog w K mg base (glbT K [] atT) 11 c m (T_events_of.phi i)) c m i e) rfl cv_events_of (by decide) (hphi := fun ds sto h => fx_len (T := T_events_of) (np := 1) (n := 8) (body := b_events_of) h) (hsr := (fns_cons (GoodK.mono (phi := p_low_first) (gk9 base) (by decide)) fns_nil))
  exact fun base => def_good F11 (PySem.W.mg_of X G a11) b11 (o11 base) fun ds sto h => (fx_len (T := T_events_of) (np := 1) (n := 8) (body := b_events_of) h).1))) Xq9.mk
theorem q_law {l : PySem.W.OpenLaw} {w : World} {K : PySem.W.Frag} {h : Heap} {mg : Str → Option Value} {f12 : Addr} {od12 an12 : Option Addr} {sl12 : Array (Option Value)} {oc12 kV12 dc12 pm12 cd12 ct12 : Value} (X : K.In h) (G : h.Ns mainGlobals mg) (a12 : PySem.W.nsIn K mainGlobals "law" = some (some (.ref f12))) (l12 : K.lookup f12 = some ⟨oc12, od12, .func (PySem.W.fnOf "law" "law" (defArgs s_law) (defBody s_law) (defScope s_law) .none kV12 dc12 pm12 an12 cd12 ct12), sl12⟩) (c12 : PySem.W.codeIn K cd12 "law" = true) (k12 : PySem.W.keepIn K (.ref f12) = true)  (z_isinstance : PySem.W.nsIn K mainGlobals "isinstance" = some none) (z_len : PySem.W.nsIn K mainGlobals "len" = some none) (z_min : PySem.W.nsIn K mainGlobals "min" = some none) (z_range : PySem.W.nsIn K mainGlobals "range" = some none) (z_tuple : PySem.W.nsIn K mainGlobals "tuple" = some none)  (g11 : ∀ base : Heap, Good l.prog w K mg base (glbT K [] atT) 12 "events_of" p_events_of) (g7 : ∀ base : Heap, Good l.prog w K mg base (glbT K [] atT) 7 "_law_pieces" p_law_pieces) (g6 : ∀ base : Heap, Good l.prog w K mg base (glbT K [] atT) 6 "_law_pick" p_pick) (g4 : ∀ base : Heap, Good l.prog w K mg base (glbT K [] atT) 4 "_law_pen" p_pen) (g3 : ∀ base : Heap, Good l.prog w K mg base (glbT K [] atT) 3 "_law_in" p_law_in) (g2 : ∀ base : Heap, Good l.prog w K mg base (glbT K [] atT) 2 "_law_has" p_law_has_v2) (g1 : ∀ base : Heap, Good l.prog w K mg base (glbT K [] atT) 1 "_law_are_apart" p_law_are_apart)  :
    ∃ fd : FuncData, (∀ (s : Shared) (v : Value), BindsTo s fd ⟨[v], []⟩ [("_law_script", v)]) ∧ ∀ base : Heap, K.In base → base.Ns mainGlobals mg → FnOk l.prog w K mg base (L2.CX l.prog w) 13 f12 fd ["_law_script"] (spLaw K) := @Rq9 _ _ (fun qz => @Hq9.get _ _ (qz.bar : Hq9 _ (by
  clear qz
  have F12 := fun_mk (st := s_law) l12 c12 k12
  have b12 := F12.binds (ps := ["_law_script"]) fun _ _ _ _ _ _ us hl => match us, hl with | [_], _ => rfl
  have hfl12 : ∀ c f, fldT [] c f = true → Cls K (clT [] c) ∧ NoAttr K (clT [] c) (fnT atT f) := fld_nil
  have o12 : ∀ base : Heap, FnOk l.prog w K mg base (L2.CX l.prog w) 13 f12 _ ["_law_script"] (spI (glbT K [] atT) 1 p_law) := fun base => def_ok (T := T_law) (C := c_law) (n := 60) (body := b_law) (phi := p_law) (baseT (cs := []) (tab := atT) atT_nd atT_ns hfl12 nms_nil rfl (blts_cons (PySem.W.mg_none_of X G z_isinstance) (blts_cons (PySem.W.mg_none_of X G z_len) (blts_cons (PySem.W.mg_none_of X G z_min) (blts_cons (PySem.W.mg_none_of X G z_range) (blts_cons (PySem.W.mg_none_of X G z_tuple) blts_nil)))))) F12 sc_law (fns_cons (Good.mono (phi := p_law_are_apart) (g1 base) (by decide)) (fns_cons (Good.mono (phi := p_law_has_v2) (g2 base) (by decide)) (fns_cons (Good.mono (phi := p_law_in) (g3 base) (by decide)) (fns_cons (Good.mono (phi := p_pen) (g4 base) (by decide)) (fns_cons (Good.mono (phi := p_pick) (g6 base) (by decide)) (fns_cons (Good.mono (phi := p_law_pieces) (g7 base) (by decide)) (fns_cons (Good.mono (phi := p_events_of) (g11 base) (by decide)) fns_nil))))))) (fun m _ c i e => (psi_nil : ∀ c m i, psiT [] c m = some i → GoodM l.prog w K mg base (glbT K [] atT) 12 c m (T_law.phi i)) c m i e) rfl cv_law (by decide) (hphi := fun ds sto h => fx_len (T := T_law) (np := 1) (n := 12) (body := b_law) h)
  exact ⟨_, fun s v => .of_eq rfl, fun base _ _ => law_sp (o12 base) rfl keeps⟩))) Xq9.mk
theorem all_mk {l : PySem.W.OpenLaw} {w : World} {K : PySem.W.Frag} {h : Heap} {mg : Str → Option Value} {fa : Addr} {f1 f2 f3 f4 f5 f6 f7 f8 f9 f10 f11 f12 : Addr} {od1 an1 od2 an2 od3 an3 od4 an4 od5 an5 od6 an6 od7 an7 od8 an8 od9 an9 od10 an10 od11 an11 od12 an12 : Option Addr} {sl1 sl2 sl3 sl4 sl5 sl6 sl7 sl8 sl9 sl10 sl11 sl12 : Array (Option Value)} {oc1 kV1 dc1 pm1 cd1 ct1 oc2 kV2 dc2 pm2 cd2 ct2 oc3 kV3 dc3 pm3 cd3 ct3 oc4 kV4 dc4 pm4 cd4 ct4 oc5 kV5 dc5 pm5 cd5 ct5 oc6 kV6 dc6 pm6 cd6 ct6 oc7 kV7 dc7 pm7 cd7 ct7 oc8 kV8 dc8 pm8 cd8 ct8 oc9 kV9 dc9 pm9 cd9 ct9 oc10 kV10 dc10 pm10 cd10 ct10 oc11 kV11 dc11 pm11 cd11 ct11 oc12 kV12 dc12 pm12 cd12 ct12 : Value} (X : K.In h) (G : h.Ns mainGlobals mg) (hfa : mg "law" = some (.ref fa))
    (a1 : PySem.W.nsIn K mainGlobals "_law_are_apart" = some (some (.ref f1)))
    (l1 : K.lookup f1 = some ⟨oc1, od1, .func (PySem.W.fnOf "_law_are_apart" "_law_are_apart" (defArgs s_law_are_apart) (defBody s_law_are_apart) (defScope s_law_are_apart) .none kV1 dc1 pm1 an1 cd1 ct1), sl1⟩)
    (c1 : PySem.W.codeIn K cd1 "_law_are_apart" = true)
    (k1 : PySem.W.keepIn K (.ref f1) = true)
    (a2 : PySem.W.nsIn K mainGlobals "_law_has" = some (some (.ref f2)))
    (l2 : K.lookup f2 = some ⟨oc2, od2, .func (PySem.W.fnOf "_law_has" "_law_has" (defArgs s_law_has_v2) (defBody s_law_has_v2) (defScope s_law_has_v2) .none kV2 dc2 pm2 an2 cd2 ct2), sl2⟩)
    (c2 : PySem.W.codeIn K cd2 "_law_has" = true)
    (k2 : PySem.W.keepIn K (.ref f2) = true)
    (a3 : PySem.W.nsIn K mainGlobals "_law_in" = some (some (.ref f3)))
    (l3 : K.lookup f3 = some ⟨oc3, od3, .func (PySem.W.fnOf "_law_in" "_law_in" (defArgs s_law_in) (defBody s_law_in) (defScope s_law_in) .none kV3 dc3 pm3 an3 cd3 ct3), sl3⟩)
    (c3 : PySem.W.codeIn K cd3 "_law_in" = true)
    (k3 : PySem.W.keepIn K (.ref f3) = true)
    (a4 : PySem.W.nsIn K mainGlobals "_law_pen" = some (some (.ref f4)))
    (l4 : K.lookup f4 = some ⟨oc4, od4, .func (PySem.W.fnOf "_law_pen" "_law_pen" (defArgs s_law_pen) (defBody s_law_pen) (defScope s_law_pen) .none kV4 dc4 pm4 an4 cd4 ct4), sl4⟩)
    (c4 : PySem.W.codeIn K cd4 "_law_pen" = true)
    (k4 : PySem.W.keepIn K (.ref f4) = true)
    (a5 : PySem.W.nsIn K mainGlobals "_law_draw" = some (some (.ref f5)))
    (l5 : K.lookup f5 = some ⟨oc5, od5, .func (PySem.W.fnOf "_law_draw" "_law_draw" (defArgs s_law_draw) (defBody s_law_draw) (defScope s_law_draw) .none kV5 dc5 pm5 an5 cd5 ct5), sl5⟩)
    (c5 : PySem.W.codeIn K cd5 "_law_draw" = true)
    (k5 : PySem.W.keepIn K (.ref f5) = true)
    (a6 : PySem.W.nsIn K mainGlobals "_law_pick" = some (some (.ref f6)))
    (l6 : K.lookup f6 = some ⟨oc6, od6, .func (PySem.W.fnOf "_law_pick" "_law_pick" (defArgs s_law_pick) (defBody s_law_pick) (defScope s_law_pick) .none kV6 dc6 pm6 an6 cd6 ct6), sl6⟩)
    (c6 : PySem.W.codeIn K cd6 "_law_pick" = true)
    (k6 : PySem.W.keepIn K (.ref f6) = true)
    (a7 : PySem.W.nsIn K mainGlobals "_law_pieces" = some (some (.ref f7)))
    (l7 : K.lookup f7 = some ⟨oc7, od7, .func (PySem.W.fnOf "_law_pieces" "_law_pieces" (defArgs s_law_pieces) (defBody s_law_pieces) (defScope s_law_pieces) .none kV7 dc7 pm7 an7 cd7 ct7), sl7⟩)
    (c7 : PySem.W.codeIn K cd7 "_law_pieces" = true)
    (k7 : PySem.W.keepIn K (.ref f7) = true)
    (a8 : PySem.W.nsIn K mainGlobals "joined_stretch" = some (some (.ref f8)))
    (l8 : K.lookup f8 = some ⟨oc8, od8, .func (PySem.W.fnOf "joined_stretch" "joined_stretch" (defArgs s_joined_stretch) (defBody s_joined_stretch) (defScope s_joined_stretch) .none kV8 dc8 pm8 an8 cd8 ct8), sl8⟩)
    (c8 : PySem.W.codeIn K cd8 "joined_stretch" = true)
    (k8 : PySem.W.keepIn K (.ref f8) = true)
    (a9 : PySem.W.nsIn K mainGlobals "low_first" = some (some (.ref f9)))
    (l9 : K.lookup f9 = some ⟨oc9, od9, .func (PySem.W.fnOf "low_first" "low_first" (defArgs s_low_first) (defBody s_low_first) (defScope s_low_first) .none kV9 dc9 pm9 an9 cd9 ct9), sl9⟩)
    (c9 : PySem.W.codeIn K cd9 "low_first" = true)
    (k9 : PySem.W.keepIn K (.ref f9) = true)
    (a10 : PySem.W.nsIn K mainGlobals "touches" = some (some (.ref f10)))
    (l10 : K.lookup f10 = some ⟨oc10, od10, .func (PySem.W.fnOf "touches" "touches" (defArgs s_touches) (defBody s_touches) (defScope s_touches) .none kV10 dc10 pm10 an10 cd10 ct10), sl10⟩)
    (c10 : PySem.W.codeIn K cd10 "touches" = true)
    (k10 : PySem.W.keepIn K (.ref f10) = true)
    (a11 : PySem.W.nsIn K mainGlobals "events_of" = some (some (.ref f11)))
    (l11 : K.lookup f11 = some ⟨oc11, od11, .func (PySem.W.fnOf "events_of" "events_of" (defArgs s_events_of) (defBody s_events_of) (defScope s_events_of) .none kV11 dc11 pm11 an11 cd11 ct11), sl11⟩)
    (c11 : PySem.W.codeIn K cd11 "events_of" = true)
    (k11 : PySem.W.keepIn K (.ref f11) = true)
    (a12 : PySem.W.nsIn K mainGlobals "law" = some (some (.ref f12)))
    (l12 : K.lookup f12 = some ⟨oc12, od12, .func (PySem.W.fnOf "law" "law" (defArgs s_law) (defBody s_law) (defScope s_law) .none kV12 dc12 pm12 an12 cd12 ct12), sl12⟩)
    (c12 : PySem.W.codeIn K cd12 "law" = true)
    (k12 : PySem.W.keepIn K (.ref f12) = true)
    (z_int : PySem.W.nsIn K mainGlobals "int" = some none)
    (z_isinstance : PySem.W.nsIn K mainGlobals "isinstance" = some none)
    (z_len : PySem.W.nsIn K mainGlobals "len" = some none)
    (z_list : PySem.W.nsIn K mainGlobals "list" = some none)
    (z_max : PySem.W.nsIn K mainGlobals "max" = some none)
    (z_min : PySem.W.nsIn K mainGlobals "min" = some none)
    (z_range : PySem.W.nsIn K mainGlobals "range" = some none)
    (z_sorted : PySem.W.nsIn K mainGlobals "sorted" = some none)
    (z_tuple : PySem.W.nsIn K mainGlobals "tuple" = some none) :
    ∃ fd : FuncData, (∀ (s : Shared) (v : Value), BindsTo s fd ⟨[v], []⟩ [("_law_script", v)]) ∧ ∀ base : Heap, K.In base → base.Ns mainGlobals mg → FnOk l.prog w K mg base (L2.CX l.prog w) 13 fa fd ["_law_script"] (spLaw K) := @Rq9 _ _ (fun qz => @Hq9.get _ _ (qz.bar : Hq9 _ (by
  clear qz
  have e := hfa.symm.trans (PySem.W.mg_of X G a12)
  cases e
  have g1 := q_law_are_apart (l := l) (w := w) X G a1 l1 c1 k1 z_len z_range
  have g2 := q_law_has_v2 (l := l) (w := w) X G a2 l2 c2 k2
  have g3 := q_law_in (l := l) (w := w) X G a3 l3 c3 k3
  have g4 := q_law_pen (l := l) (w := w) X G a4 l4 c4 k4 z_list
  have g5 := q_law_draw (l := l) (w := w) X G a5 l5 c5 k5 z_int z_len
  have g6 := q_law_pick (l := l) (w := w) X G a6 l6 c6 k6 z_len g5
  have g7 := q_law_pieces (l := l) (w := w) X G a7 l7 c7 k7 z_range g5
  have g8 := q_joined_stretch (l := l) (w := w) X G a8 l8 c8 k8 z_int z_max
  have g9 := q_low_first (l := l) (w := w) X G a9 l9 c9 k9
  have gk9 := qk_low_first (l := l) (w := w) X G a9 l9 c9 k9
  have g10 := q_touches (l := l) (w := w) X G a10 l10 c10 k10
  have g11 := q_events_of (l := l) (w := w) X G a11 l11 c11 k11 z_sorted z_tuple g10 g9 g8 gk9
  exact q_law (K := K) (l := l) X G a12 l12 c12 k12 z_isinstance z_len z_min z_range z_tuple g11 g7 g6 g4 g3 g2 g1))) Xq9.mk
end Ag
open PySem PySem.W PyProof.Rows in
set_option maxRecDepth 100000 in
set_option maxHeartbeats 0 in
theorem PySem.Challenge.cw_agewords_k44_whole_events_of_pieces_holds : PySem.Challenge.rw_agewords_k44_whole_events_of_pieces.Holds :=
  @Ag.Rq9 _ _ (fun qz => @Ag.Hq9.get _ _ (qz.bar : Ag.Hq9 _ (by
  clear qz
  w_on; o_law; k_head; (case hw => w_witness2)
  k_fill
  refine Ag.law_walk (k := 13) (l := PySem.Challenge.rw_agewords_k44_whole_events_of_pieces) rfl rfl ⟨rfl, by decide, by decide⟩ (fun w h Y => PySem.W.kIn_of Y) ?F
  case F =>
    intro w mg fa h KX G hmg
    refine' Ag.all_mk KX G hmg ?a1 ?l1 ?c1 ?k1 ?a2 ?l2 ?c2 ?k2 ?a3 ?l3 ?c3 ?k3 ?a4 ?l4 ?c4 ?k4 ?a5 ?l5 ?c5 ?k5 ?a6 ?l6 ?c6 ?k6 ?a7 ?l7 ?c7 ?k7 ?a8 ?l8 ?c8 ?k8 ?a9 ?l9 ?c9 ?k9 ?a10 ?l10 ?c10 ?k10 ?a11 ?l11 ?c11 ?k11 ?a12 ?l12 ?c12 ?k12 ?z_int ?z_isinstance ?z_len ?z_list ?z_max ?z_min ?z_range ?z_sorted ?z_tuple
    (case a1 => k_is)
    (case l1 => k_is)
    (case c1 => k_is)
    (case k1 => k_is)
    (case a2 => k_is)
    (case l2 => k_is)
    (case c2 => k_is)
    (case k2 => k_is)
    (case a3 => k_is)
    (case l3 => k_is)
    (case c3 => k_is)
    (case k3 => k_is)
    (case a4 => k_is)
    (case l4 => k_is)
    (case c4 => k_is)
    (case k4 => k_is)
    (case a5 => k_is)
    (case l5 => k_is)
    (case c5 => k_is)
    (case k5 => k_is)
    (case a6 => k_is)
    (case l6 => k_is)
    (case c6 => k_is)
    (case k6 => k_is)
    (case a7 => k_is)
    (case l7 => k_is)
    (case c7 => k_is)
    (case k7 => k_is)
    (case a8 => k_is)
    (case l8 => k_is)
    (case c8 => k_is)
    (case k8 => k_is)
    (case a9 => k_is)
    (case l9 => k_is)
    (case c9 => k_is)
    (case k9 => k_is)
    (case a10 => k_is)
    (case l10 => k_is)
    (case c10 => k_is)
    (case k10 => k_is)
    (case a11 => k_is)
    (case l11 => k_is)
    (case c11 => k_is)
    (case k11 => k_is)
    (case a12 => k_is)
    (case l12 => k_is)
    (case c12 => k_is)
    (case k12 => k_is)
    (case z_int => k_is)
    (case z_isinstance => k_is)
    (case z_len => k_is)
    (case z_list => k_is)
    (case z_max => k_is)
    (case z_min => k_is)
    (case z_range => k_is)
    (case z_sorted => k_is)
    (case z_tuple => k_is)))) Ag.Xq9.mk
