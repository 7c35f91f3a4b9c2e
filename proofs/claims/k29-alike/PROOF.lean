import PyProof.Rows.All
import Wide.All
import OpenK.AllK
import Wide.FinOn
import HandS.ForMost
import HandS.ForExc
import HandS.Wide
import HandS.Deep
import HandS.TupAny
import HandS.Small
import HandS.Style
import HandS.Walk
import HandS.IsInst
import HandS.Zip
import HandS.Rev
import KE.GoesEnum
import KE.DataMinMax
import HandS.SortRule
import HandS.SortInts
import HandS.SortKw
import HandS.Star
import KE.KDictZip
import PyProof.ListNew
import HandS.OwnIter
import KE.KRevSl
import PySem.Challenge.RW_agewords_k29_whole_wordings_alike
set_option Elab.async false
set_option linter.all false
set_option maxRecDepth 100000
set_option maxHeartbeats 4000000
set_option exponentiation.threshold 2000

/-! A small core language, its evaluator over plain data. -/
namespace Ag
/-! a proof by tactics of which only the term is kept (no info trees: they take the memory) -/
structure Hz (P : Prop) (h : P) : Prop where
theorem Hz.get {P : Prop} {h : P} (_ : Hz P h) : P := h
structure Xz : Type where
theorem Xz.bar {P : Prop} {h : P} (_ : Xz) : Hz P h := ⟨⟩
theorem Rz {α : Type} {P : Prop} (f : α → P) (a : α) : P := f a
end Ag
namespace Ag
open PySem L2
inductive D where
  | non | bl (b : Bool) | int (i : Int) | str (s : Str)
  | tup (xs : List D) | lst (xs : List D) | rol (xs : List D)
  | obj (c : Nat) (fs : List (Nat × D))
  | cell (n : Nat)
/-- a mutable thing: a dict with int and text keys, an instance -/
inductive Cell where
  | dict (kvs : List (Key × D))
  | inst (c : Nat) (fs : List (Nat × D))
inductive Slot where
  | un | val (d : D) | own (xs : List D)
structure Fr where
  env : List Slot
  sto : List Cell
inductive Out where
  | val (d : D) | fresh (xs : List D)
inductive RV where
  | out (o : Out) | var (i : Nat)
inductive Rs (α : Type) where
  | ok (a : α) (fr : Fr) | exc (c : Nat) (fs : List D) (fr : Fr) | bad
inductive Fx where
  | ret (o : Out) (s : List Cell) | exc (c : Nat) (fs : List D) (s : List Cell) | bad
inductive Sx where
  | next (fr : Fr) | ret (o : Out) (fr : Fr) | brk (fr : Fr) | cont (fr : Fr) | exc (c : Nat) (fs : List D) (fr : Fr) | bad
def Rs.bind {α β : Type} : Rs α → (α → Fr → Rs β) → Rs β
  | .ok a fr, k => k a fr
  | .exc c fs fr, _ => .exc c fs fr
  | .bad, _ => .bad
def Sx.seq : Sx → (Fr → Sx) → Sx
  | .next fr, k => k fr
  | x, _ => x
def Rs.toS {α : Type} : Rs α → (α → Fr → Sx) → Sx
  | .ok a fr, k => k a fr
  | .exc c fs fr, _ => .exc c fs fr
  | .bad, _ => .bad
inductive Op2 where | add | sub | mul | fdiv | mod | pow
inductive Cm where | eq | ne | lt | le | gt | ge | is_ | isn | in_ | nin
inductive Bi where | len | min2 | max2 | int_ | str_ | tuple_ | list_ | min1 | max1 | min1d | max1d | all_ | sorted_
/-- built-in types by name -/
inductive TyN where | tup | lst | int | bool | str
mutual
inductive Tm where
  | slot (i : Nat)
  | non | bl (b : Bool) | int (i : Int) | str (s : Str)
  | glob (g : Nat)
  | bin (op : Op2) (a b : Tm)
  | neg (a : Tm) | not_ (a : Tm)
  | and_ (a b : Tm) | or_ (a b : Tm)
  | cmp (op : Cm) (a b : Tm)
  | chain (op op' : Cm) (a b c : Tm)
  | ite (c a b : Tm)
  | call (f : Nat) (as : List Tm)
  | meth (m : Nat) (o : Tm) (as : List Tm)
  | make (c : Nat) (as : List Tm)
  | bi (b : Bi) (as : List Tm)
  | attr (o : Tm) (f : Nat)
  | ix (o i : Tm)
  | slice (o : Tm) (lo hi : Option Tm)
  | tup (as : List Tm)
  | lst (as : List Tm)
  | dict (kvs : List (Key × Tm))
  | comp (elt : Tm) (tg : Tg) (it : Iter) (cond : Option Tm) (own : List Nat)
  | pop (i : Nat)
  | ist (k : TyN) (a : Tm)
  | lstS (s : Tm) (as : List Tm)
  | tupS (s : Tm) (as : List Tm)
  | lzip (a b : Tm)
  | rsl (a : Tm)
  | stuck
inductive Tg where
  | slot (i : Nat) | tup (ts : List Tg)
inductive Iter where
  | seq (t : Tm)
  | range1 (a : Tm) | range2 (a b : Tm) | range3 (a b c : Tm)
  | zip (a b : Tm) | enum (a : Tm) (start : Int) | rev (a : Tm)
end
inductive Stm where
  | skip
  | stuck
  | expr (t : Tm)
  | asg (tg : Tg) (t : Tm)
  | par (is : List Nat) (ts : List Tm)
  | setk (o k : Tm) (v : Tm)
  | seti (i : Nat) (k : Tm) (v : Tm)
  | seta (o : Tm) (f : Nat) (v : Tm)
  | aug (i : Nat) (op : Op2) (t : Tm)
  | append (i : Nat) (t : Tm)
  | extend (i : Nat) (t : Tm)
  | ite (c : Tm) (a b : List Stm)
  | whil (c : Tm) (b : List Stm)
  | for_ (tg : Tg) (it : Iter) (b : List Stm)
  | ret (t : Tm) | retN
  | brk | cont
  | rais (c : Nat) (as : List Tm)
  | tryx (b : List Stm) (hs : List (Nat × Option Nat × List Stm))
/-! ### values -/
mutual
def toPy : D → Option PyData
  | .non => some .none
  | .bl b => some (.bool b)
  | .int i => some (.int i)
  | .str s => some (.str s)
  | .tup xs => (toPys xs).map PyData.tuple
  | .lst xs => (toPys xs).map PyData.list
  | .rol _ => none
  | .obj _ _ => none
  | .cell _ => none
def toPys : List D → Option (List PyData)
  | [] => some []
  | d :: ds => match toPy d, toPys ds with | some x, some xs => some (x :: xs) | _, _ => none
end
/-- scalars compared -/
def scalD : D → D → Option Bool
  | .int i, .int j => some (decide (i = j))
  | .str a, .str b => some (decide (a = b))
  | .bl a, .bl b => some (decide (a = b))
  | .non, .non => some true
  | .non, .int _ => some false
  | .int _, .non => some false
  | .non, .str _ => some false
  | .str _, .non => some false
  | .non, .bl _ => some false
  | .bl _, .non => some false
  | .int _, .str _ => some false
  | .str _, .int _ => some false
  | .bl _, .str _ => some false
  | .str _, .bl _ => some false
  | _, _ => none
def eqP (x y : D) : Option Bool :=
  match toPy x, toPy y with
  | some a, some b => if SeqAt.shaped a && SeqAt.shaped b then some (PyData.eqv a b) else none
  | _, _ => none
def eqD (x y : D) : Option Bool := match scalD x y with | some b => some b | none => eqP x y
def flatD : D → Bool
  | .non => true | .bl _ => true | .int _ => true | .str _ => true
  | _ => false
def sIn (x y : Str) : Bool := !(Builtin.Str.occurrences y x 0 y.length 1).isEmpty
def eqF : D → D → Bool
  | .non, .non => true
  | .bl a, .bl b => a == b
  | .bl a, .int b => (if a then 1 else 0) == b
  | .int a, .bl b => a == (if b then 1 else 0)
  | .int a, .int b => a == b
  | .str a, .str b => a == b
  | _, _ => false
def inF (x : D) (ys : List D) : Bool := ys.any fun y => eqF y x
/-- x in a list of data of any depth -/
def inP (x : D) (ys : List D) : Option Bool := match toPy x, toPys ys with
  | some a, some bs => if SeqAt.shaped a && SeqAt.shaped (.list bs) then some (bs.any fun z => PyData.eqv z a) else none
  | _, _ => none
def mulOk (i j : Int) : Bool := decide (i.natAbs.log2 + j.natAbs.log2 < 1000000)
def divOk (j : Int) : Bool := decide (0 < j) && decide (j.natAbs.log2 < 9000)
def powOk (i j : Int) : Bool := decide (0 ≤ j) && decide (j ≤ 1000000) && decide (i.natAbs < 2 ^ 64)
/-- an operator by values -/
def opD : Op2 → D → D → Option Out
  | .add, .int i, .int j => some (.val (.int (i + j)))
  | .sub, .int i, .int j => some (.val (.int (i - j)))
  | .mul, .int i, .int j => if mulOk i j then some (.val (.int (i * j))) else none
  | .fdiv, .int i, .int j => if divOk j then some (.val (.int (i / j))) else none
  | .mod, .int i, .int j => if 0 < j then some (.val (.int (i % j))) else none
  | .pow, .int i, .int j => if powOk i j then some (.val (.int (i ^ j.toNat))) else none
  | .add, .str x, .str y => if x.length + y.length ≤ sizeLine then some (.val (.str (x ++ y))) else none
  | .add, .lst xs, .lst ys => if xs.length + ys.length ≤ sizeLine then some (.fresh (xs ++ ys)) else none
  | .add, .tup xs, .tup ys => if xs.length + ys.length ≤ sizeLine then some (.val (.tup (xs ++ ys))) else none
  | _, _, _ => none
def isNon : D → Bool | .non => true | _ => false
def cmpD : Cm → D → D → Option Bool
  | .eq, x, y => eqD x y
  | .ne, x, y => (eqD x y).map (!·)
  | .lt, .int i, .int j => some (decide (i < j))
  | .le, .int i, .int j => some (decide (i ≤ j))
  | .gt, .int i, .int j => some (decide (j < i))
  | .ge, .int i, .int j => some (decide (j ≤ i))
  | .is_, x, .non => some (isNon x)
  | .isn, x, .non => some (!isNon x)
  | .in_, .str x, .str y => some (sIn x y)
  | .nin, .str x, .str y => some (!sIn x y)
  | .in_, x, .tup ys => if flatD x && ys.all flatD then some (inF x ys) else none
  | .nin, x, .tup ys => if flatD x && ys.all flatD then some (!inF x ys) else none
  | .in_, x, .lst ys => if flatD x && ys.all flatD then some (inF x ys) else inP x ys
  | .nin, x, .lst ys => if flatD x && ys.all flatD then some (!inF x ys) else (inP x ys).map (!·)
  | _, _, _ => none
def intsD : List D → Option (List Int)
  | [] => some []
  | .int i :: ds => (intsD ds).map (i :: ·)
  | _ => none
def boolsD : List D → Option (List Bool)
  | [] => some []
  | .bl i :: ds => (boolsD ds).map (i :: ·)
  | _ => none
def seqOf : D → Option (List D)
  | .tup xs => some xs
  | .lst xs => some xs
  | _ => none
def minL : List Int → Int
  | [] => 0
  | i :: is => is.foldl (fun a b => if b < a then b else a) i
def maxL : List Int → Int
  | [] => 0
  | i :: is => is.foldl (fun a b => if b > a then b else a) i
def biLen : List D → Option Out
  | [.lst xs] => some (.val (.int xs.length))
  | [.tup xs] => some (.val (.int xs.length))
  | [.rol xs] => some (.val (.int xs.length))
  | [.str s] => if s.length ≤ sizeLine then some (.val (.int s.length)) else none
  | _ => none
def biMin2 : List D → Option Out
  | [.int i, .int j] => some (.val (.int (if j < i then j else i)))
  | _ => none
def biMax2 : List D → Option Out
  | [.int i, .int j] => some (.val (.int (if j > i then j else i)))
  | _ => none
def biInt : List D → Option Out
  | [.int i] => some (.val (.int i))
  | _ => none
def biStr : List D → Option Out
  | [.int i] => if i.natAbs.log2 < 1920 then some (.val (.str (toString i))) else none
  | [.str s] => some (.val (.str s))
  | _ => none
def biTuple : List D → Option Out
  | [.lst xs] => some (.val (.tup xs))
  | [.tup xs] => some (.val (.tup xs))
  | _ => none
def biList : List D → Option Out
  | [.lst xs] => some (.fresh xs)
  | [.tup xs] => some (.fresh xs)
  | _ => none
def biMin1 : List D → Option Out
  | [.lst xs] => match intsD xs with | some (i :: is) => some (.val (.int (minL (i :: is)))) | _ => none
  | _ => none
def biMax1 : List D → Option Out
  | [.lst xs] => match intsD xs with | some (i :: is) => some (.val (.int (maxL (i :: is)))) | _ => none
  | _ => none
def biMin1d : List D → Option Out
  | [.lst xs] => match intsD xs with | some (i :: is) => some (.val (.int (minL (i :: is)))) | some [] => some (.val .non) | _ => none
  | _ => none
def biMax1d : List D → Option Out
  | [.lst xs] => match intsD xs with | some (i :: is) => some (.val (.int (maxL (i :: is)))) | some [] => some (.val .non) | _ => none
  | _ => none
def biAll : List D → Option Out
  | [.lst xs] => match boolsD xs with | some bs => some (.val (.bl (bs.all id))) | none => none
  | _ => none
/-- pairs of ints, ints, sorted -/
def lexL (p q : Int × Int) : Bool := decide (p.1 < q.1) || (decide (p.1 = q.1) && decide (p.2 < q.2))
def insP (p : Int × Int) : List (Int × Int) → List (Int × Int)
  | [] => [p]
  | q :: r => if lexL q p then q :: insP p r else p :: q :: r
def sortP (ps : List (Int × Int)) : List (Int × Int) := ps.foldr insP []
def insI (p : Int) : List Int → List Int
  | [] => [p]
  | q :: r => if q < p then q :: insI p r else p :: q :: r
def sortI (ps : List Int) : List Int := ps.foldr insI []
def pairD (p : Int × Int) : D := .tup [.int p.1, .int p.2]
def pairsD : List D → Option (List (Int × Int))
  | [] => some []
  | .tup [.int i, .int j] :: ds => (pairsD ds).map ((i, j) :: ·)
  | _ => none
def biSorted : List D → Option Out
  | [.lst xs] => match intsD xs with
    | some ns => some (.fresh ((sortI ns).map .int))
    | none => match pairsD xs with | some ps => some (.fresh ((sortP ps).map pairD)) | none => none
  | _ => none
def biD : Bi → List D → Option Out
  | .len => biLen | .min2 => biMin2 | .max2 => biMax2 | .int_ => biInt | .str_ => biStr | .tuple_ => biTuple | .list_ => biList
  | .min1 => biMin1 | .max1 => biMax1 | .min1d => biMin1d | .max1d => biMax1d | .all_ => biAll | .sorted_ => biSorted
def dget (kvs : List (Key × D)) (k : Key) : Option D := (kvs.find? fun kv => decide (kv.1 = k)).map (·.2)
def keyOf : D → Option Key
  | .int i => some (.inl i)
  | .str s => some (.inr s)
  | _ => none
def ixD (sto : List Cell) : D → D → Option D
  | .lst xs, .int i => atI xs i
  | .tup xs, .int i => atI xs i
  | .str s, .int i => if s.length ≤ sizeLine then (atI s.cps.toList i).map (fun c => .str ⟨#[c]⟩) else none
  | .cell n, k => match sto[n]?, keyOf k with | some (.dict kvs), some k => dget kvs k | _, _ => none
  | _, _ => none
def fget (fs : List (Nat × D)) (f : Nat) : Option D := fs.lookup f
def fput (f : Nat) (d : D) : List (Nat × D) → List (Nat × D)
  | [] => [(f, d)]
  | (g, e) :: r => if g = f then (f, d) :: r else (g, e) :: fput f d r
def kput (kvs : List (Key × D)) (k : Key) (d : D) : List (Key × D) :=
  if (kvs.any fun kv => decide (kv.1 = k)) = true then kvs.map (fun kv => if kv.1 = k then (kv.1, d) else kv) else kvs ++ [(k, d)]
def kmerge (kvs more : List (Key × D)) : List (Key × D) := more.foldl (fun acc kv => kput acc kv.1 kv.2) kvs
/-- an instance: its class, its fields -/
def insD (sto : List Cell) : D → Option (Nat × List (Nat × D))
  | .obj c fs => some (c, fs)
  | .cell n => match sto[n]? with | some (.inst c fs) => some (c, fs) | _ => none
  | _ => none
def cutL {α : Type} (xs : List α) (lo hi : Option Int) : List α :=
  (xs.drop (HT.sIx xs.length 0 lo)).take (HT.sIx xs.length xs.length hi - HT.sIx xs.length 0 lo)
/-- isinstance of a built-in type -/
def istD : TyN → D → Option Bool
  | .tup, .tup _ => some true
  | .lst, .lst _ => some true
  | .lst, .rol _ => some true
  | .int, .int _ => some true
  | .int, .bl _ => some true
  | .bool, .bl _ => some true
  | .str, .str _ => some true
  | .tup, .lst _ => some false
  | .tup, .int _ => some false
  | .tup, .bl _ => some false
  | .tup, .str _ => some false
  | .tup, .non => some false
  | .lst, .tup _ => some false
  | .lst, .int _ => some false
  | .lst, .bl _ => some false
  | .lst, .str _ => some false
  | .lst, .non => some false
  | .int, .tup _ => some false
  | .int, .lst _ => some false
  | .int, .str _ => some false
  | .int, .non => some false
  | .bool, .int _ => some false
  | .bool, .str _ => some false
  | .bool, .tup _ => some false
  | .bool, .lst _ => some false
  | .bool, .non => some false
  | .str, .int _ => some false
  | .str, .bl _ => some false
  | .str, .tup _ => some false
  | .str, .lst _ => some false
  | .str, .non => some false
  | _, _ => none
/-! ### slots -/
def look (env : List Slot) : RV → Option D
  | .out (.val d) => some d
  | .out (.fresh xs) => some (.lst xs)
  | .var i => match env[i]? with | some (.own xs) => some (.lst xs) | some (.val d) => some d | _ => none
def hold : RV → RV
  | .out (.fresh xs) => .out (.val (.lst xs))
  | r => r
/-- a value as a part of something else: a list is no more changed then -/
def toD (fr : Fr) : RV → Option (D × Fr)
  | .out (.val d) => some (d, fr)
  | .out (.fresh xs) => some (.lst xs, fr)
  | .var i => match fr.env[i]? with
    | some (.own xs) => some (.lst xs, { fr with env := fr.env.set i (.val (.lst xs)) })
    | some (.val d) => some (d, fr)
    | _ => none
def Rs.fr {α : Type} (r : Rs RV) (k : D → Fr → Rs α) : Rs α :=
  r.bind fun v fr => match toD fr v with | some (d, fr') => k d fr' | none => .bad
def ofFx (fr : Fr) : Fx → Rs RV
  | .ret o s => .ok (.out o) { fr with sto := s }
  | .exc c fs s => .exc c fs { fr with sto := s }
  | .bad => .bad
mutual
def bindT : Tg → D → Fr → Option Fr
  | .slot i, d, fr => some { fr with env := fr.env.set i (.val d) }
  | .tup ts, .tup ds, fr => bindTs ts ds fr
  | .tup ts, .lst ds, fr => bindTs ts ds fr
  | .tup _, _, _ => none
def bindTs : List Tg → List D → Fr → Option Fr
  | [], [], fr => some fr
  | t :: ts, d :: ds, fr => match bindT t d fr with | some fr' => bindTs ts ds fr' | none => none
  | _, _, _ => none
end
mutual
/-- the slots that a target stores -/
def tgIx : Tg → List Nat
  | .slot i => [i]
  | .tup ts => tgIxs ts
def tgIxs : List Tg → List Nat
  | [] => []
  | t :: ts => tgIx t ++ tgIxs ts
end
def wipeE (env : List Slot) : List Nat → List Slot
  | [] => env
  | v :: vs => (wipeE env vs).set v .un
/-- the slots at own as they were before -/
def backE (old : List Slot) (env : List Slot) : List Nat → List Slot
  | [] => env
  | v :: vs => (backE old env vs).set v (old.getD v .un)
def rangeD (lo : Int) (n : Nat) : List D := (List.range n).map fun (i : Nat) => D.int (lo + (i : Int))
def range3D (lo c : Int) (n : Nat) : List D := (List.range n).map fun (i : Nat) => D.int (lo + (i : Int) * c)
def zipD : List D → List D → List D
  | x :: xs, y :: ys => .tup [x, y] :: zipD xs ys
  | _, _ => []
def enumD : Int → List D → List D
  | _, [] => []
  | i, x :: xs => .tup [.int i, x] :: enumD (i + 1) xs
/-- nothing is raised within a comprehension -/
def Rs.calm {α : Type} : Rs α → Rs α
  | .exc _ _ _ => .bad
  | r => r
/-- no list stands in the slots vs -/
def ownFree (env : List Slot) (vs : List Nat) : Bool := vs.all fun v => match env[v]? with | some (.own _) => false | _ => true
/-- the turns of a comprehension, its list in the slot n behind the others -/
def compGo (n : Nat) (tg : D → Fr → Option Fr) (own : List Nat) (c : Fr → Rs Bool) (f : Fr → Rs D) : List D → Fr → Rs Unit
  | [], fr => .ok () fr
  | x :: xs, fr => match tg x { fr with env := wipeE fr.env own } with
    | none => .bad
    | some fr1 => (c fr1).calm.bind fun b fr2 =>
      if b then (f fr2).calm.bind fun d fr3 => match fr3.env[n]? with
        | some (.own acc) => if acc.length < sizeLine then compGo n tg own c f xs { fr3 with env := fr3.env.set n (.own (acc ++ [d])) } else .bad
        | _ => .bad
      else compGo n tg own c f xs fr2
def forGo (tg : D → Fr → Option Fr) (b : Fr → Sx) : List D → Fr → Sx
  | [], fr => .next fr
  | x :: xs, fr => match tg x fr with
    | none => .bad
    | some fr1 => match b fr1 with
      | .next fr2 => forGo tg b xs fr2
      | .cont fr2 => forGo tg b xs fr2
      | .brk fr2 => .next fr2
      | r => r
def whilN (c : Fr → Rs Bool) (b : Fr → Sx) : Nat → Fr → Sx
  | 0, _ => .bad
  | n + 1, fr => (c fr).toS fun t fr1 => if t then (match b fr1 with
      | .next fr2 => whilN c b n fr2
      | .cont fr2 => whilN c b n fr2
      | .brk fr2 => .next fr2
      | r => r) else .next fr1
noncomputable def whilGo (c : Fr → Rs Bool) (b : Fr → Sx) (fr : Fr) : Sx :=
  open Classical in if h : ∃ n, whilN c b n fr ≠ .bad then whilN c b (Classical.choose h) fr else .bad
abbrev Fn := List D → List Cell → Fx
/-- field c f: instances of the class c have f as an own attribute or not at all -/
structure Tab where
  phi : Nat → Fn
  fld : Nat → Nat → Bool
  psi : Nat → Nat → Option Nat
  glob : Nat → Option D
  sub : Nat → Nat → Bool
def asB {α : Type} (d : D) (fr : Fr) (k : Bool → Fr → Rs α) : Rs α := match d with | .bl b => k b fr | _ => .bad
mutual
def ev (T : Tab) : Tm → Fr → Rs RV
  | .slot i, fr => match fr.env[i]? with
    | some (.val d) => .ok (.out (.val d)) fr
    | some (.own _) => .ok (.var i) fr
    | _ => .bad
  | .non, fr => .ok (.out (.val .non)) fr
  | .bl b, fr => .ok (.out (.val (.bl b))) fr
  | .int i, fr => .ok (.out (.val (.int i))) fr
  | .str s, fr => .ok (.out (.val (.str s))) fr
  | .glob g, fr => match T.glob g with | some d => .ok (.out (.val d)) fr | none => .bad
  | .bin op a b, fr => (ev T a fr).bind fun x fr1 => (ev T b fr1).bind fun y fr2 =>
    match look fr2.env (hold x), look fr2.env (hold y) with
    | some d, some e => match opD op d e with | some o => .ok (.out o) fr2 | none => .bad
    | _, _ => .bad
  | .neg a, fr => (ev T a fr).fr fun d fr1 => match d with | .int i => .ok (.out (.val (.int (-i)))) fr1 | _ => .bad
  | .not_ a, fr => (ev T a fr).fr fun d fr1 => asB d fr1 fun b fr2 => .ok (.out (.val (.bl (!b)))) fr2
  | .and_ a b, fr => (ev T a fr).fr fun d fr1 => asB d fr1 fun c fr2 => if c then ev T b fr2 else .ok (.out (.val (.bl false))) fr2
  | .or_ a b, fr => (ev T a fr).fr fun d fr1 => asB d fr1 fun c fr2 => if c then .ok (.out (.val (.bl true))) fr2 else ev T b fr2
  | .cmp op a b, fr => (ev T a fr).bind fun x fr1 => (ev T b fr1).bind fun y fr2 =>
    match look fr2.env (hold x), look fr2.env (hold y) with
    | some d, some e => match cmpD op d e with | some c => .ok (.out (.val (.bl c))) fr2 | none => .bad
    | _, _ => .bad
  | .chain op op' a b c, fr => (ev T a fr).fr fun x fr1 => (ev T b fr1).fr fun y fr2 =>
    match cmpD op x y with
    | some true => (ev T c fr2).fr fun z fr3 => match cmpD op' y z with | some k => .ok (.out (.val (.bl k))) fr3 | none => .bad
    | some false => .ok (.out (.val (.bl false))) fr2
    | none => .bad
  | .ite c a b, fr => (ev T c fr).fr fun d fr1 => asB d fr1 fun k fr2 => if k then ev T a fr2 else ev T b fr2
  | .call f as, fr => (evs T as fr).bind fun ds fr1 => ofFx fr1 (T.phi f ds fr1.sto)
  | .meth m o as, fr => (ev T o fr).fr fun d fr1 => match insD fr1.sto d with
    | some (c, fs) => if (fget fs m).isNone then match T.psi c m with
      | some f => (evs T as fr1).bind fun ds fr2 => ofFx fr2 (T.phi f (d :: ds) fr2.sto)
      | none => .bad else .bad
    | none => .bad
  | .make c as, fr => (evs T as fr).bind fun ds fr1 => ofFx fr1 (T.phi c ds fr1.sto)
  | .bi b as, fr => (evp T as fr).bind fun rs fr1 => match looks fr1.env rs with
    | some ds => match biD b ds with | some o => .ok (.out o) fr1 | none => .bad
    | none => .bad
  | .attr o f, fr => (ev T o fr).fr fun d fr1 => match insD fr1.sto d with
    | some (c, fs) => if T.fld c f then match fget fs f with | some v => .ok (.out (.val v)) fr1 | none => .bad else .bad
    | none => .bad
  | .ix o i, fr => (ev T o fr).bind fun x fr1 => (ev T i fr1).fr fun k fr2 => match look fr2.env (hold x) with
    | some d => match ixD fr2.sto d k with | some v => .ok (.out (.val v)) fr2 | none => .bad
    | none => .bad
  | .slice o lo hi, fr => (ev T o fr).bind fun x fr1 => (evo T lo fr1).bind fun l fr2 => (evo T hi fr2).bind fun h fr3 =>
    match look fr3.env (hold x) with
    | some (.lst xs) => .ok (.out (.fresh (cutL xs l h))) fr3
    | some (.rol xs) => .ok (.out (.fresh (cutL xs l h))) fr3
    | some (.tup xs) => .ok (.out (.val (.tup (cutL xs l h)))) fr3
    | _ => .bad
  | .tup as, fr => (evs T as fr).bind fun ds fr1 => if ds.length ≤ sizeLine then .ok (.out (.val (.tup ds))) fr1 else .bad
  | .lst as, fr => (evs T as fr).bind fun ds fr1 => if ds.length ≤ sizeLine then .ok (.out (.fresh ds)) fr1 else .bad
  | .dict kvs, fr => (evk T kvs fr).bind fun ds fr1 => if ds.length ≤ 15 then .ok (.out (.val (.cell fr1.sto.length))) { fr1 with sto := fr1.sto ++ [.dict (kmerge [] ds)] } else .bad
  | .comp elt tg it cond own, fr => (evi T it fr).bind fun xs fr1 =>
    if ownFree fr1.env own then
    (compGo fr1.env.length (bindT tg) own (fun fr2 => evc T cond fr2) (fun fr2 => (ev T elt fr2).fr fun d fr3 => .ok d fr3) xs { fr1 with env := fr1.env ++ [.own []] }).bind fun _ fr2 => match fr2.env[fr1.env.length]? with
      | some (.own acc) => .ok (.out (.fresh acc)) { fr2 with env := backE fr1.env (fr2.env.take fr1.env.length) own }
      | _ => .bad
    else .bad
  | .pop i, fr => match fr.env[i]? with
    | some (.own xs) => match xs.getLast? with
      | some d => .ok (.out (.val d)) { fr with env := fr.env.set i (.own xs.dropLast) }
      | none => .bad
    | _ => .bad
  | .ist k a, fr => (ev T a fr).bind fun x fr1 => match look fr1.env (hold x) with
    | some d => match istD k d with | some b => .ok (.out (.val (.bl b))) fr1 | none => .bad
    | none => .bad
  | .lstS s as, fr => (ev T s fr).bind fun x fr1 => match look fr1.env (hold x) with
    | some d => match seqOf d with
      | some xs => (evs T as fr1).bind fun ds fr2 => if xs.length + ds.length ≤ sizeLine then .ok (.out (.fresh (xs ++ ds))) fr2 else .bad
      | none => .bad
    | none => .bad
  | .tupS s as, fr => (ev T s fr).bind fun x fr1 => match look fr1.env (hold x) with
    | some d => match seqOf d with
      | some xs => (evs T as fr1).bind fun ds fr2 => if xs.length + ds.length ≤ sizeLine then .ok (.out (.val (.tup (xs ++ ds)))) fr2 else .bad
      | none => .bad
    | none => .bad
  | .lzip a b, fr => (ev T a fr).fr fun d fr1 => (ev T b fr1).fr fun e fr2 => match seqOf d, seqOf e with
    | some xs, some ys => if (zipD xs ys).length ≤ sizeLine then .ok (.out (.fresh (zipD xs ys))) fr2 else .bad
    | _, _ => .bad
  | .rsl a, fr => (ev T a fr).bind fun x fr1 => match look fr1.env (hold x) with
    | some (.lst xs) => .ok (.out (.fresh xs.reverse)) fr1
    | _ => .bad
  | .stuck, _ => .bad
def evs (T : Tab) : List Tm → Fr → Rs (List D)
  | [], fr => .ok [] fr
  | t :: ts, fr => (ev T t fr).fr fun d fr1 => (evs T ts fr1).bind fun ds fr2 => .ok (d :: ds) fr2
/-- arguments of a built-in: only looked at -/
def evp (T : Tab) : List Tm → Fr → Rs (List RV)
  | [], fr => .ok [] fr
  | t :: ts, fr => (ev T t fr).bind fun r fr1 => (evp T ts fr1).bind fun rs fr2 => .ok (hold r :: rs) fr2
def evk (T : Tab) : List (Key × Tm) → Fr → Rs (List (Key × D))
  | [], fr => .ok [] fr
  | (k, t) :: ts, fr => (ev T t fr).fr fun d fr1 => (evk T ts fr1).bind fun ds fr2 => .ok ((k, d) :: ds) fr2
def evo (T : Tab) : Option Tm → Fr → Rs (Option Int)
  | none, fr => .ok none fr
  | some t, fr => (ev T t fr).fr fun d fr1 => match d with | .int i => .ok (some i) fr1 | _ => .bad
def evc (T : Tab) : Option Tm → Fr → Rs Bool
  | none, fr => .ok true fr
  | some t, fr => (ev T t fr).fr fun d fr1 => asB d fr1 fun b fr2 => .ok b fr2
def evi (T : Tab) : Iter → Fr → Rs (List D)
  | .seq t, fr => (ev T t fr).fr fun d fr1 => match seqOf d with | some xs => .ok xs fr1 | none => .bad
  | .range1 a, fr => (ev T a fr).fr fun d fr1 => match d with | .int n => if n < 2 ^ 62 ∧ -(2 ^ 62) < n then .ok (rangeD 0 n.toNat) fr1 else .bad | _ => .bad
  | .range2 a b, fr => (ev T a fr).fr fun d fr1 => (ev T b fr1).fr fun e fr2 => match d, e with
    | .int lo, .int hi => if -(2 ^ 62) < lo ∧ lo < 2 ^ 62 ∧ -(2 ^ 62) < hi ∧ hi < 2 ^ 62 then .ok (rangeD lo (hi - lo).toNat) fr2 else .bad
    | _, _ => .bad
  | .range3 a b c, fr => (ev T a fr).fr fun d fr1 => (ev T b fr1).fr fun e fr2 => (ev T c fr2).fr fun f fr3 => match d, e, f with
    | .int lo, .int hi, .int st => if -(2 ^ 62) < lo ∧ lo < 2 ^ 62 ∧ -(2 ^ 62) < hi ∧ hi < 2 ^ 62 ∧ st = -1 then .ok (range3D lo (-1) (lo - hi).toNat) fr3 else .bad
    | _, _, _ => .bad
  | .zip a b, fr => (ev T a fr).fr fun d fr1 => (ev T b fr1).fr fun e fr2 => match seqOf d, seqOf e with
    | some xs, some ys => .ok (zipD xs ys) fr2
    | _, _ => .bad
  | .enum a st, fr => (ev T a fr).fr fun d fr1 => match d with | .lst xs => .ok (enumD st xs) fr1 | _ => .bad
  | .rev a, fr => (ev T a fr).fr fun d fr1 => match d with | .lst xs => .ok xs.reverse fr1 | _ => .bad
def looks (env : List Slot) : List RV → Option (List D)
  | [] => some []
  | r :: rs => match look env r, looks env rs with | some d, some ds => some (d :: ds) | _, _ => none
end
/-! ### statements -/
def Rs.frS (r : Rs RV) (k : D → Fr → Sx) : Sx :=
  r.toS fun v fr => match toD fr v with | some (d, fr') => k d fr' | none => .bad
def setE (fr : Fr) (i : Nat) (s : Slot) : Fr := { fr with env := fr.env.set i s }
def asgR (tg : Tg) (r : RV) (fr : Fr) : Sx :=
  match tg with
  | .slot i => match r with
    | .out (.fresh xs) => .next (setE fr i (.own xs))
    | r => match toD fr r with
      | some (d, fr') => .next (setE fr' i (.val d))
      | none => .bad
  | .tup ts => match toD fr r with
    | some (d, fr') => match bindT (.tup ts) d fr' with | some fr2 => .next fr2 | none => .bad
    | none => .bad
/-- several values, the new lists among them kept in slots behind the others -/
def parGo (T : Tab) (n : Nat) : List Tm → Fr → Rs (List RV)
  | [], fr => .ok [] fr
  | t :: ts, fr => (ev T t fr).bind fun r fr1 => match r with
    | .out (.fresh xs) => (parGo T n ts { fr1 with env := fr1.env ++ [.own xs] }).bind fun rs fr2 => .ok (.var fr1.env.length :: rs) fr2
    | r => (parGo T n ts fr1).bind fun rs fr2 => .ok (r :: rs) fr2
/-- the slots is := rs, one by one; a list that stands behind n moves -/
def parSet (n : Nat) : List Nat → List RV → Fr → Option Fr
  | [], [], fr => some fr
  | i :: is, r :: rs, fr => match r with
    | .out (.val d) => parSet n is rs (setE fr i (.val d))
    | .out (.fresh _) => none
    | .var j => if n ≤ j then match fr.env[j]? with
        | some (.own xs) => parSet n is rs (setE (setE fr j .un) i (.own xs))
        | _ => none else none
  | _, _, _ => none
def cutE (n : Nat) (fr : Fr) : Fr := { fr with env := fr.env.take n }
def cutX {α : Type} (n : Nat) : Rs α → Rs α
  | .exc c fs fr => .exc c fs (cutE n fr)
  | r => r
/-- a slot that holds a list of its own -/
def ownSlot : Tm → List Slot → Option Nat
  | .slot i, env => match env[i]? with | some (.own _) => some i | _ => none
  | _, _ => none
mutual
noncomputable def ex (T : Tab) : Stm → Fr → Sx
  | .skip, fr => .next fr
  | .stuck, _ => .bad
  | .expr t, fr => (ev T t fr).toS fun _ fr1 => .next fr1
  | .asg tg t, fr => (ev T t fr).toS fun r fr1 => asgR tg r fr1
  | .par is ts, fr => (cutX fr.env.length (parGo T fr.env.length ts fr)).toS fun rs fr1 => match parSet fr.env.length is rs fr1 with
    | some fr2 => .next (cutE fr.env.length fr2)
    | none => .bad
  | .setk o k v, fr => match ownSlot o fr.env with
    | some i => (ev T v fr).frS fun dv fr1 => match fr1.env[i]? with
      | some (.own _) => (ev T k fr1).frS fun dk fr2 => match fr2.env[i]?, dk with
        | some (.own xs), .int j => match ixN xs.length j with
          | some m => .next (setE fr2 i (.own (xs.set m dv)))
          | none => .bad
        | _, _ => .bad
      | _ => .bad
    | none => (ev T v fr).frS fun dv fr1 => (ev T o fr1).frS fun d fr2 => (ev T k fr2).frS fun dk fr3 => match d, keyOf dk with
      | .cell n, some kk => match fr3.sto[n]? with
        | some (.dict kvs) => if kvs.length < 1000 then .next { fr3 with sto := fr3.sto.set n (.dict (kput kvs kk dv)) } else .bad
        | _ => .bad
      | _, _ => .bad
  | .seti i k v, fr => (ev T v fr).frS fun dv fr1 => (ev T (.slot i) fr1).toS fun _ fr2 => (ev T k fr2).frS fun dk fr3 => match fr3.env[i]?, dk with
    | some (.own xs), .int j => match ixN xs.length j with
      | some m => .next (setE fr3 i (.own (xs.set m dv)))
      | none => .bad
    | _, _ => .bad
  | .seta o f v, fr => (ev T v fr).frS fun dv fr1 => (ev T o fr1).frS fun d fr2 => match d with
    | .cell n => match fr2.sto[n]? with
      | some (.inst c fs) => if T.fld c f && decide (fs.length < 100) then .next { fr2 with sto := fr2.sto.set n (.inst c (fput f dv fs)) } else .bad
      | _ => .bad
    | _ => .bad
  | .aug i op t, fr => match fr.env[i]? with
    | some (.val (.int x)) => (ev T t fr).frS fun d fr1 => match op, d with
      | .add, .int y => .next (setE fr1 i (.val (.int (x + y))))
      | .sub, .int y => .next (setE fr1 i (.val (.int (x - y))))
      | _, _ => .bad
    | _ => .bad
  | .append i t, fr => match fr.env[i]? with
    | some (.own _) => (ev T t fr).frS fun d fr1 => match fr1.env[i]? with
      | some (.own xs) => if xs.length < sizeLine then .next (setE fr1 i (.own (xs ++ [d]))) else .bad
      | _ => .bad
    | _ => .bad
  | .extend i t, fr => match fr.env[i]? with
    | some (.own _) => (ev T t fr).frS fun d fr1 => match fr1.env[i]?, d with
      | some (.own xs), .lst ys => if xs.length + ys.length ≤ sizeLine then .next (setE fr1 i (.own (xs ++ ys))) else .bad
      | _, _ => .bad
    | _ => .bad
  | .ite c a b, fr => (ev T c fr).frS fun d fr1 => match d with | .bl k => if k then exs T a fr1 else exs T b fr1 | _ => .bad
  | .whil c b, fr => whilGo (fun fr1 => (ev T c fr1).fr fun d fr2 => asB d fr2 fun k fr3 => .ok k fr3) (fun fr1 => exs T b fr1) fr
  | .for_ tg it b, fr => (evi T it fr).toS fun xs fr1 => forGo (bindT tg) (fun fr2 => exs T b fr2) xs fr1
  | .ret t, fr => (ev T t fr).toS fun r fr1 => match r with
    | .out o => .ret o fr1
    | .var i => match fr1.env[i]? with
      | some (.own xs) => .ret (.fresh xs) (setE fr1 i .un)
      | _ => .bad
  | .retN, fr => .ret (.val .non) fr
  | .brk, fr => .brk fr
  | .cont, fr => .cont fr
  | .rais c as, fr => (evs T as fr).toS fun ds fr1 => .exc c ds fr1
  | .tryx b hs, fr => match exs T b fr with
    | .exc c fs fr1 => exh T hs c fs fr1
    | r => r
noncomputable def exs (T : Tab) : List Stm → Fr → Sx
  | [], fr => .next fr
  | t :: ts, fr => (ex T t fr).seq fun fr1 => exs T ts fr1
noncomputable def exh (T : Tab) : List (Nat × Option Nat × List Stm) → Nat → List D → Fr → Sx
  | [], c, fs, fr => .exc c fs fr
  | (hc, _, b) :: hs, c, fs, fr => if T.sub c hc then exs T b fr else exh T hs c fs fr
end
/-- a def: how many slots, its body -/
structure Fd where
  n : Nat
  body : List Stm
noncomputable def run (T : Tab) (f : Fd) : Fn := fun ds sto =>
  match exs T f.body ⟨ds.map Slot.val ++ List.replicate (f.n - ds.length) .un, sto⟩ with
  | .next fr => .ret (.val .non) fr.sto
  | .ret o fr => .ret o fr.sto
  | .exc c fs fr => .exc c fs fr.sto
  | _ => .bad
/-! ### making an instance that does not change any more -/
/-- the statements of an __init__: an attribute of self stored, or a value let go -/
def iniGo (T : Tab) : List (Option Nat × Tm) → List (Nat × D) → Fr → Rs (List (Nat × D))
  | [], fs, fr => .ok fs fr
  | (some f, t) :: r, fs, fr => (ev T t fr).fr fun d fr1 => if fs.length < 1000 then iniGo T r (fput f d fs) fr1 else .bad
  | (none, t) :: r, fs, fr => (ev T t fr).bind fun _ fr1 => iniGo T r fs fr1
def iniFn (T : Tab) (c n np : Nat) (ib : List (Option Nat × Tm)) : Fn := fun ds sto => if ds.length = np then
  match iniGo T ib [] ⟨Slot.un :: (ds.map Slot.val ++ List.replicate (n - 1 - ds.length) .un), sto⟩ with
  | .ok fs fr => .ret (.val (.obj c fs)) fr.sto
  | .exc k fs fr => .exc k fs fr.sto
  | .bad => .bad
  else .bad
end Ag
namespace Ag
open PySem L2
structure Glb where
  K : PySem.W.Frag
  cl : Nat → Addr
  fn : Nat → Str
  xf : Nat → List Nat
section
variable (G : Glb)
mutual
inductive Rep (F : Hp) (io : List Addr) : D → V → Prop
  | non : Rep F io .non .non
  | bl (b) : Rep F io (.bl b) (.bl b)
  | int (i) : Rep F io (.int i) (.int i)
  | str (s) : Rep F io (.str s) (.str s)
  | tup {ds vs a} : SqT G.K F a vs → Reps F io ds vs → Rep F io (.tup ds) (.ref a)
  | lst {ds vs a} : F a = some (.lst vs) → Reps F io ds vs → Rep F io (.lst ds) (.ref a)
  | rol {ds vs a} : SqL G.K F a vs → Reps F io ds vs → Rep F io (.rol ds) (.ref a)
  | obj {c fs vs a dx} : F a = some (.ins (G.cl c) dx vs) → RepF F io fs vs → Rep F io (.obj c fs) (.ref a)
  | cell {n a} : io[n]? = some a → Rep F io (.cell n) (.ref a)
inductive Reps (F : Hp) (io : List Addr) : List D → List V → Prop
  | nil : Reps F io [] []
  | cons {d v ds vs} : Rep F io d v → Reps F io ds vs → Reps F io (d :: ds) (v :: vs)
inductive RepF (F : Hp) (io : List Addr) : List (Nat × D) → List (Str × V) → Prop
  | nil : RepF F io [] []
  | cons {f d v ds vs} : Rep F io d v → RepF F io ds vs → RepF F io ((f, d) :: ds) ((G.fn f, v) :: vs)
end
end
section
variable {G : Glb} {F F' : Hp} {io io' : List Addr}
def Pre (io io' : List Addr) : Prop := ∀ (n : Nat) (a : Addr), io[n]? = some a → io'[n]? = some a
theorem Pre.refl (io : List Addr) : Pre io io := fun _ _ h => h
theorem Pre.trans {i1 i2 i3 : List Addr} (a : Pre i1 i2) (b : Pre i2 i3) : Pre i1 i3 := fun n x h => b n x (a n x h)
theorem Same.sqT {K : PySem.W.Frag} {H H' : Hp} {a : Addr} {xs : List V} (e : Same H H') (h : SqT K H a xs) : SqT K H' a xs := @Rz _ _ (fun qz => @Hz.get _ _ (qz.bar : Hz _ (by
  clear qz
  rcases h with (h | ⟨o, h⟩) | h
  · exact .inl (.inl (e _ _ h))
  · exact .inl (.inr ⟨o, e _ _ h⟩)
  · exact .inr h))) Xz.mk
mutual
theorem Rep.mono (s : Same F F') (p : Pre io io') : ∀ {d : D} {v : V}, Rep G F io d v → Rep G F' io' d v
  | _, _, .non => .non
  | _, _, .bl b => .bl b
  | _, _, .int b => .int b
  | _, _, .str b => .str b
  | _, _, .tup h r => .tup (Same.sqT s h) (Reps.mono s p r)
  | _, _, .lst h r => .lst (s _ _ h) (Reps.mono s p r)
  | _, _, .rol h r => .rol (s.seq h) (Reps.mono s p r)
  | _, _, .obj h r => .obj (s _ _ h) (RepF.mono s p r)
  | _, _, .cell h => .cell (p _ _ h)
theorem Reps.mono (s : Same F F') (p : Pre io io') : ∀ {d : List D} {v : List V}, Reps G F io d v → Reps G F' io' d v
  | _, _, .nil => .nil
  | _, _, .cons h r => .cons (Rep.mono s p h) (Reps.mono s p r)
theorem RepF.mono (s : Same F F') (p : Pre io io') : ∀ {d : List (Nat × D)} {v : List (Str × V)}, RepF G F io d v → RepF G F' io' d v
  | _, _, .nil => .nil
  | _, _, .cons h r => .cons (Rep.mono s p h) (RepF.mono s p r)
end
theorem Reps.length : ∀ {d : List D} {v : List V}, Reps G F io d v → d.length = v.length
  | _, _, .nil => rfl
  | _, _, .cons _ r => by rw [List.length_cons, List.length_cons, Reps.length r]
theorem Reps.append : ∀ {d e : List D} {v u : List V}, Reps G F io d v → Reps G F io e u → Reps G F io (d ++ e) (v ++ u)
  | _, _, _, _, .nil, s => s
  | _, _, _, _, .cons h r, s => .cons h (Reps.append r s)
theorem Reps.get : ∀ {d : List D} {v : List V} {i : Nat} {x : D}, Reps G F io d v → d[i]? = some x → ∃ u, v[i]? = some u ∧ Rep G F io x u
  | _, _, _, _, .nil, e => by simp at e
  | _, _, 0, _, .cons h _, e => by simp at e; subst e; exact ⟨_, rfl, h⟩
  | _, _, i + 1, x, .cons _ r, e => by
    obtain ⟨u, h1, h2⟩ := Reps.get (i := i) (x := x) r (by simpa using e)
    exact ⟨u, by simpa using h1, h2⟩
theorem Reps.take : ∀ {d : List D} {v : List V} (n : Nat), Reps G F io d v → Reps G F io (d.take n) (v.take n)
  | _, _, 0, _ => by simp; exact .nil
  | _, _, n + 1, .nil => by simp; exact .nil
  | _, _, n + 1, .cons h r => by simp; exact .cons h (Reps.take n r)
theorem Reps.drop : ∀ {d : List D} {v : List V} (n : Nat), Reps G F io d v → Reps G F io (d.drop n) (v.drop n)
  | _, _, 0, h => by simpa using h
  | _, _, n + 1, .nil => by simp; exact .nil
  | _, _, n + 1, .cons h r => by simp; exact Reps.drop n r
theorem Reps.set {x : D} {u : V} (hx : Rep G F io x u) : ∀ {d : List D} {v : List V} (n : Nat), Reps G F io d v → Reps G F io (d.set n x) (v.set n u)
  | _, _, _, .nil => .nil
  | _, _, 0, .cons h r => .cons hx r
  | _, _, n + 1, .cons h r => .cons h (Reps.set hx n r)
theorem Reps.reverse : ∀ {d : List D} {v : List V}, Reps G F io d v → Reps G F io d.reverse v.reverse
  | _, _, .nil => .nil
  | _, _, .cons h r => by rw [List.reverse_cons, List.reverse_cons]; exact (Reps.reverse r).append (.cons h .nil)
inductive RepK (G : Glb) (F : Hp) (io : List Addr) : List (Key × D) → List (Key × V) → Prop
  | nil : RepK G F io [] []
  | cons {k d v ds vs} : Rep G F io d v → RepK G F io ds vs → RepK G F io ((k, d) :: ds) ((k, v) :: vs)
theorem RepK.mono (s : Same F F') (p : Pre io io') : ∀ {d : List (Key × D)} {v : List (Key × V)}, RepK G F io d v → RepK G F' io' d v
  | _, _, .nil => .nil
  | _, _, .cons h r => .cons (h.mono s p) (RepK.mono s p r)
theorem RepK.length : ∀ {d : List (Key × D)} {v : List (Key × V)}, RepK G F io d v → d.length = v.length
  | _, _, .nil => rfl
  | _, _, .cons _ r => by rw [List.length_cons, List.length_cons, RepK.length r]
def CellOk (G : Glb) (F : Hp) (io : List Addr) (H : Hp) (a : Addr) : Cell → Prop
  | .dict kvs => ∃ vs, H a = some (.dK vs) ∧ RepK G F io kvs vs
  | .inst c fs => ∃ dx vs, H a = some (.ins (G.cl c) dx vs) ∧ RepF G F io fs vs
/-- the heap at an entry, and what was known not to change any more -/
structure Ent where
  hp : Hp
  fz : Hp
instance : CoeFun Ent (fun _ => Addr → Option HO) := ⟨Ent.hp⟩
/-- what F may hold -/
def Fz : HO → Prop
  | .dK _ => False
  | .dT _ => False
  | _ => True
/-- the objects: F what never changes any more, io where the cells stand, H0 the heap at the entry, n0 the cells at the entry -/
structure Wr (G : Glb) (H0 : Ent) (n0 : Nat) (sto : List Cell) (H F : Hp) (io : List Addr) : Prop where
  sub : Same F H
  len : io.length = sto.length
  cel : ∀ (n : Nat) (c : Cell), sto[n]? = some c → ∃ a, io[n]? = some a ∧ F a = none ∧ CellOk G F io H a c
  inj : ∀ (i j : Nat) (a : Addr), io[i]? = some a → io[j]? = some a → i = j
  keep : ∀ a o, H0 a = some o → (∀ n : Nat, n < n0 → io[n]? ≠ some a) → H a = some o
  new : ∀ (n : Nat) (a : Addr), n0 ≤ n → io[n]? = some a → H0 a = none
  frz : ∀ a o, F a = some o → Fz o
  nle : n0 ≤ io.length
  old : ∀ a o u, H0 a = some o → F a = some u → H0.fz a = some u
/-- at p stands a list that nothing but a slot knows -/
def Own (G : Glb) (H0 : Ent) (H F : Hp) (io : List Addr) (xs : List D) (p : Addr) : Prop :=
  ∃ vs, H p = some (.lst vs) ∧ F p = none ∧ (∀ n : Nat, io[n]? ≠ some p) ∧ H0 p = none ∧ Reps G F io xs vs
def SlOk (G : Glb) (H0 : Ent) (H F : Hp) (io : List Addr) : Slot → Option (Option V) → Prop
  | .un, _ => True
  | .val d, o => ∃ v, o = some (some v) ∧ Rep G F io d v
  | .own xs, o => ∃ p, o = some (some (.ref p)) ∧ Own G H0 H F io xs p
structure Sl (G : Glb) (H0 : Ent) (H F : Hp) (io : List Addr) (env : List Slot) (σ : St) : Prop where
  len : env.length = σ.length
  at_ : ∀ (i : Nat) (s : Slot), env[i]? = some s → SlOk G H0 H F io s σ[i]?
  dis : ∀ (i j : Nat) (xs ys : List D) (p : Addr), env[i]? = some (.own xs) → env[j]? = some (.own ys) → σ[i]? = some (some (.ref p)) → σ[j]? = some (some (.ref p)) → i = j
structure Ws (G : Glb) (H0 : Ent) (n0 : Nat) (fr : Fr) (σ : St) (H F : Hp) (io : List Addr) : Prop where
  wr : Wr G H0 n0 fr.sto H F io
  sl : Sl G H0 H F io fr.env σ
def Hk (G : Glb) (F : Hp) (io : List Addr) (σ : St) : RV → V → Prop
  | .out (.val d), v => Rep G F io d v
  | .out (.fresh _), _ => False
  | .var i, v => σ[i]? = some (some v)
def RvOk (G : Glb) (H0 : Ent) (H F : Hp) (io : List Addr) (env : List Slot) (σ : St) : RV → V → Prop
  | .out (.val d), v => Rep G F io d v
  | .out (.fresh xs), v => ∃ p, v = .ref p ∧ Own G H0 H F io xs p ∧ ∀ (i : Nat) (ys : List D), env[i]? = some (.own ys) → σ[i]? ≠ some (some (.ref p))
  | .var i, v => σ[i]? = some (some v)
/-- looked at: a part of F, or the list of a slot -/
def Lk (G : Glb) (F : Hp) (io : List Addr) (H : Hp) (d : D) (v : V) : Prop :=
  Rep G F io d v ∨ ∃ xs p vs, d = .lst xs ∧ v = .ref p ∧ H p = some (.lst vs) ∧ Reps G F io xs vs
theorem Hk.mono {σ : St} (s : Same F F') (p : Pre io io') {r : RV} {v : V} (h : Hk G F io σ r v) : Hk G F' io' σ r v := @Rz _ _ (fun qz => @Hz.get _ _ (qz.bar : Hz _ (by
  clear qz
  cases r with
  | out o =>
    cases o with
    | val d => exact Rep.mono s p h
    | fresh xs => exact h
  | var i => exact h))) Xz.mk
section
variable {H0 : Ent} {H : Hp} {n0 : Nat} {fr : Fr} {σ : St}
theorem Ws.look (w : Ws G H0 n0 fr σ H F io) {r : RV} {v : V} {d : D} (h : Hk G F io σ r v) (e : look fr.env r = some d) : Lk G F io H d v := @Rz _ _ (fun qz => @Hz.get _ _ (qz.bar : Hz _ (by
  clear qz
  cases r with
  | out o =>
    cases o with
    | val x => cases e; exact .inl h
    | fresh xs => exact h.elim
  | var i =>
    have h' : σ[i]? = some (some v) := h
    unfold Ag.look at e
    cases q : fr.env[i]? with
    | none => simp [q] at e
    | some s =>
      have sl := w.sl.at_ i s q
      cases s with
      | un => simp [q] at e
      | val x =>
        simp [q] at e; subst e
        obtain ⟨u, e1, r⟩ := sl
        rw [h'] at e1; cases e1
        exact .inl r
      | own xs =>
        simp [q] at e; subst e
        obtain ⟨p, e1, vs, h1, h2, h3, h4, h5⟩ := sl
        rw [h'] at e1; cases e1
        exact .inr ⟨xs, p, vs, rfl, rfl, h1, h5⟩))) Xz.mk
/-- p is now a part of F -/
theorem Wr.freeze {sto : List Cell} (w : Wr G H0 n0 sto H F io) {p : Addr} {vs : List V} (hp : H p = some (.lst vs)) (fp : F p = none) (ip : ∀ n : Nat, io[n]? ≠ some p) (h0p : H0 p = none) : Same F (upd F p (.lst vs)) ∧ Wr G H0 n0 sto H (upd F p (.lst vs)) io := @Rz _ _ (fun qz => @Hz.get _ _ (qz.bar : Hz _ (by
  clear qz
  have sm : Same F (upd F p (.lst vs)) := fun b o e => by rw [upd_ne (ne_of_none e fp)]; exact e
  refine ⟨sm, ⟨fun b o e => ?_, w.len, fun n c e => ?_, w.inj, w.keep, w.new, fun b o e => ?_, w.nle, fun b o u e1 e2 => ?_⟩⟩
  · by_cases hb : b = p
    · subst hb; rw [upd_same] at e; cases e; exact hp
    · rw [upd_ne hb] at e; exact w.sub b o e
  · obtain ⟨a, e1, e2, e3⟩ := w.cel n c e
    refine ⟨a, e1, ?_, ?_⟩
    · have : a ≠ p := fun z => ip n (z ▸ e1)
      rw [upd_ne this]; exact e2
    · cases c with
      | dict kvs => obtain ⟨us, h1, h2⟩ := e3; exact ⟨us, h1, h2.mono sm (Pre.refl _)⟩
      | inst c fs => obtain ⟨dx, us, h1, h2⟩ := e3; exact ⟨dx, us, h1, h2.mono sm (Pre.refl _)⟩
  · by_cases hb : b = p
    · subst hb; rw [upd_same] at e; cases e; trivial
    · rw [upd_ne hb] at e; exact w.frz b o e
  · by_cases hb : b = p
    · subst hb; rw [h0p] at e1; cases e1
    · rw [upd_ne hb] at e2; exact w.old b o u e1 e2))) Xz.mk
theorem SlOk.mono {H' : Hp} (s : Same F F') (p : Pre io io') (k : ∀ xs q, Own G H0 H F io xs q → Own G H0 H' F' io' xs q) {sl : Slot} {o : Option (Option V)} (h : SlOk G H0 H F io sl o) : SlOk G H0 H' F' io' sl o := @Rz _ _ (fun qz => @Hz.get _ _ (qz.bar : Hz _ (by
  clear qz
  cases sl with
  | un => trivial
  | val d => obtain ⟨v, e, r⟩ := h; exact ⟨v, e, r.mono s p⟩
  | own xs => obtain ⟨q, e, r⟩ := h; exact ⟨q, e, k _ _ r⟩))) Xz.mk
theorem set_own {env : List Slot} {i j : Nat} {s : Slot} {xs : List D} (hs : ∀ ys, s ≠ .own ys) (h : (env.set i s)[j]? = some (.own xs)) : j ≠ i ∧ env[j]? = some (.own xs) := @Rz _ _ (fun qz => @Hz.get _ _ (qz.bar : Hz _ (by
  clear qz
  by_cases e : i = j
  · subst e
    rw [List.getElem?_set_self'] at h
    cases q : env[i]? with
    | none => rw [q] at h; cases h
    | some z => rw [q] at h; simp at h; exact absurd h (hs xs)
  · rw [List.getElem?_set_ne e] at h
    exact ⟨fun z => e z.symm, h⟩))) Xz.mk
theorem set_at {env : List Slot} {i j : Nat} {s t : Slot} (h : (env.set i s)[j]? = some t) : (j = i ∧ t = s) ∨ (j ≠ i ∧ env[j]? = some t) := @Rz _ _ (fun qz => @Hz.get _ _ (qz.bar : Hz _ (by
  clear qz
  by_cases e : i = j
  · subst e
    rw [List.getElem?_set_self'] at h
    cases q : env[i]? with
    | none => rw [q] at h; cases h
    | some z => rw [q] at h; simp at h; exact .inl ⟨rfl, h.symm⟩
  · rw [List.getElem?_set_ne e] at h
    exact .inr ⟨fun z => e z.symm, h⟩))) Xz.mk
/-- a slot's list becomes a part of F -/
theorem Ws.freezeSlot (w : Ws G H0 n0 fr σ H F io) {i : Nat} {xs : List D} (e : fr.env[i]? = some (.own xs)) :
    ∃ p F', σ[i]? = some (some (.ref p)) ∧ Same F F' ∧ Rep G F' io (.lst xs) (.ref p) ∧ Ws G H0 n0 { fr with env := fr.env.set i (.val (.lst xs)) } σ H F' io := @Rz _ _ (fun qz => @Hz.get _ _ (qz.bar : Hz _ (by
  clear qz
  obtain ⟨p, e1, vs, h1, h2, h3, h4, h5⟩ := w.sl.at_ i _ e
  obtain ⟨sm, wr⟩ := w.wr.freeze h1 h2 h3 h4
  have rp : Rep G (upd F p (.lst vs)) io (.lst xs) (.ref p) := .lst upd_same (h5.mono sm (Pre.refl _))
  refine ⟨p, _, e1, sm, rp, wr, ?_⟩
  refine ⟨by rw [List.length_set]; exact w.sl.len, fun j s q => ?_, fun j k ys zs q g1 g2 => ?_⟩
  · rcases set_at q with ⟨rfl, rfl⟩ | ⟨ne, q⟩
    · exact ⟨_, e1, rp⟩
    · cases s with
      | un => trivial
      | val d =>
        obtain ⟨v, ev, r⟩ := w.sl.at_ j _ q
        exact ⟨v, ev, r.mono sm (Pre.refl _)⟩
      | own ys =>
        obtain ⟨q', eq, us, k1, k2, k3, k4, k5⟩ := w.sl.at_ j _ q
        have nq : q' ≠ p := fun z => ne (w.sl.dis j i ys xs p q e (z ▸ eq) e1)
        exact ⟨q', eq, us, k1, by rw [upd_ne nq]; exact k2, k3, k4, k5.mono sm (Pre.refl _)⟩
  · obtain ⟨_, g1⟩ := set_own (fun _ z => by cases z) g1
    obtain ⟨_, g2⟩ := set_own (fun _ z => by cases z) g2
    exact w.sl.dis j k ys zs q g1 g2))) Xz.mk
theorem Ws.toD (w : Ws G H0 n0 fr σ H F io) {r : RV} {v : V} {d : D} {fr' : Fr} (h : RvOk G H0 H F io fr.env σ r v) (e : toD fr r = some (d, fr')) :
    ∃ F', Same F F' ∧ Rep G F' io d v ∧ Ws G H0 n0 fr' σ H F' io := @Rz _ _ (fun qz => @Hz.get _ _ (qz.bar : Hz _ (by
  clear qz
  cases r with
  | out o =>
    cases o with
    | val x => cases e; exact ⟨F, Same.refl _, h, w⟩
    | fresh xs =>
      cases e
      obtain ⟨p, rfl, ⟨vs, h1, h2, h3, h4, h5⟩, hd⟩ := h
      obtain ⟨sm, wr⟩ := w.wr.freeze h1 h2 h3 h4
      refine ⟨_, sm, .lst upd_same (h5.mono sm (Pre.refl _)), wr, w.sl.len, fun j s q => ?_, w.sl.dis⟩
      cases s with
      | un => trivial
      | val d =>
        obtain ⟨v, ev, r⟩ := w.sl.at_ j _ q
        exact ⟨v, ev, r.mono sm (Pre.refl _)⟩
      | own ys =>
        obtain ⟨q', eq, us, k1, k2, k3, k4, k5⟩ := w.sl.at_ j _ q
        have nq : q' ≠ p := fun z => hd j ys q (z ▸ eq)
        exact ⟨q', eq, us, k1, by rw [upd_ne nq]; exact k2, k3, k4, k5.mono sm (Pre.refl _)⟩
  | var i =>
    have h' : σ[i]? = some (some v) := h
    unfold Ag.toD at e
    cases q : fr.env[i]? with
    | none => simp [q] at e
    | some s =>
      cases s with
      | un => simp [q] at e
      | val x =>
        simp [q] at e
        obtain ⟨rfl, rfl⟩ := e
        obtain ⟨u, e1, r⟩ := w.sl.at_ i _ q
        rw [h'] at e1; cases e1
        exact ⟨F, Same.refl _, r, w⟩
      | own xs =>
        simp [q] at e
        obtain ⟨rfl, rfl⟩ := e
        obtain ⟨p, F', e1, sm, rp, w'⟩ := w.freezeSlot q
        rw [h'] at e1; cases e1
        exact ⟨F', sm, rp, w'⟩))) Xz.mk
theorem Ws.hold (w : Ws G H0 n0 fr σ H F io) {r : RV} {v : V} (h : RvOk G H0 H F io fr.env σ r v) : ∃ F', Same F F' ∧ Hk G F' io σ (hold r) v ∧ Ws G H0 n0 fr σ H F' io := @Rz _ _ (fun qz => @Hz.get _ _ (qz.bar : Hz _ (by
  clear qz
  cases r with
  | out o =>
    cases o with
    | val x => exact ⟨F, Same.refl _, h, w⟩
    | fresh xs =>
      obtain ⟨F', sm, rp, w'⟩ := w.toD (r := .out (.fresh xs)) (d := .lst xs) (fr' := fr) h rfl
      exact ⟨F', sm, rp, w'⟩
  | var i => exact ⟨F, Same.refl _, h, w⟩))) Xz.mk
end
end
end Ag
namespace Ag
open PySem L2
def Rs.all {α : Type} (r : Rs α) (P : α → Fr → Prop) (PX : Nat → List D → Fr → Prop) : Prop :=
  match r with
  | .ok a fr => P a fr
  | .exc c fs fr => PX c fs fr
  | .bad => False
theorem Rs.all_bind {α β : Type} {m : Rs α} {k : α → Fr → Rs β} {P : β → Fr → Prop} {PX : Nat → List D → Fr → Prop} (h : (m.bind k).all P PX) : m.all (fun a fr => (k a fr).all P PX) PX := @Rz _ _ (fun qz => @Hz.get _ _ (qz.bar : Hz _ (by
  clear qz
  cases m with
  | ok a fr => exact h
  | exc c fs fr => exact h
  | bad => exact h))) Xz.mk
theorem Rs.all_imp {α : Type} {m : Rs α} {P P' : α → Fr → Prop} {PX PX' : Nat → List D → Fr → Prop} (h : m.all P PX) (k : ∀ a fr, P a fr → P' a fr) (kx : ∀ c fs fr, PX c fs fr → PX' c fs fr) : m.all P' PX' := @Rz _ _ (fun qz => @Hz.get _ _ (qz.bar : Hz _ (by
  clear qz
  cases m with
  | ok a fr => exact k _ _ h
  | exc c fs fr => exact kx _ _ _ h
  | bad => exact h))) Xz.mk
theorem Rs.all_fr {α : Type} {m : Rs RV} {k : D → Fr → Rs α} {P : α → Fr → Prop} {PX : Nat → List D → Fr → Prop} (h : (m.fr k).all P PX) :
    m.all (fun r fr => ∃ d fr', toD fr r = some (d, fr') ∧ (k d fr').all P PX) PX := @Rz _ _ (fun qz => @Hz.get _ _ (qz.bar : Hz _ (by
  clear qz
  refine Rs.all_imp (Rs.all_bind h) (fun r fr q => ?_) fun _ _ _ q => q
  cases e : toD fr r with
  | none => rw [e] at q; exact q.elim
  | some p => rw [e] at q; exact ⟨p.1, p.2, rfl, q⟩))) Xz.mk
structure En where
  X : Cx
  G : Glb
  H0 : Ent
  n0 : Nat
  T : Tab
  W : WX
structure En.Ok (E : En) : Prop where
  k : E.G.K = E.X.K
  nd : E.X.N.Nodup
  calm : E.X.calm = true
  hu5 : E.X.A.units + 65 < cLine
  tk : Takes E.X E.W
  inj : ∀ f g, E.G.fn f = E.G.fn g → f = g
  fld : ∀ c f, E.T.fld c f = true → Cls E.X.K (E.G.cl c) ∧ NoAttr E.X.K (E.G.cl c) (E.G.fn f)
theorem En.Ok.hu {E : En} (ok : E.Ok) : E.X.A.units + 64 < cLine := by have := ok.hu5; omega
/-- an exception's fields -/
def ExOk (G : Glb) (F : Hp) (io : List Addr) (H : Hp) (c : Nat) (fs : List D) (d : Option Addr) : Prop :=
  (∃ a vs, d = some a ∧ H a = some (.xd vs) ∧ vs.map (·.1) = (G.xf c).map G.fn ∧ Reps G F io fs (vs.map (·.2))) ∨ (fs = [] ∧ d = none)
section
variable (E : En)
abbrev En.ws (fr : Fr) (σ : St) (H F : Hp) (io : List Addr) : Prop := Ws E.G E.H0 E.n0 fr σ H F io
def okE (σ t : St) (F : Hp) (io : List Addr) (Q : VK) : RV → Fr → Prop := fun r fr => ∀ v H' F' io', Same F F' → Pre io io' → E.ws fr (σ ++ t) H' F' io' → RvOk E.G E.H0 H' F' io' fr.env (σ ++ t) r v → Q v H'
def exE (σ t : St) (F : Hp) (io : List Addr) : Nat → List D → Fr → Prop := fun c fs fr => ∀ d H' F' io', Same F F' → Pre io io' → E.ws fr (σ ++ t) H' F' io' → ExOk E.G F' io' H' c fs d → E.W (.ref (E.G.cl c)) d σ H'
/-- the weakest readings -/
def wE (X : Cx) (e : Expr) : TE := fun σ H Q => ∀ (pins : List (Addr × Obj)) (s : Shared), Inv X pins σ H s → wpAny (model X.prog X.w) X.A (eval e X.env) (EP X pins σ Q) X.xe s
def wT (X : Cx) (e : Expr) : TT := fun σ H Q => ∀ (pins : List (Addr × Obj)) (s : Shared), Inv X pins σ H s → wpAny (model X.prog X.w) X.A (isTrue e X.env (eval e X.env)) (TP X pins σ Q) X.xe s
def wA (X : Cx) (es : List Expr) : TA := fun σ H Q => ∀ (pos : Pos) (pins : List (Addr × Obj)) (s : Shared), Inv X pins σ H s → wpAny (model X.prog X.w) X.A (spliced (backTo pos (starEach es X.env))) (AP X pins σ Q) X.xe s
theorem pe_w {X : Cx} {e : Expr} : PE X e (wE X e) := ⟨fun pins s σ H Q I h => h pins s I⟩
theorem pt_w {X : Cx} {e : Expr} : PT X e (wT X e) := ⟨fun pins s σ H Q I h => h pins s I⟩
theorem pa_w {X : Cx} {es : List Expr} : PA X es (wA X es) := ⟨fun pos pins s σ H Q I h => h pos pins s I⟩
theorem wE_of {X : Cx} {e : Expr} {t : TE} {σ : St} {H : Hp} {Q : VK} (h : PE X e t) (q : t σ H Q) : wE X e σ H Q := fun pins s I => h.run pins s σ H Q I q
theorem wT_of {X : Cx} {e : Expr} {t : TT} {σ : St} {H : Hp} {Q : Bool → Hp → Prop} (h : PT X e t) (q : t σ H Q) : wT X e σ H Q := fun pins s I => h.run pins s σ H Q I q
theorem wA_of {X : Cx} {e : List Expr} {t : TA} {σ : St} {H : Hp} {Q : List V → Hp → Prop} (h : PA X e t) (q : t σ H Q) : wA X e σ H Q := fun pos pins s I => h.run pos pins s σ H Q I q
/-- the model's expression does what the core term tells -/
def SE (e : Expr) (t : Tm) : Prop := ∀ (fr : Fr) (σ tp : St) (H F : Hp) (io : List Addr) (Q : VK), σ.length = E.X.N.length → E.ws fr (σ ++ tp) H F io → (ev E.T t fr).all (okE E σ tp F io Q) (exE E σ tp F io) → wE E.X e σ H Q
def ST (e : Expr) (t : Tm) : Prop := ∀ (fr : Fr) (σ tp : St) (H F : Hp) (io : List Addr) (Q : Bool → Hp → Prop), σ.length = E.X.N.length → E.ws fr (σ ++ tp) H F io →
  (ev E.T t fr).all (fun r fr => ∃ b, look fr.env r = some (.bl b) ∧ ∀ H' F' io', Same F F' → Pre io io' → E.ws fr (σ ++ tp) H' F' io' → Q b H') (exE E σ tp F io) → wT E.X e σ H Q
/-- arguments as parts -/
def SA (es : List Expr) (ts : List Tm) : Prop := ∀ (fr : Fr) (σ tp : St) (H F : Hp) (io : List Addr) (Q : List V → Hp → Prop), σ.length = E.X.N.length → E.ws fr (σ ++ tp) H F io →
  (evs E.T ts fr).all (fun ds fr' => ∀ vs H' F' io', Same F F' → Pre io io' → E.ws fr' (σ ++ tp) H' F' io' → Reps E.G F' io' ds vs → Q vs H') (exE E σ tp F io) → wA E.X es σ H Q
/-- arguments that are only looked at -/
def SP' (es : List Expr) (ts : List Tm) : Prop := ∀ (fr : Fr) (σ tp : St) (H F : Hp) (io : List Addr) (Q : List V → Hp → Prop), σ.length = E.X.N.length → E.ws fr (σ ++ tp) H F io →
  (evp E.T ts fr).all (fun rs fr' => ∀ vs H' F' io', Same F F' → Pre io io' → E.ws fr' (σ ++ tp) H' F' io' → Paired (Hk E.G F' io' (σ ++ tp)) rs vs → Q vs H') (exE E σ tp F io) → wA E.X es σ H Q
end
section
variable {E : En} {e a b c : Expr} {ta tb tc : Tm} {fr : Fr} {σ tp : St} {H F : Hp} {io : List Addr} {Q : VK}
theorem exE.mono {F' : Hp} {io' : List Addr} (s : Same F F') (p : Pre io io') {c : Nat} {fs : List D} {fr : Fr} (h : exE E σ tp F io c fs fr) : exE E σ tp F' io' c fs fr :=
  fun d H' F2 io2 s2 p2 w x => h d H' F2 io2 (s.trans s2) (p.trans p2) w x
/-- a part: evaluated, then as data -/
theorem SE.part (ha : SE E a ta) (hl : σ.length = E.X.N.length) (w : E.ws fr (σ ++ tp) H F io) {α : Type} {k : D → Fr → Rs α} {P : α → Fr → Prop} (h : ((ev E.T ta fr).fr k).all P (exE E σ tp F io))
    (q : ∀ d fr1 v H1 F1 io1, Same F F1 → Pre io io1 → E.ws fr1 (σ ++ tp) H1 F1 io1 → Rep E.G F1 io1 d v → (k d fr1).all P (exE E σ tp F1 io1) → Q v H1) : wE E.X a σ H Q := @Rz _ _ (fun qz => @Hz.get _ _ (qz.bar : Hz _ (by
  clear qz
  refine ha fr σ tp H F io Q hl w (Rs.all_imp (Rs.all_fr h) (fun r fr1 z => ?_) fun _ _ _ x => x)
  obtain ⟨d, fr', e1, z⟩ := z
  intro v H' F' io' s p w' rv
  obtain ⟨F2, s2, rp, w2⟩ := w'.toD rv e1
  exact q d fr' v H' F2 io' (s.trans s2) p w2 rp (Rs.all_imp z (fun _ _ y => y) fun _ _ _ y => y.mono (s.trans s2) p)))) Xz.mk
/-- looked at: evaluated, held -/
theorem SE.held (ha : SE E a ta) (hl : σ.length = E.X.N.length) (w : E.ws fr (σ ++ tp) H F io) {α : Type} {k : RV → Fr → Rs α} {P : α → Fr → Prop} (h : ((ev E.T ta fr).bind k).all P (exE E σ tp F io))
    (q : ∀ r fr1 v H1 F1 io1, Same F F1 → Pre io io1 → E.ws fr1 (σ ++ tp) H1 F1 io1 → Hk E.G F1 io1 (σ ++ tp) (hold r) v → (k r fr1).all P (exE E σ tp F1 io1) → Q v H1) : wE E.X a σ H Q := @Rz _ _ (fun qz => @Hz.get _ _ (qz.bar : Hz _ (by
  clear qz
  refine ha fr σ tp H F io Q hl w (Rs.all_imp (Rs.all_bind h) (fun r fr1 z => ?_) fun _ _ _ x => x)
  intro v H' F' io' s p w' rv
  obtain ⟨F2, s2, hk, w2⟩ := w'.hold rv
  exact q r fr1 v H' F2 io' (s.trans s2) p w2 hk (Rs.all_imp z (fun _ _ y => y) fun _ _ _ y => y.mono (s.trans s2) p)))) Xz.mk
/-! ### names, constants -/
theorem lift_at {i : Nat} {x : Str} (hl : σ.length = E.X.N.length) (hN : E.X.N[i]? = some x) : (σ ++ tp)[i]? = σ[i]? := @Rz _ _ (fun qz => @Hz.get _ _ (qz.bar : Hz _ (by
  clear qz
  have : i < E.X.N.length := (List.getElem?_eq_some_iff.mp hN).1
  rw [List.getElem?_append_left (by omega)]))) Xz.mk
theorem SE_slot {i : Nat} {x : Str} {pos : Pos} (hN : E.X.N[i]? = some x) (hv : Vis E.X.env.scope x) (hd : (x == ("__debug__" : Str)) = false) (hcd : (x == ("__classdict__" : Str)) = false) : SE E (.Name x pos) (.slot i) := @Rz _ _ (fun qz => @Hz.get _ _ (qz.bar : Hz _ (by
  clear qz
  intro fr σ tp H F io Q hl w h
  refine wE_of (pe_var hN hv hd hcd) ?_
  unfold ev at h
  cases q : fr.env[i]? with
  | none => simp [q] at h; exact h.elim
  | some s =>
    have sl := w.sl.at_ i s q
    rw [lift_at hl hN] at sl
    cases s with
    | un => simp [q] at h; exact h.elim
    | val d =>
      simp [q] at h
      obtain ⟨v, e1, r⟩ := sl
      exact ⟨v, e1, h v H F io (Same.refl _) (Pre.refl _) w r⟩
    | own xs =>
      simp [q] at h
      obtain ⟨p, e1, _⟩ := sl
      exact ⟨.ref p, e1, h _ H F io (Same.refl _) (Pre.refl _) w (show (σ ++ tp)[i]? = _ by rw [lift_at hl hN, e1])⟩))) Xz.mk
theorem SE_non {j : Nat} {pos : Pos} : SE E (.Constant .none j pos) .non := fun fr σ tp H F io Q hl w h => wE_of pe_non (h _ H F io (Same.refl _) (Pre.refl _) w .non)
theorem SE_bl {b : Bool} {j : Nat} {pos : Pos} : SE E (.Constant (.bool b) j pos) (.bl b) := fun fr σ tp H F io Q hl w h => wE_of pe_bl (h _ H F io (Same.refl _) (Pre.refl _) w (.bl b))
theorem SE_int {i : Int} {j : Nat} {pos : Pos} : SE E (.Constant (.int i) j pos) (.int i) := fun fr σ tp H F io Q hl w h => wE_of pe_int (h _ H F io (Same.refl _) (Pre.refl _) w (.int i))
theorem SE_str {x : Str} {j : Nat} {pos : Pos} : SE E (.Constant (.str x) j pos) (.str x) := fun fr σ tp H F io Q hl w h => wE_of pe_str (h _ H F io (Same.refl _) (Pre.refl _) w (.str x))
/-! ### data by values -/
theorem Lk.int {G : Glb} {i : Int} {v : V} (h : Lk G F io H (.int i) v) : v = .int i := @Rz _ _ (fun qz => @Hz.get _ _ (qz.bar : Hz _ (by
  clear qz
  rcases h with h | ⟨_, _, _, e, _⟩
  · cases h; rfl
  · cases e))) Xz.mk
theorem Lk.str {G : Glb} {i : Str} {v : V} (h : Lk G F io H (.str i) v) : v = .str i := @Rz _ _ (fun qz => @Hz.get _ _ (qz.bar : Hz _ (by
  clear qz
  rcases h with h | ⟨_, _, _, e, _⟩
  · cases h; rfl
  · cases e))) Xz.mk
theorem Lk.bl {G : Glb} {i : Bool} {v : V} (h : Lk G F io H (.bl i) v) : v = .bl i := @Rz _ _ (fun qz => @Hz.get _ _ (qz.bar : Hz _ (by
  clear qz
  rcases h with h | ⟨_, _, _, e, _⟩
  · cases h; rfl
  · cases e))) Xz.mk
theorem Lk.non {G : Glb} {v : V} (h : Lk G F io H .non v) : v = .non := @Rz _ _ (fun qz => @Hz.get _ _ (qz.bar : Hz _ (by
  clear qz
  rcases h with h | ⟨_, _, _, e, _⟩
  · cases h; rfl
  · cases e))) Xz.mk
theorem Lk.lst {G : Glb} {xs : List D} {v : V} (s : Same F H) (h : Lk G F io H (.lst xs) v) : ∃ p vs, v = .ref p ∧ H p = some (.lst vs) ∧ Reps G F io xs vs := @Rz _ _ (fun qz => @Hz.get _ _ (qz.bar : Hz _ (by
  clear qz
  rcases h with h | ⟨xs', p, vs, e, rfl, h1, h2⟩
  · cases h with | lst h r => exact ⟨_, _, rfl, s _ _ h, r⟩
  · cases e; exact ⟨p, vs, rfl, h1, h2⟩))) Xz.mk
theorem Lk.rol {G : Glb} {xs : List D} {v : V} (s : Same F H) (h : Lk G F io H (.rol xs) v) : ∃ p vs, v = .ref p ∧ SqL G.K H p vs ∧ Reps G F io xs vs := @Rz _ _ (fun qz => @Hz.get _ _ (qz.bar : Hz _ (by
  clear qz
  rcases h with h | ⟨xs', p, vs, e, rfl, h1, h2⟩
  · cases h with | rol h r => exact ⟨_, _, rfl, s.seq h, r⟩
  · cases e))) Xz.mk
theorem Lk.tup {G : Glb} {xs : List D} {v : V} (s : Same F H) (h : Lk G F io H (.tup xs) v) : ∃ p vs, v = .ref p ∧ SqT G.K H p vs ∧ SqT G.K F p vs ∧ Reps G F io xs vs := @Rz _ _ (fun qz => @Hz.get _ _ (qz.bar : Hz _ (by
  clear qz
  rcases h with h | ⟨_, _, _, e, _⟩
  · cases h with | tup h r => exact ⟨_, _, rfl, Same.sqT s h, h, r⟩
  · cases e))) Xz.mk
mutual
theorem Rep.dp {K : PySem.W.Frag} {G : Glb} (hK : G.K = K) (s : Same F H) : ∀ {d : D} {v : V} {p : PyData}, Rep G F io d v → toPy d = some p → Dp K H v p
  | _, _, _, .non, e => by cases e; constructor
  | _, _, _, .bl b, e => by cases e; constructor
  | _, _, _, .int b, e => by cases e; constructor
  | _, _, _, .str b, e => by cases e; constructor
  | .tup ds, _, _, .tup h r, e => by
    unfold toPy at e
    cases q : toPys ds with
    | none => rw [q] at e; cases e
    | some ps =>
      rw [q] at e; cases e
      exact .tup (hK ▸ Same.sqT s h) (Reps.dp hK s r q)
  | .lst ds, _, _, .lst h r, e => by
    unfold toPy at e
    cases q : toPys ds with
    | none => rw [q] at e; cases e
    | some ps =>
      rw [q] at e; cases e
      exact .lst (SqL.of (s _ _ h)) (Reps.dp hK s r q)
  | _, _, _, .rol h r, e => by cases e
  | _, _, _, .obj h r, e => by cases e
  | _, _, _, .cell h, e => by cases e
theorem Reps.dp {K : PySem.W.Frag} {G : Glb} (hK : G.K = K) (s : Same F H) : ∀ {d : List D} {v : List V} {p : List PyData}, Reps G F io d v → toPys d = some p → DpAll K H v p
  | _, _, _, .nil, e => by cases e; constructor
  | d :: ds, _, _, .cons h r, e => by
    unfold toPys at e
    cases q1 : toPy d with
    | none => simp [q1] at e
    | some x =>
      cases q2 : toPys ds with
      | none => simp [q1, q2] at e
      | some xs =>
        simp [q1, q2] at e; subst e
        exact .cons (Rep.dp hK s h q1) (Reps.dp hK s r q2)
end
theorem Lk.dp {K : PySem.W.Frag} {G : Glb} (hK : G.K = K) (s : Same F H) {d : D} {v : V} {p : PyData} (h : Lk G F io H d v) (e : toPy d = some p) : Dp K H v p := @Rz _ _ (fun qz => @Hz.get _ _ (qz.bar : Hz _ (by
  clear qz
  rcases h with h | ⟨xs, q, vs, rfl, rfl, h1, h2⟩
  · exact Rep.dp hK s h e
  · unfold toPy at e
    cases z : toPys xs with
    | none => rw [z] at e; cases e
    | some ps =>
      rw [z] at e; cases e
      exact .lst (SqL.of h1) (Reps.dp hK s h2 z)))) Xz.mk
/-- the weakest reading of an operator by values -/
def wOp (X : Cx) (f : Value → Value → Sem Value) : R2 := fun x y H Q => ∀ (pins : List (Addr × Obj)) (σ : St) (s : Shared) (v u : Value), Inv X pins σ H s → RelV x v → RelV y u → wpAny (model X.prog X.w) X.A (f v u) (EP X pins σ Q) X.xe s
theorem op_w {X : Cx} {f : Value → Value → Sem Value} : OpR X f (wOp X f) := fun pins s σ H x y v u Q I r1 r2 h => h pins σ s v u I r1 r2
theorem wOp_of {X : Cx} {f : Value → Value → Sem Value} {r : R2} {x y : V} {H : Hp} {Q : VK} (h : OpR X f r) (q : r x y H Q) : wOp X f x y H Q := fun pins σ s v u I r1 r2 => h pins s σ H x y v u Q I r1 r2 q
end
end Ag
namespace Ag
open PySem L2
section
variable {G : Glb} {H0 : Ent} {H F F' : Hp} {n0 : Nat} {io : List Addr} {fr : Fr} {σ : St} {sto : List Cell}
theorem Wr.fresh (w : Wr G H0 n0 sto H F io) {p : Addr} (hp : H p = none) : F p = none ∧ (∀ n : Nat, io[n]? ≠ some p) ∧ H0 p = none := @Rz _ _ (fun qz => @Hz.get _ _ (qz.bar : Hz _ (by
  clear qz
  have h1 : F p = none := by
    cases q : F p with
    | none => rfl
    | some o => rw [w.sub _ _ q] at hp; cases hp
  have h2 : ∀ n : Nat, io[n]? ≠ some p := fun n e => by
    have hn : n < sto.length := by rw [← w.len]; exact (List.getElem?_eq_some_iff.mp e).1
    obtain ⟨a, e1, _, e3⟩ := w.cel n sto[n] (List.getElem?_eq_getElem hn)
    rw [e] at e1; cases e1
    cases q : sto[n] with
    | dict kvs => rw [q] at e3; obtain ⟨vs, h, _⟩ := e3; rw [h] at hp; cases hp
    | inst c fs => rw [q] at e3; obtain ⟨dx, vs, h, _⟩ := e3; rw [h] at hp; cases hp
  refine ⟨h1, h2, ?_⟩
  cases q : H0 p with
  | none => rfl
  | some o => rw [w.keep p o q fun n _ => h2 n] at hp; cases hp))) Xz.mk
theorem Own.ne {xs : List D} {p q : Addr} (h : Own G H0 H F io xs q) (hp : H p = none) : q ≠ p := fun z => by
  obtain ⟨vs, e, _⟩ := h
  rw [z, hp] at e; cases e
/-- the heap grows at p, F too or not -/
theorem Ws.grow (w : Ws G H0 n0 fr σ H F io) {p : Addr} (hp : H p = none) (o : HO) (sF : Same F F') (oF : ∀ a, a ≠ p → F' a = F a) (sub : Same F' (upd H p o)) (fz : ∀ u, F' p = some u → Fz u) : Ws G H0 n0 fr σ (upd H p o) F' io := @Rz _ _ (fun qz => @Hz.get _ _ (qz.bar : Hz _ (by
  clear qz
  obtain ⟨f1, f2, f3⟩ := w.wr.fresh hp
  have ho : ∀ a u, H a = some u → (upd H p o) a = some u := fun a u e => by rw [upd_ne (ne_of_none e hp)]; exact e
  refine ⟨⟨sub, w.wr.len, fun n c e => ?_, w.wr.inj, fun a u e k => ho a u (w.wr.keep a u e k), w.wr.new, fun a u e => ?_, w.wr.nle, fun a u x e1 e2 => ?_⟩, w.sl.len, fun i s e => ?_, w.sl.dis⟩
  · obtain ⟨a, e1, e2, e3⟩ := w.wr.cel n c e
    have na : a ≠ p := fun z => f2 n (z ▸ e1)
    refine ⟨a, e1, by rw [oF a na]; exact e2, ?_⟩
    cases c with
    | dict kvs => obtain ⟨us, h1, h2⟩ := e3; exact ⟨us, ho _ _ h1, h2.mono sF (Pre.refl _)⟩
    | inst c fs => obtain ⟨dx, us, h1, h2⟩ := e3; exact ⟨dx, us, ho _ _ h1, h2.mono sF (Pre.refl _)⟩
  · by_cases h : a = p
    · subst h; exact fz u e
    · rw [oF a h] at e; exact w.wr.frz a u e
  · have h : a ≠ p := fun z => by rw [z, f3] at e1; cases e1
    rw [oF a h] at e2; exact w.wr.old a u x e1 e2
  · refine SlOk.mono sF (Pre.refl _) (fun xs q h => ?_) (w.sl.at_ i s e)
    have nq := h.ne hp
    obtain ⟨vs, h1, h2, h3, h4, h5⟩ := h
    exact ⟨vs, ho _ _ h1, by rw [oF q nq]; exact h2, h3, h4, h5.mono sF (Pre.refl _)⟩))) Xz.mk
theorem Ws.newFrz (w : Ws G H0 n0 fr σ H F io) {p : Addr} (hp : H p = none) (o : HO) (fo : Fz o) : Same F (upd F p o) ∧ Ws G H0 n0 fr σ (upd H p o) (upd F p o) io := @Rz _ _ (fun qz => @Hz.get _ _ (qz.bar : Hz _ (by
  clear qz
  obtain ⟨f1, f2, f3⟩ := w.wr.fresh hp
  have s : Same F (upd F p o) := fun a u e => by rw [upd_ne (ne_of_none e f1)]; exact e
  refine ⟨s, w.grow hp o s (fun a ha => upd_ne ha) (fun a u e => ?_) fun u e => by rw [upd_same] at e; cases e; exact fo⟩
  by_cases h : a = p
  · subst h; rw [upd_same] at e ⊢; exact e
  · rw [upd_ne h] at e ⊢; exact w.wr.sub a u e))) Xz.mk
theorem Ws.newOwn (w : Ws G H0 n0 fr σ H F io) {p : Addr} (hp : H p = none) {xs : List D} {vs : List V} (r : Reps G F io xs vs) :
    Ws G H0 n0 fr σ (upd H p (.lst vs)) F io ∧ RvOk G H0 (upd H p (.lst vs)) F io fr.env σ (.out (.fresh xs)) (.ref p) := @Rz _ _ (fun qz => @Hz.get _ _ (qz.bar : Hz _ (by
  clear qz
  obtain ⟨f1, f2, f3⟩ := w.wr.fresh hp
  refine ⟨w.grow hp _ (Same.refl _) (fun _ _ => rfl) (fun a u e => ?_) (fun u e => by rw [f1] at e; cases e), p, rfl, ⟨vs, upd_same, f1, f2, f3, r⟩, fun i ys e z => ?_⟩
  · rw [upd_ne (ne_of_none (w.wr.sub a u e) hp)]; exact w.wr.sub a u e
  · obtain ⟨q, e1, hq⟩ := w.sl.at_ i _ e
    rw [z] at e1; cases e1
    exact hq.ne hp rfl))) Xz.mk
theorem Ws.newTup (w : Ws G H0 n0 fr σ H F io) {p : Addr} (hp : H p = none) {xs : List D} {vs : List V} (r : Reps G F io xs vs) :
    ∃ F', Same F F' ∧ Ws G H0 n0 fr σ (upd H p (.tup vs)) F' io ∧ Rep G F' io (.tup xs) (.ref p) := @Rz _ _ (fun qz => @Hz.get _ _ (qz.bar : Hz _ (by
  clear qz
  obtain ⟨s, w'⟩ := w.newFrz hp (.tup vs) trivial
  exact ⟨_, s, w', .tup (SqT.of upd_same) (r.mono s (Pre.refl _))⟩))) Xz.mk
end
section
variable {E : En} {e a b c : Expr} {ta tb tc : Tm} {fr : Fr} {σ tp : St} {H F : Hp} {io : List Addr} {Q : VK} {pos : Pos}
theorem okE.int (w : E.ws fr (σ ++ tp) H F io) {i : Int} (h : okE E σ tp F io Q (.out (.val (.int i))) fr) : Q (.int i) H := h _ H F io (Same.refl _) (Pre.refl _) w (.int i)
theorem okE.bl (w : E.ws fr (σ ++ tp) H F io) {i : Bool} (h : okE E σ tp F io Q (.out (.val (.bl i))) fr) : Q (.bl i) H := h _ H F io (Same.refl _) (Pre.refl _) w (.bl i)
theorem okE.str (w : E.ws fr (σ ++ tp) H F io) {i : Str} (h : okE E σ tp F io Q (.out (.val (.str i))) fr) : Q (.str i) H := h _ H F io (Same.refl _) (Pre.refl _) w (.str i)
theorem okE.mono {F' : Hp} {io' : List Addr} (s : Same F F') (p : Pre io io') {r : RV} (h : okE E σ tp F io Q r fr) : okE E σ tp F' io' Q r fr :=
  fun v H' F2 io2 s2 p2 w x => h v H' F2 io2 (s.trans s2) (p.trans p2) w x
theorem okE.fresh (w : E.ws fr (σ ++ tp) H F io) {xs : List D} {vs : List V} (r : Reps E.G F io xs vs) (h : okE E σ tp F io Q (.out (.fresh xs)) fr) {p : Addr} (hp : H p = none) : Q (.ref p) (upd H p (.lst vs)) := @Rz _ _ (fun qz => @Hz.get _ _ (qz.bar : Hz _ (by
  clear qz
  obtain ⟨w', rv⟩ := w.newOwn hp r
  exact h _ _ F io (Same.refl _) (Pre.refl _) w' rv))) Xz.mk
theorem okE.tup (w : E.ws fr (σ ++ tp) H F io) {xs : List D} {vs : List V} (r : Reps E.G F io xs vs) (h : okE E σ tp F io Q (.out (.val (.tup xs))) fr) {p : Addr} (hp : H p = none) : Q (.ref p) (upd H p (.tup vs)) := @Rz _ _ (fun qz => @Hz.get _ _ (qz.bar : Hz _ (by
  clear qz
  obtain ⟨F', s, w', rv⟩ := w.newTup hp r
  exact h _ _ F' io s (Pre.refl _) w' rv))) Xz.mk
def opM : Op2 → Operator
  | .add => .Add | .sub => .Sub | .mul => .Mult | .fdiv => .FloorDiv | .mod => .Mod | .pow => .Pow
def cmM : Cm → CmpOp
  | .eq => .Eq | .ne => .NotEq | .lt => .Lt | .le => .LtE | .gt => .Gt | .ge => .GtE | .is_ => .Is | .isn => .IsNot | .in_ => .In | .nin => .NotIn
theorem mulOk_ok {i j : Int} (h : mulOk i j = true) : CMulW i j := by unfold mulOk at h; exact (of_decide_eq_true h : _ < _)
theorem divOk_ok {j : Int} (i : Int) (h : divOk j = true) : CDivW i j := @Rz _ _ (fun qz => @Hz.get _ _ (qz.bar : Hz _ (by
  clear qz
  unfold divOk at h
  rw [Bool.and_eq_true] at h
  exact ⟨of_decide_eq_true h.1, of_decide_eq_true h.2⟩))) Xz.mk
theorem powOk_ok {i j : Int} (h : powOk i j = true) : CPow i j := @Rz _ _ (fun qz => @Hz.get _ _ (qz.bar : Hz _ (by
  clear qz
  unfold powOk at h
  rw [Bool.and_eq_true, Bool.and_eq_true] at h
  exact ⟨of_decide_eq_true h.1.1, of_decide_eq_true h.1.2, of_decide_eq_true h.2⟩))) Xz.mk
/-- the operators by values -/
theorem opD_ok (ok : E.Ok) {op : Op2} {x y : D} {o : Out} {v u : V} (w : E.ws fr (σ ++ tp) H F io) (hx : Lk E.G F io H x v) (hy : Lk E.G F io H y u) (e : opD op x y = some o) (h : okE E σ tp F io Q (.out o) fr) :
    wOp E.X (binaryOp (opM op)) v u H Q := @Rz _ _ (fun qz => @Hz.get _ _ (qz.bar : Hz _ (by
  clear qz
  unfold opD at e
  split at e
  · cases e; rw [hx.int, hy.int]; exact wOp_of op_add ⟨_, _, rfl, rfl, h.int w⟩
  · cases e; rw [hx.int, hy.int]; exact wOp_of op_sub ⟨_, _, rfl, rfl, h.int w⟩
  · split at e <;> cases e
    rename_i hm
    rw [hx.int, hy.int]; exact wOp_of op_mulW ⟨_, _, rfl, rfl, mulOk_ok hm, h.int w⟩
  · split at e <;> cases e
    rename_i hm
    rw [hx.int, hy.int]; exact wOp_of op_fdivW ⟨_, _, rfl, rfl, divOk_ok _ hm, h.int w⟩
  · split at e <;> cases e
    rename_i hm
    rw [hx.int, hy.int]; exact wOp_of op_mod ⟨_, _, rfl, rfl, hm, h.int w⟩
  · split at e <;> cases e
    rename_i hm
    rw [hx.int, hy.int]; exact wOp_of op_pow ⟨_, _, rfl, rfl, powOk_ok hm, h.int w⟩
  · split at e <;> cases e
    rename_i hm
    rw [hx.str, hy.str]; exact wOp_of op_add_str ⟨_, _, rfl, rfl, hm, h.str w⟩
  · split at e <;> cases e
    rename_i hm
    obtain ⟨p, vs, rfl, h1, r1⟩ := hx.lst w.wr.sub
    obtain ⟨q, us, rfl, h2, r2⟩ := hy.lst w.wr.sub
    refine wOp_of op_cat ⟨_, _, _, _, rfl, rfl, h1, h2, by rw [← r1.length, ← r2.length]; exact hm, fun l hl => h.fresh w (r1.append r2) hl⟩
  · split at e <;> cases e
    rename_i hm
    obtain ⟨p, vs, rfl, h1, g1, r1⟩ := hx.tup w.wr.sub
    obtain ⟨q, us, rfl, h2, g2, r2⟩ := hy.tup w.wr.sub
    rw [ok.k] at h1 h2
    refine wOp_of op_catA ⟨_, _, _, _, rfl, rfl, h1, h2, by rw [← r1.length, ← r2.length]; exact hm, fun z => ?_, fun _ z => ?_, fun _ _ l hl => h.tup w (r1.append r2) hl⟩
    · subst z; cases r1
      exact h _ H F io (Same.refl _) (Pre.refl _) w (.tup g2 r2)
    · subst z; cases r2
      exact h _ H F io (Same.refl _) (Pre.refl _) w (by rw [List.append_nil]; exact .tup g1 r1)
  · cases e))) Xz.mk
theorem Lk.isNon {d : D} {v : V} (h : Lk E.G F io H d v) : decide (v = .non) = isNon d := @Rz _ _ (fun qz => @Hz.get _ _ (qz.bar : Hz _ (by
  clear qz
  rcases h with h | ⟨xs, p, vs, rfl, rfl, _⟩
  · cases h <;> rfl
  · rfl))) Xz.mk
theorem flat_v {d : D} {v : V} (h : Lk E.G F io H d v) (f : flatD d = true) : flatV v = true := @Rz _ _ (fun qz => @Hz.get _ _ (qz.bar : Hz _ (by
  clear qz
  rcases h with h | ⟨xs, p, vs, rfl, rfl, _⟩
  · cases h <;> first | rfl | cases f
  · cases f))) Xz.mk
theorem flat_eq {d d' : D} {v v' : V} (h : Lk E.G F io H d v) (f : flatD d = true) (h' : Lk E.G F io H d' v') (f' : flatD d' = true) : eqV v v' = eqF d d' := @Rz _ _ (fun qz => @Hz.get _ _ (qz.bar : Hz _ (by
  clear qz
  rcases h with h | ⟨xs, p, vs, rfl, rfl, _⟩
  · rcases h' with h' | ⟨xs, p, vs, rfl, rfl, _⟩
    · cases h <;> cases h' <;> first | rfl | cases f | cases f'
    · cases f'
  · cases f))) Xz.mk
theorem flats_v : ∀ {ds : List D} {vs : List V}, Reps E.G F io ds vs → ds.all flatD = true → vs.all flatV = true
  | _, _, .nil, _ => rfl
  | _, _, .cons h r, f => by
    rw [List.all_cons, Bool.and_eq_true] at f ⊢
    exact ⟨flat_v (H := fun _ => none) (.inl h) f.1, flats_v r f.2⟩
theorem flats_in {d : D} {v : V} (h : Lk E.G F io H d v) (f : flatD d = true) : ∀ {ds : List D} {vs : List V}, Reps E.G F io ds vs → ds.all flatD = true → inV v vs = inF d ds
  | _, _, .nil, _ => rfl
  | _, _, .cons (d := x) (v := y) (ds := ds) (vs := vs) hx r, f' => by
    rw [List.all_cons, Bool.and_eq_true] at f'
    have e1 := flat_eq (E := E) (H := H) (.inl hx) f'.1 h f
    have e2 := flats_in h f r f'.2
    unfold inV inF at e2 ⊢
    rw [List.any_cons, List.any_cons, e1, e2]
theorem eqD_ok (ok : E.Ok) {x y : D} {k : Bool} {v u : V} (w : E.ws fr (σ ++ tp) H F io) (hx : Lk E.G F io H x v) (hy : Lk E.G F io H y u) (e : eqP x y = some k) :
    ∃ d e, Dp E.X.K H v d ∧ Dp E.X.K H u e ∧ SeqAt.shaped d = true ∧ SeqAt.shaped e = true ∧ PyData.eqv d e = k := @Rz _ _ (fun qz => @Hz.get _ _ (qz.bar : Hz _ (by
  clear qz
  unfold eqP at e
  cases q1 : toPy x with
  | none => simp [q1] at e
  | some a =>
    cases q2 : toPy y with
    | none => simp [q1, q2] at e
    | some b =>
      simp [q1, q2] at e
      exact ⟨a, b, hx.dp ok.k w.wr.sub q1, hy.dp ok.k w.wr.sub q2, e.1.1, e.1.2, e.2⟩))) Xz.mk
theorem scal_ok {x y : D} {k : Bool} {v u : V} (hx : Lk E.G F io H x v) (hy : Lk E.G F io H y u) (e : scalD x y = some k) : scal v u = true ∧ decide (v = u) = k := @Rz _ _ (fun qz => @Hz.get _ _ (qz.bar : Hz _ (by
  clear qz
  have fx : flatD x = true := by unfold scalD at e; split at e <;> first | rfl | cases e
  have fy : flatD y = true := by unfold scalD at e; split at e <;> first | rfl | cases e
  rcases hx with hx | ⟨_, _, _, rfl, _⟩
  · rcases hy with hy | ⟨_, _, _, rfl, _⟩
    · cases hx <;> cases hy <;> first | (cases e <;> exact ⟨rfl, by simp⟩) | cases fx | cases fy
    · cases fy
  · cases fx))) Xz.mk
theorem inP_ok (ok : E.Ok) {x : D} {ys : List D} {k : Bool} {v u : V} (w : E.ws fr (σ ++ tp) H F io) (hx : Lk E.G F io H x v) (hy : Lk E.G F io H (.lst ys) u) (e : inP x ys = some k) :
    ∃ d ds, Dp E.X.K H v d ∧ Dp E.X.K H u (.list ds) ∧ SeqAt.shaped d = true ∧ SeqAt.shaped (.list ds) = true ∧ (ds.any fun z => PyData.eqv z d) = k := @Rz _ _ (fun qz => @Hz.get _ _ (qz.bar : Hz _ (by
  clear qz
  unfold inP at e
  cases q1 : toPy x with
  | none => rw [q1] at e; cases e
  | some a =>
    cases q2 : toPys ys with
    | none => rw [q1, q2] at e; cases e
    | some bs =>
      rw [q1, q2] at e
      dsimp only at e
      split at e
      · rename_i g
        rw [Bool.and_eq_true] at g
        exact ⟨a, bs, hx.dp ok.k w.wr.sub q1, hy.dp ok.k w.wr.sub (by unfold toPy; rw [q2]; rfl), g.1, g.2, Option.some.inj e⟩
      · cases e))) Xz.mk
theorem eq_ok (ok : E.Ok) {x y : D} {k : Bool} {v u : V} (w : E.ws fr (σ ++ tp) H F io) (hx : Lk E.G F io H x v) (hy : Lk E.G F io H y u) (e : eqD x y = some k) :
    (Q (.bl k) H → wOp E.X (compareOp .Eq) v u H Q) ∧ (Q (.bl (!k)) H → wOp E.X (compareOp .NotEq) v u H Q) := @Rz _ _ (fun qz => @Hz.get _ _ (qz.bar : Hz _ (by
  clear qz
  unfold eqD at e
  cases q : scalD x y with
  | some b =>
    rw [q] at e; cases e
    obtain ⟨h1, h2⟩ := scal_ok hx hy q
    exact ⟨fun h => wOp_of op_eq ⟨h1, by rw [h2]; exact h⟩, fun h => wOp_of op_ne ⟨h1, by rw [h2]; exact h⟩⟩
  | none =>
    rw [q] at e
    obtain ⟨d, d', h1, h2, h3, h4, h5⟩ := eqD_ok ok w hx hy e
    exact ⟨fun h => wOp_of (op_eqD ok.hu) ⟨d, d', h1, h2, h3, h4, h5 ▸ h⟩, fun h => wOp_of (op_neD ok.hu) ⟨d, d', h1, h2, h3, h4, h5 ▸ h⟩⟩))) Xz.mk
theorem cmpD_ok (ok : E.Ok) {op : Cm} {x y : D} {k : Bool} {v u : V} (w : E.ws fr (σ ++ tp) H F io) (hx : Lk E.G F io H x v) (hy : Lk E.G F io H y u) (e : cmpD op x y = some k) (h : Q (.bl k) H) :
    wOp E.X (compareOp (cmM op)) v u H Q := @Rz _ _ (fun qz => @Hz.get _ _ (qz.bar : Hz _ (by
  clear qz
  unfold cmpD at e
  split at e
  · exact (eq_ok ok w hx hy e).1 h
  · cases q : eqD x y with
    | none => rw [q] at e; cases e
    | some b =>
      rw [q] at e
      have e' : (!b) = k := Option.some.inj e
      exact (eq_ok ok w hx hy q).2 (by rw [e']; exact h)
  · cases e; rw [hx.int, hy.int]; exact wOp_of op_lt ⟨_, _, rfl, rfl, h⟩
  · cases e; rw [hx.int, hy.int]; exact wOp_of op_le ⟨_, _, rfl, rfl, h⟩
  · cases e; rw [hx.int, hy.int]; exact wOp_of op_gt ⟨_, _, rfl, rfl, h⟩
  · cases e; rw [hx.int, hy.int]; exact wOp_of op_ge ⟨_, _, rfl, rfl, h⟩
  · cases e; rw [hy.non]; exact wOp_of op_isN ⟨rfl, by rw [hx.isNon]; exact h⟩
  · cases e; rw [hy.non]; exact wOp_of op_notN ⟨rfl, by rw [hx.isNon]; exact h⟩
  · cases e; rw [hx.str, hy.str]; exact wOp_of op_in_str ⟨_, _, rfl, rfl, h⟩
  · cases e; rw [hx.str, hy.str]; exact wOp_of op_notin_str ⟨_, _, rfl, rfl, h⟩
  · split at e <;> cases e
    rename_i f
    rw [Bool.and_eq_true] at f
    obtain ⟨p, vs, rfl, h1, g1, r1⟩ := hy.tup w.wr.sub
    rw [ok.k] at h1
    exact wOp_of op_in_seq ⟨_, _, rfl, .inr h1, flat_v hx f.1, flats_v r1 f.2, by rw [flats_in hx f.1 r1 f.2]; exact h⟩
  · split at e <;> cases e
    rename_i f
    rw [Bool.and_eq_true] at f
    obtain ⟨p, vs, rfl, h1, g1, r1⟩ := hy.tup w.wr.sub
    rw [ok.k] at h1
    exact wOp_of op_notIn_seq ⟨_, _, rfl, .inr h1, flat_v hx f.1, flats_v r1 f.2, by rw [flats_in hx f.1 r1 f.2]; exact h⟩
  · split at e
    · cases e
      rename_i f
      rw [Bool.and_eq_true] at f
      obtain ⟨p, vs, rfl, h1, r1⟩ := hy.lst w.wr.sub
      exact wOp_of op_in_seq ⟨_, _, rfl, .inl (SqL.of h1), flat_v hx f.1, flats_v r1 f.2, by rw [flats_in hx f.1 r1 f.2]; exact h⟩
    · obtain ⟨d, ds, h1, h2, h3, h4, h5⟩ := inP_ok ok w hx hy e
      exact wOp_of (op_inD ok.hu5) ⟨d, ds, h1, h2, h3, h4, h5 ▸ h⟩
  · split at e
    · cases e
      rename_i f
      rw [Bool.and_eq_true] at f
      obtain ⟨p, vs, rfl, h1, r1⟩ := hy.lst w.wr.sub
      exact wOp_of op_notIn_seq ⟨_, _, rfl, .inl (SqL.of h1), flat_v hx f.1, flats_v r1 f.2, by rw [flats_in hx f.1 r1 f.2]; exact h⟩
    · rename_i ys _
      cases q : inP x ys with
      | none => rw [q] at e; cases e
      | some b =>
        rw [q] at e
        have e' : (!b) = k := Option.some.inj e
        obtain ⟨d, ds, h1, h2, h3, h4, h5⟩ := inP_ok ok w hx hy q
        exact wOp_of (op_notInD ok.hu5) ⟨d, ds, h1, h2, h3, h4, by rw [h5, e']; exact h⟩
  · cases e))) Xz.mk
/-! ### operators -/
theorem two_held (ha : SE E a ta) (hb : SE E b tb) (hl : σ.length = E.X.N.length) (w : E.ws fr (σ ++ tp) H F io) {α : Type} {k : D → D → Fr → Rs α} {P : α → Fr → Prop}
    (h : ((ev E.T ta fr).bind fun x fr1 => (ev E.T tb fr1).bind fun y fr2 => match look fr2.env (hold x), look fr2.env (hold y) with | some d, some e => k d e fr2 | _, _ => .bad).all P (exE E σ tp F io))
    {R : R2} (q : ∀ d e fr2 v u H2 F2 io2, Same F F2 → Pre io io2 → E.ws fr2 (σ ++ tp) H2 F2 io2 → Lk E.G F2 io2 H2 d v → Lk E.G F2 io2 H2 e u → (k d e fr2).all P (exE E σ tp F2 io2) → R v u H2 Q) :
    tOp R (wE E.X a) (wE E.X b) σ H Q := @Rz _ _ (fun qz => @Hz.get _ _ (qz.bar : Hz _ (by
  clear qz
  refine ha.held hl w h fun r fr1 v H1 F1 io1 s1 p1 w1 hk1 h1 => ?_
  refine hb.held hl w1 h1 fun r2 fr2 u H2 F2 io2 s2 p2 w2 hk2 h2 => ?_
  cases e1 : look fr2.env (hold r) with
  | none => simp [e1] at h2; exact h2.elim
  | some d =>
    cases e2 : look fr2.env (hold r2) with
    | none => simp [e1, e2] at h2; exact h2.elim
    | some d2 =>
      simp only [e1, e2] at h2
      exact q d d2 fr2 v u H2 F2 io2 (s1.trans s2) (p1.trans p2) w2 (w2.look (hk1.mono s2 p2) e1) (w2.look hk2 e2) h2))) Xz.mk
theorem SE_bin (ok : E.Ok) (ha : SE E a ta) (hb : SE E b tb) {op : Op2} : SE E (.BinOp a (opM op) b pos) (.bin op ta tb) := @Rz _ _ (fun qz => @Hz.get _ _ (qz.bar : Hz _ (by
  clear qz
  intro fr σ tp H F io Q hl w h
  refine wE_of (pe_op op_w pe_w pe_w) ?_
  unfold ev at h
  refine two_held ha hb hl w h fun d e fr2 v u H2 F2 io2 s p w2 l1 l2 z => ?_
  cases q : opD op d e with
  | none => simp [q] at z; exact z.elim
  | some o =>
    simp only [q] at z
    exact opD_ok ok w2 l1 l2 q (okE.mono s p z)))) Xz.mk
end
end Ag
namespace Ag
open PySem L2
def wW (X : Cx) (e : Expr) : TT := fun σ H Q => ∀ (whole : Sem Value) (pins : List (Addr × Obj)) (s : Shared), Inv X pins σ H s → wpAny (model X.prog X.w) X.A (isTrue e X.env whole) (TP X pins σ Q) X.xe s
theorem pw_w {X : Cx} {e : Expr} : PW X e (wW X e) := ⟨fun whole pins s σ H Q I h => h whole pins s I⟩
theorem wW_of {X : Cx} {e : Expr} {t : TT} {σ : St} {H : Hp} {Q : Bool → Hp → Prop} (h : PW X e t) (q : t σ H Q) : wW X e σ H Q := fun whole pins s I => h.run whole pins s σ H Q I q
section
variable (E : En)
def SW (e : Expr) (t : Tm) : Prop := ∀ (fr : Fr) (σ tp : St) (H F : Hp) (io : List Addr) (Q : Bool → Hp → Prop), σ.length = E.X.N.length → E.ws fr (σ ++ tp) H F io →
  (ev E.T t fr).all (fun r fr => ∃ b, look fr.env r = some (.bl b) ∧ ∀ H' F' io', Same F F' → Pre io io' → E.ws fr (σ ++ tp) H' F' io' → Q b H') (exE E σ tp F io) → wW E.X e σ H Q
end
section
variable {E : En} {e a b c : Expr} {ta tb tc : Tm} {fr : Fr} {σ tp : St} {H F : Hp} {io : List Addr} {Q : VK} {pos : Pos}
theorem toD_bl {r : RV} {fr fr' : Fr} {b : Bool} (h : toD fr r = some (.bl b, fr')) : fr' = fr ∧ look fr.env r = some (.bl b) := @Rz _ _ (fun qz => @Hz.get _ _ (qz.bar : Hz _ (by
  clear qz
  cases r with
  | out o =>
    cases o with
    | val d => cases h; exact ⟨rfl, rfl⟩
    | fresh xs => cases h
  | var i =>
    unfold toD at h
    unfold look
    cases q : fr.env[i]? with
    | none => simp [q] at h
    | some s =>
      cases s with
      | un => simp [q] at h
      | val d => simp [q] at h ⊢; exact ⟨h.2.symm, h.1⟩
      | own xs => simp [q] at h))) Xz.mk
theorem all_asB {α : Type} {m : Rs RV} {k : Bool → Fr → Rs α} {P : α → Fr → Prop} {PX : Nat → List D → Fr → Prop} (h : (m.fr fun d fr1 => asB d fr1 k).all P PX) :
    m.all (fun r fr => ∃ b, look fr.env r = some (.bl b) ∧ (k b fr).all P PX) PX := @Rz _ _ (fun qz => @Hz.get _ _ (qz.bar : Hz _ (by
  clear qz
  refine Rs.all_imp (Rs.all_fr h) (fun r fr z => ?_) fun _ _ _ z => z
  obtain ⟨d, fr', e, z⟩ := z
  cases d with
  | bl b =>
    obtain ⟨rfl, e2⟩ := toD_bl e
    exact ⟨b, e2, z⟩
  | _ => exact z.elim))) Xz.mk
/-- a test, then by its answer -/
theorem ST.test {α : Type} (hc : ST E c tc) (hl : σ.length = E.X.N.length) (w : E.ws fr (σ ++ tp) H F io) {k : Bool → Fr → Rs α} {P : α → Fr → Prop}
    (h : ((ev E.T tc fr).fr fun d fr1 => asB d fr1 k).all P (exE E σ tp F io)) {R : Bool → Hp → Prop}
    (q : ∀ t fr1 H1 F1 io1, Same F F1 → Pre io io1 → E.ws fr1 (σ ++ tp) H1 F1 io1 → (k t fr1).all P (exE E σ tp F1 io1) → R t H1) : wT E.X c σ H R := @Rz _ _ (fun qz => @Hz.get _ _ (qz.bar : Hz _ (by
  clear qz
  refine hc fr σ tp H F io R hl w (Rs.all_imp (all_asB h) (fun r fr1 z => ?_) fun _ _ _ x => x)
  obtain ⟨t, e1, z⟩ := z
  exact ⟨t, e1, fun H1 F1 io1 s p w1 => q t fr1 H1 F1 io1 s p w1 (Rs.all_imp z (fun _ _ y => y) fun _ _ _ y => y.mono s p)⟩))) Xz.mk
theorem SE.tested {α : Type} (hc : SE E c tc) (hl : σ.length = E.X.N.length) (w : E.ws fr (σ ++ tp) H F io) {k : Bool → Fr → Rs α} {P : α → Fr → Prop}
    (h : ((ev E.T tc fr).fr fun d fr1 => asB d fr1 k).all P (exE E σ tp F io)) {R : VK}
    (q : ∀ t fr1 H1 F1 io1, Same F F1 → Pre io io1 → E.ws fr1 (σ ++ tp) H1 F1 io1 → (k t fr1).all P (exE E σ tp F1 io1) → R (.bl t) H1) : wE E.X c σ H R := @Rz _ _ (fun qz => @Hz.get _ _ (qz.bar : Hz _ (by
  clear qz
  refine hc fr σ tp H F io R hl w (Rs.all_imp (all_asB h) (fun r fr1 z => ?_) fun _ _ _ x => x)
  obtain ⟨t, e1, z⟩ := z
  intro v H1 F1 io1 s p w1 rv
  have hv : v = .bl t := by
    obtain ⟨F2, s2, hk, w2⟩ := w1.hold rv
    have e2 : look fr1.env (hold r) = some (.bl t) := by
      cases r with
      | out o =>
        cases o with
        | val d => exact e1
        | fresh xs => cases e1
      | var i => exact e1
    exact (w2.look hk e2).bl
  rw [hv]
  exact q t fr1 H1 F1 io1 s p w1 (Rs.all_imp z (fun _ _ y => y) fun _ _ _ y => y.mono s p)))) Xz.mk
theorem SE_neg (ha : SE E a ta) : SE E (.UnaryOp .USub a pos) (.neg ta) := @Rz _ _ (fun qz => @Hz.get _ _ (qz.bar : Hz _ (by
  clear qz
  intro fr σ tp H F io Q hl w h
  refine wE_of (pe_un un_neg pe_w) ?_
  unfold ev at h
  refine ha.part hl w h fun d fr1 v H1 F1 io1 s p w1 r z => ?_
  cases d with
  | int i => cases r; exact ⟨i, rfl, okE.int w1 (okE.mono s p z)⟩
  | _ => exact z.elim))) Xz.mk
theorem SE_not (ha : SE E a ta) : SE E (.UnaryOp .Not a pos) (.not_ ta) := @Rz _ _ (fun qz => @Hz.get _ _ (qz.bar : Hz _ (by
  clear qz
  intro fr σ tp H F io Q hl w h
  refine wE_of (pe_not pe_w) ?_
  unfold ev at h
  refine ha.tested hl w h fun t fr1 H1 F1 io1 s p w1 z => ⟨t, rfl, okE.bl w1 (okE.mono s p z)⟩))) Xz.mk
theorem SE_one {op : BoolOp} (ha : SE E a ta) : SE E (.BoolOp op [a] pos) ta := fun fr σ tp H F io Q hl w h => wE_of (pe_one pe_w) (ha fr σ tp H F io Q hl w h)
theorem SE_and {rest : List Expr} (ha : SE E a ta) (hb : SE E (.BoolOp .And (b :: rest) pos) tb) : SE E (.BoolOp .And (a :: b :: rest) pos) (.and_ ta tb) := @Rz _ _ (fun qz => @Hz.get _ _ (qz.bar : Hz _ (by
  clear qz
  intro fr σ tp H F io Q hl w h
  refine wE_of (pe_and pe_w pe_w) ?_
  unfold ev at h
  refine ha.tested hl w h fun t fr1 H1 F1 io1 s p w1 z => ⟨t, rfl, ?_⟩
  cases t with
  | true => exact hb fr1 σ tp H1 F1 io1 Q hl w1 (Rs.all_imp z (fun _ _ y => okE.mono s p y) fun _ _ _ y => y)
  | false => exact okE.bl w1 (okE.mono s p z)))) Xz.mk
theorem SE_or {rest : List Expr} (ha : SE E a ta) (hb : SE E (.BoolOp .Or (b :: rest) pos) tb) : SE E (.BoolOp .Or (a :: b :: rest) pos) (.or_ ta tb) := @Rz _ _ (fun qz => @Hz.get _ _ (qz.bar : Hz _ (by
  clear qz
  intro fr σ tp H F io Q hl w h
  refine wE_of (pe_or pe_w pe_w) ?_
  unfold ev at h
  refine ha.tested hl w h fun t fr1 H1 F1 io1 s p w1 z => ⟨t, rfl, ?_⟩
  cases t with
  | true => exact okE.bl w1 (okE.mono s p z)
  | false => exact hb fr1 σ tp H1 F1 io1 Q hl w1 (Rs.all_imp z (fun _ _ y => okE.mono s p y) fun _ _ _ y => y)))) Xz.mk
theorem SE_ite (hc : ST E c tc) (ha : SE E a ta) (hb : SE E b tb) : SE E (.IfExp c a b pos) (.ite tc ta tb) := @Rz _ _ (fun qz => @Hz.get _ _ (qz.bar : Hz _ (by
  clear qz
  intro fr σ tp H F io Q hl w h
  refine wE_of (pe_ifExp pt_w pe_w pe_w) ?_
  unfold ev at h
  refine hc.test hl w h fun t fr1 H1 F1 io1 s p w1 z => ?_
  cases t with
  | true => exact ha fr1 σ tp H1 F1 io1 Q hl w1 (Rs.all_imp z (fun _ _ y => okE.mono s p y) fun _ _ _ y => y)
  | false => exact hb fr1 σ tp H1 F1 io1 Q hl w1 (Rs.all_imp z (fun _ _ y => okE.mono s p y) fun _ _ _ y => y)))) Xz.mk
theorem cmp_read (ok : E.Ok) (ha : SE E a ta) (hb : SE E b tb) {op : Cm} (hl : σ.length = E.X.N.length) (w : E.ws fr (σ ++ tp) H F io) {P : RV → Fr → Prop} {R : VK}
    (h : (ev E.T (.cmp op ta tb) fr).all P (exE E σ tp F io)) (q : ∀ k fr2 H2 F2 io2, Same F F2 → Pre io io2 → E.ws fr2 (σ ++ tp) H2 F2 io2 → P (.out (.val (.bl k))) fr2 → R (.bl k) H2) :
    tOp (wOp E.X (compareOp (cmM op))) (wE E.X a) (wE E.X b) σ H R := @Rz _ _ (fun qz => @Hz.get _ _ (qz.bar : Hz _ (by
  clear qz
  unfold ev at h
  refine two_held ha hb hl w h fun d e fr2 v u H2 F2 io2 s p w2 l1 l2 z => ?_
  cases e1 : cmpD op d e with
  | none => simp [e1] at z; exact z.elim
  | some k =>
    simp only [e1] at z
    exact cmpD_ok ok w2 l1 l2 e1 (q k fr2 H2 F2 io2 s p w2 z)))) Xz.mk
theorem SE_cmp (ok : E.Ok) (ha : SE E a ta) (hb : SE E b tb) {op : Cm} (hm : behindInMarks (cmM op) b = false) : SE E (.Compare a [cmM op] [b] pos) (.cmp op ta tb) := @Rz _ _ (fun qz => @Hz.get _ _ (qz.bar : Hz _ (by
  clear qz
  intro fr σ tp H F io Q hl w h
  refine wE_of (pe_cmpR op_w pe_w pe_w hm) ?_
  exact cmp_read ok ha hb hl w h fun k fr2 H2 F2 io2 s p w2 z => okE.bl w2 (okE.mono s p z)))) Xz.mk
theorem ST_cmp (ok : E.Ok) (ha : SE E a ta) (hb : SE E b tb) {op : Cm} (hm : behindInMarks (cmM op) b = false) : ST E (.Compare a [cmM op] [b] pos) (.cmp op ta tb) := @Rz _ _ (fun qz => @Hz.get _ _ (qz.bar : Hz _ (by
  clear qz
  intro fr σ tp H F io Q hl w h
  refine wT_of (pt_cmpR op_w pe_w pe_w hm) ?_
  refine cmp_read ok ha hb hl w h fun k fr2 H2 F2 io2 s p w2 z => ?_
  obtain ⟨b, e1, z⟩ := z
  cases e1
  exact ⟨_, rfl, z H2 F2 io2 s p w2⟩))) Xz.mk
theorem ST_of {t : Tm} (he : SE E e t) (hp : ∀ whole, isTrue e E.X.env whole = (do let v ← whole; standAt e.pos; holding [v] (truthy v))) : ST E e t := @Rz _ _ (fun qz => @Hz.get _ _ (qz.bar : Hz _ (by
  clear qz
  intro fr σ tp H F io Q hl w h
  refine wT_of (pt_val pe_w hp) ?_
  have h' : ((ev E.T t fr).fr fun d fr1 => asB d fr1 fun b fr2 => .ok b fr2).all (fun b fr2 => ∀ H' F' io', Same F F' → Pre io io' → E.ws fr2 (σ ++ tp) H' F' io' → Q b H') (exE E σ tp F io) := by
    cases q : ev E.T t fr with
    | ok r fr1 =>
      rw [q] at h
      obtain ⟨b, e1, z⟩ := h
      have e2 : toD fr1 r = some (.bl b, fr1) := by
        cases r with
        | out o =>
          cases o with
          | val d => cases e1; rfl
          | fresh xs => cases e1
        | var i =>
          unfold look at e1
          unfold toD
          cases q2 : fr1.env[i]? with
          | none => simp [q2] at e1
          | some s =>
            cases s with
            | un => simp [q2] at e1
            | val d => simp [q2] at e1 ⊢; exact e1
            | own xs => simp [q2] at e1
      show (match toD fr1 r with | some (d, fr') => asB d fr' fun b fr2 => Rs.ok b fr2 | none => .bad).all _ _
      rw [e2]
      exact z
    | exc c fs fr1 => rw [q] at h; exact h
    | bad => rw [q] at h; exact h.elim
  exact he.tested hl w h' fun k fr1 H1 F1 io1 s p w1 z => ⟨k, rfl, z H1 F1 io1 s p w1⟩))) Xz.mk
theorem ST_not (ha : ST E a ta) : ST E (.UnaryOp .Not a pos) (.not_ ta) := @Rz _ _ (fun qz => @Hz.get _ _ (qz.bar : Hz _ (by
  clear qz
  intro fr σ tp H F io Q hl w h
  refine wT_of (pt_not pt_w) ?_
  unfold ev at h
  refine ha.test hl w h fun t fr1 H1 F1 io1 s p w1 z => ?_
  obtain ⟨b, e1, z⟩ := z
  cases e1
  exact z H1 F1 io1 s p w1))) Xz.mk
theorem SW.st {t : Tm} (h : SW E e t) : ST E e t := fun fr σ tp H F io Q hl w q => wT_of (PW.pt pw_w) (h fr σ tp H F io Q hl w q)
theorem SW_and1 (ha : ST E a ta) : SW E (.BoolOp .And [a] pos) ta := fun fr σ tp H F io Q hl w h => wW_of (pw_and1 pt_w) (ha fr σ tp H F io Q hl w h)
theorem SW_or1 (ha : ST E a ta) : SW E (.BoolOp .Or [a] pos) ta := fun fr σ tp H F io Q hl w h => wW_of (pw_or1 pt_w) (ha fr σ tp H F io Q hl w h)
theorem SW_and {rest : List Expr} (ha : ST E a ta) (hb : SW E (.BoolOp .And (b :: rest) pos) tb) : SW E (.BoolOp .And (a :: b :: rest) pos) (.and_ ta tb) := @Rz _ _ (fun qz => @Hz.get _ _ (qz.bar : Hz _ (by
  clear qz
  intro fr σ tp H F io Q hl w h
  refine wW_of (pw_and pt_w pw_w) ?_
  unfold ev at h
  refine ha.test hl w h fun t fr1 H1 F1 io1 s p w1 z => ?_
  cases t with
  | true => exact hb fr1 σ tp H1 F1 io1 Q hl w1 (Rs.all_imp z (fun _ _ ⟨b, e, y⟩ => ⟨b, e, fun H2 F2 io2 s2 p2 => y H2 F2 io2 (s.trans s2) (p.trans p2)⟩) fun _ _ _ y => y)
  | false =>
    obtain ⟨b, e1, z⟩ := z
    cases e1
    exact z H1 F1 io1 s p w1))) Xz.mk
theorem SW_or {rest : List Expr} (ha : ST E a ta) (hb : SW E (.BoolOp .Or (b :: rest) pos) tb) : SW E (.BoolOp .Or (a :: b :: rest) pos) (.or_ ta tb) := @Rz _ _ (fun qz => @Hz.get _ _ (qz.bar : Hz _ (by
  clear qz
  intro fr σ tp H F io Q hl w h
  refine wW_of (pw_or pt_w pw_w) ?_
  unfold ev at h
  refine ha.test hl w h fun t fr1 H1 F1 io1 s p w1 z => ?_
  cases t with
  | true =>
    obtain ⟨b, e1, z⟩ := z
    cases e1
    exact z H1 F1 io1 s p w1
  | false => exact hb fr1 σ tp H1 F1 io1 Q hl w1 (Rs.all_imp z (fun _ _ ⟨b, e, y⟩ => ⟨b, e, fun H2 F2 io2 s2 p2 => y H2 F2 io2 (s.trans s2) (p.trans p2)⟩) fun _ _ _ y => y)))) Xz.mk
/-! ### chains -/
theorem chain_read (ok : E.Ok) (ha : SE E a ta) (hb : SE E b tb) (hc : SE E c tc) {op op' : Cm} (hl : σ.length = E.X.N.length) (w : E.ws fr (σ ++ tp) H F io) {P : RV → Fr → Prop} {R : VK}
    (h : (ev E.T (.chain op op' ta tb tc) fr).all P (exE E σ tp F io)) (q : ∀ k fr2 H2 F2 io2, Same F F2 → Pre io io2 → E.ws fr2 (σ ++ tp) H2 F2 io2 → P (.out (.val (.bl k))) fr2 → R (.bl k) H2) :
    tChain (wOp E.X (compareOp (cmM op))) (wOp E.X (compareOp (cmM op'))) (wE E.X a) (wE E.X b) (wE E.X c) σ H R := @Rz _ _ (fun qz => @Hz.get _ _ (qz.bar : Hz _ (by
  clear qz
  unfold ev at h
  refine ha.part hl w h fun d fr1 v H1 F1 io1 s1 p1 w1 r1 h1 => ?_
  refine hb.part hl w1 h1 fun e fr2 u H2 F2 io2 s2 p2 w2 r2 h2 => ?_
  have l1 : Lk E.G F2 io2 H2 d v := .inl (r1.mono s2 p2)
  cases e1 : cmpD op d e with
  | none => simp [e1] at h2; exact h2.elim
  | some k =>
    refine cmpD_ok ok w2 l1 (.inl r2) e1 ⟨k, rfl, ?_⟩
    cases k with
    | false =>
      simp only [e1] at h2
      exact q false fr2 H2 F2 io2 (s1.trans s2) (p1.trans p2) w2 h2
    | true =>
      simp only [e1] at h2
      refine hc.part hl w2 h2 fun f fr3 x H3 F3 io3 s3 p3 w3 r3 h3 => ?_
      cases e2 : cmpD op' e f with
      | none => simp [e2] at h3; exact h3.elim
      | some k =>
        simp only [e2] at h3
        exact cmpD_ok ok w3 (.inl (r2.mono s3 p3)) (.inl r3) e2 (q k fr3 H3 F3 io3 ((s1.trans s2).trans s3) ((p1.trans p2).trans p3) w3 h3)))) Xz.mk
end
end Ag
namespace Ag
open PySem L2
section
variable {E : En} {e a b c : Expr} {ta tb tc : Tm} {fr : Fr} {σ tp : St} {H F : Hp} {io : List Addr} {Q : VK} {pos : Pos}
theorem SE_chain (ok : E.Ok) (ha : SE E a ta) (hb : SE E b tb) (hc : SE E c tc) {op op' : Cm} (hm : lastMarks [cmM op, cmM op'] [b, c] = false) : SE E (.Compare a [cmM op, cmM op'] [b, c] pos) (.chain op op' ta tb tc) := @Rz _ _ (fun qz => @Hz.get _ _ (qz.bar : Hz _ (by
  clear qz
  intro fr σ tp H F io Q hl w h
  refine wE_of (pe_chain op_w op_w pe_w pe_w pe_w hm) ?_
  exact chain_read ok ha hb hc hl w h fun k fr2 H2 F2 io2 s p w2 z => okE.bl w2 (okE.mono s p z)))) Xz.mk
theorem ST_chain (ok : E.Ok) (ha : SE E a ta) (hb : SE E b tb) (hc : SE E c tc) {op op' : Cm} (hm : lastMarks [cmM op, cmM op'] [b, c] = false) : ST E (.Compare a [cmM op, cmM op'] [b, c] pos) (.chain op op' ta tb tc) := @Rz _ _ (fun qz => @Hz.get _ _ (qz.bar : Hz _ (by
  clear qz
  intro fr σ tp H F io Q hl w h
  refine wT_of (pt_chain op_w op_w pe_w pe_w pe_w hm) ?_
  refine chain_read ok ha hb hc hl w h fun k fr2 H2 F2 io2 s p w2 z => ?_
  obtain ⟨b, e1, z⟩ := z
  cases e1
  exact ⟨_, rfl, z H2 F2 io2 s p w2⟩))) Xz.mk
theorem isTrue_IfExp {M : Model} {A : Around} {X : Value → Shared → Prop} {P : Bool → Shared → Prop} {s : Shared} {env : Env} {whole : Sem Value} (h : wpAny M A (isTrue c env (eval c env)) (fun k s1 => wpAny M A (if k = true then isTrue a env (eval a env) else isTrue b env (eval b env)) P X s1) X s) :
    wpAny M A (isTrue (.IfExp c a b pos) env whole) P X s := @Rz _ _ (fun qz => @Hz.get _ _ (qz.bar : Hz _ (by
  clear qz
  show wpAny M A (isTrue c env (eval c env) >>= fun k => if k = true then isTrue a env (eval a env) else isTrue b env (eval b env)) P X s
  exact wpAny_bind h))) Xz.mk
theorem ST_ite (hc : ST E c tc) (ha : ST E a ta) (hb : ST E b tb) : ST E (.IfExp c a b pos) (.ite tc ta tb) := @Rz _ _ (fun qz => @Hz.get _ _ (qz.bar : Hz _ (by
  clear qz
  intro fr σ tp H F io Q hl w h pins s I
  unfold ev at h
  refine isTrue_IfExp ?_
  have hw : wT E.X c σ H (fun t H1 => if t = true then wT E.X a σ H1 Q else wT E.X b σ H1 Q) := by
    refine hc.test hl w h fun t fr1 H1 F1 io1 s p w1 z => ?_
    cases t with
    | true => exact ha fr1 σ tp H1 F1 io1 Q hl w1 (Rs.all_imp z (fun _ _ ⟨b, e, y⟩ => ⟨b, e, fun H2 F2 io2 s2 p2 => y H2 F2 io2 (s.trans s2) (p.trans p2)⟩) fun _ _ _ y => y)
    | false => exact hb fr1 σ tp H1 F1 io1 Q hl w1 (Rs.all_imp z (fun _ _ ⟨b, e, y⟩ => ⟨b, e, fun H2 F2 io2 s2 p2 => y H2 F2 io2 (s.trans s2) (p.trans p2)⟩) fun _ _ _ y => y)
  refine thn (hw pins s I) fun t s1 ⟨H1, I1, q⟩ => ?_
  cases t with
  | true => rw [if_pos rfl] at q ⊢; exact q pins s1 I1
  | false => rw [if_neg Bool.false_ne_true] at q ⊢; exact q pins s1 I1))) Xz.mk
end
end Ag
namespace Ag
open PySem L2
def notStar : Expr → Bool
  | .Starred .. => false
  | _ => true
theorem star_ne {e : Expr} (h : notStar e = true) (es : List Expr) (env : Env) : starEach (e :: es) env = (false, eval e env) :: starEach es env := by
  cases e <;> first | rfl | cases h
def allNot (es : List Expr) : Bool := es.all notStar
theorem plain_of {es : List Expr} (h : allNot es = true) (pos : Pos) (env : Env) : (backTo pos (starEach es env)).any (·.1) = false := @Rz _ _ (fun qz => @Hz.get _ _ (qz.bar : Hz _ (by
  clear qz
  induction es with
  | nil => rfl
  | cons e es ih =>
    unfold allNot at h ih
    rw [List.all_cons, Bool.and_eq_true] at h
    rw [star_ne h.1]
    show (false || (backTo pos (starEach es env)).any (·.1)) = false
    rw [ih h.2]; rfl))) Xz.mk
def notSuper : Expr → Bool
  | .Call (.Name _ _) [] [] _ => false
  | _ => true
theorem base_of {o : Expr} (h : notSuper o = true) (attr : Str) (env : Env) (whole : Sem Value) : attributeBase o attr env whole = whole := @Rz _ _ (fun qz => @Hz.get _ _ (qz.bar : Hz _ (by
  clear qz
  unfold attributeBase
  split
  · cases h
  · rfl))) Xz.mk
section
variable {E : En} {e a b c : Expr} {ta tb tc : Tm} {fr : Fr} {σ tp : St} {H F : Hp} {io : List Addr} {Q : VK} {pos : Pos} {es : List Expr} {ts : List Tm}
theorem SA_nil : SA E [] [] := fun fr σ tp H F io Q hl w h => wA_of pa_nil (h [] H F io (Same.refl _) (Pre.refl _) w .nil)
theorem SA_cons (hs : notStar e = true) (ha : SE E e ta) (hr : SA E es ts) : SA E (e :: es) (ta :: ts) := @Rz _ _ (fun qz => @Hz.get _ _ (qz.bar : Hz _ (by
  clear qz
  intro fr σ tp H F io Q hl w h
  refine wA_of (pa_cons pe_w pa_w (star_ne hs _ _)) ?_
  unfold evs at h
  refine ha.part hl w h fun d fr1 v H1 F1 io1 s p w1 r z => ?_
  refine hr fr1 σ tp H1 F1 io1 _ hl w1 (Rs.all_imp (Rs.all_bind z) (fun ds fr2 z2 => ?_) fun _ _ _ x => x)
  intro vs H2 F2 io2 s2 p2 w2 rs
  exact z2 (v :: vs) H2 F2 io2 (s.trans s2) (p.trans p2) w2 (.cons (r.mono s2 p2) rs)))) Xz.mk
theorem SP_nil : SP' E [] [] := fun fr σ tp H F io Q hl w h => wA_of pa_nil (h [] H F io (Same.refl _) (Pre.refl _) w .nil)
theorem SP_cons (hs : notStar e = true) (ha : SE E e ta) (hr : SP' E es ts) : SP' E (e :: es) (ta :: ts) := @Rz _ _ (fun qz => @Hz.get _ _ (qz.bar : Hz _ (by
  clear qz
  intro fr σ tp H F io Q hl w h
  refine wA_of (pa_cons pe_w pa_w (star_ne hs _ _)) ?_
  unfold evp at h
  refine ha.held hl w h fun r fr1 v H1 F1 io1 s p w1 hk z => ?_
  refine hr fr1 σ tp H1 F1 io1 _ hl w1 (Rs.all_imp (Rs.all_bind z) (fun ds fr2 z2 => ?_) fun _ _ _ x => x)
  intro vs H2 F2 io2 s2 p2 w2 rs
  exact z2 (v :: vs) H2 F2 io2 (s.trans s2) (p.trans p2) w2 (.cons (hk.mono s2 p2) rs)))) Xz.mk
/-! ### displays -/
theorem SE_tup {k : Nat} (ha : SA E es ts) : SE E (.Tuple es k pos) (.tup ts) := @Rz _ _ (fun qz => @Hz.get _ _ (qz.bar : Hz _ (by
  clear qz
  intro fr σ tp H F io Q hl w h
  refine wE_of (pe_tup pa_w) ?_
  unfold ev at h
  refine ha fr σ tp H F io _ hl w (Rs.all_imp (Rs.all_bind h) (fun ds fr1 z => ?_) fun _ _ _ x => x)
  intro vs H1 F1 io1 s p w1 r
  split at z
  · rename_i hz
    exact ⟨by rw [← r.length]; exact hz, fun l hl => okE.tup w1 r (okE.mono s p z) hl⟩
  · exact z.elim))) Xz.mk
theorem SE_lst (ha : SA E es ts) : SE E (.List es pos) (.lst ts) := @Rz _ _ (fun qz => @Hz.get _ _ (qz.bar : Hz _ (by
  clear qz
  intro fr σ tp H F io Q hl w h
  refine wE_of (pe_lst pa_w) ?_
  unfold ev at h
  refine ha fr σ tp H F io _ hl w (Rs.all_imp (Rs.all_bind h) (fun ds fr1 z => ?_) fun _ _ _ x => x)
  intro vs H1 F1 io1 s p w1 r
  split at z
  · rename_i hz
    exact ⟨by rw [← r.length]; exact hz, fun l hl => okE.fresh w1 r (okE.mono s p z) hl⟩
  · exact z.elim))) Xz.mk
/-! ### built-ins -/
def biName : Bi → Str
  | .len => "len" | .min2 => "min" | .max2 => "max" | .int_ => "int" | .str_ => "str" | .tuple_ => "tuple" | .list_ => "list"
  | .min1 => "min" | .max1 => "max" | .min1d => "min" | .max1d => "max" | .all_ => "all" | .sorted_ => "sorted"
def biVal : Bi → Value
  | .len => .builtin "len" | .min2 => .builtin "min" | .max2 => .builtin "max" | .int_ => .type "int" | .str_ => .type "str" | .tuple_ => .type "tuple" | .list_ => .type "list"
  | .min1 => .builtin "min" | .max1 => .builtin "max" | .min1d => .builtin "min" | .max1d => .builtin "max" | .all_ => .builtin "all" | .sorted_ => .builtin "sorted"
def wCall (X : Cx) (f : Value) : List V → Hp → VK → Prop := fun vs H Q => ∀ (pins : List (Addr × Obj)) (σ : St) (s : Shared) (us : List Value), Inv X pins σ H s → Vals vs us → wpAny (model X.prog X.w) X.A (call f us) (EP X pins σ Q) X.xe s
theorem call_w {X : Cx} {f : Value} : CallR X f (wCall X f) := fun pins s σ H vs us Q I r h => h pins σ s us I r
theorem wCall_of {X : Cx} {f : Value} {r : List V → Hp → VK → Prop} {vs : List V} {H : Hp} {Q : VK} (h : CallR X f r) (q : r vs H Q) : wCall X f vs H Q := fun pins σ s us I rv => h pins s σ H vs us Q I rv q
/-- a built-in function by values -/
def BiOk (E : En) (b : Bi) : Prop := ∀ (fr : Fr) (σ tp : St) (H F : Hp) (io : List Addr) (Q : VK) (ds : List D) (vs : List V) (o : Out), E.ws fr (σ ++ tp) H F io → Paired (Lk E.G F io H) ds vs → biD b ds = some o → okE E σ tp F io Q (.out o) fr → wCall E.X (biVal b) vs H Q
theorem looks_ok {H0 : Ent} {n0 : Nat} {ρ : St} (w : Ws E.G H0 n0 fr ρ H F io) : ∀ {rs : List RV} {vs : List V} {ds : List D}, Paired (Hk E.G F io ρ) rs vs → looks fr.env rs = some ds → Paired (Lk E.G F io H) ds vs
  | _, _, _, .nil, e => by cases e; exact .nil
  | r :: rs, _, _, .cons h t, e => by
    unfold looks at e
    cases q1 : look fr.env r with
    | none => simp [q1] at e
    | some d =>
      cases q2 : looks fr.env rs with
      | none => simp [q1, q2] at e
      | some ds =>
        simp [q1, q2] at e; subst e
        exact .cons (w.look h q1) (looks_ok w t q2)
theorem bi_read {b : Bi} (hb : BiOk E b) (ha : SP' E es ts) (hl : σ.length = E.X.N.length) (w : E.ws fr (σ ++ tp) H F io) (h : (ev E.T (.bi b ts) fr).all (okE E σ tp F io Q) (exE E σ tp F io)) : tCB (wCall E.X (biVal b)) (wA E.X es) σ H Q := @Rz _ _ (fun qz => @Hz.get _ _ (qz.bar : Hz _ (by
  clear qz
  unfold ev at h
  refine ha fr σ tp H F io _ hl w (Rs.all_imp (Rs.all_bind h) (fun rs fr1 z => ?_) fun _ _ _ x => x)
  intro vs H1 F1 io1 s p w1 r
  cases e1 : looks fr1.env rs with
  | none => simp [e1] at z; exact z.elim
  | some ds =>
    simp only [e1] at z
    cases e2 : biD b ds with
    | none => simp [e2] at z; exact z.elim
    | some o =>
      simp only [e2] at z
      exact hb fr1 σ tp H1 F1 io1 Q ds vs o w1 (looks_ok w1 r e1) e2 (okE.mono s p z)))) Xz.mk
theorem SE_bi {b : Bi} {p : Pos} {x : Str} (hx : x = biName b) (hb : BiOk E b) (hg : Gl E.X x) (hm : E.X.mg x = none) (hn : notStar e = true) (hs : allNot es = true) (ha : SP' E (e :: es) ts) : SE E (.Call (.Name x p) (e :: es) [] pos) (.bi b ts) := @Rz _ _ (fun qz => @Hz.get _ _ (qz.bar : Hz _ (by
  clear qz
  intro fr σ tp H F io Q hl w h
  subst hx
  have q := bi_read hb ha hl w h
  cases b
  · exact wE_of (pe_callB call_w hg hm PySem.boot_len pa_w (by decide +kernel) (by decide +kernel) (star_ne hn _ _) (plain_of hs _ _)) q
  · exact wE_of (pe_callB call_w hg hm (by decide +kernel) pa_w (by decide +kernel) (by decide +kernel) (star_ne hn _ _) (plain_of hs _ _)) q
  · exact wE_of (pe_callB call_w hg hm (by decide +kernel) pa_w (by decide +kernel) (by decide +kernel) (star_ne hn _ _) (plain_of hs _ _)) q
  · exact wE_of (pe_callTy call_w hg hm (by decide +kernel) pa_w (by decide +kernel) (by decide +kernel) (star_ne hn _ _) (plain_of hs _ _)) q
  · exact wE_of (pe_callTy call_w hg hm (by decide +kernel) pa_w (by decide +kernel) (by decide +kernel) (star_ne hn _ _) (plain_of hs _ _)) q
  · exact wE_of (pe_callTy call_w hg hm (by decide +kernel) pa_w (by decide +kernel) (by decide +kernel) (star_ne hn _ _) (plain_of hs _ _)) q
  · exact wE_of (pe_callTy call_w hg hm (by decide +kernel) pa_w (by decide +kernel) (by decide +kernel) (star_ne hn _ _) (plain_of hs _ _)) q
  all_goals exact wE_of (pe_callB call_w hg hm (by decide +kernel) pa_w (by decide +kernel) (by decide +kernel) (star_ne hn _ _) (plain_of hs _ _)) q))) Xz.mk
theorem lk1 {R : D → V → Prop} {d : D} {vs : List V} (h : Paired R [d] vs) : ∃ v, vs = [v] ∧ R d v := by
  cases h with | cons a t => cases t; exact ⟨_, rfl, a⟩
theorem lk2 {R : D → V → Prop} {d e : D} {vs : List V} (h : Paired R [d, e] vs) : ∃ v u, vs = [v, u] ∧ R d v ∧ R e u := by
  cases h with | cons a t => cases t with | cons b t => cases t; exact ⟨_, _, rfl, a, b⟩
theorem bi_len (ok : E.Ok) : BiOk E .len := @Rz _ _ (fun qz => @Hz.get _ _ (qz.bar : Hz _ (by
  clear qz
  intro fr σ tp H F io Q ds vs o w r e h
  have e : biLen ds = some o := e
  unfold biLen at e
  split at e
  · cases e
    obtain ⟨v, rfl, l⟩ := lk1 r
    obtain ⟨p, vs, rfl, h1, r1⟩ := l.lst w.wr.sub
    exact wCall_of call_len_seq ⟨p, vs, rfl, .inl (SqL.of h1), by rw [← r1.length]; exact h.int w⟩
  · cases e
    obtain ⟨v, rfl, l⟩ := lk1 r
    obtain ⟨p, vs, rfl, h1, _, r1⟩ := l.tup w.wr.sub
    rw [ok.k] at h1
    exact wCall_of call_len_seq ⟨p, vs, rfl, .inr h1, by rw [← r1.length]; exact h.int w⟩
  · cases e
    obtain ⟨v, rfl, l⟩ := lk1 r
    obtain ⟨p, vs, rfl, h1, r1⟩ := l.rol w.wr.sub
    rw [ok.k] at h1
    exact wCall_of call_len_seq ⟨p, vs, rfl, .inl h1, by rw [← r1.length]; exact h.int w⟩
  · split at e <;> cases e
    rename_i hz
    obtain ⟨v, rfl, l⟩ := lk1 r
    rw [l.str]
    exact wCall_of call_len_str ⟨_, rfl, hz, h.int w⟩
  · cases e))) Xz.mk
theorem bi_min2 (ok : E.Ok) : BiOk E .min2 := @Rz _ _ (fun qz => @Hz.get _ _ (qz.bar : Hz _ (by
  clear qz
  intro fr σ tp H F io Q ds vs o w r e h
  have e : biMin2 ds = some o := e
  unfold biMin2 at e
  split at e
  · cases e
    obtain ⟨v, u, rfl, l1, l2⟩ := lk2 r
    rw [l1.int, l2.int]
    exact wCall_of (call_min2 ok.calm) ⟨_, _, rfl, h.int w⟩
  · cases e))) Xz.mk
theorem bi_max2 (ok : E.Ok) : BiOk E .max2 := @Rz _ _ (fun qz => @Hz.get _ _ (qz.bar : Hz _ (by
  clear qz
  intro fr σ tp H F io Q ds vs o w r e h
  have e : biMax2 ds = some o := e
  unfold biMax2 at e
  split at e
  · cases e
    obtain ⟨v, u, rfl, l1, l2⟩ := lk2 r
    rw [l1.int, l2.int]
    exact wCall_of (call_max2 ok.calm) ⟨_, _, rfl, h.int w⟩
  · cases e))) Xz.mk
theorem bi_int (ok : E.Ok) : BiOk E .int_ := @Rz _ _ (fun qz => @Hz.get _ _ (qz.bar : Hz _ (by
  clear qz
  intro fr σ tp H F io Q ds vs o w r e h
  have e : biInt ds = some o := e
  unfold biInt at e
  split at e
  · cases e
    obtain ⟨v, rfl, l1⟩ := lk1 r
    rw [l1.int]
    exact wCall_of call_int1 (.inl ⟨_, rfl, h.int w⟩)
  · cases e))) Xz.mk
theorem bi_list (ok : E.Ok) : BiOk E .list_ := @Rz _ _ (fun qz => @Hz.get _ _ (qz.bar : Hz _ (by
  clear qz
  intro fr σ tp H F io Q ds vs o w r e h
  have e : biList ds = some o := e
  unfold biList at e
  split at e
  · cases e
    obtain ⟨v, rfl, l⟩ := lk1 r
    obtain ⟨p, vs, rfl, h1, r1⟩ := l.lst w.wr.sub
    exact wCall_of call_list_of ⟨p, vs, rfl, .inl (SqL.of h1), fun l hl => h.fresh w r1 hl⟩
  · cases e
    obtain ⟨v, rfl, l⟩ := lk1 r
    obtain ⟨p, vs, rfl, h1, _, r1⟩ := l.tup w.wr.sub
    rw [ok.k] at h1
    exact wCall_of call_list_of ⟨p, vs, rfl, .inr h1, fun l hl => h.fresh w r1 hl⟩
  · cases e))) Xz.mk
theorem bi_tuple (ok : E.Ok) : BiOk E .tuple_ := @Rz _ _ (fun qz => @Hz.get _ _ (qz.bar : Hz _ (by
  clear qz
  intro fr σ tp H F io Q ds vs o w r e h
  have e : biTuple ds = some o := e
  unfold biTuple at e
  split at e
  · cases e
    obtain ⟨v, rfl, l⟩ := lk1 r
    obtain ⟨p, vs, rfl, h1, r1⟩ := l.lst w.wr.sub
    exact wCall_of call_tuple_of ⟨p, vs, rfl, .inl ⟨SqL.of h1, fun l hl => h.tup w r1 hl⟩⟩
  · cases e
    obtain ⟨v, rfl, l⟩ := lk1 r
    obtain ⟨p, vs, rfl, h1, g1, r1⟩ := l.tup w.wr.sub
    rw [ok.k] at h1
    exact wCall_of call_tuple_of ⟨p, vs, rfl, .inr ⟨h1, h _ H F io (Same.refl _) (Pre.refl _) w (.tup g1 r1)⟩⟩
  · cases e))) Xz.mk
/-! ### attributes, items -/
theorem RepF.look {f : Nat} {d : D} (inj : ∀ f g, E.G.fn f = E.G.fn g → f = g) : ∀ {fs : List (Nat × D)} {vs : List (Str × V)}, RepF E.G F io fs vs → fget fs f = some d → ∃ v, vs.lookup (E.G.fn f) = some v ∧ Rep E.G F io d v
  | _, _, .nil, e => by cases e
  | _, _, .cons (f := g) (d := x) (v := v) (ds := ds) (vs := vs) h r, e => by
    unfold fget at e
    rw [List.lookup_cons] at e
    rw [List.lookup_cons]
    by_cases q : f = g
    · subst q
      simp at e ⊢; subst e
      exact h
    · have q2 : (f == g) = false := by simpa using q
      have q3 : (E.G.fn f == E.G.fn g) = false := by
        simpa using fun z => q (inj _ _ z)
      rw [q2] at e
      rw [q3]
      exact RepF.look inj r e
theorem RepF.none {f : Nat} (inj : ∀ f g, E.G.fn f = E.G.fn g → f = g) : ∀ {fs : List (Nat × D)} {vs : List (Str × V)}, RepF E.G F io fs vs → fget fs f = none → vs.lookup (E.G.fn f) = none
  | _, _, .nil, e => rfl
  | _, _, .cons (f := g) (d := x) (v := v) (ds := ds) (vs := vs) h r, e => by
    unfold fget at e
    rw [List.lookup_cons] at e
    rw [List.lookup_cons]
    by_cases q : f = g
    · subst q
      simp at e
    · have q2 : (f == g) = false := by simpa using q
      have q3 : (E.G.fn f == E.G.fn g) = false := by
        simpa using fun z => q (inj _ _ z)
      rw [q2] at e
      rw [q3]
      exact RepF.none inj r e
theorem ins_at {d : D} {v : V} {c : Nat} {fs : List (Nat × D)} (w : E.ws fr (σ ++ tp) H F io) (r : Rep E.G F io d v) (e : insD fr.sto d = some (c, fs)) : ∃ a dx vs, v = .ref a ∧ H a = some (.ins (E.G.cl c) dx vs) ∧ RepF E.G F io fs vs := @Rz _ _ (fun qz => @Hz.get _ _ (qz.bar : Hz _ (by
  clear qz
  cases r with
  | obj h r => cases e; exact ⟨_, _, _, rfl, w.wr.sub _ _ h, r⟩
  | cell h =>
    rename_i n a
    unfold insD at e
    cases q : fr.sto[n]? with
    | none => simp [q] at e
    | some x =>
      cases x with
      | dict kvs => simp [q] at e
      | inst c' fs' =>
        simp [q] at e
        obtain ⟨rfl, rfl⟩ := e
        obtain ⟨a', e1, e2, dx, vs, h1, h2⟩ := w.wr.cel n _ q
        rw [h] at e1; cases e1
        exact ⟨_, dx, vs, rfl, h1, h2⟩
  | _ => cases e))) Xz.mk
theorem SE_attr (ok : E.Ok) {o : Expr} {to : Tm} {f : Nat} {x : Str} (hx : E.G.fn f = x) (hs : notSuper o = true) (ho : SE E o to) : SE E (.Attribute o x pos) (.attr to f) := @Rz _ _ (fun qz => @Hz.get _ _ (qz.bar : Hz _ (by
  clear qz
  intro fr σ tp H F io Q hl w h
  subst hx
  refine wE_of (pe_fld pe_w (base_of hs _ _ _)) ?_
  unfold ev at h
  refine ho.part hl w h fun d fr1 v H1 F1 io1 s p w1 r z => ?_
  cases e1 : insD fr1.sto d with
  | none => simp [e1] at z; exact z.elim
  | some q =>
    obtain ⟨c, fs⟩ := q
    simp only [e1] at z
    split at z
    · rename_i hf
      obtain ⟨a, dx, vs, rfl, h1, rf⟩ := ins_at w1 r e1
      cases e2 : fget fs f with
      | none => simp [e2] at z; exact z.elim
      | some y =>
        simp only [e2] at z
        obtain ⟨u, l, ru⟩ := rf.look ok.inj e2
        obtain ⟨c1, c2⟩ := ok.fld c f hf
        exact ⟨a, _, dx, vs, u, rfl, h1, c1, c2, l, z u H1 F1 io1 s p w1 ru⟩
    · exact z.elim))) Xz.mk
end
end Ag
namespace Ag
open PySem PySem.Spec L2
section
variable {E : En} {e a b c : Expr} {ta tb tc : Tm} {fr : Fr} {σ tp : St} {H F : Hp} {io : List Addr} {Q : VK} {pos : Pos} {es : List Expr} {ts : List Tm}
/-! ### items -/
def notSlice : Expr → Bool
  | .Slice .. => false
  | _ => true
theorem plain_ix {i : Expr} (h : notSlice i = true) (v u : Value) : subscripted i false v u = operate [v, u] (getItem v u) := by
  cases i <;> first | rfl | cases h
def wIx (X : Cx) : R2 := fun x y H Q => ∀ (value slice : Expr) (pins : List (Addr × Obj)) (s : Shared) (σ : St) (v u : Value), Inv X pins σ H s → RelV x v → RelV y u → subscripted slice false v u = operate [v, u] (getItem v u) →
  wpAny (model X.prog X.w) X.A (PyProof.Rows.subscriptTail value slice v u) (EP X pins σ Q) X.xe s
theorem ix_w {X : Cx} : IxR X (wIx X) := fun value slice pins s σ H x y v u Q I r1 r2 h hs => h value slice pins s σ v u I r1 r2 hs
theorem wIx_of {X : Cx} {r : R2} {x y : V} {H : Hp} {Q : VK} (h : IxR X r) (q : r x y H Q) : wIx X x y H Q := fun value slice pins s σ v u I r1 r2 hs => h value slice pins s σ H x y v u Q I r1 r2 q hs
theorem ix_dict {X : Cx} (hu : X.A.units + 1 < cLine) : IxR X (fun x y H Q => ∃ a v, x = .ref a ∧ DGet H a y (some v) ∧ Q v H) := @Rz _ _ (fun qz => @Hz.get _ _ (qz.bar : Hz _ (by
  clear qz
  intro value slice pins s σ H x y v u Q I rx ry h hs
  obtain ⟨a, z, rfl, g, q⟩ := h
  obtain rfl : v = Value.ref a := rx
  have hT := dict_typeIs I g
  unfold PyProof.Rows.subscriptTail
  refine wpAny_bind ?_
  rw [getitemInPython_of_ne hT.not_modules]
  refine wpAny_bind (wpAny_specialOf hT PySem.F.slot_dict_getitem.lookup ?_)
  have fin : wpAny (model X.prog X.w) X.A (subscripted slice false (.ref a) u) (fun r s₃ => wpAny (model X.prog X.w) X.A (letTemporaryGo value (.ref a) r >>= fun _ => pure r) (EP X pins σ Q) X.xe s₃) X.xe s := by
    rw [hs]
    exact wpAny_operating (wpAny_mono (d_getItem hu I g ry (Q := EP X pins σ Q) (E := X.xe) fun w' s3 I3 rw' => ⟨z, H, I3, rw', q⟩) (fun r s₃ h₃ => wpAny_bind (wpAny_letTemporaryGo (wpAny_pure h₃))) fun _ _ x => x)
  first
    | exact wpAny_pure (wpAny_bind fin)
    | exact fin))) Xz.mk
theorem RepK.get {k : Key} {d : D} : ∀ {kvs : List (Key × D)} {vs : List (Key × V)}, RepK E.G F io kvs vs → dget kvs k = some d → ∃ v, valV vs k = some v ∧ Rep E.G F io d v
  | _, _, .nil, e => by cases e
  | _, _, .cons (k := g) (d := x) (v := v) (ds := ds) (vs := vs) h r, e => by
    unfold dget at e
    rw [List.find?_cons] at e
    by_cases q : g = k
    · subst q
      simp at e; subst e
      exact ⟨v, valV_pos rfl, h⟩
    · have q2 : decide (g = k) = false := decide_eq_false q
      simp only [q2] at e
      rw [valV_neg (p := (g, v)) q]
      exact RepK.get r e
theorem RepK.anyk {k : Key} : ∀ {kvs : List (Key × D)} {vs : List (Key × V)}, RepK E.G F io kvs vs → (kvs.any fun kv => decide (kv.1 = k)) = (vs.any fun kv => decide (kv.1 = k))
  | _, _, .nil => rfl
  | _, _, .cons h r => by rw [List.any_cons, List.any_cons, RepK.anyk r]
theorem RepK.mapk {k : Key} {d : D} {v : V} (hd : Rep E.G F io d v) : ∀ {kvs : List (Key × D)} {vs : List (Key × V)}, RepK E.G F io kvs vs → RepK E.G F io (kvs.map fun kv => if kv.1 = k then (kv.1, d) else kv) (vs.map fun kv => if kv.1 = k then (kv.1, v) else kv)
  | _, _, .nil => .nil
  | _, _, .cons (k := g) h r => by
    rw [List.map_cons, List.map_cons]
    by_cases q : g = k
    · simp only [q, if_true]; exact .cons hd (RepK.mapk hd r)
    · simp only [if_neg q]; exact .cons h (RepK.mapk hd r)
theorem RepK.app : ∀ {kvs kvs' : List (Key × D)} {vs vs' : List (Key × V)}, RepK E.G F io kvs vs → RepK E.G F io kvs' vs' → RepK E.G F io (kvs ++ kvs') (vs ++ vs')
  | _, _, _, _, .nil, q => q
  | _, _, _, _, .cons h r, q => .cons h (RepK.app r q)
theorem RepK.put {k : Key} {d : D} {v : V} (hd : Rep E.G F io d v) {kvs : List (Key × D)} {vs : List (Key × V)} (r : RepK E.G F io kvs vs) : RepK E.G F io (kput kvs k d) (putK vs k v) := @Rz _ _ (fun qz => @Hz.get _ _ (qz.bar : Hz _ (by
  clear qz
  unfold kput putK
  rw [r.anyk]
  split
  · exact r.mapk hd
  · exact r.app (.cons hd .nil)))) Xz.mk
theorem key_of {d : D} {v : V} {k : Key} (r : Rep E.G F io d v) (e : keyOf d = some k) : v = kV k := by
  cases r <;> first | (cases e; rfl) | cases e
theorem ixD_ok (ok : E.Ok) {x y d : D} {v u : V} (w : E.ws fr (σ ++ tp) H F io) (hx : Lk E.G F io H x v) (hy : Rep E.G F io y u) (e : ixD fr.sto x y = some d) (h : okE E σ tp F io Q (.out (.val d)) fr) : wIx E.X v u H Q := @Rz _ _ (fun qz => @Hz.get _ _ (qz.bar : Hz _ (by
  clear qz
  have atR : ∀ {xs : List D} {vs : List V} {i : Int}, Reps E.G F io xs vs → atI xs i = some d → ∃ z, atI vs i = some z ∧ Rep E.G F io d z := by
    intro xs vs i r e
    unfold atI at e ⊢
    rw [r.length] at e
    cases q : ixN vs.length i with
    | none => rw [q] at e; cases e
    | some j =>
      rw [q] at e
      exact r.get e
  unfold ixD at e
  split at e
  · obtain ⟨p, vs, rfl, h1, r1⟩ := hx.lst w.wr.sub
    cases hy
    obtain ⟨z, e2, rz⟩ := atR r1 e
    exact wIx_of ix_list ⟨p, vs, _, z, rfl, rfl, SqL.of h1, e2, h z H F io (Same.refl _) (Pre.refl _) w rz⟩
  · obtain ⟨p, vs, rfl, h1, _, r1⟩ := hx.tup w.wr.sub
    rw [ok.k] at h1
    cases hy
    obtain ⟨z, e2, rz⟩ := atR r1 e
    exact wIx_of ix_tup ⟨p, vs, _, z, rfl, rfl, h1, e2, h z H F io (Same.refl _) (Pre.refl _) w rz⟩
  · split at e
    · rename_i hz
      rw [hx.str]
      cases hy
      cases q : atI (Str.cps _).toList _ with
      | none => rw [q] at e; cases e
      | some c =>
        rw [q] at e
        cases e
        exact wIx_of ix_str ⟨_, _, c, rfl, rfl, hz, q, h.str w⟩
    · cases e
  · rename_i k n
    have hx' : Rep E.G F io (.cell n) v := by
      rcases hx with hx | ⟨_, _, _, z, _⟩
      · exact hx
      · cases z
    cases hx' with
    | cell hc =>
      rename_i a
      cases q : fr.sto[n]? with
      | none => simp [q] at e
      | some c =>
        cases c with
        | inst c fs => simp [q] at e
        | dict kvs =>
          cases q2 : keyOf y with
          | none => simp [q, q2] at e
          | some kk =>
            simp only [q, q2] at e
            obtain ⟨a', e1, _, vs, h1, h2⟩ := w.wr.cel n _ q
            rw [hc] at e1; cases e1
            obtain ⟨z, e3, rz⟩ := h2.get e
            have hk := key_of hy q2
            subst hk
            exact wIx_of (ix_dict (by have := ok.hu; omega)) ⟨a, z, rfl, e3 ▸ DGet.k h1, h z H F io (Same.refl _) (Pre.refl _) w rz⟩
  · cases e))) Xz.mk
theorem SE_ix (ok : E.Ok) {o i : Expr} {to ti : Tm} (hs : notSlice i = true) (ho : SE E o to) (hi : SE E i ti) : SE E (.Subscript o i pos) (.ix to ti) := @Rz _ _ (fun qz => @Hz.get _ _ (qz.bar : Hz _ (by
  clear qz
  intro fr σ tp H F io Q hl w h
  refine wE_of (pe_ix ix_w pe_w pe_w (plain_ix hs)) ?_
  unfold ev at h
  refine ho.held hl w h fun r fr1 v H1 F1 io1 s1 p1 w1 hk h1 => ?_
  refine hi.part hl w1 h1 fun k fr2 u H2 F2 io2 s2 p2 w2 rk h2 => ?_
  cases e1 : look fr2.env (hold r) with
  | none => simp [e1] at h2; exact h2.elim
  | some d =>
    simp only [e1] at h2
    cases e2 : ixD fr2.sto d k with
    | none => simp [e2] at h2; exact h2.elim
    | some y =>
      simp only [e2] at h2
      exact ixD_ok ok w2 (w2.look (hk.mono s2 p2) e1) rk e2 (okE.mono (s1.trans s2) (p1.trans p2) h2)))) Xz.mk
/-! ### slices -/
def wSl (X : Cx) : V → Option Int → Option Int → Hp → VK → Prop := fun x lo hi H Q => ∀ (pins : List (Addr × Obj)) (s : Shared) (σ : St) (v vl vu : Value) (sl : Addr), Inv X pins σ H s → RelV x v → s.heap.IsSliceOf sl vl vu .none → IsPart vl lo → IsPart vu hi →
    ∃ T id, typeLookup (.type T) "__getitem__" = pure (some (.builtin id)) ∧ s.TypeIs v T ∧ wpAny (model X.prog X.w) X.A (getItem v (.ref sl)) (EP X pins σ Q) X.xe s
theorem sl_w {X : Cx} : SlR X (wSl X) := fun pins s σ H x v vl vu lo hi sl Q I r a b c h => h pins s σ v vl vu sl I r a b c
theorem wSl_of {X : Cx} {r : V → Option Int → Option Int → Hp → VK → Prop} {x : V} {lo hi : Option Int} {H : Hp} {Q : VK} (h : SlR X r) (q : r x lo hi H Q) : wSl X x lo hi H Q := fun pins s σ v vl vu sl I r a b c => h pins s σ H x v vl vu lo hi sl Q I r a b c q
theorem cutL_rep {xs : List D} {vs : List V} (r : Reps E.G F io xs vs) (lo hi : Option Int) : Reps E.G F io (cutL xs lo hi) (cutV vs lo hi) := @Rz _ _ (fun qz => @Hz.get _ _ (qz.bar : Hz _ (by
  clear qz
  unfold cutL cutV
  rw [r.length]
  exact (r.drop _).take _))) Xz.mk
def SO (E : En) (oe : Option Expr) (ot : Option Tm) : Prop := match oe, ot with
  | none, none => True
  | some e, some t => SE E e t
  | _, _ => False
def wO (X : Cx) (oe : Option Expr) : TO := match oe with
  | none => tNoPart
  | some e => tPart (wE X e)
theorem po_w {X : Cx} {oe : Option Expr} : PO X oe (wO X oe) := @Rz _ _ (fun qz => @Hz.get _ _ (qz.bar : Hz _ (by
  clear qz
  cases oe with
  | none => exact po_none
  | some e => exact po_some pe_w))) Xz.mk
theorem SO.read {oe : Option Expr} {ot : Option Tm} (ho : SO E oe ot) (hl : σ.length = E.X.N.length) (w : E.ws fr (σ ++ tp) H F io) {α : Type} {k : Option Int → Fr → Rs α} {P : α → Fr → Prop} (h : ((evo E.T ot fr).bind k).all P (exE E σ tp F io))
    {R : Option Int → Hp → Prop} (q : ∀ o fr1 H1 F1 io1, Same F F1 → Pre io io1 → E.ws fr1 (σ ++ tp) H1 F1 io1 → (k o fr1).all P (exE E σ tp F1 io1) → R o H1) : wO E.X oe σ H R := @Rz _ _ (fun qz => @Hz.get _ _ (qz.bar : Hz _ (by
  clear qz
  cases oe with
  | none =>
    cases ot with
    | none => exact q none fr H F io (Same.refl _) (Pre.refl _) w h
    | some t => exact ho.elim
  | some e =>
    cases ot with
    | none => exact ho.elim
    | some t =>
      have h0 := Rs.all_bind h
      unfold evo at h0
      show wE E.X e σ H _
      refine SE.part (show SE E e t from ho) hl w h0 fun d fr1 v H1 F1 io1 s p w1 r z => ?_
      cases d with
      | int i =>
        cases r
        exact ⟨i, rfl, q (some i) fr1 H1 F1 io1 s p w1 (Rs.all_imp z (fun _ _ y => y) fun _ _ _ y => y.mono s p)⟩
      | _ => exact z.elim))) Xz.mk
theorem SE_slice (ok : E.Ok) {o : Expr} {lo hi : Option Expr} {to : Tm} {tl th : Option Tm} {p2 : Pos} (ho : SE E o to) (hlo : SO E lo tl) (hhi : SO E hi th) : SE E (.Subscript o (.Slice lo hi none p2) pos) (.slice to tl th) := @Rz _ _ (fun qz => @Hz.get _ _ (qz.bar : Hz _ (by
  clear qz
  intro fr σ tp H F io Q hl w h
  refine wE_of (pe_slice sl_w pe_w po_w po_w) ?_
  unfold ev at h
  refine ho.held hl w h fun r fr1 v H1 F1 io1 s1 p1 w1 hk h1 => ?_
  refine hlo.read hl w1 h1 fun l fr2 H2 F2 io2 s2 p2 w2 h2 => ?_
  refine hhi.read hl w2 h2 fun u fr3 H3 F3 io3 s3 p3 w3 h3 => ?_
  cases e1 : look fr3.env (hold r) with
  | none => simp [e1] at h3; exact h3.elim
  | some d =>
    simp only [e1] at h3
    have lk := w3.look (hk.mono (s2.trans s3) (p2.trans p3)) e1
    cases d with
    | lst xs =>
      obtain ⟨p, vs, rfl, g1, r1⟩ := lk.lst w3.wr.sub
      exact wSl_of sl_list ⟨p, vs, rfl, SqL.of g1, fun l hl => okE.fresh w3 (cutL_rep r1 _ _) (okE.mono ((s1.trans s2).trans s3) ((p1.trans p2).trans p3) h3) hl⟩
    | rol xs =>
      obtain ⟨p, vs, rfl, g1, r1⟩ := lk.rol w3.wr.sub
      rw [ok.k] at g1
      exact wSl_of sl_list ⟨p, vs, rfl, g1, fun l hl => okE.fresh w3 (cutL_rep r1 _ _) (okE.mono ((s1.trans s2).trans s3) ((p1.trans p2).trans p3) h3) hl⟩
    | tup xs =>
      obtain ⟨p, vs, rfl, g1, g2, r1⟩ := lk.tup w3.wr.sub
      rw [ok.k] at g1
      have h3' : okE E σ tp F3 io3 Q (.out (.val (.tup (cutL xs l u)))) fr3 := okE.mono ((s1.trans s2).trans s3) ((p1.trans p2).trans p3) h3
      refine wSl_of sl_tupA ⟨p, vs, rfl, g1, fun z => ?_, fun _ l hl => okE.tup w3 (cutL_rep r1 _ _) h3' hl⟩
      have e2 : cutL xs l u = xs := by
        unfold cutL
        rw [r1.length, z.1, z.2, ← r1.length]
        simp
      rw [e2] at h3'
      exact h3' _ H3 F3 io3 (Same.refl _) (Pre.refl _) w3 (.tup g2 r1)
    | _ => exact h3.elim))) Xz.mk
end
end Ag
namespace Ag
open PySem PySem.Spec L2
/-- the callable u does what phi tells -/
def Calls (E : En) (u : Value) (phi : Fn) : Prop := ∀ (fr : Fr) (σ tp : St) (H F : Hp) (io : List Addr) (Q : VK) (ds : List D) (vs : List V) (us : List Value) (pins : List (Addr × Obj)) (s : Shared),
  E.ws fr (σ ++ tp) H F io → Reps E.G F io ds vs → Vals vs us → Inv E.X pins σ H s → (ofFx fr (phi ds fr.sto)).all (okE E σ tp F io Q) (exE E σ tp F io) →
  wpAny (model E.X.prog E.X.w) E.X.A (call u us) (EP E.X pins σ Q) E.X.xe s
def CallOk (E : En) (x : Str) (i : Nat) : Prop := ∃ u, E.X.mg x = some u ∧ PySem.W.keepIn E.X.K u = true ∧ Calls E u (E.T.phi i)
/-- the method m of instances of the class c -/
def MethOk (E : En) (c m i : Nat) : Prop := Cls E.X.K (E.G.cl c) ∧ ∃ g, Meth E.X.K (E.G.cl c) (E.G.fn m) g ∧ Calls E (.ref g) (E.T.phi i)
section
variable {E : En} {e a b c : Expr} {ta tb tc : Tm} {fr : Fr} {σ tp : St} {H F : Hp} {io : List Addr} {Q : VK} {pos : Pos} {es : List Expr} {ts : List Tm}
theorem args_read {i : Nat} {phi : Fn} {u : Value} (hcall : Calls E u phi) (ha : SA E es ts) (hl : σ.length = E.X.N.length) (w : E.ws fr (σ ++ tp) H F io) {d0 : List D} {v0 : List V} (r0 : Reps E.G F io d0 v0)
    (h : ((evs E.T ts fr).bind fun ds fr1 => ofFx fr1 (phi (d0 ++ ds) fr1.sto)).all (okE E σ tp F io Q) (exE E σ tp F io)) :
    wA E.X es σ H fun vs H1 => ∀ pins s us, Inv E.X pins σ H1 s → Vals (v0 ++ vs) us → wpAny (model E.X.prog E.X.w) E.X.A (call u us) (EP E.X pins σ Q) E.X.xe s := @Rz _ _ (fun qz => @Hz.get _ _ (qz.bar : Hz _ (by
  clear qz
  refine ha fr σ tp H F io _ hl w (Rs.all_imp (Rs.all_bind h) (fun ds fr1 z => ?_) fun _ _ _ x => x)
  intro vs H1 F1 io1 s p w1 r pins sh us I rv
  exact hcall fr1 σ tp H1 F1 io1 Q (d0 ++ ds) (v0 ++ vs) us pins sh w1 ((r0.mono s p).append r) rv I (Rs.all_imp z (fun _ _ y => okE.mono s p y) fun _ _ _ y => y.mono s p)))) Xz.mk
theorem SE_call {x : Str} {p : Pos} {i : Nat} (hg : Gl E.X x) (hd : (x == ("__debug__" : Str)) = false) (hc : CallOk E x i) (hn : notStar e = true) (hs : allNot es = true) (ha : SA E (e :: es) ts) : SE E (.Call (.Name x p) (e :: es) [] pos) (.call i ts) := @Rz _ _ (fun qz => @Hz.get _ _ (qz.bar : Hz _ (by
  clear qz
  intro fr σ tp H F io Q hl w h
  unfold ev at h
  obtain ⟨u, hm, hk, hcall⟩ := hc
  have hA := args_read (i := i) hcall ha hl w (d0 := []) (v0 := []) .nil h
  intro pins s I
  refine wpAny_Call_Name_kw (ld_glob I hg hm ?_ hd)
  refine PySem.W.callWith_K (h₀ := E.X.base) I.ok.mod.kin hk (thn (hA pos pins s I) fun us s1 ⟨vs, H1, I1, r, q⟩ => ⟨I1.kIn, ?_⟩) (star_ne hn _ _) (plain_of hs _ _)
  exact q pins s1 us I1 r))) Xz.mk
theorem SE_call0 {x : Str} {p : Pos} {i : Nat} (hg : Gl E.X x) (hd : (x == ("__debug__" : Str)) = false) (hc : CallOk E x i) : SE E (.Call (.Name x p) [] [] pos) (.call i []) := @Rz _ _ (fun qz => @Hz.get _ _ (qz.bar : Hz _ (by
  clear qz
  intro fr σ tp H F io Q hl w h
  unfold ev at h
  obtain ⟨u, hm, hk, hcall⟩ := hc
  intro pins s I
  refine wpAny_Call_Name_kw (ld_glob I hg hm ?_ hd)
  exact PySem.W.callWith_K0 I.kIn hk (hcall fr σ tp H F io Q [] [] [] pins s w .nil .nil I (Rs.all_bind h))))) Xz.mk
theorem meth_read {o : Expr} {to : Tm} {m : Nat} (ok : E.Ok) (hm : ∀ c i, E.T.psi c m = some i → MethOk E c m i) (ho : SE E o to) (hl : σ.length = E.X.N.length) (w : E.ws fr (σ ++ tp) H F io)
    (h : (ev E.T (.meth m to ts) fr).all (okE E σ tp F io Q) (exE E σ tp F io)) :
    wE E.X o σ H fun v H1 => ∃ (a : Addr) (dx : Addr) (fs : List (Str × V)) (c i : Nat) (d : D) (fr1 : Fr) (F1 : Hp) (io1 : List Addr), v = .ref a ∧ H1 a = some (.ins (E.G.cl c) dx fs) ∧ fs.lookup (E.G.fn m) = none ∧ MethOk E c m i ∧
      E.ws fr1 (σ ++ tp) H1 F1 io1 ∧ Rep E.G F1 io1 d v ∧ ((evs E.T ts fr1).bind fun ds fr2 => ofFx fr2 (E.T.phi i ([d] ++ ds) fr2.sto)).all (okE E σ tp F1 io1 Q) (exE E σ tp F1 io1) := @Rz _ _ (fun qz => @Hz.get _ _ (qz.bar : Hz _ (by
  clear qz
  unfold ev at h
  refine ho.part hl w h fun d fr1 v H1 F1 io1 s p w1 r z => ?_
  cases e1 : insD fr1.sto d with
  | none => simp [e1] at z; exact z.elim
  | some q =>
    obtain ⟨c, fs⟩ := q
    simp only [e1] at z
    split at z
    · rename_i hf
      cases e2 : E.T.psi c m with
      | none => simp [e2] at z; exact z.elim
      | some i =>
        simp only [e2] at z
        obtain ⟨a, dx, vs, rfl, h1, rf⟩ := ins_at w1 r e1
        exact ⟨a, dx, vs, c, i, d, fr1, F1, io1, rfl, h1, rf.none ok.inj (Option.isNone_iff_eq_none.mp hf), hm c i e2, w1, r, Rs.all_imp z (fun _ _ y => okE.mono s p y) fun _ _ _ y => y⟩
    · exact z.elim))) Xz.mk
theorem form_of {es : List Expr} (h : allNot es = true) (hn : es.length < 29) (env : Env) : methodCallForm (es.length + ([] : List Keyword).length) (backTo pos (starEach es env)) (backToKw pos (keywordEach [] env)) = true := @Rz _ _ (fun qz => @Hz.get _ _ (qz.bar : Hz _ (by
  clear qz
  have h1 : ∀ l : List Expr, allNot l = true → (backTo pos (starEach l env)).all (!·.1) = true := by
    intro l
    induction l with
    | nil => intro _; rfl
    | cons e l ih =>
      intro h
      unfold allNot at h ih
      rw [List.all_cons, Bool.and_eq_true] at h
      rw [star_ne h.1]
      show (true && (backTo pos (starEach l env)).all (!·.1)) = true
      rw [ih h.2]; rfl
  unfold methodCallForm
  rw [h1 es h]
  show (true && true && decide (es.length + 0 + 0 < 30)) = true
  simp
  omega))) Xz.mk
theorem meth_eval {o : Expr} {m : Str} {apos : Pos} {env : Env} (hso : notSuper o = true) (hs : allNot es = true) (hn : es.length < 29) (hl : (apos.endLine == pos.line) = true) :
    eval (.Call (.Attribute o m apos) es [] pos) env = (do
      let ov ← eval o env
      standAt apos.atName
      let (f, first) ← holding [ov] (getMethod ov m (do return (← importBound o env).getD true))
      callWith pos f first (backTo pos (starEach es env)) (backToKw pos (keywordEach [] env))) := @Rz _ _ (fun qz => @Hz.get _ _ (qz.bar : Hz _ (by
  clear qz
  show (do
    let ov ← attributeBase o m env (eval o env)
    standAt apos.atName
    methodCall o m apos pos env ov (es.length + ([] : List Keyword).length) (backTo pos (starEach es env)) (backToKw pos (keywordEach [] env))) = _
  rw [base_of hso]
  unfold methodCall
  rw [form_of hs hn]
  unfold methodCallPos
  rw [hl]
  rfl))) Xz.mk
theorem SE_meth (ok : E.Ok) {o : Expr} {to : Tm} {m : Nat} {x : Str} {apos : Pos} (hx : E.G.fn m = x) (hm : ∀ c i, E.T.psi c m = some i → MethOk E c m i) (ho : SE E o to) (hso : notSuper o = true)
    (hn : notStar e = true) (hs : allNot es = true) (hz : es.length < 28) (hli : (apos.endLine == pos.line) = true) (ha : SA E (e :: es) ts) : SE E (.Call (.Attribute o x apos) (e :: es) [] pos) (.meth m to ts) := @Rz _ _ (fun qz => @Hz.get _ _ (qz.bar : Hz _ (by
  clear qz
  intro fr σ tp H F io Q hl w h
  subst hx
  have hr := meth_read ok hm ho hl w h
  intro pins s I
  refine PySem.W.methodCall_KW (pl := do return (← importBound o E.X.env).getD true) (thn (hr pins s I) fun u s1 ⟨x, H1, I1, rx, a, dx, fs, c, i, d, fr1, F1, io1, ex, ea, l, ⟨cc, g, hg, hcall⟩, w1, rd, q⟩ => ?_) (meth_eval hso (by unfold allNot; rw [List.all_cons, hn]; exact hs) (by simp; omega) hli)
  subst ex
  obtain rfl : u = Value.ref a := rx
  refine getmeth_ok I1 ea cc hg l ?_
  have hA := args_read (i := i) hcall ha hl w1 (d0 := [d]) (v0 := [.ref a]) (.cons rd .nil) q
  refine PySem.W.callWith_K (first := [.ref a]) (h₀ := E.X.base) I.ok.mod.kin hg.kp (thn (hA pos pins s1 I1) fun us s2 ⟨vs, H2, I2, r, q2⟩ => ⟨I2.kIn, ?_⟩) (star_ne hn _ _) (plain_of hs _ _)
  exact q2 pins s2 (.ref a :: us) I2 (.cons rfl r)))) Xz.mk
theorem SE_meth0 (ok : E.Ok) {o : Expr} {to : Tm} {m : Nat} {x : Str} {apos : Pos} (hx : E.G.fn m = x) (hm : ∀ c i, E.T.psi c m = some i → MethOk E c m i) (ho : SE E o to) (hso : notSuper o = true) (hli : (apos.endLine == pos.line) = true) :
    SE E (.Call (.Attribute o x apos) [] [] pos) (.meth m to []) := @Rz _ _ (fun qz => @Hz.get _ _ (qz.bar : Hz _ (by
  clear qz
  intro fr σ tp H F io Q hl w h
  subst hx
  have hr := meth_read ok hm ho hl w h
  intro pins s I
  refine PySem.W.methodCall_KW (pl := do return (← importBound o E.X.env).getD true) (thn (hr pins s I) fun u s1 ⟨x, H1, I1, rx, a, dx, fs, c, i, d, fr1, F1, io1, ex, ea, l, ⟨cc, g, hg, hcall⟩, w1, rd, q⟩ => ?_) (meth_eval hso rfl (by decide) hli)
  subst ex
  obtain rfl : u = Value.ref a := rx
  refine getmeth_ok I1 ea cc hg l ?_
  exact PySem.W.callWith_K0 (first := [.ref a]) I1.kIn hg.kp (hcall fr1 σ tp H1 F1 io1 Q [d] [.ref a] [.ref a] pins s1 w1 (.cons rd .nil) (.cons rfl .nil) I1 (Rs.all_bind q))))) Xz.mk
/-! ### displays of dicts -/
def En.at (E : En) (h0 : Ent) : En := { E with H0 := h0 }
theorem En.Ok.at (ok : E.Ok) (h0 : Ent) : (E.at h0).Ok := ⟨ok.k, ok.nd, ok.calm, ok.hu5, ok.tk, ok.inj, ok.fld⟩
/-- the pairs of a display -/
inductive SK (E : En) : List (Option Expr) → List Expr → List (Key × Tm) → Prop
  | nil : SK E [] [] []
  | str {x : Str} {j : Nat} {p : Pos} {v : Expr} {t : Tm} {ks vs kts} : (∀ h0, SE (E.at h0) v t) → SK E ks vs kts → SK E (some (.Constant (.str x) j p) :: ks) (v :: vs) ((.inr x, t) :: kts)
def kTE (E : En) : List (Option Expr) → List Expr → List (TE × TE)
  | some k :: ks, v :: vs => (wE E.X k, wE E.X v) :: kTE E ks vs
  | _, _ => []
theorem SK.pps {ks : List (Option Expr)} {vs : List Expr} {kts : List (Key × Tm)} (h : SK E ks vs kts) : PPs E.X pos ks vs (kTE E ks vs) := @Rz _ _ (fun qz => @Hz.get _ _ (qz.bar : Hz _ (by
  clear qz
  induction h with
  | nil => exact pps_nil
  | str _ _ ih => exact pps_cons pe_w pe_w ih))) Xz.mk
theorem SK.len {ks : List (Option Expr)} {vs : List Expr} {kts : List (Key × Tm)} (h : SK E ks vs kts) : ks.length = vs.length ∧ ks.length = kts.length ∧ ks.all (·.isSome) = true := @Rz _ _ (fun qz => @Hz.get _ _ (qz.bar : Hz _ (by
  clear qz
  induction h with
  | nil => exact ⟨rfl, rfl, rfl⟩
  | str _ _ ih => exact ⟨by simp [ih.1], by simp [ih.2.1], by simpa using ih.2.2⟩))) Xz.mk
/-- more is known of the entry -/
def Ext (H0 h0 : Ent) : Prop := Same H0.hp h0.hp ∧ H0.fz = h0.fz
theorem Ws.weak {G : Glb} {H0 h0 : Ent} {n0 : Nat} {ρ : St} (s : Ext H0 h0) (w : Ws G h0 n0 fr ρ H F io) : Ws G H0 n0 fr ρ H F io := @Rz _ _ (fun qz => @Hz.get _ _ (qz.bar : Hz _ (by
  clear qz
  have nn : ∀ a, h0 a = none → H0 a = none := fun a e => by
    cases q : H0 a with
    | none => rfl
    | some o => rw [s.1 a o q] at e; cases e
  refine ⟨⟨w.wr.sub, w.wr.len, w.wr.cel, w.wr.inj, fun a o e k => w.wr.keep a o (s.1 a o e) k, fun n a h e => nn a (w.wr.new n a h e), w.wr.frz, w.wr.nle, fun a o u e1 e2 => s.2 ▸ w.wr.old a o u (s.1 a o e1) e2⟩, w.sl.len, fun i sl e => ?_, w.sl.dis⟩
  have q := w.sl.at_ i sl e
  cases sl with
  | un => trivial
  | val d => exact q
  | own xs => obtain ⟨p, e1, vs, h1, h2, h3, h4, h5⟩ := q; exact ⟨p, e1, vs, h1, h2, h3, nn p h4, h5⟩))) Xz.mk
theorem exE.at {h0 : Ent} (s : Ext E.H0 h0) {c : Nat} {fs : List D} {fr : Fr} (h : exE E σ tp F io c fs fr) : exE (E.at h0) σ tp F io c fs fr :=
  fun d H' F' io' s1 p1 w x => h d H' F' io' s1 p1 (Ws.weak s w) x
theorem SE.partX {v : Expr} {t : Tm} {h0 : Ent} (ha : SE (E.at h0) v t) (hs : Ext E.H0 h0) (hl : σ.length = E.X.N.length) (w : (E.at h0).ws fr (σ ++ tp) H F io) {α : Type} {k : D → Fr → Rs α} {P : α → Fr → Prop} (h : ((ev E.T t fr).fr k).all P (exE E σ tp F io))
    (q : ∀ d fr1 v H1 F1 io1, Same F F1 → Pre io io1 → (E.at h0).ws fr1 (σ ++ tp) H1 F1 io1 → Rep E.G F1 io1 d v → (k d fr1).all P (exE E σ tp F1 io1) → Q v H1) : wE E.X v σ H Q := @Rz _ _ (fun qz => @Hz.get _ _ (qz.bar : Hz _ (by
  clear qz
  refine ha fr σ tp H F io Q hl w (Rs.all_imp (Rs.all_fr h) (fun r fr1 z => ?_) fun _ _ _ x => x.at hs)
  obtain ⟨d, fr', e1, z⟩ := z
  intro v H' F' io' s p w' rv
  obtain ⟨F2, s2, rp, w2⟩ := w'.toD rv e1
  exact q d fr' v H' F2 io' (s.trans s2) p w2 rp (Rs.all_imp z (fun _ _ y => y) fun _ _ _ y => y.mono (s.trans s2) p)))) Xz.mk
theorem SK.read {ks : List (Option Expr)} {vs : List Expr} {kts : List (Key × Tm)} (h : SK E ks vs kts) (h0 : Ent) (hs : Ext E.H0 h0) : ∀ {fr : Fr} {H F : Hp} {io : List Addr} {P : List (Key × D) → Fr → Prop} {R : List (V × V) → Hp → Prop}, σ.length = E.X.N.length → (E.at h0).ws fr (σ ++ tp) H F io →
    (evk E.T kts fr).all P (exE E σ tp F io) →
    (∀ kds fr1 kvs H1 F1 io1, Same F F1 → Pre io io1 → (E.at h0).ws fr1 (σ ++ tp) H1 F1 io1 → RepK E.G F1 io1 kds kvs → P kds fr1 → R (kvs.map fun kv => (kV kv.1, kv.2)) H1) → tPairs (kTE E ks vs) σ H R := @Rz _ _ (fun qz => @Hz.get _ _ (qz.bar : Hz _ (by
  clear qz
  induction h with
  | nil =>
    intro fr H F io P R hl w h q
    exact q [] fr [] H F io (Same.refl _) (Pre.refl _) w .nil h
  | @str x j p v t ks vs kts hv hr ih =>
    intro fr H F io P R hl w h q
    show wE E.X (.Constant (.str x) j p) σ H fun y H1 => wE E.X v σ H1 fun z H2 => tPairs (kTE E ks vs) σ H2 fun ps H3 => R ((y, z) :: ps) H3
    refine wE_of pe_str ?_
    unfold evk at h
    refine SE.partX (E := E) (hv h0) hs hl w h fun d fr1 u H1 F1 io1 s1 p1 w1 r z => ?_
    refine ih (P := fun kds fr2 => P ((.inr x, d) :: kds) fr2) hl w1 ?_ fun kds fr2 kvs H2 F2 io2 s2 p2 w2 rk z2 => ?_
    · exact Rs.all_bind z
    · exact q ((.inr x, d) :: kds) fr2 ((.inr x, u) :: kvs) H2 F2 io2 (s1.trans s2) (p1.trans p2) w2 (.cons (r.mono s2 p2) rk) z2))) Xz.mk
end
end Ag
namespace Ag
open PySem PySem.Spec L2
section
variable {E : En} {e a b c : Expr} {ta tb tc : Tm} {fr : Fr} {σ tp : St} {H F : Hp} {io : List Addr} {Q : VK} {pos : Pos} {es : List Expr} {ts : List Tm}
theorem RepK.merge : ∀ {more : List (Key × D)} {vs : List (Key × V)}, RepK E.G F io more vs → ∀ {kvs : List (Key × D)} {us : List (Key × V)}, RepK E.G F io kvs us → RepK E.G F io (kmerge kvs more) (mergeK us vs)
  | _, _, .nil => fun q => q
  | _, _, .cons h r => fun q => RepK.merge r (q.put h)
theorem pre_app {io : List Addr} {p : Addr} : Pre io (io ++ [p]) := fun n a h => by
  rw [List.getElem?_append_left (List.getElem?_eq_some_iff.mp h).1]; exact h
theorem app_at {io : List Addr} {p : Addr} {n : Nat} {a : Addr} (h : (io ++ [p])[n]? = some a) : (n = io.length ∧ a = p) ∨ io[n]? = some a := @Rz _ _ (fun qz => @Hz.get _ _ (qz.bar : Hz _ (by
  clear qz
  by_cases q : n < io.length
  · rw [List.getElem?_append_left q] at h; exact .inr h
  · have : n = io.length := by
      have := (List.getElem?_eq_some_iff.mp h).1
      rw [List.length_append] at this
      simp at this; omega
    subst this
    simp at h
    exact .inl ⟨rfl, h.symm⟩))) Xz.mk
def Ent.add (h : Ent) (p : Addr) (o : HO) : Ent := ⟨upd h.hp p o, h.fz⟩
/-- a pending thing at p (known since h0) becomes a cell -/
theorem Ws.addCell {p : Addr} {o u : HO} {cl : Cell} (w : (E.at (E.H0.add p o)).ws fr (σ ++ tp) H F io) (hp : E.H0 p = none) (np : ∀ n : Nat, n < E.n0 → io[n]? ≠ some p) (fo : ¬ Fz o) (mu : ∀ q, Own E.G (E.H0.add p o) H F io q p → False)
    (hc : CellOk E.G F (io ++ [p]) (upd H p u) p cl) : E.ws { fr with sto := fr.sto ++ [cl] } (σ ++ tp) (upd H p u) F (io ++ [p]) := @Rz _ _ (fun qz => @Hz.get _ _ (qz.bar : Hz _ (by
  clear qz
  have hH : H p = some o := w.wr.keep p o upd_same np
  have hF : F p = none := by
    cases q : F p with
    | none => rfl
    | some x =>
      have := w.wr.sub p x q
      rw [hH] at this; cases this
      exact absurd (w.wr.frz p _ q) fo
  have nio : ∀ n : Nat, io[n]? ≠ some p := fun n e => by
    by_cases h : n < E.n0
    · exact np n h e
    · have z : upd E.H0.hp p o p = none := w.wr.new n p (Nat.le_of_not_lt h) e
      rw [upd_same] at z; cases z
  have hne : ∀ a x, H a = some x → a ≠ p → (upd H p u) a = some x := fun a x e n => by rw [upd_ne n]; exact e
  refine ⟨⟨fun a x e => ?_, by simp [w.wr.len], fun n c e => ?_, fun i j a e1 e2 => ?_, fun a x e k => ?_, fun n a hn e => ?_, w.wr.frz, by have := w.wr.nle; show E.n0 ≤ _; rw [List.length_append]; exact Nat.le_trans this (Nat.le_add_right _ _), fun a x y e1 e2 => ?_⟩, w.sl.len, fun i sl e => ?_, w.sl.dis⟩
  · have n : a ≠ p := fun z => by rw [z, hF] at e; cases e
    exact hne a x (w.wr.sub a x e) n
  · by_cases q : n < fr.sto.length
    · rw [List.getElem?_append_left q] at e
      obtain ⟨a, e1, e2, e3⟩ := w.wr.cel n c e
      have na : a ≠ p := fun z => nio n (z ▸ e1)
      refine ⟨a, pre_app _ _ e1, e2, ?_⟩
      cases c with
      | dict kvs => obtain ⟨us, h1, h2⟩ := e3; exact ⟨us, hne _ _ h1 na, h2.mono (Same.refl _) pre_app⟩
      | inst c fs => obtain ⟨dx, us, h1, h2⟩ := e3; exact ⟨dx, us, hne _ _ h1 na, h2.mono (Same.refl _) pre_app⟩
    · have hl := (List.getElem?_eq_some_iff.mp e).1
      rw [List.length_append] at hl
      have hn : n = fr.sto.length := by simp at hl; omega
      subst hn
      simp at e; subst e
      refine ⟨p, ?_, hF, hc⟩
      rw [← w.wr.len]; simp
  · rcases app_at e1 with ⟨g1, g2⟩ | g
    · rcases app_at e2 with ⟨k1, _⟩ | k
      · rw [g1, k1]
      · exact absurd (g2 ▸ k) (nio j)
    · rcases app_at e2 with ⟨k1, k2⟩ | k
      · exact absurd (k2 ▸ g) (nio i)
      · exact w.wr.inj i j a g k
  · have n : a ≠ p := fun z => by rw [z, hp] at e; cases e
    refine hne a x (w.wr.keep a x (by show upd E.H0.hp p o a = some x; rw [upd_ne n]; exact e) fun n hn z => k n hn (pre_app _ _ z)) n
  · rcases app_at e with ⟨rfl, rfl⟩ | e
    · exact hp
    · have z : upd E.H0.hp p o a = none := w.wr.new n a hn e
      have na : a ≠ p := fun z2 => nio n (z2 ▸ e)
      rw [upd_ne na] at z; exact z
  · have n : a ≠ p := fun z => by rw [z, hp] at e1; cases e1
    exact w.wr.old a x y (by show upd E.H0.hp p o a = some x; rw [upd_ne n]; exact e1) e2
  · have q := w.sl.at_ i sl e
    cases sl with
    | un => trivial
    | val d => obtain ⟨v, e1, r⟩ := q; exact ⟨v, e1, r.mono (Same.refl _) pre_app⟩
    | own xs =>
      obtain ⟨q, e1, own⟩ := q
      obtain ⟨vs, h1, h2, h3, h4, h5⟩ := own
      have z : upd E.H0.hp p o q = none := h4
      have nq : q ≠ p := fun z2 => by rw [z2, upd_same] at z; cases z
      rw [upd_ne nq] at z
      refine ⟨q, e1, vs, hne _ _ h1 nq, h2, fun n e => ?_, z, h5.mono (Same.refl _) pre_app⟩
      rcases app_at e with ⟨_, e⟩ | e
      · exact nq e
      · exact h3 n e))) Xz.mk
/-- a new thing at p, not a cell as yet -/
theorem Ws.pend (w : E.ws fr (σ ++ tp) H F io) {p : Addr} (hp : H p = none) (o : HO) : (E.at (E.H0.add p o)).ws fr (σ ++ tp) (upd H p o) F io ∧ Ext E.H0 (E.H0.add p o) := @Rz _ _ (fun qz => @Hz.get _ _ (qz.bar : Hz _ (by
  clear qz
  obtain ⟨f1, f2, f3⟩ := w.wr.fresh hp
  have w' := w.grow hp o (Same.refl F) (fun _ _ => rfl) (fun a u e => by rw [upd_ne (ne_of_none (w.wr.sub a u e) hp)]; exact w.wr.sub a u e) (fun u e => by rw [f1] at e; cases e)
  refine ⟨⟨⟨w'.wr.sub, w'.wr.len, w'.wr.cel, w'.wr.inj, fun a u e k => ?_, fun n a hn e => ?_, w'.wr.frz, w'.wr.nle, fun a u x e1 e2 => ?_⟩, w'.sl.len, fun i sl e => ?_, w'.sl.dis⟩, fun a u e => by show upd E.H0.hp p o a = some u; rw [upd_ne (ne_of_none e f3)]; exact e, rfl⟩
  · have e : upd E.H0.hp p o a = some u := e
    by_cases z : a = p
    · subst z; rw [upd_same] at e ⊢; exact e
    · rw [upd_ne z] at e; exact w'.wr.keep a u e k
  · have na : a ≠ p := fun z => f2 n (z ▸ e)
    show upd E.H0.hp p o a = none
    rw [upd_ne na]; exact w'.wr.new n a hn e
  · have na : a ≠ p := fun z => by rw [z, f1] at e2; cases e2
    have e1 : upd E.H0.hp p o a = some u := e1
    rw [upd_ne na] at e1
    exact w'.wr.old a u x e1 e2
  · have q := w'.sl.at_ i sl e
    cases sl with
    | un => trivial
    | val d => exact q
    | own xs =>
      obtain ⟨q, e1, vs, h1, h2, h3, h4, h5⟩ := q
      refine ⟨q, e1, vs, h1, h2, h3, ?_, h5⟩
      obtain ⟨q', e1', own⟩ := w.sl.at_ i _ e
      rw [e1] at e1'; cases e1'
      show upd E.H0.hp p o q = none
      rw [upd_ne (own.ne hp)]; exact h4))) Xz.mk
theorem SE_dict {keys : List (Option Expr)} {values : List Expr} {kts : List (Key × Tm)} (h : SK E keys values kts) (h0 : keys ≠ []) (h15 : keys.length ≤ 15) : SE E (.Dict keys values pos) (.dict kts) := @Rz _ _ (fun qz => @Hz.get _ _ (qz.bar : Hz _ (by
  clear qz
  intro fr σ tp H F io Q hl w hh
  refine wE_of (pe_disp h.pps h.len.2.2 h.len.1 h0 h15) ?_
  unfold ev at hh
  intro p hp
  obtain ⟨w1, s1⟩ := w.pend hp (.dK [])
  obtain ⟨f1, f2, f3⟩ := w.wr.fresh hp
  refine h.read (E.H0.add p (.dK [])) s1 hl w1 (Rs.all_bind hh) fun kds fr1 kvs H1 F1 io1 s p1 w2 rk z => ?_
  have np : ∀ n : Nat, n < E.n0 → io1[n]? ≠ some p := fun n hn e => by
    have hlt : n < io.length := Nat.lt_of_lt_of_le hn w.wr.nle
    have e2 := p1 n _ (List.getElem?_eq_getElem hlt)
    rw [e] at e2
    exact f2 n ((List.getElem?_eq_getElem hlt).trans e2.symm)
  split at z
  case isFalse => exact z.elim
  rename_i hz
  refine ⟨w2.wr.keep p _ upd_same np, kvs, rfl, ?_, ?_⟩
  · rw [← rk.length]; exact hz
  · have hc : CellOk E.G F1 (io1 ++ [p]) (upd H1 p (.dK (mergeK [] kvs))) p (.dict (kmerge [] kds)) := ⟨_, upd_same, (rk.merge .nil).mono (Same.refl _) pre_app⟩
    have w3 := Ws.addCell w2 f3 np (fun z => z) (fun q own => by
      obtain ⟨vs, _, _, _, h4, _⟩ := own
      have h4 : upd E.H0.hp p (.dK []) p = none := h4
      rw [upd_same] at h4; cases h4) hc
    refine z (.ref p) _ F1 (io1 ++ [p]) s (Pre.trans p1 pre_app) w3 (.cell ?_)
    rw [← w2.wr.len]; simp))) Xz.mk
end
end Ag
namespace Ag
open PySem PySem.Spec L2
/-! ### a, b = a list -/
section
variable {prog : Program} {w : World} {A : Around} {E : Value → Shared → Prop}
theorem draw_list {it t : Addr} {items : Array Value} (hne : t ≠ it) : ∀ (n i : Nat) (s : Shared) (Q : List Value → Shared → Prop), s.heap.IsListIter it t i → s.heap.IsList t items → i + n ≤ items.size →
    (∀ h', h'.IsListIter it t (i + n) → Heap.SameBut it s.heap h' → Q ((items.toList.drop i).take n) { s with heap := h' }) → wpAny (model prog w) A (draw (.ref it) n) Q E s
  | 0, i, s, Q, hit, _, _, hQ => by
    show wpAny _ _ (pure []) Q E s
    exact wpAny_pure (by simpa using hQ s.heap hit (Heap.SameBut.refl ..))
  | n + 1, i, s, Q, hit, ht, hle, hQ => by
    have hlt : i < items.size := by omega
    show wpAny _ _ (pyNext (.ref it) >>= _) Q E s
    refine wpAny_bind (wpAny_pyNext_list_item hit ht (x := items[i]) (by simp [hlt]) fun h₁ hit₁ hs₁ => ?_)
    refine wpAny_bind (wpAny_holding (draw_list hne n (i + 1) _ _ hit₁ (ht.extBut hs₁.extBut hne) (by omega) fun h₂ hit₂ hs₂ => wpAny_pure ?_))
    have hd : items.toList.drop i = items[i] :: items.toList.drop (i + 1) := by simp [List.drop_eq_getElem_cons, hlt]
    have := hQ h₂ (by rw [show i + (n + 1) = i + 1 + n by omega]; exact hit₂) (hs₁.trans hs₂)
    rw [hd, List.take_succ_cons] at this
    exact this
theorem unpackItems_list {s : Shared} {t : Addr} {items : Array Value} {Q : List Value → Shared → Prop} (hh : A.handled = none) (ht : s.heap.IsList t items)
    (hQ : ∀ h', Heap.ExtBut s.heap.objs.size s.heap h' → Q items.toList { s with heap := h' }) : wpAny (model prog w) A (unpackItems (.ref t) items.size none) Q E s := @Rz _ _ (fun qz => @Hz.get _ _ (qz.bar : Hz _ (by
  clear qz
  have hlt : t ≠ s.heap.objs.size := by obtain ⟨o, ho, _⟩ := ht; exact Nat.ne_of_lt (Heap.lt_size ho)
  unfold unpackItems
  refine wpAny_bind ?_
  · unfold notIterableAtAll
    refine wpAny_bind (wpAny_specialOf ht.typeIs slot_list_iter.lookup ?_)
    refine wpAny_pure ?_
    simp only [Bool.false_eq_true, if_false]
    refine wpAny_bind (wpAny_holding (wpAny_pyIter_list ht ?_))
    refine wpAny_bind (wpAny_holding (draw_list hlt items.size 0 _ _ ⟨_, Heap.get?_push_size _ rfl, rfl, rfl⟩ (ht.at fun o e => Heap.get?_push_of_some _ e) (by omega) fun h₁ hit₁ hs₁ => ?_))
    have hall : List.take items.size (List.drop 0 items.toList) = items.toList := by
      rw [List.drop_zero]; exact List.take_of_length_le (by simp)
    rw [hall]
    rw [if_neg (by simp)]
    have ht₁ : h₁.IsList t items := Heap.IsList.extBut (ht.at fun o e => Heap.get?_push_of_some _ e) hs₁.extBut hlt
    refine wpAny_bind (wpAny_holding (wpAny_pyNext_list_end hh hit₁ ht₁ (by simp) fun h₂ he₂ => ?_))
    simp only [Option.isSome_none, Bool.false_eq_true, if_false]
    refine wpAny_pure (hQ h₂ fun b o hb e => he₂ b o hb (hs₁.extBut b o hb (Heap.get?_push_of_some _ e)))))) Xz.mk
theorem assign_Tuple_list {s : Shared} {env : Env} {elts : List Expr} {x1} {pos : Pos} {t : Addr} {items : Array Value} {Q : Unit → Shared → Prop} (hh : A.handled = none) (ht : s.heap.IsList t items)
    (hn : (assignEach elts env).length = items.size) (hstar : (assignEach elts env).findIdx? (·.1) = none)
    (h : ∀ h', Heap.ExtBut s.heap.objs.size s.heap h' → wpAny (model prog w) A (assignInOrder ((assignEach elts env).map (·.2)) items.toList) Q E { s with heap := h' }) :
    wpAny (model prog w) A (assign (.Tuple elts x1 pos) env (.ref t)) Q E s := by
  rw [PyProof.Rows.assign_Tuple]
  refine wpAny_bind (wpAny_standAt ?_)
  unfold unpack
  rw [hn, hstar]
  exact wpAny_bind (wpAny_holding (unpackItems_list hh ht h))
end
section
variable {X : Cx} {pos : Pos}
def gLst (K : PySem.W.Frag) (n : Nat) (t : TGs) : TG := fun v σ H Q => ∃ a xs, v = .ref a ∧ SqL K H a xs ∧ xs.length = n ∧ t xs σ H Q
theorem pg_lst {es : List Expr} {k : Nat} {t : TGs} {n : Nat} (hc : X.calm = true) (h : PGs X es t)
    (hn : (assignEach es X.env).length = n := by rfl) (hst : (assignEach es X.env).findIdx? (·.1) = none := by rfl) : PG X (.Tuple es k pos) (gLst X.K n t) := @Rz _ _ (fun qz => @Hz.get _ _ (qz.bar : Hz _ (by
  clear qz
  refine ⟨fun pins s σ H v u Q I r hw => ?_⟩
  obtain ⟨a, xs, e1, hq, hl, hw⟩ := hw
  subst e1
  cases r
  obtain ⟨its, rv, ht, hz⟩ := I.list hq
  refine assign_Tuple_list (I.ok.hd hc) ht.isList (by simp [hn, ← hl, rv.length]) hst fun h' hx => ?_
  have I1 : Inv X pins σ H { s with heap := h' } := I.kept (t' := s.toks) fun b o e => hx b o (Nat.ne_of_lt (Heap.lt_size e)) e
  exact h.run pins _ σ H xs _ Q I1 (by simpa using rv) hw))) Xz.mk
end
end Ag
namespace Ag
open PySem PySem.Spec L2
structure SxP where
  next : Fr → Prop
  ret : Out → Fr → Prop
  brk : Fr → Prop
  cont : Fr → Prop
  exc : Nat → List D → Fr → Prop
def Sx.all (r : Sx) (P : SxP) : Prop :=
  match r with
  | .next fr => P.next fr
  | .ret o fr => P.ret o fr
  | .brk fr => P.brk fr
  | .cont fr => P.cont fr
  | .exc c fs fr => P.exc c fs fr
  | .bad => False
theorem Sx.all_imp {r : Sx} {P P' : SxP} (h : r.all P) (h1 : ∀ fr, P.next fr → P'.next fr) (h2 : ∀ o fr, P.ret o fr → P'.ret o fr) (h3 : ∀ fr, P.brk fr → P'.brk fr) (h4 : ∀ fr, P.cont fr → P'.cont fr)
    (h5 : ∀ c fs fr, P.exc c fs fr → P'.exc c fs fr) : r.all P' := @Rz _ _ (fun qz => @Hz.get _ _ (qz.bar : Hz _ (by
  clear qz
  cases r with
  | next fr => exact h1 _ h
  | ret o fr => exact h2 _ _ h
  | brk fr => exact h3 _ h
  | cont fr => exact h4 _ h
  | exc c fs fr => exact h5 _ _ _ h
  | bad => exact h))) Xz.mk
theorem Sx.all_seq {r : Sx} {k : Fr → Sx} {P : SxP} (h : (r.seq k).all P) : r.all { P with next := fun fr => (k fr).all P } := by
  cases r <;> exact h
theorem Rs.all_toS {α : Type} {m : Rs α} {k : α → Fr → Sx} {P : SxP} (h : (m.toS k).all P) : m.all (fun a fr => (k a fr).all P) P.exc := by
  cases m <;> exact h
theorem Rs.all_frS {m : Rs RV} {k : D → Fr → Sx} {P : SxP} (h : (m.frS k).all P) : m.all (fun r fr => ∃ d fr', toD fr r = some (d, fr') ∧ (k d fr').all P) P.exc := @Rz _ _ (fun qz => @Hz.get _ _ (qz.bar : Hz _ (by
  clear qz
  refine Rs.all_imp (Rs.all_toS h) (fun r fr q => ?_) fun _ _ _ q => q
  cases e : toD fr r with
  | none => rw [e] at q; exact q.elim
  | some p => rw [e] at q; exact ⟨p.1, p.2, rfl, q⟩))) Xz.mk
def wS (X : Cx) (st : Stmt) : TS := fun D σ H => ∀ (pins : List (Addr × Obj)) (s : Shared), Inv X pins σ H s → wpAny (model X.prog X.w) X.A (exec st X.env) (SP X pins D) X.xe s
def wSs (X : Cx) (sts : List Stmt) : TS := fun D σ H => ∀ (pins : List (Addr × Obj)) (s : Shared), Inv X pins σ H s → wpAny (model X.prog X.w) X.A (execs sts X.env) (SP X pins D) X.xe s
theorem ps_w {X : Cx} {st : Stmt} : PS X st (wS X st) := ⟨fun pins s σ H D I h => h pins s I⟩
theorem pss_w {X : Cx} {sts : List Stmt} : PSs X sts (wSs X sts) := ⟨fun pins s σ H D I h => h pins s I⟩
theorem wS_of {X : Cx} {st : Stmt} {t : TS} {D : Ends} {σ : St} {H : Hp} (h : PS X st t) (q : t D σ H) : wS X st D σ H := fun pins s I => h.run pins s σ H D I q
theorem wSs_of {X : Cx} {st : List Stmt} {t : TS} {D : Ends} {σ : St} {H : Hp} (h : PSs X st t) (q : t D σ H) : wSs X st D σ H := fun pins s I => h.run pins s σ H D I q
section
variable (E : En)
/-- what is wanted behind a statement: tp the slots behind the def's -/
def okS (tp : St) (F : Hp) (io : List Addr) (D : Ends) : SxP where
  next := fun fr => ∀ σ H' F' io', σ.length = E.X.N.length → Same F F' → Pre io io' → E.ws fr (σ ++ tp) H' F' io' → D.nx σ H'
  brk := fun fr => ∀ σ H' F' io', σ.length = E.X.N.length → Same F F' → Pre io io' → E.ws fr (σ ++ tp) H' F' io' → D.bk σ H'
  cont := fun fr => ∀ σ H' F' io', σ.length = E.X.N.length → Same F F' → Pre io io' → E.ws fr (σ ++ tp) H' F' io' → D.ct σ H'
  ret := fun o fr => ∀ v σ H' F' io', σ.length = E.X.N.length → Same F F' → Pre io io' → E.ws fr (σ ++ tp) H' F' io' → RvOk E.G E.H0 H' F' io' fr.env (σ ++ tp) (.out o) v → D.rt v H'
  exc := fun c fs fr => ∀ d σ H' F' io', σ.length = E.X.N.length → Same F F' → Pre io io' → E.ws fr (σ ++ tp) H' F' io' → ExOk E.G F' io' H' c fs d → E.W (.ref (E.G.cl c)) d σ H'
def SS (st : Stmt) (t : Stm) : Prop := ∀ (fr : Fr) (σ tp : St) (H F : Hp) (io : List Addr) (D : Ends), σ.length = E.X.N.length → E.ws fr (σ ++ tp) H F io → (ex E.T t fr).all (okS E tp F io D) → wS E.X st D σ H
def SSs (sts : List Stmt) (ts : List Stm) : Prop := ∀ (fr : Fr) (σ tp : St) (H F : Hp) (io : List Addr) (D : Ends), σ.length = E.X.N.length → E.ws fr (σ ++ tp) H F io → (exs E.T ts fr).all (okS E tp F io D) → wSs E.X sts D σ H
end
section
variable {E : En} {e a b c : Expr} {ta tb tc : Tm} {fr : Fr} {σ tp : St} {H F : Hp} {io : List Addr} {Q : VK} {pos : Pos} {es : List Expr} {ts : List Tm} {D : Ends}
theorem okS.mono {F' : Hp} {io' : List Addr} (s : Same F F') (p : Pre io io') {r : Sx} (h : r.all (okS E tp F io D)) : r.all (okS E tp F' io' D) :=
  Sx.all_imp h (fun _ q σ H' F2 io2 l s2 p2 w => q σ H' F2 io2 l (s.trans s2) (p.trans p2) w) (fun _ _ q v σ H' F2 io2 l s2 p2 w r => q v σ H' F2 io2 l (s.trans s2) (p.trans p2) w r)
    (fun _ q σ H' F2 io2 l s2 p2 w => q σ H' F2 io2 l (s.trans s2) (p.trans p2) w) (fun _ q σ H' F2 io2 l s2 p2 w => q σ H' F2 io2 l (s.trans s2) (p.trans p2) w)
    fun _ _ _ q d σ H' F2 io2 l s2 p2 w x => q d σ H' F2 io2 l (s.trans s2) (p.trans p2) w x
theorem okS.exE (hl : σ.length = E.X.N.length) {c : Nat} {fs : List Ag.D} {fr : Fr} (h : (okS E tp F io D).exc c fs fr) : exE E σ tp F io c fs fr := fun d H' F' io' s p w x => h d σ H' F' io' hl s p w x
theorem SE.partS (ha : SE E a ta) (hl : σ.length = E.X.N.length) (w : E.ws fr (σ ++ tp) H F io) {k : Ag.D → Fr → Sx} (h : ((ev E.T ta fr).frS k).all (okS E tp F io D))
    (q : ∀ d fr1 v H1 F1 io1, Same F F1 → Pre io io1 → E.ws fr1 (σ ++ tp) H1 F1 io1 → Rep E.G F1 io1 d v → (k d fr1).all (okS E tp F1 io1 D) → Q v H1) : wE E.X a σ H Q := @Rz _ _ (fun qz => @Hz.get _ _ (qz.bar : Hz _ (by
  clear qz
  refine ha fr σ tp H F io Q hl w (Rs.all_imp (Rs.all_frS h) (fun r fr1 z => ?_) fun _ _ _ x => okS.exE hl x)
  obtain ⟨d, fr', e1, z⟩ := z
  intro v H' F' io' s p w' rv
  obtain ⟨F2, s2, rp, w2⟩ := w'.toD rv e1
  exact q d fr' v H' F2 io' (s.trans s2) p w2 rp (okS.mono (s.trans s2) p z)))) Xz.mk
theorem SE.valS (ha : SE E a ta) (hl : σ.length = E.X.N.length) (w : E.ws fr (σ ++ tp) H F io) {k : RV → Fr → Sx} (h : ((ev E.T ta fr).toS k).all (okS E tp F io D))
    (q : ∀ r fr1 v H1 F1 io1, Same F F1 → Pre io io1 → E.ws fr1 (σ ++ tp) H1 F1 io1 → RvOk E.G E.H0 H1 F1 io1 fr1.env (σ ++ tp) r v → (k r fr1).all (okS E tp F1 io1 D) → Q v H1) : wE E.X a σ H Q := @Rz _ _ (fun qz => @Hz.get _ _ (qz.bar : Hz _ (by
  clear qz
  refine ha fr σ tp H F io Q hl w (Rs.all_imp (Rs.all_toS h) (fun r fr1 z => ?_) fun _ _ _ x => okS.exE hl x)
  intro v H' F' io' s p w' rv
  exact q r fr1 v H' F' io' s p w' rv (okS.mono s p z)))) Xz.mk
theorem ST.testS (hc : ST E c tc) (hl : σ.length = E.X.N.length) (w : E.ws fr (σ ++ tp) H F io) {k1 k2 : Fr → Sx}
    (h : ((ev E.T tc fr).frS fun d fr1 => match d with | .bl k => if k then k1 fr1 else k2 fr1 | _ => .bad).all (okS E tp F io D)) {R : Bool → Hp → Prop}
    (q : ∀ t fr1 H1 F1 io1, Same F F1 → Pre io io1 → E.ws fr1 (σ ++ tp) H1 F1 io1 → ((if t then k1 fr1 else k2 fr1) : Sx).all (okS E tp F1 io1 D) → R t H1) : wT E.X c σ H R := @Rz _ _ (fun qz => @Hz.get _ _ (qz.bar : Hz _ (by
  clear qz
  refine hc fr σ tp H F io R hl w (Rs.all_imp (Rs.all_frS h) (fun r fr1 z => ?_) fun _ _ _ x => okS.exE hl x)
  obtain ⟨d, fr', e, z⟩ := z
  cases d with
  | bl b =>
    obtain ⟨rfl, e2⟩ := toD_bl e
    exact ⟨b, e2, fun H1 F1 io1 s p w1 => q b fr' H1 F1 io1 s p w1 (okS.mono s p z)⟩
  | _ => exact z.elim))) Xz.mk
/-! ### blocks -/
theorem SSs_nil : SSs E [] [] := fun fr σ tp H F io D hl w h => wSs_of pss_nil (by unfold exs at h; exact h σ H F io hl (Same.refl _) (Pre.refl _) w)
theorem SSs_cons {st : Stmt} {sts : List Stmt} {t : Stm} {us : List Stm} (h1 : SS E st t) (h2 : SSs E sts us) : SSs E (st :: sts) (t :: us) := @Rz _ _ (fun qz => @Hz.get _ _ (qz.bar : Hz _ (by
  clear qz
  intro fr σ tp H F io D hl w h
  refine wSs_of (pss_cons ps_w pss_w) ?_
  unfold exs at h
  refine h1 fr σ tp H F io _ hl w (Sx.all_imp (Sx.all_seq h) (fun fr1 z => ?_) (fun _ _ z => z) (fun _ z => z) (fun _ z => z) fun _ _ _ z => z)
  intro σ1 H1 F1 io1 l1 s p w1
  exact h2 fr1 σ1 tp H1 F1 io1 D l1 w1 (okS.mono s p z)))) Xz.mk
/-! ### small statements -/
theorem SS_expr (ha : SE E a ta) (hs : swapsWith a none pos.line E.X.env = pure false) : SS E (.Expr a pos) (.expr ta) := @Rz _ _ (fun qz => @Hz.get _ _ (qz.bar : Hz _ (by
  clear qz
  intro fr σ tp H F io D hl w h
  refine wS_of (ps_expr pe_w hs) ?_
  unfold ex at h
  exact ha.valS hl w h fun r fr1 v H1 F1 io1 s p w1 rv z => z σ H1 F1 io1 hl (Same.refl _) (Pre.refl _) w1))) Xz.mk
theorem SS_pass : SS E (.Pass pos) .skip := fun fr σ tp H F io D hl w h => wS_of ps_pass (by unfold ex at h; exact h σ H F io hl (Same.refl _) (Pre.refl _) w)
theorem SS_brk : SS E (.Break pos) .brk := fun fr σ tp H F io D hl w h => wS_of ps_break (by unfold ex at h; exact h σ H F io hl (Same.refl _) (Pre.refl _) w)
theorem SS_cont : SS E (.Continue pos) .cont := fun fr σ tp H F io D hl w h => wS_of ps_continue (by unfold ex at h; exact h σ H F io hl (Same.refl _) (Pre.refl _) w)
theorem SS_retN : SS E (.Return none pos) .retN := fun fr σ tp H F io D hl w h => wS_of ps_retN (by unfold ex at h; exact h .non σ H F io hl (Same.refl _) (Pre.refl _) w .non)
/-- a slot's list is given away -/
theorem Ws.giveSlot {G : Glb} {H0 : Ent} {n0 : Nat} {ρ : St} (w : Ws G H0 n0 fr ρ H F io) {i : Nat} {xs : List Ag.D} (e : fr.env[i]? = some (.own xs)) :
    Ws G H0 n0 (setE fr i .un) ρ H F io ∧ ∀ v, ρ[i]? = some (some v) → RvOk G H0 H F io (setE fr i .un).env ρ (.out (.fresh xs)) v := @Rz _ _ (fun qz => @Hz.get _ _ (qz.bar : Hz _ (by
  clear qz
  refine ⟨⟨w.wr, by show (fr.env.set i .un).length = _; rw [List.length_set]; exact w.sl.len, fun j s q => ?_, fun j k ys zs q g1 g2 => ?_⟩, fun v hv => ?_⟩
  · rcases set_at q with ⟨rfl, rfl⟩ | ⟨ne, q⟩
    · trivial
    · exact w.sl.at_ j _ q
  · obtain ⟨_, g1⟩ := set_own (fun _ z => by cases z) g1
    obtain ⟨_, g2⟩ := set_own (fun _ z => by cases z) g2
    exact w.sl.dis j k ys zs q g1 g2
  · obtain ⟨p, e1, own⟩ := w.sl.at_ i _ e
    rw [hv] at e1
    have ev : v = .ref p := by cases e1; rfl
    refine ⟨p, ev, own, fun j ys q z => ?_⟩
    obtain ⟨ne, q⟩ := set_own (fun _ z => by cases z) q
    exact ne (w.sl.dis j i ys xs p q e z (by rw [hv, ev]))))) Xz.mk
theorem SS_ret (ha : SE E a ta) : SS E (.Return (some a) pos) (.ret ta) := @Rz _ _ (fun qz => @Hz.get _ _ (qz.bar : Hz _ (by
  clear qz
  intro fr σ tp H F io D hl w h
  refine wS_of (ps_ret pe_w) ?_
  unfold ex at h
  refine ha.valS hl w h fun r fr1 v H1 F1 io1 s p w1 rv z => ?_
  cases r with
  | out o => exact z v σ H1 F1 io1 hl (Same.refl _) (Pre.refl _) w1 rv
  | var i =>
    have z : ((match fr1.env[i]? with | some (.own xs) => Sx.ret (.fresh xs) (setE fr1 i .un) | _ => .bad) : Sx).all (okS E tp F1 io1 D) := z
    cases q : fr1.env[i]? with
    | none => simp [q] at z; exact z.elim
    | some sl =>
      cases sl with
      | un => simp [q] at z; exact z.elim
      | val d => simp [q] at z; exact z.elim
      | own xs =>
        simp only [q] at z
        obtain ⟨w2, rv2⟩ := w1.giveSlot q
        exact z v σ H1 F1 io1 hl (Same.refl _) (Pre.refl _) w2 (rv2 v rv)))) Xz.mk
theorem SS_ite {A B : List Stmt} {tA tB : List Stm} (hc : ST E c tc) (hA : SSs E A tA) (hB : SSs E B tB) : SS E (.If c A B pos) (.ite tc tA tB) := @Rz _ _ (fun qz => @Hz.get _ _ (qz.bar : Hz _ (by
  clear qz
  intro fr σ tp H F io D hl w h
  refine wS_of (ps_if pt_w pss_w pss_w) ?_
  unfold ex at h
  refine hc.testS hl w h fun t fr1 H1 F1 io1 s p w1 z => ?_
  cases t with
  | true => exact hA fr1 σ tp H1 F1 io1 D hl w1 z
  | false => exact hB fr1 σ tp H1 F1 io1 D hl w1 z))) Xz.mk
/-! ### stores -/
theorem setN_len {σ : St} {i : Nat} {v : Option V} (hl : σ.length = E.X.N.length) : (σ.set i v).length = E.X.N.length := by rw [List.length_set]; exact hl
theorem set_app {σ tp : St} {i : Nat} {v : Option V} (h : i < σ.length) : σ.set i v ++ tp = (σ ++ tp).set i v := by rw [List.set_append_left _ _ h]
theorem Ws.put {G : Glb} {H0 : Ent} {n0 : Nat} {ρ : St} (w : Ws G H0 n0 fr ρ H F io) {i : Nat} (hi : i < ρ.length) {d : Ag.D} {v : V} (r : Rep G F io d v) : Ws G H0 n0 (setE fr i (.val d)) (ρ.set i (some v)) H F io := @Rz _ _ (fun qz => @Hz.get _ _ (qz.bar : Hz _ (by
  clear qz
  refine ⟨w.wr, by show (fr.env.set i _).length = _; rw [List.length_set, List.length_set]; exact w.sl.len, fun j s q => ?_, fun j k ys zs q g1 g2 e1 e2 => ?_⟩
  · rcases set_at q with ⟨rfl, rfl⟩ | ⟨ne, q⟩
    · exact ⟨v, List.getElem?_set_self hi, r⟩
    · rw [List.getElem?_set_ne (Ne.symm ne)]
      exact w.sl.at_ j _ q
  · obtain ⟨n1, g1⟩ := set_own (fun _ z => by cases z) g1
    obtain ⟨n2, g2⟩ := set_own (fun _ z => by cases z) g2
    rw [List.getElem?_set_ne (Ne.symm n1)] at e1
    rw [List.getElem?_set_ne (Ne.symm n2)] at e2
    exact w.sl.dis j k ys zs q g1 g2 e1 e2))) Xz.mk
theorem Ws.putOwn {G : Glb} {H0 : Ent} {n0 : Nat} {ρ : St} (w : Ws G H0 n0 fr ρ H F io) {i : Nat} (hi : i < ρ.length) {xs : List Ag.D} {v : V} (r : RvOk G H0 H F io fr.env ρ (.out (.fresh xs)) v) : Ws G H0 n0 (setE fr i (.own xs)) (ρ.set i (some v)) H F io := @Rz _ _ (fun qz => @Hz.get _ _ (qz.bar : Hz _ (by
  clear qz
  obtain ⟨p, rfl, own, hd⟩ := r
  refine ⟨w.wr, by show (fr.env.set i _).length = _; rw [List.length_set, List.length_set]; exact w.sl.len, fun j s q => ?_, fun j k ys zs q g1 g2 e1 e2 => ?_⟩
  · rcases set_at q with ⟨rfl, rfl⟩ | ⟨ne, q⟩
    · exact ⟨p, List.getElem?_set_self hi, own⟩
    · rw [List.getElem?_set_ne (Ne.symm ne)]
      exact w.sl.at_ j _ q
  · rcases set_at g1 with ⟨x1, _⟩ | ⟨n1, y1⟩
    · rcases set_at g2 with ⟨x2, _⟩ | ⟨n2, y2⟩
      · rw [x1, x2]
      · rw [x1, List.getElem?_set_self hi] at e1
        rw [List.getElem?_set_ne (Ne.symm n2)] at e2
        cases e1
        exact absurd e2 (hd k zs y2)
    · rcases set_at g2 with ⟨x2, _⟩ | ⟨n2, y2⟩
      · rw [x2, List.getElem?_set_self hi] at e2
        rw [List.getElem?_set_ne (Ne.symm n1)] at e1
        cases e2
        exact absurd e1 (hd j ys y1)
      · rw [List.getElem?_set_ne (Ne.symm n1)] at e1
        rw [List.getElem?_set_ne (Ne.symm n2)] at e2
        exact w.sl.dis j k ys zs q y1 y2 e1 e2))) Xz.mk
/-- a target: bound to data -/
def wG (X : Cx) (tg : Expr) : TG := fun v σ H Q => ∀ (pins : List (Addr × Obj)) (s : Shared) (u : Value), Inv X pins σ H s → RelV v u → wpAny (model X.prog X.w) X.A (assign tg X.env u) (fun _ s' => ∃ σ' H', Inv X pins σ' H' s' ∧ Q σ' H') X.xe s
theorem pg_w {X : Cx} {tg : Expr} : PG X tg (wG X tg) := ⟨fun pins s σ H v u Q I r h => h pins s u I r⟩
theorem wG_of {X : Cx} {tg : Expr} {t : TG} {v : V} {σ : St} {H : Hp} {Q : St → Hp → Prop} (h : PG X tg t) (q : t v σ H Q) : wG X tg v σ H Q := fun pins s u I r => h.run pins s σ H v u Q I r q
def SG (E : En) (tg : Expr) (g : Tg) : Prop := ∀ (fr fr' : Fr) (σ tp : St) (H F : Hp) (io : List Addr) (d : Ag.D) (v : V) (Q : St → Hp → Prop), σ.length = E.X.N.length → E.ws fr (σ ++ tp) H F io → Rep E.G F io d v → bindT g d fr = some fr' →
  (∀ σ', σ'.length = E.X.N.length → E.ws fr' (σ' ++ tp) H F io → (∀ i, i ∉ tgIx g → σ'[i]? = σ[i]?) → Q σ' H) → wG E.X tg v σ H Q
def SGs (E : En) (tgs : List Expr) (gs : List Tg) : Prop := ∀ (fr fr' : Fr) (σ tp : St) (H F : Hp) (io : List Addr) (ds : List Ag.D) (vs : List V) (Q : St → Hp → Prop), σ.length = E.X.N.length → E.ws fr (σ ++ tp) H F io → Reps E.G F io ds vs → bindTs gs ds fr = some fr' →
  (∀ σ', σ'.length = E.X.N.length → E.ws fr' (σ' ++ tp) H F io → (∀ i, i ∉ tgIxs gs → σ'[i]? = σ[i]?) → Q σ' H) → ∀ (pins : List (Addr × Obj)) (s : Shared) (us : List Value), Inv E.X pins σ H s → Vals vs us →
    wpAny (model E.X.prog E.X.w) E.X.A (assignInOrder ((assignEach tgs E.X.env).map (·.2)) us) (fun _ s' => ∃ σ' H', Inv E.X pins σ' H' s' ∧ Q σ' H') E.X.xe s
theorem SG_slot (ok : E.Ok) {i : Nat} {x : Str} (hN : E.X.N[i]? = some x) (hx : Loc E.X.env.scope x) (hf : E.X.fn x = true ∨ E.X.env.scope.names.lookup x = some .local) : SG E (.Name x pos) (.slot i) := @Rz _ _ (fun qz => @Hz.get _ _ (qz.bar : Hz _ (by
  clear qz
  intro fr fr' σ tp H F io d v Q hl w r e q
  refine wG_of (pg_name ok.nd hN hx hf) ?_
  have hi : i < σ.length := by rw [hl]; exact (List.getElem?_eq_some_iff.mp hN).1
  cases e
  refine q _ (setN_len hl) ?_ fun j hj => ?_
  · rw [set_app hi]
    exact w.put (by rw [List.length_append]; omega) r
  · have : i ≠ j := fun z => hj (by rw [z]; exact List.mem_singleton.mpr rfl)
    rw [List.getElem?_set_ne this]))) Xz.mk
theorem SGs_nil : SGs E [] [] := @Rz _ _ (fun qz => @Hz.get _ _ (qz.bar : Hz _ (by
  clear qz
  intro fr fr' σ tp H F io ds vs Q hl w r e q pins s us I rv
  cases r with
  | nil => cases rv; cases e; exact PyProof.Rows.assignInOrder_nil ⟨σ, H, I, q σ hl w fun _ _ => rfl⟩
  | cons h r => cases e))) Xz.mk
theorem assign_ne {e : Expr} (h : notStar e = true) (es : List Expr) (env : Env) : (assignEach (e :: es) env).map (·.2) = assign e env :: (assignEach es env).map (·.2) := by
  cases e <;> first | rfl | cases h
theorem assign_len : ∀ (es : List Expr) (env : Env), (assignEach es env).length = es.length
  | [], _ => rfl
  | e :: es, env => by
    have ih := assign_len es env
    cases e <;> (show (_ :: assignEach es env).length = _; rw [List.length_cons, ih]; rfl)
theorem assign_find {es : List Expr} (h : allNot es = true) (env : Env) : (assignEach es env).findIdx? (·.1) = none := @Rz _ _ (fun qz => @Hz.get _ _ (qz.bar : Hz _ (by
  clear qz
  induction es with
  | nil => rfl
  | cons e es ih =>
    unfold allNot at h ih
    rw [List.all_cons, Bool.and_eq_true] at h
    have e1 : ∃ x, assignEach (e :: es) env = (false, x) :: assignEach es env := by
      have := h.1
      cases e <;> first | exact ⟨_, rfl⟩ | cases this
    obtain ⟨x, e1⟩ := e1
    rw [e1, List.findIdx?_cons, ih h.2]
    rfl))) Xz.mk
theorem SGs_cons {tg : Expr} {tgs : List Expr} {g : Tg} {gs : List Tg} (hs : notStar tg = true) (h1 : SG E tg g) (h2 : SGs E tgs gs) : SGs E (tg :: tgs) (g :: gs) := @Rz _ _ (fun qz => @Hz.get _ _ (qz.bar : Hz _ (by
  clear qz
  intro fr fr' σ tp H F io ds vs Q hl w r e q pins s us I rv
  cases r with
  | nil => cases e
  | @cons d v ds vs hr rr =>
    cases rv with
    | cons rv rvs =>
      unfold bindTs at e
      cases e1 : bindT g d fr with
      | none => simp [e1] at e
      | some fr1 =>
        simp only [e1] at e
        rw [assign_ne hs]
        refine PyProof.Rows.assignInOrder_cons (thn (h1 fr fr1 σ tp H F io d v (fun σ1 H1 => H1 = H ∧ σ1.length = E.X.N.length ∧ E.ws fr1 (σ1 ++ tp) H F io ∧ ∀ i, i ∉ tgIx g → σ1[i]? = σ[i]?) hl w hr e1 (fun σ1 l1 w1 k1 => ⟨rfl, l1, w1, k1⟩) pins s _ I rv) fun _ s1 ⟨σ1, H1, I1, eH, l1, w1, k1⟩ => ?_)
        subst eH
        exact h2 fr1 fr' σ1 tp _ F io ds vs Q l1 w1 rr e (fun σ2 l2 w2 k2 => q σ2 l2 w2 fun i hi => by
          have hi' : i ∉ tgIx g ++ tgIxs gs := hi
          rw [List.mem_append, not_or] at hi'
          rw [k2 i hi'.2, k1 i hi'.1]) pins s1 _ I1 rvs))) Xz.mk
theorem SG_tup (ok : E.Ok) {tgs : List Expr} {k : Nat} {gs : List Tg} (ha : allNot tgs = true) (hlen : tgs.length = gs.length) (h : SGs E tgs gs) : SG E (.Tuple tgs k pos) (.tup gs) := @Rz _ _ (fun qz => @Hz.get _ _ (qz.bar : Hz _ (by
  clear qz
  intro fr fr' σ tp H F io d v Q hl w r e q
  cases d with
  | tup ds =>
    cases r with
    | @tup ds vs a ht rs =>
      have e' : bindTs gs ds fr = some fr' := e
      have ln : ∀ (gs : List Tg) (ds : List Ag.D) (fr : Fr), bindTs gs ds fr = some fr' → gs.length = ds.length := by
        intro gs
        induction gs with
        | nil => intro ds fr e; cases ds with | nil => rfl | cons => cases e
        | cons g gs ih =>
          intro ds fr e
          cases ds with
          | nil => cases e
          | cons d ds =>
            unfold bindTs at e
            cases e1 : bindT g d fr with
            | none => simp [e1] at e
            | some fr1 => simp only [e1] at e; simp [ih ds fr1 e]
      have hv : vs.length = tgs.length := by rw [← rs.length, ← ln _ _ _ e', hlen]
      refine wG_of (pg_tup (t := fun vs' σ' H' Q' => ∀ pins s us, Inv E.X pins σ' H' s → Vals vs' us → wpAny (model E.X.prog E.X.w) E.X.A (assignInOrder ((assignEach tgs E.X.env).map (·.2)) us) (fun _ s' => ∃ σ' H', Inv E.X pins σ' H' s' ∧ Q' σ' H') E.X.xe s) ok.calm ⟨fun pins s σ H vs us Q I r h => h pins s us I r⟩ (assign_len _ _) (assign_find ha _)) ?_
      have ht' := Same.sqT w.wr.sub ht
      rw [ok.k] at ht'
      exact ⟨a, vs, rfl, ht', hv, h fr fr' σ tp H F io ds vs Q hl w rs e' q⟩
  | lst ds =>
    cases r with
    | @lst ds vs a ht rs =>
      have e' : bindTs gs ds fr = some fr' := e
      have ln : ∀ (gs : List Tg) (ds : List Ag.D) (fr : Fr), bindTs gs ds fr = some fr' → gs.length = ds.length := by
        intro gs
        induction gs with
        | nil => intro ds fr e; cases ds with | nil => rfl | cons => cases e
        | cons g gs ih =>
          intro ds fr e
          cases ds with
          | nil => cases e
          | cons d ds =>
            unfold bindTs at e
            cases e1 : bindT g d fr with
            | none => simp [e1] at e
            | some fr1 => simp only [e1] at e; simp [ih ds fr1 e]
      have hv : vs.length = tgs.length := by rw [← rs.length, ← ln _ _ _ e', hlen]
      refine wG_of (pg_lst (t := fun vs' σ' H' Q' => ∀ pins s us, Inv E.X pins σ' H' s → Vals vs' us → wpAny (model E.X.prog E.X.w) E.X.A (assignInOrder ((assignEach tgs E.X.env).map (·.2)) us) (fun _ s' => ∃ σ' H', Inv E.X pins σ' H' s' ∧ Q' σ' H') E.X.xe s) ok.calm ⟨fun pins s σ H vs us Q I r h => h pins s us I r⟩ (assign_len _ _) (assign_find ha _)) ?_
      exact ⟨a, vs, rfl, SqL.of (w.wr.sub _ _ ht), hv, h fr fr' σ tp H F io ds vs Q hl w rs e' q⟩
  | _ => cases e))) Xz.mk
end
end Ag
namespace Ag
open PySem PySem.Spec L2
section
variable {E : En} {e a b c : Expr} {ta tb tc : Tm} {fr : Fr} {σ tp : St} {H F : Hp} {io : List Addr} {Q : VK} {pos : Pos} {es : List Expr} {ts : List Tm} {D : Ends}
def notComp : Expr → Bool
  | .ListComp .. => false
  | .SetComp .. => false
  | .DictComp .. => false
  | _ => true
theorem swaps_no {e : Expr} (h : notComp e = true) (t : Option Expr) (n : Nat) (env : Env) : swapsWith e t n env = pure false := by
  cases e <;> first | rfl | cases h
/-! ### assignments -/
theorem SS_asgName (ok : E.Ok) {i : Nat} {x : Str} {p : Pos} (hN : E.X.N[i]? = some x) (hx : Loc E.X.env.scope x) (hf : E.X.fn x = true ∨ E.X.env.scope.names.lookup x = some .local) (hs : swapsWith a (some (.Name x p)) pos.line E.X.env = pure false) (ha : SE E a ta) :
    SS E (.Assign [.Name x p] a pos) (.asg (.slot i) ta) := @Rz _ _ (fun qz => @Hz.get _ _ (qz.bar : Hz _ (by
  clear qz
  intro fr σ tp H F io D hl w h
  refine wS_of (ps_set ok.nd hN hx pe_w hs hf) ?_
  have hi : i < σ.length := by rw [hl]; exact (List.getElem?_eq_some_iff.mp hN).1
  have hi2 : i < (σ ++ tp).length := by rw [List.length_append]; omega
  unfold ex at h
  refine ha.valS hl w h fun r fr1 v H1 F1 io1 s p w1 rv z => ?_
  show D.nx (σ.set i (some v)) H1
  have gen : ∀ d fr2, toD fr1 r = some (d, fr2) → (Sx.next (setE fr2 i (.val d))).all (okS E tp F1 io1 D) → D.nx (σ.set i (some v)) H1 := fun d fr2 e1 z => by
    obtain ⟨F2, s2, rp, w2⟩ := w1.toD rv e1
    exact z _ H1 F2 io1 (setN_len hl) s2 (Pre.refl _) (by rw [set_app hi]; exact w2.put hi2 rp)
  cases r with
  | out o =>
    cases o with
    | val d => exact gen d fr1 rfl z
    | fresh xs => exact z _ H1 F1 io1 (setN_len hl) (Same.refl _) (Pre.refl _) (by rw [set_app hi]; exact w1.putOwn hi2 rv)
  | var j =>
    have z : ((match toD fr1 (.var j) with | some (d, fr') => Sx.next (setE fr' i (.val d)) | none => .bad) : Sx).all (okS E tp F1 io1 D) := z
    cases e1 : toD fr1 (.var j) with
    | none => simp [e1] at z; exact z.elim
    | some q =>
      obtain ⟨d, fr2⟩ := q
      simp only [e1] at z
      exact gen d fr2 e1 z))) Xz.mk
theorem SS_asgTup {tg : Expr} {gs : List Tg} (hg : SG E tg (.tup gs)) (hs : swapsWithSole [tg] a pos.line E.X.env = pure false) (hw : swappedStores [tg] a E.X.env = pure none) (h1 : (assignEach [tg] E.X.env).map (·.2) = [assign tg E.X.env]) (ha : SE E a ta) :
    SS E (.Assign [tg] a pos) (.asg (.tup gs) ta) := @Rz _ _ (fun qz => @Hz.get _ _ (qz.bar : Hz _ (by
  clear qz
  intro fr σ tp H F io D hl w h
  refine wS_of (ps_asg pe_w pg_w hs hw h1) ?_
  unfold ex at h
  refine ha.valS hl w h fun r fr1 v H1 F1 io1 s p w1 rv z => ?_
  have z : ((match toD fr1 r with | some (d, fr') => (match bindT (.tup gs) d fr' with | some fr2 => Sx.next fr2 | none => .bad) | none => .bad) : Sx).all (okS E tp F1 io1 D) := z
  cases e1 : toD fr1 r with
  | none => simp [e1] at z; exact z.elim
  | some q =>
    obtain ⟨d, fr2⟩ := q
    simp only [e1] at z
    obtain ⟨F2, s2, rp, w2⟩ := w1.toD rv e1
    cases e2 : bindT (.tup gs) d fr2 with
    | none => simp [e2] at z; exact z.elim
    | some fr3 =>
      simp only [e2] at z
      exact hg fr2 fr3 σ tp H1 F2 io1 d v D.nx hl w2 rp e2 fun σ' l' w' _ => z σ' H1 F2 io1 l' s2 (Pre.refl _) w'))) Xz.mk
/-! ### a dict's item stored -/
/-- a cell is written -/
theorem Ws.cellPut {G : Glb} {H0 : Ent} {n0 : Nat} {ρ : St} (w : Ws G H0 n0 fr ρ H F io) {n : Nat} {a : Addr} {cl : Cell} {u : HO} (ha : io[n]? = some a) (hc : CellOk G F io (upd H a u) a cl) : Ws G H0 n0 { fr with sto := fr.sto.set n cl } ρ (upd H a u) F io := @Rz _ _ (fun qz => @Hz.get _ _ (qz.bar : Hz _ (by
  clear qz
  have hn : n < fr.sto.length := by rw [← w.wr.len]; exact (List.getElem?_eq_some_iff.mp ha).1
  obtain ⟨a', e1, fa, _⟩ := w.wr.cel n fr.sto[n] (List.getElem?_eq_getElem hn)
  rw [ha] at e1; cases e1
  have hne : ∀ b x, H b = some x → b ≠ a → (upd H a u) b = some x := fun b x e n => by rw [upd_ne n]; exact e
  refine ⟨⟨fun b x e => ?_, by show io.length = (fr.sto.set n cl).length; rw [List.length_set]; exact w.wr.len, fun m c e => ?_, w.wr.inj, fun b x e k => ?_, w.wr.new, w.wr.frz, w.wr.nle, w.wr.old⟩, w.sl.len, fun i sl e => ?_, w.sl.dis⟩
  · exact hne b x (w.wr.sub b x e) fun z => by rw [z, fa] at e; cases e
  · by_cases q : n = m
    · subst q
      have e : (fr.sto.set n cl)[n]? = some c := e
      rw [List.getElem?_set_self hn] at e; cases e
      exact ⟨a, ha, fa, hc⟩
    · have e : (fr.sto.set n cl)[m]? = some c := e
      rw [List.getElem?_set_ne q] at e
      obtain ⟨b, e1, e2, e3⟩ := w.wr.cel m c e
      have nb : b ≠ a := fun z => q (w.wr.inj n m a ha (z ▸ e1))
      refine ⟨b, e1, e2, ?_⟩
      cases c with
      | dict kvs => obtain ⟨us, h1, h2⟩ := e3; exact ⟨us, hne _ _ h1 nb, h2⟩
      | inst c fs => obtain ⟨dx, us, h1, h2⟩ := e3; exact ⟨dx, us, hne _ _ h1 nb, h2⟩
  · by_cases q : b = a
    · subst q
      by_cases hlt : n < n0
      · exact absurd ha (k n hlt)
      · rw [w.wr.new n b (Nat.le_of_not_lt hlt) ha] at e; cases e
    · exact hne b x (w.wr.keep b x e k) q
  · have q := w.sl.at_ i sl e
    cases sl with
    | un => trivial
    | val d => exact q
    | own xs =>
      obtain ⟨p, e1, vs, h1, h2, h3, h4, h5⟩ := q
      exact ⟨p, e1, vs, hne _ _ h1 (fun z => h3 n (z ▸ ha)), h2, h3, h4, h5⟩))) Xz.mk
/-! ### lists of slots -/
/-- the list of the slot i, changed in place -/
theorem Ws.ownPut {G : Glb} {H0 : Ent} {n0 : Nat} {ρ : St} (w : Ws G H0 n0 fr ρ H F io) {i : Nat} {p : Addr} {xs ys : List Ag.D} {us : List V} (e : fr.env[i]? = some (.own xs)) (hp : ρ[i]? = some (some (.ref p))) (r : Reps G F io ys us) :
    Ws G H0 n0 (setE fr i (.own ys)) ρ (upd H p (.lst us)) F io := @Rz _ _ (fun qz => @Hz.get _ _ (qz.bar : Hz _ (by
  clear qz
  obtain ⟨p', e1, vs, h1, h2, h3, h4, h5⟩ := w.sl.at_ i _ e
  rw [hp] at e1; cases e1
  have hne : ∀ b x, H b = some x → b ≠ p → (upd H p (.lst us)) b = some x := fun b x e n => by rw [upd_ne n]; exact e
  refine ⟨⟨fun b x e => ?_, w.wr.len, fun m c e => ?_, w.wr.inj, fun b x e k => ?_, w.wr.new, w.wr.frz, w.wr.nle, w.wr.old⟩, by show (fr.env.set i _).length = _; rw [List.length_set]; exact w.sl.len, fun j sl q => ?_, fun j k zs ws pp g1 g2 e1 e2 => ?_⟩
  · exact hne b x (w.wr.sub b x e) fun z => by rw [z, h2] at e; cases e
  · obtain ⟨b, e1, e2, e3⟩ := w.wr.cel m c e
    have nb : b ≠ p := fun z => h3 m (z ▸ e1)
    refine ⟨b, e1, e2, ?_⟩
    cases c with
    | dict kvs => obtain ⟨us, h1, h2⟩ := e3; exact ⟨us, hne _ _ h1 nb, h2⟩
    | inst c fs => obtain ⟨dx, us, h1, h2⟩ := e3; exact ⟨dx, us, hne _ _ h1 nb, h2⟩
  · exact hne b x (w.wr.keep b x e k) fun z => by rw [z, h4] at e; cases e
  · rcases set_at q with ⟨rfl, rfl⟩ | ⟨ne, q⟩
    · exact ⟨p, hp, us, upd_same, h2, h3, h4, r⟩
    · have q2 := w.sl.at_ j _ q
      cases sl with
      | un => trivial
      | val d => exact q2
      | own zs =>
        obtain ⟨p2, g1, ws, k1, k2, k3, k4, k5⟩ := q2
        exact ⟨p2, g1, ws, hne _ _ k1 (fun z => ne (w.sl.dis j i zs xs p q e (z ▸ g1) hp)), k2, k3, k4, k5⟩
  · have f : ∀ (m : Nat) (qs : List Ag.D), (fr.env.set i (Slot.own ys))[m]? = some (Slot.own qs) → ∃ qs', fr.env[m]? = some (Slot.own qs') := fun m qs g => by
      rcases set_at g with ⟨g, _⟩ | ⟨_, g⟩
      · exact ⟨xs, g ▸ e⟩
      · exact ⟨qs, g⟩
    obtain ⟨_, g1⟩ := f j zs g1
    obtain ⟨_, g2⟩ := f k ws g2
    exact w.sl.dis j k _ _ _ g1 g2 e1 e2))) Xz.mk
theorem slot_of {i : Nat} {x : Str} (hl : σ.length = E.X.N.length) (hN : E.X.N[i]? = some x) (w : E.ws fr (σ ++ tp) H F io) {xs : List Ag.D} (e : fr.env[i]? = some (.own xs)) : ∃ p vs, σ[i]? = some (some (.ref p)) ∧ (σ ++ tp)[i]? = some (some (.ref p)) ∧ H p = some (.lst vs) ∧ Reps E.G F io xs vs := @Rz _ _ (fun qz => @Hz.get _ _ (qz.bar : Hz _ (by
  clear qz
  obtain ⟨p, e1, vs, h1, h2, h3, h4, h5⟩ := w.sl.at_ i _ e
  exact ⟨p, vs, by rw [← lift_at (tp := tp) hl hN]; exact e1, e1, h1, h5⟩))) Xz.mk
theorem SS_append (ok : E.Ok) {i : Nat} {x : Str} {p apos cpos : Pos} (hN : E.X.N[i]? = some x) (hv : Vis E.X.env.scope x) (hd : (x == ("__debug__" : Str)) = false) (hcd : (x == ("__classdict__" : Str)) = false) (hn : notStar a = true) (hline : (apos.endLine == cpos.line) = true) (ha : SE E a ta) :
    SS E (.Expr (.Call (.Attribute (.Name x p) "append" apos) [a] [] cpos) pos) (.append i ta) := @Rz _ _ (fun qz => @Hz.get _ _ (qz.bar : Hz _ (by
  clear qz
  intro fr σ tp H F io D hl w h
  have f1 : allNot [a] = true := by unfold allNot; simp [hn]
  refine wS_of (ps_expr (pe_bm PySem.F.plainAttrs_list PySem.F.slot_list_append PySem.F.type_list_append mt_append (pe_var hN hv hd hcd) (pa_cons pe_w pa_nil (star_ne hn _ _)) (by rfl) (form_of (pos := cpos) f1 (by show 1 < 29; decide) E.X.env) hline (star_ne hn _ _) (by rfl)) (by rfl)) ?_
  unfold ex at h
  cases q : fr.env[i]? with
  | none => simp [q] at h; exact h.elim
  | some sl =>
    cases sl with
    | un => simp [q] at h; exact h.elim
    | val d => simp [q] at h; exact h.elim
    | own xs =>
      simp only [q] at h
      obtain ⟨pl, vs, e1, e2, g1, g2⟩ := slot_of hl hN w q
      refine ⟨.ref pl, e1, .inl ⟨rfl, vs, SqL.of g1⟩, ?_⟩
      refine ha.partS hl w h fun d fr1 v H1 F1 io1 s1 p1 w1 rv h1 => ?_
      cases q1 : fr1.env[i]? with
      | none => simp [q1] at h1; exact h1.elim
      | some sl =>
        cases sl with
        | un => simp [q1] at h1; exact h1.elim
        | val d => simp [q1] at h1; exact h1.elim
        | own ys =>
          simp only [q1] at h1
          split at h1
          case isFalse => exact h1.elim
          rename_i hz
          obtain ⟨pl', us, e1', e2', k1, k2⟩ := slot_of hl hN w1 q1
          rw [e1] at e1'; cases e1'
          refine ⟨pl, us, v, rfl, rfl, k1, by rw [← k2.length]; exact hz, ?_⟩
          exact h1 σ _ F1 io1 hl (Same.refl _) (Pre.refl _) (w1.ownPut q1 e2' (k2.append (.cons rv .nil)))))) Xz.mk
theorem SS_extend (ok : E.Ok) {i : Nat} {x : Str} {p apos cpos : Pos} (hN : E.X.N[i]? = some x) (hv : Vis E.X.env.scope x) (hd : (x == ("__debug__" : Str)) = false) (hcd : (x == ("__classdict__" : Str)) = false) (hn : notStar a = true) (hline : (apos.endLine == cpos.line) = true) (ha : SE E a ta) :
    SS E (.Expr (.Call (.Attribute (.Name x p) "extend" apos) [a] [] cpos) pos) (.extend i ta) := @Rz _ _ (fun qz => @Hz.get _ _ (qz.bar : Hz _ (by
  clear qz
  intro fr σ tp H F io D hl w h
  have f1 : allNot [a] = true := by unfold allNot; simp [hn]
  refine wS_of (ps_expr (pe_bm PySem.F.plainAttrs_list PySem.F.slot_list_extend PySem.F.type_list_extend mt_extend (pe_var hN hv hd hcd) (pa_cons pe_w pa_nil (star_ne hn _ _)) (by rfl) (form_of (pos := cpos) f1 (by show 1 < 29; decide) E.X.env) hline (star_ne hn _ _) (by rfl)) (by rfl)) ?_
  unfold ex at h
  cases q : fr.env[i]? with
  | none => simp [q] at h; exact h.elim
  | some sl =>
    cases sl with
    | un => simp [q] at h; exact h.elim
    | val d => simp [q] at h; exact h.elim
    | own xs =>
      simp only [q] at h
      obtain ⟨pl, vs, e1, e2, g1, g2⟩ := slot_of hl hN w q
      refine ⟨.ref pl, e1, .inl ⟨rfl, vs, SqL.of g1⟩, ?_⟩
      refine ha.partS hl w h fun d fr1 v H1 F1 io1 s1 p1 w1 rv h1 => ?_
      cases q1 : fr1.env[i]? with
      | none => simp [q1] at h1; exact h1.elim
      | some sl =>
        cases sl with
        | un => simp [q1] at h1; exact h1.elim
        | val d => simp [q1] at h1; exact h1.elim
        | own ys =>
          cases d with
          | lst zs =>
            simp only [q1] at h1
            split at h1
            case isFalse => exact h1.elim
            rename_i hz
            obtain ⟨pl', us, e1', e2', k1, k2⟩ := slot_of hl hN w1 q1
            rw [e1] at e1'; cases e1'
            cases rv with
            | lst hb rb =>
              refine ⟨pl, _, us, _, rfl, rfl, k1, w1.wr.sub _ _ hb, by rw [← k2.length, ← rb.length]; exact hz, ?_⟩
              exact h1 σ _ F1 io1 hl (Same.refl _) (Pre.refl _) (w1.ownPut q1 e2' (k2.append rb))
          | _ => simp only [q1] at h1; exact h1.elim))) Xz.mk
theorem SE_pop (ok : E.Ok) {i : Nat} {x : Str} {p apos cpos : Pos} (hN : E.X.N[i]? = some x) (hv : Vis E.X.env.scope x) (hd : (x == ("__debug__" : Str)) = false) (hcd : (x == ("__classdict__" : Str)) = false) (hline : (apos.endLine == cpos.line) = true) :
    SE E (.Call (.Attribute (.Name x p) "pop" apos) [] [] cpos) (.pop i) := @Rz _ _ (fun qz => @Hz.get _ _ (qz.bar : Hz _ (by
  clear qz
  intro fr σ tp H F io Q hl w h
  refine wE_of (pe_bm0 PySem.F.plainAttrs_list PySem.F.slot_list_pop PySem.F.type_list_pop mt_pop (pe_var hN hv hd hcd) (by rfl) hline) ?_
  unfold ev at h
  cases q : fr.env[i]? with
  | none => simp [q] at h; exact h.elim
  | some sl =>
    cases sl with
    | un => simp [q] at h; exact h.elim
    | val d => simp [q] at h; exact h.elim
    | own xs =>
      simp only [q] at h
      obtain ⟨pl, vs, e1, e2, g1, g2⟩ := slot_of hl hN w q
      cases e3 : xs.getLast? with
      | none => simp [e3] at h; exact h.elim
      | some d =>
        simp only [e3] at h
        have e4 : xs[xs.length - 1]? = some d := by rw [← List.getLast?_eq_getElem?]; exact e3
        obtain ⟨y, e5, ry⟩ := g2.get e4
        rw [g2.length] at e5
        refine ⟨.ref pl, e1, .inl ⟨rfl, vs, SqL.of g1⟩, pl, vs, y, rfl, rfl, g1, e5, ?_⟩
        refine h y _ F io (Same.refl _) (Pre.refl _) (w.ownPut q e2 ?_) ry
        have := g2.take (xs.length - 1)
        rw [List.dropLast_eq_take, List.dropLast_eq_take, ← g2.length]
        exact this))) Xz.mk
theorem SS_aug (ok : E.Ok) {i : Nat} {x : Str} {p : Pos} (hN : E.X.N[i]? = some x) (hx : Loc E.X.env.scope x) (hf : E.X.fn x = true ∨ E.X.env.scope.names.lookup x = some .local) (ha : SE E a ta) : SS E (.AugAssign (.Name x p) .Add a pos) (.aug i .add ta) := @Rz _ _ (fun qz => @Hz.get _ _ (qz.bar : Hz _ (by
  clear qz
  intro fr σ tp H F io D hl w h
  refine wS_of (ps_aug ok.nd hN hx pe_w ip_add hf) ?_
  have hi : i < σ.length := by rw [hl]; exact (List.getElem?_eq_some_iff.mp hN).1
  have hi2 : i < (σ ++ tp).length := by rw [List.length_append]; omega
  unfold ex at h
  cases q : fr.env[i]? with
  | none => simp [q] at h; exact h.elim
  | some sl =>
    cases sl with
    | un => simp [q] at h; exact h.elim
    | own d => simp [q] at h; exact h.elim
    | val d =>
      cases d with
      | int n =>
        simp only [q] at h
        obtain ⟨v, e1, r1⟩ := w.sl.at_ i _ q
        rw [lift_at hl hN] at e1
        cases r1
        refine ⟨_, e1, ?_⟩
        refine ha.partS hl w h fun d fr1 v H1 F1 io1 s1 p1 w1 rv h1 => ?_
        cases d with
        | int m =>
          cases rv
          refine ⟨n, m, rfl, rfl, ?_⟩
          exact h1 _ H1 F1 io1 (setN_len hl) (Same.refl _) (Pre.refl _) (by rw [set_app hi]; exact w1.put hi2 (.int _))
        | _ => exact h1.elim
      | _ => simp [q] at h; exact h.elim))) Xz.mk
theorem SS_setl {o k : Expr} {to tk : Tm} {p : Pos} {i : Nat} (hns : notSlice k = true) (hs : notComp a = true) (hsole : swapsWithSole [.Subscript o k p] a pos.line E.X.env = pure false) (hsw : swappedStores [.Subscript o k p] a E.X.env = pure none) (ho : SE E o to) (hk : SE E k tk) (ha : SE E a ta)
    (hl : σ.length = E.X.N.length) (w : E.ws fr (σ ++ tp) H F io) (h : (ex E.T (.setk to tk ta) fr).all (okS E tp F io D)) (hq : ownSlot to fr.env = some i) : wS E.X (.Assign [.Subscript o k p] a pos) D σ H := @Rz _ _ (fun qz => @Hz.get _ _ (qz.bar : Hz _ (by
  clear qz
  refine wS_of (ps_asg pe_w (pg_sub (t := rSetL) pe_w pe_w set_list (by intro _; cases k <;> first | rfl | cases hns)) hsole hsw rfl) ?_
  have hto : to = .slot i := by
    unfold ownSlot at hq
    split at hq
    · split at hq
      · cases hq; rfl
      · cases hq
    · cases hq
  subst hto
  unfold ex at h
  rw [hq] at h
  refine ha.partS hl w h fun dv fr1 v H1 F1 io1 s1 p1 w1 rv h1 => ?_
  cases q1 : fr1.env[i]? with
  | none => rw [q1] at h1; exact h1.elim
  | some sl =>
    cases sl with
    | un => rw [q1] at h1; exact h1.elim
    | val d => rw [q1] at h1; exact h1.elim
    | own ys =>
      rw [q1] at h1
      have h1 : ((ev E.T tk fr1).frS fun dk fr2 => match fr2.env[i]?, dk with
        | some (.own xs), .int j => match ixN xs.length j with
          | some m => Sx.next (setE fr2 i (.own (xs.set m dv)))
          | none => .bad
        | _, _ => .bad).all (okS E tp F1 io1 D) := h1
      refine ho fr1 σ tp H1 F1 io1 _ hl w1 ?_
      unfold ev
      rw [q1]
      intro x H2 F2 io2 s2 p2 w2 rx
      refine hk.partS hl w2 (okS.mono s2 p2 h1) fun dk fr2 y H3 F3 io3 s3 p3 w3 ry h2 => ?_
      cases q2 : fr2.env[i]? with
      | none => simp only [q2] at h2; exact h2.elim
      | some sl =>
        cases sl with
        | un => simp only [q2] at h2; exact h2.elim
        | val d => simp only [q2] at h2; exact h2.elim
        | own xs =>
          cases dk with
          | int j =>
            simp only [q2] at h2
            cases q3 : ixN xs.length j with
            | none => simp only [q3] at h2; exact h2.elim
            | some m =>
              simp only [q3] at h2
              cases ry
              obtain ⟨pl, e1, us, k1, k2, k3, k4, k5⟩ := w3.sl.at_ i _ q2
              have rx : (σ ++ tp)[i]? = some (some x) := rx
              rw [e1] at rx; cases rx
              refine ⟨pl, us, j, m, rfl, rfl, k1, by rw [← k5.length]; exact q3, ?_⟩
              exact h2 σ _ F3 io3 hl (Same.refl _) (Pre.refl _) (w3.ownPut q2 e1 (k5.set (rv.mono (s2.trans s3) (p2.trans p3)) _))
          | _ => simp only [q2] at h2; exact h2.elim))) Xz.mk
theorem SS_setk (ok : E.Ok) {o k : Expr} {to tk : Tm} {p : Pos} (hns : notSlice k = true) (hs : notComp a = true) (hsole : swapsWithSole [.Subscript o k p] a pos.line E.X.env = pure false) (hsw : swappedStores [.Subscript o k p] a E.X.env = pure none) (ha : SE E a ta) (ho : SE E o to) (hk : SE E k tk) : SS E (.Assign [.Subscript o k p] a pos) (.setk to tk ta) := @Rz _ _ (fun qz => @Hz.get _ _ (qz.bar : Hz _ (by
  clear qz
  intro fr σ tp H F io D hl w h
  cases hq : ownSlot to fr.env with
  | some i => exact SS_setl hns hs hsole hsw ho hk ha hl w h hq
  | none =>
  refine wS_of (ps_dput (by have := ok.hu; omega) pe_w pe_w pe_w (swaps_no hs _ _ _)) ?_
  unfold ex at h
  rw [hq] at h
  refine ha.partS hl w h fun dv fr1 v H1 F1 io1 s1 p1 w1 rv h1 => ?_
  refine ho.partS hl w1 h1 fun d fr2 x H2 F2 io2 s2 p2 w2 rx h2 => ?_
  refine hk.partS hl w2 h2 fun dk fr3 y H3 F3 io3 s3 p3 w3 ry h3 => ?_
  cases d with
  | cell n =>
    cases e1 : keyOf dk with
    | none => simp [e1] at h3; exact h3.elim
    | some kk =>
      simp only [e1] at h3
      cases rx with
      | cell hc =>
        cases e2 : fr3.sto[n]? with
        | none => simp [e2] at h3; exact h3.elim
        | some cl =>
          cases cl with
          | inst c fs => simp [e2] at h3; exact h3.elim
          | dict kvs =>
            simp only [e2] at h3
            split at h3
            case isFalse => exact h3.elim
            rename_i hz
            obtain ⟨a, g1, g2, vs, g3, g4⟩ := w3.wr.cel n _ e2
            have hc3 := p3 _ _ hc
            rw [hc3] at g1; cases g1
            have ek := key_of ry e1
            subst ek
            refine ⟨_, _, rfl, DPut.k g3 (by rw [← g4.length]; exact Nat.lt_trans hz (by decide)), ?_⟩
            exact h3 σ _ F3 io3 hl (Same.refl _) (Pre.refl _) (w3.cellPut hc3 ⟨_, upd_same, g4.put (rv.mono (s2.trans s3) (p2.trans p3))⟩)
  | _ => exact h3.elim))) Xz.mk
end
end Ag
namespace Ag
open PySem PySem.Spec L2
section
variable {E : En} {e a b c : Expr} {ta tb tc : Tm} {fr : Fr} {σ tp : St} {H F : Hp} {io : List Addr} {Q : VK} {pos : Pos} {es : List Expr} {ts : List Tm} {D : Ends}
theorem star_off (e : Expr) : notStar e = true → (match e with | .Starred .. => true | _ => false) = false := by
  cases e <;> intro h <;> first | rfl | exact absurd h (by simp [notStar])
theorem swap2_some {x y : Str} {px py pt pt2 : Pos} {kt k2 : Nat} {env : Env} (hk : env.scope.kind = .function) (hx : env.scope.names.lookup x = some .local) (hy : env.scope.names.lookup y = some .local) (hl : (py.line == px.line) = true) (hxy : x ≠ y)
    (hs : allNot [a, b] = true) (hf : ([a, b].all (foldedForSure 8)) = false) (hc : ([a, b].all (constantsAlone 8)) = false) :
    swappedStores [.Tuple [.Name x px, .Name y py] kt pt] (.Tuple [a, b] k2 pt2) env = pure (some [x, y]) := @Rz _ _ (fun qz => @Hz.get _ _ (qz.bar : Hz _ (by
  clear qz
  have hb : env.blockKind = .function := by unfold Env.blockKind; rw [hk]; rfl
  have kx : env.kindOf x = some .local := hx
  have ky : env.kindOf y = some .local := hy
  unfold allNot at hs
  simp only [List.all_cons, List.all_nil, Bool.and_true, Bool.and_eq_true] at hs
  have e1 : ([x, y] : List Str).eraseDups.length = 2 := by
    have : (y == x) = false := by simpa using fun z => hxy z.symm
    simp [List.eraseDups_cons, this]
  unfold swappedStores
  simp only [hb, hf, hc, List.filterMap_cons, List.filterMap_nil, kx, ky, Expr.pos, hl]
  simp [e1, Expr.pos, kx, ky, hl]
  intro h
  rcases h with h | h
  · exact absurd ((star_off a hs.1).symm.trans h) (by simp)
  · exact absurd ((star_off b hs.2).symm.trans h) (by simp)))) Xz.mk
theorem swap3_some {x y z : Str} {px py pz pt pt2 : Pos} {kt k2 : Nat} {env : Env} (hk : env.scope.kind = .function) (hx : env.scope.names.lookup x = some .local) (hy : env.scope.names.lookup y = some .local) (hz : env.scope.names.lookup z = some .local)
    (hl : (py.line == px.line) = true) (hl2 : (pz.line == px.line) = true) (hxy : x ≠ y) (hxz : x ≠ z) (hyz : y ≠ z)
    (hs : allNot [a, b, c] = true) (hf : ([a, b, c].all (foldedForSure 8)) = false) (hc : ([a, b, c].all (constantsAlone 8)) = false) :
    swappedStores [.Tuple [.Name x px, .Name y py, .Name z pz] kt pt] (.Tuple [a, b, c] k2 pt2) env = pure (some [x, y, z]) := @Rz _ _ (fun qz => @Hz.get _ _ (qz.bar : Hz _ (by
  clear qz
  have hb : env.blockKind = .function := by unfold Env.blockKind; rw [hk]; rfl
  have kx : env.kindOf x = some .local := hx
  have ky : env.kindOf y = some .local := hy
  have kz : env.kindOf z = some .local := hz
  unfold allNot at hs
  simp only [List.all_cons, List.all_nil, Bool.and_true, Bool.and_eq_true] at hs
  have e1 : ([x, y, z] : List Str).eraseDups.length = 3 := by
    have h1 : (y == x) = false := by simpa using fun z => hxy z.symm
    have h2 : (z == x) = false := by simpa using fun z => hxz z.symm
    have h3 : (z == y) = false := by simpa using fun z => hyz z.symm
    simp [List.eraseDups_cons, h1, h2, h3]
  unfold swappedStores
  simp only [hb, hf, hc, List.filterMap_cons, List.filterMap_nil, kx, ky, kz, Expr.pos, hl, hl2]
  simp [e1, Expr.pos, kx, ky, kz, hl, hl2]
  intro h
  rcases h with h | h | h
  · exact absurd ((star_off a hs.1).symm.trans h) (by simp)
  · exact absurd ((star_off b hs.2.1).symm.trans h) (by simp)
  · exact absurd ((star_off c hs.2.2).symm.trans h) (by simp)))) Xz.mk
/-! ### several names at once -/
inductive SEs (E : En) : List Expr → List Tm → Prop
  | nil : SEs E [] []
  | cons {e t es ts} : notStar e = true → SE E e t → SEs E es ts → SEs E (e :: es) (t :: ts)
theorem SEs.sa (h : SEs E es ts) : SA E es ts := @Rz _ _ (fun qz => @Hz.get _ _ (qz.bar : Hz _ (by
  clear qz
  induction h with
  | nil => exact SA_nil
  | cons h1 h2 _ ih => exact SA_cons h1 h2 ih))) Xz.mk
theorem SEs.sp (h : SEs E es ts) : SP' E es ts := @Rz _ _ (fun qz => @Hz.get _ _ (qz.bar : Hz _ (by
  clear qz
  induction h with
  | nil => exact SP_nil
  | cons h1 h2 _ ih => exact SP_cons h1 h2 ih))) Xz.mk
theorem Ws.cut {G : Glb} {H0 : Ent} {n0 : Nat} {ρ : St} (w : Ws G H0 n0 fr ρ H F io) (n : Nat) : Ws G H0 n0 (cutE n fr) (ρ.take n) H F io := @Rz _ _ (fun qz => @Hz.get _ _ (qz.bar : Hz _ (by
  clear qz
  have f : ∀ {i : Nat} {s : Slot}, (fr.env.take n)[i]? = some s → i < n ∧ fr.env[i]? = some s := fun {i s} e => by
    rw [List.getElem?_take] at e
    split at e
    · exact ⟨by assumption, e⟩
    · cases e
  have g : ∀ {i : Nat}, i < n → (ρ.take n)[i]? = ρ[i]? := fun {i} h => by rw [List.getElem?_take, if_pos h]
  refine ⟨w.wr, by show (fr.env.take n).length = _; rw [List.length_take, List.length_take, w.sl.len], fun i s e => ?_, fun i j xs ys p e1 e2 h1 h2 => ?_⟩
  · obtain ⟨h, e⟩ := f e
    rw [g h]
    exact w.sl.at_ i s e
  · obtain ⟨k1, e1⟩ := f e1
    obtain ⟨k2, e2⟩ := f e2
    rw [g k1] at h1
    rw [g k2] at h2
    exact w.sl.dis i j xs ys p e1 e2 h1 h2))) Xz.mk
/-- a new list kept behind the slots -/
theorem Ws.keepT {G : Glb} {H0 : Ent} {n0 : Nat} {ρ : St} (w : Ws G H0 n0 fr ρ H F io) {xs : List Ag.D} {v : V} (r : RvOk G H0 H F io fr.env ρ (.out (.fresh xs)) v) :
    Ws G H0 n0 { fr with env := fr.env ++ [.own xs] } (ρ ++ [some v]) H F io := @Rz _ _ (fun qz => @Hz.get _ _ (qz.bar : Hz _ (by
  clear qz
  obtain ⟨p, rfl, own, hd⟩ := r
  have ca : ∀ {i : Nat} {s : Slot}, (fr.env ++ [Slot.own xs])[i]? = some s → (i = ρ.length ∧ s = .own xs) ∨ (i < ρ.length ∧ fr.env[i]? = some s) := fun {i s} e => by
    by_cases q : i < fr.env.length
    · rw [List.getElem?_append_left q] at e
      exact .inr ⟨by rw [← w.sl.len]; exact q, e⟩
    · have hl := (List.getElem?_eq_some_iff.mp e).1
      rw [List.length_append] at hl
      have : i = fr.env.length := by simp at hl; omega
      subst this
      simp at e
      exact .inl ⟨w.sl.len, e.symm⟩
  refine ⟨w.wr, by show (fr.env ++ [Slot.own xs]).length = _; rw [List.length_append, List.length_append, w.sl.len]; rfl, fun i s e => ?_, fun i j ys zs q e1 e2 h1 h2 => ?_⟩
  · rcases ca e with ⟨e1, rfl⟩ | ⟨h, e⟩
    · subst e1
      exact ⟨p, by simp, own⟩
    · rw [List.getElem?_append_left h]
      exact w.sl.at_ i s e
  · rcases ca e1 with ⟨a1, b1⟩ | ⟨a1, b1⟩
    · rcases ca e2 with ⟨a2, b2⟩ | ⟨a2, b2⟩
      · rw [a1, a2]
      · rw [a1] at h1
        simp at h1
        rw [List.getElem?_append_left a2] at h2
        exact absurd (h1 ▸ h2) (hd j zs b2)
    · rcases ca e2 with ⟨a2, b2⟩ | ⟨a2, b2⟩
      · rw [a2] at h2
        simp at h2
        rw [List.getElem?_append_left a1] at h1
        exact absurd (h2 ▸ h1) (hd i ys b1)
      · rw [List.getElem?_append_left a1] at h1
        rw [List.getElem?_append_left a2] at h2
        exact w.sl.dis i j ys zs q b1 b2 h1 h2))) Xz.mk
/-- a kept value -/
def Kp (G : Glb) (F : Hp) (io : List Addr) (n : Nat) (ρ : St) : RV → V → Prop
  | .out (.val d), v => Rep G F io d v
  | .out (.fresh _), _ => False
  | .var j, v => n ≤ j → ρ[j]? = some (some v)
theorem Kp.mono {G : Glb} {n : Nat} {ρ : St} {F' : Hp} {io' : List Addr} {x : List (Option V)} (s : Same F F') (p : Pre io io') {r : RV} {v : V} (h : Kp G F io n ρ r v) : Kp G F' io' n (ρ ++ x) r v := @Rz _ _ (fun qz => @Hz.get _ _ (qz.bar : Hz _ (by
  clear qz
  cases r with
  | out o =>
    cases o with
    | val d => exact Rep.mono s p h
    | fresh xs => exact h
  | var i =>
    intro hn
    have := h hn
    rw [List.getElem?_append_left (List.getElem?_eq_some_iff.mp this).1]; exact this))) Xz.mk
theorem par_read (h : SEs E es ts) : ∀ {fr : Fr} {x : St} {H F : Hp} {io : List Addr} {P : List RV → Fr → Prop} {R : List V → Hp → Prop}, σ.length = E.X.N.length → E.ws fr (σ ++ (tp ++ x)) H F io →
    (parGo E.T (σ ++ tp).length ts fr).all P (fun c fs fr => exE E σ tp F io c fs (cutE (σ ++ tp).length fr)) →
    (∀ rs fr1 vs y H1 F1 io1, Same F F1 → Pre io io1 → E.ws fr1 (σ ++ (tp ++ y)) H1 F1 io1 → Paired (Kp E.G F1 io1 (σ ++ tp).length (σ ++ (tp ++ y))) rs vs → (∃ z, y = x ++ z) → P rs fr1 → R vs H1) → wA E.X es σ H R := @Rz _ _ (fun qz => @Hz.get _ _ (qz.bar : Hz _ (by
  clear qz
  induction h with
  | nil =>
    intro fr x H F io P R hl w h q
    exact wA_of pa_nil (q [] fr [] x H F io (Same.refl _) (Pre.refl _) w .nil ⟨[], by simp⟩ h)
  | @cons e t es ts hs he hr ih =>
    intro fr x H F io P R hl w h q
    refine wA_of (pa_cons pe_w pa_w (star_ne hs _ _)) ?_
    unfold parGo at h
    have cx : ∀ {F1 : Hp} {io1 : List Addr} {y : St} {c : Nat} {fs : List Ag.D} {fr : Fr}, Same F F1 → Pre io io1 → exE E σ tp F io c fs (cutE (σ ++ tp).length fr) → exE E σ (tp ++ y) F1 io1 c fs fr := fun {F1 io1 y c fs fr} s p hx d H' F' io' s2 p2 w2 xo => by
      refine hx d H' F' io' (s.trans s2) (p.trans p2) ?_ xo
      have := Ws.cut w2 (σ ++ tp).length
      rwa [← List.append_assoc, List.take_left] at this
    refine he fr σ (tp ++ x) H F io _ hl w (Rs.all_imp (Rs.all_bind h) (fun r fr1 z => ?_) fun _ _ _ z => cx (Same.refl _) (Pre.refl _) z)
    intro v H1 F1 io1 s1 p1 w1 rv
    have gen : ∀ (r' : RV) (fr2 : Fr) (y : St), (∃ z, y = x ++ z) → E.ws fr2 (σ ++ (tp ++ y)) H1 F1 io1 → Kp E.G F1 io1 (σ ++ tp).length (σ ++ (tp ++ y)) r' v →
        ((parGo E.T (σ ++ tp).length ts fr2).bind fun rs fr2 => .ok (r' :: rs) fr2).all P (fun c fs fr => exE E σ tp F io c fs (cutE (σ ++ tp).length fr)) → wA E.X es σ H1 fun vs H2 => R (v :: vs) H2 := by
      intro r' fr2 y hy w2 hk z
      refine ih hl w2 (Rs.all_imp (Rs.all_bind z) (fun _ _ z => z) fun _ _ _ z => z.mono s1 p1) fun rs fr3 vs y2 H3 F3 io3 s3 p3 w3 hp hy2 z3 => ?_
      obtain ⟨z2, e2⟩ := hy2
      obtain ⟨z1, e1⟩ := hy
      refine q (r' :: rs) fr3 (v :: vs) y2 H3 F3 io3 (s1.trans s3) (p1.trans p3) w3 (.cons ?_ hp) ⟨z1 ++ z2, by rw [e2, e1, List.append_assoc]⟩ z3
      have := hk.mono s3 p3 (x := z2)
      rw [e2]
      simpa [List.append_assoc] using this
    cases r with
    | out o =>
      cases o with
      | val d => exact gen (.out (.val d)) fr1 x ⟨[], by simp⟩ w1 rv z
      | fresh xs =>
        have w2 := w1.keepT rv
        have hlen : fr1.env.length = (σ ++ (tp ++ x)).length := w1.sl.len
        refine gen (.var fr1.env.length) { fr1 with env := fr1.env ++ [.own xs] } (x ++ [some v]) ⟨_, rfl⟩ (by simpa [List.append_assoc] using w2) (fun _ => ?_) z
        rw [hlen]
        simp [← List.append_assoc]
    | var j =>
      refine gen (.var j) fr1 x ⟨[], by simp⟩ w1 (fun hn => ?_) z
      exact rv))) Xz.mk
def setsV (σ : St) : List Nat → List V → St
  | i :: is, v :: vs => setsV (σ.set i (some v)) is vs
  | _, _ => σ
theorem setsV_len : ∀ {is : List Nat} {vs : List V} {σ : St}, (setsV σ is vs).length = σ.length
  | [], _, _ => by cases ‹List V› <;> rfl
  | i :: is, [], _ => rfl
  | i :: is, v :: vs, σ => by show (setsV (σ.set i (some v)) is vs).length = _; rw [setsV_len, List.length_set]
theorem par_set {y : St} : ∀ {is : List Nat} {rs : List RV} {vs : List V} {fr fr' : Fr} {σ : St}, (∀ i ∈ is, i < σ.length) → E.ws fr (σ ++ (tp ++ y)) H F io → Paired (Kp E.G F io (σ ++ tp).length (σ ++ (tp ++ y))) rs vs →
    parSet (σ ++ tp).length is rs fr = some fr' → E.ws fr' (setsV σ is vs ++ (tp ++ y)) H F io ∧ is.length = rs.length
  | [], [], vs, fr, fr', σ, hi, w, r, e => by
    cases r
    unfold parSet at e; cases e; exact ⟨w, rfl⟩
  | [], _ :: _, _, _, _, _, _, _, _, e => by unfold parSet at e; cases e
  | _ :: _, [], _, _, _, _, _, _, _, e => by unfold parSet at e; cases e
  | i :: is, r0 :: rs, [], fr, fr', σ, hi, w, r, e => by cases r
  | i :: is, r0 :: rs, v :: vs', fr, fr', σ, hi, w, r, e => by
    obtain ⟨h, t⟩ : Kp E.G F io (σ ++ tp).length (σ ++ (tp ++ y)) r0 v ∧ Paired (Kp E.G F io (σ ++ tp).length (σ ++ (tp ++ y))) rs vs' := by cases r with | cons h t => exact ⟨h, t⟩
    have h0 : i < σ.length := hi i List.mem_cons_self
    have h1 : i < (σ ++ (tp ++ y)).length := by rw [List.length_append]; omega
    have hlen : (σ.set i (some v) ++ tp).length = (σ ++ tp).length := by simp
    have hi' : ∀ j ∈ is, j < (σ.set i (some v)).length := fun j hj => by rw [List.length_set]; exact hi j (List.mem_cons_of_mem _ hj)
    have tk : Paired (Kp E.G F io (σ.set i (some v) ++ tp).length (σ.set i (some v) ++ (tp ++ y))) rs vs' := by
      rw [hlen]
      refine Paired.mapP t fun r u k => ?_
      cases r with
      | out o => cases o with | val d => exact k | fresh xs => exact k
      | var j =>
        intro hn
        have k' := k hn
        rw [set_app h0]
        have : i ≠ j := fun z => by rw [List.length_append] at hn; omega
        rw [List.getElem?_set_ne this]; exact k'
    unfold parSet at e
    cases r0 with
    | out o =>
      cases o with
      | val d =>
        have w2 := w.put h1 h
        rw [← set_app h0] at w2
        have := par_set hi' w2 tk (by rw [hlen]; exact e)
        exact ⟨this.1, by rw [List.length_cons, List.length_cons, this.2]⟩
      | fresh xs => cases e
    | var j =>
      by_cases hn : (σ ++ tp).length ≤ j
      · simp only [if_pos hn] at e
        cases q : fr.env[j]? with
        | none => simp [q] at e
        | some sl =>
          cases sl with
          | un => simp [q] at e
          | val d => simp [q] at e
          | own xs =>
            simp only [q] at e
            obtain ⟨w2, rv2⟩ := w.giveSlot q
            have w3 := w2.putOwn h1 (rv2 v (h hn))
            rw [← set_app h0] at w3
            have := par_set hi' w3 tk (by rw [hlen]; exact e)
            exact ⟨this.1, by rw [List.length_cons, List.length_cons, this.2]⟩
      · simp only [if_neg hn] at e; cases e
/-- the model's statement stores the values of es at is -/
def ParOk (E : En) (st : Stmt) (is : List Nat) (es : List Expr) : Prop := ∀ (σ : St) (H : Hp) (D : Ends), σ.length = E.X.N.length → wA E.X es σ H (fun vs H1 => vs.length = is.length ∧ D.nx (setsV σ is vs) H1 ∧ ∀ p, H1 p = none → D.nx (setsV σ is vs) (upd H1 p (.tup vs))) → wS E.X st D σ H
theorem SS_par {st : Stmt} {is : List Nat} (hp : ParOk E st is es) (hi : ∀ i ∈ is, i < E.X.N.length) (h : SEs E es ts) : SS E st (.par is ts) := @Rz _ _ (fun qz => @Hz.get _ _ (qz.bar : Hz _ (by
  clear qz
  intro fr σ tp H F io D hl w hh
  refine hp σ H D hl ?_
  unfold ex at hh
  have hlen : fr.env.length = (σ ++ tp).length := w.sl.len
  rw [hlen] at hh
  have h0 := Rs.all_toS hh
  have h1 : (parGo E.T (σ ++ tp).length ts fr).all (fun rs fr1 => ((match parSet (σ ++ tp).length is rs fr1 with | some fr2 => Sx.next (cutE (σ ++ tp).length fr2) | none => .bad) : Sx).all (okS E tp F io D)) (fun c fs fr => exE E σ tp F io c fs (cutE (σ ++ tp).length fr)) := by
    cases q : parGo E.T (σ ++ tp).length ts fr with
    | ok a fr1 => rw [q] at h0; exact h0
    | exc c fs fr1 => rw [q] at h0; exact okS.exE hl h0
    | bad => rw [q] at h0; exact h0.elim
  refine par_read h (x := []) hl (by rw [List.append_nil]; exact w) h1 fun rs fr1 vs y H1 F1 io1 s p w1 hk _ z => ?_
  cases q : parSet (σ ++ tp).length is rs fr1 with
  | none => rw [q] at z; exact False.elim z
  | some fr2 =>
    rw [q] at z
    obtain ⟨w2, hlen2⟩ := par_set (fun i h => by rw [hl]; exact hi i h) w1 hk q
    have w3 : E.ws (cutE (σ ++ tp).length fr2) (setsV σ is vs ++ tp) H1 F1 io1 := by
      have := Ws.cut w2 (σ ++ tp).length
      have e2 : (σ ++ tp).length = (setsV σ is vs ++ tp).length := by simp [setsV_len]
      rw [← List.append_assoc] at this
      rw [e2, List.take_left] at this
      rw [e2]; exact this
    have hv : vs.length = is.length := by
      rw [hlen2]
      exact (Paired.length hk).symm
    refine ⟨hv, z _ H1 F1 io1 (by rw [setsV_len]; exact hl) s p w3, fun l hl2 => ?_⟩
    have hF : F1 l = none := (w3.wr.fresh hl2).1
    have w4 := w3.grow hl2 (.tup vs) (Same.refl F1) (fun _ _ => rfl) (fun a u e => by rw [upd_ne (ne_of_none (w3.wr.sub a u e) hl2)]; exact w3.wr.sub a u e) (fun u e => by rw [hF] at e; cases e)
    exact z _ _ F1 io1 (by rw [setsV_len]; exact hl) s p w4))) Xz.mk
end
end Ag
namespace Ag
open PySem PySem.Spec L2
section
variable {E : En} {e a b c : Expr} {ta tb tc : Tm} {fr : Fr} {σ tp : St} {H F : Hp} {io : List Addr} {Q : VK} {pos : Pos} {es : List Expr} {ts : List Tm} {D : Ends}
/-! ### the forms of several targets -/
/-- names as targets -/
inductive Nms (E : En) : List Expr → List Nat → Prop
  | nil : Nms E [] []
  | cons {x : Str} {p : Pos} {i : Nat} {es is} : E.X.N[i]? = some x → Loc E.X.env.scope x → (E.X.fn x = true ∨ E.X.env.scope.names.lookup x = some .local) → Nms E es is → Nms E (.Name x p :: es) (i :: is)
def gNms (is : List Nat) : TGs := fun vs σ H Q => vs.length = is.length ∧ Q (setsV σ is vs) H
theorem Nms.pgs (ok : E.Ok) {tgs : List Expr} {is : List Nat} (h : Nms E tgs is) : PGs E.X tgs (gNms is) := @Rz _ _ (fun qz => @Hz.get _ _ (qz.bar : Hz _ (by
  clear qz
  induction h with
  | nil => exact ⟨fun pins s σ H vs us Q I r h => by
      obtain ⟨hl, q⟩ := h
      have e : vs = [] := List.length_eq_zero_iff.mp hl
      exact pgs_nil.run pins s σ H vs us Q I r ⟨e, by subst e; exact q⟩⟩
  | cons h1 h2 h3 _ ih => exact ⟨fun pins s σ H vs us Q I r h => by
      obtain ⟨hl, q⟩ := h
      cases vs with
      | nil => cases hl
      | cons v vs => exact (pgs_cons (pg_name ok.nd h1 h2 h3) ih (assign_ne rfl _ _)).run pins s σ H (v :: vs) us Q I r ⟨v, vs, rfl, by simpa using hl, q⟩⟩))) Xz.mk
theorem Nms.star {tgs : List Expr} {is : List Nat} (h : Nms E tgs is) : allNot tgs = true ∧ tgs.length = is.length := @Rz _ _ (fun qz => @Hz.get _ _ (qz.bar : Hz _ (by
  clear qz
  induction h with
  | nil => exact ⟨rfl, rfl⟩
  | cons _ _ _ _ ih =>
    refine ⟨?_, by simp [ih.2]⟩
    have := ih.1
    unfold allNot at this ⊢
    rw [List.all_cons, this]; rfl))) Xz.mk
theorem par_gen (ok : E.Ok) {tgs : List Expr} {is : List Nat} {k k2 : Nat} {pt pt2 : Pos} (h : Nms E tgs is) (hz : is.length < 100) (hw : swappedStores [.Tuple tgs k pt] (.Tuple es k2 pt2) E.X.env = pure none) :
    ParOk E (.Assign [.Tuple tgs k pt] (.Tuple es k2 pt2) pos) is es := @Rz _ _ (fun qz => @Hz.get _ _ (qz.bar : Hz _ (by
  clear qz
  intro σ H D hl hh
  refine wS_of (ps_asg (pe_tup pa_w) (pg_tup ok.calm (h.pgs ok) (assign_len _ _) (assign_find h.star.1 _)) (by rfl) hw (by rfl)) ?_
  show wA E.X es σ H _
  refine fun pos pins s I => thn (hh pos pins s I) fun us s1 ⟨vs, H1, I1, r, e1, q1, q2⟩ => ⟨vs, H1, I1, r, ?_, fun p hp => ?_⟩
  · rw [e1]; exact Nat.le_trans (Nat.le_of_lt hz) (by decide)
  · exact ⟨p, vs, rfl, SqT.of upd_same, by rw [e1, h.star.2], e1, q2 p hp⟩))) Xz.mk
theorem par_two (ok : E.Ok) (hk : E.X.env.scope.kind = .function) {x y : Str} {i j : Nat} {px py pt pt2 : Pos} {k k2 : Nat} (hi : E.X.N[i]? = some x) (hj : E.X.N[j]? = some y) (hij : i ≠ j) (hx : E.X.env.scope.names.lookup x = some .local) (hy : E.X.env.scope.names.lookup y = some .local)
    (hl : (py.line == px.line) = true) (hs : allNot [a, b] = true) (hf : ([a, b].all (foldedForSure 8)) = false) (hc : ([a, b].all (constantsAlone 8)) = false) :
    ParOk E (.Assign [.Tuple [.Name x px, .Name y py] k pt] (.Tuple [a, b] k2 pt2) pos) [i, j] [a, b] := @Rz _ _ (fun qz => @Hz.get _ _ (qz.bar : Hz _ (by
  clear qz
  intro σ H D hl2 hh
  have hxy : x ≠ y := fun z => hij (nodup_ix ok.nd hi (z ▸ hj))
  refine wS_of (ps_par ok.calm ok.nd hi hj hij hx hy pa_w (swap2_some hk hx hy hl hxy hs hf hc) (by rfl)) ?_
  refine fun pos pins s I => thn (hh pos pins s I) fun us s1 ⟨vs, H1, I1, r, e1, q1, q2⟩ => ⟨vs, H1, I1, r, ?_⟩
  cases vs with
  | nil => cases e1
  | cons v vs => cases vs with
    | nil => cases e1
    | cons u vs => cases vs with
      | nil => exact ⟨v, u, rfl, q1⟩
      | cons => cases e1))) Xz.mk
theorem par_three (ok : E.Ok) (hk : E.X.env.scope.kind = .function) {x y z : Str} {i j l : Nat} {px py pz pt pt2 : Pos} {k k2 : Nat} (hi : E.X.N[i]? = some x) (hj : E.X.N[j]? = some y) (hl : E.X.N[l]? = some z) (hij : i ≠ j) (hil : i ≠ l) (hjl : j ≠ l)
    (hx : E.X.env.scope.names.lookup x = some .local) (hy : E.X.env.scope.names.lookup y = some .local) (hz : E.X.env.scope.names.lookup z = some .local)
    (hly : (py.line == px.line) = true) (hlz : (pz.line == px.line) = true) (hs : allNot [a, b, c] = true) (hf : ([a, b, c].all (foldedForSure 8)) = false) (hc : ([a, b, c].all (constantsAlone 8)) = false) :
    ParOk E (.Assign [.Tuple [.Name x px, .Name y py, .Name z pz] k pt] (.Tuple [a, b, c] k2 pt2) pos) [i, j, l] [a, b, c] := @Rz _ _ (fun qz => @Hz.get _ _ (qz.bar : Hz _ (by
  clear qz
  intro σ H D hl2 hh
  have hxy : x ≠ y := fun q => hij (nodup_ix ok.nd hi (q ▸ hj))
  have hxz : x ≠ z := fun q => hil (nodup_ix ok.nd hi (q ▸ hl))
  have hyz : y ≠ z := fun q => hjl (nodup_ix ok.nd hj (q ▸ hl))
  refine wS_of (ps_par3 ok.calm ok.nd hi hj hl hij hil hjl hx hy hz pa_w (swap3_some hk hx hy hz hly hlz hxy hxz hyz hs hf hc) (by rfl)) ?_
  refine fun pos pins s I => thn (hh pos pins s I) fun us s1 ⟨vs, H1, I1, r, e1, q1, q2⟩ => ⟨vs, H1, I1, r, ?_⟩
  cases vs with
  | nil => cases e1
  | cons v vs => cases vs with
    | nil => cases e1
    | cons u vs => cases vs with
      | nil => cases e1
      | cons w vs => cases vs with
        | nil => exact ⟨v, u, w, rfl, q1⟩
        | cons => cases e1))) Xz.mk
/-! ### loops -/
theorem SS_whil (ok : E.Ok) (hp : PassesOwn (model E.X.prog E.X.w) E.X.A E.X.env E.X.xe) {B : List Stmt} {tB : List Stm} (hc : ST E c tc) (hB : SSs E B tB) : SS E (.While c B [] pos) (.whil tc tB) := @Rz _ _ (fun qz => @Hz.get _ _ (qz.bar : Hz _ (by
  clear qz
  intro fr σ tp H F io D hl w h
  refine wS_of (ps_while hp pt_w pss_w) ?_
  unfold ex at h
  have hn : ∃ n, (whilN (fun fr1 => (ev E.T tc fr1).fr fun d fr2 => asB d fr2 fun k fr3 => .ok k fr3) (fun fr1 => exs E.T tB fr1) n fr).all (okS E tp F io D) := by
    unfold whilGo at h
    split at h
    · exact ⟨_, h⟩
    · exact h.elim
  clear h
  obtain ⟨n, hn⟩ := hn
  refine ⟨fun m σ H => ∃ fr F' io', σ.length = E.X.N.length ∧ Same F F' ∧ Pre io io' ∧ E.ws fr (σ ++ tp) H F' io' ∧ (whilN (fun fr1 => (ev E.T tc fr1).fr fun d fr2 => asB d fr2 fun k fr3 => .ok k fr3) (fun fr1 => exs E.T tB fr1) m fr).all (okS E tp F' io' D),
    ⟨n, fr, F, io, hl, Same.refl _, Pre.refl _, w, hn⟩, ?_⟩
  rintro m σ1 H1 ⟨fr1, F1, io1, hl1, s1, p1, w1, h1⟩
  cases m with
  | zero => unfold whilN at h1; exact h1.elim
  | succ m =>
    unfold whilN at h1
    have h2 := Rs.all_toS h1
    have h3 : ((ev E.T tc fr1).fr fun d fr2 => asB d fr2 fun k fr3 => Rs.ok k fr3).all _ (exE E σ1 tp F1 io1) := Rs.all_imp h2 (fun _ _ z => z) fun _ _ _ z => okS.exE hl1 z
    refine hc.test hl1 w1 h3 fun t fr2 H2 F2 io2 s2 p2 w2 z => ?_
    cases t with
    | false =>
      have z : (okS E tp F1 io1 D).next fr2 := z
      exact z σ1 H2 F2 io2 hl1 s2 p2 w2
    | true =>
      have z' : ((match exs E.T tB fr2 with
        | .next fr3 => whilN (fun fr1 => (ev E.T tc fr1).fr fun d fr2 => asB d fr2 fun k fr3 => .ok k fr3) (fun fr1 => exs E.T tB fr1) m fr3
        | .cont fr3 => whilN (fun fr1 => (ev E.T tc fr1).fr fun d fr2 => asB d fr2 fun k fr3 => .ok k fr3) (fun fr1 => exs E.T tB fr1) m fr3
        | .brk fr3 => .next fr3
        | r => r) : Sx).all (okS E tp F1 io1 D) := z
      rw [if_pos rfl]
      have s12 : Same F F2 := s1.trans s2
      have p12 : Pre io io2 := p1.trans p2
      refine ⟨fun σ' H' => ∃ fr F' io', σ'.length = E.X.N.length ∧ Same F F' ∧ Pre io io' ∧ E.ws fr (σ' ++ tp) H' F' io' ∧ (whilN (fun fr1 => (ev E.T tc fr1).fr fun d fr2 => asB d fr2 fun k fr3 => .ok k fr3) (fun fr1 => exs E.T tB fr1) m fr).all (okS E tp F' io' D),
        fun σ' H' q => ⟨m, Nat.lt_succ_self m, q⟩, ?_⟩
      refine hB fr2 σ1 tp H2 F2 io2 _ hl1 w2 ?_
      have z2 := okS.mono s2 p2 z'
      clear z z'
      cases q : exs E.T tB fr2 with
      | next fr3 => rw [q] at z2; exact fun σ3 H3 F3 io3 l3 s3 p3 w3 => ⟨fr3, F3, io3, l3, s12.trans s3, p12.trans p3, w3, okS.mono s3 p3 z2⟩
      | cont fr3 => rw [q] at z2; exact fun σ3 H3 F3 io3 l3 s3 p3 w3 => ⟨fr3, F3, io3, l3, s12.trans s3, p12.trans p3, w3, okS.mono s3 p3 z2⟩
      | brk fr3 => rw [q] at z2; exact z2
      | ret o fr3 => rw [q] at z2; exact z2
      | exc c fs fr3 => rw [q] at z2; exact z2
      | bad => rw [q] at z2; exact z2))) Xz.mk
/-- what a for walks -/
def wI (X : Cx) (tg iter : Expr) : TI := fun σ H R => ∀ (pins : List (Addr × Obj)) (s : Shared), Inv X pins σ H s → wpAny (model X.prog X.w) X.A (eval iter X.env) (fun v s1 => wpAny (model X.prog X.w) X.A (pyIter v) (PIE X pins σ tg R) X.xe s1) X.xe s
theorem pi_w {X : Cx} {tg iter : Expr} : PI X tg iter (wI X tg iter) := ⟨fun pins s σ H R I h => h pins s I⟩
theorem wI_of {X : Cx} {tg iter : Expr} {wi : TI} {σ : St} {H : Hp} {R : It → Hp → Prop} (h : PI X tg iter wi) (q : wi σ H R) : wI X tg iter σ H R := fun pins s I => h.run pins s σ H R I q
/-- a turn's thing: a part of F, or a new tuple of such -/
def YD (G : Glb) (F : Hp) (io : List Addr) (H : Hp) (v : V) (H' : Hp) (x : Ag.D) : Prop :=
  (H' = H ∧ Rep G F io x v) ∨ ∃ p vs ds, H p = none ∧ H' = upd H p (.tup vs) ∧ v = .ref p ∧ x = .tup ds ∧ Reps G F io ds vs
def WalkD (G : Glb) (J : It) (xs : List Ag.D) (F : Hp) (io : List Addr) : Prop := Walk J xs.length (fun H => Same F H) fun i H v H' => ∃ x, xs[i]? = some x ∧ YD G F io H v H' x
theorem YD.use {G : Glb} {H0 : Ent} {n0 : Nat} {ρ : St} {F0 : Hp} {io0 : List Addr} {H' : Hp} {v : V} {x : Ag.D} (y : YD G F0 io0 H v H' x) (s : Same F0 F) (p : Pre io0 io) (w : Ws G H0 n0 fr ρ H F io) : ∃ F', Same F F' ∧ Ws G H0 n0 fr ρ H' F' io ∧ Rep G F' io x v := @Rz _ _ (fun qz => @Hz.get _ _ (qz.bar : Hz _ (by
  clear qz
  rcases y with ⟨rfl, r⟩ | ⟨q, vs, ds, hq, rfl, rfl, rfl, r⟩
  · exact ⟨F, Same.refl _, w, r.mono s p⟩
  · exact w.newTup hq (r.mono s p)))) Xz.mk
def SI (E : En) (tg iter : Expr) (it : Iter) : Prop := ∀ (fr : Fr) (σ tp : St) (H F : Hp) (io : List Addr) (R : It → Hp → Prop), σ.length = E.X.N.length → E.ws fr (σ ++ tp) H F io →
  (evi E.T it fr).all (fun xs fr1 => ∀ J H1 F1 io1, Same F F1 → Pre io io1 → E.ws fr1 (σ ++ tp) H1 F1 io1 → WalkD E.G J xs F1 io1 → R J H1) (exE E σ tp F io) → wI E.X tg iter σ H R
theorem SS_for (ok : E.Ok) (hp : PassesOwn (model E.X.prog E.X.w) E.X.A E.X.env E.X.xe) {tg iter : Expr} {g : Tg} {it : Iter} {B : List Stmt} {tB : List Stm} (hi : SI E tg iter it) (hg : SG E tg g) (hB : SSs E B tB) (hs : ∀ x, foldedSetIterable iter E.X.env x = pure x) :
    SS E (.For tg iter B [] pos) (.for_ g it tB) := @Rz _ _ (fun qz => @Hz.get _ _ (qz.bar : Hz _ (by
  clear qz
  intro fr σ tp H F io D hl w h
  refine wS_of (ps_for hp ok.calm pi_w pg_w pss_w hs) ?_
  unfold ex at h
  refine hi fr σ tp H F io _ hl w (Rs.all_imp (Rs.all_toS h) (fun xs fr1 z => ?_) fun _ _ _ z => okS.exE hl z)
  intro J H1 F1 io1 s1 p1 w1 wd
  refine for_it (w := wd) (fun i σ H => ∃ fr F' io', σ.length = E.X.N.length ∧ Same F1 F' ∧ Pre io1 io' ∧ E.ws fr (σ ++ tp) H F' io' ∧ (forGo (bindT g) (fun fr2 => exs E.T tB fr2) (xs.drop i) fr).all (okS E tp F' io' D))
    ⟨fr1, F1, io1, hl, Same.refl _, Pre.refl _, w1, by simpa using okS.mono s1 p1 z⟩ (fun i σ H _ ⟨fr, F', io', _, s, _, w, _⟩ => s.trans w.wr.sub) ?_ ?_
  · rintro i v σ2 H2 H3 hlt ⟨fr2, F2, io2, l2, s2, p2, w2, h2⟩ ⟨x, ex, y⟩
    obtain ⟨F3, s3, w3, r3⟩ := y.use s2 p2 w2
    have ed : xs.drop i = x :: xs.drop (i + 1) := by
      obtain ⟨hlt', e⟩ := List.getElem?_eq_some_iff.mp ex
      rw [← e]; exact List.drop_eq_getElem_cons hlt'
    rw [ed] at h2
    unfold forGo at h2
    cases q : bindT g x fr2 with
    | none => rw [q] at h2; exact h2.elim
    | some fr3 =>
      rw [q] at h2
      refine hg fr2 fr3 σ2 tp H3 F3 io2 x v _ l2 w3 r3 q fun σ3 l3 w4 _ => ?_
      refine hB fr3 σ3 tp H3 F3 io2 _ l3 w4 ?_
      have h3 := okS.mono s3 (Pre.refl _) h2
      have s23 := s2.trans s3
      cases q2 : exs E.T tB fr3 with
      | next fr5 => simp only [q2] at h3; exact fun σ5 H5 F5 io5 l5 s5 p5 w5 => ⟨fr5, F5, io5, l5, s23.trans s5, p2.trans p5, w5, okS.mono s5 p5 h3⟩
      | cont fr5 => simp only [q2] at h3; exact fun σ5 H5 F5 io5 l5 s5 p5 w5 => ⟨fr5, F5, io5, l5, s23.trans s5, p2.trans p5, w5, okS.mono s5 p5 h3⟩
      | brk fr5 => simp only [q2] at h3; exact h3
      | ret o fr5 => simp only [q2] at h3; exact h3
      | exc c fs fr5 => simp only [q2] at h3; exact h3
      | bad => simp only [q2] at h3; exact h3
  · rintro σ2 H2 ⟨fr2, F2, io2, l2, s2, p2, w2, h2⟩
    rw [List.drop_length] at h2
    unfold forGo at h2
    exact h2 σ2 H2 F2 io2 l2 (Same.refl _) (Pre.refl _) w2))) Xz.mk
end
end Ag
namespace Ag
open PySem PySem.Spec L2
section
variable {X : Cx} {pins : List (Addr × Obj)} {σ : St} {H : Hp} {s : Shared} {a : Addr} {tg : Expr} {R : It → Hp → Prop}
theorem iter_list (I : Inv X pins σ H s) {xs : List V} (hq : SqL X.K H a xs) (q : R (Itl X.K a) H) : wpAny (model X.prog X.w) X.A (pyIter (.ref a)) (PIE X pins σ tg R) X.xe s := @Rz _ _ (fun qz => @Hz.get _ _ (qz.bar : Hz _ (by
  clear qz
  obtain ⟨its, rv, p, hz⟩ := I.list hq
  refine wpAny_pyIter_list p.isList ?_
  refine ⟨s.heap.objs.size, [s.heap.objs.size], _, _, H, rfl, I.kept (t' := s.toks) fun b o e => Heap.get?_push_of_some _ e, turn_list a _, ⟨_, Heap.get?_push_size _ rfl, rfl, rfl⟩, fun b hb => ?_, q⟩
  have e : b = s.heap.objs.size := by simpa using hb
  subst e
  exact I.fpOk (Nat.le_refl _) (I.hok.fresh (Nat.le_refl _))))) Xz.mk
theorem iter_tup (I : Inv X pins σ H s) {xs : List V} (hq : SqT X.K H a xs) (q : R (Itt X.K a) H) : wpAny (model X.prog X.w) X.A (pyIter (.ref a)) (PIE X pins σ tg R) X.xe s := @Rz _ _ (fun qz => @Hz.get _ _ (qz.bar : Hz _ (by
  clear qz
  obtain ⟨its, rv, p, hz⟩ := I.tuple hq
  refine wpAny_pyIter_tuple (show s.heap.IsTuple a its.toArray from p) ?_
  refine ⟨s.heap.objs.size, [s.heap.objs.size], _, _, H, rfl, I.kept (t' := s.toks) fun b o e => Heap.get?_push_of_some _ e, turn_tuple a _, ⟨_, Heap.get?_push_size _ rfl, rfl, rfl⟩, fun b hb => ?_, q⟩
  have e : b = s.heap.objs.size := by simpa using hb
  subst e
  exact I.fpOk (Nat.le_refl _) (I.hok.fresh (Nat.le_refl _))))) Xz.mk
end
section
variable {E : En} {e a b c : Expr} {ta tb tc : Tm} {fr : Fr} {σ tp : St} {H F : Hp} {io : List Addr} {Q : VK} {pos : Pos} {es : List Expr} {ts : List Tm} {D : Ends}
theorem walkL {G : Glb} {p : Addr} {vs : List V} {xs : List Ag.D} (h : F p = some (.lst vs)) (r : Reps G F io xs vs) : WalkD G (Itl G.K p) xs F io := @Rz _ _ (fun qz => @Hz.get _ _ (qz.bar : Hz _ (by
  clear qz
  have w := walk_list (K := G.K) (a := p) (xs := vs)
  refine ⟨fun i H hi s => w.goes i H (by rw [← r.length]; exact hi) (SqL.of (s _ _ h)), fun H s => by rw [r.length]; exact w.stops H (SqL.of (s _ _ h)), fun i H x H' hi s y => ?_⟩
  obtain ⟨e1, e2⟩ := w.yields i H x H' (by rw [← r.length]; exact hi) (SqL.of (s _ _ h)) y
  obtain ⟨u, g1, g2⟩ := r.get (List.getElem?_eq_getElem hi)
  rw [e2] at g1; cases g1
  exact ⟨_, List.getElem?_eq_getElem hi, .inl ⟨e1, g2⟩⟩))) Xz.mk
theorem walkT {G : Glb} {p : Addr} {vs : List V} {xs : List Ag.D} (h : SqT G.K F p vs) (r : Reps G F io xs vs) : WalkD G (Itt G.K p) xs F io := @Rz _ _ (fun qz => @Hz.get _ _ (qz.bar : Hz _ (by
  clear qz
  have w := walk_tup (K := G.K) (a := p) (xs := vs)
  refine ⟨fun i H hi s => w.goes i H (by rw [← r.length]; exact hi) (Same.sqT s h), fun H s => by rw [r.length]; exact w.stops H (Same.sqT s h), fun i H x H' hi s y => ?_⟩
  obtain ⟨e1, e2⟩ := w.yields i H x H' (by rw [← r.length]; exact hi) (Same.sqT s h) y
  obtain ⟨u, g1, g2⟩ := r.get (List.getElem?_eq_getElem hi)
  rw [e2] at g1; cases g1
  exact ⟨_, List.getElem?_eq_getElem hi, .inl ⟨e1, g2⟩⟩))) Xz.mk
theorem SI_seq (ok : E.Ok) {tg : Expr} (ha : SE E a ta) : SI E tg a (.seq ta) := @Rz _ _ (fun qz => @Hz.get _ _ (qz.bar : Hz _ (by
  clear qz
  intro fr σ tp H F io R hl w h
  unfold evi at h
  have hw : wE E.X a σ H fun v H1 => (∃ p xs, v = .ref p ∧ SqL E.X.K H1 p xs ∧ R (Itl E.X.K p) H1) ∨ (∃ p xs, v = .ref p ∧ SqT E.X.K H1 p xs ∧ R (Itt E.X.K p) H1) := by
    refine ha.part hl w h fun d fr1 v H1 F1 io1 s p w1 r z => ?_
    cases d with
    | lst xs =>
      cases r with
      | lst h1 r1 => exact .inl ⟨_, _, rfl, SqL.of (w1.wr.sub _ _ h1), ok.k ▸ z _ H1 F1 io1 s p w1 (walkL h1 r1)⟩
    | tup xs =>
      cases r with
      | tup h1 r1 => exact .inr ⟨_, _, rfl, ok.k ▸ Same.sqT w1.wr.sub h1, ok.k ▸ z _ H1 F1 io1 s p w1 (walkT h1 r1)⟩
    | _ => exact z.elim
  intro pins s I
  refine thn (hw pins s I) fun v s1 ⟨x, H1, I1, rx, q⟩ => ?_
  rcases q with ⟨p, xs, rfl, h1, q⟩ | ⟨p, xs, rfl, h1, q⟩
  · obtain rfl : v = Value.ref p := rx
    exact iter_list I1 h1 q
  · obtain rfl : v = Value.ref p := rx
    exact iter_tup I1 h1 q))) Xz.mk
theorem range_get {lo : Int} {n i : Nat} (h : i < n) : (rangeD lo n)[i]? = some (.int (lo + (i : Int))) := @Rz _ _ (fun qz => @Hz.get _ _ (qz.bar : Hz _ (by
  clear qz
  unfold rangeD
  rw [List.getElem?_map, List.getElem?_range h]; rfl))) Xz.mk
theorem range_len {lo : Int} {n : Nat} : (rangeD lo n).length = n := by unfold rangeD; rw [List.length_map, List.length_range]
theorem walkR {G : Glb} {lo : Int} {n : Nat} : WalkD G (Itr lo n) (rangeD lo n) F io := @Rz _ _ (fun qz => @Hz.get _ _ (qz.bar : Hz _ (by
  clear qz
  have w := walk_range (lo := lo) (n := n)
  refine ⟨fun i H hi s => w.goes i H (by rw [range_len] at hi; exact hi) trivial, fun H s => by rw [range_len]; exact w.stops H trivial, fun i H x H' hi s y => ?_⟩
  rw [range_len] at hi
  obtain ⟨e1, e2⟩ := w.yields i H x H' hi trivial y
  refine ⟨_, range_get hi, .inl ⟨e1, ?_⟩⟩
  rw [e2]; exact .int _))) Xz.mk
theorem SI_range1 (ok : E.Ok) {tg : Expr} {p : Pos} (hg : Gl E.X "range") (hm : E.X.mg "range" = none) (hs : notStar a = true) (ha : SE E a ta) : SI E tg (.Call (.Name "range" p) [a] [] pos) (.range1 ta) := @Rz _ _ (fun qz => @Hz.get _ _ (qz.bar : Hz _ (by
  clear qz
  intro fr σ tp H F io R hl w h
  refine wI_of (pi_range1 hg hm (pa_cons pe_w pa_nil (star_ne hs _ _)) (star_ne hs _ _)) ?_
  unfold evi at h
  show wE E.X a σ H _
  refine ha.part hl w h fun d fr1 v H1 F1 io1 s p w1 r z => ?_
  cases d with
  | int n =>
    cases r
    have z : ((if n < 2 ^ 62 ∧ -(2 ^ 62) < n then Rs.ok (rangeD 0 n.toNat) fr1 else .bad : Rs (List Ag.D))).all _ (exE E σ tp F1 io1) := z
    split at z
    case isFalse => exact z.elim
    rename_i hz
    exact ⟨n, rfl, by omega, by omega, z _ H1 F1 io1 s p w1 walkR⟩
  | _ => exact z.elim))) Xz.mk
theorem SI_range2 (ok : E.Ok) {tg : Expr} {p : Pos} (hg : Gl E.X "range") (hm : E.X.mg "range" = none) (hs : notStar a = true) (hs2 : notStar b = true) (ha : SE E a ta) (hb : SE E b tb) : SI E tg (.Call (.Name "range" p) [a, b] [] pos) (.range2 ta tb) := @Rz _ _ (fun qz => @Hz.get _ _ (qz.bar : Hz _ (by
  clear qz
  intro fr σ tp H F io R hl w h
  refine wI_of (pi_range2 hg hm (pa_cons pe_w (pa_cons pe_w pa_nil (star_ne hs2 _ _)) (star_ne hs _ _)) (by rw [star_ne hs, star_ne hs2]; rfl) (star_ne hs2 _ _)) ?_
  unfold evi at h
  show wE E.X a σ H fun x H1 => wE E.X b σ H1 fun y H2 => _
  refine ha.part hl w h fun d fr1 v H1 F1 io1 s1 p1 w1 r1 z => ?_
  refine hb.part hl w1 z fun d2 fr2 v2 H2 F2 io2 s2 p2 w2 r2 z2 => ?_
  cases d with
  | int i =>
    cases d2 with
    | int j =>
      cases r1
      cases r2
      have z2 : ((if -(2 ^ 62) < i ∧ i < 2 ^ 62 ∧ -(2 ^ 62) < j ∧ j < 2 ^ 62 then Rs.ok (rangeD i (j - i).toNat) fr2 else .bad : Rs (List Ag.D))).all _ (exE E σ tp F2 io2) := z2
      split at z2
      case isFalse => exact z2.elim
      rename_i hz
      exact ⟨i, j, rfl, ⟨by omega, by omega, by omega, by omega⟩, z2 _ H2 F2 io2 (s1.trans s2) (p1.trans p2) w2 walkR⟩
    | _ => exact z2.elim
  | _ => exact z2.elim))) Xz.mk
end
end Ag
namespace Ag
open PySem PySem.Spec L2
/-! ### list comprehensions -/
theorem wipeE_len (env : List Slot) : ∀ vs : List Nat, (wipeE env vs).length = env.length
  | [] => rfl
  | v :: vs => by unfold wipeE; rw [List.length_set, wipeE_len env vs]
theorem wipeE_out {env : List Slot} {i : Nat} : ∀ {vs : List Nat}, i ∉ vs → (wipeE env vs)[i]? = env[i]?
  | [], _ => rfl
  | v :: vs, h => by
    rw [List.mem_cons, not_or] at h
    unfold wipeE
    rw [List.getElem?_set_ne (fun z => h.1 z.symm), wipeE_out h.2]
theorem wipeE_in {env : List Slot} {i : Nat} (hi : i < env.length) : ∀ {vs : List Nat}, i ∈ vs → (wipeE env vs)[i]? = some .un
  | v :: vs, h => by
    unfold wipeE
    by_cases q : v = i
    · subst q
      rw [List.getElem?_set_self (by rw [wipeE_len]; exact hi)]
    · rw [List.getElem?_set_ne q]
      exact wipeE_in hi ((List.mem_cons.mp h).resolve_left fun z => q z.symm)
theorem backE_len (old env : List Slot) : ∀ vs : List Nat, (backE old env vs).length = env.length
  | [] => rfl
  | v :: vs => by unfold backE; rw [List.length_set, backE_len old env vs]
theorem backE_out {old env : List Slot} {i : Nat} : ∀ {vs : List Nat}, i ∉ vs → (backE old env vs)[i]? = env[i]?
  | [], _ => rfl
  | v :: vs, h => by
    rw [List.mem_cons, not_or] at h
    unfold backE
    rw [List.getElem?_set_ne (fun z => h.1 z.symm), backE_out h.2]
theorem backE_in {old env : List Slot} {i : Nat} (hi : i < env.length) : ∀ {vs : List Nat}, i ∈ vs → (backE old env vs)[i]? = some (old.getD i .un)
  | v :: vs, h => by
    unfold backE
    by_cases q : v = i
    · subst q
      rw [List.getElem?_set_self (by rw [backE_len]; exact hi)]
    · rw [List.getElem?_set_ne q]
      exact backE_in hi ((List.mem_cons.mp h).resolve_left fun z => q z.symm)
theorem wipe_in {σ : St} {i : Nat} (hi : i < σ.length) : ∀ {vs : List Nat}, i ∈ vs → (wipe σ vs)[i]? = some none
  | v :: vs, h => by
    unfold wipe
    by_cases q : v = i
    · subst q
      rw [List.getElem?_set_self (by rw [wipe_length]; exact hi)]
    · rw [List.getElem?_set_ne q]
      exact wipe_in hi ((List.mem_cons.mp h).resolve_left fun z => q z.symm)
theorem wipe_app {σ tp : St} {i : Nat} {vs : List Nat} (h : i ∉ vs) : (wipe σ vs ++ tp)[i]? = (σ ++ tp)[i]? := @Rz _ _ (fun qz => @Hz.get _ _ (qz.bar : Hz _ (by
  clear qz
  by_cases q : i < σ.length
  · rw [List.getElem?_append_left (by rw [wipe_length]; exact q), List.getElem?_append_left q, wipe_out h]
  · rw [List.getElem?_append_right (by rw [wipe_length]; omega), List.getElem?_append_right (by omega), wipe_length]))) Xz.mk
theorem wipe_same {σ σ' : St} {vs : List Nat} (hl : σ'.length = σ.length) (h : ∀ i, i ∉ vs → σ'[i]? = σ[i]?) : wipe σ' vs = wipe σ vs := @Rz _ _ (fun qz => @Hz.get _ _ (qz.bar : Hz _ (by
  clear qz
  refine List.ext_getElem? fun i => ?_
  by_cases q : i ∈ vs
  · by_cases hi : i < σ.length
    · rw [wipe_in hi q, wipe_in (by omega) q]
    · rw [List.getElem?_eq_none (by rw [wipe_length]; omega), List.getElem?_eq_none (by rw [wipe_length]; omega)]
  · rw [wipe_out q, wipe_out q, h i q]))) Xz.mk
section
variable {G : Glb} {H0 : Ent} {n0 : Nat} {fr fr1 fr2 : Fr} {σ tp : St} {H H1 F F1 F2 : Hp} {io io1 io2 : List Addr} {vs : List Nat}
theorem ws_wipe (w : Ws G H0 n0 fr (σ ++ tp) H F io) (hv : ∀ i ∈ vs, i < σ.length) : Ws G H0 n0 { fr with env := wipeE fr.env vs } (wipe σ vs ++ tp) H F io := @Rz _ _ (fun qz => @Hz.get _ _ (qz.bar : Hz _ (by
  clear qz
  have hlen : fr.env.length = σ.length + tp.length := by rw [w.sl.len, List.length_append]
  have un : ∀ {i : Nat} {s : Slot}, (wipeE fr.env vs)[i]? = some s → i ∈ vs → s = .un := fun {i s} e q => by
    rw [wipeE_in (by have := hv i q; omega) q] at e
    cases e; rfl
  refine ⟨w.wr, by show (wipeE fr.env vs).length = _; rw [wipeE_len, List.length_append, wipe_length]; exact hlen, fun i s e => ?_, fun i j xs ys p e1 e2 h1 h2 => ?_⟩
  · by_cases q : i ∈ vs
    · rw [un e q]; trivial
    · rw [wipe_app q]
      exact w.sl.at_ i s (by rw [← wipeE_out q]; exact e)
  · have q1 : i ∉ vs := fun q => by cases un e1 q
    have q2 : j ∉ vs := fun q => by cases un e2 q
    rw [wipe_app q1] at h1
    rw [wipe_app q2] at h2
    exact w.sl.dis i j xs ys p (by rw [← wipeE_out q1]; exact e1) (by rw [← wipeE_out q2]; exact e2) h1 h2))) Xz.mk
theorem free_at (h : ownFree fr.env vs = true) {i : Nat} (hi : i ∈ vs) {xs : List D} (e : fr.env[i]? = some (.own xs)) : False := @Rz _ _ (fun qz => @Hz.get _ _ (qz.bar : Hz _ (by
  clear qz
  unfold ownFree at h
  have := List.all_eq_true.mp h i hi
  rw [e] at this
  cases this))) Xz.mk
theorem ws_back {x : Option V} (w1 : Ws G H0 n0 fr1 (σ ++ tp) H1 F1 io1) (free : ownFree fr1.env vs = true) (w2 : Ws G H0 n0 { fr2 with env := wipeE fr2.env vs } (wipe σ vs ++ (tp ++ [x])) H F2 io2) (s : Same F1 F2) (p : Pre io1 io2) (hv : ∀ i ∈ vs, i < σ.length) :
    Ws G H0 n0 { fr2 with env := backE fr1.env (fr2.env.take fr1.env.length) vs } (σ ++ tp) H F2 io2 := by
  have hlen : fr1.env.length = σ.length + tp.length := by rw [w1.sl.len, List.length_append]
  have hl2 : fr2.env.length = σ.length + tp.length + 1 := by
    have : (wipeE fr2.env vs).length = _ := w2.sl.len
    rw [wipeE_len, List.length_append, wipe_length, List.length_append] at this
    simp at this
    omega
  have tl : (fr2.env.take fr1.env.length).length = σ.length + tp.length := by rw [List.length_take]; omega
  have inn : ∀ {i : Nat} {sl : Slot}, (backE fr1.env (fr2.env.take fr1.env.length) vs)[i]? = some sl → i ∈ vs → fr1.env[i]? = some sl := fun {i sl} e q => by
    have hi := hv i q
    rw [backE_in (by omega) q] at e
    cases e
    rw [List.getD_eq_getElem?_getD, List.getElem?_eq_getElem (by omega)]; rfl
  have out : ∀ {i : Nat} {sl : Slot}, (backE fr1.env (fr2.env.take fr1.env.length) vs)[i]? = some sl → i ∉ vs → (wipeE fr2.env vs)[i]? = some sl ∧ (wipe σ vs ++ (tp ++ [x]))[i]? = (σ ++ tp)[i]? := fun {i sl} e q => by
    rw [backE_out q, List.getElem?_take] at e
    split at e
    · rename_i hlt
      refine ⟨by rw [wipeE_out q]; exact e, ?_⟩
      rw [wipe_app q, ← List.append_assoc, List.getElem?_append_left (by rw [List.length_append]; omega)]
    · cases e
  refine ⟨w2.wr, by show (backE fr1.env (fr2.env.take fr1.env.length) vs).length = _; rw [backE_len, tl, List.length_append], fun i sl e => ?_, fun i j xs ys q e1 e2 h1 h2 => ?_⟩
  · by_cases q : i ∈ vs
    · have e1 := inn e q
      have k := w1.sl.at_ i sl e1
      cases sl with
      | un => trivial
      | val d => obtain ⟨v, k1, r⟩ := k; exact ⟨v, k1, r.mono s p⟩
      | own xs => exact (free_at free q e1).elim
    · obtain ⟨e1, e2⟩ := out e q
      rw [← e2]
      exact w2.sl.at_ i sl e1
  · have q1 : i ∉ vs := fun q => free_at free q (inn e1 q)
    have q2 : j ∉ vs := fun q => free_at free q (inn e2 q)
    obtain ⟨a1, b1⟩ := out e1 q1
    obtain ⟨a2, b2⟩ := out e2 q2
    rw [← b1] at h1
    rw [← b2] at h2
    exact w2.sl.dis i j xs ys q a1 a2 h1 h2
end
theorem calm_all {α β : Type} {m : Rs α} {k : α → Fr → Rs β} {P : β → Fr → Prop} {PX PX' : Nat → List D → Fr → Prop} (h : (m.calm.bind k).all P PX) : m.all (fun a fr => (k a fr).all P PX) PX' := @Rz _ _ (fun qz => @Hz.get _ _ (qz.bar : Hz _ (by
  clear qz
  cases m with
  | ok a fr => exact h
  | exc c fs fr => exact h.elim
  | bad => exact h.elim))) Xz.mk
def En.blk (E : En) (s : Shared) (H : Hp) (scope : Scope) (C : Addr) (cl : List (Str × Addr)) (fp : List Addr) : En :=
  { E with X := E.X.blk s H scope (compEnvC scope cl C E.X.env) fp, W := fun _ _ _ _ => False }
theorem En.Ok.blk {E : En} (ok : E.Ok) (s : Shared) (H : Hp) (scope : Scope) (C : Addr) (cl : List (Str × Addr)) (fp : List Addr) : (E.blk s H scope C cl fp).Ok :=
  ⟨ok.k, ok.nd, ok.calm, ok.hu5, fun u s' ⟨a, B, sI, pins, σ, H, cls, d, e, I, nb, up, sky, na, os, ag, w⟩ => w, ok.inj, ok.fld⟩
/-- a clause's tests, the weakest reading -/
def wTs (X : Cx) (ifs : List Expr) : TT := fun σ H Q => ∀ (pins : List (Addr × Obj)) (s : Shared), Inv X pins σ H s →
  wpAny (model X.prog X.w) X.A (forIn ifs true fun c r => if r = true then do let ok ← isTrue c X.env (eval c X.env); pure (ForInStep.yield ok) else pure (ForInStep.yield r)) (TP X pins σ Q) X.xe s
def SCs (E : En) (ifs : List Expr) (tc : Option Tm) : Prop := ∀ (fr : Fr) (σ tp : St) (H F : Hp) (io : List Addr) (Q : Bool → Hp → Prop) (P1 : Bool → Fr → Prop), σ.length = E.X.N.length → E.ws fr (σ ++ tp) H F io →
  (evc E.T tc fr).all P1 (fun _ _ _ => False) → (∀ b fr1 H1 F1 io1, Same F F1 → Pre io io1 → E.ws fr1 (σ ++ tp) H1 F1 io1 → P1 b fr1 → Q b H1) → wTs E.X ifs σ H Q
theorem scs_nil {E : En} : SCs E [] none := fun fr σ tp H F io Q P1 hl w h q pins s I =>
  (pts_nil (X := E.X)).run pins s σ H Q I (q true fr H F io (Same.refl _) (Pre.refl _) w (by unfold evc at h; exact h))
theorem scs_one {E : En} {c : Expr} {t : Tm} (hc : ST E c t) : SCs E [c] (some t) := fun fr σ tp H F io Q P1 hl w h q pins s I => by
  refine (pts_one pt_w).run pins s σ H Q I ?_
  unfold evc at h
  exact hc.test hl w (P := P1) (Rs.all_imp h (fun _ _ z => z) fun _ _ _ z => z.elim) fun t fr1 H1 F1 io1 s p w1 z => q t fr1 H1 F1 io1 s p w1 z
def wGB (X : Cx) (scope : Scope) (tg : Expr) : TG := fun v σ H Q => ∀ s0 H0 C cl fp, wG (X.blk s0 H0 scope (compEnvC scope cl C X.env) fp) tg v σ H Q
def wTB (X : Cx) (scope : Scope) (ifs : List Expr) : TT := fun σ H Q => ∀ s0 H0 C cl fp, wTs (X.blk s0 H0 scope (compEnvC scope cl C X.env) fp) ifs σ H Q
def wEB (X : Cx) (scope : Scope) (e : Expr) : TE := fun σ H Q => ∀ s0 H0 C cl fp, wE (X.blk s0 H0 scope (compEnvC scope cl C X.env) fp) e σ H Q
theorem comp_tLc {E : En} (ok : E.Ok) {elt tg iter : Expr} {ifs : List Expr} {scope : Scope} {own : List (Str × Nat)} {g : Tg} {it : Iter} {tc : Option Tm} {telt : Tm} (hb : BlkOk E.X.N E.X.env.scope scope own) (hi : SI E tg iter it)
    (hgx : ∀ i ∈ tgIx g, i ∈ own.map (·.2)) (hg : ∀ s H C cl fp, SG (E.blk s H scope C cl fp) tg g) (hc : ∀ s H C cl fp, SCs (E.blk s H scope C cl fp) ifs tc) (he : ∀ s H C cl fp, SE (E.blk s H scope C cl fp) elt telt)
    {fr : Fr} {σ tp : St} {H F : Hp} {io : List Addr} {Q : VK} (hl : σ.length = E.X.N.length) (w : E.ws fr (σ ++ tp) H F io) (h : (ev E.T (.comp telt g it tc (own.map (·.2))) fr).all (okE E σ tp F io Q) (exE E σ tp F io)) :
    tLc (wI E.X tg iter) (wGB E.X scope tg) (wTB E.X scope ifs) (wEB E.X scope elt) (own.map (·.2)) σ H Q := @Rz _ _ (fun qz => @Hz.get _ _ (qz.bar : Hz _ (by
  clear qz
  unfold ev at h
  have hv : ∀ i ∈ own.map (·.2), i < σ.length := fun i hi => by
    obtain ⟨p, hp, rfl⟩ := List.mem_map.mp hi
    rw [hl]
    exact (List.getElem?_eq_some_iff.mp (hb.ix p hp)).1
  generalize own.map (·.2) = vs at h hgx hv ⊢
  show wI E.X tg iter σ H _
  refine hi fr σ tp H F io _ hl w (Rs.all_imp (Rs.all_bind h) (fun xs fr1 z => ?_) fun _ _ _ z => z)
  intro J H1 F1 io1 s1 p1 w1 wd D hD
  have z : ((if ownFree fr1.env vs = true then _ else _) : Rs RV).all _ _ := z
  split at z
  case isFalse => exact z.elim
  rename_i free
  have z := Rs.all_bind z
  have hlen : fr1.env.length = σ.length + tp.length := by rw [w1.sl.len, List.length_append]
  have nv : fr1.env.length ∉ vs := fun q => by have := hv _ q; omega
  have atn : ∀ {σ' : St}, σ'.length = σ.length → (σ' ++ (tp ++ [some (V.ref D)]))[fr1.env.length]? = some (some (.ref D)) := fun {σ'} e => by
    rw [← List.append_assoc, List.getElem?_append_right (by rw [List.length_append]; omega)]
    rw [show fr1.env.length - (σ' ++ tp).length = 0 by rw [List.length_append]; omega]
    rfl
  refine ⟨fun i m Hc => i ≤ xs.length ∧ m = xs.length - i ∧ ∃ fr2 F2 io2, Same F1 F2 ∧ Pre io1 io2 ∧ E.ws { fr2 with env := wipeE fr2.env vs } (wipe σ vs ++ (tp ++ [some (V.ref D)])) Hc F2 io2 ∧
      (compGo fr1.env.length (bindT g) vs (fun fr2 => evc E.T tc fr2) (fun fr2 => (ev E.T telt fr2).fr fun d fr3 => .ok d fr3) (xs.drop i) fr2).all
        (fun _ fr3 => ((match fr3.env[fr1.env.length]? with | some (.own acc) => .ok (.out (.fresh acc)) { fr3 with env := backE fr1.env (fr3.env.take fr1.env.length) vs } | _ => .bad) : Rs RV).all (okE E σ tp F io Q) (exE E σ tp F io)) (exE E σ tp F io),
    ⟨xs.length, Nat.zero_le _, rfl, { fr1 with env := fr1.env ++ [.own []] }, F1, io1, Same.refl _, Pre.refl _, ?_, z⟩, ?_⟩
  · obtain ⟨w2, rv⟩ := w1.newOwn hD (xs := []) .nil
    have w3 := w2.keepT rv
    rw [List.append_assoc] at w3
    exact ws_wipe w3 hv
  · rintro i m Hc ⟨hile, rfl, fr2, F2, io2, s2, p2, w2, hgo⟩
    have sub : Same F1 Hc := s2.trans w2.wr.sub
    by_cases q : i < xs.length
    · refine .inr ⟨wd.goes i Hc q sub, fun H' => i + 1 ≤ xs.length ∧ ∃ fr2 F2 io2, Same F1 F2 ∧ Pre io1 io2 ∧ E.ws { fr2 with env := wipeE fr2.env vs } (wipe σ vs ++ (tp ++ [some (V.ref D)])) H' F2 io2 ∧
        (compGo fr1.env.length (bindT g) vs (fun fr2 => evc E.T tc fr2) (fun fr2 => (ev E.T telt fr2).fr fun d fr3 => .ok d fr3) (xs.drop (i + 1)) fr2).all
        (fun _ fr3 => ((match fr3.env[fr1.env.length]? with | some (.own acc) => .ok (.out (.fresh acc)) { fr3 with env := backE fr1.env (fr3.env.take fr1.env.length) vs } | _ => .bad) : Rs RV).all (okE E σ tp F io Q) (exE E σ tp F io)) (exE E σ tp F io),
        fun H' nx => ⟨xs.length - (i + 1), by omega, nx.1, rfl, nx.2⟩, fun x H' y => ?_⟩
      obtain ⟨d, ed, yd⟩ := wd.yields i Hc x H' q sub y
      obtain ⟨F3, s3, w3, r3⟩ := yd.use s2 p2 w2
      have edr : xs.drop i = d :: xs.drop (i + 1) := by
        obtain ⟨hlt', e⟩ := List.getElem?_eq_some_iff.mp ed
        rw [← e]; exact List.drop_eq_getElem_cons hlt'
      rw [edr] at hgo
      unfold compGo at hgo
      cases eb : bindT g d { fr2 with env := wipeE fr2.env vs } with
      | none => rw [eb] at hgo; exact hgo.elim
      | some fr3 =>
        rw [eb] at hgo
        intro sa Ha Ca cla fpa
        refine hg sa Ha Ca cla fpa { fr2 with env := wipeE fr2.env vs } fr3 (wipe σ vs) (tp ++ [some (V.ref D)]) H' F3 io2 d x _ (by rw [wipe_length]; exact hl) w3 r3 eb fun σ3 l3 w4 k3 => ?_
        have l3' : σ3.length = σ.length := by rw [hl]; exact l3
        have we : wipe σ3 vs = wipe σ vs := wipe_same l3' fun j hj => by rw [k3 j (fun z => hj (hgx j z)), wipe_out hj]
        have hv3 : ∀ i ∈ vs, i < σ3.length := fun i hi => by rw [l3']; exact hv i hi
        have s23 := s2.trans s3
        refine ⟨we, ?_⟩
        intro sb Hb Cb clb fpb
        refine hc sb Hb Cb clb fpb fr3 σ3 (tp ++ [some (V.ref D)]) H' F3 io2 _ _ l3 w4 (calm_all hgo) fun b fr4 H4 F4 io4 s4 p4 w5 h5 => ?_
        cases b with
        | false =>
          have h5 : (compGo _ _ _ _ _ _ fr4).all _ _ := h5
          rw [if_neg (by decide)]
          exact ⟨q, fr4, F4, io4, s23.trans s4, p2.trans p4, by rw [← we]; exact ws_wipe w5 hv3, h5⟩
        | true =>
          have h5 : (((ev E.T telt fr4).fr fun d fr3 => Rs.ok d fr3).calm.bind _).all _ _ := h5
          rw [if_pos rfl]
          intro sc Hc2 Cc clc fpc
          refine (he sc Hc2 Cc clc fpc).part l3 w5 (calm_all h5) fun d5 fr5 v H5 F5 io5 s5 p5 w6 r5 h6 => ?_
          have h6 : ((match fr5.env[fr1.env.length]? with
            | some (.own acc) => if acc.length < sizeLine then compGo fr1.env.length (bindT g) vs (fun fr2 => evc E.T tc fr2) (fun fr2 => (ev E.T telt fr2).fr fun d fr3 => .ok d fr3) (xs.drop (i + 1)) { fr5 with env := fr5.env.set fr1.env.length (.own (acc ++ [d5])) } else .bad
            | _ => .bad) : Rs Unit).all _ _ := h6
          cases e5 : fr5.env[fr1.env.length]? with
          | none => rw [e5] at h6; exact h6.elim
          | some sl =>
            rw [e5] at h6
            cases sl with
            | un => exact h6.elim
            | val d => exact h6.elim
            | own acc =>
              obtain ⟨pp, e6, us, g1, g2, g3, g4, g5⟩ := w6.sl.at_ _ _ e5
              rw [atn l3'] at e6
              cases e6
              have h6 : ((if acc.length < sizeLine then _ else _) : Rs Unit).all _ _ := h6
              split at h6
              case isFalse => exact h6.elim
              rename_i hz
              refine ⟨us, g1, by rw [← g5.length]; exact hz, q, _, F5, io5, (s23.trans s4).trans s5, (p2.trans p4).trans p5, ?_, h6⟩
              have w7 := w6.ownPut e5 (atn l3') (g5.append (.cons r5 .nil))
              rw [← we]
              exact ws_wipe w7 hv3
    · have hie : i = xs.length := by omega
      subst hie
      refine .inl ⟨wd.stops Hc sub, ?_⟩
      rw [List.drop_length] at hgo
      unfold compGo at hgo
      have hgo : ((match fr2.env[fr1.env.length]? with | some (.own acc) => .ok (.out (.fresh acc)) { fr2 with env := backE fr1.env (fr2.env.take fr1.env.length) vs } | _ => .bad) : Rs RV).all (okE E σ tp F io Q) (exE E σ tp F io) := hgo
      cases e5 : fr2.env[fr1.env.length]? with
      | none => rw [e5] at hgo; exact hgo.elim
      | some sl =>
        rw [e5] at hgo
        cases sl with
        | un => exact hgo.elim
        | val d => exact hgo.elim
        | own acc =>
          have hgo : okE E σ tp F io Q (.out (.fresh acc)) { fr2 with env := backE fr1.env (fr2.env.take fr1.env.length) vs } := hgo
          have e6 : (wipeE fr2.env vs)[fr1.env.length]? = some (.own acc) := by rw [wipeE_out nv]; exact e5
          obtain ⟨pp, e7, own'⟩ := w2.sl.at_ _ _ e6
          rw [atn (wipe_length _ _)] at e7
          cases e7
          have w8 := ws_back w1 free w2 s2 p2 hv
          refine hgo (.ref D) Hc F2 io2 (s1.trans s2) (p1.trans p2) w8 ⟨D, rfl, own', fun j ys e hj => ?_⟩
          have hlt : j < fr1.env.length := by
            have := (List.getElem?_eq_some_iff.mp e).1
            have e : (backE fr1.env (fr2.env.take fr1.env.length) vs)[j]? = some (.own ys) := e
            have := (List.getElem?_eq_some_iff.mp e).1
            rw [backE_len, List.length_take] at this
            omega
          have e : (backE fr1.env (fr2.env.take fr1.env.length) vs)[j]? = some (.own ys) := e
          by_cases qj : j ∈ vs
          · have hj2 := hv j qj
            have hl2 : fr2.env.length = fr1.env.length + 1 := by
              have : (wipeE fr2.env vs).length = _ := w2.sl.len
              rw [wipeE_len, List.length_append, wipe_length, List.length_append] at this
              simp at this
              omega
            rw [backE_in (by rw [List.length_take]; omega) qj] at e
            have e' : fr1.env[j]? = some (.own ys) := by
              have e2 : fr1.env.getD j .un = .own ys := Option.some.inj e
              rw [List.getD_eq_getElem?_getD, List.getElem?_eq_getElem hlt] at e2
              rw [List.getElem?_eq_getElem hlt]
              exact congrArg some e2
            exact free_at free qj e'
          · have e' : (wipeE fr2.env vs)[j]? = some (.own ys) := by
              rw [backE_out qj, List.getElem?_take, if_pos hlt] at e
              rw [wipeE_out qj]; exact e
            have hj' : (wipe σ vs ++ (tp ++ [some (V.ref D)]))[j]? = some (some (.ref D)) := by
              rw [wipe_app qj, ← List.append_assoc, List.getElem?_append_left (by rw [List.length_append]; omega)]
              exact hj
            have := w2.sl.dis j fr1.env.length ys acc D e' e6 hj' (atn (wipe_length _ _))
            omega))) Xz.mk
theorem SE_comp {E : En} (ok : E.Ok) {elt tg iter : Expr} {ifs : List Expr} {scope : Scope} {own : List (Str × Nat)} {pos : Pos} {g : Tg} {it : Iter} {tc : Option Tm} {telt : Tm} (hb : BlkOk E.X.N E.X.env.scope scope own) (hi : SI E tg iter it)
    (hgx : ∀ i ∈ tgIx g, i ∈ own.map (·.2)) (hg : ∀ s H C cl fp, SG (E.blk s H scope C cl fp) tg g) (hc : ∀ s H C cl fp, SCs (E.blk s H scope C cl fp) ifs tc) (he : ∀ s H C cl fp, SE (E.blk s H scope C cl fp) elt telt)
    (hs : ∀ x, foldedSetIterable iter E.X.env x = pure x) : SE E (.ListComp elt [⟨tg, iter, ifs, 0⟩] scope pos) (.comp telt g it tc (own.map (·.2))) := @Rz _ _ (fun qz => @Hz.get _ _ (qz.bar : Hz _ (by
  clear qz
  intro fr σ tp H F io Q hl w h
  refine wE_of (pe_lc (g := wGB E.X scope tg) (tt := wTB E.X scope ifs) (te := wEB E.X scope elt) ok.calm ok.nd pi_w hb (fun s H C cl fp => ⟨fun pins s' σ H v u Q I r h => h _ _ _ _ _ pins s' u I r⟩) (fun s H C cl fp => ⟨fun pins s' σ H Q I h => h _ _ _ _ _ pins s' I⟩)
    (fun s H C cl fp => ⟨fun pins s' σ H Q I h => h _ _ _ _ _ pins s' I⟩) hs) ?_
  exact comp_tLc ok hb hi hgx hg hc he hl w h))) Xz.mk
end Ag
namespace Ag
open PySem PySem.Spec L2
section
variable {E : En} {e a b c : Expr} {ta tb tc : Tm} {fr : Fr} {σ tp : St} {H F : Hp} {io : List Addr} {Q : VK} {pos : Pos} {es : List Expr} {ts : List Tm} {D : Ends}
/-! ### what is never come to -/
theorem SE_stuck : SE E e .stuck := fun fr σ tp H F io Q hl w h => by unfold ev at h; exact h.elim
theorem ST_stuck : ST E e .stuck := fun fr σ tp H F io Q hl w h => by unfold ev at h; exact h.elim
theorem SS_stuck {st : Stmt} : SS E st .stuck := fun fr σ tp H F io D hl w h => by unfold ex at h; exact h.elim
/-! ### name = [..] -/
theorem SS_asgComp (ok : E.Ok) {i : Nat} {x : Str} {p : Pos} {elt tg iter : Expr} {ifs : List Expr} {scope : Scope} {own : List (Str × Nat)} {cpos : Pos} {g : Tg} {it : Iter} {tc : Option Tm} {telt : Tm} (hN : E.X.N[i]? = some x) (hx : E.X.env.scope.names.lookup x = some .local)
    (hsw : swapsWith (.ListComp elt [⟨tg, iter, ifs, 0⟩] scope cpos) (some (.Name x p)) pos.line E.X.env = pure true) (hb : BlkOk E.X.N E.X.env.scope scope own) (hi : SI E tg iter it)
    (hgx : ∀ i ∈ tgIx g, i ∈ own.map (·.2)) (hg : ∀ s H C cl fp, SG (E.blk s H scope C cl fp) tg g) (hc : ∀ s H C cl fp, SCs (E.blk s H scope C cl fp) ifs tc) (he : ∀ s H C cl fp, SE (E.blk s H scope C cl fp) elt telt)
    (hs : ∀ x, foldedSetIterable iter E.X.env x = pure x) : SS E (.Assign [.Name x p] (.ListComp elt [⟨tg, iter, ifs, 0⟩] scope cpos) pos) (.asg (.slot i) (.comp telt g it tc (own.map (·.2)))) := @Rz _ _ (fun qz => @Hz.get _ _ (qz.bar : Hz _ (by
  clear qz
  intro fr σ tp H F io D hl w h
  refine wS_of (ps_setLc (g := wGB E.X scope tg) (tt := wTB E.X scope ifs) (te := wEB E.X scope elt) ok.calm ok.nd hN hx hsw pi_w hb (fun s H C cl fp => ⟨fun pins s' σ H v u Q I r h => h _ _ _ _ _ pins s' u I r⟩) (fun s H C cl fp => ⟨fun pins s' σ H Q I h => h _ _ _ _ _ pins s' I⟩)
    (fun s H C cl fp => ⟨fun pins s' σ H Q I h => h _ _ _ _ _ pins s' I⟩) hs) ?_
  have hi0 : i < σ.length := by rw [hl]; exact (List.getElem?_eq_some_iff.mp hN).1
  have hi2 : i < (σ ++ tp).length := by rw [List.length_append]; omega
  unfold ex at h
  refine comp_tLc (Q := fun v H1 => gName i v σ H1 D.nx) ok hb hi hgx hg hc he hl w (Rs.all_imp (Rs.all_toS h) (fun r fr1 z => ?_) fun c fs fr1 z => okS.exE hl z)
  intro v H1 F1 io1 s1 p1 w1 rv
  have gen : ∀ d fr2, toD fr1 r = some (d, fr2) → (Sx.next (setE fr2 i (.val d))).all (okS E tp F io D) → D.nx (σ.set i (some v)) H1 := fun d fr2 e1 z => by
    obtain ⟨F2, s2, rp, w2⟩ := w1.toD rv e1
    exact z _ H1 F2 io1 (setN_len hl) (s1.trans s2) p1 (by rw [set_app hi0]; exact w2.put hi2 rp)
  show D.nx (σ.set i (some v)) H1
  cases r with
  | out o =>
    cases o with
    | val d => exact gen d fr1 rfl z
    | fresh xs => exact z _ H1 F1 io1 (setN_len hl) s1 p1 (by rw [set_app hi0]; exact w1.putOwn hi2 rv)
  | var j =>
    have z : ((match toD fr1 (.var j) with | some (d, fr') => Sx.next (setE fr' i (.val d)) | none => .bad) : Sx).all (okS E tp F io D) := z
    cases e1 : toD fr1 (.var j) with
    | none => simp [e1] at z; exact z.elim
    | some q =>
      obtain ⟨d, fr2⟩ := q
      simp only [e1] at z
      exact gen d fr2 e1 z))) Xz.mk
/-! ### isinstance -/
def tyNm : TyN → String
  | .tup => "tuple" | .lst => "list" | .int => "int" | .bool => "bool" | .str => "str"
def tyOfD : Ag.D → Option String
  | .non => some "NoneType" | .bl _ => some "bool" | .int _ => some "int" | .str _ => some "str" | .tup _ => some "tuple" | .lst _ => some "list" | .rol _ => some "list" | _ => none
theorem kit_t {a b : String} {r : Bool} (h : kitB a b = some r) (K : PySem.W.Frag) : PySem.W.kitOne K (.type a) (.type b) = some r := kit_ty h
theorem ist_kit {k : TyN} {d : Ag.D} {r : Bool} (h : istD k d = some r) : ∃ t, tyOfD d = some t ∧ kitB t (tyNm k) = some r := @Rz _ _ (fun qz => @Hz.get _ _ (qz.bar : Hz _ (by
  clear qz
  cases k <;> cases d <;> first
    | (cases h; done)
    | (cases h; refine ⟨_, rfl, ?_⟩; decide +kernel)))) Xz.mk
theorem Lk.ty {K : PySem.W.Frag} {G : Glb} (hk : G.K = K) (s : Same F H) {d : Ag.D} {v : V} (h : Lk G F io H d v) {t : String} (e : tyOfD d = some t) : TyX K H v (.type t) := @Rz _ _ (fun qz => @Hz.get _ _ (qz.bar : Hz _ (by
  clear qz
  rcases h with h | ⟨xs, p, vs, rfl, rfl, h1, _⟩
  · cases h with
    | non => cases e; exact .base .non
    | bl b => cases e; exact .base (.bl b)
    | int i => cases e; exact .base (.int i)
    | str x => cases e; exact .base (.str x)
    | tup h1 r =>
      cases e
      rcases Same.sqT s h1 with (z | ⟨o, z⟩) | ⟨o, its, n, z1, z2, _⟩
      · exact .base (.tup z)
      · exact .fTuple z
      · exact .kTuple (hk ▸ z1) z2
    | lst h1 r => cases e; exact .base (.lst (s _ _ h1))
    | rol h1 r =>
      cases e
      rcases h1 with (z | ⟨o, z⟩) | ⟨o, its, n, z1, z2, _⟩
      · exact .base (.lst (s _ _ z))
      · exact .base (.frz (s _ _ z))
      · exact .kList (hk ▸ z1) z2
    | obj h1 r => cases e
    | cell h1 => cases e
  · cases e
    exact .base (.lst h1)))) Xz.mk
theorem SE_ist (ok : E.Ok) {k : TyN} {p p2 : Pos} {n : Str} (hn : n = Str.ofString (tyNm k)) (hg : Gl E.X "isinstance") (hm : E.X.mg "isinstance" = none) (hg2 : Gl E.X n) (hm2 : E.X.mg n = none) (hs : notStar a = true) (ha : SE E a ta) :
    SE E (.Call (.Name "isinstance" p) [a, .Name n p2] [] pos) (.ist k ta) := @Rz _ _ (fun qz => @Hz.get _ _ (qz.bar : Hz _ (by
  clear qz
  intro fr σ tp H F io Q hl w h
  have hb : bootBuiltins n = some (.type (tyNm k)) := by subst hn; cases k <;> decide +kernel
  have hd : (n == ("__debug__" : Str)) = false := by subst hn; cases k <;> decide +kernel
  have hne : n ≠ "__name__" := by subst hn; cases k <;> decide +kernel
  refine wE_of (pe_callB call_isi hg hm (by decide +kernel) (pa_cons pe_w (pa_cons (pe_bltn (v := .ty (tyNm k)) hg2 hm2 hb rfl hne hd) pa_nil) (star_ne hs _ _)) (by decide +kernel) (by decide +kernel) (star_ne hs _ _) (plain_of (by unfold allNot; rfl) _ _)) ?_
  unfold ev at h
  refine ha.held hl w h fun r fr1 v H1 F1 io1 s1 p1 w1 hk z => ?_
  have z : ((match look fr1.env (hold r) with | some d => (match istD k d with | some b => Rs.ok (RV.out (.val (.bl b))) fr1 | none => .bad) | none => .bad) : Rs RV).all _ _ := z
  cases e1 : look fr1.env (hold r) with
  | none => rw [e1] at z; exact z.elim
  | some d =>
    rw [e1] at z
    have z : ((match istD k d with | some b => Rs.ok (RV.out (.val (.bl b))) fr1 | none => .bad) : Rs RV).all _ _ := z
    cases e2 : istD k d with
    | none => rw [e2] at z; exact z.elim
    | some b =>
      rw [e2] at z
      obtain ⟨t, e3, e4⟩ := ist_kit e2
      have lk := w1.look hk e1
      exact ⟨v, .ty (tyNm k), .type t, .type (tyNm k), b, rfl, .ty _, lk.ty ok.k w1.wr.sub e3, kit_t e4 _, z (.bl b) H1 F1 io1 s1 p1 w1 (.bl b)⟩))) Xz.mk
end
end Ag
namespace Ag
open PySem PySem.Spec L2
/-! ### zip and enumerate over lists and tuples in any mix -/
inductive Src where | l | t
def Src.Sq : Src → PySem.W.Frag → Hp → Addr → List V → Prop
  | .l => SqL
  | .t => SqT
def Src.At : Src → Heap → Addr → Array Value → Prop
  | .l => fun h a its => h.IsList a its
  | .t => fun h a its => h.IsTuple a its
def Src.Iter : Src → Heap → Addr → Addr → Nat → Prop
  | .l => fun h it a i => h.IsListIter it a i
  | .t => fun h it a i => h.IsTupleIter it a i
def Src.ob : Src → Addr → Obj
  | .l => fun a => { cls := .type "list_iterator", data := .fields #[.ref a, .int 0 0] }
  | .t => fun a => { cls := .type "tuple_iterator", data := .fields #[.ref a, .int 0 0] }
theorem Src.draws {prog : Program} {w : World} {A : Around} (hh : A.handled = none) (k : Src) (it a : Addr) (hne : a ≠ it) (its : Array Value) :
    Draws prog w A it [it, a] its.size (fun i v => its[i]? = some v) (fun i h => k.Iter h it a i ∧ k.At h a its) := @Rz _ _ (fun qz => @Hz.get _ _ (qz.bar : Hz _ (by
  clear qz
  cases k
  · exact Draws.list hh it a hne its
  · exact Draws.tuple hh it a hne its))) Xz.mk
theorem Src.begins (k : Src) (a : Addr) (its : Array Value) : Begins (.ref a) (k.ob a) (fun h => k.At h a its) := @Rz _ _ (fun qz => @Hz.get _ _ (qz.bar : Hz _ (by
  clear qz
  cases k
  · exact begins_list a its
  · exact begins_tuple a its))) Xz.mk
theorem Src.iterAt {k : Src} {h h' : Heap} {it a : Addr} {i : Nat} (x : k.Iter h it a i) (e : ∀ o, h.get? it = some o → h'.get? it = some o) : k.Iter h' it a i := @Rz _ _ (fun qz => @Hz.get _ _ (qz.bar : Hz _ (by
  clear qz
  cases k
  · exact Heap.IsListIter.at x e
  · exact Heap.IsTupleIter.at x e))) Xz.mk
theorem Src.iterOb {k : Src} {h : Heap} {it a : Addr} {i : Nat} (x : k.Iter h it a i) : ∃ o, h.get? it = some o ∧ ∀ v, o.data ≠ .cell v := @Rz _ _ (fun qz => @Hz.get _ _ (qz.bar : Hz _ (by
  clear qz
  cases k
  · obtain ⟨o, e, _, d⟩ := x; exact ⟨o, e, fun v q => by rw [d] at q; cases q⟩
  · obtain ⟨o, e, _, d⟩ := x; exact ⟨o, e, fun v q => by rw [d] at q; cases q⟩))) Xz.mk
theorem Src.iterNew {k : Src} {h : Heap} {it a : Addr} (e : h.get? it = some (k.ob a)) : k.Iter h it a 0 := @Rz _ _ (fun qz => @Hz.get _ _ (qz.bar : Hz _ (by
  clear qz
  cases k
  · exact ⟨_, e, rfl, rfl⟩
  · exact ⟨_, e, rfl, rfl⟩))) Xz.mk
section
variable {X : Cx} {pins : List (Addr × Obj)} {σ : St} {H : Hp} {s : Shared} {a b : Addr} {xs ys : List V}
theorem Src.items {k : Src} (I : Inv X pins σ H s) (h : k.Sq X.K H a xs) : ∃ its : List Value, Vals xs its ∧ k.At s.heap a its.toArray ∧ a < s.heap.objs.size := @Rz _ _ (fun qz => @Hz.get _ _ (qz.bar : Hz _ (by
  clear qz
  cases k
  · obtain ⟨its, rv, p, _⟩ := I.list h
    exact ⟨its, rv, p.isList, p.lt⟩
  · obtain ⟨its, rv, p, _⟩ := I.tuple h
    obtain ⟨o, ho, _⟩ := id p
    exact ⟨its, rv, p, Heap.lt_size ho⟩))) Xz.mk
theorem Src.same {k : Src} (I : Inv X pins σ H s) (h : k.Sq X.K H a xs) (h' : k.Sq X.K H a ys) : xs = ys := @Rz _ _ (fun qz => @Hz.get _ _ (qz.bar : Hz _ (by
  clear qz
  cases k
  · exact I.list_inj h h'
  · exact I.tuple_inj h h'))) Xz.mk
end
/-- pairs out of two sources -/
def JZ (K : PySem.W.Frag) (k1 k2 : Src) (a b : Addr) : It where
  go := fun i H => ∃ (xs ys : List V), k1.Sq K H a xs ∧ k2.Sq K H b ys ∧ i < xs.length ∧ i < ys.length
  yld := fun i H v H' => ∃ p x y, v = V.ref p ∧ H p = none ∧ H' = upd H p (.tup [x, y]) ∧ (∀ xs, k1.Sq K H a xs → xs[i]? = some x) ∧ ∀ ys, k2.Sq K H b ys → ys[i]? = some y
  stop := fun i H => ∃ (xs ys : List V), k1.Sq K H a xs ∧ k2.Sq K H b ys ∧ i ≤ xs.length ∧ i ≤ ys.length ∧ (i = xs.length ∨ i = ys.length)
/-- where zip's own objects stand: N, N+1 the sources' iterators, then the pair of these, the pair that is told, zip itself -/
def ZAt (k1 k2 : Src) (a b : Addr) (N : Addr) (i : Nat) (h : Heap) : Prop :=
  IsZip h (N + 4) (N + 2) (N + 3) .none ∧ IsTupOf2 h (N + 2) (.ref N) (.ref (N + 1)) ∧ (∃ x y, IsTupOf2 h (N + 3) x y) ∧ k1.Iter h N a i ∧ k2.Iter h (N + 1) b i
def zfp (N : Addr) : List Addr := [N + 4, N + 2, N + 3, N, N + 1]
theorem zfp_mem {N c : Addr} (h : c ∈ zfp N) : c = N + 4 ∨ c = N + 2 ∨ c = N + 3 ∨ c = N ∨ c = N + 1 := by simpa [zfp] using h
theorem turn_mix {P : Program} {w : World} {K : PySem.W.Frag} {elts : List Expr} {n : Nat} {tpos : Pos} {k1 k2 : Src} {a b N : Addr} (ha : a < N) (hb : b < N) :
    Turn P w K (.Tuple elts n tpos) (JZ K k1 k2 a b) (zfp N) (N + 4) (ZAt k1 k2 a b N) := @Rz _ _ (fun qz => @Hz.get _ _ (qz.bar : Hz _ (by
  clear qz
  have S : ZipSep2 (N + 4) (N + 2) (N + 3) N (N + 1) [N, a] [N + 1, b] := zip_sep2 (fun c hc => by rw [List.mem_singleton.mp hc]; exact ha) (fun c hc => by rw [List.mem_singleton.mp hc]; exact hb)
  have na : a ≠ N := Nat.ne_of_lt ha
  have nb : b ≠ N + 1 := Nat.ne_of_lt (Nat.lt_succ_of_lt hb)
  refine ⟨by simp [zfp], fun i h st c hc => ?_, fun i h h' st k => ?_, ?_, ?_, fun A i s Q E st q => wpAny_pyIter_zip st.1 q⟩
  · obtain ⟨h1, h2, ⟨x, y, h3⟩, h4, h5⟩ := st
    rcases zfp_mem hc with rfl | rfl | rfl | rfl | rfl
    · exact ⟨_, h1, fun v z => by cases z⟩
    · exact ⟨_, h2, fun v z => by cases z⟩
    · exact ⟨_, h3, fun v z => by cases z⟩
    · exact Src.iterOb h4
    · exact Src.iterOb h5
  · obtain ⟨h1, h2, ⟨x, y, h3⟩, h4, h5⟩ := st
    have m : ∀ c, c = N + 4 ∨ c = N + 2 ∨ c = N + 3 ∨ c = N ∨ c = N + 1 → c ∈ zfp N := fun c z => by simpa [zfp] using z
    exact ⟨k _ (m _ (.inl rfl)) _ h1, k _ (m _ (.inr (.inl rfl))) _ h2, ⟨x, y, k _ (m _ (.inr (.inr (.inl rfl)))) _ h3⟩, Src.iterAt h4 fun o e => k _ (m _ (.inr (.inr (.inr (.inl rfl))))) o e, Src.iterAt h5 fun o e => k _ (m _ (.inr (.inr (.inr (.inr rfl))))) o e⟩
  · intro X eP ew eK hc i pins s σ H E I hf st hgo
    subst eP ew eK
    obtain ⟨h1, h2, ⟨x0, y0, h3⟩, h4, h5⟩ := st
    obtain ⟨xs, ys, q1, q2, lx, ly⟩ := hgo
    obtain ⟨its, rv, p1, _⟩ := Src.items I q1
    obtain ⟨jts, rw_, p2, _⟩ := Src.items I q2
    have l1 := rv.length
    have l2 := rw_.length
    have hh : X.A.in1.handled = none := I.ok.hd hc
    have zl : N + 4 < s.heap.objs.size := Heap.lt_size h1
    have d1 := Src.draws (prog := X.prog) (w := X.w) hh k1 N a na its.toArray
    have d2 := Src.draws (prog := X.prog) (w := X.w) hh k2 (N + 1) b nb jts.toArray
    refine wpAny_pyNext_zipD2_item S d1 d2 h1 h2 h3 ⟨h4, p1⟩ ⟨h5, p2⟩ (by simpa [← l1] using lx) (by simpa [← l2] using ly) fun u v h' tk g1 g2 z1 z3 i1 i2 zt zs zk => ?_
    refine ⟨_, rfl, wpAny_letOwnedTupleGo_zip (s := { s with heap := h', toks := tk }) z1 fun h'' z1' sb => ?_⟩
    obtain ⟨x, hx, rx⟩ : ∃ x, xs[i]? = some x ∧ RelV x u := by
      obtain ⟨u', e, r⟩ := rv.get (List.getElem?_eq_getElem lx)
      have : u' = u := by simpa [e] using g1
      exact ⟨_, List.getElem?_eq_getElem lx, this ▸ r⟩
    obtain ⟨y, hy, ry⟩ : ∃ y, ys[i]? = some y ∧ RelV y v := by
      obtain ⟨u', e, r⟩ := rw_.get (List.getElem?_eq_getElem ly)
      have : u' = v := by simpa [e] using g2
      exact ⟨_, List.getElem?_eq_getElem ly, this ▸ r⟩
    generalize hT : s.heap.objs.size = T at zt zs zl
    have keep : ∀ c o, c ≠ N + 4 → h'.get? c = some o → h''.get? c = some o := fun c o n e => (sb.2 c n).trans e
    have nT : ∀ j : Nat, j ≤ 4 → N + j ≠ T := fun j hj => by
      intro e
      rw [← e] at zl
      exact absurd zl (Nat.not_lt.mpr (Nat.add_le_add_left hj N))
    have newT : h''.get? T = some { cls := .type "tuple", data := .seq #[u, v] } := keep _ _ (fun z => nT 4 (by omega) z.symm) zt
    have obj : ObjOk X.prog X.w (upd H T (.tup [x, y])) h'' T (.tup [x, y]) := ⟨by show 2 ≤ sizeLine; decide, [u, v], .cons rx (.cons ry .nil), ⟨_, newT, rfl, _, rfl⟩⟩
    have I1 : Inv X pins σ (upd H T (.tup [x, y])) { s with heap := h'', toks := tk } :=
      I.turnedNew (ch := zfp N) (fun c o nc e => by
        have m : ∀ c', c' = N + 4 ∨ c' = N + 2 ∨ c' = N + 3 ∨ c' = N ∨ c' = N + 1 → c ≠ c' := fun c' z q => nc (by rw [q]; simpa [zfp] using z)
        exact keep c o (m _ (.inl rfl)) (zk c o (m _ (.inl rfl)) (m _ (.inr (.inr (.inl rfl)))) (m _ (.inr (.inr (.inr (.inl rfl))))) (m _ (.inr (.inr (.inr (.inr rfl))))) e)) hf (Nat.le_of_eq hT) obj
    have fresh : H T = none := I.hok.fresh (Nat.le_of_eq hT)
    refine ⟨.ref T, _, I1, rfl, ⟨T, x, y, rfl, fresh, rfl, fun l hl => by rw [Src.same I hl q1]; exact hx, fun l hl => by rw [Src.same I hl q2]; exact hy⟩, ⟨z1', ?_, ⟨u, v, ?_⟩, ?_, ?_⟩, fun c hcm => ?_⟩
    · exact keep _ _ S.TIz (zk _ _ S.TIz S.TITO S.TIi1 S.TIi2 h2)
    · exact keep _ _ S.TOz z3
    · exact Src.iterAt i1.1 fun o e => keep _ o S.zi1.symm e
    · exact Src.iterAt i2.1 fun o e => keep _ o S.zi2.symm e
    · have : c ≠ T := by
        rcases zfp_mem hcm with rfl | rfl | rfl | rfl | rfl
        · exact nT 4 (by omega)
        · exact nT 2 (by omega)
        · exact nT 3 (by omega)
        · exact nT 0 (by omega)
        · exact nT 1 (by omega)
      rw [upd_ne this]
      exact (hf c hcm).1
  · intro X eP ew eK hc i pins s σ H E I hf st hst
    subst eP ew eK
    obtain ⟨h1, h2, ⟨x0, y0, h3⟩, h4, h5⟩ := st
    obtain ⟨xs, ys, q1, q2, lx, ly, he⟩ := hst
    obtain ⟨its, rv, p1, _⟩ := Src.items I q1
    obtain ⟨jts, rw_, p2, _⟩ := Src.items I q2
    have l1 := rv.length
    have l2 := rw_.length
    have hh : X.A.in1.handled = none := I.ok.hd hc
    have d1 := Src.draws (prog := X.prog) (w := X.w) hh k1 N a na its.toArray
    have d2 := Src.draws (prog := X.prog) (w := X.w) hh k2 (N + 1) b nb jts.toArray
    refine wpAny_pyNext_zipD2_end S d1 d2 h1 h2 h3 ⟨h4, p1⟩ ⟨h5, p2⟩ (by simpa [← l1] using lx) (by simpa [← l2] using ly) (by simpa [← l1, ← l2] using he) fun h' tk zk => ⟨rfl, ?_⟩
    exact I.turnedL (t' := tk) (ch := zfp N) (fun c o nc e => by
      have m : ∀ c', c' = N + 4 ∨ c' = N + 2 ∨ c' = N + 3 ∨ c' = N ∨ c' = N + 1 → c ≠ c' := fun c' z q => nc (by rw [q]; simpa [zfp] using z)
      exact zk c o (m _ (.inl rfl)) (m _ (.inr (.inr (.inl rfl)))) (m _ (.inr (.inr (.inr (.inl rfl))))) (m _ (.inr (.inr (.inr (.inr rfl))))) e) hf))) Xz.mk
/-- what zip of two parts comes to -/
theorem iter_mix {X : Cx} {pins : List (Addr × Obj)} {σ : St} {H : Hp} {s : Shared} {a b : Addr} {xs ys : List V} {elts : List Expr} {n : Nat} {tpos : Pos} {R : It → Hp → Prop} {k1 k2 : Src} (I : Inv X pins σ H s) (h1 : k1.Sq X.K H a xs) (h2 : k2.Sq X.K H b ys)
    (q : R (JZ X.K k1 k2 a b) H) : wpAny (model X.prog X.w) X.A (call (.type "zip") [.ref a, .ref b]) (fun v s1 => wpAny (model X.prog X.w) X.A (pyIter v) (PIE X pins σ (.Tuple elts n tpos) R) X.xe s1) X.xe s := @Rz _ _ (fun qz => @Hz.get _ _ (qz.bar : Hz _ (by
  clear qz
  obtain ⟨its, rv, p1, la⟩ := Src.items I h1
  obtain ⟨jts, rw_, p2, lb⟩ := Src.items I h2
  refine zip_begins2 (Src.begins k1 a its.toArray) (Src.begins k2 b jts.toArray) p1 p2 fun h' z zt zo o1 o2 zs zk => wpAny_pyIter_zip z ?_
  have I1 : Inv X pins σ H { s with heap := h' } := I.kept (t' := s.toks) zk
  refine ⟨s.heap.objs.size + 4, zfp s.heap.objs.size, _, _, H, rfl, I1, turn_mix la lb, ⟨z, zt, ⟨_, _, zo⟩, Src.iterNew o1, Src.iterNew o2⟩, fun c hc => ?_, q⟩
  have hle : s.heap.objs.size ≤ c := by
    rcases zfp_mem hc with rfl | rfl | rfl | rfl | rfl
    · exact Nat.le_add_right _ _
    · exact Nat.le_add_right _ _
    · exact Nat.le_add_right _ _
    · exact Nat.le_refl _
    · exact Nat.le_add_right _ _
  exact I.fpOk hle (I.hok.fresh hle)))) Xz.mk
end Ag
namespace Ag
open PySem PySem.Spec L2
section
variable {X : Cx}
def iMix (K : PySem.W.Frag) (ta : TA) : TI := fun σ H R => ta σ H fun vs H1 => ∃ a b xs ys k1 k2, vs = [V.ref a, V.ref b] ∧ Src.Sq k1 K H1 a xs ∧ Src.Sq k2 K H1 b ys ∧ R (JZ K k1 k2 a b) H1
theorem pi_mix {e e2 : Expr} {ta : TA} {p pos tpos : Pos} {elts : List Expr} {n : Nat} (hg : Gl X "zip") (hm : X.mg "zip" = none) (ha : PA X [e, e2] ta) (hs : starEach [e, e2] X.env = (false, eval e X.env) :: starEach [e2] X.env)
    (hpl : (backTo pos (starEach [e2] X.env)).any (·.1) = false) : PI X (.Tuple elts n tpos) (.Call (.Name "zip" p) [e, e2] [] pos) (iMix X.K ta) := ⟨fun pins s σ H R I h => by
  refine PyProof.Rows.Call_ (ld_blt I hg hm PyProof.Rows.boot_zip (PyProof.Rows.callWith_type1 (thn (ha.run pos pins s σ H _ I h) fun us s1 q => ?_) hs hpl))
  obtain ⟨vs, H1, I1, r1, a, b, xs, ys, k1, k2, rfl, g1, g2, g3⟩ := q
  obtain ⟨u1, u2, rfl, r1, r2⟩ := vals2 r1
  obtain rfl : u1 = Value.ref a := r1
  obtain rfl : u2 = Value.ref b := r2
  exact iter_mix I1 g1 g2 g3⟩
end
section
variable {E : En} {e a b c : Expr} {ta tb tc : Tm} {fr : Fr} {σ tp : St} {H F : Hp} {io : List Addr} {Q : VK} {pos : Pos} {es : List Expr} {ts : List Tm} {D : Ends}
/-- a sequence among the data -/
theorem Rep.src {G : Glb} {d : Ag.D} {v : V} {xs : List Ag.D} (r : Rep G F io d v) (e : seqOf d = some xs) : ∃ k p vs, v = V.ref p ∧ (∀ H, Same F H → Src.Sq k G.K H p vs) ∧ Reps G F io xs vs := @Rz _ _ (fun qz => @Hz.get _ _ (qz.bar : Hz _ (by
  clear qz
  cases d with
  | tup ds =>
    cases e
    cases r with
    | tup h1 r1 => exact ⟨.t, _, _, rfl, fun H s => Same.sqT s h1, r1⟩
  | lst ds =>
    cases e
    cases r with
    | lst h1 r1 => exact ⟨.l, _, _, rfl, fun H s => SqL.of (s _ _ h1), r1⟩
  | _ => cases e))) Xz.mk
theorem zipD_len : ∀ xs ys : List Ag.D, (zipD xs ys).length = min xs.length ys.length
  | [], [] => rfl
  | [], y :: ys => by simp [zipD]
  | x :: xs, [] => by simp [zipD]
  | x :: xs, y :: ys => by
    show (zipD xs ys).length + 1 = _
    rw [zipD_len xs ys]
    simp only [List.length_cons]
    omega
theorem zipD_at : ∀ (xs ys : List Ag.D) (i : Nat) (x y : Ag.D), xs[i]? = some x → ys[i]? = some y → (zipD xs ys)[i]? = some (.tup [x, y])
  | x :: xs, y :: ys, 0, _, _, h1, h2 => by cases h1; cases h2; rfl
  | x :: xs, y :: ys, i + 1, a, b, h1, h2 => zipD_at xs ys i a b h1 h2
  | [], _, _, _, _, h1, _ => by simp at h1
  | _ :: _, [], _, _, _, _, h2 => by simp at h2
theorem walkZ {G : Glb} {k1 k2 : Src} {p q : Addr} {vs us : List V} {xs ys : List Ag.D} (h1 : ∀ H, Same F H → Src.Sq k1 G.K H p vs) (r1 : Reps G F io xs vs) (h2 : ∀ H, Same F H → Src.Sq k2 G.K H q us) (r2 : Reps G F io ys us) : WalkD G (JZ G.K k1 k2 p q) (zipD xs ys) F io := @Rz _ _ (fun qz => @Hz.get _ _ (qz.bar : Hz _ (by
  clear qz
  have l1 := r1.length
  have l2 := r2.length
  refine ⟨fun i H hi s => ?_, fun H s => ?_, fun i H x H' hi s y => ?_⟩
  · rw [zipD_len] at hi
    exact ⟨vs, us, h1 H s, h2 H s, by omega, by omega⟩
  · rw [zipD_len]
    exact ⟨vs, us, h1 H s, h2 H s, by omega, by omega, by omega⟩
  · rw [zipD_len] at hi
    obtain ⟨t, x1, x2, e1, hn, e2, g1, g2⟩ := y
    obtain ⟨u1, b1, c1⟩ := r1.get (List.getElem?_eq_getElem (show i < xs.length by omega))
    obtain ⟨u2, b2, c2⟩ := r2.get (List.getElem?_eq_getElem (show i < ys.length by omega))
    have d1 := g1 _ (h1 H s)
    have d2 := g2 _ (h2 H s)
    rw [b1] at d1; cases d1
    rw [b2] at d2; cases d2
    exact ⟨_, zipD_at xs ys i _ _ (List.getElem?_eq_getElem _) (List.getElem?_eq_getElem _), .inr ⟨t, _, _, hn, e2, e1, rfl, .cons c1 (.cons c2 .nil)⟩⟩))) Xz.mk
theorem SI_zip (ok : E.Ok) {elts : List Expr} {n : Nat} {tpos p : Pos} (hg : Gl E.X "zip") (hm : E.X.mg "zip" = none) (hs : notStar a = true) (hs2 : notStar b = true) (ha : SE E a ta) (hb : SE E b tb) : SI E (.Tuple elts n tpos) (.Call (.Name "zip" p) [a, b] [] pos) (.zip ta tb) := @Rz _ _ (fun qz => @Hz.get _ _ (qz.bar : Hz _ (by
  clear qz
  intro fr σ tp H F io R hl w h
  refine wI_of (pi_mix hg hm (pa_cons pe_w (pa_cons pe_w pa_nil (star_ne hs2 _ _)) (star_ne hs _ _)) (star_ne hs _ _) (by rw [star_ne hs2]; rfl)) ?_
  unfold evi at h
  show wE E.X a σ H fun x H1 => wE E.X b σ H1 fun y H2 => _
  refine ha.part hl w h fun d fr1 v H1 F1 io1 s1 p1 w1 r1 z => ?_
  refine hb.part hl w1 z fun d2 fr2 v2 H2 F2 io2 s2 p2 w2 r2 z2 => ?_
  have z2 : ((match seqOf d, seqOf d2 with | some xs, some ys => Rs.ok (zipD xs ys) fr2 | _, _ => .bad) : Rs (List Ag.D)).all _ (exE E σ tp F2 io2) := z2
  cases e1 : seqOf d with
  | none => rw [e1] at z2; exact z2.elim
  | some xs =>
    cases e2 : seqOf d2 with
    | none => rw [e1, e2] at z2; exact z2.elim
    | some ys =>
      rw [e1, e2] at z2
      obtain ⟨k1, q1, vs, rfl, g1, c1⟩ := (r1.mono s2 p2).src e1
      obtain ⟨k2, q2, us, rfl, g2, c2⟩ := r2.src e2
      have := z2 _ H2 F2 io2 (s1.trans s2) (p1.trans p2) w2 (walkZ g1 c1 g2 c2)
      rw [ok.k] at this g1 g2
      exact ⟨q1, q2, vs, us, k1, k2, rfl, g1 H2 w2.wr.sub, g2 H2 w2.wr.sub, this⟩))) Xz.mk
/-! enumerate of a list -/
theorem enumD_len : ∀ (xs : List Ag.D) (k : Int), (enumD k xs).length = xs.length
  | [], _ => rfl
  | x :: xs, k => by
    show (enumD (k + 1) xs).length + 1 = _
    rw [enumD_len xs]; rfl
theorem enumD_at : ∀ (xs : List Ag.D) (k : Int) (i : Nat) (x : Ag.D), xs[i]? = some x → (enumD k xs)[i]? = some (.tup [.int (k + (i : Int)), x])
  | x :: xs, k, 0, _, h => by cases h; simp [enumD]
  | x :: xs, k, i + 1, a, h => by
    have := enumD_at xs (k + 1) i a h
    show (enumD (k + 1) xs)[i]? = _
    rw [this, show k + 1 + (i : Int) = k + ((i + 1 : Nat) : Int) by omega]
  | [], _, _, _, h => by simp at h
theorem walkE {G : Glb} {p : Addr} {vs : List V} {xs : List Ag.D} (h : F p = some (.lst vs)) (r : Reps G F io xs vs) : WalkD G (Ite G.K p) (enumD 0 xs) F io := @Rz _ _ (fun qz => @Hz.get _ _ (qz.bar : Hz _ (by
  clear qz
  have w := walk_enum (K := G.K) (a := p) (xs := vs)
  have l := r.length
  refine ⟨fun i H hi s => w.goes i H (by rw [enumD_len] at hi; omega) (SqL.of (s _ _ h)), fun H s => by rw [enumD_len, l]; exact w.stops H (SqL.of (s _ _ h)), fun i H x H' hi s y => ?_⟩
  rw [enumD_len] at hi
  obtain ⟨t, x1, x2, e1, hn, e2, g1, g2⟩ := w.yields i H x H' (by omega) (SqL.of (s _ _ h)) y
  obtain ⟨u, b1, c1⟩ := r.get (List.getElem?_eq_getElem hi)
  have g2 : vs[i]? = some x2 := g2
  rw [b1] at g2; cases g2
  cases g1
  refine ⟨_, enumD_at xs 0 i _ (List.getElem?_eq_getElem hi), .inr ⟨t, _, _, hn, e2, e1, rfl, .cons ?_ (.cons c1 .nil)⟩⟩
  rw [Int.zero_add]
  exact .int _))) Xz.mk
theorem SI_enum (ok : E.Ok) {elts : List Expr} {n : Nat} {tpos p : Pos} (hg : Gl E.X "enumerate") (hm : E.X.mg "enumerate" = none) (hs : notStar a = true) (ha : SE E a ta) : SI E (.Tuple elts n tpos) (.Call (.Name "enumerate" p) [a] [] pos) (.enum ta 0) := @Rz _ _ (fun qz => @Hz.get _ _ (qz.bar : Hz _ (by
  clear qz
  intro fr σ tp H F io R hl w h
  refine wI_of (pi_enum hg hm (pa_cons pe_w pa_nil (star_ne hs _ _)) (star_ne hs _ _)) ?_
  unfold evi at h
  show wE E.X a σ H _
  refine ha.part hl w h fun d fr1 v H1 F1 io1 s1 p1 w1 r1 z => ?_
  cases d with
  | lst xs =>
    cases r1 with
    | lst h1 r2 =>
      have := z _ H1 F1 io1 s1 p1 w1 (walkE h1 r2)
      rw [ok.k] at this
      exact ⟨_, _, rfl, SqL.of (w1.wr.sub _ _ h1), this⟩
  | _ => exact z.elim))) Xz.mk
/-! reversed -/
theorem rev_at {xs : List Ag.D} {i : Nat} (h : i < xs.length) : xs.reverse[i]? = xs[xs.length - 1 - i]? := by
  rw [List.getElem?_reverse h]
theorem walkV {G : Glb} {p : Addr} {vs : List V} {xs : List Ag.D} (h : F p = some (.lst vs)) (r : Reps G F io xs vs) : WalkD G (Itv G.K p vs.length) xs.reverse F io := @Rz _ _ (fun qz => @Hz.get _ _ (qz.bar : Hz _ (by
  clear qz
  have w := walk_rev (K := G.K) (a := p) (xs := vs)
  have l := r.length
  refine ⟨fun i H hi s => w.goes i H (by rw [List.length_reverse] at hi; omega) (SqL.of (s _ _ h)), fun H s => by rw [List.length_reverse, l]; exact w.stops H (SqL.of (s _ _ h)), fun i H x H' hi s y => ?_⟩
  rw [List.length_reverse] at hi
  obtain ⟨e1, e2⟩ := w.yields i H x H' (by omega) (SqL.of (s _ _ h)) y
  have hj : xs.length - 1 - i < xs.length := by omega
  obtain ⟨u, b1, c1⟩ := r.get (List.getElem?_eq_getElem hj)
  rw [← l, b1] at e2; cases e2
  exact ⟨_, by rw [rev_at hi]; exact List.getElem?_eq_getElem hj, .inl ⟨e1, c1⟩⟩))) Xz.mk
theorem SI_rev (ok : E.Ok) {tg : Expr} {p : Pos} (hg : Gl E.X "reversed") (hm : E.X.mg "reversed" = none) (hs : notStar a = true) (ha : SE E a ta) : SI E tg (.Call (.Name "reversed" p) [a] [] pos) (.rev ta) := @Rz _ _ (fun qz => @Hz.get _ _ (qz.bar : Hz _ (by
  clear qz
  intro fr σ tp H F io R hl w h
  refine wI_of (RT.pi_revA hg hm pe_w (star_ne hs _ _)) ?_
  unfold evi at h
  refine ha.part hl w h fun d fr1 v H1 F1 io1 s1 p1 w1 r1 z => ?_
  cases d with
  | lst xs =>
    cases r1 with
    | lst h1 r2 =>
      have := z _ H1 F1 io1 s1 p1 w1 (walkV h1 r2)
      rw [ok.k] at this
      exact ⟨_, _, rfl, .inl ⟨SqL.of (w1.wr.sub _ _ h1), this⟩⟩
  | _ => exact z.elim))) Xz.mk
/-! range downwards -/
theorem range3_at {lo c : Int} {n i : Nat} (h : i < n) : (range3D lo c n)[i]? = some (.int (lo + (i : Int) * c)) := @Rz _ _ (fun qz => @Hz.get _ _ (qz.bar : Hz _ (by
  clear qz
  unfold range3D
  rw [List.getElem?_map, List.getElem?_range h]; rfl))) Xz.mk
theorem range3_len {lo c : Int} {n : Nat} : (range3D lo c n).length = n := by unfold range3D; rw [List.length_map, List.length_range]
theorem walkC {G : Glb} {lo c : Int} {n : Nat} : WalkD G (Itc lo c n) (range3D lo c n) F io := @Rz _ _ (fun qz => @Hz.get _ _ (qz.bar : Hz _ (by
  clear qz
  have w := walk_rangeC (lo := lo) (c := c) (n := n)
  refine ⟨fun i H hi s => w.goes i H (by rw [range3_len] at hi; exact hi) trivial, fun H s => by rw [range3_len]; exact w.stops H trivial, fun i H x H' hi s y => ?_⟩
  rw [range3_len] at hi
  obtain ⟨e1, e2⟩ := w.yields i H x H' hi trivial y
  refine ⟨_, range3_at hi, .inl ⟨e1, ?_⟩⟩
  rw [e2]; exact .int _))) Xz.mk
theorem SI_range3 (ok : E.Ok) {tg : Expr} {p : Pos} (hg : Gl E.X "range") (hm : E.X.mg "range" = none) (hs : notStar a = true) (hs2 : notStar b = true) (hs3 : notStar c = true) (ha : SE E a ta) (hb : SE E b tb) (hc : SE E c tc) :
    SI E tg (.Call (.Name "range" p) [a, b, c] [] pos) (.range3 ta tb tc) := @Rz _ _ (fun qz => @Hz.get _ _ (qz.bar : Hz _ (by
  clear qz
  intro fr σ tp H F io R hl w h
  refine wI_of (pi_range3 hg hm (pa_cons pe_w (pa_cons pe_w (pa_cons pe_w pa_nil (star_ne hs3 _ _)) (star_ne hs2 _ _)) (star_ne hs _ _)) (star_ne hs _ _) (by rw [star_ne hs2, star_ne hs3]; rfl)) ?_
  unfold evi at h
  show wE E.X a σ H fun x H1 => wE E.X b σ H1 fun y H2 => wE E.X c σ H2 fun z H3 => _
  refine ha.part hl w h fun d fr1 v H1 F1 io1 s1 p1 w1 r1 z => ?_
  refine hb.part hl w1 z fun d2 fr2 v2 H2 F2 io2 s2 p2 w2 r2 z2 => ?_
  refine hc.part hl w2 z2 fun d3 fr3 v3 H3 F3 io3 s3 p3 w3 r3 z3 => ?_
  cases d with
  | int lo =>
    cases d2 with
    | int hi =>
      cases d3 with
      | int st =>
        cases r1
        cases r2
        cases r3
        have y3 : ((if -(2 ^ 62) < lo ∧ lo < 2 ^ 62 ∧ -(2 ^ 62) < hi ∧ hi < 2 ^ 62 ∧ st = -1 then Rs.ok (range3D lo (-1) (lo - hi).toNat) fr3 else .bad : Rs (List Ag.D))).all _ (exE E σ tp F3 io3) := z3
        split at y3
        case isFalse => exact y3.elim
        rename_i hz
        obtain ⟨h1, h2, h3, h4, rfl⟩ := hz
        exact ⟨lo, hi, -1, _, rfl, RgC.neg (by omega) h2 (by omega) h4, y3 _ H3 F3 io3 ((s1.trans s2).trans s3) ((p1.trans p2).trans p3) w3 walkC⟩
      | _ => exact z3.elim
    | _ => exact z3.elim
  | _ => exact z3.elim))) Xz.mk
end
end Ag
namespace Ag
open PySem PySem.Spec L2
/-! ### min, max of a list of ints -/
theorem alike_ints (ns : List Int) : PySem.W.AlikeAll (ns.map PyData.int) := @Rz _ _ (fun qz => @Hz.get _ _ (qz.bar : Hz _ (by
  clear qz
  refine ⟨fun x hx y hy => ?_, fun x hx => ?_⟩
  · obtain ⟨i, _, rfl⟩ := List.mem_map.mp hx
    obtain ⟨j, _, rfl⟩ := List.mem_map.mp hy
    rfl
  · obtain ⟨i, _, rfl⟩ := List.mem_map.mp hx
    exact fun z => by cases z))) Xz.mk
theorem foldl_min (n : Int) : ∀ ns : List Int, ns.foldl min n = ns.foldl (fun a b => if b < a then b else a) n := @Rz _ _ (fun qz => @Hz.get _ _ (qz.bar : Hz _ (by
  clear qz
  intro ns
  induction ns generalizing n with
  | nil => rfl
  | cons k r ih =>
    rw [List.foldl_cons, List.foldl_cons, ih]
    congr 1
    split <;> omega))) Xz.mk
theorem foldl_max (n : Int) : ∀ ns : List Int, ns.foldl max n = ns.foldl (fun a b => if b > a then b else a) n := @Rz _ _ (fun qz => @Hz.get _ _ (qz.bar : Hz _ (by
  clear qz
  intro ns
  induction ns generalizing n with
  | nil => rfl
  | cons k r ih =>
    rw [List.foldl_cons, List.foldl_cons, ih]
    congr 1
    split <;> omega))) Xz.mk
section
variable {X : Cx}
def rMinL (X : Cx) : List V → Hp → VK → Prop := fun vs H Q => ∃ (a : Addr) (n : Int) (ns : List Int), vs = [.ref a] ∧ SqL X.K H a ((n :: ns).map V.int) ∧ Q (.int (minL (n :: ns))) H
def rMaxL (X : Cx) : List V → Hp → VK → Prop := fun vs H Q => ∃ (a : Addr) (n : Int) (ns : List Int), vs = [.ref a] ∧ SqL X.K H a ((n :: ns).map V.int) ∧ Q (.int (maxL (n :: ns))) H
theorem call_min1 (hc : X.calm = true) (hu : X.A.units + 64 < cLine) : CallR X (.builtin "min") (rMinL X) := @Rz _ _ (fun qz => @Hz.get _ _ (qz.bar : Hz _ (by
  clear qz
  intro pins s σ H xs us Q I r h
  obtain ⟨a, n, ns, rfl, hs, q⟩ := h
  obtain ⟨its, rv, hl, hz⟩ := I.list hs
  rw [Vals.ref1 r]
  refine PySem.W.min_list_data (x := .int n) (xs := ns.map .int) (I.ok.hd hc) hl.isList (PyProof.Rows.IntsAre.reads _ rv.ints) (alike_ints (n :: ns)) (by rw [show (PyData.int n :: ns.map .int) = (n :: ns).map .int from rfl, PyProof.Rows.depthAll_ints]; omega) fun i v h' tk bs e rd k => ?_
  rw [PySem.W.minD_ints, foldl_min] at rd
  cases rd
  exact ⟨.int _, H, I.kept k, ⟨_, rfl⟩, q⟩))) Xz.mk
theorem call_max1 (hc : X.calm = true) (hu : X.A.units + 64 < cLine) : CallR X (.builtin "max") (rMaxL X) := @Rz _ _ (fun qz => @Hz.get _ _ (qz.bar : Hz _ (by
  clear qz
  intro pins s σ H xs us Q I r h
  obtain ⟨a, n, ns, rfl, hs, q⟩ := h
  obtain ⟨its, rv, hl, hz⟩ := I.list hs
  rw [Vals.ref1 r]
  refine PySem.W.max_list_data (x := .int n) (xs := ns.map .int) (I.ok.hd hc) hl.isList (PyProof.Rows.IntsAre.reads _ rv.ints) (alike_ints (n :: ns)) (by rw [show (PyData.int n :: ns.map .int) = (n :: ns).map .int from rfl, PyProof.Rows.depthAll_ints]; omega) fun i v h' tk bs e rd k => ?_
  rw [PySem.W.maxD_ints, foldl_max] at rd
  cases rd
  exact ⟨.int _, H, I.kept k, ⟨_, rfl⟩, q⟩))) Xz.mk
/-- with default=None -/
def rMinLd (X : Cx) : List V → List V → Hp → VK → Prop := fun vs zs H Q => ∃ (a : Addr) (ns : List Int), vs = [.ref a] ∧ zs = [.non] ∧ SqL X.K H a (ns.map V.int) ∧ Q (match ns with | [] => .non | n :: ns => .int (minL (n :: ns))) H
def rMaxLd (X : Cx) : List V → List V → Hp → VK → Prop := fun vs zs H Q => ∃ (a : Addr) (ns : List Int), vs = [.ref a] ∧ zs = [.non] ∧ SqL X.K H a (ns.map V.int) ∧ Q (match ns with | [] => .non | n :: ns => .int (maxL (n :: ns))) H
theorem call_min1d (hc : X.calm = true) (hu : X.A.units + 64 < cLine) : CallRK X (.builtin "min") [Str.ofString "default"] (rMinLd X) := @Rz _ _ (fun qz => @Hz.get _ _ (qz.bar : Hz _ (by
  clear qz
  intro pins s σ H xs zs us ws Q I r rz h
  obtain ⟨a, ns, rfl, rfl, hs, q⟩ := h
  obtain ⟨its, rv, hl, hz⟩ := I.list hs
  rw [Vals.ref1 r]
  obtain ⟨w1, rfl, e1⟩ := vals1 rz
  obtain rfl : w1 = Value.none := e1
  refine PySem.W.min_list_default (xs := ns.map .int) (I.ok.hd hc) hl.isList (PyProof.Rows.IntsAre.reads _ rv.ints) (alike_ints ns) (by rw [PyProof.Rows.depthAll_ints]; omega) (fun e h' tk k => ?_) fun y ys i v h' tk bs e ei rd k => ?_
  · cases ns with
    | nil => exact ⟨.non, H, I.kept k, rfl, q⟩
    | cons n ns => cases e
  · cases ns with
    | nil => cases e
    | cons n ns =>
      cases e
      rw [PySem.W.minD_ints, foldl_min] at rd
      cases rd
      exact ⟨.int _, H, I.kept k, ⟨_, rfl⟩, q⟩))) Xz.mk
theorem call_max1d (hc : X.calm = true) (hu : X.A.units + 64 < cLine) : CallRK X (.builtin "max") [Str.ofString "default"] (rMaxLd X) := @Rz _ _ (fun qz => @Hz.get _ _ (qz.bar : Hz _ (by
  clear qz
  intro pins s σ H xs zs us ws Q I r rz h
  obtain ⟨a, ns, rfl, rfl, hs, q⟩ := h
  obtain ⟨its, rv, hl, hz⟩ := I.list hs
  rw [Vals.ref1 r]
  obtain ⟨w1, rfl, e1⟩ := vals1 rz
  obtain rfl : w1 = Value.none := e1
  refine PySem.W.max_list_default (xs := ns.map .int) (I.ok.hd hc) hl.isList (PyProof.Rows.IntsAre.reads _ rv.ints) (alike_ints ns) (by rw [PyProof.Rows.depthAll_ints]; omega) (fun e h' tk k => ?_) fun y ys i v h' tk bs e ei rd k => ?_
  · cases ns with
    | nil => exact ⟨.non, H, I.kept k, rfl, q⟩
    | cons n ns => cases e
  · cases ns with
    | nil => cases e
    | cons n ns =>
      cases e
      rw [PySem.W.maxD_ints, foldl_max] at rd
      cases rd
      exact ⟨.int _, H, I.kept k, ⟨_, rfl⟩, q⟩))) Xz.mk
end
section
variable {E : En} {e a b c : Expr} {ta tb tc : Tm} {fr : Fr} {σ tp : St} {H F : Hp} {io : List Addr} {Q : VK} {pos : Pos} {es : List Expr} {ts : List Tm}
theorem reps_intsD {G : Glb} : ∀ {ds : List Ag.D} {ns : List Int} {vs : List V}, intsD ds = some ns → Reps G F io ds vs → vs = ns.map V.int
  | [], _, _, e, r => by cases e; cases r; rfl
  | d :: ds, ns, _, e, r => by
    cases d with
    | int i =>
      unfold intsD at e
      cases q : intsD ds with
      | none => rw [q] at e; cases e
      | some ms =>
        rw [q] at e; cases e
        cases r with
        | cons r1 r2 =>
          cases r1
          rw [reps_intsD q r2]; rfl
    | _ => unfold intsD at e; cases e
theorem bi_min1 (ok : E.Ok) : BiOk E .min1 := @Rz _ _ (fun qz => @Hz.get _ _ (qz.bar : Hz _ (by
  clear qz
  intro fr σ tp H F io Q ds vs o w r e h
  have e : biMin1 ds = some o := e
  unfold biMin1 at e
  split at e
  · split at e
    · rename_i hi
      cases e
      obtain ⟨v, rfl, l⟩ := lk1 r
      obtain ⟨p, vs, rfl, h1, r1⟩ := l.lst w.wr.sub
      have := reps_intsD hi r1
      subst this
      exact wCall_of (call_min1 ok.calm ok.hu) ⟨p, _, _, rfl, SqL.of h1, h.int w⟩
    · cases e
  · cases e))) Xz.mk
theorem bi_max1 (ok : E.Ok) : BiOk E .max1 := @Rz _ _ (fun qz => @Hz.get _ _ (qz.bar : Hz _ (by
  clear qz
  intro fr σ tp H F io Q ds vs o w r e h
  have e : biMax1 ds = some o := e
  unfold biMax1 at e
  split at e
  · split at e
    · rename_i hi
      cases e
      obtain ⟨v, rfl, l⟩ := lk1 r
      obtain ⟨p, vs, rfl, h1, r1⟩ := l.lst w.wr.sub
      have := reps_intsD hi r1
      subst this
      exact wCall_of (call_max1 ok.calm ok.hu) ⟨p, _, _, rfl, SqL.of h1, h.int w⟩
    · cases e
  · cases e))) Xz.mk
theorem SE_min1d (ok : E.Ok) {p kp cp : Pos} {kk : Nat} (hg : Gl E.X "min") (hm : E.X.mg "min" = none) (hs : notStar a = true) (ha : SP' E [a] [ta]) :
    SE E (.Call (.Name "min" p) [a] [⟨some "default", .Constant .none kk cp, kp⟩] pos) (.bi .min1d [ta]) := @Rz _ _ (fun qz => @Hz.get _ _ (qz.bar : Hz _ (by
  clear qz
  intro fr σ tp H F io Q hl w h
  have f1 : allNot [] = true := rfl
  refine wE_of (pe_callBK (call_min1d ok.calm ok.hu) hg hm (by decide +kernel) pa_w (pk_cons pe_non pk_nil) (by decide +kernel) (by decide +kernel) ((congrArg (backTo pos) (star_ne hs _ _)).trans rfl) (plain_of (by unfold allNot; simp [hs]) _ _) rfl rfl rfl) ?_
  unfold ev at h
  refine ha fr σ tp H F io _ hl w (Rs.all_imp (Rs.all_bind h) (fun rs fr1 z => ?_) fun _ _ _ x => x)
  intro vs H1 F1 io1 s p w1 r
  cases e1 : looks fr1.env rs with
  | none => simp [e1] at z; exact z.elim
  | some ds =>
    simp only [e1] at z
    cases e2 : biD .min1d ds with
    | none => simp [e2] at z; exact z.elim
    | some o =>
      simp only [e2] at z
      have r := looks_ok w1 r e1
      have z := okE.mono s p z
      have e2 : biMin1d ds = some o := e2
      unfold biMin1d at e2
      split at e2
      · split at e2
        · rename_i hi
          cases e2
          obtain ⟨v, rfl, l⟩ := lk1 r
          obtain ⟨p, vs, rfl, h1, r1⟩ := l.lst w1.wr.sub
          have := reps_intsD hi r1
          subst this
          exact ⟨p, _, rfl, rfl, SqL.of h1, z.int w1⟩
        · rename_i hi
          cases e2
          obtain ⟨v, rfl, l⟩ := lk1 r
          obtain ⟨p, vs, rfl, h1, r1⟩ := l.lst w1.wr.sub
          have := reps_intsD hi r1
          subst this
          exact ⟨p, [], rfl, rfl, SqL.of h1, z _ H1 F1 io1 (Same.refl _) (Pre.refl _) w1 .non⟩
        · cases e2
      · cases e2))) Xz.mk
theorem SE_max1d (ok : E.Ok) {p kp cp : Pos} {kk : Nat} (hg : Gl E.X "max") (hm : E.X.mg "max" = none) (hs : notStar a = true) (ha : SP' E [a] [ta]) :
    SE E (.Call (.Name "max" p) [a] [⟨some "default", .Constant .none kk cp, kp⟩] pos) (.bi .max1d [ta]) := @Rz _ _ (fun qz => @Hz.get _ _ (qz.bar : Hz _ (by
  clear qz
  intro fr σ tp H F io Q hl w h
  have f1 : allNot [] = true := rfl
  refine wE_of (pe_callBK (call_max1d ok.calm ok.hu) hg hm (by decide +kernel) pa_w (pk_cons pe_non pk_nil) (by decide +kernel) (by decide +kernel) ((congrArg (backTo pos) (star_ne hs _ _)).trans rfl) (plain_of (by unfold allNot; simp [hs]) _ _) rfl rfl rfl) ?_
  unfold ev at h
  refine ha fr σ tp H F io _ hl w (Rs.all_imp (Rs.all_bind h) (fun rs fr1 z => ?_) fun _ _ _ x => x)
  intro vs H1 F1 io1 s p w1 r
  cases e1 : looks fr1.env rs with
  | none => simp [e1] at z; exact z.elim
  | some ds =>
    simp only [e1] at z
    cases e2 : biD .max1d ds with
    | none => simp [e2] at z; exact z.elim
    | some o =>
      simp only [e2] at z
      have r := looks_ok w1 r e1
      have z := okE.mono s p z
      have e2 : biMax1d ds = some o := e2
      unfold biMax1d at e2
      split at e2
      · split at e2
        · rename_i hi
          cases e2
          obtain ⟨v, rfl, l⟩ := lk1 r
          obtain ⟨p, vs, rfl, h1, r1⟩ := l.lst w1.wr.sub
          have := reps_intsD hi r1
          subst this
          exact ⟨p, _, rfl, rfl, SqL.of h1, z.int w1⟩
        · rename_i hi
          cases e2
          obtain ⟨v, rfl, l⟩ := lk1 r
          obtain ⟨p, vs, rfl, h1, r1⟩ := l.lst w1.wr.sub
          have := reps_intsD hi r1
          subst this
          exact ⟨p, [], rfl, rfl, SqL.of h1, z _ H1 F1 io1 (Same.refl _) (Pre.refl _) w1 .non⟩
        · cases e2
      · cases e2))) Xz.mk
end
end Ag
namespace Ag
open PySem PySem.Spec L2
/-! ### sorted -/
theorem insI_perm (x : Int) : ∀ l, (insI x l).Perm (x :: l)
  | [] => .refl _
  | q :: r => by
    unfold insI
    split
    · exact ((insI_perm x r).cons q).trans (.swap ..)
    · exact .refl _
theorem sortI_perm : ∀ l, (sortI l).Perm l
  | [] => .refl _
  | x :: l => (insI_perm x (sortI l)).trans ((sortI_perm l).cons x)
theorem insI_srt (x : Int) : ∀ l : List Int, l.Pairwise (· ≤ ·) → (insI x l).Pairwise (· ≤ ·)
  | [], _ => List.pairwise_singleton _ _
  | q :: r, h => by
    obtain ⟨h1, h2⟩ := List.pairwise_cons.mp h
    unfold insI
    split
    · rename_i hlt
      refine List.pairwise_cons.mpr ⟨fun a ha => ?_, insI_srt x r h2⟩
      rcases List.mem_cons.mp ((insI_perm x r).mem_iff.mp ha) with rfl | z
      · omega
      · exact h1 a z
    · rename_i hlt
      refine List.pairwise_cons.mpr ⟨fun a ha => ?_, h⟩
      rcases List.mem_cons.mp ha with rfl | z
      · omega
      · have := h1 a z; omega
theorem sortI_srt : ∀ l : List Int, (sortI l).Pairwise (· ≤ ·)
  | [] => .nil
  | x :: l => insI_srt x (sortI l) (sortI_srt l)
theorem srt_uniq {α : Type} {le : α → α → Prop} (anti : ∀ a b, le a b → le b a → a = b) : ∀ {l m : List α}, l.Pairwise le → m.Pairwise le → (∀ a ∈ l, le a a) → l.Perm m → l = m
  | [], m, _, _, _, h => (List.Perm.eq_nil h.symm).symm
  | x :: l, [], _, _, _, h => absurd h.length_eq (by simp)
  | x :: l, y :: m, hl, hm, rf, h => by
    obtain ⟨l1, l2⟩ := List.pairwise_cons.mp hl
    obtain ⟨m1, m2⟩ := List.pairwise_cons.mp hm
    have e : x = y := by
      rcases List.mem_cons.mp (h.mem_iff.mp (List.mem_cons_self (a := x) (l := l))) with e | hx
      · exact e
      · rcases List.mem_cons.mp (h.mem_iff.mpr (List.mem_cons_self (a := y) (l := m))) with e | hy
        · exact e.symm
        · exact anti _ _ (l1 y hy) (m1 x hx)
    subst e
    rw [srt_uniq anti l2 m2 (fun a ha => rf a (List.mem_cons_of_mem _ ha)) h.cons_inv]
def leP (p q : Int × Int) : Prop := p.1 < q.1 ∨ (p.1 = q.1 ∧ p.2 ≤ q.2)
theorem lexL_iff {p q : Int × Int} : lexL p q = true ↔ p.1 < q.1 ∨ (p.1 = q.1 ∧ p.2 < q.2) := by unfold lexL; simp
theorem insP_perm (x : Int × Int) : ∀ l, (insP x l).Perm (x :: l)
  | [] => .refl _
  | q :: r => by
    unfold insP
    split
    · exact ((insP_perm x r).cons q).trans (.swap ..)
    · exact .refl _
theorem sortP_perm : ∀ l, (sortP l).Perm l
  | [] => .refl _
  | x :: l => (insP_perm x (sortP l)).trans ((sortP_perm l).cons x)
theorem insP_srt (x : Int × Int) : ∀ l : List (Int × Int), l.Pairwise leP → (insP x l).Pairwise leP
  | [], _ => List.pairwise_singleton _ _
  | q :: r, h => by
    obtain ⟨h1, h2⟩ := List.pairwise_cons.mp h
    unfold insP
    split
    · rename_i hlt
      have hlt := lexL_iff.mp hlt
      refine List.pairwise_cons.mpr ⟨fun a ha => ?_, insP_srt x r h2⟩
      rcases List.mem_cons.mp ((insP_perm x r).mem_iff.mp ha) with rfl | z
      · unfold leP; omega
      · exact h1 a z
    · rename_i hlt
      have hlt : ¬ (q.1 < x.1 ∨ (q.1 = x.1 ∧ q.2 < x.2)) := fun z => hlt (lexL_iff.mpr z)
      refine List.pairwise_cons.mpr ⟨fun a ha => ?_, h⟩
      rcases List.mem_cons.mp ha with rfl | z
      · unfold leP; omega
      · have := h1 a z; unfold leP at this ⊢; omega
theorem sortP_srt : ∀ l : List (Int × Int), (sortP l).Pairwise leP
  | [] => .nil
  | x :: l => insP_srt x (sortP l) (sortP_srt l)
theorem leP_anti (a b : Int × Int) (h : leP a b) (k : leP b a) : a = b := @Rz _ _ (fun qz => @Hz.get _ _ (qz.bar : Hz _ (by
  clear qz
  unfold leP at h k
  exact Prod.ext (by omega) (by omega)))) Xz.mk
section
variable {E : En} {e a b c : Expr} {ta tb tc : Tm} {fr : Fr} {σ tp : St} {H F : Hp} {io : List Addr} {Q : VK} {pos : Pos} {es : List Expr} {ts : List Tm}
def rSortedPT (K : PySem.W.Frag) : List V → Hp → VK → Prop := fun vs H Q => ∃ (a : Addr) (xs : List V) (k : V → Int × Int), vs = [V.ref a] ∧ SqL K H a xs ∧ (∀ x ∈ xs, ∃ t, x = V.ref t ∧ SqT K H t [.int (k x).1, .int (k x).2]) ∧
  ∀ ys p, SrtO.Srtd (ltP k) ys → SrtO.Stb (ltP k) ys xs → H p = none → Q (.ref p) (upd H p (.lst ys))
theorem cr_sortedPT {X : Cx} : CallR X (.builtin "sorted") (rSortedPT X.K) := @Rz _ _ (fun qz => @Hz.get _ _ (qz.bar : Hz _ (by
  clear qz
  intro pins s σ H vs us Q I r h
  obtain ⟨a, xs, k, rfl, hs, hx, q⟩ := h
  obtain ⟨its, rv, hl, hz⟩ := I.list hs
  obtain ⟨u, rfl, ru⟩ := vals1 r
  obtain rfl : u = Value.ref a := ru
  obtain ⟨e1, e2⟩ := refs_back rv fun x m => by
    obtain ⟨t, e, _⟩ := hx x m
    exact ⟨t, e⟩
  refine SrtO.sorted_pairsO (k := fun u => k (backV u)) hl.isList (by rw [← rv.length]; exact hz) (fun v hv => ?_) fun h' d out h1 h2 kp hd hn => ?_
  · obtain ⟨t, rfl⟩ := e2 v hv
    have hm : V.ref t ∈ xs := by rw [e1]; exact List.mem_map.mpr ⟨_, hv, rfl⟩
    obtain ⟨t', e, ht⟩ := hx _ hm
    cases e
    obtain ⟨its2, r2, ⟨o, ho, hc, n, hd⟩, _⟩ := I.tuple ht
    obtain ⟨u1, u2, rfl, ri, rj⟩ := vals2 r2
    obtain ⟨t1, rfl⟩ := ri
    obtain ⟨t2, rfl⟩ := rj
    exact ⟨t, o, t1, t2, n, rfl, ho, hc, hd⟩
  · have h3 : ∀ u ∈ out, ∃ a, u = Value.ref a := fun u hu => e2 u (h2.perm.mem_iff.mp hu)
    obtain ⟨n, hn⟩ := hn
    have hb : SrtO.Stb (ltP k) (out.map backV) xs := by
      rw [e1]
      exact SrtO.Stb.map (ltP_swo k) backV h2
    refine ⟨.ref d, upd H d (.lst (out.map backV)), I.laid (t' := s.toks) kp hd ⟨?_, out, n, vals_back h3, hn⟩, rfl, q _ d (SrtO.srtd_map h1) hb (I.hok.fresh hd)⟩
    rw [hb.len]
    exact hz))) Xz.mk
theorem reps_ints2 {G : Glb} : ∀ (ns : List Int), Reps G F io (ns.map Ag.D.int) (ns.map V.int)
  | [] => .nil
  | n :: ns => .cons (.int n) (reps_ints2 ns)
/-- pairs of ints, as they stand -/
theorem reps_pairs {G : Glb} : ∀ {ds : List Ag.D} {ps : List (Int × Int)} {vs : List V}, pairsD ds = some ps → Reps G F io ds vs → ds = ps.map pairD ∧ ∀ x ∈ vs, ∃ (t : Addr) (p : Int × Int), x = V.ref t ∧ SqT G.K F t [.int p.1, .int p.2] := @Rz _ _ (fun qz => @Hz.get _ _ (qz.bar : Hz _ (by
  clear qz
  intro ds
  induction ds with
  | nil => intro ps vs e r; cases e; cases r; exact ⟨rfl, fun x hx => nomatch hx⟩
  | cons d ds ih =>
    intro ps vs e r
    unfold pairsD at e
    split at e
    · rename_i z; cases z
    · rename_i i j ds' he
      cases he
      cases q : pairsD ds with
      | none => rw [q] at e; cases e
      | some qs =>
        rw [q] at e; cases e
        cases r with
        | cons r1 r2 =>
          obtain ⟨h1, h2⟩ := ih q r2
          refine ⟨by rw [h1]; rfl, fun x hx => ?_⟩
          rcases List.mem_cons.mp hx with rfl | hx
          · cases r1 with
            | tup g1 g2 =>
              cases g2 with
              | cons a1 a2 => cases a2 with
                | cons b1 b2 => cases b2; cases a1; cases b1; exact ⟨_, (i, j), rfl, g1⟩
          · exact h2 x hx
    · cases e))) Xz.mk
theorem reps_key {G : Glb} {k : V → Int × Int} : ∀ {ps : List (Int × Int)} {vs : List V}, (∀ x ∈ vs, ∃ t, x = V.ref t ∧ SqT G.K F t [.int (k x).1, .int (k x).2]) → (∀ a xs ys, SqT G.K F a xs → SqT G.K F a ys → xs = ys) → Reps G F io (ps.map pairD) vs → vs.map k = ps
  | [], _, _, _, r => by cases r; rfl
  | p :: ps, _, hk, inj, r => by
    cases r with
    | cons r1 r2 =>
      rename_i v vs
      obtain ⟨t, e, h⟩ := hk v (List.mem_cons_self ..)
      have r1 : Rep G F io (.tup [.int p.1, .int p.2]) v := r1
      cases r1 with
      | tup g1 g2 =>
        cases e
        cases g2 with
        | cons a1 a2 => cases a2 with
          | cons b1 b2 =>
            cases b2; cases a1; cases b1
            have := inj _ _ _ g1 h
            rw [List.map_cons, reps_key (fun x hx => hk x (List.mem_cons_of_mem _ hx)) inj r2]
            injection this with z1 z2
            injection z2 with z2 _
            injection z1 with z1
            injection z2 with z2
            rw [show k _ = p from Prod.ext z1.symm z2.symm]
theorem key_reps {G : Glb} {k : V → Int × Int} : ∀ {vs : List V}, (∀ x ∈ vs, ∃ t, x = V.ref t ∧ SqT G.K F t [.int (k x).1, .int (k x).2]) → Reps G F io ((vs.map k).map pairD) vs
  | [], _ => .nil
  | v :: vs, hk => by
    obtain ⟨t, e, h⟩ := hk v (List.mem_cons_self ..)
    refine .cons ?_ (key_reps fun x hx => hk x (List.mem_cons_of_mem _ hx))
    show Rep G F io (.tup [.int (k v).1, .int (k v).2]) v
    rw [e] at h ⊢
    exact .tup h (.cons (.int _) (.cons (.int _) .nil))
open Classical in
/-- the key of a value: the pair that it stands for -/
noncomputable def keyV (K : PySem.W.Frag) (H : Hp) (x : V) : Int × Int := if h : ∃ (t : Addr) (p : Int × Int), x = V.ref t ∧ SqT K H t [.int p.1, .int p.2] then Classical.choose (Classical.choose_spec h) else (0, 0)
theorem keyV_at {K : PySem.W.Frag} {x : V} (h : ∃ (t : Addr) (p : Int × Int), x = V.ref t ∧ SqT K H t [.int p.1, .int p.2]) : ∃ t, x = V.ref t ∧ SqT K H t [.int (keyV K H x).1, .int (keyV K H x).2] := @Rz _ _ (fun qz => @Hz.get _ _ (qz.bar : Hz _ (by
  clear qz
  unfold keyV
  rw [dif_pos h]
  exact ⟨_, Classical.choose_spec (Classical.choose_spec h)⟩))) Xz.mk
theorem srtd_le {k : V → Int × Int} {ys : List V} (h : SrtO.Srtd (ltP k) ys) : (ys.map k).Pairwise leP := @Rz _ _ (fun qz => @Hz.get _ _ (qz.bar : Hz _ (by
  clear qz
  rw [List.pairwise_map]
  refine List.Pairwise.imp ?_ h
  intro a b z
  have := SrtO.lexB_no.mp z
  unfold leP
  omega))) Xz.mk
theorem bi_sorted (ok : E.Ok) : BiOk E .sorted_ := @Rz _ _ (fun qz => @Hz.get _ _ (qz.bar : Hz _ (by
  clear qz
  intro fr σ tp H F io Q ds vs o w r e h
  have e : biSorted ds = some o := e
  unfold biSorted at e
  split at e
  · split at e
    · rename_i hi
      cases e
      obtain ⟨v, rfl, l⟩ := lk1 r
      obtain ⟨p, vs, rfl, h1, r1⟩ := l.lst w.wr.sub
      have := reps_intsD hi r1
      subst this
      refine wCall_of cr_sortedI ⟨p, _, rfl, SqL.of h1, fun ns' q hp hs hq => ?_⟩
      rw [srt_uniq (fun a b h k => by omega) hs (sortI_srt _) (fun a _ => by omega) (hp.trans (sortI_perm _).symm)]
      exact h.fresh w (reps_ints2 _) hq
    · rename_i hi
      split at e
      · rename_i hp
        cases e
        rename_i ps
        obtain ⟨v, rfl, l⟩ := lk1 r
        obtain ⟨p, vs, rfl, h1, r1⟩ := l.lst w.wr.sub
        obtain ⟨rfl, h2⟩ := reps_pairs hp r1
        have hk : ∀ x ∈ vs, ∃ t, x = V.ref t ∧ SqT E.G.K F t [.int (keyV E.G.K F x).1, .int (keyV E.G.K F x).2] := fun x hx => keyV_at (h2 x hx)
        intro pins σ' s us I rv
        have inj : ∀ a xs ys, SqT E.G.K F a xs → SqT E.G.K F a ys → xs = ys := fun a xs ys z1 z2 => I.tuple_inj (by rw [← ok.k]; exact Same.sqT w.wr.sub z1) (by rw [← ok.k]; exact Same.sqT w.wr.sub z2)
        refine cr_sortedPT pins s σ' H _ us Q I rv ⟨p, vs, keyV E.G.K F, rfl, SqL.of h1, fun x hx => ?_, fun ys q hs hb hq => ?_⟩
        · obtain ⟨t, e, z⟩ := hk x hx
          rw [← ok.k]
          exact ⟨t, e, Same.sqT w.wr.sub z⟩
        · have hkv : vs.map (keyV E.G.K F) = ps := reps_key hk inj r1
          have hy : (ys.map (keyV E.G.K F)) = sortP ps := srt_uniq leP_anti (srtd_le hs) (sortP_srt _) (fun a _ => by unfold leP; omega) (((hb.perm.map _).trans (by rw [hkv])).trans (sortP_perm _).symm)
          rw [← hy] at h
          exact h.fresh w (key_reps fun x hx => hk x (hb.perm.mem_iff.mp hx)) hq
      · cases e
  · cases e))) Xz.mk
theorem SE_lstS (ok : E.Ok) {p : Pos} (ho : SE E e ta) (ha : SA E es ts) : SE E (.List (.Starred e p :: es) pos) (.lstS ta ts) := @Rz _ _ (fun qz => @Hz.get _ _ (qz.bar : Hz _ (by
  clear qz
  intro fr σ tp H F io Q hl w h
  refine wE_of (pe_lst (StX.pa_star pe_w pa_w)) ?_
  unfold ev at h
  refine ho.held hl w h fun r fr1 v H1 F1 io1 s1 p1 w1 hk h1 => ?_
  cases e1 : look fr1.env (hold r) with
  | none => simp [e1] at h1; exact h1.elim
  | some d =>
    simp only [e1] at h1
    have lk := w1.look hk e1
    cases e2 : seqOf d with
    | none => simp [e2] at h1; exact h1.elim
    | some xs =>
      simp only [e2] at h1
      have src : ∃ q us, v = V.ref q ∧ (SqT E.X.K H1 q us ∨ SqL E.X.K H1 q us) ∧ Reps E.G F1 io1 xs us := by
        cases d with
        | lst ys =>
          cases e2
          obtain ⟨q, us, rfl, h1, r1⟩ := lk.lst w1.wr.sub
          exact ⟨q, us, rfl, .inr (SqL.of h1), r1⟩
        | tup ys =>
          cases e2
          obtain ⟨q, us, rfl, h1, g1, r1⟩ := lk.tup w1.wr.sub
          rw [ok.k] at h1
          exact ⟨q, us, rfl, .inl h1, r1⟩
        | _ => cases e2
      obtain ⟨q, us, rfl, hq, r1⟩ := src
      refine ⟨q, us, rfl, hq, ?_⟩
      refine ha fr1 σ tp H1 F1 io1 _ hl w1 (Rs.all_imp (Rs.all_bind h1) (fun ds fr2 z => ?_) fun _ _ _ x => x)
      intro vs H2 F2 io2 s2 p2 w2 r2
      split at z
      · rename_i hz
        refine ⟨by rw [List.length_append, ← r1.length, ← r2.length]; exact hz, fun l hl => okE.fresh w2 ((r1.mono s2 p2).append r2) (okE.mono (s1.trans s2) (p1.trans p2) z) hl⟩
      · exact z.elim))) Xz.mk
theorem SE_tupS (ok : E.Ok) {p : Pos} {kk : Nat} (ho : SE E e ta) (ha : SA E es ts) : SE E (.Tuple (.Starred e p :: es) kk pos) (.tupS ta ts) := @Rz _ _ (fun qz => @Hz.get _ _ (qz.bar : Hz _ (by
  clear qz
  intro fr σ tp H F io Q hl w h
  refine wE_of (pe_tup (StX.pa_star pe_w pa_w)) ?_
  unfold ev at h
  refine ho.held hl w h fun r fr1 v H1 F1 io1 s1 p1 w1 hk h1 => ?_
  cases e1 : look fr1.env (hold r) with
  | none => simp [e1] at h1; exact h1.elim
  | some d =>
    simp only [e1] at h1
    have lk := w1.look hk e1
    cases e2 : seqOf d with
    | none => simp [e2] at h1; exact h1.elim
    | some xs =>
      simp only [e2] at h1
      have src : ∃ q us, v = V.ref q ∧ (SqT E.X.K H1 q us ∨ SqL E.X.K H1 q us) ∧ Reps E.G F1 io1 xs us := by
        cases d with
        | lst ys =>
          cases e2
          obtain ⟨q, us, rfl, h1, r1⟩ := lk.lst w1.wr.sub
          exact ⟨q, us, rfl, .inr (SqL.of h1), r1⟩
        | tup ys =>
          cases e2
          obtain ⟨q, us, rfl, h1, g1, r1⟩ := lk.tup w1.wr.sub
          rw [ok.k] at h1
          exact ⟨q, us, rfl, .inl h1, r1⟩
        | _ => cases e2
      obtain ⟨q, us, rfl, hq, r1⟩ := src
      refine ⟨q, us, rfl, hq, ?_⟩
      refine ha fr1 σ tp H1 F1 io1 _ hl w1 (Rs.all_imp (Rs.all_bind h1) (fun ds fr2 z => ?_) fun _ _ _ x => x)
      intro vs H2 F2 io2 s2 p2 w2 r2
      split at z
      · rename_i hz
        refine ⟨by rw [List.length_append, ← r1.length, ← r2.length]; exact hz, fun l hl => okE.tup w2 ((r1.mono s2 p2).append r2) (okE.mono (s1.trans s2) (p1.trans p2) z) hl⟩
      · exact z.elim))) Xz.mk
end
end Ag
namespace Ag
open PySem PySem.Spec L2
/-! ### list(zip(a, b)) -/
section
variable {prog : Program} {w : World} {A : Around} {E : Value → Shared → Prop} {s : Shared} {z TI TO T i1 i2 : Addr} {fp1 fp2 : List Addr} {n1 n2 i : Nat} {P1 P2 : Nat → Value → Prop} {St1 St2 : Nat → Heap → Prop} {f : Bool} {oT : Obj}
/-- a turn of zip whose first tuple is still held -/
theorem zipH_next_item {Q : Value → Shared → Prop} (S : ZipSep2 z TI TO i1 i2 fp1 fp2) (D1 : Draws prog w A i1 fp1 n1 P1 St1) (D2 : Draws prog w A i2 fp2 n2 P2 St2)
    (hz : IsZipHeld s.heap z TI TO T f) (hT : s.heap.get? T = some oT) (hTI : IsTupOf2 s.heap TI (.ref i1) (.ref i2)) (st1 : St1 i s.heap) (st2 : St2 i s.heap) (hlt1 : i < n1) (hlt2 : i < n2)
    (hQ : ∀ x1 x2 h' tk, P1 i x1 → P2 i x2 → IsZipHeld h' z TI TO T true → St1 (i + 1) h' → St2 (i + 1) h' → IsTupOf2 h' s.heap.objs.size x1 x2 → h'.objs.size = s.heap.objs.size + 1 →
      (∀ c o, c ≠ z → c ≠ i1 → c ≠ i2 → s.heap.get? c = some o → h'.get? c = some o) → Q (.ref s.heap.objs.size) { s with heap := h', toks := tk }) :
    wpAny (model prog w) A (Builtin.«zip.__next__» ⟨[.ref z], []⟩) (fun fin s' => ∃ v, fin = .done (.ret v) ∧ Q v s') E s := by
  obtain ⟨hp, g, d, tk0, os⟩ := s
  show wpAny _ _ (field (.ref z) 2 >>= _) _ _ _
  refine wpAny_bind (wpAny_field hz rfl (x := .bool false) rfl ?_)
  show wpAny _ _ (field (.ref z) 3 >>= _) _ _ _
  refine wpAny_bind (wpAny_field hz rfl (x := .ref TI) rfl ?_)
  refine wpAny_bind (wpAny_seqItems hTI rfl ?_)
  show wpAny _ _ (Builtin.SmallTypes.ownedTupleIsFree (.ref z) >>= _) _ _ _
  refine wpAny_bind (wpAny_tupleHeld_zip hz hT fun h₁ hz₁ hs₁ => ?_)
  replace hs₁ : Heap.SameBut z hp h₁ := hs₁
  simp only [Bool.false_eq_true, if_false]
  refine wpAny_bind ?_
  rw [← Array.forIn_toList]
  simp only [List.forIn_cons, List.forIn_nil]
  refine wpAny_bind (wpAny_bind (wpAny_holding ?_))
  show wpAny _ _ (Builtin.SmallTypes.nextOf (.ref i1) >>= _) _ _ _
  refine wpAny_bind (D1.item i _ _ _ hlt1 (D1.over st1 hs₁ S.zf1) fun x1 p1 tk1 hx1 sn1 hp1 => wpAny_pure ?_)
  replace hp1 : Heap.SameBut i1 h₁ p1 := hp1
  refine wpAny_pure ?_
  refine wpAny_bind (wpAny_bind (wpAny_holding ?_))
  show wpAny _ _ (Builtin.SmallTypes.nextOf (.ref i2) >>= _) _ _ _
  refine wpAny_bind (D2.item i _ _ _ hlt2 (D2.over (D2.over st2 hs₁ S.zf2) hp1 S.sep1_2) fun x2 p2 tk2 hx2 sn2 hp2 => wpAny_pure ?_)
  replace hp2 : Heap.SameBut i2 p1 p2 := hp2
  refine wpAny_pure (wpAny_pure ?_)
  show wpAny _ _ (newTuple [x1, x2] >>= _) _ _ _
  refine wpAny_bind (wpAny_newTuple ?_)
  have hsz : p2.objs.size = hp.objs.size := by rw [hp2.1, hp1.1, hs₁.1]
  have hz2 : IsZipHeld p2 z TI TO T true := hp2.extBut _ _ S.zi2 (hp1.extBut _ _ S.zi1 hz₁)
  have hk : ∀ c o, c ≠ z → c ≠ i1 → c ≠ i2 → hp.get? c = some o → p2.get? c = some o := fun c o c1 c2 c3 e => hp2.extBut _ _ c3 (hp1.extBut _ _ c2 (hs₁.extBut _ _ c1 e))
  have hj1 : St1 (i + 1) p2 := D1.over sn1 hp2 S.sep2_1
  refine wpAny_pure ⟨_, rfl, ?_⟩
  show Q (.ref p2.objs.size) _
  have hpp : IsTupOf2 (p2.push { cls := .type "tuple", data := .seq #[x1, x2] }) p2.objs.size x1 x2 := Heap.get?_push_size _ rfl
  have hz4 : (p2.push { cls := .type "tuple", data := .seq #[x1, x2] }).objs.size = p2.objs.size + 1 := Heap.size_push ..
  rw [hsz] at hpp hz4 ⊢
  exact hQ x1 x2 _ _ hx1 hx2 (Heap.get?_push_of_some _ hz2) (D1.frame _ _ _ hj1 fun b hb o e => Heap.get?_push_of_some _ e) (D2.frame _ _ _ sn2 fun b hb o e => Heap.get?_push_of_some _ e) hpp hz4 fun c o c1 c2 c3 e => Heap.get?_push_of_some _ (hk c o c1 c2 c3 e)
theorem zipH_next_end {Q : Fin → Shared → Prop} (S : ZipSep2 z TI TO i1 i2 fp1 fp2) (D1 : Draws prog w A i1 fp1 n1 P1 St1) (D2 : Draws prog w A i2 fp2 n2 P2 St2)
    (hz : IsZipHeld s.heap z TI TO T f) (hT : s.heap.get? T = some oT) (hTI : IsTupOf2 s.heap TI (.ref i1) (.ref i2)) (st1 : St1 i s.heap) (st2 : St2 i s.heap) (hle1 : i ≤ n1) (hle2 : i ≤ n2) (hend : i = n1 ∨ i = n2)
    (hE : ∀ h' tk e, (∀ c o, c ≠ z → c ≠ i1 → c ≠ i2 → s.heap.get? c = some o → h'.get? c = some o) → (∃ o, h'.get? e = some o ∧ o.cls = .type "StopIteration") → E (.ref e) { s with heap := h', toks := tk }) :
    wpAny (model prog w) A (Builtin.«zip.__next__» ⟨[.ref z], []⟩) Q E s := by
  obtain ⟨hp, g, d, tk0, os⟩ := s
  show wpAny _ _ (field (.ref z) 2 >>= _) _ _ _
  refine wpAny_bind (wpAny_field hz rfl (x := .bool false) rfl ?_)
  show wpAny _ _ (field (.ref z) 3 >>= _) _ _ _
  refine wpAny_bind (wpAny_field hz rfl (x := .ref TI) rfl ?_)
  refine wpAny_bind (wpAny_seqItems hTI rfl ?_)
  show wpAny _ _ (Builtin.SmallTypes.ownedTupleIsFree (.ref z) >>= _) _ _ _
  refine wpAny_bind (wpAny_tupleHeld_zip hz hT fun h₁ hz₁ hs₁ => ?_)
  replace hs₁ : Heap.SameBut z hp h₁ := hs₁
  simp only [Bool.false_eq_true, if_false]
  refine wpAny_bind ?_
  rw [← Array.forIn_toList]
  simp only [List.forIn_cons, List.forIn_nil]
  refine wpAny_bind (wpAny_bind (wpAny_holding ?_))
  show wpAny _ _ (Builtin.SmallTypes.nextOf (.ref i1) >>= _) _ _ _
  by_cases hlt1 : i < n1
  · refine wpAny_bind (D1.item i _ _ _ hlt1 (D1.over st1 hs₁ S.zf1) fun x1 p1 tk1 hx1 sn1 hp1 => wpAny_pure ?_)
    replace hp1 : Heap.SameBut i1 h₁ p1 := hp1
    have hi2 : i = n2 := by omega
    refine wpAny_pure ?_
    refine wpAny_bind (wpAny_bind (wpAny_holding ?_))
    show wpAny _ _ (Builtin.SmallTypes.nextOf (.ref i2) >>= _) _ _ _
    refine wpAny_bind (D2.done _ _ _ (by rw [← hi2]; exact D2.over (D2.over st2 hs₁ S.zf2) hp1 S.sep1_2) fun q e hq he => ?_)
    replace hq : Heap.ExtBut i2 p1 q := hq
    exact hE q tk1 e (fun c o c1 c2 c3 x => hq _ _ c3 (hp1.extBut _ _ c2 (hs₁.extBut _ _ c1 x))) he
  · have hi1 : i = n1 := by omega
    refine wpAny_bind (D1.done _ _ _ (by rw [← hi1]; exact D1.over st1 hs₁ S.zf1) fun q e hq he => ?_)
    replace hq : Heap.ExtBut i1 h₁ q := hq
    exact hE q tk0 e (fun c o c1 c2 c3 x => hq _ _ c2 (hs₁.extBut _ _ c1 x)) he
theorem zipH_pyNext_item {Q : Option Value → Shared → Prop} (S : ZipSep2 z TI TO i1 i2 fp1 fp2) (D1 : Draws prog w A.in1 i1 fp1 n1 P1 St1) (D2 : Draws prog w A.in1 i2 fp2 n2 P2 St2)
    (hz : IsZipHeld s.heap z TI TO T f) (hT : s.heap.get? T = some oT) (hTI : IsTupOf2 s.heap TI (.ref i1) (.ref i2)) (st1 : St1 i s.heap) (st2 : St2 i s.heap) (hlt1 : i < n1) (hlt2 : i < n2)
    (hQ : ∀ x1 x2 h' tk, P1 i x1 → P2 i x2 → IsZipHeld h' z TI TO T true → St1 (i + 1) h' → St2 (i + 1) h' → IsTupOf2 h' s.heap.objs.size x1 x2 → h'.objs.size = s.heap.objs.size + 1 →
      (∀ c o, c ≠ z → c ≠ i1 → c ≠ i2 → s.heap.get? c = some o → h'.get? c = some o) → Q (some (.ref s.heap.objs.size)) { s with heap := h', toks := tk }) :
    wpAny (model prog w) A (pyNext (.ref z)) Q E s := by
  have hTy : s.TypeIs (.ref z) "zip" := ⟨_, hz, rfl⟩
  unfold pyNext
  exact wpAny_bind (wpAny_attempt (wpAny_callSpecial?_slot (name := Str.ofString "__next__") hTy F.slot_zip_next
    (wpAny_call_entry F.slot_zip_next hTy F.entry_zip_next
      (zipH_next_item S D1 D2 hz hT hTI st1 st2 hlt1 hlt2 fun x1 x2 h' tk y1 y2 a1 a3 a4 a5 a6 a7 => wpAny_pure (hQ x1 x2 h' tk y1 y2 a1 a3 a4 a5 a6 a7)) (F.args_zip_next_1 _))))
theorem zipH_pyNext_end {Q : Option Value → Shared → Prop} (S : ZipSep2 z TI TO i1 i2 fp1 fp2) (D1 : Draws prog w A.in1 i1 fp1 n1 P1 St1) (D2 : Draws prog w A.in1 i2 fp2 n2 P2 St2)
    (hz : IsZipHeld s.heap z TI TO T f) (hT : s.heap.get? T = some oT) (hTI : IsTupOf2 s.heap TI (.ref i1) (.ref i2)) (st1 : St1 i s.heap) (st2 : St2 i s.heap) (hle1 : i ≤ n1) (hle2 : i ≤ n2) (hend : i = n1 ∨ i = n2)
    (hQ : ∀ h' tk, (∀ c o, c ≠ z → c ≠ i1 → c ≠ i2 → s.heap.get? c = some o → h'.get? c = some o) → Q none { s with heap := h', toks := tk }) : wpAny (model prog w) A (pyNext (.ref z)) Q E s := @Rz _ _ (fun qz => @Hz.get _ _ (qz.bar : Hz _ (by
  clear qz
  have hTy : s.TypeIs (.ref z) "zip" := ⟨_, hz, rfl⟩
  unfold pyNext
  refine wpAny_bind (wpAny_attempt (wpAny_callSpecial?_slot (name := Str.ofString "__next__") hTy F.slot_zip_next
    (wpAny_call_entry F.slot_zip_next hTy F.entry_zip_next (zipH_next_end S D1 D2 hz hT hTI st1 st2 hle1 hle2 hend fun h' tk e hk he => ?_) (F.args_zip_next_1 _))))
  obtain ⟨o, ho, hc⟩ := he
  refine wpAny_bind (wpAny_isInstance (T := "StopIteration") (b := true) ⟨o, ho, hc⟩ isSubtype_stop ?_)
  exact wpAny_pure (hQ _ _ hk)))) Xz.mk
end
end Ag
namespace Ag
open PySem PySem.Spec L2
/-- tuples laid one behind the other -/
def tls (H : Hp) : List (Addr × V × V) → Hp
  | [] => H
  | (t, x, y) :: r => tls (upd H t (.tup [x, y])) r
def tlF (H : Hp) : List (Addr × V × V) → Prop
  | [] => True
  | (t, x, y) :: r => H t = none ∧ tlF (upd H t (.tup [x, y])) r
theorem tls_snoc : ∀ {l : List (Addr × V × V)} {H : Hp} {t : Addr} {x y : V}, tls H (l ++ [(t, x, y)]) = upd (tls H l) t (.tup [x, y])
  | [], _, _, _, _ => rfl
  | (t', x', y') :: r, H, t, x, y => tls_snoc (l := r) (H := upd H t' (.tup [x', y']))
theorem tlF_snoc : ∀ {l : List (Addr × V × V)} {H : Hp} {t : Addr} {x y : V}, tlF H l → tls H l t = none → tlF H (l ++ [(t, x, y)])
  | [], _, _, _, _, _, h => ⟨h, trivial⟩
  | (t', x', y') :: r, H, t, x, y, h, k => ⟨h.1, tlF_snoc (l := r) h.2 k⟩
def lrefs (l : List (Addr × V × V)) : List V := l.map fun p => V.ref p.1
def lprs (l : List (Addr × V × V)) : List (V × V) := l.map fun p => p.2
section
variable {X : Cx} {pins : List (Addr × Obj)} {σ : St}
theorem fpok_upd {H : Hp} {b t : Addr} {o : HO} (h : FpOk X pins H b) (n : b ≠ t) : FpOk X pins (upd H t o) b := ⟨by rw [upd_ne n]; exact h.1, h.2⟩
theorem fpok_none {H H' : Hp} {b : Addr} (h : FpOk X pins H b) (n : H' b = none) : FpOk X pins H' b := ⟨n, h.2⟩
/-- the iterator zip at its turn i: no tuple of its own is out, or the first one still is -/
def ZSt (k1 k2 : Src) (a b : Addr) (its jts : Array Value) (N : Addr) (i : Nat) (q : Addr) (h : Heap) : Prop :=
  IsTupOf2 h (N + 2) (.ref N) (.ref (N + 1)) ∧ (k1.Iter h N a i ∧ k1.At h a its) ∧ (k2.Iter h (N + 1) b i ∧ k2.At h b jts) ∧
  ((i = 0 ∧ IsZip h (N + 4) (N + 2) (N + 3) .none ∧ ∃ x y, IsTupOf2 h (N + 3) x y) ∨ ∃ T f oT, IsZipHeld h (N + 4) (N + 2) (N + 3) T f ∧ h.get? T = some oT ∧ T ≠ q ∧ T ∉ zfp N)
theorem ZSt.keep {k1 k2 : Src} {a b : Addr} {its jts : Array Value} {N : Addr} {i : Nat} {q : Addr} {h h' : Heap} (z : ZSt k1 k2 a b its jts N i q h) (hq : q ∉ zfp N) (qa : q ≠ a) (qb : q ≠ b) (k : ∀ c o, c ≠ q → h.get? c = some o → h'.get? c = some o) : ZSt k1 k2 a b its jts N i q h' := @Rz _ _ (fun qz => @Hz.get _ _ (qz.bar : Hz _ (by
  clear qz
  obtain ⟨z1, ⟨z2, z3⟩, ⟨z4, z5⟩, z6⟩ := z
  have m : ∀ c, c = N + 4 ∨ c = N + 2 ∨ c = N + 3 ∨ c = N ∨ c = N + 1 → c ≠ q := fun c z e => hq (by rw [← e]; simpa [zfp] using z)
  have at1 : ∀ {k : Src} {p : Addr} {ts : Array Value}, p ≠ q → k.At h p ts → k.At h' p ts := by
    intro k p ts n x
    cases k
    · obtain ⟨o, e, r⟩ := x; exact ⟨o, k _ _ n e, r⟩
    · obtain ⟨o, e, r⟩ := x; exact ⟨o, k _ _ n e, r⟩
  refine ⟨k _ _ (m _ (.inr (.inl rfl))) z1, ⟨Src.iterAt z2 fun o e => k _ _ (m _ (.inr (.inr (.inr (.inl rfl))))) e, at1 qa.symm z3⟩, ⟨Src.iterAt z4 fun o e => k _ _ (m _ (.inr (.inr (.inr (.inr rfl))))) e, at1 qb.symm z5⟩, ?_⟩
  rcases z6 with ⟨e, z6, x, y, z7⟩ | ⟨T, f, oT, y1, y2, y3, y4⟩
  · exact .inl ⟨e, k _ _ (m _ (.inl rfl)) z6, x, y, k _ _ (m _ (.inr (.inr (.inl rfl)))) z7⟩
  · exact .inr ⟨T, f, oT, k _ _ (m _ (.inl rfl)) y1, k _ _ y3 y2, y3, y4⟩))) Xz.mk
theorem not_zfp {N q : Addr} (h : N + 4 < q) : q ∉ zfp N := fun z => by
  have key : ∀ (n r : Nat), n + 4 < r → r ≠ n + 4 ∧ r ≠ n + 2 ∧ r ≠ n + 3 ∧ r ≠ n ∧ r ≠ n + 1 := fun n r h => ⟨by omega, by omega, by omega, by omega, by omega⟩
  obtain ⟨a1, a2, a3, a4, a5⟩ := key N q h
  rcases zfp_mem z with e | e | e | e | e
  · exact a1 e
  · exact a2 e
  · exact a3 e
  · exact a4 e
  · exact a5 e
theorem lz_loop {k1 k2 : Src} {a b N q : Addr} {xs ys : List V} {its jts : List Value} {A1 : Around} {Rs : Result → Shared → Prop} {H1 : Hp} {n : Nat} (ha : a < N) (hb : b < N) (hq : N + 4 < q) (rv : Vals xs its) (rw_ : Vals ys jts) (hh : A1.in1.in1.handled = none) (hn : n = min xs.length ys.length) (hz : n ≤ sizeLine)
    (hdone : ∀ l s, l.length = n → (∀ (i : Nat) (p : V × V), (lprs l)[i]? = some p → xs[i]? = some p.1 ∧ ys[i]? = some p.2) → tlF H1 l → tls H1 l q = none → Inv X pins σ (upd (tls H1 l) q (.lst (lrefs l))) s → Rs (.ok (.ret .none)) s) :
    ∀ (k i : Nat) (l : List (Addr × V × V)) (s : Shared), n - i = k → i ≤ n → l.length = i → (∀ (i : Nat) (p : V × V), (lprs l)[i]? = some p → xs[i]? = some p.1 ∧ ys[i]? = some p.2) → tlF H1 l → tls H1 l q = none →
      Inv X pins σ (upd (tls H1 l) q (.lst (lrefs l))) s → (∀ c ∈ zfp N, FpOk X pins (upd (tls H1 l) q (.lst (lrefs l))) c) → ZSt k1 k2 a b its.toArray jts.toArray N i q s.heap →
      codeAny (model X.prog X.w) A1 (.builtin "list.extend.loop" ⟨[.ref q, .ref (N + 4), .none], []⟩) Rs s := @Rz _ _ (fun qz => @Hz.get _ _ (qz.bar : Hz _ (by
  clear qz
  have S : ZipSep2 (N + 4) (N + 2) (N + 3) N (N + 1) [N, a] [N + 1, b] := zip_sep2 (fun c hc => by rw [List.mem_singleton.mp hc]; exact ha) (fun c hc => by rw [List.mem_singleton.mp hc]; exact hb)
  have na : a ≠ N := Nat.ne_of_lt ha
  have nb : b ≠ N + 1 := Nat.ne_of_lt (Nat.lt_succ_of_lt hb)
  have l1 := rv.length
  have l2 := rw_.length
  have d1 := Src.draws (prog := X.prog) (w := X.w) (A := A1.in1.in1) hh k1 N a na its.toArray
  have d2 := Src.draws (prog := X.prog) (w := X.w) (A := A1.in1.in1) hh k2 (N + 1) b nb jts.toArray
  have hqz : q ∉ zfp N := not_zfp hq
  have m : ∀ {c : Addr}, c ∉ zfp N → ∀ c', c' = N + 4 ∨ c' = N + 2 ∨ c' = N + 3 ∨ c' = N ∨ c' = N + 1 → c ≠ c' := fun nc c' z e => nc (by rw [e]; simpa [zfp] using z)
  intro k
  induction k with
  | zero =>
    intro i l s hk hi hl hp hF hqn I hf st
    have hin : i = n := by omega
    refine codeAny_builtin PySem.F.entry_extend_loop ?_
    rw [Around.under_plainId PySem.F.plain_extend_loop _]
    show wpAny _ A1.in1 (pyNext (.ref (N + 4)) >>= _) _ _ s
    obtain ⟨z1, st1, st2, z6⟩ := st
    have e1 : i ≤ its.toArray.size := by simp; omega
    have e2 : i ≤ jts.toArray.size := by simp; omega
    have e3 : i = its.toArray.size ∨ i = jts.toArray.size := by simp; omega
    have fin : ∀ (h' : Heap) (tk : Nat), (∀ c o, c ∉ zfp N → s.heap.get? c = some o → h'.get? c = some o) → Rs (.ok (.ret .none)) { s with heap := h', toks := tk } := fun h' tk kk =>
      hdone l _ (by omega) hp hF hqn (I.turnedL (t' := tk) (ch := zfp N) (fun c o nc e => kk c o nc e) hf)
    rcases z6 with ⟨_, z6, x, y, z7⟩ | ⟨T, f, oT, y1, y2, y3, y4⟩
    · exact wpAny_bind (wpAny_pyNext_zipD2_end S d1 d2 z6 z1 z7 st1 st2 e1 e2 e3 fun h' tk zk => wpAny_pure (fin h' tk fun c o nc e => zk c o (m nc _ (.inl rfl)) (m nc _ (.inr (.inr (.inl rfl)))) (m nc _ (.inr (.inr (.inr (.inl rfl))))) (m nc _ (.inr (.inr (.inr (.inr rfl))))) e))
    · exact wpAny_bind (zipH_pyNext_end S d1 d2 y1 y2 z1 st1 st2 e1 e2 e3 fun h' tk zk => wpAny_pure (fin h' tk fun c o nc e => zk c o (m nc _ (.inl rfl)) (m nc _ (.inr (.inr (.inr (.inl rfl))))) (m nc _ (.inr (.inr (.inr (.inr rfl))))) e))
  | succ k ih =>
    intro i l s hk hi hl hp hF hqn I hf st
    have hlt : i < n := by omega
    have lx : i < xs.length := by omega
    have ly : i < ys.length := by omega
    refine codeAny_builtin PySem.F.entry_extend_loop ?_
    rw [Around.under_plainId PySem.F.plain_extend_loop _]
    show wpAny _ A1.in1 (pyNext (.ref (N + 4)) >>= _) _ _ s
    obtain ⟨z1, st1, st2, z6⟩ := st
    have e1 : i < its.toArray.size := by simp; omega
    have e2 : i < jts.toArray.size := by simp; omega
    have zl : N + 4 < s.heap.objs.size := by
      rcases z6 with ⟨_, z6, _⟩ | ⟨T, f, oT, y1, _⟩
      · exact Heap.lt_size z6
      · exact Heap.lt_size y1
    have ql : q < s.heap.objs.size := by
      obtain ⟨_, _, _, _, _, e⟩ := I.lstM upd_same
      exact Heap.lt_size e
    generalize hT : s.heap.objs.size = T at zl ql
    -- behind the turn
    have go : ∀ (u v : Value) (h' : Heap) (tk : Nat), its.toArray[i]? = some u → jts.toArray[i]? = some v → IsTupOf2 h' T u v → (∀ c o, c ∉ zfp N → s.heap.get? c = some o → h'.get? c = some o) →
        ZSt k1 k2 a b its.toArray jts.toArray N (i + 1) q h' →
        wpAny (model X.prog X.w) A1.in1 (updateSeq q (·.push (.ref T)) >>= fun _ => again (.builtin "list.extend.loop" ⟨[.ref q, .ref (N + 4), .none], []⟩))
          (fun fin s' => match fin with | .done f => Rs (.ok f) s' | .again c' => c'.quiet = true ∧ codeAny (model X.prog X.w) A1 c' Rs s') (fun e s' => Rs (.error e) s') { s with heap := h', toks := tk } := by
      intro u v h' tk gu gv newT kk zs
      obtain ⟨x, hx, rx⟩ : ∃ x, xs[i]? = some x ∧ RelV x u := by
        obtain ⟨u', e, r⟩ := rv.get (List.getElem?_eq_getElem lx)
        have : u' = u := by simpa [e] using gu
        exact ⟨_, List.getElem?_eq_getElem lx, this ▸ r⟩
      obtain ⟨y, hy, ry⟩ : ∃ y, ys[i]? = some y ∧ RelV y v := by
        obtain ⟨u', e, r⟩ := rw_.get (List.getElem?_eq_getElem ly)
        have : u' = v := by simpa [e] using gv
        exact ⟨_, List.getElem?_eq_getElem ly, this ▸ r⟩
      have obj : ObjOk X.prog X.w (upd (upd (tls H1 l) q (.lst (lrefs l))) T (.tup [x, y])) h' T (.tup [x, y]) := ⟨by show 2 ≤ sizeLine; decide, [u, v], .cons rx (.cons ry .nil), ⟨_, newT, rfl, _, rfl⟩⟩
      have fT : upd (tls H1 l) q (.lst (lrefs l)) T = none := I.hok.fresh (Nat.le_of_eq hT)
      have nTq : T ≠ q := Nat.ne_of_gt ql
      have fT2 : tls H1 l T = none := by rw [upd_ne nTq] at fT; exact fT
      have I1 : Inv X pins σ (upd (upd (tls H1 l) q (.lst (lrefs l))) T (.tup [x, y])) { s with heap := h', toks := tk } := I.turnedNew (ch := zfp N) (fun c o nc e => kk c o nc e) hf (Nat.le_of_eq hT) obj
      have hHq : upd (upd (tls H1 l) q (.lst (lrefs l))) T (.tup [x, y]) q = some (.lst (lrefs l)) := by rw [upd_ne nTq.symm, upd_same]
      obtain ⟨z, jts', kq, r2, hl2, eq⟩ := I1.lstM hHq
      have hlen : (lrefs l).length = i := by unfold lrefs; rw [List.length_map]; exact hl
      have I2 := I1.lset (f := (·.push (.ref T))) (its' := jts' ++ [Value.ref T]) (ys := lrefs l ++ [V.ref T]) (t' := tk) hHq eq (by simp) (r2.append (.cons (show RelV (.ref T) (.ref T) from rfl) .nil)) (by rw [List.length_append, List.length_singleton, hlen]; omega)
      have hH : upd (upd (upd (tls H1 l) q (.lst (lrefs l))) T (.tup [x, y])) q (.lst (lrefs l ++ [V.ref T])) = upd (tls H1 (l ++ [(T, x, y)])) q (.lst (lrefs (l ++ [(T, x, y)]))) := by
        have e : lrefs (l ++ [(T, x, y)]) = lrefs l ++ [V.ref T] := by unfold lrefs; rw [List.map_append]; rfl
        rw [e, tls_snoc]
        funext c
        by_cases h1 : c = q
        · subst h1; rw [upd_same, upd_same]
        · rw [upd_ne h1, upd_ne h1]
          by_cases h2 : c = T
          · subst h2; rw [upd_same, upd_same]
          · rw [upd_ne h2, upd_ne h2, upd_ne h1]
      rw [hH] at I2
      refine wpAny_bind (wpAny_updateSeq eq rfl (wpAny_pure ⟨plainId_quiet PySem.F.plain_extend_loop _, ?_⟩) (by rw [List.size_toArray]; omega) (by show (jts'.toArray.push _).size ≤ sizeLine + 1; rw [Array.size_push, List.size_toArray]; omega))
      refine ih (i + 1) (l ++ [(T, x, y)]) _ (by omega) hlt (by rw [List.length_append, List.length_singleton, hl]) ?_ (tlF_snoc hF fT2) (by rw [tls_snoc, upd_ne nTq.symm]; exact hqn) I2 (fun c hc => ?_) (zs.keep hqz (Nat.ne_of_gt (Nat.lt_trans ha (Nat.lt_of_le_of_lt (Nat.le_add_right _ _) hq))) (Nat.ne_of_gt (Nat.lt_trans hb (Nat.lt_of_le_of_lt (Nat.le_add_right _ _) hq))) fun c o nc e => (Heap.get?_update_other _ _ (Ne.symm nc)).trans e)
      · intro j p hj
        unfold lprs at hj
        rw [List.map_append, List.getElem?_append] at hj
        split at hj
        · exact hp j p hj
        · rename_i hj2
          rw [List.length_map, hl] at hj2 hj
          have : j = i := by
            have := (List.getElem?_eq_some_iff.mp hj).1
            simp at this
            omega
          subst this
          simp at hj
          subst hj
          exact ⟨hx, hy⟩
      · have nq : c ≠ q := fun e => hqz (e ▸ hc)
        have nT : c ≠ T := by
          intro e
          rw [e] at hc
          exact not_zfp zl hc
        refine fpok_none (hf c hc) ?_
        have h0 := (hf c hc).1
        rw [upd_ne nq] at h0
        rw [upd_ne nq, tls_snoc, upd_ne nT]
        exact h0
    rcases z6 with ⟨_, z6, x, y, z7⟩ | ⟨T0, f, oT, y1, y2, y3, y4⟩
    · refine wpAny_bind (wpAny_pyNext_zipD2_item S d1 d2 z6 z1 z7 st1 st2 e1 e2 fun u v h' tk g1 g2 z1' z3 i1 i2 zt zs zk => ?_)
      rw [hT] at zt z1' ⊢
      have nTz : T ∉ zfp N := not_zfp zl
      refine go u v h' tk g1 g2 zt (fun c o nc e => zk c o (m nc _ (.inl rfl)) (m nc _ (.inr (.inr (.inl rfl)))) (m nc _ (.inr (.inr (.inr (.inl rfl))))) (m nc _ (.inr (.inr (.inr (.inr rfl))))) e) ⟨?_, i1, i2, .inr ⟨T, false, _, z1', zt, Nat.ne_of_gt ql, nTz⟩⟩
      exact zk _ _ S.TIz S.TITO S.TIi1 S.TIi2 z1
    · refine wpAny_bind (zipH_pyNext_item S d1 d2 y1 y2 z1 st1 st2 e1 e2 fun u v h' tk g1 g2 z1' i1 i2 zt zs zk => ?_)
      rw [hT] at zt ⊢
      refine go u v h' tk g1 g2 zt (fun c o nc e => zk c o (m nc _ (.inl rfl)) (m nc _ (.inr (.inr (.inr (.inl rfl))))) (m nc _ (.inr (.inr (.inr (.inr rfl))))) e) ⟨zk _ _ S.TIz S.TIi1 S.TIi2 z1, i1, i2, .inr ⟨T0, true, _, z1', zk _ _ (m y4 _ (.inl rfl)) (m y4 _ (.inr (.inr (.inr (.inl rfl))))) (m y4 _ (.inr (.inr (.inr (.inr rfl))))) y2, y3, y4⟩⟩))) Xz.mk
theorem zip_no_len : typeLookup (.type "zip") "__len__" = pure none := by rw [typeLookup_type, builtinLookup_eq_fast]; kernel_rfl
theorem zip_no_hint : typeLookup (.type "zip") "__length_hint__" = pure none := by rw [typeLookup_type, builtinLookup_eq_fast]; kernel_rfl
/-- list(z) of a zip that stands at its first turn -/
theorem call_lz {k1 k2 : Src} {a b N : Addr} {xs ys : List V} {its jts : List Value} {s : Shared} {H : Hp} {Q : VK} (hc : X.calm = true) (I : Inv X pins σ H s) (ha : a < N) (hb : b < N) (rv : Vals xs its) (rw_ : Vals ys jts) (hz : min xs.length ys.length ≤ sizeLine)
    (hf : ∀ c ∈ zfp N, FpOk X pins H c) (z1 : IsTupOf2 s.heap (N + 2) (.ref N) (.ref (N + 1))) (st1 : k1.Iter s.heap N a 0 ∧ k1.At s.heap a its.toArray) (st2 : k2.Iter s.heap (N + 1) b 0 ∧ k2.At s.heap b jts.toArray)
    (z6 : IsZip s.heap (N + 4) (N + 2) (N + 3) .none) (z7 : ∃ x y, IsTupOf2 s.heap (N + 3) x y)
    (hq : ∀ l q, l.length = min xs.length ys.length → (∀ (i : Nat) (p : V × V), (lprs l)[i]? = some p → xs[i]? = some p.1 ∧ ys[i]? = some p.2) → tlF H l → tls H l q = none → Q (.ref q) (upd (tls H l) q (.lst (lrefs l)))) :
    wpAny (model X.prog X.w) X.A (call (.type "list") [.ref (N + 4)]) (EP X pins σ Q) X.xe s := @Rz _ _ (fun qz => @Hz.get _ _ (qz.bar : Hz _ (by
  clear qz
  refine callType_codes (Q₁ := fun obj s₁ => obj = .ref s.heap.objs.size ∧ s₁ = { s with heap := s.heap.push { cls := .type "list", data := .seq #[] } }) PySem.F.called_list (PySem.F.typeCall_list_1 _) PySem.F.entry_list_init
    (code_list_new _ ⟨rfl, rfl⟩) fun obj s₁ h₁ => ?_
  obtain ⟨rfl, rfl⟩ := h₁
  have hS : (s.heap.push { cls := .type "list", data := .seq #[] }).get? s.heap.objs.size = some { cls := .type "list", data := .seq #[] } := Heap.get?_push_size _ rfl
  refine ⟨⟨_, hS, rfl⟩, PySem.F.args_list_init_2 _ _, ?_⟩
  have fr : H s.heap.objs.size = none := I.hok.fresh (Nat.le_refl _)
  have I1 : Inv X pins σ (upd H s.heap.objs.size (.lst [])) { s with heap := s.heap.push { cls := .type "list", data := .seq #[] } } := I.lnew (its := []) (t' := s.toks) .nil (Nat.zero_le _)
  have zl : N + 4 < s.heap.objs.size := Heap.lt_size z6
  generalize hT : s.heap.objs.size = q at hS fr I1 zl
  show wpAny _ _ (do let old ← Builtin.List.listItems (.ref q); Builtin.List.listUpdate (.ref q) (fun _ => #[]); letGo old.toList.reverse; Builtin.List.listExtendWith (.ref q) (.ref (N + 4)) .none) _ _ _
  refine wpAny_bind ?_
  unfold Builtin.List.listItems
  refine wpAny_bind (wpAny_seqItems hS rfl (wpAny_pure ?_))
  show wpAny _ _ (updateSeq q (fun _ => #[]) >>= fun _ => letGo (#[] : Array Value).toList.reverse >>= fun _ => Builtin.List.listExtendWith (.ref q) (.ref (N + 4)) .none) _ _ _
  refine wpAny_bind (wpAny_updateSeq hS rfl ?_)
  have I2 := I1.lset (f := fun _ => #[]) (its := []) (its' := []) (ys := []) (t' := s.toks) upd_same hS rfl .nil (Nat.zero_le _)
  rw [upd_upd] at I2
  refine wpAny_bind (wpAny_letGo ?_)
  have hqz : q ∉ zfp N := not_zfp zl
  have kp : ∀ c o, c ≠ q → s.heap.get? c = some o → ((s.heap.push { cls := .type "list", data := .seq #[] }).update q (Obj.mapSeq fun _ => #[])).get? c = some o := fun c o nc e => (Heap.get?_update_other _ _ (Ne.symm nc)).trans (Heap.get?_push_of_some _ e)
  have na : q ≠ a := Nat.ne_of_gt (Nat.lt_trans ha (Nat.lt_of_le_of_lt (Nat.le_add_right _ _) zl))
  have nb : q ≠ b := Nat.ne_of_gt (Nat.lt_trans hb (Nat.lt_of_le_of_lt (Nat.le_add_right _ _) zl))
  have zs : ZSt k1 k2 a b its.toArray jts.toArray N 0 q s.heap := ⟨z1, st1, st2, .inl ⟨rfl, z6, z7⟩⟩
  have zs2 := zs.keep hqz na nb kp
  have z62 : IsZip ((s.heap.push { cls := .type "list", data := .seq #[] }).update q (Obj.mapSeq fun _ => #[])) (N + 4) (N + 2) (N + 3) .none := kp _ _ (fun e => hqz (by rw [← e]; simp [zfp])) z6
  generalize (s.heap.push { cls := .type "list", data := .seq #[] }).update q (Obj.mapSeq fun _ => #[]) = h2 at I2 zs2 z62
  have hT2 : ∀ tk, (⟨h2, s.gens, s.drawn, tk, s.os⟩ : Shared).TypeIs (.ref (N + 4)) "zip" := fun _ => ⟨_, z62, rfl⟩
  have fin : ∀ (s3 : Shared), Inv X pins σ (upd H q (.lst [])) s3 → ZSt k1 k2 a b its.toArray jts.toArray N 0 q s3.heap →
      codeAny (model X.prog X.w) X.A.in1 (.builtin "list.extend.loop" ⟨[.ref q, .ref (N + 4), .none], []⟩) (wants (fun r s₂ => r = .none ∧ EP X pins σ Q (.ref q) s₂) X.xe) s3 := fun s3 I3 zs3 =>
    lz_loop (A1 := X.A.in1) (H1 := H) (n := min xs.length ys.length) (Rs := wants (fun r s₂ => r = .none ∧ EP X pins σ Q (.ref q) s₂) X.xe) ha hb zl rv rw_ (I.ok.hd hc) rfl hz
      (fun l s' h1 h2 h3 h4 I' => ⟨rfl, .ref q, _, I', rfl, hq l q h1 h2 h3 h4⟩) _ 0 [] s3 rfl (Nat.zero_le _) rfl (fun i p e => by simp [lprs] at e) trivial fr I3 (fun c hcm => fpok_upd (hf c hcm) fun e => hqz (e ▸ hcm)) zs3
  unfold Builtin.List.listExtendWith
  refine wpAny_bind (wpAny_typeOf (hT2 _) ?_)
  have h1 : Builtin.List.listSameRef (.ref q) (.ref (N + 4)) = false := by
    have : q ≠ N + 4 := Nat.ne_of_gt zl
    simp [Builtin.List.listSameRef, this]
  have h2' : (Value.type "zip" == Value.type "list") = false := by decide
  have h3 : (Value.type "zip" == Value.type "tuple") = false := by decide
  simp only [h1, h2', h3, Bool.or_false, Bool.false_eq_true, if_false]
  refine wpAny_bind (wpAny_pyIter_zip z62 ?_)
  refine wpAny_bind (wpAny_holding ?_)
  unfold Builtin.List.listLengthHint
  refine wpAny_bind (wpAny_specialOf (hT2 _) zip_no_len ?_)
  show wpAny _ _ (specialOf (Value.ref (N + 4)) (Str.ofString "__length_hint__") >>= _) _ _ _
  refine wpAny_bind (wpAny_specialOf (hT2 _) zip_no_hint ?_)
  refine wpAny_pure ?_
  obtain ⟨z, its3, k3, r3, hl3, e3⟩ := I2.lstM upd_same
  cases r3
  refine wpAny_ite_split (fun _ => ?_) (fun _ => wpAny_pure ⟨plainId_quiet PySem.F.plain_extend_loop _, fin _ I2 zs2⟩)
  refine wpAny_bind (wpAny_rule ?_)
  refine wpAny_bind ?_
  show wpAny _ _ (updateSeq q (·.push .none) >>= fun _ => updateSeq q (·.pop)) _ _ _
  refine wpAny_bind (wpAny_updateSeq e3 rfl ?_)
  have I3 := I2.lset (f := (·.push Value.none)) (its' := [Value.none]) (ys := [.non]) (t' := s.toks) upd_same e3 (by simp) (.cons rfl .nil) (by rw [List.length_singleton, sizeLine_eq]; decide)
  obtain ⟨z4, its4, k4, r4, hl4, e4⟩ := I3.lstM upd_same
  obtain ⟨u4, rfl, ru4⟩ := r4.one
  refine wpAny_updateSeq e4 rfl ?_ (by show 1 ≤ sizeLine; rw [sizeLine_eq]; decide) (by show 0 ≤ sizeLine + 1; exact Nat.zero_le _)
  refine wpAny_pure ⟨plainId_quiet PySem.F.plain_extend_loop _, fin _ ?_ (zs2.keep hqz na nb fun c o nc e => (Heap.get?_update_other _ _ (Ne.symm nc)).trans ((Heap.get?_update_other _ _ (Ne.symm nc)).trans e))⟩
  have I4 := I3.lset (f := (·.pop)) (its := [u4]) (its' := []) (ys := []) (t' := s.toks) upd_same e4 (by rfl) .nil (Nat.zero_le _)
  rw [upd_upd, upd_upd] at I4
  exact I4))) Xz.mk
end
end Ag
namespace Ag
open PySem PySem.Spec L2
/-! ### xs[::-1] of a list -/
section
variable {X : Cx} {p2 pos : Pos} {e st : Expr} {te ts : TE}
theorem pe_rsl {jj : _} {pk pm : Pos} (hst : PE X (.UnaryOp .USub (.Constant (.int 1) jj pk) pm) ts) (he : PE X e te) : PE X (.Subscript e (.Slice none none (some (.UnaryOp .USub (.Constant (.int 1) jj pk) pm)) p2) pos) (fun σ H Q => te σ H fun x H1 => tPart ts σ H1 fun k H2 => k = some (-1) ∧ ∃ a xs, x = .ref a ∧ SqL X.K H2 a xs ∧ ∀ p, H2 p = none → Q (.ref p) (upd H2 p (.lst xs.reverse))) := @Rz _ _ (fun qz => @Hz.get _ _ (qz.bar : Hz _ (by
  clear qz
  refine ⟨fun pins s σ H Q I h => ?_⟩
  refine PyProof.Rows.Subscript_ (thn (he.run pins s σ H _ I h) fun v s1 ⟨x, H1, I1, r1, q1⟩ => ?_)
  refine wpAny_Slice (thn (po_none.run pins s1 σ H1 (fun l H2 => l = none ∧ H2 = H1) I1 ⟨rfl, rfl⟩) fun vl s2 ⟨l, H2, I2, pl, e2, eH2⟩ => thn (po_none.run pins s2 σ H2 (fun u H3 => u = none ∧ H3 = H2) I2 ⟨rfl, rfl⟩) fun vu s3 ⟨u, H3, I3, pu, e3, eH3⟩ => ?_)
  have eH : H3 = H1 := eH3.trans eH2
  subst e2 e3 eH
  refine thn ((po_some hst).run pins s3 σ H3 _ I3 q1) fun vk s4 ⟨k, H4, I4, pk, ek, a, xs, ex, hx, q⟩ => ?_
  subst ek ex
  cases r1
  have I5 : Inv X pins σ H4 { s4 with heap := s4.heap.push { cls := .type "slice", data := .fields #[vl, vu, vk] } } := I4.kept (t' := s4.toks) fun b ob q => Heap.get?_push_of_some _ q
  obtain ⟨its, r, ht, hz⟩ := I5.list hx
  refine PyProof.Rows.tail_any (ops := [.ref a, .ref s4.heap.objs.size]) ht.isList.typeIs slot_list_getitem.lookup ?_ (by with_unfolding_all rfl)
  refine wpAny_getItem_list_slice ht.isList (Heap.IsSliceOf.new ..) pl pu pk (by decide) ?_ (by rw [List.size_toArray, ← r.length]; exact hz)
  rw [PySem.W.krv_pick]
  exact ⟨.ref _, _, I5.laid (t' := s4.toks) (o := .lst xs.reverse) (fun b ob q => Heap.get?_push_of_some _ q) (Nat.le_refl _) ⟨by rw [List.length_reverse]; exact hz, _, 0, r.reverse, Heap.get?_push_size _ rfl⟩, rfl, q _ (I5.hok.fresh (Nat.le_refl _))⟩))) Xz.mk
end
section
variable {E : En} {e a b c : Expr} {ta tb tc : Tm} {fr : Fr} {σ tp : St} {H F : Hp} {io : List Addr} {Q : VK} {pos p2 : Pos} {es : List Expr} {ts : List Tm}
theorem SE_rsl {jj : _} {pk pm : Pos} (ok : E.Ok) (ha : SE E a ta) (hst : SE E (.UnaryOp .USub (.Constant (.int 1) jj pk) pm) (.neg (.int 1))) : SE E (.Subscript a (.Slice none none (some (.UnaryOp .USub (.Constant (.int 1) jj pk) pm)) p2) pos) (.rsl ta) := @Rz _ _ (fun qz => @Hz.get _ _ (qz.bar : Hz _ (by
  clear qz
  intro fr σ tp H F io Q hl w h
  refine wE_of (pe_rsl pe_w pe_w) ?_
  unfold ev at h
  refine ha.held hl w h fun r fr1 v H1 F1 io1 s1 p1 w1 hk h1 => ?_
  cases e1 : look fr1.env (hold r) with
  | none => simp [e1] at h1; exact h1.elim
  | some d =>
    simp only [e1] at h1
    cases d with
    | lst ys =>
      have lk := w1.look hk e1
      refine hst fr1 σ tp H1 F1 io1 _ hl w1 ?_
      show okE E σ tp F1 io1 _ (.out (.val (.int (-1)))) fr1
      intro v2 H2 F2 io2 s2 p2 w2 r2
      cases r2
      refine ⟨-1, rfl, rfl, ?_⟩
      obtain ⟨q, us, rfl, h2, r3⟩ := (w2.look (hk.mono s2 p2) e1).lst w2.wr.sub
      exact ⟨q, us, rfl, SqL.of h2, fun p hp => okE.fresh w2 r3.reverse (okE.mono (s1.trans s2) (p1.trans p2) h1) hp⟩
    | _ => exact h1.elim))) Xz.mk
/-! ### list(zip(a, b)) -/
theorem laid_all {G : Glb} {B : Ent} {n0 : Nat} {ρ : St} : ∀ {l : List (Addr × V × V)} {H F : Hp}, Ws G B n0 fr ρ H F io → tlF H l → ∀ {ds : List (Ag.D × Ag.D)}, (∀ (i : Nat) (p : V × V), (lprs l)[i]? = some p → ∃ d, ds[i]? = some d ∧ Rep G F io d.1 p.1 ∧ Rep G F io d.2 p.2) → ds.length = l.length →
    ∃ F', Same F F' ∧ Ws G B n0 fr ρ (tls H l) F' io ∧ Reps G F' io (ds.map fun d => .tup [d.1, d.2]) (lrefs l)
  | [], H, F, w, _, ds, _, hl => by
    have : ds = [] := List.length_eq_zero_iff.mp hl
    subst this
    exact ⟨F, Same.refl _, w, .nil⟩
  | (t, x, y) :: r, H, F, w, hf, ds, hd, hl => by
    cases ds with
    | nil => simp at hl
    | cons d ds =>
      obtain ⟨d', e, r1, r2⟩ := hd 0 (x, y) rfl
      cases e
      obtain ⟨F1, s1, w1, rt⟩ := w.newTup hf.1 (.cons r1 (.cons r2 .nil))
      obtain ⟨F2, s2, w2, rs⟩ := laid_all (l := r) w1 hf.2 (ds := ds) (fun i p e => by
        obtain ⟨d', e2, q1, q2⟩ := hd (i + 1) p e
        exact ⟨d', e2, q1.mono s1 (Pre.refl _), q2.mono s1 (Pre.refl _)⟩) (by simpa using hl)
      exact ⟨F2, s1.trans s2, w2, .cons (rt.mono s2 (Pre.refl _)) rs⟩
def zipP : List Ag.D → List Ag.D → List (Ag.D × Ag.D)
  | x :: xs, y :: ys => (x, y) :: zipP xs ys
  | _, _ => []
theorem zipP_map : ∀ xs ys : List Ag.D, (zipP xs ys).map (fun d => Ag.D.tup [d.1, d.2]) = zipD xs ys
  | x :: xs, y :: ys => by show _ :: (zipP xs ys).map _ = _; rw [zipP_map xs ys]; rfl
  | [], _ => by simp [zipP, zipD]
  | _ :: _, [] => by simp [zipP, zipD]
theorem zipP_len : ∀ xs ys : List Ag.D, (zipP xs ys).length = min xs.length ys.length
  | x :: xs, y :: ys => by show (zipP xs ys).length + 1 = _; rw [zipP_len xs ys]; simp only [List.length_cons]; omega
  | [], _ => by simp [zipP]
  | _ :: _, [] => by simp [zipP]
theorem zipP_at : ∀ (xs ys : List Ag.D) (i : Nat) (x y : Ag.D), xs[i]? = some x → ys[i]? = some y → (zipP xs ys)[i]? = some (x, y)
  | x :: xs, y :: ys, 0, _, _, h1, h2 => by cases h1; cases h2; rfl
  | x :: xs, y :: ys, i + 1, a, b, h1, h2 => zipP_at xs ys i a b h1 h2
  | [], _, _, _, _, h1, _ => by simp at h1
  | _ :: _, [], _, _, _, _, h2 => by simp at h2
theorem SE_lzip (ok : E.Ok) {p p2 pos2 : Pos} (hg : Gl E.X "zip") (hm : E.X.mg "zip" = none) (hg2 : Gl E.X "list") (hm2 : E.X.mg "list" = none) (hs : notStar a = true) (hs2 : notStar b = true) (ha : SE E a ta) (hb : SE E b tb) :
    SE E (.Call (.Name "list" p) [.Call (.Name "zip" p2) [a, b] [] pos2] [] pos) (.lzip ta tb) := @Rz _ _ (fun qz => @Hz.get _ _ (qz.bar : Hz _ (by
  clear qz
  intro fr σ tp H F io Q hl w h
  have hA : wA E.X [a, b] σ H fun vs H1 => ∃ q1 q2 us1 us2 k1 k2, vs = [V.ref q1, V.ref q2] ∧ Src.Sq k1 E.X.K H1 q1 us1 ∧ Src.Sq k2 E.X.K H1 q2 us2 ∧ min us1.length us2.length ≤ sizeLine ∧
      ∀ l q, l.length = min us1.length us2.length → (∀ (i : Nat) (p : V × V), (lprs l)[i]? = some p → us1[i]? = some p.1 ∧ us2[i]? = some p.2) → tlF H1 l → tls H1 l q = none → Q (.ref q) (upd (tls H1 l) q (.lst (lrefs l))) := by
    refine wA_of (pa_cons pe_w (pa_cons pe_w pa_nil (star_ne hs2 _ _)) (star_ne hs _ _)) ?_
    unfold ev at h
    show wE E.X a σ H fun x H1 => wE E.X b σ H1 fun y H2 => _
    refine ha.part hl w h fun d fr1 v H1 F1 io1 s1 p1 w1 r1 z => ?_
    refine hb.part hl w1 z fun d2 fr2 v2 H2 F2 io2 s2 p2 w2 r2 z2 => ?_
    cases e1 : seqOf d with
    | none => simp [e1] at z2; exact z2.elim
    | some xs =>
      cases e2 : seqOf d2 with
      | none => simp [e1, e2] at z2; exact z2.elim
      | some ys =>
        simp only [e1, e2] at z2
        split at z2
        case isFalse => exact z2.elim
        rename_i hz
        obtain ⟨k1, q1, vs, rfl, g1, c1⟩ := (r1.mono s2 p2).src e1
        obtain ⟨k2, q2, us, rfl, g2, c2⟩ := r2.src e2
        have l1 := c1.length
        have l2 := c2.length
        rw [ok.k] at g1 g2
        rw [zipD_len] at hz
        refine ⟨q1, q2, vs, us, k1, k2, rfl, g1 H2 w2.wr.sub, g2 H2 w2.wr.sub, by rw [← l1, ← l2]; exact hz, fun l q hl1 hp hf hq => ?_⟩
        obtain ⟨F3, s3, w3, r3⟩ := laid_all w2 hf (ds := zipP xs ys) (fun i p e => by
          obtain ⟨h1, h2⟩ := hp i p e
          have i1 := (List.getElem?_eq_some_iff.mp h1).1
          have i2 := (List.getElem?_eq_some_iff.mp h2).1
          obtain ⟨u1, b1, d1⟩ := c1.get (List.getElem?_eq_getElem (show i < xs.length by omega))
          obtain ⟨u2, b2, d2⟩ := c2.get (List.getElem?_eq_getElem (show i < ys.length by omega))
          rw [h1] at b1; cases b1
          rw [h2] at b2; cases b2
          exact ⟨_, zipP_at xs ys i _ _ (List.getElem?_eq_getElem _) (List.getElem?_eq_getElem _), d1, d2⟩) (by rw [zipP_len, hl1, l1, l2])
        rw [zipP_map] at r3
        exact okE.fresh w3 r3 (okE.mono s3 (Pre.refl _) (okE.mono (s1.trans s2) (p1.trans p2) z2)) hq
  intro pins s I
  refine PyProof.Rows.Call_ (ld_blt I hg2 hm2 PyProof.Rows.boot_list (PyProof.Rows.callWith_type1 (PyProof.Rows.args_cons ?_)))
  refine PyProof.Rows.Call_ (ld_blt I hg hm PyProof.Rows.boot_zip (PyProof.Rows.callWith_type1 (thn (hA _ pins s I) fun us s1 q => ?_) (star_ne hs _ _) (by rw [star_ne hs2]; rfl)))
  obtain ⟨vs, H1, I1, r1, q1, q2, us1, us2, k1, k2, rfl, g1, g2, hz, hq⟩ := q
  obtain ⟨u1, u2, rfl, r1, r2⟩ := vals2 r1
  obtain rfl : u1 = Value.ref q1 := r1
  obtain rfl : u2 = Value.ref q2 := r2
  obtain ⟨its, rv, t1, la⟩ := Src.items I1 g1
  obtain ⟨jts, rw_, t2, lb⟩ := Src.items I1 g2
  refine zip_begins2 (Src.begins k1 q1 its.toArray) (Src.begins k2 q2 jts.toArray) t1 t2 fun h' z zt zo o1 o2 zs zk => PyProof.Rows.args_nil ?_
  have I2 : Inv E.X pins σ H1 { s1 with heap := h' } := I1.kept (t' := s1.toks) zk
  refine call_lz (k1 := k1) (k2 := k2) (s := { s1 with heap := h' }) ok.calm I2 la lb rv rw_ hz (fun c hc => ?_) zt ⟨Src.iterNew o1, ?_⟩ ⟨Src.iterNew o2, ?_⟩ z ⟨_, _, zo⟩ hq
  · have hle : s1.heap.objs.size ≤ c := by
      rcases zfp_mem hc with rfl | rfl | rfl | rfl | rfl
      · exact Nat.le_add_right _ _
      · exact Nat.le_add_right _ _
      · exact Nat.le_add_right _ _
      · exact Nat.le_refl _
      · exact Nat.le_add_right _ _
    exact I1.fpOk hle (I1.hok.fresh hle)
  · cases k1
    · exact Heap.IsList.at t1 fun o e => zk _ _ e
    · obtain ⟨o, e, r⟩ := t1; exact ⟨o, zk _ _ e, r⟩
  · cases k2
    · exact Heap.IsList.at t2 fun o e => zk _ _ e
    · obtain ⟨o, e, r⟩ := t2; exact ⟨o, zk _ _ e, r⟩))) Xz.mk
end
end Ag
namespace Ag
open PySem PySem.Spec L2
structure Cv where
  N : List Str
  fns : List (Str × Nat)
  nms : List (Str × Nat)
  meths : List Nat
  globs : List (Str × Nat)
  blts : List Str
  fnc : Str → Bool
def visB (sc : Scope) (x : Str) : Bool := match sc.names.lookup x with
  | some .local => true | some .cell => true | some .free => true | _ => false
def glB (sc : Scope) (x : Str) : Bool := match sc.names.lookup x with
  | some .globalImplicit => true | _ => false
def locB (C : Cv) (sc : Scope) (x : Str) : Bool := match sc.names.lookup x with
  | some .local => true | some .cell => C.fnc x | _ => false
def ixOf : List Str → Str → Option Nat
  | [], _ => none
  | y :: ys, x => if y = x then some 0 else (ixOf ys x).map (· + 1)
def dund (x : Str) : Bool := (x == ("__debug__" : Str)) || (x == ("__classdict__" : Str))
/-- the slot of a name that is read -/
def rdSlot (C : Cv) (sc : Scope) (x : Str) : Option Nat := if visB sc x && !dund x then ixOf C.N x else none
/-- the slot of a name that is stored -/
def wrSlot (C : Cv) (sc : Scope) (x : Str) : Option Nat := if locB C sc x then ixOf C.N x else none
def op2 : Operator → Option Op2
  | .Add => some .add | .Sub => some .sub | .Mult => some .mul | .FloorDiv => some .fdiv | .Mod => some .mod | .Pow => some .pow | _ => none
def cm2 : CmpOp → Cm
  | .Eq => .eq | .NotEq => .ne | .Lt => .lt | .LtE => .le | .Gt => .gt | .GtE => .ge | .Is => .is_ | .IsNot => .isn | .In => .in_ | .NotIn => .nin
def bi2 (x : Str) (n : Nat) : Option Bi :=
  if x == ("len" : Str) && n == 1 then some .len
  else if x == ("min" : Str) && n == 2 then some .min2
  else if x == ("max" : Str) && n == 2 then some .max2
  else if x == ("int" : Str) && n == 1 then some .int_
  else if x == ("tuple" : Str) && n == 1 then some .tuple_
  else if x == ("list" : Str) && n == 1 then some .list_
  else if x == ("min" : Str) && n == 1 then some .min1
  else if x == ("max" : Str) && n == 1 then some .max1
  else if x == ("sorted" : Str) && n == 1 then some .sorted_
  else none
def o2 {α β γ : Type} (x : Option α) (y : Option β) (f : α → β → Option γ) : Option γ := x.bind fun a => y.bind fun b => f a b
def o3 {α β γ δ : Type} (x : Option α) (y : Option β) (w : Option δ) (f : α → β → δ → Option γ) : Option γ := x.bind fun a => y.bind fun b => w.bind fun c => f a b c
def popName (C : Cv) (sc : Scope) (o : Expr) (m : Str) : Option Nat := match o with
  | .Name x _ => if m == ("pop" : Str) then rdSlot C sc x else none
  | _ => none
def isSetE : Expr → Bool
  | .Set .. => true
  | _ => false
mutual
def cvG (C : Cv) : Nat → Scope → Expr → Option Tg
  | 0, _, _ => none
  | n + 1, sc, e => match e with
    | .Name x _ => (wrSlot C sc x).map .slot
    | .Tuple es _ _ => if allNot es then (cvGs C n sc es).map .tup else none
    | _ => none
def cvGs (C : Cv) : Nat → Scope → List Expr → Option (List Tg)
  | 0, _, _ => none
  | _ + 1, _, [] => some []
  | n + 1, sc, e :: es => o2 (cvG C n sc e) (cvGs C n sc es) fun t ts => some (t :: ts)
end
def bnm (C : Cv) (sc : Scope) (x s : Str) : Bool := x == s && glB sc x && C.blts.contains x && (C.fns.lookup x).isNone
def isTupE : Expr → Bool
  | .Tuple .. => true
  | _ => false
def tyN (n : Str) : Option TyN :=
  if n == ("tuple" : Str) then some .tup else if n == ("list" : Str) then some .lst else if n == ("int" : Str) then some .int else if n == ("bool" : Str) then some .bool else if n == ("str" : Str) then some .str else none
def isiOf (C : Cv) (sc : Scope) (x : Str) : List Expr → Option (TyN × Expr)
  | [a, .Name n _] => if bnm C sc x ("isinstance" : Str) && bnm C sc n n && notStar a then (tyN n).map fun k => (k, a) else none
  | _ => none
def lzOf (C : Cv) (sc : Scope) (x : Str) : List Expr → Option (Expr × Expr)
  | [.Call (.Name y _) [a, b] [] _] => if bnm C sc x ("list" : Str) && bnm C sc y ("zip" : Str) && (notStar a && notStar b) then some (a, b) else none
  | _ => none
def orStuck (o : Option Tm) : Option Tm := some (o.getD .stuck)
def orStuckS (o : Option Stm) : Option Stm := some (o.getD .stuck)
theorem orStuck_some {o : Option Tm} {t : Tm} (h : orStuck o = some t) : o = some t ∨ t = .stuck := @Rz _ _ (fun qz => @Hz.get _ _ (qz.bar : Hz _ (by
  clear qz
  cases o with
  | none => exact .inr (Option.some.inj h).symm
  | some u => exact .inl h))) Xz.mk
theorem orStuckS_some {o : Option Stm} {t : Stm} (h : orStuckS o = some t) : o = some t ∨ t = .stuck := @Rz _ _ (fun qz => @Hz.get _ _ (qz.bar : Hz _ (by
  clear qz
  cases o with
  | none => exact .inr (Option.some.inj h).symm
  | some u => exact .inl h))) Xz.mk
/-- a block's names as the def's -/
def rl (scope sc : Scope) : Scope :=
  { scope with names := scope.names.map fun (n, k) => if (k == .free && sc.kind == .function && sc.names.lookup n == some .cell) then (n, .cell) else (n, k) }
def ownOf (N : List Str) : List (Str × NameKind) → List (Str × Nat)
  | [] => []
  | (n, k) :: r => if k == .local || k == .cell then (match ixOf N n with | some i => (n, i) :: ownOf N r | none => ownOf N r) else ownOf N r
def Cv.blk (C : Cv) (scope : Scope) : Cv := { C with fnc := fun x => scope.names.lookup x == some .cell }
mutual
def cvE : Cv → Nat → Scope → Expr → Option Tm
  | _, 0, _, _ => none
  | C, n + 1, sc, e => orStuck (match e with
    | .Name x _ => match rdSlot C sc x with
      | some i => some (.slot i)
      | none => if glB sc x && !dund x then (C.globs.lookup x).map .glob else none
    | .Constant .none _ _ => some .non
    | .Constant (.bool b) _ _ => some (.bl b)
    | .Constant (.int i) _ _ => some (.int i)
    | .Constant (.str s) _ _ => some (.str s)
    | .BinOp a op b _ => o3 (op2 op) (cvE C n sc a) (cvE C n sc b) fun o x y => some (.bin o x y)
    | .UnaryOp .USub a _ => (cvE C n sc a).map .neg
    | .UnaryOp .Not a _ => (cvE C n sc a).map .not_
    | .BoolOp _ [a] _ => cvE C n sc a
    | .BoolOp .And (a :: b :: r) p => o2 (cvE C n sc a) (cvE C n sc (.BoolOp .And (b :: r) p)) fun x y => some (.and_ x y)
    | .BoolOp .Or (a :: b :: r) p => o2 (cvE C n sc a) (cvE C n sc (.BoolOp .Or (b :: r) p)) fun x y => some (.or_ x y)
    | .Compare a [op] [b] _ => if behindInMarks op b then none else o2 (cvE C n sc a) (cvE C n sc b) fun x y => some (.cmp (cm2 op) x y)
    | .Compare a [op, op'] [b, c] _ => if lastMarks [op, op'] [b, c] then none else o3 (cvE C n sc a) (cvE C n sc b) (cvE C n sc c) fun x y z => some (.chain (cm2 op) (cm2 op') x y z)
    | .IfExp c a b _ => o3 (cvE C n sc c) (cvE C n sc a) (cvE C n sc b) fun x y z => some (.ite x y z)
    | .Call (.Name x _) es [] _ => match isiOf C sc x es with | some (k, a) => (cvE C n sc a).map (.ist k) | none => match lzOf C sc x es with | some (a, b) => o2 (cvE C n sc a) (cvE C n sc b) fun s t => some (.lzip s t) | none => if glB sc x && !dund x then (match cvEs C n sc es with
      | some ts => (match C.fns.lookup x with
        | some i => some (.call i ts)
        | none => if es.isEmpty || !C.blts.contains x then none else (bi2 x es.length).map fun b => .bi b ts)
      | none => none) else none
    | .Call (.Name x _) [a] [⟨some kw, .Constant .none _ _, _⟩] _ => if kw == ("default" : Str) && notStar a then
        (if bnm C sc x ("min" : Str) then (cvE C n sc a).map fun t => .bi .min1d [t] else if bnm C sc x ("max" : Str) then (cvE C n sc a).map fun t => .bi .max1d [t] else none) else none
    | .Call (.Attribute o m apos) es [] pos => if apos.endLine == pos.line then (match popName C sc o m with
      | some i => if es.isEmpty then some (.pop i) else none
      | none => if notSuper o && decide (es.length < 28) then (o3 (cvE C n sc o) (C.nms.lookup m) (cvEs C n sc es) fun to k ts => if C.meths.contains k then some (.meth k to ts) else none) else none) else none
    | .Attribute o f _ => if notSuper o then (o2 (cvE C n sc o) (C.nms.lookup f) fun to k => some (.attr to k)) else none
    | .Subscript o (.Slice lo hi none _) _ => o3 (cvE C n sc o) (cvO C n sc lo) (cvO C n sc hi) fun to l h => some (.slice to l h)
    | .Subscript o (.Slice none none (some (.UnaryOp .USub (.Constant (.int 1) _ _) _)) _) _ => (cvE C n sc o).map .rsl
    | .Subscript o i _ => if notSlice i then (o2 (cvE C n sc o) (cvE C n sc i) fun to ti => some (.ix to ti)) else none
    | .Tuple (.Starred e _ :: es) _ _ => o2 (cvE C n sc e) (cvEs C n sc es) fun t ts => some (.tupS t ts)
    | .List (.Starred e _ :: es) _ => o2 (cvE C n sc e) (cvEs C n sc es) fun t ts => some (.lstS t ts)
    | .Tuple es _ _ => (cvEs C n sc es).map .tup
    | .List es _ => (cvEs C n sc es).map .lst
    | .Dict ks vs _ => if ks.isEmpty || decide (15 < ks.length) then none else (cvK C n sc ks vs).map .dict
    | .ListComp elt [g] scope _ => if blkC C.N sc scope (ownOf C.N scope.names) && decide (g.is_async = 0) && !isSetE g.iter then
        o2 (cvG (C.blk scope) n (rl scope sc) g.target) (cvI C n sc g.target g.iter) fun tg it => o2 (cvC (C.blk scope) n (rl scope sc) g.ifs) (cvE (C.blk scope) n (rl scope sc) elt) fun tc te =>
          if (tgIx tg).all fun i => ((ownOf C.N scope.names).map (·.2)).contains i then some (.comp te tg it tc ((ownOf C.N scope.names).map (·.2))) else none
      else none
    | _ => none)
def cvC : Cv → Nat → Scope → List Expr → Option (Option Tm)
  | _, 0, _, _ => none
  | _, _ + 1, _, [] => some none
  | C, n + 1, sc, [c] => (cvE C n sc c).map some
  | _, _, _, _ => none
def cvI : Cv → Nat → Scope → Expr → Expr → Option Iter
  | _, 0, _, _, _ => none
  | C, n + 1, sc, tg, e => match e with
    | .Call (.Name x _) [a] [] _ => if bnm C sc x ("range" : Str) then (if notStar a then (cvE C n sc a).map .range1 else none)
      else if bnm C sc x ("enumerate" : Str) && isTupE tg then (if notStar a then (cvE C n sc a).map fun t => .enum t 0 else none)
      else if bnm C sc x ("reversed" : Str) then (if notStar a then (cvE C n sc a).map .rev else none)
      else (cvE C n sc e).map .seq
    | .Call (.Name x _) [a, b] [] _ => if bnm C sc x ("range" : Str) then (if notStar a && notStar b then o2 (cvE C n sc a) (cvE C n sc b) fun s t => some (.range2 s t) else none)
      else if bnm C sc x ("zip" : Str) && isTupE tg then (if notStar a && notStar b then o2 (cvE C n sc a) (cvE C n sc b) fun s t => some (.zip s t) else none)
      else (cvE C n sc e).map .seq
    | .Call (.Name x _) [a, b, c] [] _ => if bnm C sc x ("range" : Str) then (if notStar a && notStar b && notStar c then o3 (cvE C n sc a) (cvE C n sc b) (cvE C n sc c) fun s t u => some (.range3 s t u) else none)
      else (cvE C n sc e).map .seq
    | e => if isSetE e then none else (cvE C n sc e).map .seq
def cvEs : Cv → Nat → Scope → List Expr → Option (List Tm)
  | _, 0, _, _ => none
  | _, _ + 1, _, [] => some []
  | C, n + 1, sc, e :: es => if notStar e then (o2 (cvE C n sc e) (cvEs C n sc es) fun t ts => some (t :: ts)) else none
def cvO : Cv → Nat → Scope → Option Expr → Option (Option Tm)
  | _, 0, _, _ => none
  | _, _ + 1, _, none => some none
  | C, n + 1, sc, some e => (cvE C n sc e).map some
def cvK : Cv → Nat → Scope → List (Option Expr) → List Expr → Option (List (Key × Tm))
  | _, 0, _, _, _ => none
  | _, _ + 1, _, [], [] => some []
  | C, n + 1, sc, some (.Constant (.str x) _ _) :: ks, v :: vs => (o2 (cvE C n sc v) (cvK C n sc ks vs) fun t ts => some ((.inr x, t) :: ts))
  | _, _, _, _, _ => none
end
/-- the same world around -/
structure Kin (E E' : En) : Prop where
  prog : E'.X.prog = E.X.prog
  w : E'.X.w = E.X.w
  K : E'.X.K = E.X.K
  mg : E'.X.mg = E.X.mg
  base : E'.X.base = E.X.base
  A : E'.X.A = E.X.A
  G : E'.G = E.G
  T : E'.T = E.T
structure CtxOk (C : Cv) (sc : Scope) (E : En) : Prop where
  ok : E.Ok
  N : E.X.N = C.N
  sc : E.X.env.scope = sc
  kind : E.X.env.scope.kind = .function
  fnsK : ∀ x i, C.fns.lookup x = some i → ∀ E' : En, Kin E E' → E'.Ok → CallOk E' x i
  nms : ∀ x i, C.nms.lookup x = some i → E.G.fn i = x
  methsK : ∀ m, C.meths.contains m = true → ∀ c i, E.T.psi c m = some i → ∀ E' : En, Kin E E' → E'.Ok → MethOk E' c m i
  globs : ∀ x g, C.globs.lookup x = some g → ∃ d v u, E.T.glob g = some d ∧ E.X.mg x = some u ∧ RelV v u ∧ ∀ F io, Rep E.G F io d v
  blts : ∀ x, C.blts.contains x = true → E.X.mg x = none
  fnc : ∀ x, C.fnc x = true → E.X.fn x = true
theorem Kin.at (E : En) (h0 : Ent) : Kin E (E.at h0) := ⟨rfl, rfl, rfl, rfl, rfl, rfl, rfl, rfl⟩
theorem Kin.blk (E : En) (s : Shared) (H : Hp) (scope : Scope) (C : Addr) (cl : List (Str × Addr)) (fp : List Addr) : Kin E (E.blk s H scope C cl fp) := ⟨rfl, rfl, rfl, rfl, rfl, rfl, rfl, rfl⟩
theorem Kin.trans {E E' E2 : En} (a : Kin E E') (b : Kin E' E2) : Kin E E2 := ⟨b.prog.trans a.prog, b.w.trans a.w, b.K.trans a.K, b.mg.trans a.mg, b.base.trans a.base, b.A.trans a.A, b.G.trans a.G, b.T.trans a.T⟩
theorem CtxOk.fns {C : Cv} {sc : Scope} {E : En} (c : CtxOk C sc E) (x : Str) (i : Nat) (e : C.fns.lookup x = some i) (h0 : Ent) : CallOk (E.at h0) x i := c.fnsK x i e _ (Kin.at E h0) (c.ok.at h0)
theorem CtxOk.meths {C : Cv} {sc : Scope} {E : En} (c : CtxOk C sc E) (m : Nat) (hm : C.meths.contains m = true) (cc i : Nat) (e : E.T.psi cc m = some i) (h0 : Ent) : MethOk (E.at h0) cc m i := c.methsK m hm cc i e _ (Kin.at E h0) (c.ok.at h0)
theorem CtxOk.at {C : Cv} {sc : Scope} {E : En} (c : CtxOk C sc E) (h0 : Ent) : CtxOk C sc (E.at h0) :=
  ⟨c.ok.at h0, c.N, c.sc, c.kind, fun x i e E' k => c.fnsK x i e E' ((Kin.at E h0).trans k), c.nms, fun m h cc i e E' k => c.methsK m h cc i e E' ((Kin.at E h0).trans k), c.globs, c.blts, c.fnc⟩
theorem CtxOk.blk {C : Cv} {sc scope : Scope} {E : En} (c : CtxOk C sc E) (hk : scope.kind = .function) (s : Shared) (H : Hp) (a : Addr) (cl : List (Str × Addr)) (fp : List Addr) : CtxOk (C.blk scope) (rl scope sc) (E.blk s H scope a cl fp) :=
  ⟨c.ok.blk s H scope a cl fp, c.N, by rw [← c.sc]; rfl, hk, fun x i e E' k => c.fnsK x i e E' ((Kin.blk E s H scope a cl fp).trans k), c.nms, fun m h cc i e E' k => c.methsK m h cc i e E' ((Kin.blk E s H scope a cl fp).trans k), c.globs, c.blts, fun x h => h⟩
theorem ixOf_at : ∀ {N : List Str} {x : Str} {i : Nat}, ixOf N x = some i → N[i]? = some x
  | [], _, _, e => by cases e
  | y :: ys, x, i, e => by
    unfold ixOf at e
    by_cases h : y = x
    · rw [if_pos h] at e; cases e; simp [h]
    · rw [if_neg h] at e
      cases q : ixOf ys x with
      | none => rw [q] at e; cases e
      | some j => rw [q] at e; cases e; simpa using ixOf_at q
theorem vis_of {sc : Scope} {x : Str} (h : visB sc x = true) : Vis sc x := @Rz _ _ (fun qz => @Hz.get _ _ (qz.bar : Hz _ (by
  clear qz
  unfold visB at h
  split at h <;> first | exact .inl (by assumption) | exact .inr (.inl (by assumption)) | exact .inr (.inr (by assumption)) | cases h))) Xz.mk
theorem gl_of {sc : Scope} {x : Str} (h : glB sc x = true) : sc.names.lookup x = some .globalImplicit := @Rz _ _ (fun qz => @Hz.get _ _ (qz.bar : Hz _ (by
  clear qz
  unfold glB at h
  split at h <;> first | assumption | cases h))) Xz.mk
theorem loc_of {C : Cv} {sc : Scope} {x : Str} (h : locB C sc x = true) : Loc sc x ∧ (C.fnc x = true ∨ sc.names.lookup x = some .local) := @Rz _ _ (fun qz => @Hz.get _ _ (qz.bar : Hz _ (by
  clear qz
  unfold locB at h
  split at h
  · exact ⟨.inl (by assumption), .inr (by assumption)⟩
  · exact ⟨.inr (by assumption), .inl h⟩
  · cases h))) Xz.mk
theorem dund_of {x : Str} (h : (!dund x) = true) : (x == ("__debug__" : Str)) = false ∧ (x == ("__classdict__" : Str)) = false := @Rz _ _ (fun qz => @Hz.get _ _ (qz.bar : Hz _ (by
  clear qz
  unfold dund at h
  simp only [Bool.not_or, Bool.and_eq_true, Bool.not_eq_true'] at h
  exact h))) Xz.mk
theorem rd_of {C : Cv} {sc : Scope} {x : Str} {i : Nat} (h : rdSlot C sc x = some i) : C.N[i]? = some x ∧ Vis sc x ∧ (x == ("__debug__" : Str)) = false ∧ (x == ("__classdict__" : Str)) = false := @Rz _ _ (fun qz => @Hz.get _ _ (qz.bar : Hz _ (by
  clear qz
  unfold rdSlot at h
  split at h
  · rename_i q
    rw [Bool.and_eq_true] at q
    exact ⟨ixOf_at h, vis_of q.1, dund_of q.2⟩
  · cases h))) Xz.mk
theorem wr_of {C : Cv} {sc : Scope} {x : Str} {i : Nat} (h : wrSlot C sc x = some i) : C.N[i]? = some x ∧ Loc sc x ∧ (C.fnc x = true ∨ sc.names.lookup x = some .local) := @Rz _ _ (fun qz => @Hz.get _ _ (qz.bar : Hz _ (by
  clear qz
  unfold wrSlot at h
  split at h
  · rename_i q
    exact ⟨ixOf_at h, loc_of q⟩
  · cases h))) Xz.mk
theorem op2_of {op : Operator} {o : Op2} (h : op2 op = some o) : opM o = op := by
  cases op <;> cases h <;> rfl
theorem cm2_of (op : CmpOp) : cmM (cm2 op) = op := by cases op <;> rfl
end Ag
namespace Ag
open PySem PySem.Spec L2
theorem pair_some {α β γ : Type} {x : Option α} {y : Option β} {f : α → β → Option γ} {z : γ} (h : o2 x y f = some z) : ∃ a b, x = some a ∧ y = some b ∧ f a b = some z := @Rz _ _ (fun qz => @Hz.get _ _ (qz.bar : Hz _ (by
  clear qz
  cases x with
  | none => cases h
  | some a => cases y with
    | none => cases h
    | some b => exact ⟨a, b, rfl, rfl, h⟩))) Xz.mk
theorem triple_some {α β γ δ : Type} {x : Option α} {y : Option β} {w : Option δ} {f : α → β → δ → Option γ} {z : γ} (h : o3 x y w f = some z) : ∃ a b c, x = some a ∧ y = some b ∧ w = some c ∧ f a b c = some z := @Rz _ _ (fun qz => @Hz.get _ _ (qz.bar : Hz _ (by
  clear qz
  cases x with
  | none => cases h
  | some a => cases y with
    | none => cases h
    | some b => cases w with
      | none => cases h
      | some c => exact ⟨a, b, c, rfl, rfl, rfl, h⟩))) Xz.mk
theorem map_some {α β : Type} {x : Option α} {f : α → β} {z : β} (h : x.map f = some z) : ∃ a, x = some a ∧ f a = z := @Rz _ _ (fun qz => @Hz.get _ _ (qz.bar : Hz _ (by
  clear qz
  cases x with
  | none => cases h
  | some a => exact ⟨a, rfl, Option.some.inj h⟩))) Xz.mk
def SWB (E : En) (e : Expr) (t : Tm) : Prop := ∀ op vs pos, e = .BoolOp op vs pos → SW E e t
def All (E : En) (e : Expr) (t : Tm) : Prop := SE E e t ∧ ST E e t ∧ SWB E e t
section
variable {E : En} {e a b c : Expr} {ta tb tc : Tm} {pos : Pos} {es : List Expr} {ts : List Tm}
theorem All.of {t : Tm} (he : SE E e t) (hp : ∀ whole, isTrue e E.X.env whole = (do let v ← whole; standAt e.pos; holding [v] (truthy v))) (hb : ∀ op vs pos, e ≠ .BoolOp op vs pos) : All E e t :=
  ⟨he, ST_of he hp, fun op vs pos z => absurd z (hb op vs pos)⟩
theorem All.stuck : All E e .stuck := ⟨SE_stuck, ST_stuck, fun op vs p _ fr σ tp H F io Q hl w h => by unfold ev at h; exact h.elim⟩
theorem bnm_of {C : Cv} {sc : Scope} {x s : Str} (c : CtxOk C sc E) (h : bnm C sc x s = true) : x = s ∧ Gl E.X s ∧ E.X.mg s = none := @Rz _ _ (fun qz => @Hz.get _ _ (qz.bar : Hz _ (by
  clear qz
  unfold bnm at h
  simp only [Bool.and_eq_true, beq_iff_eq] at h
  obtain ⟨⟨⟨h1, h2⟩, h3⟩, _⟩ := h
  subst h1
  exact ⟨rfl, by show E.X.env.scope.names.lookup _ = _; rw [c.sc]; exact gl_of h2, c.blts _ h3⟩))) Xz.mk
theorem tyN_of {n : Str} {k : TyN} (h : tyN n = some k) : n = Str.ofString (tyNm k) := @Rz _ _ (fun qz => @Hz.get _ _ (qz.bar : Hz _ (by
  clear qz
  unfold tyN at h
  repeat' split at h
  all_goals first
    | (cases h; assumption)
    | (cases h; rename_i q; exact eq_of_beq q)
    | cases h))) Xz.mk
theorem SEs.notall (h : SEs E es ts) : allNot es = true := @Rz _ _ (fun qz => @Hz.get _ _ (qz.bar : Hz _ (by
  clear qz
  induction h with
  | nil => rfl
  | cons h1 _ _ ih =>
    unfold allNot at ih ⊢
    rw [List.all_cons, h1, ih]; rfl))) Xz.mk
theorem SE_glob {g : Nat} {x : Str} (hg : Gl E.X x) (hd : (x == ("__debug__" : Str)) = false) (h : ∃ d v u, E.T.glob g = some d ∧ E.X.mg x = some u ∧ RelV v u ∧ ∀ F io, Rep E.G F io d v) : SE E (.Name x pos) (.glob g) := @Rz _ _ (fun qz => @Hz.get _ _ (qz.bar : Hz _ (by
  clear qz
  intro fr σ tp H F io Q hl w hh
  obtain ⟨d, v, u, e1, e2, rv, rp⟩ := h
  refine wE_of (pe_glob hg e2 rv hd) ?_
  unfold ev at hh
  rw [e1] at hh
  exact hh v H F io (Same.refl _) (Pre.refl _) w (rp F io)))) Xz.mk
theorem bi_all (ok : E.Ok) {x : Str} {n : Nat} {b : Bi} (h : bi2 x n = some b) : x = biName b ∧ BiOk E b ∧ n ≠ 0 := @Rz _ _ (fun qz => @Hz.get _ _ (qz.bar : Hz _ (by
  clear qz
  unfold bi2 at h
  repeat' split at h
  all_goals first
    | (cases h
       rename_i q
       rw [Bool.and_eq_true, beq_iff_eq, beq_iff_eq] at q
       refine ⟨q.1, ?_, by omega⟩
       first | exact bi_len ok | exact bi_min2 ok | exact bi_max2 ok | exact bi_int ok | exact bi_tuple ok | exact bi_list ok | exact bi_min1 ok | exact bi_max1 ok | exact bi_sorted ok)
    | cases h))) Xz.mk
end
theorem cvG_sound (C : Cv) (sc : Scope) (E : En) (c : CtxOk C sc E) : ∀ n, (∀ e g, cvG C n sc e = some g → SG E e g) ∧ (∀ es gs, cvGs C n sc es = some gs → allNot es = true → SGs E es gs ∧ es.length = gs.length) := @Rz _ _ (fun qz => @Hz.get _ _ (qz.bar : Hz _ (by
  clear qz
  intro n
  induction n with
  | zero => exact ⟨fun e g h => (by unfold cvG at h; cases h), fun es gs h => (by unfold cvGs at h; cases h)⟩
  | succ n ih =>
    refine ⟨fun e g h => ?_, fun es gs h hs => ?_⟩
    · unfold cvG at h
      split at h
      · obtain ⟨i, h1, rfl⟩ := map_some h
        obtain ⟨g1, g2, g3⟩ := wr_of h1
        exact SG_slot c.ok (by rw [c.N]; exact g1) (by rw [c.sc]; exact g2) (by rw [c.sc]; exact g3.imp (c.fnc _) id)
      · split at h
        case isFalse => cases h
        rename_i hs
        obtain ⟨gs, h1, rfl⟩ := map_some h
        obtain ⟨q1, q2⟩ := ih.2 _ _ h1 hs
        exact SG_tup c.ok hs q2 q1
      · cases h
    · cases es with
      | nil => unfold cvGs at h; cases h; exact ⟨SGs_nil, rfl⟩
      | cons e es =>
        unfold cvGs at h
        obtain ⟨t, ts, h1, h2, h3⟩ := pair_some h
        cases h3
        unfold allNot at hs
        rw [List.all_cons, Bool.and_eq_true] at hs
        obtain ⟨q1, q2⟩ := ih.2 _ _ h2 hs.2
        exact ⟨SGs_cons hs.1 (ih.1 _ _ h1) q1, by simp [q2]⟩))) Xz.mk
theorem fold_no {e : Expr} (h : isSetE e = false) (env : Env) (x : Value) : foldedSetIterable e env x = pure x := by
  cases e <;> first | rfl | cases h
theorem cv_sound : ∀ (n : Nat) (C : Cv) (sc : Scope), (∀ (E : En) (e : Expr) (t : Tm), CtxOk C sc E → cvE C n sc e = some t → All E e t) ∧
    (∀ (E : En) (es : List Expr) (ts : List Tm), CtxOk C sc E → cvEs C n sc es = some ts → SEs E es ts) ∧
    (∀ (E : En) (oe : Option Expr) (ot : Option Tm), CtxOk C sc E → cvO C n sc oe = some ot → SO E oe ot) ∧
    (∀ (E : En) (ks : List (Option Expr)) (vs : List Expr) (kts : List (Key × Tm)), CtxOk C sc E → cvK C n sc ks vs = some kts → SK E ks vs kts) ∧
    (∀ (E : En) (e : Expr) (it : Iter) (tg : Expr), CtxOk C sc E → cvI C n sc tg e = some it → SI E tg e it ∧ isSetE e = false) ∧
    (∀ (E : En) (es : List Expr) (ot : Option Tm), CtxOk C sc E → cvC C n sc es = some ot → SCs E es ot) := @Rz _ _ (fun qz => @Hz.get _ _ (qz.bar : Hz _ (by
  clear qz
  intro n
  induction n with
  | zero =>
    intro C sc
    refine ⟨fun E e t c h => ?_, fun E es ts c h => ?_, fun E oe ot c h => ?_, fun E ks vs kts c h => ?_, fun E e it tg c h => ?_, fun E es ot c h => ?_⟩
    · unfold cvE at h; cases h
    · unfold cvEs at h; cases h
    · unfold cvO at h; cases h
    · unfold cvK at h; cases h
    · unfold cvI at h; cases h
    · unfold cvC at h; cases h
  | succ n ih =>
    intro C sc
    obtain ⟨ihE, ihEs, ihO, ihK, ihI, ihC⟩ := ih C sc
    refine ⟨fun E e t c h => ?_, fun E es ts c h => ?_, fun E oe ot c h => ?_, fun E ks vs kts c h => ?_, fun E e it tg c h => ?_, fun E es ot c h => ?_⟩
    · unfold cvE at h
      have h2 := orStuck_some h
      clear h
      rcases h2 with h | rfl
      case inr => exact All.stuck
      split at h
      · -- Name
        rename_i x p
        split at h
        · rename_i i q
          cases h
          obtain ⟨h1, h2, h3, h4⟩ := rd_of q
          exact All.of (SE_slot (by rw [c.N]; exact h1) (by rw [c.sc]; exact h2) h3 h4) (fun _ => rfl) (fun _ _ _ z => by cases z)
        · split at h
          · rename_i q
            rw [Bool.and_eq_true] at q
            obtain ⟨g, e1, rfl⟩ := map_some h
            exact All.of (SE_glob (by show E.X.env.scope.names.lookup x = _; rw [c.sc]; exact gl_of q.1) (dund_of q.2).1 (c.globs x g e1)) (fun _ => rfl) (fun _ _ _ z => by cases z)
          · cases h
      · cases h; exact All.of SE_non (fun _ => rfl) (fun _ _ _ z => by cases z)
      · cases h; exact All.of SE_bl (fun _ => rfl) (fun _ _ _ z => by cases z)
      · cases h; exact All.of SE_int (fun _ => rfl) (fun _ _ _ z => by cases z)
      · cases h; exact All.of SE_str (fun _ => rfl) (fun _ _ _ z => by cases z)
      · -- BinOp
        obtain ⟨o, x, y, h1, h2, h3, h4⟩ := triple_some h
        cases h4
        rw [← op2_of h1]
        exact All.of (SE_bin c.ok (ihE E _ _ c h2).1 (ihE E _ _ c h3).1) (fun _ => rfl) (fun _ _ _ z => by cases z)
      · obtain ⟨x, h1, rfl⟩ := map_some h
        exact All.of (SE_neg (ihE E _ _ c h1).1) (fun _ => rfl) (fun _ _ _ z => by cases z)
      · obtain ⟨x, h1, rfl⟩ := map_some h
        exact ⟨SE_not (ihE E _ _ c h1).1, ST_not (ihE E _ _ c h1).2.1, fun _ _ _ z => by cases z⟩
      · -- BoolOp one
        rename_i op a p
        have q := ihE E _ _ c h
        have sw : SW E (.BoolOp op [a] p) t := by
          cases op with
          | And => exact SW_and1 q.2.1
          | Or => exact SW_or1 q.2.1
        exact ⟨SE_one q.1, sw.st, fun _ _ _ _ => sw⟩
      · obtain ⟨x, y, h1, h2, h3⟩ := pair_some h
        cases h3
        have q1 := ihE E _ _ c h1
        have q2 := ihE E _ _ c h2
        have sw := SW_and q1.2.1 (q2.2.2 _ _ _ rfl)
        exact ⟨SE_and q1.1 q2.1, sw.st, fun _ _ _ _ => sw⟩
      · obtain ⟨x, y, h1, h2, h3⟩ := pair_some h
        cases h3
        have q1 := ihE E _ _ c h1
        have q2 := ihE E _ _ c h2
        have sw := SW_or q1.2.1 (q2.2.2 _ _ _ rfl)
        exact ⟨SE_or q1.1 q2.1, sw.st, fun _ _ _ _ => sw⟩
      · -- Compare
        rename_i a op b p
        split at h
        · cases h
        · rename_i hm
          obtain ⟨x, y, h1, h2, h3⟩ := pair_some h
          cases h3
          have hm' : behindInMarks (cmM (cm2 op)) b = false := by rw [cm2_of]; simpa using hm
          have e1 := SE_cmp (pos := p) c.ok (ihE E _ _ c h1).1 (ihE E _ _ c h2).1 hm'
          have e2 := ST_cmp (pos := p) c.ok (ihE E _ _ c h1).1 (ihE E _ _ c h2).1 hm'
          rw [cm2_of] at e1 e2
          exact ⟨e1, e2, fun _ _ _ z => by cases z⟩
      · -- chain
        rename_i a op op' b d p
        split at h
        · cases h
        · rename_i hm
          obtain ⟨x, y, z, h1, h2, h3, h4⟩ := triple_some h
          cases h4
          have hm' : lastMarks [cmM (cm2 op), cmM (cm2 op')] [b, d] = false := by rw [cm2_of, cm2_of]; simpa using hm
          have e1 := SE_chain (pos := p) c.ok (ihE E _ _ c h1).1 (ihE E _ _ c h2).1 (ihE E _ _ c h3).1 hm'
          have e2 := ST_chain (pos := p) c.ok (ihE E _ _ c h1).1 (ihE E _ _ c h2).1 (ihE E _ _ c h3).1 hm'
          rw [cm2_of, cm2_of] at e1 e2
          exact ⟨e1, e2, fun _ _ _ z => by cases z⟩
      · -- IfExp
        obtain ⟨x, y, z, h1, h2, h3, h4⟩ := triple_some h
        cases h4
        have q := ihE E _ _ c h1
        exact ⟨SE_ite q.2.1 (ihE E _ _ c h2).1 (ihE E _ _ c h3).1, ST_ite q.2.1 (ihE E _ _ c h2).2.1 (ihE E _ _ c h3).2.1, fun _ _ _ z => by cases z⟩
      · -- Call of a name
        rename_i x p es pp
        split at h
        · rename_i k a hi
          obtain ⟨ta, h1, rfl⟩ := map_some h
          unfold isiOf at hi
          split at hi
          case h_2 => cases hi
          rename_i a' n' p2
          split at hi
          case isFalse => cases hi
          rename_i q
          simp only [Bool.and_eq_true] at q
          obtain ⟨⟨q1, q2⟩, q3⟩ := q
          obtain ⟨k', h2, h3⟩ := map_some hi
          cases h3
          obtain ⟨rfl, g1, g2⟩ := bnm_of c q1
          obtain ⟨_, g3, g4⟩ := bnm_of c q2
          exact All.of (SE_ist c.ok (tyN_of h2) g1 g2 g3 g4 q3 (ihE E _ _ c h1).1) (fun _ => rfl) (fun _ _ _ z => by cases z)
        split at h
        · rename_i a b hi
          obtain ⟨ta, tb, h1, h2, h3⟩ := pair_some h
          cases h3
          unfold lzOf at hi
          split at hi
          case h_2 => cases hi
          split at hi
          case isFalse => cases hi
          rename_i q
          simp only [Bool.and_eq_true] at q
          obtain ⟨⟨q1, q2⟩, q3, q4⟩ := q
          cases hi
          obtain ⟨rfl, g1, g2⟩ := bnm_of c q1
          obtain ⟨rfl, g3, g4⟩ := bnm_of c q2
          exact All.of (SE_lzip c.ok g3 g4 g1 g2 q3 q4 (ihE E _ _ c h1).1 (ihE E _ _ c h2).1) (fun _ => rfl) (fun _ _ _ z => by cases z)
        split at h
        case isFalse => cases h
        rename_i q
        rw [Bool.and_eq_true] at q
        have hg : Gl E.X x := by show E.X.env.scope.names.lookup x = _; rw [c.sc]; exact gl_of q.1
        split at h
        case h_2 => cases h
        rename_i ts hts
        have ses := ihEs E _ _ c hts
        have hse : SE E (.Call (.Name x p) es [] pp) t := by
          split at h
          · rename_i i hi
            cases h
            have ck := c.fns x i hi E.H0
            cases ses with
            | nil => exact SE_call0 hg (dund_of q.2).1 ck
            | cons h1 h2 h3 => exact SE_call hg (dund_of q.2).1 ck h1 h3.notall (SEs.cons h1 h2 h3).sa
          · split at h
            · cases h
            · rename_i hb
              obtain ⟨b, e1, rfl⟩ := map_some h
              obtain ⟨b1, b2, b3⟩ := bi_all c.ok e1
              have hbl : C.blts.contains x = true := by
                cases z : C.blts.contains x with
                | true => rfl
                | false => rw [z] at hb; simp at hb
              cases ses with
              | nil => exact absurd rfl b3
              | cons h1 h2 h3 => exact SE_bi b1 b2 hg (c.blts x hbl) h1 h3.notall (SEs.cons h1 h2 h3).sp
        exact All.of hse (fun _ => rfl) (fun _ _ _ z => by cases z)
      · -- min, max with default=None
        rename_i x p a kw kk cp kp pp
        split at h
        case isFalse => cases h
        rename_i q
        rw [Bool.and_eq_true, beq_iff_eq] at q
        obtain ⟨rfl, hs⟩ := q
        have hse : SE E (.Call (.Name x p) [a] [⟨some "default", .Constant .none kk cp, kp⟩] pp) t := by
          split at h
          · rename_i hb
            obtain ⟨u, h1, rfl⟩ := map_some h
            obtain ⟨rfl, hg, hm⟩ := bnm_of c hb
            exact SE_min1d c.ok hg hm hs (SEs.cons hs (ihE E _ _ c h1).1 .nil).sp
          · split at h
            case isFalse => cases h
            rename_i hb
            obtain ⟨u, h1, rfl⟩ := map_some h
            obtain ⟨rfl, hg, hm⟩ := bnm_of c hb
            exact SE_max1d c.ok hg hm hs (SEs.cons hs (ihE E _ _ c h1).1 .nil).sp
        exact All.of hse (fun _ => rfl) (fun _ _ _ z => by cases z)
      · -- Call of a method
        rename_i o m apos es pp
        split at h
        case isFalse => cases h
        rename_i hl
        have hse : SE E (.Call (.Attribute o m apos) es [] pp) t := by
          split at h
          · rename_i i hi
            split at h
            case isFalse => cases h
            rename_i he
            cases h
            have he' : es = [] := List.isEmpty_iff.mp he
            subst he'
            unfold popName at hi
            split at hi
            · split at hi
              · rename_i hm
                obtain ⟨h1, h2, h3, h4⟩ := rd_of hi
                rw [beq_iff_eq] at hm
                subst hm
                exact SE_pop c.ok (by rw [c.N]; exact h1) (by rw [c.sc]; exact h2) h3 h4 hl
              · cases hi
            · cases hi
          · split at h
            case isFalse => cases h
            rename_i q
            rw [Bool.and_eq_true, decide_eq_true_eq] at q
            obtain ⟨to, k, ts, h1, h2, h3, h4⟩ := triple_some h
            split at h4
            case isFalse => cases h4
            rename_i hk
            cases h4
            have ses := ihEs E _ _ c h3
            have hm := fun cc i e => c.meths k hk cc i e E.H0
            cases ses with
            | nil => exact SE_meth0 c.ok (c.nms m k h2) hm (ihE E _ _ c h1).1 q.1 hl
            | cons g1 g2 g3 =>
              refine SE_meth c.ok (c.nms m k h2) hm (ihE E _ _ c h1).1 q.1 g1 g3.notall ?_ hl (SEs.cons g1 g2 g3).sa
              have := q.2
              simp at this; omega
        exact All.of hse (fun _ => rfl) (fun _ _ _ z => by cases z)
      · -- Attribute
        rename_i o f p
        split at h
        case isFalse => cases h
        rename_i q
        obtain ⟨to, k, h1, h2, h3⟩ := pair_some h
        cases h3
        exact All.of (SE_attr c.ok (c.nms f k h2) q (ihE E _ _ c h1).1) (fun _ => rfl) (fun _ _ _ z => by cases z)
      · -- slice
        obtain ⟨to, l, hh, h1, h2, h3, h4⟩ := triple_some h
        cases h4
        exact All.of (SE_slice c.ok (ihE E _ _ c h1).1 (ihO E _ _ c h2) (ihO E _ _ c h3)) (fun _ => rfl) (fun _ _ _ z => by cases z)
      · obtain ⟨ta, h1, rfl⟩ := map_some h
        exact All.of (SE_rsl c.ok (ihE E _ _ c h1).1 (SE_neg SE_int)) (fun _ => rfl) (fun _ _ _ z => by cases z)
      · -- item
        split at h
        case isFalse => cases h
        rename_i q
        obtain ⟨to, ti, h1, h2, h3⟩ := pair_some h
        cases h3
        exact All.of (SE_ix c.ok q (ihE E _ _ c h1).1 (ihE E _ _ c h2).1) (fun _ => rfl) (fun _ _ _ z => by cases z)
      · obtain ⟨t1, ts, h1, h2, h3⟩ := pair_some h
        cases h3
        exact All.of (SE_tupS c.ok (ihE E _ _ c h1).1 (ihEs E _ _ c h2).sa) (fun _ => rfl) (fun _ _ _ z => by cases z)
      · obtain ⟨t1, ts, h1, h2, h3⟩ := pair_some h
        cases h3
        exact All.of (SE_lstS c.ok (ihE E _ _ c h1).1 (ihEs E _ _ c h2).sa) (fun _ => rfl) (fun _ _ _ z => by cases z)
      · obtain ⟨ts, h1, rfl⟩ := map_some h
        exact All.of (SE_tup (ihEs E _ _ c h1).sa) (fun _ => rfl) (fun _ _ _ z => by cases z)
      · obtain ⟨ts, h1, rfl⟩ := map_some h
        exact All.of (SE_lst (ihEs E _ _ c h1).sa) (fun _ => rfl) (fun _ _ _ z => by cases z)
      · -- Dict
        rename_i ks vs p
        split at h
        · cases h
        · rename_i q
          obtain ⟨ts, h1, rfl⟩ := map_some h
          have h15 : ks.length ≤ 15 := by
            simp at q; omega
          have h0 : ks ≠ [] := fun z => by subst z; simp at q
          exact All.of (SE_dict (ihK E _ _ _ c h1) h0 h15) (fun _ => rfl) (fun _ _ _ z => by cases z)
      · -- ListComp
        rename_i elt g scope p
        split at h
        case isFalse => cases h
        rename_i q
        simp only [Bool.and_eq_true, decide_eq_true_eq, Bool.not_eq_true'] at q
        obtain ⟨⟨q1, q2⟩, q3⟩ := q
        obtain ⟨tg, it, h1, h2, h3⟩ := pair_some h
        obtain ⟨tc, te, h4, h5, h6⟩ := pair_some h3
        split at h6
        case isFalse => cases h6
        rename_i hx
        cases h6
        have hb : BlkOk E.X.N E.X.env.scope scope (ownOf C.N scope.names) := by rw [c.N, c.sc]; exact blkOk_by q1
        obtain ⟨jhE, _, _, _, _, jhC⟩ := ih (C.blk scope) (rl scope sc)
        have key : SE E (.ListComp elt [⟨g.target, g.iter, g.ifs, 0⟩] scope p) (.comp te tg it tc ((ownOf C.N scope.names).map (·.2))) :=
          SE_comp c.ok hb (ihI E _ _ _ c h2).1 (fun i hi => by
            have := List.all_eq_true.mp hx i hi
            simpa using this) (fun s H a cl fp => (cvG_sound _ _ _ (c.blk hb.kind s H a cl fp) n).1 _ _ h1) (fun s H a cl fp => jhC _ _ _ (c.blk hb.kind s H a cl fp) h4) (fun s H a cl fp => (jhE _ _ _ (c.blk hb.kind s H a cl fp) h5).1)
            (fun x => fold_no q3 _ x)
        obtain ⟨g1, g2, g3, g4⟩ := g
        have q2 : g4 = 0 := q2
        subst q2
        exact All.of key (fun _ => rfl) (fun _ _ _ z => by cases z)
      · cases h
    · cases es with
      | nil => unfold cvEs at h; cases h; exact .nil
      | cons e es =>
        unfold cvEs at h
        split at h
        case isFalse => cases h
        rename_i q
        obtain ⟨t, ts', h1, h2, h3⟩ := pair_some h
        cases h3
        exact .cons q (ihE E _ _ c h1).1 (ihEs E _ _ c h2)
    · cases oe with
      | none => unfold cvO at h; cases h; trivial
      | some e =>
        unfold cvO at h
        obtain ⟨t, h1, rfl⟩ := map_some h
        exact (ihE E _ _ c h1).1
    · unfold cvK at h
      split at h
      · rename_i q; cases q
      · rename_i q
        cases h; exact .nil
      · rename_i x j p ks v vs q
        cases q
        obtain ⟨t, ts', h1, h2, h3⟩ := pair_some h
        cases h3
        exact .str (fun h0 => (ihE (E.at h0) _ _ (c.at h0) h1).1) (ihK E _ _ _ c h2)
      · cases h
    · have tup : ∀ {tg : Expr}, isTupE tg = true → ∃ es k p, tg = .Tuple es k p := fun {tg} h => by
        cases tg <;> first | exact ⟨_, _, _, rfl⟩ | cases h
      unfold cvI at h
      split at h
      · split at h
        · rename_i q
          obtain ⟨rfl, g1, g2⟩ := bnm_of c q
          split at h
          case isFalse => cases h
          rename_i hs
          obtain ⟨t, h1, rfl⟩ := map_some h
          exact ⟨SI_range1 c.ok g1 g2 hs (ihE E _ _ c h1).1, rfl⟩
        split at h
        · rename_i q
          rw [Bool.and_eq_true] at q
          obtain ⟨rfl, g1, g2⟩ := bnm_of c q.1
          obtain ⟨es, k, p, rfl⟩ := tup q.2
          split at h
          case isFalse => cases h
          rename_i hs
          obtain ⟨t, h1, rfl⟩ := map_some h
          exact ⟨SI_enum c.ok g1 g2 hs (ihE E _ _ c h1).1, rfl⟩
        split at h
        · rename_i q
          obtain ⟨rfl, g1, g2⟩ := bnm_of c q
          split at h
          case isFalse => cases h
          rename_i hs
          obtain ⟨t, h1, rfl⟩ := map_some h
          exact ⟨SI_rev c.ok g1 g2 hs (ihE E _ _ c h1).1, rfl⟩
        · obtain ⟨t, h1, rfl⟩ := map_some h
          exact ⟨SI_seq c.ok (ihE E _ _ c h1).1, rfl⟩
      · split at h
        · rename_i q
          obtain ⟨rfl, g1, g2⟩ := bnm_of c q
          split at h
          case isFalse => cases h
          rename_i hs
          rw [Bool.and_eq_true] at hs
          obtain ⟨t, t2, h1, h2, h3⟩ := pair_some h
          cases h3
          exact ⟨SI_range2 c.ok g1 g2 hs.1 hs.2 (ihE E _ _ c h1).1 (ihE E _ _ c h2).1, rfl⟩
        split at h
        · rename_i q
          rw [Bool.and_eq_true] at q
          obtain ⟨rfl, g1, g2⟩ := bnm_of c q.1
          obtain ⟨es, k, p, rfl⟩ := tup q.2
          split at h
          case isFalse => cases h
          rename_i hs
          rw [Bool.and_eq_true] at hs
          obtain ⟨t, t2, h1, h2, h3⟩ := pair_some h
          cases h3
          exact ⟨SI_zip c.ok g1 g2 hs.1 hs.2 (ihE E _ _ c h1).1 (ihE E _ _ c h2).1, rfl⟩
        · obtain ⟨t, h1, rfl⟩ := map_some h
          exact ⟨SI_seq c.ok (ihE E _ _ c h1).1, rfl⟩
      · split at h
        · rename_i q
          obtain ⟨rfl, g1, g2⟩ := bnm_of c q
          split at h
          case isFalse => cases h
          rename_i hs
          simp only [Bool.and_eq_true] at hs
          obtain ⟨t, t2, t3, h1, h2, h3, h4⟩ := triple_some h
          cases h4
          exact ⟨SI_range3 c.ok g1 g2 hs.1.1 hs.1.2 hs.2 (ihE E _ _ c h1).1 (ihE E _ _ c h2).1 (ihE E _ _ c h3).1, rfl⟩
        · obtain ⟨t, h1, rfl⟩ := map_some h
          exact ⟨SI_seq c.ok (ihE E _ _ c h1).1, rfl⟩
      · split at h
        · cases h
        · rename_i q
          obtain ⟨t, h1, rfl⟩ := map_some h
          exact ⟨SI_seq c.ok (ihE E _ _ c h1).1, by simpa using q⟩
    · unfold cvC at h
      split at h
      · rename_i q; cases q
      · cases h; exact scs_nil
      · rename_i q
        cases q
        obtain ⟨t, h1, rfl⟩ := map_some h
        exact scs_one (ihE E _ _ c h1).2.1
      · cases h))) Xz.mk
/-- the parts of a comprehension -/
theorem lc_parts {n : Nat} {C : Cv} {sc : Scope} {E : En} (c : CtxOk C sc E) {elt : Expr} {g : Comprehension} {scope : Scope} {p : Pos} {t : Tm} (h : cvE C n sc (.ListComp elt [g] scope p) = some t) : t = .stuck ∨ ∃ (tg : Tg) (it : Iter) (tc : Option Tm) (te : Tm), g.is_async = 0 ∧
    t = .comp te tg it tc ((ownOf C.N scope.names).map (·.2)) ∧ BlkOk E.X.N E.X.env.scope scope (ownOf C.N scope.names) ∧ SI E g.target g.iter it ∧ (∀ i ∈ tgIx tg, i ∈ (ownOf C.N scope.names).map (·.2)) ∧
    (∀ s H C cl fp, SG (E.blk s H scope C cl fp) g.target tg) ∧ (∀ s H C cl fp, SCs (E.blk s H scope C cl fp) g.ifs tc) ∧ (∀ s H C cl fp, SE (E.blk s H scope C cl fp) elt te) ∧ ∀ x, foldedSetIterable g.iter E.X.env x = pure x := @Rz _ _ (fun qz => @Hz.get _ _ (qz.bar : Hz _ (by
  clear qz
  cases n with
  | zero => unfold cvE at h; cases h
  | succ n =>
    unfold cvE at h
    have h2 := orStuck_some h
    clear h
    rcases h2 with h | rfl
    case inr => exact .inl rfl
    dsimp only at h
    split at h
    case isFalse => cases h
    rename_i q
    simp only [Bool.and_eq_true, decide_eq_true_eq, Bool.not_eq_true'] at q
    obtain ⟨⟨q1, q2⟩, q3⟩ := q
    obtain ⟨tg, it, h1, h2, h3⟩ := pair_some h
    obtain ⟨tc, te, h4, h5, h6⟩ := pair_some h3
    split at h6
    case isFalse => cases h6
    rename_i hx
    cases h6
    have hb : BlkOk E.X.N E.X.env.scope scope (ownOf C.N scope.names) := by rw [c.N, c.sc]; exact blkOk_by q1
    obtain ⟨_, _, _, _, ihI, _⟩ := cv_sound n C sc
    obtain ⟨jhE, _, _, _, _, jhC⟩ := cv_sound n (C.blk scope) (rl scope sc)
    exact .inr ⟨tg, it, tc, te, q2, rfl, hb, (ihI E _ _ _ c h2).1, fun i hi => (by
      have := List.all_eq_true.mp hx i hi
      simpa using this), fun s H a cl fp => (cvG_sound _ _ _ (c.blk hb.kind s H a cl fp) n).1 _ _ h1, fun s H a cl fp => jhC _ _ _ (c.blk hb.kind s H a cl fp) h4, fun s H a cl fp => (jhE _ _ _ (c.blk hb.kind s H a cl fp) h5).1, fun x => fold_no q3 _ x⟩))) Xz.mk
end Ag
namespace Ag
open PySem PySem.Spec L2
def nmOf (C : Cv) (sc : Scope) : List Expr → Option (List Nat)
  | [] => some []
  | .Name x _ :: r => o2 (wrSlot C sc x) (nmOf C sc r) fun i is => some (i :: is)
  | _ => none
def isLoc (sc : Scope) : Expr → Bool
  | .Name x _ => (match sc.names.lookup x with | some .local => true | _ => false)
  | _ => false
/-- stored one by one through a tuple -/
def noSwap (sc : Scope) (tgs es : List Expr) : Bool :=
  !(tgs.length == 2 || tgs.length == 3) || !(tgs.all (isLoc sc)) || es.all (foldedForSure 8)
/-- the last name first -/
def doSwap (sc : Scope) (tgs es : List Expr) : Bool := match tgs, es with
  | [a, b], [x, y] => isLoc sc a && isLoc sc b && (b.pos.line == a.pos.line) && !([x, y].all (foldedForSure 8)) && !([x, y].all (constantsAlone 8))
  | [a, b, c], [x, y, z] => isLoc sc a && isLoc sc b && isLoc sc c && (b.pos.line == a.pos.line) && (c.pos.line == a.pos.line) && !([x, y, z].all (foldedForSure 8)) && !([x, y, z].all (constantsAlone 8))
  | _, _ => false
def distinct : List Nat → Bool
  | [] => true
  | i :: is => !is.contains i && distinct is
/-- a call of a list's method upon a slot -/
def lstMeth (C : Cv) (sc : Scope) : Expr → Option (Str × Nat × Expr)
  | .Call (.Attribute (.Name x _) m apos) [a] [] cpos => if apos.endLine == cpos.line && notStar a && (m == ("append" : Str) || m == ("extend" : Str)) then (rdSlot C sc x).map fun i => (m, i, a) else none
  | _ => none
def oneComp : Expr → Bool
  | .ListComp .. => true
  | _ => false
/-- x = [..], x a cell of the def -/
def compCell (sc : Scope) (x : Str) : Expr → Bool
  | .ListComp _ [_] _ _ => (match sc.names.lookup x with | some .cell => true | _ => false)
  | _ => false
/-- x = [..] on one line, x a local of its own -/
def compOk (sc : Scope) (x : Str) (p : Pos) : Expr → Bool
  | .ListComp _ [g] scope cpos => (match sc.names.lookup x with | some .local => true | _ => false) && (p.line == cpos.line) && !(scope.names.any fun (n, k) => n == x && (k == .local || k == .cell))
  | _ => false
mutual
def cvS (C : Cv) : Nat → Scope → Stmt → Option Stm
  | 0, _, _ => none
  | n + 1, sc, st => orStuckS (match st with
    | .Expr (.Constant (.str _) _ _) _ => some .skip
    | .Expr e _ => match lstMeth C sc e with
      | some (m, i, a) => (cvE C n sc a).map fun t => if m == ("append" : Str) then .append i t else .extend i t
      | none => if notComp e then (cvE C n sc e).map .expr else none
    | .Assign [.Name x p] a _ => if notComp a then o2 (wrSlot C sc x) (cvE C n sc a) fun i t => some (.asg (.slot i) t) else
        if compCell sc x a then o2 (wrSlot C sc x) (cvE C n sc a) fun i t => some (.asg (.slot i) t) else
        if compOk sc x p a then o2 (wrSlot C sc x) (cvE C n sc a) fun i t => some (.asg (.slot i) t) else none
    | .Assign [.Tuple tgs _ _] (.Tuple es _ _) _ => if (noSwap sc tgs es || doSwap sc tgs es) && decide (tgs.length = es.length) then
        o2 (nmOf C sc tgs) (cvEs C n sc es) fun is ts => if distinct is && decide (is.length < 100) then some (.par is ts) else none
      else none
    | .Assign [.Tuple tgs k p] a _ => if notComp a || oneComp a then o2 (cvG C n sc (.Tuple tgs k p)) (cvE C n sc a) fun g t => some (.asg g t) else none
    | .Assign [.Subscript o k _] a _ => if notComp a && notSlice k then o3 (cvE C n sc o) (cvE C n sc k) (cvE C n sc a) fun x y z => some (.setk x y z) else none
    | .AugAssign (.Name x _) .Add a _ => o2 (wrSlot C sc x) (cvE C n sc a) fun i t => some (.aug i .add t)
    | .If c a b _ => o3 (cvE C n sc c) (cvSs C n sc a) (cvSs C n sc b) fun x y z => some (.ite x y z)
    | .While c b [] _ => o2 (cvE C n sc c) (cvSs C n sc b) fun x y => some (.whil x y)
    | .For tg it b [] _ => o3 (cvG C n sc tg) (cvI C n sc tg it) (cvSs C n sc b) fun x y z => some (.for_ x y z)
    | .Return none _ => some .retN
    | .Return (some a) _ => (cvE C n sc a).map .ret
    | .Pass _ => some .skip
    | .Break _ => some .brk
    | .Continue _ => some .cont
    | _ => none)
def cvSs (C : Cv) : Nat → Scope → List Stmt → Option (List Stm)
  | 0, _, _ => none
  | _ + 1, _, [] => some []
  | n + 1, sc, s :: ss => o2 (cvS C n sc s) (cvSs C n sc ss) fun t ts => some (t :: ts)
end
structure CtxS (C : Cv) (sc : Scope) (E : En) : Prop where
  c : CtxOk C sc E
  pass : PassesOwn (model E.X.prog E.X.w) E.X.A E.X.env E.X.xe
section
variable {E : En} {e a b c : Expr} {ta tb tc : Tm} {fr : Fr} {σ tp : St} {H F : Hp} {io : List Addr} {Q : VK} {pos : Pos} {es : List Expr} {ts : List Tm} {C : Cv} {sc : Scope}
theorem SS_doc {x : Str} {j : Nat} {p : Pos} : SS E (.Expr (.Constant (.str x) j p) pos) .skip := fun fr σ tp H F io D hl w h => wS_of ps_doc (by unfold ex at h; exact h σ H F io hl (Same.refl _) (Pre.refl _) w)
theorem nm_of (c : CtxOk C sc E) : ∀ {tgs : List Expr} {is : List Nat}, nmOf C sc tgs = some is → Nms E tgs is
  | [], _, h => by cases h; exact .nil
  | e :: r, is, h => by
    cases e with
    | Name x p =>
      obtain ⟨i, is', h1, h2, h3⟩ := pair_some (show o2 (wrSlot C sc x) (nmOf C sc r) (fun i is => some (i :: is)) = some is from h)
      cases h3
      obtain ⟨g1, g2, g3⟩ := wr_of h1
      exact .cons (by rw [c.N]; exact g1) (by rw [c.sc]; exact g2) (by rw [c.sc]; exact g3.imp (c.fnc x) id) (nm_of c h2)
    | _ => cases h
theorem isLoc_of {sc : Scope} {x : Str} {p : Pos} (h : isLoc sc (.Name x p) = true) : sc.names.lookup x = some .local := @Rz _ _ (fun qz => @Hz.get _ _ (qz.bar : Hz _ (by
  clear qz
  unfold isLoc at h
  dsimp only at h
  split at h <;> first | assumption | cases h))) Xz.mk
theorem filterMap_all {α β : Type} {f : α → Option β} : ∀ {l : List α}, (l.filterMap f).length = l.length → ∀ x ∈ l, (f x).isSome = true
  | [], _, _, h => by cases h
  | a :: l, hl, x, hx => by
    have hle : (l.filterMap f).length ≤ l.length := List.length_filterMap_le f l
    cases q : f a with
    | none =>
      rw [List.filterMap_cons_none q] at hl
      rw [List.length_cons] at hl
      omega
    | some b =>
      rw [List.filterMap_cons_some q] at hl
      rcases List.mem_cons.mp hx with rfl | hx
      · rw [q]; rfl
      · exact filterMap_all (by simpa using hl) x hx
theorem swap_none {tgs : List Expr} {k k2 : Nat} {pt pt2 : Pos} {env : Env} (hsc : env.scope = sc) (h : noSwap sc tgs es = true) : swappedStores [.Tuple tgs k pt] (.Tuple es k2 pt2) env = pure none := @Rz _ _ (fun qz => @Hz.get _ _ (qz.bar : Hz _ (by
  clear qz
  have key : ∀ l : Nat, (tgs.filterMap fun
      | .Name id pos => if env.kindOf id == some .local && pos.line == l then some id else none
      | _ => none).length = tgs.length → ¬ (tgs.length == 2 || tgs.length == 3) = false → ¬ es.all (foldedForSure 8) = true → False := fun l hl h2 h3 => by
    unfold noSwap at h
    simp only [Bool.or_eq_true, Bool.not_eq_true'] at h
    rcases h with (h | h) | h
    · exact h2 h
    · have q := filterMap_all hl
      have : tgs.all (isLoc sc) = true := List.all_eq_true.mpr fun e he => by
        have q := q e he
        cases e with
        | Name x p =>
          dsimp only at q
          split at q
          · rename_i z
            rw [Bool.and_eq_true, beq_iff_eq] at z
            have z1 : sc.names.lookup x = some .local := by rw [← hsc]; exact z.1
            show (match sc.names.lookup x with | some .local => true | _ => false) = true
            rw [z1]
          · cases q
        | _ => cases q
      rw [this] at h; cases h
    · exact h3 h
  unfold swappedStores
  dsimp only
  split
  · rfl
  · rename_i a1
    split
    · rfl
    · split
      · rfl
      · rename_i a3
        split
        · rfl
        · rename_i a4
          exfalso
          simp only [Bool.or_eq_true, not_or, bne_iff_ne, ne_eq, Decidable.not_not] at a3
          refine key _ a3.1 (fun z => a1 ?_) a4
          rw [z]; rfl))) Xz.mk
theorem mem_lt {tgs : List Expr} {is : List Nat} (h : Nms E tgs is) : ∀ i ∈ is, i < E.X.N.length := @Rz _ _ (fun qz => @Hz.get _ _ (qz.bar : Hz _ (by
  clear qz
  induction h with
  | nil => intro i hi; cases hi
  | cons h1 _ _ _ ih =>
    intro i hi
    rcases List.mem_cons.mp hi with rfl | hi
    · exact (List.getElem?_eq_some_iff.mp h1).1
    · exact ih i hi))) Xz.mk
theorem swap_par (c : CtxOk C sc E) {tgs : List Expr} {is : List Nat} {k k2 : Nat} {pt pt2 : Pos} (h : doSwap sc tgs es = true) (hn : Nms E tgs is) (hd : distinct is = true) (hs : allNot es = true) : ParOk E (.Assign [.Tuple tgs k pt] (.Tuple es k2 pt2) pos) is es := @Rz _ _ (fun qz => @Hz.get _ _ (qz.bar : Hz _ (by
  clear qz
  unfold doSwap at h
  split at h
  · rename_i a b x y
    simp only [Bool.and_eq_true, Bool.not_eq_true'] at h
    obtain ⟨⟨⟨⟨l1, l2⟩, l3⟩, l4⟩, l5⟩ := h
    cases hn with
    | cons n1 _ _ hn => cases hn with
      | cons n2 _ _ hn => cases hn with
        | nil =>
          simp only [distinct, List.contains_cons, List.contains_nil, Bool.and_eq_true, Bool.not_eq_true', Bool.or_eq_false_iff, beq_eq_false_iff_ne, Bool.or_false] at hd
          exact par_two c.ok c.kind n1 n2 (by omega) (by rw [c.sc]; exact isLoc_of l1) (by rw [c.sc]; exact isLoc_of l2) l3 hs l4 l5
  · rename_i a b d x y z
    simp only [Bool.and_eq_true, Bool.not_eq_true'] at h
    obtain ⟨⟨⟨⟨⟨⟨l1, l2⟩, l3⟩, l4⟩, l5⟩, l6⟩, l7⟩ := h
    cases hn with
    | cons n1 _ _ hn => cases hn with
      | cons n2 _ _ hn => cases hn with
        | cons n3 _ _ hn => cases hn with
          | nil =>
            rename_i x1 p1 i1 x2 p2 i2 x3 p3 i3
            simp only [distinct, List.contains_cons, List.contains_nil, Bool.and_eq_true, Bool.not_eq_true', Bool.or_eq_false_iff, beq_eq_false_iff_ne, Bool.or_false] at hd
            exact par_three c.ok c.kind n1 n2 n3 (by omega) (by omega) (by omega) (by rw [c.sc]; exact isLoc_of l1) (by rw [c.sc]; exact isLoc_of l2) (by rw [c.sc]; exact isLoc_of l3) l4 l5 hs l6 l7
  · cases h))) Xz.mk
theorem cvI_sound {n : Nat} (c : CtxOk C sc E) {tg e : Expr} {it : Iter} (h : cvI C n sc tg e = some it) : SI E tg e it ∧ isSetE e = false := (cv_sound n C sc).2.2.2.2.1 E e it tg c h
theorem lst_of {m : Str} {i : Nat} (c : CtxOk C sc E) {n : Nat} {t : Tm} (h : lstMeth C sc e = some (m, i, a)) (ha : cvE C n sc a = some t) : SS E (.Expr e pos) (if m == ("append" : Str) then .append i t else .extend i t) := @Rz _ _ (fun qz => @Hz.get _ _ (qz.bar : Hz _ (by
  clear qz
  have cs := (cv_sound n C sc).1 E
  unfold lstMeth at h
  split at h
  · split at h
    case isFalse => cases h
    rename_i q
    obtain ⟨j, h1, h2⟩ := map_some h
    cases h2
    simp only [Bool.and_eq_true, Bool.or_eq_true, beq_iff_eq] at q
    obtain ⟨⟨q1, q2⟩, q3⟩ := q
    obtain ⟨g1, g2, g3, g4⟩ := rd_of h1
    rcases q3 with rfl | rfl
    · exact SS_append c.ok (by rw [c.N]; exact g1) (by rw [c.sc]; exact g2) g3 g4 q2 (by simpa using q1) (cs _ _ c ha).1
    · have ne : (("extend" : Str) == ("append" : Str)) = false := by decide +kernel
      rw [ne]
      exact SS_extend c.ok (by rw [c.N]; exact g1) (by rw [c.sc]; exact g2) g3 g4 q2 (by simpa using q1) (cs _ _ c ha).1
  · cases h))) Xz.mk
end
theorem sw_cell {elt : Expr} {gs : List Comprehension} {scope : Scope} {cpos p : Pos} {x : Str} {n : Nat} {env : Env} (h : env.scope.names.lookup x = some .cell) : swapsWith (.ListComp elt gs scope cpos) (some (.Name x p)) n env = pure false := @Rz _ _ (fun qz => @Hz.get _ _ (qz.bar : Hz _ (by
  clear qz
  have hk : env.kindOf x = some .cell := h
  show (pure (env.blockKind == .function && env.kindOf x == some .local && p.line == cpos.line && !(scope.names.any fun (n, k) => n == x && (k == .local || k == .cell))) : Sem Bool) = _
  rw [hk]
  have : (some NameKind.cell == some NameKind.local) = false := rfl
  rw [this, Bool.and_false, Bool.false_and, Bool.false_and]))) Xz.mk
theorem sole_no {a t : Expr} (h : notComp a = true) (n : Nat) (env : Env) : swapsWithSole [t] a n env = pure false := by
  cases a <;> first | rfl | cases h
theorem sole_tup {a : Expr} {tgs : List Expr} {k : Nat} {p : Pos} (h : (notComp a || oneComp a) = true) (n : Nat) (env : Env) : swapsWithSole [.Tuple tgs k p] a n env = pure false := by
  cases a <;> first | rfl | cases h
theorem cvS_sound (C : Cv) (sc : Scope) (E : En) (cx : CtxS C sc E) : ∀ n, (∀ st t, cvS C n sc st = some t → SS E st t) ∧ (∀ sts ts, cvSs C n sc sts = some ts → SSs E sts ts) := @Rz _ _ (fun qz => @Hz.get _ _ (qz.bar : Hz _ (by
  clear qz
  have c := cx.c
  intro n
  induction n with
  | zero => exact ⟨fun st t h => (by unfold cvS at h; cases h), fun sts ts h => (by unfold cvSs at h; cases h)⟩
  | succ n ih =>
    have cs := (cv_sound n C sc).1 E
    have css := (cv_sound n C sc).2.1 E
    refine ⟨fun st t h => ?_, fun sts ts h => ?_⟩
    · unfold cvS at h
      have h2 := orStuckS_some h
      clear h
      rcases h2 with h | rfl
      case inr => exact SS_stuck
      split at h
      · cases h; exact SS_doc
      · split at h
        · rename_i q
          obtain ⟨u, h1, rfl⟩ := map_some h
          exact lst_of c q h1
        · split at h
          case isFalse => cases h
          rename_i hs
          obtain ⟨u, h1, rfl⟩ := map_some h
          exact SS_expr (cs _ _ c h1).1 (swaps_no hs _ _ _)
      · -- name = e
        rename_i x px a ps
        split at h
        · rename_i hs
          obtain ⟨i, u, h1, h2, h3⟩ := pair_some h
          cases h3
          obtain ⟨g1, g2, g3⟩ := wr_of h1
          exact SS_asgName c.ok (by rw [c.N]; exact g1) (by rw [c.sc]; exact g2) (by rw [c.sc]; exact g3.imp (c.fnc _) id) (swaps_no hs _ _ _) (cs _ _ c h2).1
        split at h
        · rename_i hs
          obtain ⟨i, u, h1, h2, h3⟩ := pair_some h
          cases h3
          obtain ⟨g1, g2, g3⟩ := wr_of h1
          unfold compCell at hs
          split at hs
          case h_2 => cases hs
          have hcell : sc.names.lookup x = some NameKind.cell := by
            split at hs
            · assumption
            · cases hs
          exact SS_asgName c.ok (by rw [c.N]; exact g1) (by rw [c.sc]; exact g2) (by rw [c.sc]; exact g3.imp (c.fnc _) id) (sw_cell (by rw [c.sc]; exact hcell)) (cs _ _ c h2).1
        split at h
        case isFalse => cases h
        rename_i hs
        obtain ⟨i, u, h1, h2, h3⟩ := pair_some h
        cases h3
        obtain ⟨g1, g2, g3⟩ := wr_of h1
        unfold compOk at hs
        split at hs
        case h_2 => cases hs
        rename_i elt g scope cpos hnc hcc
        simp only [Bool.and_eq_true, Bool.not_eq_true'] at hs
        obtain ⟨⟨k1, k2⟩, k3⟩ := hs
        have hloc : sc.names.lookup x = some NameKind.local := by
          split at k1
          · assumption
          · cases k1
        rcases lc_parts c h2 with rfl | ⟨tg, it, tc, te, q1, rfl, q3, q4, q5, q6, q7, q8, q9⟩
        · intro fr σ tp H F io D hl w hh
          unfold ex ev at hh
          exact hh.elim
        obtain ⟨e1, e2, e3, e4⟩ := g
        have q1 : e4 = 0 := q1
        subst q1
        exact SS_asgComp c.ok (by rw [c.N]; exact g1) (by rw [c.sc]; exact hloc) (sw_true c.kind (by rw [c.sc]; exact hloc) k2 k3) q3 q4 q5 q6 q7 q8 q9
      · -- several
        split at h
        case isFalse => cases h
        rename_i hs
        rw [Bool.and_eq_true, Bool.or_eq_true] at hs
        obtain ⟨is, us, h1, h2, h3⟩ := pair_some h
        split at h3
        case isFalse => cases h3
        rename_i hd
        rw [Bool.and_eq_true, decide_eq_true_eq] at hd
        cases h3
        have nm := nm_of c h1
        have ses := css _ _ c h2
        refine SS_par ?_ (mem_lt nm) ses
        rcases hs.1 with hs | hs
        · exact par_gen c.ok nm hd.2 (swap_none c.sc hs)
        · exact swap_par c hs nm hd.1 ses.notall
      · -- unpacking
        split at h
        case isFalse => cases h
        rename_i hs
        obtain ⟨g, u, h1, h2, h3⟩ := pair_some h
        cases h3
        have hg := (cvG_sound C sc E c n).1 _ _ h1
        have gt : ∃ gs, g = .tup gs := by
          cases n with
          | zero => unfold cvG at h1; cases h1
          | succ n =>
            unfold cvG at h1
            dsimp only at h1
            split at h1
            · obtain ⟨gs, _, e⟩ := map_some h1
              exact ⟨gs, e.symm⟩
            · cases h1
        obtain ⟨gs, rfl⟩ := gt
        refine SS_asgTup hg (sole_tup hs _ _) ?_ rfl (cs _ _ c h2).1
        rename_i a _ hne
        cases a <;> first | rfl | exact absurd rfl (hne _ _ _)
      · -- o[k] = e
        split at h
        case isFalse => cases h
        rename_i hs0
        rw [Bool.and_eq_true] at hs0
        obtain ⟨hs, hns⟩ := hs0
        obtain ⟨x, y, z, h1, h2, h3, h4⟩ := triple_some h
        cases h4
        exact SS_setk c.ok hns hs (sole_no hs _ _) (by rename_i a _ _; cases a <;> first | rfl | cases hs) (cs _ _ c h3).1 (cs _ _ c h1).1 (cs _ _ c h2).1
      · obtain ⟨i, u, h1, h2, h3⟩ := pair_some h
        cases h3
        obtain ⟨g1, g2, g3⟩ := wr_of h1
        exact SS_aug c.ok (by rw [c.N]; exact g1) (by rw [c.sc]; exact g2) (by rw [c.sc]; exact g3.imp (c.fnc _) id) (cs _ _ c h2).1
      · obtain ⟨x, y, z, h1, h2, h3, h4⟩ := triple_some h
        cases h4
        exact SS_ite (cs _ _ c h1).2.1 (ih.2 _ _ h2) (ih.2 _ _ h3)
      · obtain ⟨x, y, h1, h2, h3⟩ := pair_some h
        cases h3
        exact SS_whil c.ok cx.pass (cs _ _ c h1).2.1 (ih.2 _ _ h2)
      · obtain ⟨x, y, z, h1, h2, h3, h4⟩ := triple_some h
        cases h4
        obtain ⟨q1, q2⟩ := cvI_sound c h2
        exact SS_for c.ok cx.pass q1 ((cvG_sound C sc E c n).1 _ _ h1) (ih.2 _ _ h3) (fun x => fold_no q2 _ x)
      · cases h; exact SS_retN
      · obtain ⟨u, h1, rfl⟩ := map_some h
        exact SS_ret (cs _ _ c h1).1
      · cases h; exact SS_pass
      · cases h; exact SS_brk
      · cases h; exact SS_cont
      · cases h
    · cases sts with
      | nil => unfold cvSs at h; cases h; exact SSs_nil
      | cons s ss =>
        unfold cvSs at h
        obtain ⟨t, ts', h1, h2, h3⟩ := pair_some h
        cases h3
        exact SSs_cons (ih.1 _ _ h1) (ih.2 _ _ h2)))) Xz.mk
end Ag
namespace Ag
open PySem PySem.Spec L2
theorem room5 {k : Nat} {A : Around} (r : Room k A) : A.units + 65 < cLine := by have := r.un; omega
def Fx.all (r : Fx) (P : Out → List Cell → Prop) (PX : Nat → List D → List Cell → Prop) : Prop :=
  match r with
  | .ret o s => P o s
  | .exc c fs s => PX c fs s
  | .bad => False
/-- what a def promises that does what phi tells, of n arguments -/
def spI (G : Glb) (n : Nat) (phi : Fn) : Sp := fun vs H Q Ex => ∃ ds sto F io, ds.length = n ∧ Reps G F io ds vs ∧ Wr G ⟨H, F⟩ io.length sto H F io ∧
  (phi ds sto).all (fun o sto' => ∀ v H' F' io', Same F F' → Pre io io' → Wr G ⟨H, F⟩ io.length sto' H' F' io' → RvOk G ⟨H, F⟩ H' F' io' [] [] (.out o) v → Q v H')
    (fun c fs sto' => ∀ d H' F' io', Same F F' → Pre io io' → Wr G ⟨H, F⟩ io.length sto' H' F' io' → ExOk G F' io' H' c fs d → Ex (.ref (G.cl c)) d H')
section
variable {E : En} {fr : Fr} {σ tp : St} {H F : Hp} {io : List Addr} {Q : VK}
/-- behind a call: the caller's slots stand as they stood -/
theorem Ws.after {sto' : List Cell} {H' F' : Hp} {io' : List Addr} (w : E.ws fr (σ ++ tp) H F io) (s : Same F F') (p : Pre io io') (w' : Wr E.G ⟨H, F⟩ io.length sto' H' F' io') : E.ws { fr with sto := sto' } (σ ++ tp) H' F' io' := @Rz _ _ (fun qz => @Hz.get _ _ (qz.bar : Hz _ (by
  clear qz
  have cellN : ∀ (n : Nat) (a : Addr), io'[n]? = some a → n < io.length → io[n]? = some a := fun n a e h => by
    have e2 := p n _ (List.getElem?_eq_getElem h)
    rw [e] at e2; cases e2
    exact List.getElem?_eq_getElem h
  have nw : ∀ a, H a = none → E.H0 a = none := fun a h => (w.wr.fresh h).2.2
  refine ⟨⟨w'.sub, w'.len, w'.cel, w'.inj, fun a o e k => ?_, fun n a hn e => ?_, w'.frz, Nat.le_trans w.wr.nle ?_, fun a o u e1 e2 => ?_⟩, w.sl.len, fun i sl e => ?_, w.sl.dis⟩
  · have k2 : ∀ n : Nat, n < E.n0 → io[n]? ≠ some a := fun n hn z => k n hn (p n a z)
    have h1 := w.wr.keep a o e k2
    refine w'.keep a o h1 fun n hn z => ?_
    have z2 := cellN n a z hn
    by_cases q : n < E.n0
    · exact k2 n q z2
    · have := w.wr.new n a (Nat.le_of_not_lt q) z2
      rw [e] at this; cases this
  · by_cases q : n < io.length
    · exact w.wr.new n a hn (cellN n a e q)
    · exact nw a (w'.new n a (Nat.le_of_not_lt q) e)
  · have : ∀ n : Nat, n < io.length → n < io'.length := fun n h => (List.getElem?_eq_some_iff.mp (p n _ (List.getElem?_eq_getElem h))).1
    by_cases q : io.length = 0
    · omega
    · have := this (io.length - 1) (by omega)
      omega
  · by_cases q : ∃ n : Nat, n < E.n0 ∧ io[n]? = some a
    · obtain ⟨n, hn, en⟩ := q
      have hlt : n < fr.sto.length := by rw [← w.wr.len]; exact (List.getElem?_eq_some_iff.mp en).1
      obtain ⟨a', e3, _, e4⟩ := w.wr.cel n _ (List.getElem?_eq_getElem hlt)
      rw [en] at e3; cases e3
      have hx : ∃ x, H a = some x := by
        cases q : fr.sto[n] with
        | dict kvs => rw [q] at e4; obtain ⟨vs, h, _⟩ := e4; exact ⟨_, h⟩
        | inst c fs => rw [q] at e4; obtain ⟨dx, vs, h, _⟩ := e4; exact ⟨_, h⟩
      obtain ⟨x, hx⟩ := hx
      exact w.wr.old a o u e1 (w'.old a x u hx e2)
    · have h1 := w.wr.keep a o e1 fun n hn z => q ⟨n, hn, z⟩
      exact w.wr.old a o u e1 (w'.old a o u h1 e2)
  · have q := w.sl.at_ i sl e
    cases sl with
    | un => trivial
    | val d => obtain ⟨v, e1, r⟩ := q; exact ⟨v, e1, r.mono s p⟩
    | own xs =>
      obtain ⟨q, e1, vs, h1, h2, h3, h4, h5⟩ := q
      have nq : ∀ n : Nat, n < io.length → io'[n]? ≠ some q := fun n hn z => h3 n (cellN n q z hn)
      refine ⟨q, e1, vs, w'.keep q _ h1 nq, ?_, fun n z => ?_, h4, h5.mono s p⟩
      · cases z : F' q with
        | none => rfl
        | some u =>
          have : F q = some u := w'.old q _ u h1 z
          rw [h2] at this; cases this
      · by_cases hn : n < io.length
        · exact nq n hn z
        · have := w'.new n q (Nat.le_of_not_lt hn) z
          rw [show (⟨H, F⟩ : Ent) q = H q from rfl, h1] at this; cases this))) Xz.mk
/-- a new list of the callee is new for the caller -/
theorem RvOk.after {sto' : List Cell} {H' F' : Hp} {io' : List Addr} {o : Out} {v : V} (w : E.ws fr (σ ++ tp) H F io) (r : RvOk E.G ⟨H, F⟩ H' F' io' [] [] (.out o) v) : RvOk E.G E.H0 H' F' io' fr.env (σ ++ tp) (.out o) v := @Rz _ _ (fun qz => @Hz.get _ _ (qz.bar : Hz _ (by
  clear qz
  cases o with
  | val d => exact r
  | fresh xs =>
    obtain ⟨p, rfl, ⟨vs, h1, h2, h3, h4, h5⟩, _⟩ := r
    have h4 : H p = none := h4
    refine ⟨p, rfl, ⟨vs, h1, h2, h3, (w.wr.fresh h4).2.2, h5⟩, fun i ys e z => ?_⟩
    obtain ⟨q, e1, own⟩ := w.sl.at_ i _ e
    rw [z] at e1; cases e1
    exact own.ne h4 rfl))) Xz.mk
theorem calls_of {k n : Nat} {f : Addr} {fd : FuncData} {ps : List Str} {phi : Fn} (ok : E.Ok) (FK : FnOk E.X.prog E.X.w E.X.K E.X.mg E.X.base (L2.CX E.X.prog E.X.w) k f fd ps (spI E.G n phi)) (hr : Room k E.X.A) (hb : Binds E.X.K fd ps [])
    (hn : ∀ ds sto, phi ds sto ≠ .bad → ds.length = n) : Calls E (.ref f) phi := @Rz _ _ (fun qz => @Hz.get _ _ (qz.bar : Hz _ (by
  clear qz
  intro fr σ tp H F io Q ds vs us pins s w r rv I h
  have hnb : phi ds fr.sto ≠ .bad := fun z => by rw [z] at h; exact h
  have hsp : spI E.G n phi vs H Q (fun cls d H' => E.W cls d σ H') := by
    refine ⟨ds, fr.sto, F, io, hn _ _ hnb, r, ⟨w.wr.sub, w.wr.len, w.wr.cel, w.wr.inj, fun a o e _ => e, fun m a hm e => ?_, w.wr.frz, Nat.le_refl _, fun a o u _ e => e⟩, ?_⟩
    · have := (List.getElem?_eq_some_iff.mp e).1
      omega
    · cases q : phi ds fr.sto with
      | bad => exact absurd q hnb
      | ret o sto' =>
        rw [q] at h
        intro v H' F' io' s1 p1 w1 r1
        exact h v H' F' io' s1 p1 (w.after s1 p1 w1) (RvOk.after (sto' := sto') (fr := fr) w r1)
      | exc c fs sto' =>
        rw [q] at h
        intro d H' F' io' s1 p1 w1 x
        exact h d H' F' io' s1 p1 (w.after s1 p1 w1) x
  have hl : (us ++ []).length = ps.length := by
    rw [List.append_nil, ← rv.length]; exact FK.len _ _ _ _ hsp
  have hB := hb s us I.kIn hl
  rw [List.append_nil] at hB
  refine wpAny_call (codeAny_mono (FK.run E.X.A E.X.stack s H ⟨us, []⟩ us vs Q (fun cls d H' => E.W cls d σ H') hr I.env0 hB rv hsp) fun r s' hq => ?_)
  cases r with
  | error e => exact ok.tk e s' (XE.of_call I (fun _ _ _ h => h) hq)
  | ok fl =>
    cases fl with
    | ret u => exact I.after hq
    | next => exact False.elim hq
    | brk => exact False.elim hq
    | cont => exact False.elim hq))) Xz.mk
end
/-- a name of the module that can be called, at level k -/
def Good (P : Program) (w : World) (K : PySem.W.Frag) (mg : Str → Option Value) (base : Heap) (G : Glb) (k : Nat) (x : Str) (phi : Fn) : Prop :=
  ∃ u, mg x = some u ∧ PySem.W.keepIn K u = true ∧ ∀ E : En, E.X.prog = P → E.X.w = w → E.X.K = K → E.X.mg = mg → E.X.base = base → E.G = G → E.Ok → Room k E.X.A → Calls E u phi
def GoodM (P : Program) (w : World) (K : PySem.W.Frag) (mg : Str → Option Value) (base : Heap) (G : Glb) (k : Nat) (c m : Nat) (phi : Fn) : Prop :=
  Cls K (G.cl c) ∧ ∃ g, Meth K (G.cl c) (G.fn m) g ∧ ∀ E : En, E.X.prog = P → E.X.w = w → E.X.K = K → E.X.mg = mg → E.X.base = base → E.G = G → E.Ok → Room k E.X.A → Calls E (.ref g) phi
/-- what the whole program's terms lean on -/
structure Base (K : PySem.W.Frag) (mg : Str → Option Value) (G : Glb) (T : Tab) (C : Cv) : Prop where
  k : G.K = K
  inj : ∀ f g, G.fn f = G.fn g → f = g
  fld : ∀ c f, T.fld c f = true → Cls K (G.cl c) ∧ NoAttr K (G.cl c) (G.fn f)
  nms : ∀ x i, C.nms.lookup x = some i → G.fn i = x
  globs : ∀ x g, C.globs.lookup x = some g → ∃ d v u, T.glob g = some d ∧ mg x = some u ∧ RelV v u ∧ ∀ F io, Rep G F io d v
  blts : ∀ x, C.blts.contains x = true → mg x = none
section
variable {P : Program} {w : World} {K : PySem.W.Frag} {mg : Str → Option Value} {base : Heap} {G : Glb} {T : Tab} {C : Cv} {k : Nat}
theorem start_reps {N : List Str} {F : Hp} {io : List Addr} {ds : List Ag.D} {vs : List V} {H0 : Ent} {H : Hp} (r : Reps G F io ds vs) (hl : ds.length ≤ N.length) : Sl G H0 H F io (ds.map Slot.val ++ List.replicate (N.length - ds.length) .un) (L2.start N vs) := @Rz _ _ (fun qz => @Hz.get _ _ (qz.bar : Hz _ (by
  clear qz
  have hd : ∀ (i : Nat) (s : Slot), (ds.map Slot.val ++ List.replicate (N.length - ds.length) Slot.un)[i]? = some s → s = .un ∨ ∃ d, ds[i]? = some d ∧ s = .val d := fun i s e => by
    by_cases q : i < (ds.map Slot.val).length
    · rw [List.getElem?_append_left q, List.getElem?_map] at e
      cases z : ds[i]? with
      | none => rw [z] at e; cases e
      | some d => rw [z] at e; cases e; exact .inr ⟨d, rfl, rfl⟩
    · rw [List.getElem?_append_right (Nat.le_of_not_lt q), List.getElem?_replicate] at e
      split at e <;> cases e
      exact .inl rfl
  refine ⟨?_, fun i s e => ?_, fun i j xs ys p e1 e2 _ _ => ?_⟩
  · unfold L2.start
    simp only [List.length_append, List.length_map, List.length_replicate]
    rw [r.length]
  · rcases hd i s e with rfl | ⟨d, e1, rfl⟩
    · trivial
    · obtain ⟨v, e2, rv⟩ := r.get e1
      refine ⟨v, ?_, rv⟩
      unfold L2.start
      have : i < (vs.map some).length := by rw [List.length_map]; exact (List.getElem?_eq_some_iff.mp e2).1
      rw [List.getElem?_append_left this, List.getElem?_map, e2]; rfl
  · rcases hd i _ e1 with z | ⟨d, _, z⟩ <;> cases z))) Xz.mk
/-- THE RULE for a def -/
theorem def_ok {x qual : Str} {st : Stmt} {f : Addr} {fd : FuncData} {ps : List Str} {body : List Stm} {phi : Fn} {n : Nat} (B : Base K mg G T C) (FF : Fun K x qual st f fd) (S : FnScope C.N ps (defScope st))
    (hfn : ∀ x i, C.fns.lookup x = some i → Good P w K mg base G k x (T.phi i)) (hme : ∀ m, C.meths.contains m = true → ∀ c i, T.psi c m = some i → GoodM P w K mg base G k c m (T.phi i))
    (hfc : C.fnc = fun _ => true) (hc : cvSs C n (defScope st) (defBody st) = some body) (hN : ps.length ≤ C.N.length)
    (hphi : ∀ ds sto, phi ds sto ≠ .bad → ds.length = ps.length ∧ run T ⟨C.N.length, body⟩ ds sto = phi ds sto) : FnOk P w K mg base (L2.CX P w) (k + 1) f fd ps (spI G ps.length phi) := @Rz _ _ (fun qz => @Hz.get _ _ (qz.bar : Hz _ (by
  clear qz
  refine FF.okX S (fun vs H Q Ex h => ?_) fun cdv A outer s H vs Q Ex hr h => ?_
  · obtain ⟨ds, sto, F, io, h1, h2, _⟩ := h
    rw [← h2.length]; exact h1
  · obtain ⟨ds, sto, F, io, h1, h2, h3, h4⟩ := h
    have hnb : phi ds sto ≠ .bad := fun z => by rw [z] at h4; exact h4
    obtain ⟨_, hrun⟩ := hphi ds sto hnb
    let E : En := ⟨cxOf (L2.CX P w) P w K mg base C.N qual (defScope st) f cdv A outer s H Ex, G, ⟨H, F⟩, io.length, T, fun cls d _ H' => Ex cls d H'⟩
    have ok : E.Ok := ⟨B.k, S.nd, rfl, by have := room5 hr; exact this, takes_of rfl rfl rfl rfl, B.inj, B.fld⟩
    have cx : CtxS C (defScope st) E := ⟨⟨ok, rfl, rfl, S.kind, fun x i e E' kn ok' => by
        obtain ⟨u, g1, g2, g3⟩ := hfn x i e
        have hA : E'.X.A = E.X.A := kn.A
        have := g3 E' kn.prog kn.w kn.K kn.mg kn.base kn.G ok' (by rw [hA]; exact hr)
        refine ⟨u, by rw [kn.mg]; exact g1, by rw [kn.K]; exact g2, by rw [kn.T]; exact this⟩, B.nms, fun m hm c i e E' kn ok' => by
        obtain ⟨g1, g, g2, g3⟩ := hme m hm c i e
        have hA : E'.X.A = E.X.A := kn.A
        have := g3 E' kn.prog kn.w kn.K kn.mg kn.base kn.G ok' (by rw [hA]; exact hr)
        exact ⟨by rw [kn.K, kn.G]; exact g1, g, by rw [kn.K, kn.G]; exact g2, by rw [kn.T]; exact this⟩, B.globs, B.blts, fun x h => rfl⟩, passes_of rfl⟩
    refine ⟨_, pss_w, ?_⟩
    have hs := (cvS_sound C (defScope st) E cx n).2 _ _ hc
    have hlen : (L2.start C.N vs).length = C.N.length := by
      unfold L2.start
      simp only [List.length_append, List.length_map, List.length_replicate]
      have := h2.length
      omega
    refine hs ⟨ds.map Slot.val ++ List.replicate (C.N.length - ds.length) .un, sto⟩ (L2.start C.N vs) [] H F io _ hlen (by rw [List.append_nil]; exact ⟨h3, start_reps h2 (by omega)⟩) ?_
    have q : run T ⟨C.N.length, body⟩ ds sto = phi ds sto := hrun
    unfold run at q
    dsimp only at q
    cases z : exs T body ⟨ds.map Slot.val ++ List.replicate (C.N.length - ds.length) .un, sto⟩ with
    | next fr =>
      rw [z] at q
      rw [← q] at h4
      intro σ' H' F' io' _ s1 p1 w1
      exact h4 .non H' F' io' s1 p1 w1.wr .non
    | ret o fr =>
      rw [z] at q
      rw [← q] at h4
      intro v σ' H' F' io' _ s1 p1 w1 r1
      refine h4 v H' F' io' s1 p1 w1.wr ?_
      cases o with
      | val d => exact r1
      | fresh xs =>
        obtain ⟨p, e, own, _⟩ := r1
        exact ⟨p, e, own, fun i ys z => by simp at z⟩
    | exc c fs fr =>
      rw [z] at q
      rw [← q] at h4
      intro d σ' H' F' io' _ s1 p1 w1 x
      exact h4 d H' F' io' s1 p1 w1.wr x
    | brk fr => rw [z] at q; exact absurd q.symm hnb
    | cont fr => rw [z] at q; exact absurd q.symm hnb
    | bad => rw [z] at q; exact absurd q.symm hnb))) Xz.mk
theorem def_good {x qual : Str} {st : Stmt} {f : Addr} {fd : FuncData} {ps : List Str} {phi : Fn} (FF : Fun K x qual st f fd) (hm : mg x = some (.ref f)) (hb : Binds K fd ps []) (h : FnOk P w K mg base (L2.CX P w) k f fd ps (spI G ps.length phi))
    (hn : ∀ ds sto, phi ds sto ≠ .bad → ds.length = ps.length) : Good P w K mg base G k x phi :=
  ⟨.ref f, hm, FF.kp, fun E e1 e2 e3 e4 e5 e6 ok hr => calls_of ok (by rw [e1, e2, e3, e4, e5, e6]; exact h) hr (by rw [e3]; exact hb) hn⟩
theorem Good.mono {j : Nat} {x : Str} {phi : Fn} (h : Good P w K mg base G j x phi) (hj : j ≤ k) : Good P w K mg base G k x phi := @Rz _ _ (fun qz => @Hz.get _ _ (qz.bar : Hz _ (by
  clear qz
  obtain ⟨u, h1, h2, h3⟩ := h
  exact ⟨u, h1, h2, fun E e1 e2 e3 e4 e5 e6 ok hr => h3 E e1 e2 e3 e4 e5 e6 ok (hr.mono hj)⟩))) Xz.mk
end
end Ag
namespace Ag
open PySem L2
/-! ### evaluation, step by step -/
def Sm (x : Int) : Prop := x.natAbs < 2 ^ 1000
instance (x : Int) : Decidable (Sm x) := inferInstanceAs (Decidable (_ < _))
theorem log2_lt {n k : Nat} (h0 : 0 < k) (h : n < 2 ^ k) : n.log2 < k := PySem.Flt.log2_lt_of h0 h
theorem sm_mul {a b : Int} (ha : Sm a) (hb : Sm b) : mulOk a b = true := @Rz _ _ (fun qz => @Hz.get _ _ (qz.bar : Hz _ (by
  clear qz
  unfold mulOk
  have h1 := log2_lt (by decide) ha
  have h2 := log2_lt (by decide) hb
  exact decide_eq_true (by omega)))) Xz.mk
theorem sm_div {b : Int} (h : 0 < b) (hb : Sm b) : divOk b = true := @Rz _ _ (fun qz => @Hz.get _ _ (qz.bar : Hz _ (by
  clear qz
  unfold divOk
  have h2 := log2_lt (by decide) hb
  rw [decide_eq_true h, decide_eq_true (show b.natAbs.log2 < 9000 by omega)]; rfl))) Xz.mk
end Ag
namespace Ag
open PySem L2
/-! ### what holds behind an evaluation -/
abbrev PXt := Nat → List D → Fr → Prop
def A (T : Tab) (t : Tm) (fr : Fr) (P : RV → Fr → Prop) (PX : PXt) : Prop := (ev T t fr).all P PX
def AD (T : Tab) (t : Tm) (fr : Fr) (P : D → Fr → Prop) (PX : PXt) : Prop := ((ev T t fr).fr fun d fr' => Rs.ok d fr').all P PX
def AS (T : Tab) (ts : List Tm) (fr : Fr) (P : List D → Fr → Prop) (PX : PXt) : Prop := (evs T ts fr).all P PX
def AP (T : Tab) (ts : List Tm) (fr : Fr) (P : List RV → Fr → Prop) (PX : PXt) : Prop := (evp T ts fr).all P PX
def AO (T : Tab) (t : Option Tm) (fr : Fr) (P : Option Int → Fr → Prop) (PX : PXt) : Prop := (evo T t fr).all P PX
def AI (T : Tab) (it : Iter) (fr : Fr) (P : List D → Fr → Prop) (PX : PXt) : Prop := (evi T it fr).all P PX
def AK (T : Tab) (ks : List (Key × Tm)) (fr : Fr) (P : List (Key × D) → Fr → Prop) (PX : PXt) : Prop := (evk T ks fr).all P PX
def X (T : Tab) (s : Stm) (fr : Fr) (K : SxP) : Prop := (ex T s fr).all K
def XS (T : Tab) (ss : List Stm) (fr : Fr) (K : SxP) : Prop := (exs T ss fr).all K
theorem all_bind {α β : Type} {m : Rs α} {k : α → Fr → Rs β} {P : β → Fr → Prop} {PX : PXt} (h : m.all (fun a fr => (k a fr).all P PX) PX) : (m.bind k).all P PX := by
  cases m <;> exact h
theorem all_fr {α : Type} {m : Rs RV} {k : D → Fr → Rs α} {P : α → Fr → Prop} {PX : PXt} (h : (m.fr fun d fr => Rs.ok d fr).all (fun d fr => (k d fr).all P PX) PX) : (m.fr k).all P PX := @Rz _ _ (fun qz => @Hz.get _ _ (qz.bar : Hz _ (by
  clear qz
  cases m with
  | ok r fr =>
    show (match toD fr r with | some (d, fr') => k d fr' | none => .bad).all P PX
    have h : (match toD fr r with | some (d, fr') => Rs.ok d fr' | none => .bad).all _ PX := h
    cases q : toD fr r with
    | none => rw [q] at h; exact h.elim
    | some p => rw [q] at h; exact h
  | exc c fs fr => exact h
  | bad => exact h))) Xz.mk
theorem all_toS {α : Type} {m : Rs α} {k : α → Fr → Sx} {K : SxP} (h : m.all (fun a fr => (k a fr).all K) K.exc) : (m.toS k).all K := by
  cases m <;> exact h
theorem all_frS {m : Rs RV} {k : D → Fr → Sx} {K : SxP} (h : (m.fr fun d fr => Rs.ok d fr).all (fun d fr => (k d fr).all K) K.exc) : (m.frS k).all K := @Rz _ _ (fun qz => @Hz.get _ _ (qz.bar : Hz _ (by
  clear qz
  cases m with
  | ok r fr =>
    show (match toD fr r with | some (d, fr') => k d fr' | none => .bad).all K
    have h : (match toD fr r with | some (d, fr') => Rs.ok d fr' | none => .bad).all _ K.exc := h
    cases q : toD fr r with
    | none => rw [q] at h; exact h.elim
    | some p => rw [q] at h; exact h
  | exc c fs fr => exact h
  | bad => exact h))) Xz.mk
/-- within a loop: n behind each turn, K behind the loop -/
def SxP.loop (K : SxP) (n : Fr → Prop) : SxP := { next := n, cont := n, brk := K.next, ret := K.ret, exc := K.exc }
def SxP.thn (K : SxP) (n : Fr → Prop) : SxP := { K with next := n }
theorem all_seq {r : Sx} {k : Fr → Sx} {K : SxP} (h : r.all (K.thn fun fr => (k fr).all K)) : (r.seq k).all K := by
  cases r <;> exact h
section
variable {T : Tab} {fr : Fr} {env : List Slot} {sto : List Cell} {P : RV → Fr → Prop} {PD : D → Fr → Prop} {PX : PXt} {K : SxP} {a b c : Tm} {i : Nat} {d : D} {xs : List D}
theorem AD_of (h : A T a fr (fun r fr1 => ∃ d fr2, toD fr1 r = some (d, fr2) ∧ PD d fr2) PX) : AD T a fr PD PX := @Rz _ _ (fun qz => @Hz.get _ _ (qz.bar : Hz _ (by
  clear qz
  unfold A at h
  unfold AD
  cases q : ev T a fr with
  | ok r fr1 =>
    rw [q] at h
    obtain ⟨d, fr2, e, h⟩ := h
    show (match toD fr1 r with | some (d, fr') => Rs.ok d fr' | none => .bad).all PD PX
    rw [e]; exact h
  | exc c fs fr1 => rw [q] at h; exact h
  | bad => rw [q] at h; exact h))) Xz.mk
theorem A_slot (e : fr.env[i]? = some (.val d)) (h : P (.out (.val d)) fr) : A T (.slot i) fr P PX := by
  unfold A ev; rw [e]; exact h
theorem A_own (e : fr.env[i]? = some (.own xs)) (h : P (.var i) fr) : A T (.slot i) fr P PX := by
  unfold A ev; rw [e]; exact h
theorem A_non (h : P (.out (.val .non)) fr) : A T .non fr P PX := h
theorem A_bl {k : Bool} (h : P (.out (.val (.bl k))) fr) : A T (.bl k) fr P PX := h
theorem A_int {k : Int} (h : P (.out (.val (.int k))) fr) : A T (.int k) fr P PX := h
theorem A_str {k : Str} (h : P (.out (.val (.str k))) fr) : A T (.str k) fr P PX := h
theorem A_bin {op : Op2} (h : A T a fr (fun x fr1 => A T b fr1 (fun y fr2 => ∃ d e o, look fr2.env (hold x) = some d ∧ look fr2.env (hold y) = some e ∧ opD op d e = some o ∧ P (.out o) fr2) PX) PX) : A T (.bin op a b) fr P PX := @Rz _ _ (fun qz => @Hz.get _ _ (qz.bar : Hz _ (by
  clear qz
  unfold A ev
  refine all_bind (Rs.all_imp h (fun x fr1 h => all_bind (Rs.all_imp h (fun y fr2 h => ?_) fun _ _ _ z => z)) fun _ _ _ z => z)
  obtain ⟨d, e, o, h1, h2, h3, h4⟩ := h
  rw [h1, h2]
  show (match opD op d e with | some o => Rs.ok (RV.out o) fr2 | none => .bad).all P PX
  rw [h3]; exact h4))) Xz.mk
theorem A_cmp {op : Cm} (h : A T a fr (fun x fr1 => A T b fr1 (fun y fr2 => ∃ d e k, look fr2.env (hold x) = some d ∧ look fr2.env (hold y) = some e ∧ cmpD op d e = some k ∧ P (.out (.val (.bl k))) fr2) PX) PX) : A T (.cmp op a b) fr P PX := @Rz _ _ (fun qz => @Hz.get _ _ (qz.bar : Hz _ (by
  clear qz
  unfold A ev
  refine all_bind (Rs.all_imp h (fun x fr1 h => all_bind (Rs.all_imp h (fun y fr2 h => ?_) fun _ _ _ z => z)) fun _ _ _ z => z)
  obtain ⟨d, e, o, h1, h2, h3, h4⟩ := h
  rw [h1, h2]
  show (match cmpD op d e with | some o => Rs.ok (RV.out (.val (.bl o))) fr2 | none => .bad).all P PX
  rw [h3]; exact h4))) Xz.mk
theorem A_neg (h : AD T a fr (fun d fr1 => ∃ n, d = .int n ∧ P (.out (.val (.int (-n)))) fr1) PX) : A T (.neg a) fr P PX := @Rz _ _ (fun qz => @Hz.get _ _ (qz.bar : Hz _ (by
  clear qz
  unfold A ev
  refine all_fr (Rs.all_imp h (fun d fr1 h => ?_) fun _ _ _ z => z)
  obtain ⟨n, rfl, h⟩ := h
  exact h))) Xz.mk
theorem A_not (h : AD T a fr (fun d fr1 => ∃ k, d = .bl k ∧ P (.out (.val (.bl (!k)))) fr1) PX) : A T (.not_ a) fr P PX := @Rz _ _ (fun qz => @Hz.get _ _ (qz.bar : Hz _ (by
  clear qz
  unfold A ev
  refine all_fr (Rs.all_imp h (fun d fr1 h => ?_) fun _ _ _ z => z)
  obtain ⟨n, rfl, h⟩ := h
  exact h))) Xz.mk
theorem A_and (h : AD T a fr (fun d fr1 => ∃ k, d = .bl k ∧ (k = true → A T b fr1 P PX) ∧ (k = false → P (.out (.val (.bl false))) fr1)) PX) : A T (.and_ a b) fr P PX := @Rz _ _ (fun qz => @Hz.get _ _ (qz.bar : Hz _ (by
  clear qz
  unfold A ev
  refine all_fr (Rs.all_imp h (fun d fr1 h => ?_) fun _ _ _ z => z)
  obtain ⟨n, rfl, h1, h2⟩ := h
  cases n with
  | true => exact h1 rfl
  | false => exact h2 rfl))) Xz.mk
theorem A_or (h : AD T a fr (fun d fr1 => ∃ k, d = .bl k ∧ (k = false → A T b fr1 P PX) ∧ (k = true → P (.out (.val (.bl true))) fr1)) PX) : A T (.or_ a b) fr P PX := @Rz _ _ (fun qz => @Hz.get _ _ (qz.bar : Hz _ (by
  clear qz
  unfold A ev
  refine all_fr (Rs.all_imp h (fun d fr1 h => ?_) fun _ _ _ z => z)
  obtain ⟨n, rfl, h1, h2⟩ := h
  cases n with
  | true => exact h2 rfl
  | false => exact h1 rfl))) Xz.mk
theorem A_ite (h : AD T c fr (fun d fr1 => ∃ k, d = .bl k ∧ (k = true → A T a fr1 P PX) ∧ (k = false → A T b fr1 P PX)) PX) : A T (.ite c a b) fr P PX := @Rz _ _ (fun qz => @Hz.get _ _ (qz.bar : Hz _ (by
  clear qz
  unfold A ev
  refine all_fr (Rs.all_imp h (fun d fr1 h => ?_) fun _ _ _ z => z)
  obtain ⟨n, rfl, h1, h2⟩ := h
  cases n with
  | true => exact h1 rfl
  | false => exact h2 rfl))) Xz.mk
theorem AS_nil {P : List D → Fr → Prop} (h : P [] fr) : AS T [] fr P PX := h
theorem AS_cons {ts : List Tm} {P : List D → Fr → Prop} (h : AD T a fr (fun d fr1 => AS T ts fr1 (fun ds fr2 => P (d :: ds) fr2) PX) PX) : AS T (a :: ts) fr P PX := @Rz _ _ (fun qz => @Hz.get _ _ (qz.bar : Hz _ (by
  clear qz
  unfold AS evs
  exact all_fr (Rs.all_imp h (fun d fr1 h => all_bind (Rs.all_imp h (fun ds fr2 h => h) fun _ _ _ z => z)) fun _ _ _ z => z)))) Xz.mk
theorem AP_nil {P : List RV → Fr → Prop} (h : P [] fr) : AP T [] fr P PX := h
theorem AP_cons {ts : List Tm} {P : List RV → Fr → Prop} (h : A T a fr (fun r fr1 => AP T ts fr1 (fun rs fr2 => P (hold r :: rs) fr2) PX) PX) : AP T (a :: ts) fr P PX := @Rz _ _ (fun qz => @Hz.get _ _ (qz.bar : Hz _ (by
  clear qz
  unfold AP evp
  exact all_bind (Rs.all_imp h (fun d fr1 h => all_bind (Rs.all_imp h (fun ds fr2 h => h) fun _ _ _ z => z)) fun _ _ _ z => z)))) Xz.mk
theorem AK_nil {P : List (Key × D) → Fr → Prop} (h : P [] fr) : AK T [] fr P PX := h
theorem AK_cons {k : Key} {ts : List (Key × Tm)} {P : List (Key × D) → Fr → Prop} (h : AD T a fr (fun d fr1 => AK T ts fr1 (fun ds fr2 => P ((k, d) :: ds) fr2) PX) PX) : AK T ((k, a) :: ts) fr P PX := @Rz _ _ (fun qz => @Hz.get _ _ (qz.bar : Hz _ (by
  clear qz
  unfold AK evk
  exact all_fr (Rs.all_imp h (fun d fr1 h => all_bind (Rs.all_imp h (fun ds fr2 h => h) fun _ _ _ z => z)) fun _ _ _ z => z)))) Xz.mk
theorem A_tup {ts : List Tm} (h : AS T ts fr (fun ds fr1 => ds.length ≤ sizeLine ∧ P (.out (.val (.tup ds))) fr1) PX) : A T (.tup ts) fr P PX := @Rz _ _ (fun qz => @Hz.get _ _ (qz.bar : Hz _ (by
  clear qz
  unfold A ev
  refine all_bind (Rs.all_imp h (fun ds fr1 h => ?_) fun _ _ _ z => z)
  rw [if_pos h.1]; exact h.2))) Xz.mk
theorem A_lst {ts : List Tm} (h : AS T ts fr (fun ds fr1 => ds.length ≤ sizeLine ∧ P (.out (.fresh ds)) fr1) PX) : A T (.lst ts) fr P PX := @Rz _ _ (fun qz => @Hz.get _ _ (qz.bar : Hz _ (by
  clear qz
  unfold A ev
  refine all_bind (Rs.all_imp h (fun ds fr1 h => ?_) fun _ _ _ z => z)
  rw [if_pos h.1]; exact h.2))) Xz.mk
theorem A_dict {ks : List (Key × Tm)} (h : AK T ks fr (fun ds fr1 => ds.length ≤ 15 ∧ P (.out (.val (.cell fr1.sto.length))) { fr1 with sto := fr1.sto ++ [.dict (kmerge [] ds)] }) PX) : A T (.dict ks) fr P PX := @Rz _ _ (fun qz => @Hz.get _ _ (qz.bar : Hz _ (by
  clear qz
  unfold A ev
  refine all_bind (Rs.all_imp h (fun ds fr1 h => ?_) fun _ _ _ z => z)
  rw [if_pos h.1]; exact h.2))) Xz.mk
theorem A_bi {k : Bi} {ts : List Tm} (h : AP T ts fr (fun rs fr1 => ∃ ds o, looks fr1.env rs = some ds ∧ biD k ds = some o ∧ P (.out o) fr1) PX) : A T (.bi k ts) fr P PX := @Rz _ _ (fun qz => @Hz.get _ _ (qz.bar : Hz _ (by
  clear qz
  unfold A ev
  refine all_bind (Rs.all_imp h (fun rs fr1 h => ?_) fun _ _ _ z => z)
  obtain ⟨ds, o, h1, h2, h3⟩ := h
  rw [h1]
  show (match biD k ds with | some o => Rs.ok (RV.out o) fr1 | none => .bad).all P PX
  rw [h2]; exact h3))) Xz.mk
theorem A_call {f : Nat} {ts : List Tm} (h : AS T ts fr (fun ds fr1 => (T.phi f ds fr1.sto).all (fun o s => P (.out o) { fr1 with sto := s }) (fun c fs s => PX c fs { fr1 with sto := s })) PX) : A T (.call f ts) fr P PX := @Rz _ _ (fun qz => @Hz.get _ _ (qz.bar : Hz _ (by
  clear qz
  unfold A ev
  refine all_bind (Rs.all_imp h (fun ds fr1 h => ?_) fun _ _ _ z => z)
  cases q : T.phi f ds fr1.sto with
  | ret o s => rw [q] at h; exact h
  | exc c fs s => rw [q] at h; exact h
  | bad => rw [q] at h; exact h))) Xz.mk
theorem A_meth {m : Nat} {ts : List Tm} (h : AD T a fr (fun d fr1 => ∃ c fs f, insD fr1.sto d = some (c, fs) ∧ fget fs m = none ∧ T.psi c m = some f ∧
    AS T ts fr1 (fun ds fr2 => (T.phi f (d :: ds) fr2.sto).all (fun o s => P (.out o) { fr2 with sto := s }) (fun c fs s => PX c fs { fr2 with sto := s })) PX) PX) : A T (.meth m a ts) fr P PX := @Rz _ _ (fun qz => @Hz.get _ _ (qz.bar : Hz _ (by
  clear qz
  unfold A ev
  refine all_fr (Rs.all_imp h (fun d fr1 h => ?_) fun _ _ _ z => z)
  obtain ⟨c, fs, f, h1, h2, h3, h4⟩ := h
  rw [h1]
  show (if (fget fs m).isNone = true then (match T.psi c m with | some f => (evs T ts fr1).bind fun ds fr2 => ofFx fr2 (T.phi f (d :: ds) fr2.sto) | none => .bad) else .bad : Rs RV).all P PX
  rw [if_pos (by rw [h2]; rfl), h3]
  refine all_bind (Rs.all_imp h4 (fun ds fr2 h => ?_) fun _ _ _ z => z)
  cases q : T.phi f (d :: ds) fr2.sto with
  | ret o s => rw [q] at h; exact h
  | exc c fs s => rw [q] at h; exact h
  | bad => rw [q] at h; exact h))) Xz.mk
theorem A_attr {f : Nat} (h : AD T a fr (fun d fr1 => ∃ c fs v, insD fr1.sto d = some (c, fs) ∧ T.fld c f = true ∧ fget fs f = some v ∧ P (.out (.val v)) fr1) PX) : A T (.attr a f) fr P PX := @Rz _ _ (fun qz => @Hz.get _ _ (qz.bar : Hz _ (by
  clear qz
  unfold A ev
  refine all_fr (Rs.all_imp h (fun d fr1 h => ?_) fun _ _ _ z => z)
  obtain ⟨c, fs, v, h1, h2, h3, h4⟩ := h
  rw [h1]
  show (if T.fld c f = true then (match fget fs f with | some v => Rs.ok (RV.out (.val v)) fr1 | none => .bad) else .bad : Rs RV).all P PX
  rw [if_pos h2, h3]; exact h4))) Xz.mk
theorem A_ix (h : A T a fr (fun x fr1 => AD T b fr1 (fun k fr2 => ∃ d v, look fr2.env (hold x) = some d ∧ ixD fr2.sto d k = some v ∧ P (.out (.val v)) fr2) PX) PX) : A T (.ix a b) fr P PX := @Rz _ _ (fun qz => @Hz.get _ _ (qz.bar : Hz _ (by
  clear qz
  unfold A ev
  refine all_bind (Rs.all_imp h (fun x fr1 h => all_fr (Rs.all_imp h (fun k fr2 h => ?_) fun _ _ _ z => z)) fun _ _ _ z => z)
  obtain ⟨d, v, h1, h2, h3⟩ := h
  rw [h1]
  show (match ixD fr2.sto d k with | some v => Rs.ok (RV.out (.val v)) fr2 | none => .bad).all P PX
  rw [h2]; exact h3))) Xz.mk
theorem AO_none {P : Option Int → Fr → Prop} (h : P none fr) : AO T none fr P PX := h
theorem AO_some {P : Option Int → Fr → Prop} (h : AD T a fr (fun d fr1 => ∃ n, d = .int n ∧ P (some n) fr1) PX) : AO T (some a) fr P PX := @Rz _ _ (fun qz => @Hz.get _ _ (qz.bar : Hz _ (by
  clear qz
  unfold AO evo
  refine all_fr (Rs.all_imp h (fun d fr1 h => ?_) fun _ _ _ z => z)
  obtain ⟨n, rfl, h⟩ := h
  exact h))) Xz.mk
theorem A_slice {lo hi : Option Tm} (h : A T a fr (fun x fr1 => AO T lo fr1 (fun l fr2 => AO T hi fr2 (fun u fr3 => ∃ d, look fr3.env (hold x) = some d ∧
    ((∃ xs, d = .lst xs ∧ P (.out (.fresh (cutL xs l u))) fr3) ∨ (∃ xs, d = .rol xs ∧ P (.out (.fresh (cutL xs l u))) fr3) ∨ (∃ xs, d = .tup xs ∧ P (.out (.val (.tup (cutL xs l u)))) fr3))) PX) PX) PX) : A T (.slice a lo hi) fr P PX := @Rz _ _ (fun qz => @Hz.get _ _ (qz.bar : Hz _ (by
  clear qz
  unfold A ev
  refine all_bind (Rs.all_imp h (fun x fr1 h => all_bind (Rs.all_imp h (fun l fr2 h => all_bind (Rs.all_imp h (fun u fr3 h => ?_) fun _ _ _ z => z)) fun _ _ _ z => z)) fun _ _ _ z => z)
  obtain ⟨d, h1, h⟩ := h
  rw [h1]
  rcases h with ⟨xs, rfl, h⟩ | ⟨xs, rfl, h⟩ | ⟨xs, rfl, h⟩ <;> exact h))) Xz.mk
/-! iterators -/
theorem AI_seq {P : List D → Fr → Prop} (h : AD T a fr (fun d fr1 => ∃ xs, seqOf d = some xs ∧ P xs fr1) PX) : AI T (.seq a) fr P PX := @Rz _ _ (fun qz => @Hz.get _ _ (qz.bar : Hz _ (by
  clear qz
  unfold AI evi
  refine all_fr (Rs.all_imp h (fun d fr1 h => ?_) fun _ _ _ z => z)
  obtain ⟨xs, e, h⟩ := h
  rw [e]; exact h))) Xz.mk
theorem AI_range1 {P : List D → Fr → Prop} (h : AD T a fr (fun d fr1 => ∃ n, d = .int n ∧ (n < 2 ^ 62 ∧ -(2 ^ 62) < n) ∧ P (rangeD 0 n.toNat) fr1) PX) : AI T (.range1 a) fr P PX := @Rz _ _ (fun qz => @Hz.get _ _ (qz.bar : Hz _ (by
  clear qz
  unfold AI evi
  refine all_fr (Rs.all_imp h (fun d fr1 h => ?_) fun _ _ _ z => z)
  obtain ⟨n, rfl, h1, h⟩ := h
  dsimp only; rw [if_pos h1]; exact h))) Xz.mk
/-! statements -/
theorem XS_nil (h : K.next fr) : XS T [] fr K := h
theorem XS_cons {s : Stm} {ss : List Stm} (h : X T s fr (K.thn fun fr1 => XS T ss fr1 K)) : XS T (s :: ss) fr K := @Rz _ _ (fun qz => @Hz.get _ _ (qz.bar : Hz _ (by
  clear qz
  unfold XS exs
  exact all_seq h))) Xz.mk
theorem N_thn {n : Fr → Prop} (h : n fr) : (K.thn n).next fr := h
theorem R_thn {n : Fr → Prop} {o : Out} (h : K.ret o fr) : (K.thn n).ret o fr := h
theorem N_loop {n : Fr → Prop} (h : n fr) : (K.loop n).next fr := h
theorem R_loop {n : Fr → Prop} {o : Out} (h : K.ret o fr) : (K.loop n).ret o fr := h
theorem X_expr (h : A T a fr (fun _ fr1 => K.next fr1) K.exc) : X T (.expr a) fr K := @Rz _ _ (fun qz => @Hz.get _ _ (qz.bar : Hz _ (by
  clear qz
  unfold X ex
  exact all_toS h))) Xz.mk
theorem X_asg {tg : Tg} (h : A T a fr (fun r fr1 => (asgR tg r fr1).all K) K.exc) : X T (.asg tg a) fr K := @Rz _ _ (fun qz => @Hz.get _ _ (qz.bar : Hz _ (by
  clear qz
  unfold X ex
  exact all_toS h))) Xz.mk
theorem X_setk {o k v : Tm} (hq : ownSlot o fr.env = none) (h : AD T v fr (fun dv fr1 => AD T o fr1 (fun d fr2 => AD T k fr2 (fun dk fr3 => ∃ n kk kvs, d = .cell n ∧ keyOf dk = some kk ∧ fr3.sto[n]? = some (.dict kvs) ∧ kvs.length < 1000 ∧
    K.next { fr3 with sto := fr3.sto.set n (.dict (kput kvs kk dv)) }) K.exc) K.exc) K.exc) : X T (.setk o k v) fr K := @Rz _ _ (fun qz => @Hz.get _ _ (qz.bar : Hz _ (by
  clear qz
  unfold X ex
  rw [hq]
  refine all_frS (Rs.all_imp h (fun dv fr1 h => all_frS (Rs.all_imp h (fun d fr2 h => all_frS (Rs.all_imp h (fun dk fr3 h => ?_) fun _ _ _ z => z)) fun _ _ _ z => z)) fun _ _ _ z => z)
  obtain ⟨n, kk, kvs, rfl, h1, h2, h3, h4⟩ := h
  rw [h1]
  dsimp only
  rw [h2]
  dsimp only
  rw [if_pos h3]; exact h4))) Xz.mk
theorem X_append (e : fr.env[i]? = some (.own xs)) (h : AD T a fr (fun d fr1 => ∃ ys, fr1.env[i]? = some (.own ys) ∧ ys.length < sizeLine ∧ K.next (setE fr1 i (.own (ys ++ [d])))) K.exc) : X T (.append i a) fr K := @Rz _ _ (fun qz => @Hz.get _ _ (qz.bar : Hz _ (by
  clear qz
  unfold X ex
  rw [e]
  refine all_frS (Rs.all_imp h (fun d fr1 h => ?_) fun _ _ _ z => z)
  obtain ⟨ys, h1, h2, h⟩ := h
  rw [h1]
  dsimp only
  rw [if_pos h2]; exact h))) Xz.mk
theorem X_ite {A' B' : List Stm} (h : AD T c fr (fun d fr1 => ∃ k, d = .bl k ∧ (k = true → XS T A' fr1 K) ∧ (k = false → XS T B' fr1 K)) K.exc) : X T (.ite c A' B') fr K := @Rz _ _ (fun qz => @Hz.get _ _ (qz.bar : Hz _ (by
  clear qz
  unfold X ex
  refine all_frS (Rs.all_imp h (fun d fr1 h => ?_) fun _ _ _ z => z)
  obtain ⟨n, rfl, h1, h2⟩ := h
  cases n with
  | true => exact h1 rfl
  | false => exact h2 rfl))) Xz.mk
theorem X_ret (h : A T a fr (fun r fr1 => match r with
    | .out o => K.ret o fr1
    | .var i => ∃ xs, fr1.env[i]? = some (.own xs) ∧ K.ret (.fresh xs) (setE fr1 i .un)) K.exc) : X T (.ret a) fr K := @Rz _ _ (fun qz => @Hz.get _ _ (qz.bar : Hz _ (by
  clear qz
  unfold X ex
  refine all_toS (Rs.all_imp h (fun r fr1 h => ?_) fun _ _ _ z => z)
  cases r with
  | out o => exact h
  | var i =>
    obtain ⟨xs, e, h⟩ := h
    dsimp only; rw [e]; exact h))) Xz.mk
theorem X_for {tg : Tg} {it : Iter} {B : List Stm} (h : AI T it fr (fun xs fr1 => (forGo (bindT tg) (fun fr2 => exs T B fr2) xs fr1).all K) K.exc) : X T (.for_ tg it B) fr K := @Rz _ _ (fun qz => @Hz.get _ _ (qz.bar : Hz _ (by
  clear qz
  unfold X ex
  exact all_toS h))) Xz.mk
theorem X_par {is : List Nat} {ts : List Tm} (h : (cutX fr.env.length (parGo T fr.env.length ts fr)).all (fun rs fr1 => ∃ fr2, parSet fr.env.length is rs fr1 = some fr2 ∧ K.next (cutE fr.env.length fr2)) K.exc) : X T (.par is ts) fr K := @Rz _ _ (fun qz => @Hz.get _ _ (qz.bar : Hz _ (by
  clear qz
  unfold X ex
  refine all_toS (Rs.all_imp h (fun r fr1 h => ?_) fun _ _ _ z => z)
  obtain ⟨fr2, e, h⟩ := h
  rw [e]; exact h))) Xz.mk
/-- a for by what holds ahead of each turn -/
theorem for_inv {tg : D → Fr → Option Fr} {B : Fr → Sx} {xs : List D} (I : Nat → Fr → Prop) (h0 : I 0 fr)
    (hs : ∀ i x fr, xs[i]? = some x → I i fr → ∃ fr1, tg x fr = some fr1 ∧ (B fr1).all (K.loop (I (i + 1))))
    (hd : ∀ fr, I xs.length fr → K.next fr) : (forGo tg B xs fr).all K := @Rz _ _ (fun qz => @Hz.get _ _ (qz.bar : Hz _ (by
  clear qz
  have key : ∀ (n i : Nat) (fr : Fr), n = xs.length - i → i ≤ xs.length → I i fr → (forGo tg B (xs.drop i) fr).all K := by
    intro n
    induction n with
    | zero =>
      intro i fr hn hi h
      have : i = xs.length := by omega
      subst this
      rw [List.drop_length]
      exact hd fr h
    | succ n ih =>
      intro i fr hn hi h
      have hlt : i < xs.length := by omega
      rw [List.drop_eq_getElem_cons hlt]
      obtain ⟨fr1, e, hb⟩ := hs i xs[i] fr (List.getElem?_eq_getElem hlt) h
      unfold forGo
      rw [e]
      dsimp only
      cases q : B fr1 with
      | next fr2 => rw [q] at hb; exact ih (i + 1) fr2 (by omega) (by omega) hb
      | cont fr2 => rw [q] at hb; exact ih (i + 1) fr2 (by omega) (by omega) hb
      | brk fr2 => rw [q] at hb; exact hb
      | ret o fr2 => rw [q] at hb; exact hb
      | exc c fs fr2 => rw [q] at hb; exact hb
      | bad => rw [q] at hb; exact hb
  have := key xs.length 0 fr rfl (Nat.zero_le _) h0
  simpa using this))) Xz.mk
/-- the rule for a for -/
theorem X_forI {tg : Tg} {it : Iter} {B : List Stm} (h : AI T it fr (fun xs fr1 => ∃ I : Nat → Fr → Prop, I 0 fr1 ∧
    (∀ i x fr, xs[i]? = some x → I i fr → ∃ fr2, bindT tg x fr = some fr2 ∧ XS T B fr2 (K.loop (I (i + 1)))) ∧ ∀ fr, I xs.length fr → K.next fr) K.exc) : X T (.for_ tg it B) fr K :=
  X_for (Rs.all_imp h (fun xs fr1 ⟨I, h0, hs, hd⟩ => for_inv I h0 hs hd) fun _ _ _ z => z)
end
/-- a def: how many parameters, how many slots, its body; the numbers of its slots at the start -/
@[irreducible] noncomputable def fx (T : Tab) (np n : Nat) (body : List Stm) : Fn := fun ds sto => if ds.length = np then run T ⟨n, body⟩ ds sto else .bad
theorem fx_len {T : Tab} {np n : Nat} {body : List Stm} {ds : List D} {sto : List Cell} (h : fx T np n body ds sto ≠ .bad) : ds.length = np ∧ run T ⟨n, body⟩ ds sto = fx T np n body ds sto := @Rz _ _ (fun qz => @Hz.get _ _ (qz.bar : Hz _ (by
  clear qz
  unfold fx at h ⊢
  by_cases q : ds.length = np
  · exact ⟨q, by rw [if_pos q]⟩
  · rw [if_neg q] at h; exact absurd rfl h))) Xz.mk
def fxK (P : Out → List Cell → Prop) (PX : Nat → List D → List Cell → Prop) : SxP where
  next := fun fr => P (.val .non) fr.sto
  ret := fun o fr => P o fr.sto
  brk := fun _ => False
  cont := fun _ => False
  exc := fun c fs fr => PX c fs fr.sto
theorem R_fx {P : Out → List Cell → Prop} {PX : Nat → List D → List Cell → Prop} {o : Out} {fr : Fr} (h : P o fr.sto) : (fxK P PX).ret o fr := h
theorem N_fx {P : Out → List Cell → Prop} {PX : Nat → List D → List Cell → Prop} {fr : Fr} (h : P (.val .non) fr.sto) : (fxK P PX).next fr := h
/-- a def's run, its slots as they stand at the start -/
theorem fx_all {T : Tab} {np n : Nat} {body : List Stm} {ds : List D} {sto : List Cell} {env : List Slot} {P : Out → List Cell → Prop} {PX : Nat → List D → List Cell → Prop} (hl : ds.length = np) (he : ds.map Slot.val ++ List.replicate (n - ds.length) .un = env)
    (h : XS T body ⟨env, sto⟩ (fxK P PX)) : (fx T np n body ds sto).all P PX := @Rz _ _ (fun qz => @Hz.get _ _ (qz.bar : Hz _ (by
  clear qz
  unfold fx
  rw [if_pos hl]
  unfold run
  dsimp only
  rw [he]
  unfold XS at h
  cases q : exs T body ⟨env, sto⟩ <;> (rw [q] at h; exact h)))) Xz.mk
theorem fx_eq {r : Fx} {o : Out} {s : List Cell} (h : r.all (fun o' s' => o' = o ∧ s' = s) (fun _ _ _ => False)) : r = .ret o s := @Rz _ _ (fun qz => @Hz.get _ _ (qz.bar : Hz _ (by
  clear qz
  cases r with
  | ret o' s' => obtain ⟨rfl, rfl⟩ := h; rfl
  | exc c fs s' => exact h.elim
  | bad => exact h.elim))) Xz.mk
theorem all_of_eq {r : Fx} {o : Out} {s : List Cell} {P : Out → List Cell → Prop} {PX : Nat → List D → List Cell → Prop} (e : r = .ret o s) (h : P o s) : r.all P PX := by rw [e]; exact h
theorem fx_imp {r : Fx} {P P' : Out → List Cell → Prop} {PX PX' : Nat → List D → List Cell → Prop} (h : r.all P PX) (h1 : ∀ o s, P o s → P' o s) (h2 : ∀ c fs s, PX c fs s → PX' c fs s) : r.all P' PX' := @Rz _ _ (fun qz => @Hz.get _ _ (qz.bar : Hz _ (by
  clear qz
  cases r with
  | ret o s => exact h1 _ _ h
  | exc c fs s => exact h2 _ _ _ h
  | bad => exact h))) Xz.mk
end Ag
namespace Ag
open PySem L2
/-! ### values that are no new list -/
def AV (T : Tab) (t : Tm) (fr : Fr) (P : D → Fr → Prop) (PX : PXt) : Prop := A T t fr (fun r fr1 => ∃ d, r = .out (.val d) ∧ P d fr1) PX
section
variable {T : Tab} {fr : Fr} {env : List Slot} {sto : List Cell} {P : RV → Fr → Prop} {PD : D → Fr → Prop} {PX : PXt} {K : SxP} {a b c : Tm} {i : Nat} {d : D} {xs : List D}
theorem A_imp {P P' : RV → Fr → Prop} (h : A T a fr P PX) (h1 : ∀ r fr, P r fr → P' r fr) : A T a fr P' PX := Rs.all_imp h (fun r fr h => h1 r fr h) fun _ _ _ z => z
theorem A_V (h : AV T a fr (fun d fr1 => P (.out (.val d)) fr1) PX) : A T a fr P PX := A_imp h fun r fr1 z => by
  obtain ⟨d, rfl, z⟩ := z; exact z
theorem AD_V (h : AV T a fr PD PX) : AD T a fr PD PX := AD_of (A_imp h fun r fr1 z => by
  obtain ⟨d, rfl, z⟩ := z; exact ⟨d, fr1, rfl, z⟩)
theorem V_slot (e : fr.env[i]? = some (.val d)) (h : PD d fr) : AV T (.slot i) fr PD PX := A_slot e ⟨_, rfl, h⟩
theorem V_int {k : Int} (h : PD (.int k) fr) : AV T (.int k) fr PD PX := A_int ⟨_, rfl, h⟩
theorem V_str {k : Str} (h : PD (.str k) fr) : AV T (.str k) fr PD PX := A_str ⟨_, rfl, h⟩
theorem V_bl {k : Bool} (h : PD (.bl k) fr) : AV T (.bl k) fr PD PX := A_bl ⟨_, rfl, h⟩
theorem V_non (h : PD .non fr) : AV T .non fr PD PX := A_non ⟨_, rfl, h⟩
theorem V_bin {op : Op2} (h : AV T a fr (fun x fr1 => AV T b fr1 (fun y fr2 => ∃ d, opD op x y = some (.val d) ∧ PD d fr2) PX) PX) : AV T (.bin op a b) fr PD PX :=
  A_bin (A_V (A_imp h fun r fr1 z => by
    obtain ⟨x, rfl, z⟩ := z
    refine ⟨x, rfl, ?_⟩
    refine A_V (A_imp z fun r fr2 z => ?_)
    obtain ⟨y, rfl, z⟩ := z
    obtain ⟨d, h1, h2⟩ := z
    exact ⟨y, rfl, x, y, _, rfl, rfl, h1, d, rfl, h2⟩))
theorem V_cmp {op : Cm} (h : AV T a fr (fun x fr1 => AV T b fr1 (fun y fr2 => ∃ k, cmpD op x y = some k ∧ PD (.bl k) fr2) PX) PX) : AV T (.cmp op a b) fr PD PX :=
  A_cmp (A_V (A_imp h fun r fr1 z => by
    obtain ⟨x, rfl, z⟩ := z
    refine ⟨x, rfl, ?_⟩
    refine A_V (A_imp z fun r fr2 z => ?_)
    obtain ⟨y, rfl, z⟩ := z
    obtain ⟨k, h1, h2⟩ := z
    exact ⟨y, rfl, x, y, k, rfl, rfl, h1, _, rfl, h2⟩))
theorem V_neg (h : AV T a fr (fun d fr1 => ∃ n, d = .int n ∧ PD (.int (-n)) fr1) PX) : AV T (.neg a) fr PD PX := A_neg (AD_V (A_imp h fun r fr1 z => by
  obtain ⟨_, rfl, n, rfl, z⟩ := z; exact ⟨_, rfl, n, rfl, _, rfl, z⟩))
theorem V_not (h : AV T a fr (fun d fr1 => ∃ n, d = .bl n ∧ PD (.bl (!n)) fr1) PX) : AV T (.not_ a) fr PD PX := A_not (AD_V (A_imp h fun r fr1 z => by
  obtain ⟨_, rfl, n, rfl, z⟩ := z; exact ⟨_, rfl, n, rfl, _, rfl, z⟩))
theorem V_and (h : AV T a fr (fun d fr1 => ∃ k, d = .bl k ∧ (k = true → AV T b fr1 PD PX) ∧ (k = false → PD (.bl false) fr1)) PX) : AV T (.and_ a b) fr PD PX := A_and (AD_V (A_imp h fun r fr1 z => by
  obtain ⟨_, rfl, n, rfl, z1, z2⟩ := z; exact ⟨_, rfl, n, rfl, z1, fun e => ⟨_, rfl, z2 e⟩⟩))
theorem V_or (h : AV T a fr (fun d fr1 => ∃ k, d = .bl k ∧ (k = false → AV T b fr1 PD PX) ∧ (k = true → PD (.bl true) fr1)) PX) : AV T (.or_ a b) fr PD PX := A_or (AD_V (A_imp h fun r fr1 z => by
  obtain ⟨_, rfl, n, rfl, z1, z2⟩ := z; exact ⟨_, rfl, n, rfl, z1, fun e => ⟨_, rfl, z2 e⟩⟩))
theorem V_ite (h : AV T c fr (fun d fr1 => ∃ k, d = .bl k ∧ (k = true → AV T a fr1 PD PX) ∧ (k = false → AV T b fr1 PD PX)) PX) : AV T (.ite c a b) fr PD PX := A_ite (AD_V (A_imp h fun r fr1 z => by
  obtain ⟨_, rfl, n, rfl, z1, z2⟩ := z; exact ⟨_, rfl, n, rfl, z1, z2⟩))
theorem A_iteV (h : AV T c fr (fun d fr1 => ∃ k, d = .bl k ∧ (k = true → A T a fr1 P PX) ∧ (k = false → A T b fr1 P PX)) PX) : A T (.ite c a b) fr P PX := A_ite (AD_V (A_imp h fun r fr1 z => by
  obtain ⟨_, rfl, n, rfl, z1, z2⟩ := z; exact ⟨_, rfl, n, rfl, z1, z2⟩))
theorem V_call {f : Nat} {ts : List Tm} (h : AS T ts fr (fun ds fr1 => (T.phi f ds fr1.sto).all (fun o s => ∃ d, o = .val d ∧ PD d { fr1 with sto := s }) (fun c fs s => PX c fs { fr1 with sto := s })) PX) : AV T (.call f ts) fr PD PX := A_call (Rs.all_imp h (fun ds fr1 z => fx_imp z (fun o s z => by
  obtain ⟨d, rfl, z⟩ := z; exact ⟨d, rfl, z⟩) fun _ _ _ z => z) fun _ _ _ z => z)
theorem V_ix (h : AV T a fr (fun x fr1 => AV T b fr1 (fun k fr2 => ∃ v, ixD fr2.sto x k = some v ∧ PD v fr2) PX) PX) : AV T (.ix a b) fr PD PX := A_ix (A_V (A_imp h fun r fr1 z => by
    obtain ⟨x, rfl, z⟩ := z
    refine ⟨x, rfl, ?_⟩
    refine AD_V (A_imp z fun r fr2 z => ?_)
    obtain ⟨y, rfl, v, h1, h2⟩ := z
    exact ⟨y, rfl, x, v, rfl, h1, v, rfl, h2⟩))
theorem V_attr {f : Nat} (h : AV T a fr (fun d fr1 => ∃ c fs v, insD fr1.sto d = some (c, fs) ∧ T.fld c f = true ∧ fget fs f = some v ∧ PD v fr1) PX) : AV T (.attr a f) fr PD PX := A_attr (AD_V (A_imp h fun r fr1 z => by
  obtain ⟨d, rfl, c, fs, v, h1, h2, h3, h4⟩ := z
  exact ⟨d, rfl, c, fs, v, h1, h2, h3, v, rfl, h4⟩))
theorem V_tup {ts : List Tm} (h : AS T ts fr (fun ds fr1 => ds.length ≤ sizeLine ∧ PD (.tup ds) fr1) PX) : AV T (.tup ts) fr PD PX := A_tup (Rs.all_imp h (fun ds fr1 z => ⟨z.1, _, rfl, z.2⟩) fun _ _ _ z => z)
theorem V_dict {ks : List (Key × Tm)} (h : AK T ks fr (fun ds fr1 => ds.length ≤ 15 ∧ PD (.cell fr1.sto.length) { fr1 with sto := fr1.sto ++ [.dict (kmerge [] ds)] }) PX) : AV T (.dict ks) fr PD PX := A_dict (Rs.all_imp h (fun ds fr1 z => ⟨z.1, _, rfl, z.2⟩) fun _ _ _ z => z)
theorem V_meth {m : Nat} {ts : List Tm} (h : AV T a fr (fun d fr1 => ∃ c fs f, insD fr1.sto d = some (c, fs) ∧ fget fs m = none ∧ T.psi c m = some f ∧
    AS T ts fr1 (fun ds fr2 => (T.phi f (d :: ds) fr2.sto).all (fun o s => ∃ d, o = .val d ∧ PD d { fr2 with sto := s }) (fun c fs s => PX c fs { fr2 with sto := s })) PX) PX) : AV T (.meth m a ts) fr PD PX := A_meth (AD_V (A_imp h fun r fr1 z => by
  obtain ⟨d, rfl, c, fs, f, h1, h2, h3, h4⟩ := z
  refine ⟨d, rfl, c, fs, f, h1, h2, h3, Rs.all_imp h4 (fun ds fr2 z => fx_imp z (fun o s z => ?_) fun _ _ _ z => z) fun _ _ _ z => z⟩
  obtain ⟨d, rfl, z⟩ := z
  exact ⟨d, rfl, z⟩))
/-- built-ins -/
theorem AP_consA {ts : List Tm} {P : List RV → Fr → Prop} (h : AV T a fr (fun d fr1 => AP T ts fr1 (fun rs fr2 => P (.out (.val d) :: rs) fr2) PX) PX) : AP T (a :: ts) fr P PX := AP_cons (A_V h)
theorem V_bi {k : Bi} {ts : List Tm} (h : AP T ts fr (fun rs fr1 => ∃ ds d, looks fr1.env rs = some ds ∧ biD k ds = some (.val d) ∧ PD d fr1) PX) : AV T (.bi k ts) fr PD PX := A_bi (Rs.all_imp h (fun rs fr1 z => by
  obtain ⟨ds, d, h1, h2, h3⟩ := z
  exact ⟨ds, _, h1, h2, d, rfl, h3⟩) fun _ _ _ z => z)
theorem AS_consV {ts : List Tm} {P : List D → Fr → Prop} (h : AV T a fr (fun d fr1 => AS T ts fr1 (fun ds fr2 => P (d :: ds) fr2) PX) PX) : AS T (a :: ts) fr P PX := AS_cons (AD_V h)
theorem AO_someV {P : Option Int → Fr → Prop} (h : AV T a fr (fun d fr1 => ∃ n, d = .int n ∧ P (some n) fr1) PX) : AO T (some a) fr P PX := AO_some (AD_V h)
/-- statements -/
theorem X_asgV (h : AV T a fr (fun d fr1 => K.next (setE fr1 i (.val d))) K.exc) : X T (.asg (.slot i) a) fr K := X_asg (A_imp h fun r fr1 z => by
  obtain ⟨d, rfl, z⟩ := z; exact z)
theorem X_asgF (h : A T a fr (fun r fr1 => ∃ xs, r = .out (.fresh xs) ∧ K.next (setE fr1 i (.own xs))) K.exc) : X T (.asg (.slot i) a) fr K := X_asg (A_imp h fun r fr1 z => by
  obtain ⟨d, rfl, z⟩ := z; exact z)
theorem X_iteV {A' B' : List Stm} (h : AV T c fr (fun d fr1 => ∃ k, d = .bl k ∧ (k = true → XS T A' fr1 K) ∧ (k = false → XS T B' fr1 K)) K.exc) : X T (.ite c A' B') fr K := X_ite (AD_V h)
theorem X_retV (h : AV T a fr (fun d fr1 => K.ret (.val d) fr1) K.exc) : X T (.ret a) fr K := X_ret (A_imp h fun r fr1 z => by
  obtain ⟨d, rfl, z⟩ := z; exact z)
theorem X_retF (h : A T a fr (fun r fr1 => ∃ xs, r = .out (.fresh xs) ∧ K.ret (.fresh xs) fr1) K.exc) : X T (.ret a) fr K := X_ret (A_imp h fun r fr1 z => by
  obtain ⟨d, rfl, z⟩ := z; exact z)
theorem X_setkV {o k v : Tm} (hq : ownSlot o fr.env = none) (h : AV T v fr (fun dv fr1 => AV T o fr1 (fun d fr2 => AV T k fr2 (fun dk fr3 => ∃ n kk kvs, d = .cell n ∧ keyOf dk = some kk ∧ fr3.sto[n]? = some (.dict kvs) ∧ kvs.length < 1000 ∧
    K.next { fr3 with sto := fr3.sto.set n (.dict (kput kvs kk dv)) }) K.exc) K.exc) K.exc) : X T (.setk o k v) fr K := X_setk hq (AD_V (A_imp h fun r fr1 z => by
  obtain ⟨d, rfl, z⟩ := z
  refine ⟨d, rfl, AD_V (A_imp z fun r fr2 z => ?_)⟩
  obtain ⟨d2, rfl, z⟩ := z
  exact ⟨d2, rfl, AD_V z⟩))
theorem AI_range1V {P : List D → Fr → Prop} (h : AV T a fr (fun d fr1 => ∃ n, d = .int n ∧ (n < 2 ^ 62 ∧ -(2 ^ 62) < n) ∧ P (rangeD 0 n.toNat) fr1) PX) : AI T (.range1 a) fr P PX := AI_range1 (AD_V h)
/-- operators by values -/
theorem O_add {x y : Int} {P : D → Prop} (h : P (.int (x + y))) : ∃ d, opD .add (.int x) (.int y) = some (.val d) ∧ P d := ⟨_, rfl, h⟩
theorem O_sub {x y : Int} {P : D → Prop} (h : P (.int (x - y))) : ∃ d, opD .sub (.int x) (.int y) = some (.val d) ∧ P d := ⟨_, rfl, h⟩
theorem O_mul {x y : Int} {P : D → Prop} (e : mulOk x y = true) (h : P (.int (x * y))) : ∃ d, opD .mul (.int x) (.int y) = some (.val d) ∧ P d := ⟨_, by show (if mulOk x y = true then _ else _) = _; rw [if_pos e], h⟩
theorem O_fdiv {x y : Int} {P : D → Prop} (e : divOk y = true) (h : P (.int (x / y))) : ∃ d, opD .fdiv (.int x) (.int y) = some (.val d) ∧ P d := ⟨_, by show (if divOk y = true then _ else _) = _; rw [if_pos e], h⟩
theorem O_mod {x y : Int} {P : D → Prop} (e : 0 < y) (h : P (.int (x % y))) : ∃ d, opD .mod (.int x) (.int y) = some (.val d) ∧ P d := ⟨_, by show (if 0 < y then _ else _) = _; rw [if_pos e], h⟩
theorem O_pow {x y : Int} {P : D → Prop} (e : powOk x y = true) (h : P (.int (x ^ y.toNat))) : ∃ d, opD .pow (.int x) (.int y) = some (.val d) ∧ P d := ⟨_, by show (if powOk x y = true then _ else _) = _; rw [if_pos e], h⟩
theorem C_eqI {x y : Int} {P : Bool → Prop} (h : P (decide (x = y))) : ∃ k, cmpD .eq (.int x) (.int y) = some k ∧ P k := ⟨_, rfl, h⟩
theorem C_neI {x y : Int} {P : Bool → Prop} (h : P (!decide (x = y))) : ∃ k, cmpD .ne (.int x) (.int y) = some k ∧ P k := ⟨_, rfl, h⟩
end
section
variable {T : Tab} {fr : Fr} {env : List Slot} {sto : List Cell} {P : RV → Fr → Prop} {PD : D → Fr → Prop} {PX : PXt} {K : SxP} {a b c : Tm} {i : Nat} {d : D} {xs : List D}
/-! ### a value handed on: a new list becomes one that does not change any more -/
inductive IsD : Out → D → Prop where
  | val (d : D) : IsD (.val d) d
  | fresh (xs : List D) : IsD (.fresh xs) (.lst xs)
inductive IsS : Out → Slot → Prop where
  | val (d : D) : IsS (.val d) (.val d)
  | fresh (xs : List D) : IsS (.fresh xs) (.own xs)
theorem isD_val {P : D → Prop} (h : P d) : ∃ e, IsD (.val d) e ∧ P e := ⟨d, .val d, h⟩
theorem isD_fresh {P : D → Prop} (h : P (.lst xs)) : ∃ e, IsD (.fresh xs) e ∧ P e := ⟨_, .fresh xs, h⟩
theorem isS_val {P : Slot → Prop} (h : P (.val d)) : ∃ e, IsS (.val d) e ∧ P e := ⟨_, .val d, h⟩
theorem isS_fresh {P : Slot → Prop} (h : P (.own xs)) : ∃ e, IsS (.fresh xs) e ∧ P e := ⟨_, .fresh xs, h⟩
theorem isV {P : D → Prop} (h : P d) : ∃ e, Out.val d = .val e ∧ P e := ⟨_, rfl, h⟩
theorem D_call {f : Nat} {ts : List Tm} (h : AS T ts fr (fun ds fr1 => (T.phi f ds fr1.sto).all (fun o s => ∃ d, IsD o d ∧ PD d { fr1 with sto := s }) (fun c fs s => PX c fs { fr1 with sto := s })) PX) : AD T (.call f ts) fr PD PX :=
  AD_of (A_call (Rs.all_imp h (fun ds fr1 z => fx_imp z (fun o s z => by
    obtain ⟨d, e, z⟩ := z
    cases e <;> exact ⟨_, _, rfl, z⟩) fun _ _ _ z => z) fun _ _ _ z => z))
theorem D_lst {ts : List Tm} (h : AS T ts fr (fun ds fr1 => ds.length ≤ sizeLine ∧ PD (.lst ds) fr1) PX) : AD T (.lst ts) fr PD PX :=
  AD_of (A_lst (Rs.all_imp h (fun ds fr1 z => ⟨z.1, _, _, rfl, z.2⟩) fun _ _ _ z => z))
theorem D_own (e : fr.env[i]? = some (.own xs)) (h : PD (.lst xs) { fr with env := fr.env.set i (.val (.lst xs)) }) : AD T (.slot i) fr PD PX :=
  AD_of (A_own e ⟨_, _, by show (match fr.env[i]? with | some (.own xs) => some (D.lst xs, { fr with env := fr.env.set i (.val (.lst xs)) }) | some (.val d) => some (d, fr) | _ => none) = _; rw [e], h⟩)
theorem D_F (h : A T a fr (fun r fr1 => ∃ xs, r = .out (.fresh xs) ∧ PD (.lst xs) fr1) PX) : AD T a fr PD PX := AD_of (A_imp h fun r fr1 z => by
  obtain ⟨xs, rfl, z⟩ := z; exact ⟨_, _, rfl, z⟩)
theorem A_lstF {ts : List Tm} {Q : List D → Fr → Prop} (h : AS T ts fr (fun ds fr1 => ds.length ≤ sizeLine ∧ Q ds fr1) PX) : A T (.lst ts) fr (fun r fr1 => ∃ xs, r = .out (.fresh xs) ∧ Q xs fr1) PX :=
  A_lst (Rs.all_imp h (fun ds fr1 z => ⟨z.1, _, rfl, z.2⟩) fun _ _ _ z => z)
theorem X_asgC {f : Nat} {ts : List Tm} (h : AS T ts fr (fun ds fr1 => (T.phi f ds fr1.sto).all (fun o s => ∃ e, IsS o e ∧ K.next (setE { fr1 with sto := s } i e)) (fun c fs s => K.exc c fs { fr1 with sto := s })) K.exc) : X T (.asg (.slot i) (.call f ts)) fr K :=
  X_asg (A_call (Rs.all_imp h (fun ds fr1 z => fx_imp z (fun o s z => by
    obtain ⟨d, e, z⟩ := z
    cases e <;> exact z) fun _ _ _ z => z) fun _ _ _ z => z))
theorem X_retC {f : Nat} {ts : List Tm} (h : AS T ts fr (fun ds fr1 => (T.phi f ds fr1.sto).all (fun o s => K.ret o { fr1 with sto := s }) (fun c fs s => K.exc c fs { fr1 with sto := s })) K.exc) : X T (.ret (.call f ts)) fr K :=
  X_ret (A_call (Rs.all_imp h (fun ds fr1 z => fx_imp z (fun o s z => z) fun _ _ _ z => z) fun _ _ _ z => z))
theorem X_retO (e : fr.env[i]? = some (.own xs)) (h : K.ret (.fresh xs) (setE fr i .un)) : X T (.ret (.slot i)) fr K := X_ret (A_own e ⟨xs, e, h⟩)
theorem AP_consO {ts : List Tm} {P : List RV → Fr → Prop} (e : fr.env[i]? = some (.own xs)) (h : AP T ts fr (fun rs fr2 => P (.var i :: rs) fr2) PX) : AP T (.slot i :: ts) fr P PX := AP_cons (A_own e h)
theorem L_lenO {P : D → Prop} (e : env[i]? = some (.own xs)) (h : P (.int xs.length)) : ∃ ds e, looks env [.var i] = some ds ∧ biD .len ds = some (.val e) ∧ P e := @Rz _ _ (fun qz => @Hz.get _ _ (qz.bar : Hz _ (by
  clear qz
  refine ⟨[.lst xs], _, ?_, rfl, h⟩
  show (match (match env[i]? with | some (.own xs) => some (D.lst xs) | some (.val d) => some d | _ => none), looks env [] with | some d, some ds => some (d :: ds) | _, _ => none) = _
  rw [e]; rfl))) Xz.mk
/-! several values at once -/
def AG (T : Tab) (n : Nat) (ts : List Tm) (fr : Fr) (P : List RV → Fr → Prop) (PX : PXt) : Prop := (parGo T n ts fr).all P PX
theorem X_parG {is : List Nat} {ts : List Tm} (h : AG T fr.env.length ts fr (fun rs fr1 => ∃ fr2, parSet fr.env.length is rs fr1 = some fr2 ∧ K.next (cutE fr.env.length fr2)) (fun c fs fr1 => K.exc c fs (cutE fr.env.length fr1))) : X T (.par is ts) fr K := @Rz _ _ (fun qz => @Hz.get _ _ (qz.bar : Hz _ (by
  clear qz
  refine X_par ?_
  unfold AG at h
  cases q : parGo T fr.env.length ts fr <;> (rw [q] at h; exact h)))) Xz.mk
variable {n : Nat} {ts : List Tm} {PR : List RV → Fr → Prop}
theorem AG_nil (h : PR [] fr) : AG T n [] fr PR PX := h
theorem AG_val (h : AV T a fr (fun d fr1 => AG T n ts fr1 (fun rs fr2 => PR (.out (.val d) :: rs) fr2) PX) PX) : AG T n (a :: ts) fr PR PX := @Rz _ _ (fun qz => @Hz.get _ _ (qz.bar : Hz _ (by
  clear qz
  unfold AG parGo
  refine all_bind (Rs.all_imp h (fun r fr1 z => ?_) fun _ _ _ z => z)
  obtain ⟨d, rfl, z⟩ := z
  exact all_bind z))) Xz.mk
theorem AG_new (h : A T a fr (fun r fr1 => ∃ xs, r = .out (.fresh xs) ∧ AG T n ts { fr1 with env := fr1.env ++ [.own xs] } (fun rs fr2 => PR (.var fr1.env.length :: rs) fr2) PX) PX) : AG T n (a :: ts) fr PR PX := @Rz _ _ (fun qz => @Hz.get _ _ (qz.bar : Hz _ (by
  clear qz
  unfold AG parGo
  refine all_bind (Rs.all_imp h (fun r fr1 z => ?_) fun _ _ _ z => z)
  obtain ⟨xs, rfl, z⟩ := z
  exact all_bind z))) Xz.mk
theorem AG_call {f : Nat} {us : List Tm} (h : AS T us fr (fun ds fr1 => (T.phi f ds fr1.sto).all (fun o s => ∃ e, IsS o e ∧ match e with
    | .val d => AG T n ts { fr1 with sto := s } (fun rs fr2 => PR (.out (.val d) :: rs) fr2) PX
    | .own xs => AG T n ts { fr1 with sto := s, env := fr1.env ++ [.own xs] } (fun rs fr2 => PR (.var fr1.env.length :: rs) fr2) PX
    | .un => False) (fun c fs s => PX c fs { fr1 with sto := s })) PX) : AG T n (.call f us :: ts) fr PR PX := by
  unfold AG parGo
  refine all_bind (A_call (Rs.all_imp h (fun ds fr1 z => fx_imp z (fun o s z => ?_) fun _ _ _ z => z) fun _ _ _ z => z))
  obtain ⟨e, ie, z⟩ := z
  cases ie <;> exact all_bind z
/-! a for over few things -/
end
/-! comprehensions -/
/-- branches by a decided test -/
theorem B_dec {p : Prop} [Decidable p] {R S : Prop} (h1 : p → R) (h2 : ¬ p → S) : ∃ k, D.bl (decide p) = D.bl k ∧ (k = true → R) ∧ (k = false → S) := ⟨_, rfl, fun e => h1 (of_decide_eq_true e), fun e => h2 (of_decide_eq_false e)⟩
theorem B_not {p : Prop} [Decidable p] {R S : Prop} (h1 : ¬ p → R) (h2 : p → S) : ∃ k, D.bl (!decide p) = D.bl k ∧ (k = true → R) ∧ (k = false → S) := ⟨_, rfl, fun e => h1 (by simpa using e), fun e => h2 (by simpa using e)⟩
theorem B_bl {q : Bool} {R S : Prop} (h1 : q = true → R) (h2 : q = false → S) : ∃ k, D.bl q = D.bl k ∧ (k = true → R) ∧ (k = false → S) := ⟨_, rfl, h1, h2⟩
theorem B_t {R S : Prop} (h1 : R) : ∃ k, D.bl true = D.bl k ∧ (k = true → R) ∧ (k = false → S) := ⟨true, rfl, fun _ => h1, fun e => Bool.noConfusion e⟩
theorem B_f {R S : Prop} (h1 : S) : ∃ k, D.bl false = D.bl k ∧ (k = true → R) ∧ (k = false → S) := ⟨false, rfl, fun e => Bool.noConfusion e, fun _ => h1⟩
theorem B_t' {R S : Prop} (h1 : R) : ∃ k, D.bl true = D.bl k ∧ (k = false → S) ∧ (k = true → R) := ⟨true, rfl, fun e => Bool.noConfusion e, fun _ => h1⟩
theorem B_f' {R S : Prop} (h1 : S) : ∃ k, D.bl false = D.bl k ∧ (k = false → S) ∧ (k = true → R) := ⟨false, rfl, fun _ => h1, fun e => Bool.noConfusion e⟩
end Ag
namespace Ag
open PySem L2
section
variable {T : Tab} {fr : Fr} {env : List Slot} {sto : List Cell} {P : RV → Fr → Prop} {PD : D → Fr → Prop} {PX : PXt} {K : SxP} {a b c : Tm} {i : Nat} {d : D} {xs : List D}
/-! ### None or an int -/
def optD : Option Int → D
  | none => .non
  | some i => .int i
theorem optD_none : optD none = .non := rfl
theorem optD_some (i : Int) : optD (some i) = .int i := rfl
theorem L_minM {x y : Int} {P : D → Prop} (h : P (.int (min x y))) : ∃ ds e, looks env [.out (.val (.int x)), .out (.val (.int y))] = some ds ∧ biD .min2 ds = some (.val e) ∧ P e := ⟨_, _, rfl, rfl, by
  have : (if y < x then y else x) = min x y := by split <;> omega
  rw [this]; exact h⟩
theorem L_maxM {x y : Int} {P : D → Prop} (h : P (.int (max x y))) : ∃ ds e, looks env [.out (.val (.int x)), .out (.val (.int y))] = some ds ∧ biD .max2 ds = some (.val e) ∧ P e := ⟨_, _, rfl, rfl, by
  have : (if y > x then y else x) = max x y := by split <;> omega
  rw [this]; exact h⟩
theorem C_nett {P : Bool → Prop} (h : P false) : ∃ k, cmpD .ne (.bl true) (.bl true) = some k ∧ P k := ⟨_, rfl, h⟩
theorem C_neff {P : Bool → Prop} (h : P false) : ∃ k, cmpD .ne (.bl false) (.bl false) = some k ∧ P k := ⟨_, rfl, h⟩
theorem C_eqIt {x y : Int} {P : Bool → Prop} (e : x = y) (h : P true) : ∃ k, cmpD .eq (.int x) (.int y) = some k ∧ P k := ⟨_, rfl, by rw [decide_eq_true e]; exact h⟩
theorem C_eqIf {x y : Int} {P : Bool → Prop} (e : ¬ x = y) (h : P false) : ∃ k, cmpD .eq (.int x) (.int y) = some k ∧ P k := ⟨_, rfl, by rw [decide_eq_false e]; exact h⟩
theorem B_dA {p : Prop} [Decidable p] {R S : Prop} (hp : p) (h : R) : ∃ k, D.bl (decide p) = .bl k ∧ (k = true → R) ∧ (k = false → S) := ⟨true, by rw [decide_eq_true hp], fun _ => h, fun z => Bool.noConfusion z⟩
theorem B_dN {p : Prop} [Decidable p] {R S : Prop} (hp : ¬ p) (h : S) : ∃ k, D.bl (decide p) = .bl k ∧ (k = true → R) ∧ (k = false → S) := ⟨false, by rw [decide_eq_false hp], fun z => Bool.noConfusion z, fun _ => h⟩
theorem B_xA {p : Prop} [Decidable p] {R S : Prop} (hp : p) (h : S) : ∃ k, D.bl (!decide p) = .bl k ∧ (k = true → R) ∧ (k = false → S) := ⟨false, by rw [decide_eq_true hp]; rfl, fun z => Bool.noConfusion z, fun _ => h⟩
theorem B_xN {p : Prop} [Decidable p] {R S : Prop} (hp : ¬ p) (h : R) : ∃ k, D.bl (!decide p) = .bl k ∧ (k = true → R) ∧ (k = false → S) := ⟨true, by rw [decide_eq_false hp]; rfl, fun _ => h, fun z => Bool.noConfusion z⟩
theorem Bn_id {x : Bool} {Q : Bool → Prop} (h : Q x) : ∃ n, D.bl x = .bl n ∧ Q n := ⟨x, rfl, h⟩
theorem B_nt {R S : Prop} (h : R) : ∃ k, D.bl (!false) = .bl k ∧ (k = true → R) ∧ (k = false → S) := ⟨true, rfl, fun _ => h, fun z => Bool.noConfusion z⟩
theorem B_nf {R S : Prop} (h : S) : ∃ k, D.bl (!true) = .bl k ∧ (k = true → R) ∧ (k = false → S) := ⟨false, rfl, fun z => Bool.noConfusion z, fun _ => h⟩
/-! ### iterators -/
theorem AI_zip {P : List D → Fr → Prop} (h : AD T a fr (fun d fr1 => AD T b fr1 (fun e fr2 => ∃ xs ys, seqOf d = some xs ∧ seqOf e = some ys ∧ P (zipD xs ys) fr2) PX) PX) : AI T (.zip a b) fr P PX := @Rz _ _ (fun qz => @Hz.get _ _ (qz.bar : Hz _ (by
  clear qz
  unfold AI evi
  refine all_fr (Rs.all_imp h (fun d fr1 h => all_fr (Rs.all_imp h (fun e fr2 h => ?_) fun _ _ _ z => z)) fun _ _ _ z => z)
  obtain ⟨xs, ys, h1, h2, h⟩ := h
  rw [h1, h2]; exact h))) Xz.mk
theorem AI_enum {P : List D → Fr → Prop} {st : Int} (h : AD T a fr (fun d fr1 => ∃ xs, d = .lst xs ∧ P (enumD st xs) fr1) PX) : AI T (.enum a st) fr P PX := @Rz _ _ (fun qz => @Hz.get _ _ (qz.bar : Hz _ (by
  clear qz
  unfold AI evi
  refine all_fr (Rs.all_imp h (fun d fr1 h => ?_) fun _ _ _ z => z)
  obtain ⟨xs, rfl, h⟩ := h
  exact h))) Xz.mk
/-- a for over what an iterator gives, by what is left -/
theorem for_rest {α : Type} {f : α → D} {tg : D → Fr → Option Fr} {B : Fr → Sx} (I : List α → Fr → Prop)
    (hs : ∀ x l fr, I (x :: l) fr → ∃ fr1, tg (f x) fr = some fr1 ∧ (B fr1).all (K.loop (I l)))
    (hd : ∀ fr, I [] fr → K.next fr) : ∀ (l : List α) {fr : Fr}, I l fr → (forGo tg B (l.map f) fr).all K := @Rz _ _ (fun qz => @Hz.get _ _ (qz.bar : Hz _ (by
  clear qz
  intro l
  induction l with
  | nil => intro fr h0; exact hd fr h0
  | cons x l ih =>
    intro fr h0
    obtain ⟨fr1, e, hb⟩ := hs x l fr h0
    show (match tg (f x) fr with
      | none => .bad
      | some fr1 => match B fr1 with
        | .next fr2 => forGo tg B (l.map f) fr2
        | .cont fr2 => forGo tg B (l.map f) fr2
        | .brk fr2 => .next fr2
        | r => r : Sx).all K
    rw [e]
    dsimp only
    cases q : B fr1 with
    | next fr2 => rw [q] at hb; exact ih hb
    | cont fr2 => rw [q] at hb; exact ih hb
    | brk fr2 => rw [q] at hb; exact hb
    | ret o fr2 => rw [q] at hb; exact hb
    | exc c fs fr2 => rw [q] at hb; exact hb
    | bad => rw [q] at hb; exact hb))) Xz.mk
/-- the rule for a for over a mapped list, by what is left -/
theorem X_forL {α : Type} {tg : Tg} {it : Iter} {B : List Stm} (h : AI T it fr (fun xs fr1 => ∃ (f : α → D) (l : List α) (I : List α → Fr → Prop), xs = l.map f ∧ I l fr1 ∧
    (∀ x l fr, I (x :: l) fr → ∃ fr2, bindT tg (f x) fr = some fr2 ∧ XS T B fr2 (K.loop (I l))) ∧ ∀ fr, I [] fr → K.next fr) K.exc) : X T (.for_ tg it B) fr K :=
  X_for (Rs.all_imp h (fun xs fr1 ⟨f, l, I, e, h0, hs, hd⟩ => by rw [e]; exact for_rest I hs hd l h0) fun _ _ _ z => z)
/-- a list of the def's own beside [] -/
theorem V_cmpOwn0 {op : Cm} (e : fr.env[i]? = some (.own xs)) (h : ∃ k, cmpD op (.lst xs) (.lst []) = some k ∧ PD (.bl k) fr) : AV T (.cmp op (.slot i) (.lst [])) fr PD PX := @Rz _ _ (fun qz => @Hz.get _ _ (qz.bar : Hz _ (by
  clear qz
  obtain ⟨k, h1, h2⟩ := h
  refine A_cmp (A_own e (A_lst (AS_nil ⟨by decide, .lst xs, .lst [], k, ?_, rfl, h1, _, rfl, h2⟩)))
  show (match fr.env[i]? with | some (.own xs) => some (D.lst xs) | some (.val d) => some d | _ => none) = _
  rw [e]))) Xz.mk
/-! ### attributes and methods of instances -/
theorem At_id {f : Nat} {fs : List (Nat × D)} {cc : Nat} {v : D} {Q : D → Prop} (h1 : insD sto d = some (cc, fs)) (h2 : T.fld cc f = true) (h3 : fget fs f = some v) (h : Q v) : ∃ cc fs v, insD sto d = some (cc, fs) ∧ T.fld cc f = true ∧ fget fs f = some v ∧ Q v := ⟨cc, fs, v, h1, h2, h3, h⟩
theorem Mt_id {m f : Nat} {fs : List (Nat × D)} {cc : Nat} {Q : Nat → Prop} (h1 : insD sto d = some (cc, fs)) (h2 : fget fs m = none) (h3 : T.psi cc m = some f) (h : Q f) : ∃ cc fs f, insD sto d = some (cc, fs) ∧ fget fs m = none ∧ T.psi cc m = some f ∧ Q f := ⟨cc, fs, f, h1, h2, h3, h⟩
theorem X_exprC {f : Nat} {ts : List Tm} (h : AS T ts fr (fun ds fr1 => (T.phi f ds fr1.sto).all (fun o s => K.next { fr1 with sto := s }) (fun c fs s => K.exc c fs { fr1 with sto := s })) K.exc) : X T (.expr (.call f ts)) fr K :=
  X_expr (A_call (Rs.all_imp h (fun ds fr1 z => fx_imp z (fun o s z => z) fun _ _ _ z => z) fun _ _ _ z => z))
/-- x, y = e, a tuple -/
theorem X_asgT {ts : List Tg} (h : AD T a fr (fun d fr1 => ∃ fr2, bindT (.tup ts) d fr1 = some fr2 ∧ K.next fr2) K.exc) : X T (.asg (.tup ts) a) fr K := @Rz _ _ (fun qz => @Hz.get _ _ (qz.bar : Hz _ (by
  clear qz
  unfold X ex
  refine all_toS (Rs.all_imp (show A T a fr (fun r fr1 => ∃ d fr2, toD fr1 r = some (d, fr2) ∧ ∃ fr3, bindT (.tup ts) d fr2 = some fr3 ∧ K.next fr3) K.exc from ?_) (fun r fr1 h => ?_) fun _ _ _ z => z)
  · unfold AD at h
    unfold A
    cases q : ev T a fr with
    | ok r fr1 =>
      rw [q] at h
      have h : (match toD fr1 r with | some (d, fr') => Rs.ok d fr' | none => .bad).all _ _ := h
      cases q2 : toD fr1 r with
      | none => rw [q2] at h; exact h.elim
      | some p => rw [q2] at h; exact ⟨p.1, p.2, q2, h⟩
    | exc c fs fr1 => rw [q] at h; exact h
    | bad => rw [q] at h; exact h
  · obtain ⟨d, fr2, e, fr3, e2, k⟩ := h
    show ((match toD fr1 r with | some (d, fr') => (match bindT (.tup ts) d fr' with | some fr2 => Sx.next fr2 | none => .bad) | none => .bad) : Sx).all K
    rw [e]
    dsimp only
    rw [e2]
    exact k))) Xz.mk
theorem bT_id {ts : List Tg} {fr2 : Fr} {Q : Fr → Prop} (h : bindT (.tup ts) d fr = some fr2) (k : Q fr2) : ∃ fr2, bindT (.tup ts) d fr = some fr2 ∧ Q fr2 := ⟨fr2, h, k⟩
theorem Pa_id {n : Nat} {is : List Nat} {rs : List RV} {fr2 : Fr} {Q : Fr → Prop} (h : parSet n is rs fr = some fr2) (k : Q fr2) : ∃ fr2, parSet n is rs fr = some fr2 ∧ Q fr2 := ⟨fr2, h, k⟩
theorem size_is : sizeLine = 16777216 := by decide
theorem Ap_id2 {Q : List D → Prop} (h1 : env[i]? = some (.own xs)) (h2 : xs.length < 16777216) (k : Q xs) : ∃ ys, env[i]? = some (.own ys) ∧ ys.length < sizeLine ∧ Q ys := ⟨xs, h1, by rw [size_is]; exact h2, k⟩
theorem Sz_id {n : Nat} {Q : Prop} (h : Nat.ble n 16777216 = true) (k : Q) : n ≤ sizeLine ∧ Q := ⟨by rw [size_is]; exact Nat.le_of_ble_eq_true h, k⟩
theorem X_appendD (e : fr.env[i]? = some (.own xs)) (h : AD T a fr (fun d fr1 => ∃ ys, fr1.env[i]? = some (.own ys) ∧ ys.length < sizeLine ∧ K.next (setE fr1 i (.own (ys ++ [d])))) K.exc) : X T (.append i a) fr K := X_append e h
/-! ### isinstance of a built-in type -/
/-! ### comprehensions -/
theorem comp_inv {n : Nat} {tg : D → Fr → Option Fr} {own : List Nat} {C : Fr → Rs Bool} {G : Fr → Rs D} {P : Unit → Fr → Prop} (I : Nat → Fr → Prop) {xs : List D} (h0 : I 0 fr)
    (hs : ∀ i x fr, xs[i]? = some x → I i fr → ∃ fr1, tg x { fr with env := wipeE fr.env own } = some fr1 ∧ (C fr1).all (fun t fr2 => (t = true → (G fr2).all (fun d fr3 => ∃ acc, fr3.env[n]? = some (.own acc) ∧ acc.length < sizeLine ∧ I (i + 1) { fr3 with env := fr3.env.set n (.own (acc ++ [d])) }) (fun _ _ _ => False)) ∧ (t = false → I (i + 1) fr2)) (fun _ _ _ => False))
    (hd : ∀ fr, I xs.length fr → P () fr) : (compGo n tg own C G xs fr).all P PX := by
  have key : ∀ (m i : Nat) (fr : Fr), m = xs.length - i → i ≤ xs.length → I i fr → (compGo n tg own C G (xs.drop i) fr).all P PX := by
    intro m
    induction m with
    | zero =>
      intro i fr hn hi h
      have : i = xs.length := by omega
      subst this
      rw [List.drop_length]
      exact hd fr h
    | succ m ih =>
      intro i fr hn hi h
      have hlt : i < xs.length := by omega
      rw [List.drop_eq_getElem_cons hlt]
      obtain ⟨fr1, e, hb⟩ := hs i xs[i] fr (List.getElem?_eq_getElem hlt) h
      unfold compGo
      rw [e]
      dsimp only
      cases q : C fr1 with
      | bad => rw [q] at hb; exact hb.elim
      | exc c fs fr2 => rw [q] at hb; exact hb.elim
      | ok t fr2 =>
        rw [q] at hb
        obtain ⟨b1, b2⟩ := hb
        cases t with
        | false => exact ih (i + 1) fr2 (by omega) (by omega) (b2 rfl)
        | true =>
          have b1 := b1 rfl
          show (((G fr2).calm.bind fun d fr3 => match fr3.env[n]? with
            | some (.own acc) => if acc.length < sizeLine then compGo n tg own C G (xs.drop (i + 1)) { fr3 with env := fr3.env.set n (.own (acc ++ [d])) } else .bad
            | _ => .bad) : Rs Unit).all P PX
          cases q2 : G fr2 with
          | bad => rw [q2] at b1; exact b1.elim
          | exc c fs fr2 => rw [q2] at b1; exact b1.elim
          | ok d fr3 =>
            rw [q2] at b1
            obtain ⟨acc, e1, e2, e3⟩ := b1
            show (match fr3.env[n]? with | some (.own acc) => (if acc.length < sizeLine then compGo n tg own C G (xs.drop (i + 1)) { fr3 with env := fr3.env.set n (.own (acc ++ [d])) } else .bad) | _ => .bad : Rs Unit).all P PX
            rw [e1]
            dsimp only
            rw [if_pos e2]
            exact ih (i + 1) _ (by omega) (by omega) e3
  have := key xs.length 0 fr rfl (Nat.zero_le _) h0
  simpa using this
def AC (T : Tab) (t : Option Tm) (fr : Fr) (P : Bool → Fr → Prop) (PX : PXt) : Prop := (evc T t fr).all P PX
theorem AC_none {P : Bool → Fr → Prop} (h : P true fr) : AC T none fr P PX := h
theorem AC_some {P : Bool → Fr → Prop} (h : AV T a fr (fun d fr1 => ∃ k, d = .bl k ∧ P k fr1) PX) : AC T (some a) fr P PX := @Rz _ _ (fun qz => @Hz.get _ _ (qz.bar : Hz _ (by
  clear qz
  unfold AC evc
  refine all_fr (Rs.all_imp (AD_V h) (fun d fr1 h => ?_) fun _ _ _ z => z)
  obtain ⟨k, rfl, h⟩ := h
  exact h))) Xz.mk
def noX : PXt := fun _ _ _ => False
theorem A_compI {tg : Tg} {it : Iter} {cond : Option Tm} {own : List Nat} (h : AI T it fr (fun xs fr1 => ownFree fr1.env own = true ∧ ∃ I : Nat → Fr → Prop, I 0 { fr1 with env := fr1.env ++ [.own []] } ∧
    (∀ i x fr2, xs[i]? = some x → I i fr2 → ∃ fr3, bindT tg x { fr2 with env := wipeE fr2.env own } = some fr3 ∧ AC T cond fr3 (fun t fr4 => (t = true → AD T a fr4 (fun d fr5 => ∃ acc, fr5.env[fr1.env.length]? = some (.own acc) ∧ acc.length < sizeLine ∧ I (i + 1) { fr5 with env := fr5.env.set fr1.env.length (.own (acc ++ [d])) }) noX) ∧ (t = false → I (i + 1) fr4)) noX) ∧
    ∀ fr2, I xs.length fr2 → ∃ acc, fr2.env[fr1.env.length]? = some (.own acc) ∧ P (.out (.fresh acc)) { fr2 with env := backE fr1.env (fr2.env.take fr1.env.length) own }) PX) : A T (.comp a tg it cond own) fr P PX := by
  unfold A ev
  refine all_bind (Rs.all_imp h (fun xs fr1 z => ?_) fun _ _ _ z => z)
  obtain ⟨z0, I, h0, hs, hd⟩ := z
  rw [if_pos z0]
  refine all_bind (comp_inv (P := fun _ fr2 => ((match fr2.env[fr1.env.length]? with
    | some (.own acc) => .ok (.out (.fresh acc)) { fr2 with env := backE fr1.env (fr2.env.take fr1.env.length) own }
    | _ => .bad : Rs RV)).all P PX) I h0 hs fun fr2 q => ?_)
  obtain ⟨acc, e, q⟩ := hd fr2 q
  rw [e]
  exact q
/-! a comprehension that changes nothing: each item by itself -/
theorem wipe_get {env : List Slot} {n : Nat} : ∀ {own : List Nat}, (∀ v ∈ own, v ≠ n) → (wipeE env own)[n]? = env[n]?
  | [], _ => rfl
  | v :: vs, h => by
    show ((wipeE env vs).set v .un)[n]? = _
    rw [List.getElem?_set_ne (h v (List.mem_cons_self ..)), wipe_get fun w hw => h w (List.mem_cons_of_mem _ hw)]
theorem wipe_set {env : List Slot} {n : Nat} {s : Slot} : ∀ {own : List Nat}, (∀ v ∈ own, v ≠ n) → (wipeE env own).set n s = wipeE (env.set n s) own
  | [], _ => rfl
  | v :: vs, h => by
    show ((wipeE env vs).set v .un).set n s = (wipeE (env.set n s) vs).set v .un
    rw [List.set_comm _ _ (h v (List.mem_cons_self ..)), wipe_set fun w hw => h w (List.mem_cons_of_mem _ hw)]
theorem wipe_len {env : List Slot} : ∀ {own : List Nat}, (wipeE env own).length = env.length
  | [] => rfl
  | v :: vs => by
    show ((wipeE env vs).set v .un).length = _
    rw [List.length_set, wipe_len]
theorem back_eq {env e2 : List Slot} : ∀ {own : List Nat}, (∀ v ∈ own, v < env.length) → e2.length = env.length → (∀ i, (∀ v ∈ own, v ≠ i) → e2[i]? = env[i]?) → backE env e2 own = env := @Rz _ _ (fun qz => @Hz.get _ _ (qz.bar : Hz _ (by
  clear qz
  intro own
  have key : ∀ own : List Nat, (∀ v ∈ own, v < env.length) → e2.length = env.length → ∀ i, (backE env e2 own)[i]? = if i ∈ own then env[i]? else e2[i]? := by
    intro own
    induction own with
    | nil => intro _ _ i; simp [backE]
    | cons v vs ih =>
      intro h1 h2 i
      show ((backE env e2 vs).set v (env.getD v .un))[i]? = _
      have hl : (backE env e2 vs).length = env.length := by
        clear ih h1
        induction vs with
        | nil => exact h2
        | cons w ws ih2 => show ((backE env e2 ws).set w _).length = _; rw [List.length_set, ih2]
      have hv := h1 v (List.mem_cons_self ..)
      by_cases q : v = i
      · subst q
        rw [List.getElem?_set_self (by omega), if_pos (List.mem_cons_self ..), List.getElem?_eq_getElem hv]
        simp [List.getD, List.getElem?_eq_getElem hv]
      · rw [List.getElem?_set_ne q, ih (fun w hw => h1 w (List.mem_cons_of_mem _ hw)) h2 i]
        have : (i ∈ v :: vs) ↔ i ∈ vs := by simp [Ne.symm q]
        simp only [this]
  intro h1 h2 h3
  refine List.ext_getElem? fun i => ?_
  rw [key own h1 h2 i]
  by_cases q : i ∈ own
  · rw [if_pos q]
  · rw [if_neg q, h3 i fun v hv z => q (z ▸ hv)]))) Xz.mk
/-- [elt for tg in it if cond] by each item -/
theorem A_compL {α : Type} {tg : Tg} {it : Iter} {cond : Option Tm} {own : List Nat} (h : AI T it fr (fun xs fr1 => ∃ (f : α → D) (l : List α) (g : α → Option D), xs = l.map f ∧ ownFree fr1.env own = true ∧ (own.all fun v => Nat.blt v fr1.env.length) = true ∧ l.length ≤ 16777216 ∧
    (∀ x acc, x ∈ l → ∃ e3, bindT tg (f x) ⟨wipeE (fr1.env ++ [.own acc]) own, fr1.sto⟩ = some ⟨e3, fr1.sto⟩ ∧ wipeE e3 own = wipeE (fr1.env ++ [.own acc]) own ∧ AC T cond ⟨e3, fr1.sto⟩ (fun t fr4 => fr4 = ⟨e3, fr1.sto⟩ ∧ (t = true → AD T a ⟨e3, fr1.sto⟩ (fun d fr5 => fr5 = ⟨e3, fr1.sto⟩ ∧ g x = some d) noX) ∧ (t = false → g x = none)) noX) ∧
    P (.out (.fresh (l.filterMap g))) fr1) PX) : A T (.comp a tg it cond own) fr P PX := @Rz _ _ (fun qz => @Hz.get _ _ (qz.bar : Hz _ (by
  clear qz
  refine A_compI (Rs.all_imp h (fun xs fr1 z => ?_) fun _ _ _ z => z)
  obtain ⟨f, l, g, rfl, z0, z1, z2, hs, hP⟩ := z
  have z2 : l.length ≤ sizeLine := by rw [size_is]; exact z2
  have z1 : ∀ v ∈ own, v < fr1.env.length := fun v hv => Nat.le_of_ble_eq_true (List.all_eq_true.mp z1 v hv)
  have hne : ∀ v ∈ own, v ≠ fr1.env.length := fun v hv => by have := z1 v hv; omega
  have hset : ∀ acc acc', (fr1.env ++ [Slot.own acc]).set fr1.env.length (.own acc') = fr1.env ++ [Slot.own acc'] := fun acc acc' => by
    rw [List.set_append_right _ _ (Nat.le_refl _), Nat.sub_self]; rfl
  have hget : ∀ acc, (fr1.env ++ [Slot.own acc])[fr1.env.length]? = some (.own acc) := fun acc => by
    rw [List.getElem?_append_right (Nat.le_refl _), Nat.sub_self]; rfl
  refine ⟨z0, fun i fr2 => fr2.sto = fr1.sto ∧ wipeE fr2.env own = wipeE (fr1.env ++ [.own ((l.take i).filterMap g)]) own, ⟨rfl, rfl⟩, ?_, ?_⟩
  · rintro i x ⟨e2, s2⟩ hx ⟨rfl, hw⟩
    have hw : wipeE e2 own = wipeE (fr1.env ++ [.own ((l.take i).filterMap g)]) own := hw
    rw [List.getElem?_map] at hx
    cases hy : l[i]? with
    | none => rw [hy] at hx; cases hx
    | some y =>
    rw [hy] at hx; cases hx
    have hlt := (List.getElem?_eq_some_iff.mp hy).1
    obtain ⟨e3, h1, h2, h3⟩ := hs y ((l.take i).filterMap g) (List.mem_of_getElem? hy)
    refine ⟨_, by rw [hw]; exact h1, ?_⟩
    have htake : l.take (i + 1) = l.take i ++ [y] := by rw [List.take_add_one, hy]; rfl
    refine Rs.all_imp h3 (fun t fr4 z => ?_) fun _ _ _ z => z
    obtain ⟨rfl, q1, q2⟩ := z
    have hle : ((l.take i).filterMap g).length < sizeLine := by
      have h5 := List.length_filterMap_le g (l.take i)
      have h6 : (l.take i).length = i := by rw [List.length_take]; omega
      omega
    refine ⟨fun e => Rs.all_imp (q1 e) (fun d fr5 z => ?_) fun _ _ _ z => z, fun e => ⟨rfl, ?_⟩⟩
    · obtain ⟨rfl, z⟩ := z
      have h3g : e3[fr1.env.length]? = some (.own ((l.take i).filterMap g)) := by
        have := wipe_get (env := e3) hne
        rw [h2, wipe_get hne, hget] at this
        exact this.symm
      refine ⟨_, h3g, hle, rfl, ?_⟩
      rw [← wipe_set hne, h2, wipe_set hne, hset, htake, List.filterMap_append]
      simp [z]
    · show wipeE e3 own = _
      rw [h2, htake, List.filterMap_append]
      simp [q2 e]
  · rintro ⟨e2, s2⟩ ⟨rfl, hw⟩
    have hw : wipeE e2 own = wipeE (fr1.env ++ [.own ((l.take (l.map f).length).filterMap g)]) own := hw
    rw [List.length_map, List.take_length] at hw
    refine ⟨l.filterMap g, ?_, ?_⟩
    · have := wipe_get (env := e2) hne
      rw [hw, wipe_get hne, hget] at this
      exact this.symm
    · have hl : e2.length = fr1.env.length + 1 := by
        have := congrArg List.length hw
        rw [wipe_len, wipe_len] at this
        simpa using this
      have : backE fr1.env (e2.take fr1.env.length) own = fr1.env := by
        refine back_eq z1 (by rw [List.length_take]; omega) fun i hi => ?_
        by_cases q : i < fr1.env.length
        · rw [List.getElem?_take_of_lt q]
          have := wipe_get (env := e2) (n := i) hi
          rw [hw, wipe_get hi, List.getElem?_append_left q] at this
          exact this.symm
        · rw [List.getElem?_eq_none (by rw [List.length_take]; omega), List.getElem?_eq_none (by omega)]
      show P _ ⟨backE fr1.env (e2.take fr1.env.length) own, fr1.sto⟩
      rw [this]
      exact hP))) Xz.mk
/-! where a comprehension stands -/
theorem D_comp {tg : Tg} {it : Iter} {cond : Option Tm} {own : List Nat} (h : A T (.comp a tg it cond own) fr (fun r fr1 => ∃ xs, r = .out (.fresh xs) ∧ PD (.lst xs) fr1) PX) : AD T (.comp a tg it cond own) fr PD PX := D_F h
theorem X_asgComp {tg : Tg} {it : Iter} {cond : Option Tm} {own : List Nat} (h : A T (.comp a tg it cond own) fr (fun r fr1 => ∃ xs, r = .out (.fresh xs) ∧ K.next (setE fr1 i (.own xs))) K.exc) : X T (.asg (.slot i) (.comp a tg it cond own)) fr K := X_asgF h
end
end Ag
namespace Ag
open PySem PySem.Spec PyProof.Rows L2
def spLaw (K : PySem.W.Frag) : Sp := fun vs H Q _ => ∃ (a : Addr) (ns : List Int), vs = [V.ref a] ∧ SqL K H a (ns.map V.int) ∧ ns.length ≤ 63 ∧ Only H ∧ ∀ H', Q (.bl true) H'
def Keeps (phi : Fn) : Prop := ∀ ns : List Int, ns.length ≤ 63 → (phi [.rol (ns.map D.int)] []).all (fun o _ => o = .val (.bl true)) (fun _ _ _ => False)
theorem reps_ints {G : Glb} {F : Hp} {io : List Addr} : ∀ ns : List Int, Reps G F io (ns.map D.int) (ns.map V.int)
  | [] => .nil
  | n :: ns => .cons (.int n) (reps_ints ns)
theorem law_sp {P : Program} {w : World} {K : PySem.W.Frag} {mg : Str → Option Value} {base : Heap} {CX : CXT} {k : Nat} {f : Addr} {fd : FuncData} {ps : List Str} {G : Glb} {phi : Fn} (F : FnOk P w K mg base CX k f fd ps (spI G 1 phi)) (hK : G.K = K)
    (h : Keeps phi) : FnOk P w K mg base CX k f fd ps (spLaw K) := F.imp fun vs H Q Ex ⟨a, ns, e, hS, hl, hO, hq⟩ => by
  subst e
  have hk := h ns hl
  refine ⟨[.rol (ns.map D.int)], [], H, [], rfl, .cons (.rol (by rw [hK]; exact hS) (reps_ints ns)) .nil, ⟨fun _ _ e => e, rfl, fun n c e => (by cases e), fun i j b e => (by cases e), fun b o e _ => e, fun n b _ e => (by cases e), fun b o e => ?_, Nat.le_refl _, fun b o u _ e => e⟩, ?_⟩
  · rcases hO b with z | ⟨o', xs, z⟩
    · rw [z] at e; cases e
    · rw [z] at e; cases e; trivial
  · cases q : phi [.rol (ns.map D.int)] [] with
    | ret o s =>
      rw [q] at hk
      have e : o = .val (.bl true) := hk
      subst e
      intro v H' F' io' _ _ _ r
      cases r
      exact hq H'
    | exc c fs s => rw [q] at hk; exact hk.elim
    | bad => rw [q] at hk; exact hk.elim
theorem law_walk {l : PySem.W.OpenLaw} {k : Nat} {q : Program} {loose : List Str} {XP : (Str → Option Value) → Heap → Prop} {YP : World → Heap → Prop} {d : DefRec} {K : Params → PySem.W.Frag} (hn : l.most = some 63) (hdf : d.params.defaults = []) (hr : Room k callerA)
    (hY : ∀ (w : World) (h : Heap), YP w h → (K w.params).In h)
    (F : ∀ (w : World) (mg : Str → Option Value) (fa : Addr) (h : Heap), (K w.params).In h → h.Ns mainGlobals mg → mg d.name = some (.ref fa) →
      ∃ fd : FuncData, (∀ (s : Shared) (u : Value), BindsTo s fd ⟨[u], []⟩ [("_law_script", u)]) ∧ ∀ base : Heap, (K w.params).In base → base.Ns mainGlobals mg → FnOk l.prog w (K w.params) mg base (L2.CX l.prog w) k fa fd ["_law_script"] (spLaw (K w.params))) :
    PySem.W.WalkO q loose XP YP l.row.toRowW d [] (fun f vs => PySem.call f vs) :=
  L2.walk_of (n := 63) (k := k) (x := "_law_script") (CX := fun w => L2.CX l.prog w) (sp := fun w => spLaw (K w.params)) hn (by decide) hdf hr hY F (fun _ _ a ns hl hO hS => ⟨a, ns, rfl, hS, hl, hO, fun _ => rfl⟩)
    fun w H s e s' z => by
      obtain ⟨a, B, H', cls, dd, _, _, _, _, _, _, _, z⟩ := z
      exact z
/-! ### tables -/
theorem fns_nil {Q : Str → Nat → Prop} : ∀ x i, ([] : List (Str × Nat)).lookup x = some i → Q x i := fun x i e => by cases e
theorem fns_cons {Q : Str → Nat → Prop} {n : Str} {j : Nat} {L : List (Str × Nat)} (h : Q n j) (t : ∀ x i, L.lookup x = some i → Q x i) : ∀ x i, ((n, j) :: L).lookup x = some i → Q x i := fun x i e => by
  have e' : (match x == n with | true => some j | false => L.lookup x) = some i := e
  cases q : x == n with
  | true =>
    rw [q] at e'
    cases e'
    rw [eq_of_beq q]; exact h
  | false => rw [q] at e'; exact t x i e'
theorem blts_nil {mg : Str → Option Value} : ∀ x, ([] : List Str).contains x = true → mg x = none := fun x e => by cases e
theorem blts_cons {mg : Str → Option Value} {b : Str} {L : List Str} (h : mg b = none) (t : ∀ x, L.contains x = true → mg x = none) : ∀ x, (b :: L).contains x = true → mg x = none := fun x e => by
  rw [List.contains_cons] at e
  cases q : x == b with
  | true => rw [eq_of_beq q]; exact h
  | false => rw [q] at e; exact t x e
end Ag
namespace Ag
open PySem L2
def Nf {α : Type} (a b : α) : Prop := a = b
theorem Nf.rfl {α : Type} {a : α} : Nf a a := Eq.refl a
theorem XS_norm {T : Tab} {ss : List Stm} {fr : Fr} {K : SxP} {env : List Slot} {sto : List Cell} (e1 : Nf fr.env env) (e2 : Nf fr.sto sto) (h : XS T ss ⟨env, sto⟩ K) : XS T ss fr K := by
  cases e1; cases e2; exact h
def T0 : Tab := ⟨fun _ _ _ => .bad, fun _ _ => false, fun _ _ => none, fun _ => none, fun _ _ => false⟩
def Tab.add (T : Tab) (i : Nat) (f : Fn) : Tab := { T with phi := fun j => if j = i then f else T.phi j }
/-- a small number -/
theorem sm_of {n : Int} (h1 : -1000000000000000000000000000000000000000000000000000000000000000000000000000000000000000000000000000000 < n) (h2 : n < 1000000000000000000000000000000000000000000000000000000000000000000000000000000000000000000000000000000) : Sm n := @Rz _ _ (fun qz => @Hz.get _ _ (qz.bar : Hz _ (by
  clear qz
  unfold Sm
  have : (1000000000000000000000000000000000000000000000000000000000000000000000000000000000000000000000000000000 : Nat) < 2 ^ 1000 := by decide
  omega))) Xz.mk
theorem mul_ok {a b : Int} (h1 : -1000000000000000000000000000000000000000000000000000000000000000000000000000000000000000000000000000000 < a) (h2 : a < 1000000000000000000000000000000000000000000000000000000000000000000000000000000000000000000000000000000)
    (h3 : -1000000000000000000000000000000000000000000000000000000000000000000000000000000000000000000000000000000 < b) (h4 : b < 1000000000000000000000000000000000000000000000000000000000000000000000000000000000000000000000000000000) : mulOk a b = true := sm_mul (sm_of h1 h2) (sm_of h3 h4)
theorem div_ok {b : Int} (h3 : 0 < b) (h4 : b < 1000000000000000000000000000000000000000000000000000000000000000000000000000000000000000000000000000000) : divOk b = true := sm_div h3 (sm_of (by omega) h4)
section
variable {T : Tab} {fr : Fr} {P : RV → Fr → Prop} {PD : D → Fr → Prop} {PX : PXt} {K : SxP} {a b c : Tm} {i : Nat} {d : D} {xs : List D} {sto : List Cell} {env : List Slot}
theorem C_eqS {x y : Str} {P : Bool → Prop} (h : P (decide (x = y))) : ∃ k, cmpD .eq (.str x) (.str y) = some k ∧ P k := ⟨_, rfl, h⟩
theorem C_lt {x y : Int} {P : Bool → Prop} (h : P (decide (x < y))) : ∃ k, cmpD .lt (.int x) (.int y) = some k ∧ P k := ⟨_, rfl, h⟩
theorem C_le {x y : Int} {P : Bool → Prop} (h : P (decide (x ≤ y))) : ∃ k, cmpD .le (.int x) (.int y) = some k ∧ P k := ⟨_, rfl, h⟩
theorem C_gt {x y : Int} {P : Bool → Prop} (h : P (decide (y < x))) : ∃ k, cmpD .gt (.int x) (.int y) = some k ∧ P k := ⟨_, rfl, h⟩
theorem C_ge {x y : Int} {P : Bool → Prop} (h : P (decide (y ≤ x))) : ∃ k, cmpD .ge (.int x) (.int y) = some k ∧ P k := ⟨_, rfl, h⟩
theorem C_isnI {x : Int} {P : Bool → Prop} (h : P true) : ∃ k, cmpD .isn (.int x) .non = some k ∧ P k := ⟨_, rfl, h⟩
theorem C_isnN {P : Bool → Prop} (h : P false) : ∃ k, cmpD .isn .non .non = some k ∧ P k := ⟨_, rfl, h⟩
theorem C_isI {x : Int} {P : Bool → Prop} (h : P false) : ∃ k, cmpD .is_ (.int x) .non = some k ∧ P k := ⟨_, rfl, h⟩
theorem C_isN {P : Bool → Prop} (h : P true) : ∃ k, cmpD .is_ .non .non = some k ∧ P k := ⟨_, rfl, h⟩
theorem I_neg {n : Int} {P : Int → Prop} (h : P n) : ∃ m, D.int n = .int m ∧ P m := ⟨_, rfl, h⟩
theorem L_int {n : Int} {P : D → Prop} (h : P (.int n)) : ∃ ds e, looks env [.out (.val (.int n))] = some ds ∧ biD .int_ ds = some (.val e) ∧ P e := ⟨_, _, rfl, rfl, h⟩
theorem L_lenL {P : D → Prop} (h : P (.int xs.length)) : ∃ ds e, looks env [.out (.val (.lst xs))] = some ds ∧ biD .len ds = some (.val e) ∧ P e := ⟨_, _, rfl, rfl, h⟩
theorem L_lenR {P : D → Prop} (h : P (.int xs.length)) : ∃ ds e, looks env [.out (.val (.rol xs))] = some ds ∧ biD .len ds = some (.val e) ∧ P e := ⟨_, _, rfl, rfl, h⟩
theorem O_powN {x y z : Int} {P : D → Prop} (e : powOk x y = true) (e2 : Nf (x ^ y.toNat) z) (h : P (.int z)) : ∃ d, opD .pow (.int x) (.int y) = some (.val d) ∧ P d := by cases e2; exact O_pow e h
/-! ### the pen -/
def penC (cs : List Int) (a l : Int) : Cell := .dict [(.inr "cells", .lst (cs.map D.int)), (.inr "at", .int a), (.inr "left", .int l)]
theorem ix_cell {n : Nat} {kvs : List (Key × D)} {k : D} {kk : Key} {v : D} (h : sto[n]? = some (.dict kvs)) (hk : keyOf k = some kk) (hd : dget kvs kk = some v) : ixD sto (.cell n) k = some v := @Rz _ _ (fun qz => @Hz.get _ _ (qz.bar : Hz _ (by
  clear qz
  have : ixD sto (.cell n) k = (match sto[n]?, keyOf k with | some (.dict kvs), some k => dget kvs k | _, _ => none) := rfl
  rw [this, h, hk]; exact hd))) Xz.mk
theorem ix_left {p : Nat} {cs : List Int} {a l : Int} (h : sto[p]? = some (penC cs a l)) {P : D → Prop} (k : P (.int l)) : ∃ v, ixD sto (.cell p) (.str "left") = some v ∧ P v := ⟨_, ix_cell h rfl (by kernel_rfl), k⟩
theorem ix_at {p : Nat} {cs : List Int} {a l : Int} (h : sto[p]? = some (penC cs a l)) {P : D → Prop} (k : P (.int a)) : ∃ v, ixD sto (.cell p) (.str "at") = some v ∧ P v := ⟨_, ix_cell h rfl (by kernel_rfl), k⟩
theorem ix_cells {p : Nat} {cs : List Int} {a l : Int} (h : sto[p]? = some (penC cs a l)) {P : D → Prop} (k : P (.lst (cs.map D.int))) : ∃ v, ixD sto (.cell p) (.str "cells") = some v ∧ P v := ⟨_, ix_cell h rfl (by kernel_rfl), k⟩
theorem X_left {o : Nat} {v : Tm} (hq : ownSlot (.slot o) fr.env = none) (h : AV T v fr (fun d fr1 => ∃ z p cs a l, d = .int z ∧ fr1.env[o]? = some (.val (.cell p)) ∧ fr1.sto[p]? = some (penC cs a l) ∧ K.next ⟨fr1.env, fr1.sto.set p (penC cs a z)⟩) K.exc) : X T (.setk (.slot o) (.str "left") v) fr K :=
  X_setkV hq (A_imp h fun r fr1 q => by
    obtain ⟨d, rfl, z, p, cs, a, l, rfl, h1, h2, h3⟩ := q
    refine ⟨_, rfl, V_slot h1 (V_str ⟨p, _, _, rfl, rfl, h2, (by decide : 3 < 1000), ?_⟩)⟩
    have e : Cell.dict (kput [(.inr "cells", .lst (cs.map D.int)), (.inr "at", .int a), (.inr "left", .int l)] (.inr "left") (.int z)) = penC cs a z := by kernel_rfl
    rw [e]; exact h3)
theorem X_at {o : Nat} {v : Tm} (hq : ownSlot (.slot o) fr.env = none) (h : AV T v fr (fun d fr1 => ∃ z p cs a l, d = .int z ∧ fr1.env[o]? = some (.val (.cell p)) ∧ fr1.sto[p]? = some (penC cs a l) ∧ K.next ⟨fr1.env, fr1.sto.set p (penC cs z l)⟩) K.exc) : X T (.setk (.slot o) (.str "at") v) fr K :=
  X_setkV hq (A_imp h fun r fr1 q => by
    obtain ⟨d, rfl, z, p, cs, a, l, rfl, h1, h2, h3⟩ := q
    refine ⟨_, rfl, V_slot h1 (V_str ⟨p, _, _, rfl, rfl, h2, (by decide : 3 < 1000), ?_⟩)⟩
    have e : Cell.dict (kput [(.inr "cells", .lst (cs.map D.int)), (.inr "at", .int a), (.inr "left", .int l)] (.inr "at") (.int z)) = penC cs z l := by kernel_rfl
    rw [e]; exact h3)
theorem set_get {α : Type} {xs : List α} {p : Nat} {x y : α} (h : xs[p]? = some x) : (xs.set p y)[p]? = some y := @Rz _ _ (fun qz => @Hz.get _ _ (qz.bar : Hz _ (by
  clear qz
  have := (List.getElem?_eq_some_iff.mp h).1
  rw [List.getElem?_set_self this]))) Xz.mk
theorem set_set {α : Type} {xs : List α} {p : Nat} {x y : α} : (xs.set p x).set p y = xs.set p y := List.set_set ..
end
/-! ### a list beside [] -/
theorem toPys_ints : ∀ cs : List Int, toPys (cs.map D.int) = some (cs.map PyData.int)
  | [] => rfl
  | c :: cs => by
    show (match toPy (.int c), toPys (cs.map D.int) with | some x, some xs => some (x :: xs) | _, _ => none) = _
    rw [toPys_ints cs]; rfl
theorem depths_ints : ∀ cs : List Int, PyData.depthAll (cs.map PyData.int) = 0
  | [] => rfl
  | c :: cs => by
    show max (PyData.depth (.int c)) (PyData.depthAll (cs.map PyData.int)) = 0
    rw [depths_ints cs]; rfl
theorem canLay_ints : ∀ cs : List Int, PyData.canLayAll0 (cs.map PyData.int) = true
  | [] => rfl
  | c :: cs => by
    show (PyData.canLay0 (.int c) && PyData.canLayAll0 (cs.map PyData.int)) = true
    rw [canLay_ints cs]; rfl
theorem eqD_ints_nil (cs : List Int) : eqD (.lst (cs.map D.int)) (.lst []) = some cs.isEmpty := @Rz _ _ (fun qz => @Hz.get _ _ (qz.bar : Hz _ (by
  clear qz
  have e1 : toPy (.lst (cs.map D.int)) = some (.list (cs.map PyData.int)) := by
    show (toPys (cs.map D.int)).map PyData.list = _
    rw [toPys_ints]; rfl
  have e2 : SeqAt.shaped (.list (cs.map PyData.int)) = true := by
    show (PyData.canLayAll0 (cs.map PyData.int) && decide (PyData.depthAll (cs.map PyData.int) + 1 ≤ 64)) = true
    rw [canLay_ints, depths_ints]; rfl
  have : eqD (.lst (cs.map D.int)) (.lst []) = eqP (.lst (cs.map D.int)) (.lst []) := rfl
  rw [this]
  unfold eqP
  rw [e1]
  show (if (SeqAt.shaped (.list (cs.map PyData.int)) && SeqAt.shaped (.list [])) = true then some (PyData.eqv (.list (cs.map PyData.int)) (.list [])) else none) = _
  rw [e2]
  cases cs with
  | nil => rfl
  | cons c cs => rfl))) Xz.mk
def b_pen : List Stm := [.ret (.dict [(.inr "cells", .bi .list_ [.slice (.slot 0) none (some (.int 63))]), (.inr "at", .int 0), (.inr "left", .int 0)])]
def b_draw : List Stm := [.ite (.cmp .ge (.ix (.slot 0) (.str "left")) (.slot 1)) [.asg (.slot 5) (.bin .mod (.bi .int_ [.ix (.slot 0) (.str "left")]) (.slot 1)), .setk (.slot 0) (.str "left") (.bin .fdiv (.ix (.slot 0) (.str "left")) (.slot 1)), .ret (.slot 5)] [], .asg (.slot 2) (.ix (.slot 0) (.str "at")), .setk (.slot 0) (.str "at") (.bin .add (.slot 2) (.int 1)), .asg (.slot 3) (.bin .add (.bin .mul (.int 41) (.slot 2)) (.int 23)), .ite (.cmp .ne (.ix (.slot 0) (.str "cells")) (.lst [])) [.asg (.slot 3) (.ix (.ix (.slot 0) (.str "cells")) (.bin .mod (.bi .int_ [.slot 2]) (.bi .len [.ix (.slot 0) (.str "cells")])))] [], .ite (.and_ (.cmp .lt (.slot 2) (.bi .len [.ix (.slot 0) (.str "cells")])) (.cmp .ge (.slot 3) (.bin .pow (.int 10) (.int 18)))) [.setk (.slot 0) (.str "left") (.bin .fdiv (.bin .sub (.slot 3) (.bin .pow (.int 10) (.int 18))) (.slot 1)), .ret (.bin .mod (.bi .int_ [.bin .sub (.slot 3) (.bin .pow (.int 10) (.int 18))]) (.slot 1))] [], .asg (.slot 4) (.bin .add (.bin .add (.bin .add (.bin .mul (.bin .mod (.bi .int_ [.slot 3]) (.int 2147483587)) (.int 48271)) (.bin .mul (.bin .mul (.int 40014) (.slot 2)) (.slot 2))) (.bin .mul (.int 59) (.slot 2))) (.int 17)), .asg (.slot 4) (.bin .mod (.bi .int_ [.slot 4]) (.int 2147483629)), .asg (.slot 4) (.bin .mod (.bi .int_ [.bin .mul (.slot 4) (.bin .add (.slot 4) (.int 69621))]) (.int 2147483549)), .ret (.bin .mod (.bi .int_ [.bin .fdiv (.bin .mod (.bi .int_ [.bin .mul (.slot 4) (.slot 4)]) (.int 2147483579)) (.int 32)]) (.slot 1))]
def b_pick : List Stm := [.ret (.ix (.slot 1) (.call 201 [.slot 0, .bi .len [.slot 1]]))]
def b_way : List Stm := [.ret (.call 202 [.slot 0, .lst [.str "down", .str "up", .str "near"]])]
noncomputable def p_pen : Fn := fx T0 1 1 b_pen
noncomputable def p_draw : Fn := fx T0 2 6 b_draw
noncomputable def T_pick : Tab := T0.add 201 p_draw
noncomputable def p_pick : Fn := fx T_pick 2 2 b_pick
noncomputable def T_way : Tab := T0.add 202 p_pick
noncomputable def p_way : Fn := fx T_way 1 1 b_way
section
variable {T : Tab} {fr : Fr} {P : RV → Fr → Prop} {PD : D → Fr → Prop} {PX : PXt} {K : SxP} {a b c : Tm} {i : Nat} {d : D} {xs : List D} {sto : List Cell} {env : List Slot}
theorem V_cmpNil {op : Cm} (h : AV T a fr (fun x fr1 => ∃ k, cmpD op x (.lst []) = some k ∧ PD (.bl k) fr1) PX) : AV T (.cmp op a (.lst [])) fr PD PX :=
  A_cmp (A_V (A_imp h fun r fr1 z => by
    obtain ⟨x, rfl, k, h1, h2⟩ := z
    exact ⟨x, rfl, A_lst (AS_nil ⟨by decide, x, .lst [], k, rfl, rfl, h1, _, rfl, h2⟩)⟩))
theorem C_neNil {cs : List Int} {P : Bool → Prop} (h : P (!cs.isEmpty)) : ∃ k, cmpD .ne (.lst (cs.map D.int)) (.lst []) = some k ∧ P k := ⟨_, by
  show (eqD (.lst (cs.map D.int)) (.lst [])).map (!·) = _
  rw [eqD_ints_nil]; rfl, h⟩
theorem atI_ok {α : Type} {xs : List α} {i : Int} (h0 : 0 ≤ i) (h1 : i < xs.length) : atI xs i = xs[i.toNat]? := @Rz _ _ (fun qz => @Hz.get _ _ (qz.bar : Hz _ (by
  clear qz
  unfold atI ixN
  rw [if_pos h0, if_pos h1]; rfl))) Xz.mk
theorem ix_ints {cs : List Int} {i : Int} (h0 : 0 ≤ i) (h1 : i < cs.length) {P : D → Prop} (k : ∀ z, P (.int z)) : ∃ v, ixD sto (.lst (cs.map D.int)) (.int i) = some v ∧ P v := @Rz _ _ (fun qz => @Hz.get _ _ (qz.bar : Hz _ (by
  clear qz
  have hlt : i.toNat < cs.length := by omega
  refine ⟨.int cs[i.toNat], ?_, k _⟩
  show atI (cs.map D.int) i = _
  rw [atI_ok h0 (by rw [List.length_map]; exact h1), List.getElem?_map, List.getElem?_eq_getElem hlt]; rfl))) Xz.mk
theorem ix_lst {i : Int} (h0 : 0 ≤ i) (h1 : i < xs.length) {P : D → Prop} (k : ∀ z, xs[i.toNat]? = some z → P z) : ∃ v, ixD sto (.lst xs) (.int i) = some v ∧ P v := @Rz _ _ (fun qz => @Hz.get _ _ (qz.bar : Hz _ (by
  clear qz
  have hlt : i.toNat < xs.length := by omega
  refine ⟨xs[i.toNat], ?_, k _ (List.getElem?_eq_getElem hlt)⟩
  show atI xs i = _
  rw [atI_ok h0 h1, List.getElem?_eq_getElem hlt]))) Xz.mk
def PenC (B : Int) (c : Cell) : Prop := ∃ cs a l, c = penC cs a l ∧ 0 ≤ a ∧ a ≤ B ∧ 0 ≤ l
theorem PenC.mono {B B' : Int} {c : Cell} (h : PenC B c) (hb : B ≤ B') : PenC B' c := @Rz _ _ (fun qz => @Hz.get _ _ (qz.bar : Hz _ (by
  clear qz
  obtain ⟨cs, a, l, e, h1, h2, h3⟩ := h
  exact ⟨cs, a, l, e, h1, by omega, h3⟩))) Xz.mk
end
section
variable {T : Tab} {fr : Fr} {PD : D → Fr → Prop} {PX : PXt} {K : SxP} {a : Tm} {sto : List Cell} {env : List Slot}
theorem V_id (h : AV T a fr PD PX) : AV T a fr PD PX := h
theorem O_id {op : Op2} {x y : D} {P : D → Prop} (h : ∃ d, opD op x y = some (.val d) ∧ P d) : ∃ d, opD op x y = some (.val d) ∧ P d := h
theorem C_id {op : Cm} {x y : D} {P : Bool → Prop} (h : ∃ k, cmpD op x y = some k ∧ P k) : ∃ k, cmpD op x y = some k ∧ P k := h
theorem L_id {b : Bi} {rs : List RV} {P : D → Prop} (h : ∃ ds e, looks env rs = some ds ∧ biD b ds = some (.val e) ∧ P e) : ∃ ds e, looks env rs = some ds ∧ biD b ds = some (.val e) ∧ P e := h
theorem I_id {x y : D} {P : D → Prop} (h : ∃ v, ixD sto x y = some v ∧ P v) : ∃ v, ixD sto x y = some v ∧ P v := h
theorem B_id {b : Bool} {P : Bool → Prop} (h : ∃ k, D.bl b = D.bl k ∧ P k) : ∃ k, D.bl b = D.bl k ∧ P k := h
theorem D_id {PD : D → Fr → Prop} (h : AD T a fr PD PX) : AD T a fr PD PX := h
theorem X_id {s : Stm} (h : X T s fr K) : X T s fr K := h
theorem XS_id {ss : List Stm} (h : XS T ss fr K) : XS T ss fr K := h
end
section
local macro_rules | `(tactic| walk_at "nrm") => `(tactic| with_reducible refine XS_norm (by with_unfolding_all ((try simp only [setE, cutE, optD_none, optD_some, List.set_cons_zero, List.set_cons_succ, List.cons_append, List.nil_append, List.length_cons, List.length_nil, Nat.reduceAdd, List.take_succ_cons, List.take_zero]); exact Nf.rfl)) (by with_unfolding_all ((try simp only [setE, cutE, optD_none, optD_some, set_set, List.set_cons_zero, List.set_cons_succ]); exact Nf.rfl)) ?_)
local macro_rules | `(tactic| walk_at "w") => `(tactic| repeat' first
  | (with_reducible refine V_id ?_; first
    | (with_reducible refine' V_slot ?s1 ?_; (case s1 => with_unfolding_all exact rfl)) | (with_reducible refine V_int ?_) | (with_reducible refine V_bin ?_) | (with_reducible refine V_cmpComp0 ?_) | (with_reducible refine' V_cmpOwn0 ?s1 ?_; (case s1 => with_unfolding_all exact rfl)) | (with_reducible refine V_cmpNil ?_) | (with_reducible refine V_cmp ?_)
    | (with_reducible refine V_str ?_) | (with_reducible refine V_bi ?_) | (with_reducible refine' V_ixO ?s1 ?_; (case s1 => with_unfolding_all exact rfl)) | (with_reducible refine V_ix ?_) | (with_reducible refine V_call ?_) | (with_reducible refine V_attr ?_)
    | (with_reducible refine V_and ?_) | (with_reducible refine V_or ?_) | (with_reducible refine V_not ?_) | (with_reducible refine V_ite ?_) | (with_reducible refine V_tup ?_) | (with_reducible refine V_neg ?_) | (with_reducible refine V_non ?_) | (with_reducible refine V_bl ?_) | (with_reducible refine V_dict ?_) | (with_reducible refine V_meth ?_) | (with_reducible refine V_istV ?_))
  | (with_reducible refine O_id ?_; first
    | (with_reducible refine O_add ?_) | (with_reducible refine O_sub ?_) | (with_reducible refine' O_mul (mul_ok ?s1 ?s2 ?s3 ?s4) ?_; (case s1 => omega); (case s2 => omega); (case s3 => omega); (case s4 => omega)) | (with_reducible refine' O_fdiv (div_ok ?s1 ?s2) ?_; (case s1 => omega); (case s2 => omega)) | (with_reducible refine' O_mod ?s1 ?_; (case s1 => omega))
    | (with_reducible refine' O_powN ?s1 ?s2 ?_; (case s1 => decide); (case s2 => with_unfolding_all (simp only [Int.reduceToNat, Int.reducePow]; exact Nf.rfl))))
  | (with_reducible refine C_id ?_; first
    | (with_reducible refine' C_eqIt ?s1 ?_; (case s1 => assumption)) | (with_reducible refine' C_eqIf ?s1 ?_; (case s1 => assumption)) | (with_reducible refine C_eqI ?_) | (with_reducible refine C_neI ?_) | (with_reducible refine C_eqS ?_) | (with_reducible refine C_neS ?_) | (with_reducible refine C_lt ?_) | (with_reducible refine C_le ?_) | (with_reducible refine C_gt ?_) | (with_reducible refine C_ge ?_)
    | (with_reducible refine C_nett ?_) | (with_reducible refine C_netf ?_) | (with_reducible refine C_neft ?_) | (with_reducible refine C_neff ?_) | (with_reducible refine C_eqtt ?_) | (with_reducible refine C_eqtf ?_) | (with_reducible refine C_eqft ?_) | (with_reducible refine C_eqff ?_) | (with_reducible refine C_neB ?_) | (with_reducible refine C_eqB ?_) | (with_reducible refine C_neNil ?_) | (with_reducible refine C_isN ?_) | (with_reducible refine C_isnN ?_) | (with_reducible refine C_isI ?_) | (with_reducible refine C_isnI ?_) | (with_reducible refine C_neNN ?_) | (with_reducible refine C_neNI ?_) | (with_reducible refine C_neIN ?_))
  | (with_reducible refine B_id ?_; first
    | (with_reducible refine B_t ?_) | (with_reducible refine B_nt ?_) | (with_reducible refine B_nf ?_) | (with_reducible refine B_nt' ?_) | (with_reducible refine B_nf' ?_) | (with_reducible refine B_f ?_) | (with_reducible refine B_t' ?_) | (with_reducible refine B_f' ?_)
    | (with_reducible refine' B_dA ?s1 ?_; (case s1 => assumption)) | (with_reducible refine' B_dN ?s1 ?_; (case s1 => assumption)) | (with_reducible refine' B_dA' ?s1 ?_; (case s1 => assumption)) | (with_reducible refine' B_dN' ?s1 ?_; (case s1 => assumption)) | (with_reducible refine' B_xA ?s1 ?_; (case s1 => assumption)) | (with_reducible refine' B_xN ?s1 ?_; (case s1 => assumption)) | (with_reducible refine' B_xA' ?s1 ?_; (case s1 => assumption)) | (with_reducible refine' B_xN' ?s1 ?_; (case s1 => assumption)) | (with_reducible refine B_dec (fun _ => ?_) (fun _ => ?_)) | (with_reducible refine B_dec' (fun _ => ?_) (fun _ => ?_)) | (with_reducible refine B_not (fun _ => ?_) (fun _ => ?_)) | (with_reducible refine B_not' (fun _ => ?_) (fun _ => ?_)) | (with_reducible refine B_bl (fun _ => ?_) (fun _ => ?_)) | (with_reducible refine B_bl' (fun _ => ?_) (fun _ => ?_)))
  | (with_reducible refine Bn_id ?_)
  | (with_reducible refine L_id ?_; first
    | (with_reducible refine L_int ?_) | (with_reducible refine L_lenL ?_) | (with_reducible refine L_lenR ?_) | (with_reducible refine L_lenT ?_) | (with_reducible refine' L_lenO ?s1 ?_; (case s1 => with_unfolding_all exact rfl)) | (with_reducible refine L_minM ?_) | (with_reducible refine L_maxM ?_))
  | (with_reducible refine I_id ?_; first
    | (with_reducible refine' ix_left ?s1 ?_; (case s1 => assumption)) | (with_reducible refine' ix_at ?s1 ?_; (case s1 => assumption)) | (with_reducible refine' ix_cells ?s1 ?_; (case s1 => assumption)))
  | (with_reducible refine X_id ?_; first
    | (with_reducible refine X_iteV ?_) | (with_reducible refine X_asgComp ?_) | (with_reducible refine X_retComp ?_) | (with_reducible refine X_exprC ?_) | (with_reducible refine' X_retO ?s1 ?_; (case s1 => with_unfolding_all exact rfl)) | (with_reducible refine X_asgM ?_) | (with_reducible refine X_retM ?_) | (with_reducible refine X_asgT ?_) | (with_reducible refine' X_appendD ?s1 ?_; (case s1 => with_unfolding_all exact rfl)) | (with_reducible refine X_asgC ?_) | (with_reducible refine X_retC ?_) | (with_reducible refine X_parG ?_) | (with_reducible refine X_asgF (A_lstF ?_)) | (with_reducible refine' X_left ?s1 ?_; (case s1 => with_unfolding_all exact rfl)) | (with_reducible refine' X_at ?s1 ?_; (case s1 => with_unfolding_all exact rfl))
    | (with_reducible refine' X_asgV (V_slot ?s1 ?_); (case s1 => with_unfolding_all exact rfl)) | (with_reducible refine X_asgV (V_int ?_)) | (with_reducible refine X_asgV (V_bin ?_)) | (with_reducible refine X_asgV (V_ix ?_)) | (with_reducible refine X_asgV (V_bi ?_)) | (with_reducible refine X_asgV (V_ite ?_)) | (with_reducible refine X_asgV (V_non ?_)) | (with_reducible refine X_asgV (V_bl ?_)) | (with_reducible refine X_asgV (V_str ?_)) | (with_reducible refine X_asgV (V_tup ?_)) | (with_reducible refine X_asgV (V_attr ?_)) | (with_reducible refine X_asgV (V_cmp ?_)) | (with_reducible refine X_asgV (V_and ?_)) | (with_reducible refine X_asgV (V_or ?_)) | (with_reducible refine X_asgV (V_not ?_)) | (with_reducible refine X_asgV (V_neg ?_)) | (with_reducible refine X_asgV (V_dict ?_))
    | (with_reducible refine' X_retV (V_slot ?s1 ?_); (case s1 => with_unfolding_all exact rfl)) | (with_reducible refine X_retV (V_int ?_)) | (with_reducible refine X_retV (V_bin ?_)) | (with_reducible refine X_retV (V_ix ?_)) | (with_reducible refine X_retV (V_bi ?_)) | (with_reducible refine X_retV (V_ite ?_)) | (with_reducible refine X_retV (V_non ?_)) | (with_reducible refine X_retV (V_bl ?_)) | (with_reducible refine X_retV (V_tup ?_)) | (with_reducible refine X_retV (V_neg ?_)) | (with_reducible refine X_retV (V_cmp ?_)) | (with_reducible refine X_retV (V_and ?_)) | (with_reducible refine X_retV (V_or ?_)) | (with_reducible refine X_retV (V_not ?_)) | (with_reducible refine X_retV (V_attr ?_)) | (with_reducible refine X_retV (V_str ?_)))
  | (with_reducible refine XS_id ?_; first | (with_reducible refine XS_nil ?_) | (with_reducible refine XS_norm (by with_unfolding_all ((try simp only [setE, cutE, optD_none, optD_some, List.set_cons_zero, List.set_cons_succ, List.cons_append, List.nil_append, List.length_cons, List.length_nil, Nat.reduceAdd, List.take_succ_cons, List.take_zero]); exact Nf.rfl)) (by with_unfolding_all ((try simp only [setE, cutE, optD_none, optD_some, set_set, List.set_cons_zero, List.set_cons_succ]); exact Nf.rfl)) ?_; with_reducible refine XS_cons ?_))
  | (with_reducible refine AS_nil ?_)
  | (with_reducible refine AS_cons ?_)
  | (with_reducible refine D_id ?_; first | (with_reducible refine D_comp ?_) | (with_reducible refine D_call ?_) | (with_reducible refine D_meth ?_) | (with_reducible refine D_lst ?_) | (with_reducible refine' D_own ?s1 ?_; (case s1 => with_unfolding_all exact rfl)) | (with_reducible refine AD_V ?_))
  | (with_reducible refine' At_id ?s1 ?s2 ?s3 ?_; (case s1 => with_unfolding_all exact rfl); (case s2 => with_unfolding_all exact rfl); (case s3 => with_unfolding_all exact rfl))
  | (with_reducible refine' Mt_id ?s1 ?s2 ?s3 ?_; (case s1 => with_unfolding_all exact rfl); (case s2 => with_unfolding_all exact rfl); (case s3 => with_unfolding_all exact rfl))
  | (with_reducible refine' Ap_id2 ?s1 ?s2 ?_; (case s1 => with_unfolding_all exact rfl); (case s2 => first | assumption | omega | (simp only [List.length_append, List.length_cons, List.length_nil, List.length_map] at *; omega)))
  | (with_reducible refine' Sz_id ?s1 ?_; (case s1 => with_unfolding_all exact rfl))
  | (with_reducible refine' bT_id ?s1 ?_; (case s1 => with_unfolding_all exact rfl))
  | (with_reducible refine' Pa_id ?s1 ?_; (case s1 => with_unfolding_all exact rfl))
  | (with_reducible refine AI_zip ?_)
  | (with_reducible refine AI_enum ?_)
  | (with_reducible refine AI_rev ?_)
  | (with_reducible refine AI_range1V ?_)
  | (with_reducible refine AI_range2V ?_)
  | (with_reducible refine AP_nil ?_)
  | (with_reducible refine' AP_consO ?s1 ?_; (case s1 => with_unfolding_all exact rfl))
  | (with_reducible refine AP_consA ?_)
  | (with_reducible refine AK_nil ?_)
  | (with_reducible refine AK_cons ?_)
  | (with_reducible refine AO_none ?_)
  | (with_reducible refine AO_someV ?_)
  | (with_reducible refine I_neg ?_)
  | (with_reducible refine isD_val ?_)
  | (with_reducible refine isD_fresh ?_)
  | (with_reducible refine isS_val ?_)
  | (with_reducible refine isS_fresh ?_)
  | (with_reducible refine isV ?_)
  | (with_reducible refine AG_nil ?_)
  | (with_reducible refine AG_call ?_)
  | (with_reducible refine AG_new (A_lstF ?_))
  | (with_reducible refine AG_val ?_)
  | (with_reducible refine FG_nil ?_)
  | (with_reducible refine AI_lst ?_)
  | (with_reducible refine N_thn ?_)
  | (with_reducible refine R_thn ?_)
  | (with_reducible refine N_loop ?_)
  | (with_reducible refine R_loop ?_)
  | (with_reducible refine E_loop ?_)
  | (with_reducible refine B_loop ?_)
  | (with_reducible refine C_loop ?_)
  | (with_reducible refine B_thn ?_)
  | (with_reducible refine C_thn ?_)
  | (with_reducible refine X_brk ?_)
  | (with_reducible refine X_cont ?_)
  | (with_reducible refine E_thn ?_)
  | (with_reducible refine R_fx ?_)
  | (with_reducible refine N_fx ?_))
theorem range_at {lo : Int} {n i : Nat} {x : D} (h : (rangeD lo n)[i]? = some x) : i < n ∧ x = .int (lo + i) := @Rz _ _ (fun qz => @Hz.get _ _ (qz.bar : Hz _ (by
  clear qz
  unfold rangeD at h
  rw [List.getElem?_map] at h
  by_cases q : i < n
  · rw [List.getElem?_range q] at h
    cases h
    exact ⟨q, rfl⟩
  · rw [List.getElem?_eq_none (by rw [List.length_range]; omega)] at h
    cases h))) Xz.mk
theorem rangeD_len {lo : Int} {n : Nat} : (rangeD lo n).length = n := by unfold rangeD; rw [List.length_map, List.length_range]
theorem draw_is {p : Nat} {c : Cell} {B m : Int} {sto : List Cell} (hs : sto[p]? = some c) (hc : PenC B c) (hB : B < 1000000000000000000000000000000) (h0 : 0 < m) (h1 : m < 1000000000000000000000000000000000000000000000000000000000000000000000000000000000000000000) :
    (p_draw [.cell p, .int m] sto).all (fun o s => ∃ r c', o = .val (.int r) ∧ 0 ≤ r ∧ r < m ∧ s = sto.set p c' ∧ PenC (B + 1) c') (fun _ _ _ => False) := @Rz _ _ (fun qz => @Hz.get _ _ (qz.bar : Hz _ (by
  clear qz
  obtain ⟨cs, a, l, rfl, ha, ha2, hl⟩ := hc
  refine fx_all rfl (env := [.val (.cell p), .val (.int m), .un, .un, .un, .un]) rfl ?_
  unfold b_draw
  have fin : ∀ (x l' : Int), 0 ≤ l' → ∃ r c', Out.val (D.int (x % m)) = .val (.int r) ∧ 0 ≤ r ∧ r < m ∧ sto.set p (penC cs (a + 1) l') = sto.set p c' ∧ PenC (B + 1) c' := fun x l' h =>
    ⟨_, _, rfl, Int.emod_nonneg _ (by omega), Int.emod_lt_of_pos _ h0, rfl, _, _, _, rfl, by omega, by omega, h⟩
  walk_at "w"
  · refine ⟨_, p, cs, a, l, rfl, rfl, hs, ?_⟩
    walk_at "w"
    exact ⟨_, _, rfl, Int.emod_nonneg _ (by omega), Int.emod_lt_of_pos _ h0, rfl, _, _, _, rfl, ha, by omega, Int.ediv_nonneg hl (by omega)⟩
  · refine ⟨_, p, cs, a, l, rfl, rfl, hs, ?_⟩
    have hs2 : (sto.set p (penC cs (a + 1) l))[p]? = some (penC cs (a + 1) l) := set_get hs
    walk_at "w"
    · have hlen : 0 < (((cs.map D.int).length : Nat) : Int) := by
        cases cs with
        | nil => contradiction
        | cons x xs => simp
      refine O_mod hlen (ix_ints (Int.emod_nonneg _ (by omega)) ?_ fun z => ?_)
      · have := Int.emod_lt_of_pos a hlen
        rw [List.length_map] at this ⊢; exact this
      walk_at "w"
      · refine ⟨_, p, cs, a + 1, l, rfl, rfl, hs2, ?_⟩
        walk_at "w"
        exact fin _ _ (Int.ediv_nonneg (by omega) (by omega))
      · exact fin _ _ hl
      · exact fin _ _ hl
    · refine ⟨_, p, cs, a + 1, l, rfl, rfl, hs2, ?_⟩
      walk_at "w"
      exact fin _ _ (Int.ediv_nonneg (by omega) (by omega))
    · exact fin _ _ hl
    · exact fin _ _ hl))) Xz.mk
/-- one of the items -/
theorem pick_is {p : Nat} {c : Cell} {B : Int} {xs : List D} {sto : List Cell} (hs : sto[p]? = some c) (hc : PenC B c) (hB : B < 1000000000000000000000000000000) (h0 : xs ≠ []) (h1 : xs.length < 1000000) :
    (p_pick [.cell p, .lst xs] sto).all (fun o s => ∃ x c', o = .val x ∧ x ∈ xs ∧ s = sto.set p c' ∧ PenC (B + 1) c') (fun _ _ _ => False) := @Rz _ _ (fun qz => @Hz.get _ _ (qz.bar : Hz _ (by
  clear qz
  have hl : 0 < (xs.length : Int) := by
    cases xs with
    | nil => exact absurd rfl h0
    | cons x xs => simp
  refine fx_all rfl (env := [.val (.cell p), .val (.lst xs)]) rfl ?_
  unfold b_pick
  walk_at "w"
  refine fx_imp (draw_is (m := (xs.length : Int)) hs hc hB hl (by omega)) (fun o s h => ?_) fun _ _ _ z => z.elim
  obtain ⟨r, c', rfl, h2, h3, rfl, h5⟩ := h
  refine ⟨_, rfl, ix_lst h2 h3 fun z hz => ?_⟩
  walk_at "w"
  exact ⟨z, c', rfl, List.mem_of_getElem? hz, rfl, h5⟩))) Xz.mk
def Way (w : Str) : Prop := w = "down" ∨ w = "up" ∨ w = "near"
theorem way_is {p : Nat} {c : Cell} {B : Int} {sto : List Cell} (hs : sto[p]? = some c) (hc : PenC B c) (hB : B < 1000000000000000000000000000000) :
    (p_way [.cell p] sto).all (fun o s => ∃ w c', o = .val (.str w) ∧ Way w ∧ s = sto.set p c' ∧ PenC (B + 1) c') (fun _ _ _ => False) := @Rz _ _ (fun qz => @Hz.get _ _ (qz.bar : Hz _ (by
  clear qz
  refine fx_all rfl (env := [.val (.cell p)]) rfl ?_
  unfold b_way
  walk_at "w"
  refine fx_imp (pick_is hs hc hB (by simp) (by simp)) (fun o s h => ?_) fun _ _ _ z => z.elim
  obtain ⟨x, c', rfl, h2, rfl, h5⟩ := h
  walk_at "w"
  simp only [List.mem_cons, List.not_mem_nil, or_false] at h2
  rcases h2 with rfl | rfl | rfl
  · exact ⟨_, _, rfl, .inl rfl, rfl, h5⟩
  · exact ⟨_, _, rfl, .inr (.inl rfl), rfl, h5⟩
  · exact ⟨_, _, rfl, .inr (.inr rfl), rfl, h5⟩))) Xz.mk
/-- a new pen -/
theorem pen_is {ns : List Int} {sto : List Cell} : (p_pen [.rol (ns.map D.int)] sto).all (fun o s => ∃ c', o = .val (.cell sto.length) ∧ s = sto ++ [c'] ∧ PenC 0 c') (fun _ _ _ => False) := @Rz _ _ (fun qz => @Hz.get _ _ (qz.bar : Hz _ (by
  clear qz
  refine fx_all rfl (env := [.val (.rol (ns.map D.int))]) rfl ?_
  unfold b_pen
  refine XS_cons (X_retV (V_dict (AK_cons (AD_of (A_bi (AP_cons (A_slice (A_slot rfl (AO_none (AO_someV (V_int ⟨63, rfl, _, rfl, .inr (.inl ⟨_, rfl, AP_nil ?_⟩)⟩)))))))))))
  have e : ∃ cs : List Int, cutL (ns.map D.int) none (some 63) = cs.map D.int := ⟨(ns.drop (HT.sIx (ns.map D.int).length 0 none)).take (HT.sIx (ns.map D.int).length (ns.map D.int).length (some 63) - HT.sIx (ns.map D.int).length 0 none), by
    unfold cutL
    rw [List.map_take, List.map_drop]⟩
  obtain ⟨cs, e⟩ := e
  refine ⟨_, _, rfl, rfl, _, _, rfl, ?_⟩
  walk_at "w"
  refine ⟨(by show 3 ≤ 15; decide), ?_⟩
  walk_at "w"
  refine ⟨_, rfl, rfl, cs, 0, 0, ?_, by decide, by decide, by decide⟩
  rw [e]
  kernel_rfl))) Xz.mk
end
end Ag
namespace Ag
open PySem L2
/-! ### the pen alone in the store -/
def Pn (B : Int) (s : List Cell) : Prop := ∃ c r, s = c :: r ∧ PenC B c
theorem Pn.mono {B B' : Int} {s : List Cell} (h : Pn B s) (hb : B ≤ B') : Pn B' s := @Rz _ _ (fun qz => @Hz.get _ _ (qz.bar : Hz _ (by
  clear qz
  obtain ⟨c, r, e, h⟩ := h
  exact ⟨c, r, e, h.mono hb⟩))) Xz.mk
section
variable {T : Tab} {P : Out → List Cell → Prop} {PX : Nat → List D → List Cell → Prop} {s : List Cell} {B : Int}
theorem C_draw {m : Int} (hT : T.phi 201 = p_draw) (hp : Pn B s) (hB : B < 1000000000000000000000000000000) (h0 : 0 < m) (h1 : m < 1000000000000000000000000000000000000000000000000000000000000000000000000000000000000000000)
    (k : ∀ (r : Int) (s' : List Cell), 0 ≤ r → r < m → Pn (B + 1) s' → P (.val (.int r)) s') : (T.phi 201 [.cell 0, .int m] s).all P PX := @Rz _ _ (fun qz => @Hz.get _ _ (qz.bar : Hz _ (by
  clear qz
  obtain ⟨c, rr, rfl, hc⟩ := hp
  rw [hT]
  refine fx_imp (draw_is (p := 0) rfl hc hB h0 h1) (fun o s h => ?_) fun _ _ _ z => z.elim
  obtain ⟨r, c', rfl, h2, h3, rfl, h5⟩ := h
  exact k r _ h2 h3 ⟨c', rr, rfl, h5⟩))) Xz.mk
theorem C_pick {xs : List D} (hT : T.phi 202 = p_pick) (hp : Pn B s) (hB : B < 1000000000000000000000000000000) (h0 : xs ≠ []) (h1 : xs.length < 1000000)
    (k : ∀ (x : D) (s' : List Cell), x ∈ xs → Pn (B + 1) s' → P (.val x) s') : (T.phi 202 [.cell 0, .lst xs] s).all P PX := @Rz _ _ (fun qz => @Hz.get _ _ (qz.bar : Hz _ (by
  clear qz
  obtain ⟨c, rr, rfl, hc⟩ := hp
  rw [hT]
  refine fx_imp (pick_is (p := 0) rfl hc hB h0 h1) (fun o s h => ?_) fun _ _ _ z => z.elim
  obtain ⟨x, c', rfl, h2, rfl, h5⟩ := h
  exact k x _ h2 ⟨c', rr, rfl, h5⟩))) Xz.mk
theorem C_way (hT : T.phi 203 = p_way) (hp : Pn B s) (hB : B < 1000000000000000000000000000000)
    (k : ∀ (w : Str) (s' : List Cell), Way w → Pn (B + 1) s' → P (.val (.str w)) s') : (T.phi 203 [.cell 0] s).all P PX := @Rz _ _ (fun qz => @Hz.get _ _ (qz.bar : Hz _ (by
  clear qz
  obtain ⟨c, rr, rfl, hc⟩ := hp
  rw [hT]
  refine fx_imp (way_is (p := 0) rfl hc hB) (fun o s h => ?_) fun _ _ _ z => z.elim
  obtain ⟨w, c', rfl, h2, rfl, h5⟩ := h
  exact k w _ h2 ⟨c', rr, rfl, h5⟩))) Xz.mk
theorem C_pen {ns : List Int} (hT : T.phi 200 = p_pen) (k : ∀ s', Pn 0 s' → P (.val (.cell 0)) s') : (T.phi 200 [.rol (ns.map D.int)] []).all P PX := @Rz _ _ (fun qz => @Hz.get _ _ (qz.bar : Hz _ (by
  clear qz
  rw [hT]
  refine fx_imp (pen_is (sto := [])) (fun o s h => ?_) fun _ _ _ z => z.elim
  obtain ⟨c', rfl, rfl, h5⟩ := h
  exact k _ ⟨c', [], rfl, h5⟩))) Xz.mk
end
end Ag
namespace Ag
open PySem L2
local macro_rules | `(tactic| fail "a1") => `(tactic| first
  | (with_reducible refine V_id ?_; first
    | (with_reducible refine' V_slot ?s1 ?_; (case s1 => with_unfolding_all exact rfl)) | (with_reducible refine V_int ?_) | (with_reducible refine V_bin ?_) | (with_reducible refine V_cmpComp0 ?_) | (with_reducible refine' V_cmpOwn0 ?s1 ?_; (case s1 => with_unfolding_all exact rfl)) | (with_reducible refine V_cmpNil ?_) | (with_reducible refine V_cmp ?_)
    | (with_reducible refine V_str ?_) | (with_reducible refine V_bi ?_) | (with_reducible refine' V_ixO ?s1 ?_; (case s1 => with_unfolding_all exact rfl)) | (with_reducible refine V_ix ?_) | (with_reducible refine V_call ?_) | (with_reducible refine V_attr ?_)
    | (with_reducible refine V_and ?_) | (with_reducible refine V_or ?_) | (with_reducible refine V_not ?_) | (with_reducible refine V_ite ?_) | (with_reducible refine V_tup ?_) | (with_reducible refine V_neg ?_) | (with_reducible refine V_non ?_) | (with_reducible refine V_bl ?_) | (with_reducible refine V_dict ?_) | (with_reducible refine V_meth ?_) | (with_reducible refine V_istV ?_))
  | (with_reducible refine O_id ?_; first
    | (with_reducible refine O_add ?_) | (with_reducible refine O_sub ?_) | (with_reducible refine' O_mul (mul_ok ?s1 ?s2 ?s3 ?s4) ?_; (case s1 => omega); (case s2 => omega); (case s3 => omega); (case s4 => omega)) | (with_reducible refine' O_fdiv (div_ok ?s1 ?s2) ?_; (case s1 => omega); (case s2 => omega)) | (with_reducible refine' O_mod ?s1 ?_; (case s1 => omega))
    | (with_reducible refine' O_powN ?s1 ?s2 ?_; (case s1 => decide); (case s2 => with_unfolding_all (simp only [Int.reduceToNat, Int.reducePow]; exact Nf.rfl))))
  | (with_reducible refine C_id ?_; first
    | (with_reducible refine' C_eqIt ?s1 ?_; (case s1 => assumption)) | (with_reducible refine' C_eqIf ?s1 ?_; (case s1 => assumption)) | (with_reducible refine C_eqI ?_) | (with_reducible refine C_neI ?_) | (with_reducible refine C_eqS ?_) | (with_reducible refine C_neS ?_) | (with_reducible refine C_lt ?_) | (with_reducible refine C_le ?_) | (with_reducible refine C_gt ?_) | (with_reducible refine C_ge ?_)
    | (with_reducible refine C_nett ?_) | (with_reducible refine C_netf ?_) | (with_reducible refine C_neft ?_) | (with_reducible refine C_neff ?_) | (with_reducible refine C_eqtt ?_) | (with_reducible refine C_eqtf ?_) | (with_reducible refine C_eqft ?_) | (with_reducible refine C_eqff ?_) | (with_reducible refine C_neB ?_) | (with_reducible refine C_eqB ?_) | (with_reducible refine C_neNil ?_) | (with_reducible refine C_isN ?_) | (with_reducible refine C_isnN ?_) | (with_reducible refine C_isI ?_) | (with_reducible refine C_isnI ?_) | (with_reducible refine C_neNN ?_) | (with_reducible refine C_neNI ?_) | (with_reducible refine C_neIN ?_))
  | (with_reducible refine B_id ?_; first
    | (with_reducible refine B_t ?_) | (with_reducible refine B_nt ?_) | (with_reducible refine B_nf ?_) | (with_reducible refine B_nt' ?_) | (with_reducible refine B_nf' ?_) | (with_reducible refine B_f ?_) | (with_reducible refine B_t' ?_) | (with_reducible refine B_f' ?_)
    | (with_reducible refine' B_dA ?s1 ?_; (case s1 => assumption)) | (with_reducible refine' B_dN ?s1 ?_; (case s1 => assumption)) | (with_reducible refine' B_dA' ?s1 ?_; (case s1 => assumption)) | (with_reducible refine' B_dN' ?s1 ?_; (case s1 => assumption)) | (with_reducible refine' B_xA ?s1 ?_; (case s1 => assumption)) | (with_reducible refine' B_xN ?s1 ?_; (case s1 => assumption)) | (with_reducible refine' B_xA' ?s1 ?_; (case s1 => assumption)) | (with_reducible refine' B_xN' ?s1 ?_; (case s1 => assumption)) | (with_reducible refine B_dec (fun _ => ?_) (fun _ => ?_)) | (with_reducible refine B_dec' (fun _ => ?_) (fun _ => ?_)) | (with_reducible refine B_not (fun _ => ?_) (fun _ => ?_)) | (with_reducible refine B_not' (fun _ => ?_) (fun _ => ?_)) | (with_reducible refine B_bl (fun _ => ?_) (fun _ => ?_)) | (with_reducible refine B_bl' (fun _ => ?_) (fun _ => ?_)))
  | (with_reducible refine Bn_id ?_)
  | (with_reducible refine L_id ?_; first
    | (with_reducible refine L_int ?_) | (with_reducible refine L_lenL ?_) | (with_reducible refine L_lenR ?_) | (with_reducible refine L_lenT ?_) | (with_reducible refine' L_lenO ?s1 ?_; (case s1 => with_unfolding_all exact rfl)) | (with_reducible refine L_minM ?_) | (with_reducible refine L_maxM ?_))
  | (with_reducible refine I_id ?_; first
    | (with_reducible refine' ix_left ?s1 ?_; (case s1 => assumption)) | (with_reducible refine' ix_at ?s1 ?_; (case s1 => assumption)) | (with_reducible refine' ix_cells ?s1 ?_; (case s1 => assumption)))
  | (with_reducible refine X_id ?_; first
    | (with_reducible refine X_iteV ?_) | (with_reducible refine X_asgComp ?_) | (with_reducible refine X_retComp ?_) | (with_reducible refine X_exprC ?_) | (with_reducible refine' X_retO ?s1 ?_; (case s1 => with_unfolding_all exact rfl)) | (with_reducible refine X_asgM ?_) | (with_reducible refine X_retM ?_) | (with_reducible refine X_asgT ?_) | (with_reducible refine' X_appendD ?s1 ?_; (case s1 => with_unfolding_all exact rfl)) | (with_reducible refine X_asgC ?_) | (with_reducible refine X_retC ?_) | (with_reducible refine X_parG ?_) | (with_reducible refine X_asgF (A_lstF ?_)) | (with_reducible refine' X_left ?s1 ?_; (case s1 => with_unfolding_all exact rfl)) | (with_reducible refine' X_at ?s1 ?_; (case s1 => with_unfolding_all exact rfl))
    | (with_reducible refine' X_asgV (V_slot ?s1 ?_); (case s1 => with_unfolding_all exact rfl)) | (with_reducible refine X_asgV (V_int ?_)) | (with_reducible refine X_asgV (V_bin ?_)) | (with_reducible refine X_asgV (V_ix ?_)) | (with_reducible refine X_asgV (V_bi ?_)) | (with_reducible refine X_asgV (V_ite ?_)) | (with_reducible refine X_asgV (V_non ?_)) | (with_reducible refine X_asgV (V_bl ?_)) | (with_reducible refine X_asgV (V_str ?_)) | (with_reducible refine X_asgV (V_tup ?_)) | (with_reducible refine X_asgV (V_attr ?_)) | (with_reducible refine X_asgV (V_cmp ?_)) | (with_reducible refine X_asgV (V_and ?_)) | (with_reducible refine X_asgV (V_or ?_)) | (with_reducible refine X_asgV (V_not ?_)) | (with_reducible refine X_asgV (V_neg ?_)) | (with_reducible refine X_asgV (V_dict ?_))
    | (with_reducible refine' X_retV (V_slot ?s1 ?_); (case s1 => with_unfolding_all exact rfl)) | (with_reducible refine X_retV (V_int ?_)) | (with_reducible refine X_retV (V_bin ?_)) | (with_reducible refine X_retV (V_ix ?_)) | (with_reducible refine X_retV (V_bi ?_)) | (with_reducible refine X_retV (V_ite ?_)) | (with_reducible refine X_retV (V_non ?_)) | (with_reducible refine X_retV (V_bl ?_)) | (with_reducible refine X_retV (V_tup ?_)) | (with_reducible refine X_retV (V_neg ?_)) | (with_reducible refine X_retV (V_cmp ?_)) | (with_reducible refine X_retV (V_and ?_)) | (with_reducible refine X_retV (V_or ?_)) | (with_reducible refine X_retV (V_not ?_)) | (with_reducible refine X_retV (V_attr ?_)) | (with_reducible refine X_retV (V_str ?_)))
  | (with_reducible refine XS_id ?_; first | (with_reducible refine XS_nil ?_) | (with_reducible refine XS_norm (by with_unfolding_all ((try simp only [setE, cutE, optD_none, optD_some, List.set_cons_zero, List.set_cons_succ, List.cons_append, List.nil_append, List.length_cons, List.length_nil, Nat.reduceAdd, List.take_succ_cons, List.take_zero]); exact Nf.rfl)) (by with_unfolding_all ((try simp only [setE, cutE, optD_none, optD_some, set_set, List.set_cons_zero, List.set_cons_succ]); exact Nf.rfl)) ?_; with_reducible refine XS_cons ?_)))
local macro_rules | `(tactic| fail "a1p") => `(tactic| first
  | (with_reducible refine V_id ?_; first
    | (with_reducible refine' V_slot ?s1 ?_; (case s1 => with_unfolding_all exact rfl)) | (with_reducible refine V_int ?_) | (with_reducible refine V_bin ?_) | (with_reducible refine V_cmpComp0 ?_) | (with_reducible refine' V_cmpOwn0 ?s1 ?_; (case s1 => with_unfolding_all exact rfl)) | (with_reducible refine V_cmpNil ?_) | (with_reducible refine V_cmp ?_)
    | (with_reducible refine V_str ?_) | (with_reducible refine V_bi ?_) | (with_reducible refine' V_ixO ?s1 ?_; (case s1 => with_unfolding_all exact rfl)) | (with_reducible refine V_ix ?_) | (with_reducible refine V_call ?_) | (with_reducible refine V_attr ?_)
    | (with_reducible refine V_and ?_) | (with_reducible refine V_or ?_) | (with_reducible refine V_not ?_) | (with_reducible refine V_ite ?_) | (with_reducible refine V_tup ?_) | (with_reducible refine V_neg ?_) | (with_reducible refine V_non ?_) | (with_reducible refine V_bl ?_) | (with_reducible refine V_dict ?_) | (with_reducible refine V_meth ?_) | (with_reducible refine V_istV ?_))
  | (with_reducible refine O_id ?_; first
    | (with_reducible refine O_add ?_) | (with_reducible refine O_sub ?_) | (with_reducible refine' O_mul (mul_ok ?s1 ?s2 ?s3 ?s4) ?_; (case s1 => omega); (case s2 => omega); (case s3 => omega); (case s4 => omega)) | (with_reducible refine' O_fdiv (div_ok ?s1 ?s2) ?_; (case s1 => omega); (case s2 => omega)) | (with_reducible refine' O_mod ?s1 ?_; (case s1 => omega))
    | (with_reducible refine' O_powN ?s1 ?s2 ?_; (case s1 => decide); (case s2 => with_unfolding_all (simp only [Int.reduceToNat, Int.reducePow]; exact Nf.rfl))))
  | (with_reducible refine C_id ?_; first
    | (with_reducible refine' C_eqIt ?s1 ?_; (case s1 => assumption)) | (with_reducible refine' C_eqIf ?s1 ?_; (case s1 => assumption)) | (with_reducible refine C_eqI ?_) | (with_reducible refine C_neI ?_) | (with_reducible refine C_eqS ?_) | (with_reducible refine C_neS ?_) | (with_reducible refine C_lt ?_) | (with_reducible refine C_le ?_) | (with_reducible refine C_gt ?_) | (with_reducible refine C_ge ?_)
    | (with_reducible refine C_nett ?_) | (with_reducible refine C_netf ?_) | (with_reducible refine C_neft ?_) | (with_reducible refine C_neff ?_) | (with_reducible refine C_eqtt ?_) | (with_reducible refine C_eqtf ?_) | (with_reducible refine C_eqft ?_) | (with_reducible refine C_eqff ?_) | (with_reducible refine C_neB ?_) | (with_reducible refine C_eqB ?_) | (with_reducible refine C_neNil ?_) | (with_reducible refine C_isN ?_) | (with_reducible refine C_isnN ?_) | (with_reducible refine C_isI ?_) | (with_reducible refine C_isnI ?_) | (with_reducible refine C_neNN ?_) | (with_reducible refine C_neNI ?_) | (with_reducible refine C_neIN ?_))
  | (with_reducible refine B_id ?_; first
    | (with_reducible refine B_t ?_) | (with_reducible refine B_nt ?_) | (with_reducible refine B_nf ?_) | (with_reducible refine B_nt' ?_) | (with_reducible refine B_nf' ?_) | (with_reducible refine B_f ?_) | (with_reducible refine B_t' ?_) | (with_reducible refine B_f' ?_)
    | (with_reducible refine' B_dA ?s1 ?_; (case s1 => assumption)) | (with_reducible refine' B_dN ?s1 ?_; (case s1 => assumption)) | (with_reducible refine' B_dA' ?s1 ?_; (case s1 => assumption)) | (with_reducible refine' B_dN' ?s1 ?_; (case s1 => assumption)) | (with_reducible refine' B_xA ?s1 ?_; (case s1 => assumption)) | (with_reducible refine' B_xN ?s1 ?_; (case s1 => assumption)) | (with_reducible refine' B_xA' ?s1 ?_; (case s1 => assumption)) | (with_reducible refine' B_xN' ?s1 ?_; (case s1 => assumption)) | ((with_reducible refine B_dec (fun _ => ?_) (fun _ => ?_)) <;> (try first | contradiction | (exfalso; omega) | (exact absurd rfl (by assumption)))) | ((with_reducible refine B_dec' (fun _ => ?_) (fun _ => ?_)) <;> (try first | contradiction | (exfalso; omega) | (exact absurd rfl (by assumption)))) | ((with_reducible refine B_not (fun _ => ?_) (fun _ => ?_)) <;> (try first | contradiction | (exfalso; omega) | (exact absurd rfl (by assumption)))) | ((with_reducible refine B_not' (fun _ => ?_) (fun _ => ?_)) <;> (try first | contradiction | (exfalso; omega) | (exact absurd rfl (by assumption)))) | ((with_reducible refine B_bl (fun _ => ?_) (fun _ => ?_)) <;> (try first | contradiction | (exfalso; omega) | (exact absurd rfl (by assumption)))) | ((with_reducible refine B_bl' (fun _ => ?_) (fun _ => ?_)) <;> (try first | contradiction | (exfalso; omega) | (exact absurd rfl (by assumption)))))
  | (with_reducible refine Bn_id ?_)
  | (with_reducible refine L_id ?_; first
    | (with_reducible refine L_int ?_) | (with_reducible refine L_lenL ?_) | (with_reducible refine L_lenR ?_) | (with_reducible refine L_lenT ?_) | (with_reducible refine' L_lenO ?s1 ?_; (case s1 => with_unfolding_all exact rfl)) | (with_reducible refine L_minM ?_) | (with_reducible refine L_maxM ?_))
  | (with_reducible refine I_id ?_; first
    | (with_reducible refine' ix_left ?s1 ?_; (case s1 => assumption)) | (with_reducible refine' ix_at ?s1 ?_; (case s1 => assumption)) | (with_reducible refine' ix_cells ?s1 ?_; (case s1 => assumption)))
  | (with_reducible refine X_id ?_; first
    | (with_reducible refine X_iteV ?_) | (with_reducible refine X_asgComp ?_) | (with_reducible refine X_retComp ?_) | (with_reducible refine X_exprC ?_) | (with_reducible refine' X_retO ?s1 ?_; (case s1 => with_unfolding_all exact rfl)) | (with_reducible refine X_asgM ?_) | (with_reducible refine X_retM ?_) | (with_reducible refine X_asgT ?_) | (with_reducible refine' X_appendD ?s1 ?_; (case s1 => with_unfolding_all exact rfl)) | (with_reducible refine X_asgC ?_) | (with_reducible refine X_retC ?_) | (with_reducible refine X_parG ?_) | (with_reducible refine X_asgF (A_lstF ?_)) | (with_reducible refine' X_left ?s1 ?_; (case s1 => with_unfolding_all exact rfl)) | (with_reducible refine' X_at ?s1 ?_; (case s1 => with_unfolding_all exact rfl))
    | (with_reducible refine' X_asgV (V_slot ?s1 ?_); (case s1 => with_unfolding_all exact rfl)) | (with_reducible refine X_asgV (V_int ?_)) | (with_reducible refine X_asgV (V_bin ?_)) | (with_reducible refine X_asgV (V_ix ?_)) | (with_reducible refine X_asgV (V_bi ?_)) | (with_reducible refine X_asgV (V_ite ?_)) | (with_reducible refine X_asgV (V_non ?_)) | (with_reducible refine X_asgV (V_bl ?_)) | (with_reducible refine X_asgV (V_str ?_)) | (with_reducible refine X_asgV (V_tup ?_)) | (with_reducible refine X_asgV (V_attr ?_)) | (with_reducible refine X_asgV (V_cmp ?_)) | (with_reducible refine X_asgV (V_and ?_)) | (with_reducible refine X_asgV (V_or ?_)) | (with_reducible refine X_asgV (V_not ?_)) | (with_reducible refine X_asgV (V_neg ?_)) | (with_reducible refine X_asgV (V_dict ?_))
    | (with_reducible refine' X_retV (V_slot ?s1 ?_); (case s1 => with_unfolding_all exact rfl)) | (with_reducible refine X_retV (V_int ?_)) | (with_reducible refine X_retV (V_bin ?_)) | (with_reducible refine X_retV (V_ix ?_)) | (with_reducible refine X_retV (V_bi ?_)) | (with_reducible refine X_retV (V_ite ?_)) | (with_reducible refine X_retV (V_non ?_)) | (with_reducible refine X_retV (V_bl ?_)) | (with_reducible refine X_retV (V_tup ?_)) | (with_reducible refine X_retV (V_neg ?_)) | (with_reducible refine X_retV (V_cmp ?_)) | (with_reducible refine X_retV (V_and ?_)) | (with_reducible refine X_retV (V_or ?_)) | (with_reducible refine X_retV (V_not ?_)) | (with_reducible refine X_retV (V_attr ?_)) | (with_reducible refine X_retV (V_str ?_)))
  | (with_reducible refine XS_id ?_; first | (with_reducible refine XS_nil ?_) | (with_reducible refine XS_norm (by with_unfolding_all ((try simp only [setE, cutE, optD_none, optD_some, List.set_cons_zero, List.set_cons_succ, List.cons_append, List.nil_append, List.length_cons, List.length_nil, Nat.reduceAdd, List.take_succ_cons, List.take_zero]); exact Nf.rfl)) (by with_unfolding_all ((try simp only [setE, cutE, optD_none, optD_some, set_set, List.set_cons_zero, List.set_cons_succ]); exact Nf.rfl)) ?_; with_reducible refine XS_cons ?_)))
local macro_rules | `(tactic| fail "a2") => `(tactic| first
  | (with_reducible refine AS_nil ?_)
  | (with_reducible refine AS_cons ?_)
  | (with_reducible refine D_id ?_; first | (with_reducible refine D_comp ?_) | (with_reducible refine D_call ?_) | (with_reducible refine D_meth ?_) | (with_reducible refine D_lst ?_) | (with_reducible refine' D_own ?s1 ?_; (case s1 => with_unfolding_all exact rfl)) | (with_reducible refine AD_V ?_))
  | (with_reducible refine' At_id ?s1 ?s2 ?s3 ?_; (case s1 => with_unfolding_all exact rfl); (case s2 => with_unfolding_all exact rfl); (case s3 => with_unfolding_all exact rfl))
  | (with_reducible refine' Mt_id ?s1 ?s2 ?s3 ?_; (case s1 => with_unfolding_all exact rfl); (case s2 => with_unfolding_all exact rfl); (case s3 => with_unfolding_all exact rfl))
  | (with_reducible refine' Ap_id2 ?s1 ?s2 ?_; (case s1 => with_unfolding_all exact rfl); (case s2 => first | assumption | omega | (simp only [List.length_append, List.length_cons, List.length_nil, List.length_map] at *; omega)))
  | (with_reducible refine' Sz_id ?s1 ?_; (case s1 => with_unfolding_all exact rfl))
  | (with_reducible refine' bT_id ?s1 ?_; (case s1 => with_unfolding_all exact rfl))
  | (with_reducible refine' Pa_id ?s1 ?_; (case s1 => with_unfolding_all exact rfl))
  | (with_reducible refine AI_zip ?_)
  | (with_reducible refine AI_enum ?_)
  | (with_reducible refine AI_rev ?_)
  | (with_reducible refine AI_range1V ?_)
  | (with_reducible refine AI_range2V ?_)
  | (with_reducible refine AP_nil ?_)
  | (with_reducible refine' AP_consO ?s1 ?_; (case s1 => with_unfolding_all exact rfl))
  | (with_reducible refine AP_consA ?_)
  | (with_reducible refine AK_nil ?_)
  | (with_reducible refine AK_cons ?_)
  | (with_reducible refine AO_none ?_)
  | (with_reducible refine AO_someV ?_)
  | (with_reducible refine I_neg ?_)
  | (with_reducible refine isD_val ?_)
  | (with_reducible refine isD_fresh ?_)
  | (with_reducible refine isS_val ?_)
  | (with_reducible refine isS_fresh ?_)
  | (with_reducible refine isV ?_)
  | (with_reducible refine AG_nil ?_)
  | (with_reducible refine AG_call ?_)
  | (with_reducible refine AG_new (A_lstF ?_))
  | (with_reducible refine AG_val ?_)
  | (with_reducible refine FG_nil ?_)
  | (with_reducible refine AI_lst ?_)
  | (with_reducible refine N_thn ?_)
  | (with_reducible refine R_thn ?_)
  | (with_reducible refine N_loop ?_)
  | (with_reducible refine R_loop ?_)
  | (with_reducible refine E_loop ?_)
  | (with_reducible refine B_loop ?_)
  | (with_reducible refine C_loop ?_)
  | (with_reducible refine B_thn ?_)
  | (with_reducible refine C_thn ?_)
  | (with_reducible refine X_brk ?_)
  | (with_reducible refine X_cont ?_)
  | (with_reducible refine E_thn ?_)
  | (with_reducible refine R_fx ?_)
  | (with_reducible refine N_fx ?_))
local macro_rules | `(tactic| fail "a2s") => `(tactic| first
  | (with_reducible refine AS_nil ?_)
  | (with_reducible refine AS_cons ?_)
  | (with_reducible refine D_id ?_; first | (with_reducible refine D_comp ?_) | (with_reducible refine D_call ?_) | (with_reducible refine D_meth ?_) | (with_reducible refine D_lst ?_) | (with_reducible refine' D_own ?s1 ?_; (case s1 => with_unfolding_all exact rfl)) | (with_reducible refine AD_V ?_))
  | (with_reducible refine' At_id ?s1 ?s2 ?s3 ?_; (case s1 => with_unfolding_all exact rfl); (case s2 => with_unfolding_all exact rfl); (case s3 => with_unfolding_all exact rfl))
  | (with_reducible refine' Mt_id ?s1 ?s2 ?s3 ?_; (case s1 => with_unfolding_all exact rfl); (case s2 => with_unfolding_all exact rfl); (case s3 => with_unfolding_all exact rfl))
  | (with_reducible refine' Ap_id2 ?s1 ?s2 ?_; (case s1 => with_unfolding_all exact rfl); (case s2 => first | assumption | omega | (simp only [List.length_append, List.length_cons, List.length_nil, List.length_map] at *; omega)))
  | (with_reducible refine' Sz_id ?s1 ?_; (case s1 => with_unfolding_all exact rfl))
  | (with_reducible refine' bT_id ?s1 ?_; (case s1 => with_unfolding_all exact rfl))
  | (with_reducible refine' Pa_id ?s1 ?_; (case s1 => with_unfolding_all exact rfl))
  | (with_reducible refine AI_zip ?_)
  | (with_reducible refine AI_enum ?_)
  | (with_reducible refine AI_rev ?_)
  | (with_reducible refine AI_range1V ?_)
  | (with_reducible refine AI_range2V ?_)
  | (with_reducible refine AP_nil ?_)
  | (with_reducible refine' AP_consO ?s1 ?_; (case s1 => with_unfolding_all exact rfl))
  | (with_reducible refine AP_consA ?_)
  | (with_reducible refine AK_nil ?_)
  | (with_reducible refine AK_cons ?_)
  | (with_reducible refine AO_none ?_)
  | (with_reducible refine AO_someV ?_)
  | (with_reducible refine I_neg ?_)
  | (with_reducible refine isD_val ?_)
  | (with_reducible refine isD_fresh ?_)
  | (with_reducible refine isS_val ?_)
  | (with_reducible refine isS_fresh ?_)
  | (with_reducible refine isV ?_)
  | (with_reducible refine AG_nil ?_)
  | (with_reducible refine AG_call ?_)
  | (with_reducible refine AG_new (A_lstF ?_))
  | (with_reducible refine AG_val ?_)
  | (with_reducible refine FG_nil ?_)
  | (with_reducible refine AI_lst ?_)
  | (with_reducible refine R_thn ?_)
  | (with_reducible refine N_loop ?_)
  | (with_reducible refine R_loop ?_)
  | (with_reducible refine E_loop ?_)
  | (with_reducible refine B_loop ?_)
  | (with_reducible refine C_loop ?_)
  | (with_reducible refine B_thn ?_)
  | (with_reducible refine C_thn ?_)
  | (with_reducible refine X_brk ?_)
  | (with_reducible refine X_cont ?_)
  | (with_reducible refine E_thn ?_)
  | (with_reducible refine R_fx ?_)
  | (with_reducible refine N_fx ?_))
section
open PySem PySem.Spec L2
section
variable {G : Glb} {B : Ent} {n0 : Nat} {fr : Fr} {ρ : St} {H F F' : Hp} {io : List Addr} {x : Addr} {o1 o2 : HO} {sto : List Cell}
/-- the thing that is being made changes -/
theorem Ws.repend (w : Ws G (B.add x o1) n0 fr ρ H F io) (fx : F x = none) (nio : ∀ n : Nat, io[n]? ≠ some x) : Ws G (B.add x o2) n0 fr ρ (upd H x o2) F io := @Rz _ _ (fun qz => @Hz.get _ _ (qz.bar : Hz _ (by
  clear qz
  have add : ∀ {a : Addr} {o : HO}, a ≠ x → (B.add x o).hp a = B.hp a := fun {a o} n => upd_ne n
  have hne : ∀ a u, H a = some u → a ≠ x → (upd H x o2) a = some u := fun a u e n => by rw [upd_ne n]; exact e
  refine ⟨⟨fun a u e => ?_, w.wr.len, fun n c e => ?_, w.wr.inj, fun a u e k => ?_, fun n a hn e => ?_, w.wr.frz, w.wr.nle, fun a u v e1 e2 => ?_⟩, w.sl.len, fun i sl e => ?_, w.sl.dis⟩
  · exact hne a u (w.wr.sub a u e) fun z => by rw [z, fx] at e; cases e
  · obtain ⟨a, e1, e2, e3⟩ := w.wr.cel n c e
    have na : a ≠ x := fun z => nio n (z ▸ e1)
    refine ⟨a, e1, e2, ?_⟩
    cases c with
    | dict kvs => obtain ⟨us, h1, h2⟩ := e3; exact ⟨us, hne _ _ h1 na, h2⟩
    | inst c fs => obtain ⟨dx, us, h1, h2⟩ := e3; exact ⟨dx, us, hne _ _ h1 na, h2⟩
  · have e : (B.add x o2).hp a = some u := e
    by_cases q : a = x
    · subst q
      have e' : upd B.hp a o2 a = some u := e
      rw [upd_same] at e' ⊢; exact e'
    · rw [add q] at e
      exact hne a u (w.wr.keep a u (by show (B.add x o1).hp a = _; rw [add q]; exact e) k) q
  · have na : a ≠ x := fun z => nio n (z ▸ e)
    have := w.wr.new n a hn e
    have this : (B.add x o1).hp a = none := this
    show (B.add x o2).hp a = none
    rw [add na] at this ⊢; exact this
  · have na : a ≠ x := fun z => by rw [z, fx] at e2; cases e2
    have e1 : (B.add x o2).hp a = some u := e1
    rw [add na] at e1
    exact w.wr.old a u v (by show (B.add x o1).hp a = _; rw [add na]; exact e1) e2
  · have q := w.sl.at_ i sl e
    cases sl with
    | un => trivial
    | val d => exact q
    | own xs =>
      obtain ⟨q, e1, vs, h1, h2, h3, h4, h5⟩ := q
      have h4 : (B.add x o1).hp q = none := h4
      have nq : q ≠ x := fun z => by
        have h4' : upd B.hp x o1 q = none := h4
        rw [z, upd_same] at h4'; cases h4'
      refine ⟨q, e1, vs, hne _ _ h1 nq, h2, h3, ?_, h5⟩
      show (B.add x o2).hp q = none
      rw [add nq] at h4 ⊢; exact h4))) Xz.mk
/-- it does not change any more -/
theorem Wr.freezeI (w : Wr G B n0 sto H F io) (hx : H x = some o1) (fx : F x = none) (nio : ∀ n : Nat, io[n]? ≠ some x) (bx : B x = none) (fo : Fz o1) : Same F (upd F x o1) ∧ Wr G B n0 sto H (upd F x o1) io := @Rz _ _ (fun qz => @Hz.get _ _ (qz.bar : Hz _ (by
  clear qz
  have s : Same F (upd F x o1) := fun a u e => by rw [upd_ne (fun z => by rw [z, fx] at e; cases e)]; exact e
  refine ⟨s, fun a u e => ?_, w.len, fun n c e => ?_, w.inj, w.keep, w.new, fun a u e => ?_, w.nle, fun a u v e1 e2 => ?_⟩
  · by_cases q : a = x
    · subst q; rw [upd_same] at e; cases e; exact hx
    · rw [upd_ne q] at e; exact w.sub a u e
  · obtain ⟨a, e1, e2, e3⟩ := w.cel n c e
    have na : a ≠ x := fun z => nio n (z ▸ e1)
    refine ⟨a, e1, by rw [upd_ne na]; exact e2, ?_⟩
    cases c with
    | dict kvs => obtain ⟨us, h1, h2⟩ := e3; exact ⟨us, h1, h2.mono s (Pre.refl _)⟩
    | inst c fs => obtain ⟨dx, us, h1, h2⟩ := e3; exact ⟨dx, us, h1, h2.mono s (Pre.refl _)⟩
  · by_cases q : a = x
    · subst q; rw [upd_same] at e; cases e; exact fo
    · rw [upd_ne q] at e; exact w.frz a u e
  · by_cases q : a = x
    · subst q; rw [bx] at e1; cases e1
    · rw [upd_ne q] at e2; exact w.old a u v e1 e2))) Xz.mk
end
section
variable {E : En} {e a b c : Expr} {ta tb tc : Tm} {fr : Fr} {σ tp : St} {H F : Hp} {io : List Addr} {Q : VK} {pos : Pos} {es : List Expr} {ts : List Tm} {D : Ends}
theorem RepF.put (inj : ∀ f g, E.G.fn f = E.G.fn g → f = g) {f : Nat} {d : Ag.D} {v : V} (h : Rep E.G F io d v) : ∀ {fs : List (Nat × Ag.D)} {us : List (Str × V)}, RepF E.G F io fs us → RepF E.G F io (fput f d fs) (putF (E.G.fn f) v us)
  | _, _, .nil => .cons h .nil
  | _, _, .cons (f := g) (d := d') (v := v') (ds := ds) (vs := vs) h1 r => by
    unfold fput putF
    by_cases q : g = f
    · subst q
      rw [if_pos rfl, if_pos rfl]
      exact .cons h r
    · rw [if_neg q, if_neg fun z => q (inj _ _ z)]
      exact .cons h1 (RepF.put inj h r)
theorem RepF.len {G : Glb} : ∀ {fs : List (Nat × Ag.D)} {us : List (Str × V)}, RepF G F io fs us → fs.length = us.length
  | _, _, .nil => rfl
  | _, _, .cons _ r => by rw [List.length_cons, List.length_cons, r.len]
/-- where the thing that is being made stands: known from the entry on, no part of F, no cell -/
structure Pend (E : En) (B : Ent) (x dx : Addr) (c : Nat) (us : List (Str × V)) (fr : Fr) (ρ : St) (H F : Hp) (io : List Addr) : Prop where
  ws : (E.at (B.add x (.ins (E.G.cl c) dx us))).ws fr ρ H F io
  fx : F x = none
  io : ∀ n : Nat, io[n]? ≠ some x
theorem Pend.at_ {B : Ent} {x dx : Addr} {k : Nat} {us : List (Str × V)} {ρ : St} (p : Pend E B x dx k us fr ρ H F io) : H x = some (.ins (E.G.cl k) dx us) := p.ws.wr.keep x _ upd_same fun n _ => p.io n
theorem Pend.of {B : Ent} {x dx : Addr} {k : Nat} {us : List (Str × V)} {ρ : St} {fr1 : Fr} {H1 F1 : Hp} {io1 : List Addr} (bx : B.fz x = none) (p : Pend E B x dx k us fr ρ H F io) (q : Pre io io1)
    (w : (E.at (B.add x (.ins (E.G.cl k) dx us))).ws fr1 ρ H1 F1 io1) : Pend E B x dx k us fr1 ρ H1 F1 io1 := @Rz _ _ (fun qz => @Hz.get _ _ (qz.bar : Hz _ (by
  clear qz
  have hx : (B.add x (.ins (E.G.cl k) dx us)).hp x = some (.ins (E.G.cl k) dx us) := upd_same
  refine ⟨w, ?_, fun n e => ?_⟩
  · cases z : F1 x with
    | none => rfl
    | some u =>
      have : B.fz x = some u := w.wr.old x _ u hx z
      rw [bx] at this; cases this
  · by_cases h : n < E.n0
    · have hlt : n < io.length := Nat.lt_of_lt_of_le h p.ws.wr.nle
      have e2 := q n _ (List.getElem?_eq_getElem hlt)
      rw [e] at e2
      exact p.io n ((List.getElem?_eq_getElem hlt).trans e2.symm)
    · have := w.wr.new n x (Nat.le_of_not_lt h) e
      have this : (B.add x (.ins (E.G.cl k) dx us)).hp x = none := this
      rw [hx] at this; cases this))) Xz.mk
/-- the statements of an __init__ -/
inductive Ini (E : En) (self : Str) : List Stmt → List (Option Nat × Tm) → Prop
  | nil : Ini E self [] []
  | doc {y : Str} {j : Nat} {p q : Pos} {sts ib} : Ini E self sts ib → Ini E self (.Expr (.Constant (.str y) j p) q :: sts) ib
  | set {f : Nat} {x : Str} {v : Expr} {t : Tm} {p1 p2 p3 : Pos} {sts ib} : E.G.fn f = x → (∀ l, swapsWith v (some (.Attribute (.Name self p1) x p2)) l E.X.env = pure false) → (∀ h0, SE (E.at h0) v t) → Ini E self sts ib → Ini E self (.Assign [.Attribute (.Name self p1) x p2] v p3 :: sts) ((some f, t) :: ib)
  | expr {v : Expr} {t : Tm} {p : Pos} {sts ib} : (∀ l, swapsWith v none l E.X.env = pure false) → (∀ h0, SE (E.at h0) v t) → Ini E self sts ib → Ini E self (.Expr v p :: sts) ((none, t) :: ib)
theorem Ini.run {self : Str} {sts : List Stmt} {ib : List (Option Nat × Tm)} (ok : E.Ok) (h : Ini E self sts ib) {k : Nat} (hN : E.X.N[0]? = some self) (hv : Vis E.X.env.scope self) (hd : (self == ("__debug__" : Str)) = false) (hcd : (self == ("__classdict__" : Str)) = false)
    (hc : Cls E.X.K (E.G.cl k)) (hna : ∀ f t, (some f, t) ∈ ib → NoAttr E.X.K (E.G.cl k) (E.G.fn f)) : ∀ {B : Ent} {x dx : Addr} {us : List (Str × V)} {fs : List (Nat × Ag.D)} {fr : Fr} {H F : Hp} {io : List Addr}, B.fz x = none → Ext E.H0 (B.add x (.ins (E.G.cl k) dx us)) → (∀ us, Ext E.H0 (B.add x (.ins (E.G.cl k) dx us))) → σ.length = E.X.N.length →
    σ[0]? = some (some (.ref x)) → Pend E B x dx k us fr (σ ++ tp) H F io → RepF E.G F io fs us →
    (iniGo E.T ib fs fr).all (fun fs' fr' => ∀ H' F' io' us', Same F F' → Pre io io' → Pend E B x dx k us' fr' (σ ++ tp) H' F' io' → RepF E.G F' io' fs' us' → D.nx σ H') (exE E σ tp F io) → wSs E.X sts D σ H := @Rz _ _ (fun qz => @Hz.get _ _ (qz.bar : Hz _ (by
  clear qz
  induction h with
  | nil =>
    intro B x dx us fs fr H F io bx _ ext hl hs p r z
    unfold iniGo at z
    exact wSs_of pss_nil (z H F io us (Same.refl _) (Pre.refl _) p r)
  | doc h ih =>
    intro B x dx us fs fr H F io bx e1 ext hl hs p r z
    exact wSs_of (pss_cons ps_doc pss_w) (ih hna bx e1 ext hl hs p r z)
  | @set f y v t p1 p2 p3 sts ib hf hsw hv' h ih =>
    intro B x dx us fs fr H F io bx e1 ext hl hs p r z
    refine wSs_of (pss_cons (ps_fld (pe_var hN hv hd hcd) pe_w (hsw _)) pss_w) ?_
    unfold iniGo at z
    show wE E.X v σ H _
    refine SE.partX (E := E) (hv' (B.add x (.ins (E.G.cl k) dx us))) e1 hl p.ws z fun d fr1 u H1 F1 io1 s1 q1 w1 rd z1 => ?_
    have p1' := p.of bx q1 w1
    refine ⟨.ref x, hs, x, _, dx, us, rfl, p1'.at_, hc, by rw [← hf]; exact hna f t (List.mem_cons_self ..), ?_, ?_⟩
    · split at z1
      case isFalse => exact z1.elim
      rename_i hz
      rw [← r.len]; exact hz
    · split at z1
      case isFalse => exact z1.elim
      have w2 := Ws.repend (o2 := .ins (E.G.cl k) dx (putF y u us)) w1 p1'.fx p1'.io
      refine ih (us := putF y u us) (fs := fput f d fs) (fr := fr1) (fun g t' hg => hna g t' (List.mem_cons_of_mem _ hg)) bx (ext _) ext hl hs ⟨w2, p1'.fx, p1'.io⟩ ?_ ?_
      · rw [← hf]; exact RepF.put ok.inj rd (r.mono s1 q1)
      · exact Rs.all_imp z1 (fun fs' fr' g H' F' io' us' s2 q2 => g H' F' io' us' (s1.trans s2) (q1.trans q2)) fun _ _ _ g => g
  | @expr v t p0 sts ib hsw hv' h ih =>
    intro B x dx us fs fr H F io bx e1 ext hl hs p r z
    refine wSs_of (pss_cons (ps_expr pe_w (hsw _)) pss_w) ?_
    unfold iniGo at z
    show wE E.X v σ H _
    refine hv' (B.add x (.ins (E.G.cl k) dx us)) fr σ tp H F io _ hl p.ws (Rs.all_imp (Rs.all_bind z) (fun rv fr1 z1 => ?_) fun _ _ _ g => g.at e1)
    intro u H1 F1 io1 s1 q1 w1 _
    have p1' := p.of bx q1 w1
    exact ih (us := us) (fs := fs) (fr := fr1) (fun g t' hg => hna g t' (List.mem_cons_of_mem _ hg)) bx (ext _) ext hl hs p1' (r.mono s1 q1) (Rs.all_imp z1 (fun fs' fr' g H' F' io' us' s2 q2 => g H' F' io' us' (s1.trans s2) (q1.trans q2)) fun _ _ _ g => g.mono s1 q1)))) Xz.mk
end
end
section
open PySem L2
/-- the statements of an __init__ by core terms -/
def cvIni (C : Cv) (n : Nat) (sc : Scope) (self : Str) : List Stmt → Option (List (Option Nat × Tm))
  | [] => some []
  | st :: r => match st with
    | .Expr (.Constant (.str _) _ _) _ => cvIni C n sc self r
    | .Assign [.Attribute (.Name s _) f _] v _ => if s == self && notComp v then o3 (C.nms.lookup f) (cvE C n sc v) (cvIni C n sc self r) fun k t b => some ((some k, t) :: b) else none
    | .Expr v _ => if notComp v then o2 (cvE C n sc v) (cvIni C n sc self r) fun t b => some ((none, t) :: b) else none
    | _ => none
theorem cvIni_sound {C : Cv} {n : Nat} {sc : Scope} {E : En} {self : Str} (c : CtxOk C sc E) : ∀ {sts : List Stmt} {ib : List (Option Nat × Tm)}, cvIni C n sc self sts = some ib → Ini E self sts ib := @Rz _ _ (fun qz => @Hz.get _ _ (qz.bar : Hz _ (by
  clear qz
  intro sts
  induction sts with
  | nil => intro ib h; unfold cvIni at h; cases h; exact .nil
  | cons st r ih =>
    intro ib h
    unfold cvIni at h
    split at h
    · exact .doc (ih h)
    · split at h
      case isFalse => cases h
      rename_i q
      rw [Bool.and_eq_true, beq_iff_eq] at q
      obtain ⟨k, t, b, h1, h2, h3, h4⟩ := triple_some h
      cases h4
      obtain ⟨rfl, q2⟩ := q
      exact .set (c.nms _ _ h1) (fun l => swaps_no q2 _ _ _) (fun h0 => ((cv_sound n C sc).1 (E.at h0) _ _ (c.at h0) h2).1) (ih h3)
    · split at h
      case isFalse => cases h
      rename_i q
      obtain ⟨t, b, h1, h2, h3⟩ := pair_some h
      cases h3
      exact .expr (fun l => swaps_no q _ _ _) (fun h0 => ((cv_sound n C sc).1 (E.at h0) _ _ (c.at h0) h1).1) (ih h2)
    · cases h))) Xz.mk
/-- what an __init__ promises: the instance as phi tells it, from then on unchanged -/
def spMk (G : Glb) (c n : Nat) (phi : Fn) : Sp := fun vs H Q Ex => ∃ x dx vs' ds sto H0 F io, vs = V.ref x :: vs' ∧ ds.length = n ∧ H0 x = none ∧ H0 dx = none ∧ dx ≠ x ∧ H = upd (upd H0 dx (.own x)) x (.ins (G.cl c) dx []) ∧ Reps G F io ds vs' ∧ Wr G ⟨H0, F⟩ io.length sto H0 F io ∧
  (phi ds sto).all (fun o sto' => ∀ fs, o = .val (.obj c fs) → ∀ H' F' io', Same F F' → Pre io io' → Wr G ⟨H0, F⟩ io.length sto' H' F' io' → Rep G F' io' (.obj c fs) (.ref x) → Q .non H')
    (fun k fs sto' => ∀ d H' F' io', Same F F' → Pre io io' → Wr G ⟨H0, F⟩ io.length sto' H' F' io' → ExOk G F' io' H' k fs d → Ex (.ref (G.cl k)) d H')
theorem iniFn_len {T : Tab} {c n np : Nat} {ib : List (Option Nat × Tm)} {ds : List Ag.D} {sto : List Cell} (h : iniFn T c n np ib ds sto ≠ .bad) : ds.length = np := @Rz _ _ (fun qz => @Hz.get _ _ (qz.bar : Hz _ (by
  clear qz
  unfold iniFn at h
  by_cases q : ds.length = np
  · exact q
  · rw [if_neg q] at h; exact absurd rfl h))) Xz.mk
theorem iniFn_obj {T : Tab} {c n np : Nat} {ib : List (Option Nat × Tm)} {ds : List Ag.D} {sto s : List Cell} {o : Out} (h : iniFn T c n np ib ds sto = .ret o s) : ∃ fs, o = .val (.obj c fs) := @Rz _ _ (fun qz => @Hz.get _ _ (qz.bar : Hz _ (by
  clear qz
  unfold iniFn at h
  split at h
  · split at h
    · cases h; exact ⟨_, rfl⟩
    · cases h
    · cases h
  · cases h))) Xz.mk
section
variable {E : En} {fr : Fr} {σ tp : St} {H F : Hp} {io : List Addr} {Q : VK}
/-- a class that is called -/
theorem calls_make {k n c : Nat} {f : Addr} {fd : FuncData} {ps : List Str} {phi : Fn} (ok : E.Ok) (M : Mk E.X.K (E.G.cl c) f) (FK : FnOk E.X.prog E.X.w E.X.K E.X.mg E.X.base (L2.CX E.X.prog E.X.w) k f fd ps (spMk E.G c n phi)) (hr : Room (k + 1) E.X.A) (hb : Binds E.X.K fd ps [])
    (hn : ∀ ds sto, phi ds sto ≠ .bad → ds.length = n) (ho : ∀ ds sto o s, phi ds sto = .ret o s → ∃ fs, o = .val (.obj c fs)) : Calls E (.ref (E.G.cl c)) phi := @Rz _ _ (fun qz => @Hz.get _ _ (qz.bar : Hz _ (by
  clear qz
  intro fr σ tp H F io Q ds vs us pins s w r rv I h
  have hnb : phi ds fr.sto ≠ .bad := fun z => by rw [z] at h; exact h
  let dx : Addr := s.heap.objs.size
  let x : Addr := s.heap.objs.size + 1
  have hx : H x = none := I.hok.fresh (Nat.le_succ _)
  have hdx : H dx = none := I.hok.fresh (Nat.le_refl _)
  have hsp : spMk E.G c n phi (V.ref x :: vs) (upd (upd H dx (.own x)) x (.ins (E.G.cl c) dx [])) (fun v H2 => v = .non ∧ Q (.ref x) H2) (fun cls d H' => E.W cls d σ H') := by
    refine ⟨x, dx, vs, ds, fr.sto, H, F, io, rfl, hn _ _ hnb, hx, hdx, Nat.ne_of_lt (Nat.lt_succ_self _), rfl, r, ⟨w.wr.sub, w.wr.len, w.wr.cel, w.wr.inj, fun a o e _ => e, fun m a hm e => ?_, w.wr.frz, Nat.le_refl _, fun a o u _ e => e⟩, ?_⟩
    · have := (List.getElem?_eq_some_iff.mp e).1
      omega
    · cases q : phi ds fr.sto with
      | bad => exact absurd q hnb
      | ret o sto' =>
        obtain ⟨fs, rfl⟩ := ho _ _ _ _ q
        rw [q] at h
        intro fs' e H' F' io' s1 p1 w1 rp
        cases e
        exact ⟨rfl, h (.ref x) H' F' io' s1 p1 (w.after s1 p1 w1) rp⟩
      | exc kx fs sto' =>
        rw [q] at h
        intro d H' F' io' s1 p1 w1 xo
        exact h d H' F' io' s1 p1 (w.after s1 p1 w1) xo
  have I2 : Inv E.X pins σ _ _ := Inv.made (C := E.G.cl c) I
  have rv2 : Vals (V.ref x :: vs) (Value.ref x :: us) := .cons rfl rv
  have hl : (Value.ref x :: us ++ []).length = ps.length := by
    rw [List.append_nil, ← rv2.length]; exact FK.len _ _ _ _ hsp
  have hB := hb _ (Value.ref x :: us) I2.kIn hl
  rw [List.append_nil] at hB
  have called := FK.run _ E.X.stack _ _ ⟨Value.ref x :: us, []⟩ _ _ _ _ (hr.make (E.G.cl c) us []) (I2.env0.make (E.G.cl c) us []) hB rv2 hsp
  refine wpAny_call (make_map (f := f) I.kIn M.makes M.init (beq_iff_eq.mp M.fn) (codeAny_mono called fun q s' hq => ?_))
  match q, hq with
  | .error e, hq => exact ok.tk e s' (XE.of_call I2 (fun _ _ _ z => z) hq)
  | .ok (.ret u), hq =>
    obtain ⟨v, H', I3, r3, rfl, q3⟩ := I2.after hq
    exact ⟨r3, V.ref x, H', I3, rfl, q3⟩))) Xz.mk
end
section
variable {P : Program} {w : World} {K : PySem.W.Frag} {mg : Str → Option Value} {base : Heap} {G : Glb} {T : Tab} {C : Cv} {k : Nat}
theorem start_ini {N : List Str} {F : Hp} {io : List Addr} {ds : List Ag.D} {vs : List V} {H0 : Ent} {H : Hp} {x : Addr} (r : Reps G F io ds vs) (hl : ds.length + 1 ≤ N.length) :
    Sl G H0 H F io (Slot.un :: (ds.map Slot.val ++ List.replicate (N.length - 1 - ds.length) Slot.un)) (L2.start N (V.ref x :: vs)) := @Rz _ _ (fun qz => @Hz.get _ _ (qz.bar : Hz _ (by
  clear qz
  have lv := r.length
  have hd : ∀ (i : Nat) (s : Slot), (Slot.un :: (ds.map Slot.val ++ List.replicate (N.length - 1 - ds.length) Slot.un))[i]? = some s → s = .un ∨ ∃ j d, i = j + 1 ∧ ds[j]? = some d ∧ s = .val d := fun i s e => by
    cases i with
    | zero => cases e; exact .inl rfl
    | succ j =>
      rw [List.getElem?_cons_succ] at e
      by_cases q : j < (ds.map Slot.val).length
      · rw [List.getElem?_append_left q, List.getElem?_map] at e
        cases z : ds[j]? with
        | none => rw [z] at e; cases e
        | some d => rw [z] at e; cases e; exact .inr ⟨j, d, rfl, z, rfl⟩
      · rw [List.getElem?_append_right (Nat.le_of_not_lt q), List.getElem?_replicate] at e
        split at e <;> cases e
        exact .inl rfl
  refine ⟨?_, fun i s e => ?_, fun i j xs ys p e1 e2 _ _ => ?_⟩
  · unfold L2.start
    simp only [List.length_append, List.length_map, List.length_replicate, List.length_cons]
    omega
  · rcases hd i s e with rfl | ⟨j, d, rfl, e1, rfl⟩
    · trivial
    · obtain ⟨v, e2, rv⟩ := r.get e1
      refine ⟨v, ?_, rv⟩
      unfold L2.start
      have hj : j + 1 < ((V.ref x :: vs).map some).length := by
        rw [List.length_map, List.length_cons]
        have := (List.getElem?_eq_some_iff.mp e2).1
        omega
      rw [List.getElem?_append_left hj, List.getElem?_map, List.getElem?_cons_succ, e2]; rfl
  · rcases hd i _ e1 with z | ⟨_, d, _, _, z⟩ <;> cases z))) Xz.mk
/-- THE RULE for an __init__ -/
theorem make_ok {qual : Str} {st : Stmt} {f : Addr} {fd : FuncData} {self : Str} {ps : List Str} {ib : List (Option Nat × Tm)} {c n : Nat} (B : Base K mg G T C) (FF : Fun K "__init__" qual st f fd) (S : FnScope C.N (self :: ps) (defScope st))
    (hfn : ∀ x i, C.fns.lookup x = some i → Good P w K mg base G k x (T.phi i)) (hme : ∀ m, C.meths.contains m = true → ∀ c i, T.psi c m = some i → GoodM P w K mg base G k c m (T.phi i))
    (hfc : C.fnc = fun _ => true) (hc : cvIni C n (defScope st) self (defBody st) = some ib) (hself : rdSlot C (defScope st) self = some 0) (hN : ps.length + 1 ≤ C.N.length) (hcl : Cls K (G.cl c)) (hna : ∀ f t, (some f, t) ∈ ib → NoAttr K (G.cl c) (G.fn f)) :
    FnOk P w K mg base (L2.CX P w) (k + 1) f fd (self :: ps) (spMk G c ps.length (iniFn T c C.N.length ps.length ib)) := @Rz _ _ (fun qz => @Hz.get _ _ (qz.bar : Hz _ (by
  clear qz
  refine FF.okX S (fun vs H Q Ex h => ?_) fun cdv A outer s H vs Q Ex hr h => ?_
  · obtain ⟨x, dx, vs', ds, sto, H0, F, io, rfl, h1, _, _, _, _, h2, _⟩ := h
    rw [List.length_cons, List.length_cons, ← h2.length, h1]
  · obtain ⟨x, dx, vs', ds, sto, H0, F, io, rfl, h1, hx0, hd0, hne, rfl, h2, h3, h4⟩ := h
    let E : En := ⟨cxOf (L2.CX P w) P w K mg base C.N qual (defScope st) f cdv A outer s (upd (upd H0 dx (.own x)) x (.ins (G.cl c) dx [])) Ex, G, ⟨H0, F⟩, io.length, T, fun cls d _ H' => Ex cls d H'⟩
    have ok : E.Ok := ⟨B.k, S.nd, rfl, by have := room5 hr; exact this, takes_of rfl rfl rfl rfl, B.inj, B.fld⟩
    have cx : CtxOk C (defScope st) E := ⟨ok, rfl, rfl, S.kind, fun y i e E' kn ok' => by
        obtain ⟨u, g1, g2, g3⟩ := hfn y i e
        have hA : E'.X.A = E.X.A := kn.A
        have := g3 E' kn.prog kn.w kn.K kn.mg kn.base kn.G ok' (by rw [hA]; exact hr)
        exact ⟨u, by rw [kn.mg]; exact g1, by rw [kn.K]; exact g2, by rw [kn.T]; exact this⟩, B.nms, fun m hm cc i e E' kn ok' => by
        obtain ⟨g1, g, g2, g3⟩ := hme m hm cc i e
        have hA : E'.X.A = E.X.A := kn.A
        have := g3 E' kn.prog kn.w kn.K kn.mg kn.base kn.G ok' (by rw [hA]; exact hr)
        exact ⟨by rw [kn.K, kn.G]; exact g1, g, by rw [kn.K, kn.G]; exact g2, by rw [kn.T]; exact this⟩, B.globs, B.blts, fun y h => rfl⟩
    obtain ⟨r1, r2, r3, r4⟩ := rd_of hself
    refine ⟨_, pss_w, ?_⟩
    obtain ⟨fx, fio, _⟩ := h3.fresh hx0
    have same : Same H0 (upd (upd H0 dx (.own x)) x (.ins (G.cl c) dx [])) := fun a o e => by
      rw [upd_ne (ne_of_none e hx0), upd_ne (ne_of_none e hd0)]; exact e
    have ext : ∀ us, Ext E.H0 ((⟨upd H0 dx (.own x), F⟩ : Ent).add x (.ins (G.cl c) dx us)) := fun us => ⟨fun a o e => by
      have e : H0 a = some o := e
      show upd (upd H0 dx (.own x)) x _ a = some o
      rw [upd_ne (ne_of_none e hx0), upd_ne (ne_of_none e hd0)]; exact e, rfl⟩
    have hlen : (L2.start C.N (V.ref x :: vs')).length = C.N.length := by
      unfold L2.start
      simp only [List.length_append, List.length_map, List.length_replicate, List.length_cons]
      have := h2.length
      omega
    have ws : Ws G ((⟨upd H0 dx (.own x), F⟩ : Ent).add x (.ins (G.cl c) dx [])) io.length ⟨Slot.un :: (ds.map Slot.val ++ List.replicate (C.N.length - 1 - ds.length) Slot.un), sto⟩ (L2.start C.N (V.ref x :: vs') ++ []) (upd (upd H0 dx (.own x)) x (.ins (G.cl c) dx [])) F io := by
      refine ⟨⟨fun a u e => same a u (h3.sub a u e), h3.len, fun m cl e => ?_, h3.inj, fun a o e _ => e, fun m a hm e => ?_, h3.frz, Nat.le_refl _, fun a o u _ e => e⟩, ?_⟩
      · obtain ⟨a, e1, e2, e3⟩ := h3.cel m cl e
        refine ⟨a, e1, e2, ?_⟩
        cases cl with
        | dict kvs => obtain ⟨us, g1, g2⟩ := e3; exact ⟨us, same _ _ g1, g2⟩
        | inst cc fs => obtain ⟨dd, us, g1, g2⟩ := e3; exact ⟨dd, us, same _ _ g1, g2⟩
      · have := (List.getElem?_eq_some_iff.mp e).1
        omega
      · rw [List.append_nil]
        exact start_ini h2 (by omega)
    refine (cvIni_sound cx hc).run (tp := []) ok r1 (show Vis (defScope st) self from r2) r3 r4 (k := c) hcl hna (B := ⟨upd H0 dx (.own x), F⟩) (x := x) (dx := dx) (us := []) (fs := []) (fr := ⟨Slot.un :: (ds.map Slot.val ++ List.replicate (C.N.length - 1 - ds.length) Slot.un), sto⟩) (F := F) (io := io)
      fx (ext _) ext hlen rfl ⟨ws, fx, fio⟩ .nil ?_
    unfold iniFn at h4
    rw [if_pos h1] at h4
    cases z : iniGo T ib [] ⟨Slot.un :: (ds.map Slot.val ++ List.replicate (C.N.length - 1 - ds.length) Slot.un), sto⟩ with
    | bad => rw [z] at h4; exact h4.elim
    | ok fs fr =>
      rw [z] at h4
      intro H' F' io' us' s1 p1 pd rf
      have wk : Wr G ⟨H0, F⟩ io.length fr.sto H' F' io' := (Ws.weak (ext us') pd.ws).wr
      obtain ⟨s2, w2⟩ := wk.freezeI pd.at_ pd.fx pd.io hx0 trivial
      exact h4 fs rfl H' _ io' (s1.trans s2) p1 w2 (.obj upd_same (rf.mono s2 (Pre.refl _)))
    | exc kx fs fr =>
      rw [z] at h4
      intro d H' F' io' s1 p1 w1 xo
      exact h4 d H' F' io' s1 p1 w1.wr xo))) Xz.mk
theorem make_good {x : Str} {f : Addr} {fd : FuncData} {self : Str} {ps : List Str} {c n : Nat} {phi : Fn} (hm : mg x = some (.ref (G.cl c))) (M : G.K = K → Mk K (G.cl c) f) (hk : G.K = K) (hb : Binds K fd (self :: ps) []) (h : FnOk P w K mg base (L2.CX P w) k f fd (self :: ps) (spMk G c n phi))
    (hn : ∀ ds sto, phi ds sto ≠ .bad → ds.length = n) (ho : ∀ ds sto o s, phi ds sto = .ret o s → ∃ fs, o = .val (.obj c fs)) : Good P w K mg base G (k + 1) x phi :=
  ⟨.ref (G.cl c), hm, (M hk).kp, fun E e1 e2 e3 e4 e5 e6 ok hr => by
    subst e1 e2 e3 e4 e5 e6
    exact calls_make ok (M hk) h hr hb hn ho⟩
theorem meth_good {f : Addr} {fd : FuncData} {ps : List Str} {c m : Nat} {phi : Fn} (hc : Cls K (G.cl c)) (hm : Meth K (G.cl c) (G.fn m) f) (hb : Binds K fd ps []) (h : FnOk P w K mg base (L2.CX P w) k f fd ps (spI G ps.length phi))
    (hn : ∀ ds sto, phi ds sto ≠ .bad → ds.length = ps.length) : GoodM P w K mg base G k c m phi :=
  ⟨hc, f, hm, fun E e1 e2 e3 e4 e5 e6 ok hr => calls_of ok (by rw [e1, e2, e3, e4, e5, e6]; exact h) hr (by rw [e3]; exact hb) hn⟩
theorem GoodM.mono {j : Nat} {c m : Nat} {phi : Fn} (h : GoodM P w K mg base G j c m phi) (hj : j ≤ k) : GoodM P w K mg base G k c m phi := @Rz _ _ (fun qz => @Hz.get _ _ (qz.bar : Hz _ (by
  clear qz
  obtain ⟨h1, g, h2, h3⟩ := h
  exact ⟨h1, g, h2, fun E e1 e2 e3 e4 e5 e6 ok hr => h3 E e1 e2 e3 e4 e5 e6 ok (hr.mono hj)⟩))) Xz.mk
end
/-! ### names of attributes, numbers of classes -/
def fnT (tab : List Str) (n : Nat) : Str := match tab[n]? with | some s => s | none => ⟨Array.replicate (n + 1000) 120⟩
theorem fnT_inj {tab : List Str} (h1 : tab.Nodup) (h2 : tab.all (fun s => decide (s.cps.size < 1000)) = true) : ∀ f g, fnT tab f = fnT tab g → f = g := @Rz _ _ (fun qz => @Hz.get _ _ (qz.bar : Hz _ (by
  clear qz
  have sz : ∀ (n : Nat) (s : Str), tab[n]? = some s → s.cps.size < 1000 := fun n s e => by
    have := List.all_eq_true.mp h2 s (List.mem_of_getElem? e)
    simpa using this
  intro f g e
  unfold fnT at e
  cases q1 : tab[f]? with
  | some a =>
    cases q2 : tab[g]? with
    | some b =>
      rw [q1, q2] at e
      have e : a = b := e
      subst e
      obtain ⟨l1, z1⟩ := List.getElem?_eq_some_iff.mp q1
      obtain ⟨l2, z2⟩ := List.getElem?_eq_some_iff.mp q2
      exact (List.getElem_inj h1).mp (z1.trans z2.symm)
    | none =>
      rw [q1, q2] at e
      have := congrArg (fun s : Str => s.cps.size) e
      have h := sz f a q1
      simp at this
      omega
  | none =>
    cases q2 : tab[g]? with
    | some b =>
      rw [q1, q2] at e
      have := congrArg (fun s : Str => s.cps.size) e
      have h := sz g b q2
      simp at this
      omega
    | none =>
      rw [q1, q2] at e
      have := congrArg (fun s : Str => s.cps.size) e
      simp at this
      omega))) Xz.mk
def clT (cs : List Addr) (n : Nat) : Addr := cs.getD n 0
def glbT (K : PySem.W.Frag) (cs : List Addr) (tab : List Str) : Glb := ⟨K, clT cs, fnT tab, fun _ => []⟩
def fldT (fl : List (Nat × List Nat)) (c f : Nat) : Bool := match fl.lookup c with | some l => l.contains f | none => false
theorem baseT {K : PySem.W.Frag} {mg : Str → Option Value} {T : Tab} {C : Cv} {cs : List Addr} {tab : List Str} (h1 : tab.Nodup) (h2 : tab.all (fun s => decide (s.cps.size < 1000)) = true) (hf : ∀ c f, T.fld c f = true → Cls K (clT cs c) ∧ NoAttr K (clT cs c) (fnT tab f))
    (hn : ∀ x i, C.nms.lookup x = some i → fnT tab i = x) (hg : C.globs = []) (hb : ∀ x, C.blts.contains x = true → mg x = none) : Base K mg (glbT K cs tab) T C where
  k := rfl
  inj := fnT_inj h1 h2
  fld := hf
  nms := hn
  globs := fun x g e => by rw [hg] at e; cases e
  blts := hb
/-! ### tables of methods and of fields -/
def psiT (l : List ((Nat × Nat) × Nat)) (c m : Nat) : Option Nat := l.lookup (c, m)
theorem psi_nil {Q : Nat → Nat → Nat → Prop} : ∀ c m i, psiT [] c m = some i → Q c m i := fun c m i e => by cases e
theorem psi_cons {Q : Nat → Nat → Nat → Prop} {a b j : Nat} {l : List ((Nat × Nat) × Nat)} (h : Q a b j) (t : ∀ c m i, psiT l c m = some i → Q c m i) : ∀ c m i, psiT (((a, b), j) :: l) c m = some i → Q c m i := fun c m i e => by
  have e' : (match (c, m) == (a, b) with | true => some j | false => l.lookup (c, m)) = some i := e
  cases q : (c, m) == (a, b) with
  | true =>
    rw [q] at e'
    cases e'
    have := eq_of_beq q
    cases this
    exact h
  | false => rw [q] at e'; exact t c m i e'
theorem fld_nil {Q : Nat → Nat → Prop} : ∀ c f, fldT [] c f = true → Q c f := fun c f e => by cases e
theorem has_nil {Q : Nat → Prop} : ∀ f, ([] : List Nat).contains f = true → Q f := fun f e => by cases e
theorem has_cons {Q : Nat → Prop} {a : Nat} {l : List Nat} (h : Q a) (t : ∀ f, l.contains f = true → Q f) : ∀ f, (a :: l).contains f = true → Q f := fun f e => by
  rw [List.contains_cons] at e
  cases q : f == a with
  | true => rw [eq_of_beq q]; exact h
  | false => rw [q] at e; exact t f e
theorem fld_cons {Q : Nat → Nat → Prop} {a : Nat} {l : List Nat} {r : List (Nat × List Nat)} (h : ∀ f, l.contains f = true → Q a f) (t : ∀ c f, fldT r c f = true → Q c f) : ∀ c f, fldT ((a, l) :: r) c f = true → Q c f := fun c f e => by
  unfold fldT at e t
  rw [List.lookup_cons] at e
  cases q : c == a with
  | true =>
    rw [q] at e
    rw [eq_of_beq q]; exact h f e
  | false =>
    rw [q] at e
    exact t c f e
theorem nms_nil {Q : Str → Nat → Prop} : ∀ x i, ([] : List (Str × Nat)).lookup x = some i → Q x i := fun x i e => by cases e
end
section
open PySem L2
/-! ### wordings: rows, counts, labels -/
def cnt (w : Str) (u a : Int) : Int := if w = "down" then a / u else if w = "up" then -(-a / u) else (2 * a + u) / (2 * u)
def lcnt (w : Str) (u a : Int) : Int := if w = "down" then a / u else if w = "up" then (a + u - 1) / u else (2 * a + u) / (2 * u)
def off (w : Str) (u : Int) : Int := if w = "down" then 0 else if w = "up" then 1 else -(u / 2)
def c0 (w : Str) : Int := if w = "up" then 1 else 0
theorem div_is {x u c : Int} (h : 0 < u) (h1 : c * u ≤ x) (h2 : x < (c + 1) * u) : x / u = c := @Rz _ _ (fun qz => @Hz.get _ _ (qz.bar : Hz _ (by
  clear qz
  have h3 : c ≤ x / u := (Int.le_ediv_iff_mul_le h).mpr h1
  have h4 : x / u < c + 1 := (Int.ediv_lt_iff_lt_mul h).mpr h2
  omega))) Xz.mk
theorem div_at {x u : Int} (h : 0 < u) : (x / u) * u ≤ x ∧ x < (x / u + 1) * u := @Rz _ _ (fun qz => @Hz.get _ _ (qz.bar : Hz _ (by
  clear qz
  have h1 := Int.mul_ediv_add_emod x u
  have h2 := Int.emod_nonneg x (show u ≠ 0 by omega)
  have h3 := Int.emod_lt_of_pos x h
  rw [Int.add_mul, Int.mul_comm (x / u)]
  omega))) Xz.mk
theorem div_add {x u c : Int} (h : 0 < u) : (x + u * c) / u = x / u + c := by rw [Int.add_mul_ediv_left _ _ (by omega)]
theorem cnt_off {w : Str} {u a : Int} (h : 0 < u) : cnt w u a = (a - off w u) / u + c0 w := @Rz _ _ (fun qz => @Hz.get _ _ (qz.bar : Hz _ (by
  clear qz
  unfold cnt off c0
  split
  · rename_i e
    subst e
    rw [if_neg (by decide), Int.sub_zero, Int.add_zero]
  split
  · obtain ⟨h1, h2⟩ := div_at (x := -a) h
    rw [← Int.sub_eq_iff_eq_add]
    refine (div_is h ?_ ?_).symm
    · rw [Int.sub_mul, Int.neg_mul]; rw [Int.add_mul] at h2; omega
    · rw [Int.sub_add_cancel, Int.neg_mul]; omega
  · obtain ⟨h1, h2⟩ := div_at (x := a - -(u / 2)) h
    rw [Int.add_zero]
    refine div_is (by omega) ?_ ?_
    · rw [Int.mul_left_comm]; omega
    · rw [Int.mul_left_comm]; omega))) Xz.mk
theorem lcnt_cnt {w : Str} {u a : Int} (h : 0 < u) : lcnt w u a = cnt w u a := @Rz _ _ (fun qz => @Hz.get _ _ (qz.bar : Hz _ (by
  clear qz
  unfold cnt lcnt
  split
  · rfl
  split
  · obtain ⟨h1, h2⟩ := div_at (x := -a) h
    refine div_is h ?_ ?_
    · rw [Int.neg_mul]; rw [Int.add_mul] at h2; omega
    · rw [Int.add_mul, Int.neg_mul]; omega
  · rfl))) Xz.mk
/-- the least number greater than another with the rest of an offset -/
def fwi (low u o : Int) : Int := low + 1 + (o - low - 1) % u
theorem fwi_rest {low u o : Int} (h : 0 < u) : (fwi low u o - o) % u = 0 := @Rz _ _ (fun qz => @Hz.get _ _ (qz.bar : Hz _ (by
  clear qz
  unfold fwi
  have h1 := Int.mul_ediv_add_emod (o - low - 1) u
  have : low + 1 + (o - low - 1) % u - o = u * (-((o - low - 1) / u)) := by rw [Int.mul_neg]; omega
  rw [this, Int.mul_emod_right]))) Xz.mk
theorem fwi_gt {low u o : Int} (h : 0 < u) : low < fwi low u o ∧ fwi low u o ≤ low + u := @Rz _ _ (fun qz => @Hz.get _ _ (qz.bar : Hz _ (by
  clear qz
  unfold fwi
  have h2 := Int.emod_nonneg (o - low - 1) (show u ≠ 0 by omega)
  have h3 := Int.emod_lt_of_pos (o - low - 1) h
  omega))) Xz.mk
structure Rw where
  u : Option Int
  k : Option Int
  w : Str
  s : Str
deriving DecidableEq
abbrev Lb := Str × Option Int
def rlab (r : Rw) (a : Int) : Lb := (r.s, r.k.map fun u => cnt r.w u a)
def lab : List Rw → Int → Lb
  | [], _ => ("", none)
  | r :: rs, a => match r.u with
    | none => rlab r a
    | some v => if a < v then rlab r a else lab rs a
abbrev Sg := Int × Option Int × Rw
def sg : Int → List Rw → List Sg
  | _, [] => []
  | l, r :: rs => (l, r.u, r) :: sg (r.u.getD 0) rs
/-- numbers of a row -/
def RwN (B : Int) (r : Rw) : Prop := ∀ u, r.k = some u → 0 < u ∧ u < B
def Ok (B : Int) : Int → List Rw → Prop
  | _, [] => False
  | l, r :: rs => RwN B r ∧ 0 ≤ l ∧ l < B ∧ match r.u with
    | none => rs = []
    | some v => l < v ∧ Ok B v rs
def Upto (h : Option Int) (a : Int) : Prop := ∀ v, h = some v → a < v
def SegOk (B : Int) (L : Int → Lb) : Int → List Sg → Prop
  | _, [] => False
  | low, (l, h, r) :: t => l = low ∧ 0 ≤ l ∧ l < B ∧ RwN B r ∧ h = r.u ∧ (∀ a, l ≤ a → Upto h a → L a = rlab r a) ∧ match h with
    | none => t = []
    | some v => l < v ∧ SegOk B L v t
theorem SegOk.congr {B : Int} {L L' : Int → Lb} : ∀ {t : List Sg} {low : Int}, SegOk B L low t → (∀ a, low ≤ a → L a = L' a) → SegOk B L' low t
  | [], _, h, _ => h
  | (l, h, r) :: t, low, ⟨h1, h2, h3, h4, h5, h6, h7⟩, k => by
    subst h1
    refine ⟨rfl, h2, h3, h4, h5, fun a ha hu => (k a ha).symm.trans (h6 a ha hu), ?_⟩
    cases h with
    | none => exact h7
    | some v => exact ⟨h7.1, h7.2.congr fun a ha => k a (by have := h7.1; omega)⟩
theorem seg_ok {B : Int} : ∀ {rs : List Rw} {low : Int}, Ok B low rs → SegOk B (lab rs) low (sg low rs)
  | [], _, h => h
  | r :: rs, low, ⟨h1, h2, h3, h4⟩ => by
    refine ⟨rfl, h2, h3, h1, rfl, fun a ha hu => ?_, ?_⟩
    · unfold lab
      cases q : r.u with
      | none => rfl
      | some v => dsimp only; rw [if_pos (hu v q)]
    · cases q : r.u with
      | none => rw [q] at h4; dsimp only; have h4 : rs = [] := h4; subst h4; rfl
      | some v =>
        rw [q] at h4
        obtain ⟨h5, h6⟩ := h4
        refine ⟨h5, (seg_ok h6).congr fun a ha => ?_⟩
        show lab rs a = lab (r :: rs) a
        conv => rhs; unfold lab
        rw [q]; dsimp only; rw [if_neg (by omega)]
def Edge (L : Int → Lb) (b : Int) : Prop := 0 < b ∧ L b ≠ L (b - 1)
instance (L : Int → Lb) (b : Int) : Decidable (Edge L b) := inferInstanceAs (Decidable (_ ∧ _))
theorem rlab_none {r : Rw} (h : r.k = none) (a b : Int) : rlab r a = rlab r b := by unfold rlab; rw [h]; rfl
theorem rlab_some {r : Rw} {u : Int} (h : r.k = some u) (a : Int) : rlab r a = (r.s, some (cnt r.w u a)) := by unfold rlab; rw [h]; rfl
/-! ### edges ahead and behind -/
def IsLater (L : Int → Lb) (a : Int) : Option Int → Prop
  | none => ∀ b, a < b → ¬ Edge L b
  | some e => a < e ∧ Edge L e ∧ ∀ b, a < b → b < e → ¬ Edge L b
def IsLast (L : Int → Lb) (a e : Int) : Prop := 0 ≤ e ∧ e ≤ a ∧ (e = 0 ∨ Edge L e) ∧ ∀ b, e < b → b ≤ a → ¬ Edge L b
/-! ### the ages with a label -/
abbrev St2 := Int × Option Int
end
section
open PySem L2
/- Row_init : 35 (self, until, unit, way, word) -/
def b_Row_init : List (Option Nat × Tm) := [(some 0, .slot 1), (some 1, .slot 2), (some 2, .slot 3), (some 3, .slot 4)]
noncomputable def T_Row_init : Tab := { T0 with psi := psiT [], fld := fldT [] }
noncomputable def p_Row_init : Fn := iniFn T_Row_init 0 5 4 b_Row_init
/- check_rows : 51 (rows, before, index, row, is_last) -/
def b_check_rows : List Stm := [.asg (.slot 1) (.int 0), .for_ (.tup [.slot 2, .slot 3]) (.enum (.slot 0) 0) [.asg (.slot 4) (.cmp .eq (.slot 2) (.bin .sub (.bi .len [.slot 0]) (.int 1))), .ite (.or_ (.cmp .ne (.cmp .is_ (.attr (.slot 3) 0) .non) (.slot 4)) (.and_ (.not_ (.slot 4)) (.cmp .le (.attr (.slot 3) 0) (.slot 1)))) [.stuck] [], .asg (.slot 1) (.ite (.slot 4) (.int 0) (.attr (.slot 3) 0))]]
noncomputable def T_check_rows : Tab := { T0 with psi := psiT [], fld := fldT [(0, [0])] }
noncomputable def p_check_rows : Fn := fx T_check_rows 1 5 b_check_rows
/- Wording_init : 38 (self, rows) -/
def b_Wording_init : List (Option Nat × Tm) := [(none, .call 51 [.slot 1]), (some 4, .bi .tuple_ [.slot 1])]
noncomputable def T_Wording_init : Tab := { (T0.add 51 p_check_rows) with psi := psiT [], fld := fldT [] }
noncomputable def p_Wording_init : Fn := iniFn T_Wording_init 1 2 1 b_Wording_init
/- law_made : 414 (_law_rows_here, _law_until, _law_unit, _law_way_here, _law_word) -/
def b_law_made : List Stm := [.ret (.call 38 [.comp (.call 35 [.slot 1, .slot 2, .slot 3, .slot 4]) (.tup [.slot 1, .slot 2, .slot 3, .slot 4]) (.seq (.slot 0)) none [1, 2, 3, 4]])]
noncomputable def T_law_made : Tab := { ((T0.add 35 p_Row_init).add 38 p_Wording_init) with psi := psiT [], fld := fldT [] }
noncomputable def p_law_made : Fn := fx T_law_made 1 5 b_law_made
/- law_number : 422 (_law_pen_here) -/
def b_law_number : List Stm := [.ret (.call 202 [.slot 0, .lst [.call 201 [.slot 0, .int 4], .call 201 [.slot 0, .int 20], .call 201 [.slot 0, .int 20], .call 201 [.slot 0, .int 90]]])]
noncomputable def T_law_number : Tab := { ((T0.add 201 p_draw).add 202 p_pick) with psi := psiT [], fld := fldT [] }
noncomputable def p_law_number : Fn := fx T_law_number 1 1 b_law_number
/- law_count : 320 (_law_unit, _law_way_here, _law_age) -/
def b_law_count : List Stm := [.ite (.cmp .eq (.slot 1) (.str "down")) [.ret (.bin .fdiv (.slot 2) (.slot 0))] [], .ret (.ite (.cmp .eq (.slot 1) (.str "up")) (.bin .fdiv (.bin .sub (.bin .add (.slot 2) (.slot 0)) (.int 1)) (.slot 0)) (.bin .fdiv (.bin .add (.bin .mul (.int 2) (.slot 2)) (.slot 0)) (.bin .mul (.int 2) (.slot 0))))]
noncomputable def T_law_count : Tab := { T0 with psi := psiT [], fld := fldT [] }
noncomputable def p_law_count : Fn := fx T_law_count 3 3 b_law_count
/- law_row_of : 445 (_law_rows_here, _law_age, _law_k) -/
def b_law_row_of : List Stm := [.for_ (.slot 2) (.range1 (.bi .len [.slot 0])) [.ite (.or_ (.cmp .is_ (.ix (.ix (.slot 0) (.slot 2)) (.int 0)) .non) (.cmp .lt (.slot 1) (.ix (.ix (.slot 0) (.slot 2)) (.int 0)))) [.ret (.slot 2)] []], .ret .non]
noncomputable def T_law_row_of : Tab := { T0 with psi := psiT [], fld := fldT [] }
noncomputable def p_law_row_of : Fn := fx T_law_row_of 2 3 b_law_row_of
/- law_label : 396 (_law_rows_here, _law_age, _law_until, _law_unit, _law_way_here, _law_word) -/
def b_law_label : List Stm := [.asg (.tup [.slot 2, .slot 3, .slot 4, .slot 5]) (.ix (.slot 0) (.call 445 [.slot 0, .slot 1])), .ret (.tup [.slot 5, .ite (.cmp .is_ (.slot 3) .non) .non (.call 320 [.slot 3, .slot 4, .slot 1])])]
noncomputable def T_law_label : Tab := { ((T0.add 320 p_law_count).add 445 p_law_row_of) with psi := psiT [], fld := fldT [] }
noncomputable def p_law_label : Fn := fx T_law_label 2 6 b_law_label
/- law_times : 481 (_law_rows_here, _law_factor, _law_found, _law_until, _law_unit, _law_way_here, _law_word) -/
def b_law_times : List Stm := [.asg (.slot 2) (.lst []), .for_ (.tup [.slot 3, .slot 4, .slot 5, .slot 6]) (.seq (.slot 0)) [.append 2 (.tup [.ite (.cmp .is_ (.slot 3) .non) .non (.bin .mul (.slot 3) (.slot 1)), .ite (.cmp .is_ (.slot 4) .non) .non (.bin .mul (.slot 4) (.slot 1)), .slot 5, .slot 6])], .ret (.slot 2)]
noncomputable def T_law_times : Tab := { T0 with psi := psiT [], fld := fldT [] }
noncomputable def p_law_times : Fn := fx T_law_times 2 7 b_law_times
/- check_age : 50 (age) -/
def b_check_age : List Stm := [.ite (.cmp .lt (.slot 0) (.int 0)) [.stuck] []]
noncomputable def T_check_age : Tab := { T0 with psi := psiT [], fld := fldT [] }
noncomputable def p_check_age : Fn := fx T_check_age 1 1 b_check_age
/- count_of : 25 (unit, way, age) -/
def b_count_of : List Stm := [.ite (.cmp .eq (.slot 1) (.str "down")) [.ret (.bin .fdiv (.slot 2) (.slot 0))] [], .ret (.ite (.cmp .eq (.slot 1) (.str "up")) (.neg (.bin .fdiv (.neg (.slot 2)) (.slot 0))) (.bin .fdiv (.bin .add (.bin .mul (.int 2) (.slot 2)) (.slot 0)) (.bin .mul (.int 2) (.slot 0))))]
noncomputable def T_count_of : Tab := { T0 with psi := psiT [], fld := fldT [] }
noncomputable def p_count_of : Fn := fx T_count_of 3 3 b_count_of
/- row_label : 52 (row, age) -/
def b_row_label : List Stm := [.ret (.tup [.attr (.slot 0) 3, .ite (.cmp .is_ (.attr (.slot 0) 1) .non) .non (.call 25 [.attr (.slot 0) 1, .attr (.slot 0) 2, .slot 1])])]
noncomputable def T_row_label : Tab := { (T0.add 25 p_count_of) with psi := psiT [], fld := fldT [(0, [1, 2, 3])] }
noncomputable def p_row_label : Fn := fx T_row_label 2 2 b_row_label
/- Wording_label : 42 (self, age, row) -/
def b_Wording_label : List Stm := [.expr (.call 50 [.slot 1]), .for_ (.slot 2) (.seq (.attr (.slot 0) 4)) [.ite (.or_ (.cmp .is_ (.attr (.slot 2) 0) .non) (.cmp .lt (.slot 1) (.attr (.slot 2) 0))) [.ret (.call 52 [.slot 2, .slot 1])] []], .ret (.tup [.str "", .non])]
noncomputable def T_Wording_label : Tab := { ((T0.add 50 p_check_age).add 52 p_row_label) with psi := psiT [], fld := fldT [(0, [0]), (1, [4])] }
noncomputable def p_Wording_label : Fn := fx T_Wording_label 2 3 b_Wording_label
/- offset_of : 26 (unit, way) -/
def b_offset_of : List Stm := [.ite (.cmp .eq (.slot 1) (.str "down")) [.ret (.int 0)] [], .ret (.ite (.cmp .eq (.slot 1) (.str "up")) (.int 1) (.neg (.bin .fdiv (.slot 0) (.int 2))))]
noncomputable def T_offset_of : Tab := { T0 with psi := psiT [], fld := fldT [] }
noncomputable def p_offset_of : Fn := fx T_offset_of 2 2 b_offset_of
/- first_within : 28 (low, unit, offset) -/
def b_first_within : List Stm := [.ret (.bin .add (.bin .add (.slot 0) (.int 1)) (.bin .mod (.bin .sub (.bin .sub (.slot 2) (.slot 0)) (.int 1)) (.slot 1)))]
noncomputable def T_first_within : Tab := { T0 with psi := psiT [], fld := fldT [] }
noncomputable def p_first_within : Fn := fx T_first_within 3 3 b_first_within
/- row_ages : 27 (rows, found, low, row) -/
def b_row_ages : List Stm := [.par [1, 2] [.lst [], .int 0], .for_ (.slot 3) (.seq (.slot 0)) [.append 1 (.tup [.slot 2, .attr (.slot 3) 0]), .asg (.slot 2) (.attr (.slot 3) 0)], .ret (.slot 1)]
noncomputable def T_row_ages : Tab := { T0 with psi := psiT [], fld := fldT [(0, [0])] }
noncomputable def p_row_ages : Fn := fx T_row_ages 1 4 b_row_ages
end
section
open PySem L2
/-! ### rows and wordings as data -/
def rwD (r : Rw) : D := .obj 0 [(0, optD r.u), (1, optD r.k), (2, .str r.w), (3, .str r.s)]
def wgD (rs : List Rw) : D := .obj 1 [(4, .tup (rs.map rwD))]
def lbD (l : Lb) : D := .tup [.str l.1, optD l.2]
def agD (x : Sg) : D := .tup [.int x.1, optD x.2.1]
def sgD (x : Sg) : D := .tup [rwD x.2.2, agD x]
def rtD (r : Rw) : D := .tup [optD r.u, optD r.k, .str r.w, .str r.s]
section
variable {T : Tab} {P : Out → List Cell → Prop} {PX : Nat → List D → List Cell → Prop} {s sto : List Cell} {r : Rw} {rs : List Rw} {v : Int} {Q : D → Prop}
theorem At_uS (hf : T.fld 0 0 = true) (e : r.u = some v) (k : Q (.int v)) : ∃ cc fs v, insD sto (rwD r) = some (cc, fs) ∧ T.fld cc 0 = true ∧ fget fs 0 = some v ∧ Q v := ⟨0, _, _, rfl, hf, rfl, by rw [e]; exact k⟩
theorem At_uN (hf : T.fld 0 0 = true) (e : r.u = none) (k : Q .non) : ∃ cc fs v, insD sto (rwD r) = some (cc, fs) ∧ T.fld cc 0 = true ∧ fget fs 0 = some v ∧ Q v := ⟨0, _, _, rfl, hf, rfl, by rw [e]; exact k⟩
theorem At_kS (hf : T.fld 0 1 = true) (e : r.k = some v) (k : Q (.int v)) : ∃ cc fs v, insD sto (rwD r) = some (cc, fs) ∧ T.fld cc 1 = true ∧ fget fs 1 = some v ∧ Q v := ⟨0, _, _, rfl, hf, rfl, by rw [e]; exact k⟩
theorem At_kN (hf : T.fld 0 1 = true) (e : r.k = none) (k : Q .non) : ∃ cc fs v, insD sto (rwD r) = some (cc, fs) ∧ T.fld cc 1 = true ∧ fget fs 1 = some v ∧ Q v := ⟨0, _, _, rfl, hf, rfl, by rw [e]; exact k⟩
theorem At_w (hf : T.fld 0 2 = true) (k : Q (.str r.w)) : ∃ cc fs v, insD sto (rwD r) = some (cc, fs) ∧ T.fld cc 2 = true ∧ fget fs 2 = some v ∧ Q v := ⟨0, _, _, rfl, hf, rfl, k⟩
theorem At_s (hf : T.fld 0 3 = true) (k : Q (.str r.s)) : ∃ cc fs v, insD sto (rwD r) = some (cc, fs) ∧ T.fld cc 3 = true ∧ fget fs 3 = some v ∧ Q v := ⟨0, _, _, rfl, hf, rfl, k⟩
theorem At_rs (hf : T.fld 1 4 = true) (k : Q (.tup (rs.map rwD))) : ∃ cc fs v, insD sto (wgD rs) = some (cc, fs) ∧ T.fld cc 4 = true ∧ fget fs 4 = some v ∧ Q v := ⟨1, _, _, rfl, hf, rfl, k⟩
end
section
local macro_rules | `(tactic| walk_at "w") => `(tactic| repeat' first
  | fail "a1"
  | fail "a2")
theorem count_of_is {u a : Int} {w : Str} {sto : List Cell} (h0 : 0 < u) (h1 : u < 10000000000000000000000000000000000000000000000000000000000000) (h2 : -10000000000000000000000000000000000000000000000000000000000000 < a) (h3 : a < 10000000000000000000000000000000000000000000000000000000000000) : p_count_of [.int u, .str w, .int a] sto = .ret (.val (.int (cnt w u a))) sto := @Rz _ _ (fun qz => @Hz.get _ _ (qz.bar : Hz _ (by
  clear qz
  refine fx_eq (fx_all rfl (env := [.val (.int u), .val (.str w), .val (.int a)]) rfl ?_)
  unfold b_count_of cnt
  walk_at "w"
  · rw [if_pos ‹_›]; exact ⟨rfl, rfl⟩
  · rw [if_neg ‹_›, if_pos ‹_›]; exact ⟨rfl, rfl⟩
  · rw [if_neg ‹_›, if_neg ‹_›]; exact ⟨rfl, rfl⟩))) Xz.mk
theorem offset_of_is {u : Int} {w : Str} {sto : List Cell} : p_offset_of [.int u, .str w] sto = .ret (.val (.int (off w u))) sto := @Rz _ _ (fun qz => @Hz.get _ _ (qz.bar : Hz _ (by
  clear qz
  refine fx_eq (fx_all rfl (env := [.val (.int u), .val (.str w)]) rfl ?_)
  unfold b_offset_of off
  walk_at "w"
  · rw [if_pos ‹_›]; exact ⟨rfl, rfl⟩
  · rw [if_neg ‹_›, if_pos ‹_›]; exact ⟨rfl, rfl⟩
  · rw [if_neg ‹_›, if_neg ‹_›]; exact ⟨rfl, rfl⟩))) Xz.mk
theorem first_within_is {l u o : Int} {sto : List Cell} (h0 : 0 < u) : p_first_within [.int l, .int u, .int o] sto = .ret (.val (.int (fwi l u o))) sto := @Rz _ _ (fun qz => @Hz.get _ _ (qz.bar : Hz _ (by
  clear qz
  refine fx_eq (fx_all rfl (env := [.val (.int l), .val (.int u), .val (.int o)]) rfl ?_)
  unfold b_first_within fwi
  walk_at "w"
  exact ⟨rfl, rfl⟩))) Xz.mk
theorem check_age_is {a : Int} {sto : List Cell} (h : 0 ≤ a) : p_check_age [.int a] sto = .ret (.val .non) sto := @Rz _ _ (fun qz => @Hz.get _ _ (qz.bar : Hz _ (by
  clear qz
  refine fx_eq (fx_all rfl (env := [.val (.int a)]) rfl ?_)
  unfold b_check_age
  walk_at "w"
  · omega
  · exact ⟨rfl, rfl⟩))) Xz.mk
theorem Row_is {r : Rw} {sto : List Cell} : p_Row_init [optD r.u, optD r.k, .str r.w, .str r.s] sto = .ret (.val (rwD r)) sto := rfl
end
section
variable {T : Tab} {P : Out → List Cell → Prop} {PX : Nat → List D → List Cell → Prop} {s sto : List Cell} {r : Rw} {rs : List Rw} {u a c l o : Int} {w : Str}
theorem C_count (hT : T.phi 25 = p_count_of) (h0 : 0 < u) (h1 : u < 10000000000000000000000000000000000000000000000000000000000000) (h2 : -10000000000000000000000000000000000000000000000000000000000000 < a) (h3 : a < 10000000000000000000000000000000000000000000000000000000000000) (k : P (.val (.int (cnt w u a))) s) : (T.phi 25 [.int u, .str w, .int a] s).all P PX := by
  rw [hT]; exact all_of_eq (count_of_is h0 h1 h2 h3) k
theorem C_offset (hT : T.phi 26 = p_offset_of) (k : P (.val (.int (off w u))) s) : (T.phi 26 [.int u, .str w] s).all P PX := by
  rw [hT]; exact all_of_eq offset_of_is k
theorem C_fwi (hT : T.phi 28 = p_first_within) (h0 : 0 < u) (k : P (.val (.int (fwi l u o))) s) : (T.phi 28 [.int l, .int u, .int o] s).all P PX := by
  rw [hT]; exact all_of_eq (first_within_is h0) k
theorem C_check (hT : T.phi 50 = p_check_age) (h : 0 ≤ a) (k : P (.val .non) s) : (T.phi 50 [.int a] s).all P PX := by
  rw [hT]; exact all_of_eq (check_age_is h) k
end
section
local macro_rules | `(tactic| walk_at "w") => `(tactic| repeat' first
  | fail "a1"
  | (with_reducible refine' C_count ?s1 ?s2 ?s3 ?s4 ?s5 ?_; (case s1 => with_unfolding_all exact rfl); (case s2 => omega); (case s3 => omega); (case s4 => omega); (case s5 => omega))
  | (with_reducible refine' C_offset ?s1 ?_; (case s1 => with_unfolding_all exact rfl))
  | (with_reducible refine' C_fwi ?s1 ?s2 ?_; (case s1 => with_unfolding_all exact rfl); (case s2 => omega))
  | (with_reducible refine' C_foc ?s1 ?s2 ?s3 ?s4 ?s5 ?_; (case s1 => with_unfolding_all exact rfl); (case s2 => omega); (case s3 => omega); (case s4 => omega); (case s5 => omega))
  | (with_reducible refine' C_check ?s1 ?s2 ?_; (case s1 => with_unfolding_all exact rfl); (case s2 => omega))
  | (with_reducible refine' At_uS ?s1 ?s2 ?_; (case s1 => with_unfolding_all exact rfl); (case s2 => assumption))
  | (with_reducible refine' At_uN ?s1 ?s2 ?_; (case s1 => with_unfolding_all exact rfl); (case s2 => assumption))
  | (with_reducible refine' At_kS ?s1 ?s2 ?_; (case s1 => with_unfolding_all exact rfl); (case s2 => assumption))
  | (with_reducible refine' At_kN ?s1 ?s2 ?_; (case s1 => with_unfolding_all exact rfl); (case s2 => assumption))
  | (with_reducible refine' At_u ?s1 ?_; (case s1 => with_unfolding_all exact rfl))
  | (with_reducible refine' At_w ?s1 ?_; (case s1 => with_unfolding_all exact rfl))
  | (with_reducible refine' At_s ?s1 ?_; (case s1 => with_unfolding_all exact rfl))
  | (with_reducible refine' At_rs ?s1 ?_; (case s1 => with_unfolding_all exact rfl))
  | (with_reducible refine' Mt_wg ?s1 ?s2 ?_; (case s1 => with_unfolding_all exact rfl); (case s2 => with_unfolding_all exact rfl))
  | fail "a2")
theorem row_label_is {r : Rw} {a : Int} {sto : List Cell} (hN : RwN 1000000000000000000000000000000000000000000000000000000000000 r) (h0 : 0 ≤ a) (h1 : a < 1000000000000000000000000000000000000000000000000000000000000) : p_row_label [rwD r, .int a] sto = .ret (.val (lbD (rlab r a))) sto := @Rz _ _ (fun qz => @Hz.get _ _ (qz.bar : Hz _ (by
  clear qz
  refine fx_eq (fx_all rfl (env := [.val (rwD r), .val (.int a)]) rfl ?_)
  unfold b_row_label
  cases hk : r.k with
  | none =>
    walk_at "w"
    rw [rlab, hk]; exact ⟨rfl, rfl⟩
  | some u =>
    have := hN u hk
    walk_at "w"
    rw [rlab_some hk]; exact ⟨rfl, rfl⟩))) Xz.mk
end
end
section
open PySem L2
def WOk (rs : List Rw) : Prop := Ok 1000000000000000000000000000000000000000000000000000000000000 0 rs ∧ rs.length ≤ 1000
theorem zip_sg : ∀ (rs : List Rw) (l : Int), zipD (rs.map rwD) ((sg l rs).map agD) = (sg l rs).map sgD
  | [], _ => rfl
  | r :: rs, l => by
    show D.tup [rwD r, agD (l, r.u, r)] :: zipD (rs.map rwD) ((sg (r.u.getD 0) rs).map agD) = _
    rw [zip_sg rs]; rfl
section
variable {T : Tab} {P : Out → List Cell → Prop} {PX : Nat → List D → List Cell → Prop} {s sto : List Cell} {r : Rw} {rs : List Rw} {u a c l o : Int} {w : Str}
theorem C_rlab (hT : T.phi 52 = p_row_label) (hN : RwN 1000000000000000000000000000000000000000000000000000000000000 r) (h0 : 0 ≤ a) (h1 : a < 1000000000000000000000000000000000000000000000000000000000000) (k : P (.val (lbD (rlab r a))) s) : (T.phi 52 [rwD r, .int a] s).all P PX := by
  rw [hT]; exact all_of_eq (row_label_is hN h0 h1) k
end
section
local macro_rules | `(tactic| walk_at "w") => `(tactic| repeat' first
  | fail "a1"
  | (with_reducible refine' C_count ?s1 ?s2 ?s3 ?s4 ?s5 ?_; (case s1 => with_unfolding_all exact rfl); (case s2 => omega); (case s3 => omega); (case s4 => omega); (case s5 => omega))
  | (with_reducible refine' C_offset ?s1 ?_; (case s1 => with_unfolding_all exact rfl))
  | (with_reducible refine' C_fwi ?s1 ?s2 ?_; (case s1 => with_unfolding_all exact rfl); (case s2 => omega))
  | (with_reducible refine' C_foc ?s1 ?s2 ?s3 ?s4 ?s5 ?_; (case s1 => with_unfolding_all exact rfl); (case s2 => omega); (case s3 => omega); (case s4 => omega); (case s5 => omega))
  | (with_reducible refine' C_check ?s1 ?s2 ?_; (case s1 => with_unfolding_all exact rfl); (case s2 => omega))
  | (with_reducible refine' At_uS ?s1 ?s2 ?_; (case s1 => with_unfolding_all exact rfl); (case s2 => assumption))
  | (with_reducible refine' At_uN ?s1 ?s2 ?_; (case s1 => with_unfolding_all exact rfl); (case s2 => assumption))
  | (with_reducible refine' At_kS ?s1 ?s2 ?_; (case s1 => with_unfolding_all exact rfl); (case s2 => assumption))
  | (with_reducible refine' At_kN ?s1 ?s2 ?_; (case s1 => with_unfolding_all exact rfl); (case s2 => assumption))
  | (with_reducible refine' At_u ?s1 ?_; (case s1 => with_unfolding_all exact rfl))
  | (with_reducible refine' At_w ?s1 ?_; (case s1 => with_unfolding_all exact rfl))
  | (with_reducible refine' At_s ?s1 ?_; (case s1 => with_unfolding_all exact rfl))
  | (with_reducible refine' At_rs ?s1 ?_; (case s1 => with_unfolding_all exact rfl))
  | (with_reducible refine' Mt_wg ?s1 ?s2 ?_; (case s1 => with_unfolding_all exact rfl); (case s2 => with_unfolding_all exact rfl))
  | (with_reducible refine' C_rlab ?s1 ?s2 ?s3 ?s4 ?_; (case s1 => with_unfolding_all exact rfl); (case s2 => assumption); (case s3 => omega); (case s4 => omega))
  | fail "a2")
theorem label_is {rs : List Rw} {a : Int} {sto : List Cell} (hw : WOk rs) (h0 : 0 ≤ a) (h1 : a < 1000000000000000000000000000000000000000000000000000000000000) : p_Wording_label [wgD rs, .int a] sto = .ret (.val (lbD (lab rs a))) sto := @Rz _ _ (fun qz => @Hz.get _ _ (qz.bar : Hz _ (by
  clear qz
  refine fx_eq (fx_all rfl (env := [.val (wgD rs), .val (.int a), .un]) rfl ?_)
  unfold b_Wording_label
  walk_at "w"
  refine X_forL (α := Rw) (AI_seq ?_)
  walk_at "w"
  refine ⟨_, rfl, rwD, rs, fun l fr => (∃ low, Ok 1000000000000000000000000000000000000000000000000000000000000 low l) ∧ lab l a = lab rs a ∧ ∃ s2, fr = ⟨[.val (wgD rs), .val (.int a), s2], sto⟩, rfl, ⟨⟨_, hw.1⟩, rfl, _, rfl⟩, ?_, ?_⟩
  · rintro r l fr ⟨⟨low, hN, hl0, hlB, hk⟩, hl, s2, rfl⟩
    refine ⟨_, rfl, ?_⟩
    cases hu : r.u with
    | none =>
      walk_at "w"
      rw [← hl]; unfold lab; rw [hu]; exact ⟨rfl, rfl⟩
    | some v =>
      rw [hu] at hk
      walk_at "w"
      · rw [← hl]; unfold lab; rw [hu]; dsimp only; rw [if_pos ‹_›]; exact ⟨rfl, rfl⟩
      · refine ⟨⟨_, hk.2⟩, ?_, _, rfl⟩
        rw [← hl]; conv => rhs; unfold lab
        rw [hu]; dsimp only; rw [if_neg ‹_›]
  · rintro fr ⟨⟨low, hk⟩, _⟩
    exact hk.elim))) Xz.mk
theorem row_ages_is {rs : List Rw} {sto : List Cell} (hw : WOk rs) : p_row_ages [.tup (rs.map rwD)] sto = .ret (.fresh ((sg 0 rs).map agD)) sto := @Rz _ _ (fun qz => @Hz.get _ _ (qz.bar : Hz _ (by
  clear qz
  refine fx_eq (fx_all rfl (env := [.val (.tup (rs.map rwD)), .un, .un, .un]) rfl ?_)
  unfold b_row_ages
  walk_at "w"
  refine X_forL (α := Rw) (AI_seq ?_)
  walk_at "w"
  refine ⟨_, rfl, rwD, rs, fun l fr => ∃ done d3 s3, (l = [] ∨ ∃ low, d3 = .int low ∧ Ok 1000000000000000000000000000000000000000000000000000000000000 low l ∧ done ++ sg low l = sg 0 rs) ∧ (l = [] → done = sg 0 rs) ∧ done.length + l.length = rs.length ∧ fr = ⟨[.val (.tup (rs.map rwD)), .own (done.map agD), .val d3, s3], sto⟩, rfl, ⟨[], _, _, .inr ⟨0, rfl, hw.1, rfl⟩, fun e => by rw [e]; rfl, by simp, rfl⟩, ?_, ?_⟩
  · rintro r l fr ⟨done, d3, s3, h1, h2, h3, rfl⟩
    rcases h1 with h1 | ⟨low, rfl, hk, h1⟩
    · cases h1
    have hlen : (done.map agD).length < 16777216 := by
      have := hw.2
      rw [List.length_map]; omega
    refine ⟨_, rfl, ?_⟩
    obtain ⟨hN, hl0, hlB, hk⟩ := hk
    have happ : (done ++ [((low, r.u, r) : Sg)]).map agD = done.map agD ++ [D.tup [.int low, optD r.u]] := by rw [List.map_append]; rfl
    cases hu : r.u with
    | none =>
      rw [hu] at hk
      have hk : l = [] := hk
      subst hk
      walk_at "w"
      rw [hu] at happ
      refine ⟨done ++ [(low, r.u, r)], .non, .val (rwD r), .inl rfl, fun _ => by rw [← h1]; rfl, by simpa using h3, ?_⟩
      rw [hu, happ]; rfl
    | some v =>
      rw [hu] at hk
      walk_at "w"
      rw [hu] at happ
      have e : (done ++ [((low, r.u, r) : Sg)]) ++ sg v l = sg 0 rs := by
        rw [← h1, List.append_assoc]
        show _ = done ++ ((low, r.u, r) :: sg (r.u.getD 0) l)
        rw [hu]; rfl
      refine ⟨done ++ [(low, r.u, r)], .int v, .val (rwD r), .inr ⟨v, rfl, hk.2, e⟩, fun q => ?_, ?_, ?_⟩
      · subst q; exact hk.2.elim
      · rw [List.length_append]
        simp only [List.length_cons, List.length_nil] at h3 ⊢; omega
      · rw [hu, happ]; rfl
  · rintro fr ⟨done, d3, s3, h1, h2, h3, rfl⟩
    walk_at "w"
    have := h2 rfl
    subst this
    exact ⟨rfl, rfl⟩))) Xz.mk
end
end
section
open PySem L2
/-! ### the ages of a row with a label -/
end
section
open PySem L2
section
variable {T : Tab} {P : Out → List Cell → Prop} {PX : Nat → List D → List Cell → Prop} {s sto : List Cell} {r : Rw} {rs : List Rw} {u a c l o : Int} {w : Str}
theorem C_label (hT : T.phi 42 = p_Wording_label) (hw : WOk rs) (h0 : 0 ≤ a) (h1 : a < 1000000000000000000000000000000000000000000000000000000000000) (k : P (.val (lbD (lab rs a))) s) : (T.phi 42 [wgD rs, .int a] s).all P PX := by
  rw [hT]; exact all_of_eq (label_is hw h0 h1) k
theorem C_rages (hT : T.phi 27 = p_row_ages) (hw : WOk rs) (k : P (.fresh ((sg 0 rs).map agD)) s) : (T.phi 27 [.tup (rs.map rwD)] s).all P PX := by
  rw [hT]; exact all_of_eq (row_ages_is hw) k
end
section
local macro_rules | `(tactic| walk_at "w") => `(tactic| repeat' first
  | fail "a1"
  | (with_reducible refine' C_count ?s1 ?s2 ?s3 ?s4 ?s5 ?_; (case s1 => with_unfolding_all exact rfl); (case s2 => omega); (case s3 => omega); (case s4 => omega); (case s5 => omega))
  | (with_reducible refine' C_offset ?s1 ?_; (case s1 => with_unfolding_all exact rfl))
  | (with_reducible refine' C_fwi ?s1 ?s2 ?_; (case s1 => with_unfolding_all exact rfl); (case s2 => omega))
  | (with_reducible refine' C_foc ?s1 ?s2 ?s3 ?s4 ?s5 ?_; (case s1 => with_unfolding_all exact rfl); (case s2 => omega); (case s3 => omega); (case s4 => omega); (case s5 => omega))
  | (with_reducible refine' C_check ?s1 ?s2 ?_; (case s1 => with_unfolding_all exact rfl); (case s2 => omega))
  | (with_reducible refine' At_uS ?s1 ?s2 ?_; (case s1 => with_unfolding_all exact rfl); (case s2 => assumption))
  | (with_reducible refine' At_uN ?s1 ?s2 ?_; (case s1 => with_unfolding_all exact rfl); (case s2 => assumption))
  | (with_reducible refine' At_kS ?s1 ?s2 ?_; (case s1 => with_unfolding_all exact rfl); (case s2 => assumption))
  | (with_reducible refine' At_kN ?s1 ?s2 ?_; (case s1 => with_unfolding_all exact rfl); (case s2 => assumption))
  | (with_reducible refine' At_u ?s1 ?_; (case s1 => with_unfolding_all exact rfl))
  | (with_reducible refine' At_w ?s1 ?_; (case s1 => with_unfolding_all exact rfl))
  | (with_reducible refine' At_s ?s1 ?_; (case s1 => with_unfolding_all exact rfl))
  | (with_reducible refine' At_rs ?s1 ?_; (case s1 => with_unfolding_all exact rfl))
  | (with_reducible refine' Mt_wg ?s1 ?s2 ?_; (case s1 => with_unfolding_all exact rfl); (case s2 => with_unfolding_all exact rfl))
  | (with_reducible refine' C_rlab ?s1 ?s2 ?s3 ?s4 ?_; (case s1 => with_unfolding_all exact rfl); (case s2 => assumption); (case s3 => omega); (case s4 => omega))
  | fail "a2")
end
end
section
open PySem L2
/-! ### == of data -/
theorem beq_dec {α : Type} [DecidableEq α] (a b : α) : (a == b) = decide (a = b) := by
  by_cases h : a = b <;> simp [h]
def optP : Option Int → PyData
  | none => .none
  | some i => .int i
theorem toPy_opt : ∀ o : Option Int, toPy (optD o) = some (optP o)
  | none => rfl
  | some _ => rfl
theorem eqv_opt : ∀ a b : Option Int, PyData.eqv (optP a) (optP b) = decide (a = b)
  | none, none => rfl
  | none, some _ => rfl
  | some _, none => rfl
  | some a, some b => by
    show (a == b) = _
    rw [beq_dec]
    simp
theorem lay_opt : ∀ a : Option Int, PyData.canLay0 (optP a) = true
  | none => rfl
  | some _ => rfl
theorem dep_opt : ∀ a : Option Int, PyData.depth (optP a) = 0
  | none => rfl
  | some _ => rfl
def lbP (l : Lb) : PyData := .tuple [.str l.1, optP l.2]
theorem toPy_lb (l : Lb) : toPy (lbD l) = some (lbP l) := @Rz _ _ (fun qz => @Hz.get _ _ (qz.bar : Hz _ (by
  clear qz
  show (toPys [D.str l.1, optD l.2]).map PyData.tuple = _
  show ((match toPy (D.str l.1), toPys [optD l.2] with | some x, some xs => some (x :: xs) | _, _ => none).map PyData.tuple) = _
  have : toPys [optD l.2] = some [optP l.2] := by
    show (match toPy (optD l.2), toPys [] with | some x, some xs => some (x :: xs) | _, _ => none) = _
    rw [toPy_opt]; rfl
  rw [this]; rfl))) Xz.mk
theorem eqv_lb (l m : Lb) : PyData.eqv (lbP l) (lbP m) = decide (l = m) := @Rz _ _ (fun qz => @Hz.get _ _ (qz.bar : Hz _ (by
  clear qz
  show ((l.1 == m.1) && (PyData.eqv (optP l.2) (optP m.2) && true)) = _
  rw [eqv_opt, beq_dec, Bool.and_true]
  rw [← Bool.decide_and]
  exact decide_eq_decide.mpr ⟨fun ⟨h1, h2⟩ => Prod.ext h1 h2, fun h => ⟨congrArg (·.1) h, congrArg (·.2) h⟩⟩))) Xz.mk
theorem shaped_lb {l : Lb} (h : PyData.strOk l.1 = true) : SeqAt.shaped (lbP l) = true := @Rz _ _ (fun qz => @Hz.get _ _ (qz.bar : Hz _ (by
  clear qz
  show ((PyData.strOk l.1 && (PyData.canLay0 (optP l.2) && true)) && decide (max (PyData.depth (.str l.1)) (max (PyData.depth (optP l.2)) 0) + 1 ≤ 64)) = true
  rw [h, lay_opt, dep_opt]; rfl))) Xz.mk
theorem eq_lb {l m : Lb} (hl : PyData.strOk l.1 = true) (hm : PyData.strOk m.1 = true) : eqD (lbD l) (lbD m) = some (decide (l = m)) := @Rz _ _ (fun qz => @Hz.get _ _ (qz.bar : Hz _ (by
  clear qz
  show eqP (lbD l) (lbD m) = _
  unfold eqP
  rw [toPy_lb, toPy_lb]
  show (if (SeqAt.shaped (lbP l) && SeqAt.shaped (lbP m)) = true then some (PyData.eqv (lbP l) (lbP m)) else none) = _
  rw [shaped_lb hl, shaped_lb hm, eqv_lb]; rfl))) Xz.mk
section
variable {P : Bool → Prop} {l m : Lb} {ps qs : List St2}
theorem C_neLb (hl : PyData.strOk l.1 = true) (hm : PyData.strOk m.1 = true) (h : P (!decide (l = m))) : ∃ k, cmpD .ne (lbD l) (lbD m) = some k ∧ P k := ⟨_, by show (eqD _ _).map (!·) = _; rw [eq_lb hl hm]; rfl, h⟩
end
section
variable {sto : List Cell} {env : List Slot} {i : Nat} {x k v d : D} {xs : List D} {PD : D → Prop} {P : Bool → Prop}
theorem Ix_id (h : ixD sto x k = some v) (q : PD v) : ∃ v, ixD sto x k = some v ∧ PD v := ⟨v, h, q⟩
theorem eq_oi (o : Option Int) (j : Int) : eqD (optD o) (.int j) = some (decide (o = some j)) := @Rz _ _ (fun qz => @Hz.get _ _ (qz.bar : Hz _ (by
  clear qz
  cases o with
  | none => rfl
  | some i =>
    show some (decide (i = j)) = _
    simp))) Xz.mk
theorem C_neOI {o : Option Int} {j : Int} (h : P (!decide (o = some j))) : ∃ k, cmpD .ne (optD o) (.int j) = some k ∧ P k := ⟨_, by show (eqD _ _).map (!·) = _; rw [eq_oi]; rfl, h⟩
theorem C_isO {o : Option Int} (h : P (decide (o = none))) : ∃ k, cmpD .is_ (optD o) .non = some k ∧ P k := ⟨_, by cases o <;> rfl, h⟩
theorem C_isnO {o : Option Int} (h : P (!decide (o = none))) : ∃ k, cmpD .isn (optD o) .non = some k ∧ P k := ⟨_, by cases o <;> rfl, h⟩
end
end
section
open PySem L2
section
variable {T : Tab} {fr : Fr} {K : SxP}
/-- what stands behind a turn, by a name -/
structure Kf (K K' : SxP) (n : Fr → Prop) : Prop where
  next : ∀ fr, n fr → K'.next fr
  cont : ∀ fr, n fr → K'.cont fr
  brk : ∀ fr, K.next fr → K'.brk fr
  ret : ∀ o fr, K.ret o fr → K'.ret o fr
  exc : ∀ c fs fr, K.exc c fs fr → K'.exc c fs fr
theorem Kf.loop (n : Fr → Prop) : Kf K (K.loop n) n := ⟨fun _ h => h, fun _ h => h, fun _ h => h, fun _ _ h => h, fun _ _ _ h => h⟩
theorem X_forIK {tg : Tg} {it : Iter} {B : List Stm} (h : AI T it fr (fun xs fr1 => ∃ I : Nat → Fr → Prop, I 0 fr1 ∧
    (∀ i x fr, xs[i]? = some x → I i fr → ∃ fr2, bindT tg x fr = some fr2 ∧ ∀ K', Kf K K' (I (i + 1)) → XS T B fr2 K') ∧ ∀ fr, I xs.length fr → K.next fr) K.exc) : X T (.for_ tg it B) fr K :=
  X_forI (Rs.all_imp h (fun xs fr1 ⟨I, h0, hs, hd⟩ => ⟨I, h0, fun i x fr hx hi => by
    obtain ⟨fr2, e, h⟩ := hs i x fr hx hi
    exact ⟨fr2, e, h _ (Kf.loop _)⟩, hd⟩) fun _ _ _ z => z)
theorem X_forLK {α : Type} {tg : Tg} {it : Iter} {B : List Stm} (h : AI T it fr (fun xs fr1 => ∃ (f : α → D) (l : List α) (I : List α → Fr → Prop), xs = l.map f ∧ I l fr1 ∧
    (∀ x l fr, I (x :: l) fr → ∃ fr2, bindT tg (f x) fr = some fr2 ∧ ∀ K', Kf K K' (I l) → XS T B fr2 K') ∧ ∀ fr, I [] fr → K.next fr) K.exc) : X T (.for_ tg it B) fr K :=
  X_forL (Rs.all_imp h (fun xs fr1 ⟨f, l, I, e, h0, hs, hd⟩ => ⟨f, l, I, e, h0, fun x l fr hi => by
    obtain ⟨fr2, e, h⟩ := hs x l fr hi
    exact ⟨fr2, e, h _ (Kf.loop _)⟩, hd⟩) fun _ _ _ z => z)
theorem fx_allK {np n : Nat} {body : List Stm} {ds : List D} {sto : List Cell} {env : List Slot} {P : Out → List Cell → Prop} {PX : Nat → List D → List Cell → Prop} (hl : ds.length = np) (he : ds.map Slot.val ++ List.replicate (n - ds.length) .un = env)
    (h : ∀ K : SxP, (∀ o fr, P o fr.sto → K.ret o fr) → (∀ fr, P (.val .non) fr.sto → K.next fr) → (∀ c fs fr, PX c fs fr.sto → K.exc c fs fr) → XS T body ⟨env, sto⟩ K) : (fx T np n body ds sto).all P PX :=
  fx_all hl he (h _ (fun _ _ h => h) (fun _ h => h) fun _ _ _ h => h)
end
end
section
open PySem L2
section
variable {T : Tab} {fr : Fr} {P : RV → Fr → Prop} {PX : PXt} {K : SxP} {a c : Tm}
/-- [m x for x in l] -/
theorem A_compM {α : Type} {tg : Tg} {it : Iter} {own : List Nat} (h : AI T it fr (fun xs fr1 => ∃ (f : α → D) (l : List α) (m : α → D), xs = l.map f ∧ ownFree fr1.env own = true ∧ (own.all fun v => Nat.blt v fr1.env.length) = true ∧ l.length ≤ 16777216 ∧
    (∀ x acc, x ∈ l → ∃ e3, bindT tg (f x) ⟨wipeE (fr1.env ++ [.own acc]) own, fr1.sto⟩ = some ⟨e3, fr1.sto⟩ ∧ wipeE e3 own = wipeE (fr1.env ++ [.own acc]) own ∧
      AD T a ⟨e3, fr1.sto⟩ (fun d fr5 => d = m x ∧ fr5 = ⟨e3, fr1.sto⟩) noX) ∧
    P (.out (.fresh (l.map m))) fr1) PX) : A T (.comp a tg it none own) fr P PX :=
  A_compL (Rs.all_imp h (fun xs fr1 z => by
    obtain ⟨f, l, m, h1, h2, h3, h4, h5, h6⟩ := z
    refine ⟨f, l, fun x => some (m x), h1, h2, h3, h4, fun x acc hx => ?_, by rw [show l.filterMap (fun x => some (m x)) = l.map m from by rw [← List.filterMap_eq_map]; rfl]; exact h6⟩
    obtain ⟨e3, g1, g2, g4⟩ := h5 x acc hx
    exact ⟨e3, g1, g2, AC_none ⟨rfl, fun _ => Rs.all_imp g4 (fun d fr3 z => ⟨z.2, congrArg some z.1.symm⟩) fun _ _ _ z => z, fun z => by cases z⟩⟩) fun _ _ _ z => z)
end
theorem Of_id {xs : List D} {Q : List D → Prop} (h : Q xs) : ∃ ys, RV.out (.fresh xs) = RV.out (.fresh ys) ∧ Q ys := ⟨_, rfl, h⟩
end
section
open PySem L2
end
section
open PySem L2
end
section
open PySem L2
/-! ### stretches of one label that cover the ages up to g -/
abbrev Pr := Int × Int
end
section
open PySem L2
end
section
open PySem L2
/-! ### segments seen from within -/
/-! ### the edge at or ahead -/
section
variable {B : Int} {L : Int → Lb} {l a top u : Int} {h : Option Int} {r : Rw}
end
/-! ### labels that come back -/
section
variable {B : Int} {L : Int → Lb} {l b n : Int} {h : Option Int} {r r' : Rw}
end
end
section
open PySem L2
section
variable {T : Tab} {fr : Fr} {P : RV → Fr → Prop} {PD : D → Fr → Prop} {PX : PXt} {K : SxP} {a b c : Tm} {i : Nat} {sto : List Cell} {env : List Slot}
theorem cut_to {α : Type} {xs : List α} {i : Int} (h0 : 0 ≤ i) (h1 : i ≤ xs.length) : cutL xs none (some i) = xs.take i.toNat := @Rz _ _ (fun qz => @Hz.get _ _ (qz.bar : Hz _ (by
  clear qz
  unfold cutL HT.sIx
  simp only
  rw [List.drop_zero, Nat.sub_zero]
  congr 1
  split <;> omega))) Xz.mk
theorem intsD_map (l : List Int) : intsD (l.map .int) = some l := @Rz _ _ (fun qz => @Hz.get _ _ (qz.bar : Hz _ (by
  clear qz
  induction l with
  | nil => rfl
  | cons i l ih => show (intsD (l.map .int)).map (i :: ·) = _; rw [ih]; rfl))) Xz.mk
end
end
section
open PySem L2
end
section
open PySem L2
/- first_unlike : 70 (one, other, rows, ages, mine, yours, start, stop, first, second, found, row) -/
def b_first_unlike : List Stm := [.asg (.tup [.slot 4, .slot 5]) (.slot 2), .asg (.tup [.slot 6, .slot 7]) (.slot 3), .ite (.cmp .ne (.meth 20 (.slot 0) [.slot 6]) (.meth 20 (.slot 1) [.slot 6])) [.ret (.slot 6)] [], .ite (.cmp .is_ (.attr (.slot 4) 1) .non) [.ret .non] [], .asg (.tup [.slot 8, .slot 9]) (.comp (.call 28 [.slot 6, .attr (.slot 11) 1, .call 26 [.attr (.slot 11) 1, .attr (.slot 11) 2]]) (.slot 11) (.seq (.slot 2)) none [11]), .asg (.slot 10) (.ite (.cmp .ne (.slot 8) (.slot 9)) (.bi .min2 [.slot 8, .slot 9]) (.bin .add (.slot 8) (.bi .min2 [.attr (.slot 4) 1, .attr (.slot 5) 1]))), .ite (.and_ (.cmp .eq (.slot 8) (.slot 9)) (.cmp .eq (.attr (.slot 4) 1) (.attr (.slot 5) 1))) [.ret .non] [], .ret (.ite (.or_ (.cmp .is_ (.slot 7) .non) (.cmp .lt (.slot 10) (.slot 7))) (.slot 10) .non)]
noncomputable def T_first_unlike : Tab := { (((T0.add 26 p_offset_of).add 28 p_first_within).add 42 p_Wording_label) with psi := psiT [((1, 20), 42)], fld := fldT [(0, [1, 2])] }
noncomputable def p_first_unlike : Fn := fx T_first_unlike 4 12 b_first_unlike
/- lesser_end : 69 (one, other) -/
def b_lesser_end : List Stm := [.ite (.or_ (.cmp .is_ (.slot 0) .non) (.cmp .is_ (.slot 1) .non)) [.ret (.ite (.cmp .is_ (.slot 0) .non) (.slot 1) (.slot 0))] [], .ret (.bi .min2 [.bi .int_ [.slot 0], .bi .int_ [.slot 1]])]
noncomputable def T_lesser_end : Tab := { T0 with psi := psiT [], fld := fldT [] }
noncomputable def p_lesser_end : Fn := fx T_lesser_end 2 2 b_lesser_end
/- alike : 68 (one, other, mine, low, high, yours, begin, end, start, stop, found) -/
def b_alike : List Stm := [.for_ (.tup [.slot 2, .tup [.slot 3, .slot 4]]) (.zip (.attr (.slot 0) 4) (.call 27 [.attr (.slot 0) 4])) [.for_ (.tup [.slot 5, .tup [.slot 6, .slot 7]]) (.zip (.attr (.slot 1) 4) (.call 27 [.attr (.slot 1) 4])) [.par [8, 9] [.bi .max2 [.slot 3, .slot 6], .call 69 [.slot 4, .slot 7]], .ite (.or_ (.cmp .is_ (.slot 9) .non) (.cmp .lt (.slot 8) (.slot 9))) [.asg (.slot 10) (.call 70 [.slot 0, .slot 1, .tup [.slot 2, .slot 5], .tup [.slot 8, .slot 9]]), .ite (.cmp .isn (.slot 10) .non) [.ret (.slot 10)] []] []]], .ret .non]
noncomputable def T_alike : Tab := { (((T0.add 27 p_row_ages).add 69 p_lesser_end).add 70 p_first_unlike) with psi := psiT [], fld := fldT [(1, [4])] }
noncomputable def p_alike : Fn := fx T_alike 2 11 b_alike
end
section
open PySem L2
section
variable {T : Tab} {P : Out → List Cell → Prop} {PX : Nat → List D → List Cell → Prop} {s sto : List Cell} {r : Rw} {rs : List Rw} {u a c l o : Int} {w : Str}
end
section
local macro_rules | `(tactic| walk_at "w") => `(tactic| repeat' first
  | fail "a1"
  | (with_reducible refine' C_count ?s1 ?s2 ?s3 ?s4 ?s5 ?_; (case s1 => with_unfolding_all exact rfl); (case s2 => omega); (case s3 => omega); (case s4 => omega); (case s5 => omega))
  | (with_reducible refine' C_offset ?s1 ?_; (case s1 => with_unfolding_all exact rfl))
  | (with_reducible refine' C_fwi ?s1 ?s2 ?_; (case s1 => with_unfolding_all exact rfl); (case s2 => omega))
  | (with_reducible refine' C_foc ?s1 ?s2 ?s3 ?s4 ?s5 ?_; (case s1 => with_unfolding_all exact rfl); (case s2 => omega); (case s3 => omega); (case s4 => omega); (case s5 => omega))
  | (with_reducible refine' C_check ?s1 ?s2 ?_; (case s1 => with_unfolding_all exact rfl); (case s2 => omega))
  | (with_reducible refine' At_uS ?s1 ?s2 ?_; (case s1 => with_unfolding_all exact rfl); (case s2 => assumption))
  | (with_reducible refine' At_uN ?s1 ?s2 ?_; (case s1 => with_unfolding_all exact rfl); (case s2 => assumption))
  | (with_reducible refine' At_kS ?s1 ?s2 ?_; (case s1 => with_unfolding_all exact rfl); (case s2 => assumption))
  | (with_reducible refine' At_kN ?s1 ?s2 ?_; (case s1 => with_unfolding_all exact rfl); (case s2 => assumption))
  | (with_reducible refine' At_u ?s1 ?_; (case s1 => with_unfolding_all exact rfl))
  | (with_reducible refine' At_w ?s1 ?_; (case s1 => with_unfolding_all exact rfl))
  | (with_reducible refine' At_s ?s1 ?_; (case s1 => with_unfolding_all exact rfl))
  | (with_reducible refine' At_rs ?s1 ?_; (case s1 => with_unfolding_all exact rfl))
  | (with_reducible refine' Mt_wg ?s1 ?s2 ?_; (case s1 => with_unfolding_all exact rfl); (case s2 => with_unfolding_all exact rfl))
  | (with_reducible refine' C_rlab ?s1 ?s2 ?s3 ?s4 ?_; (case s1 => with_unfolding_all exact rfl); (case s2 => assumption); (case s3 => omega); (case s4 => omega))
  | (with_reducible refine' Ix_id ?s1 ?_; (case s1 => with_unfolding_all exact rfl))
  | (with_reducible refine' Il_id ?s1 ?s2 ?_; (case s1 => with_unfolding_all exact rfl); (case s2 => assumption))
  | (with_reducible refine' V_pop ?s1 ?s2 ?_; (case s1 => with_unfolding_all exact rfl); (case s2 => assumption))
  | (with_reducible refine C_isnTup ?_)
  | (with_reducible refine C_isTup ?_)
  | (with_reducible refine C_neSt0 ?_)
  | (with_reducible refine C_eqSt0 ?_)
  | (with_reducible refine C_eqOI ?_)
  | (with_reducible refine C_neOI ?_)
  | (with_reducible refine C_isO ?_)
  | (with_reducible refine C_isnO ?_)
  | (with_reducible refine' C_rages ?s1 ?s2 ?_; (case s1 => with_unfolding_all exact rfl); (case s2 => assumption))
  | fail "a2")
end
end
section
open PySem L2
/-! ### making a wording -/
def enumL {α : Type} : Int → List α → List (Int × α)
  | _, [] => []
  | k, x :: xs => (k, x) :: enumL (k + 1) xs
theorem enum_map {α : Type} (f : α → D) : ∀ (k : Int) (xs : List α), enumD k (xs.map f) = (enumL k xs).map fun x => .tup [.int x.1, f x.2]
  | _, [] => rfl
  | k, x :: xs => by
    show D.tup [.int k, f x] :: enumD (k + 1) (xs.map f) = _
    rw [enum_map f (k + 1) xs]; rfl
section
variable {T : Tab} {P : Out → List Cell → Prop} {PX : Nat → List D → List Cell → Prop} {s sto : List Cell} {r : Rw} {rs : List Rw} {u a c l o : Int} {w : Str} {env : List Slot} {i : Nat} {xs : List D}
theorem L_tupL {P : D → Prop} (h : P (.tup xs)) : ∃ ds d, looks env [.out (.val (.lst xs))] = some ds ∧ biD .tuple_ ds = some (.val d) ∧ P d := ⟨_, _, rfl, rfl, h⟩
end
section
local macro_rules | `(tactic| walk_at "w") => `(tactic| repeat' first
  | fail "a1"
  | (with_reducible refine' C_count ?s1 ?s2 ?s3 ?s4 ?s5 ?_; (case s1 => with_unfolding_all exact rfl); (case s2 => omega); (case s3 => omega); (case s4 => omega); (case s5 => omega))
  | (with_reducible refine' C_offset ?s1 ?_; (case s1 => with_unfolding_all exact rfl))
  | (with_reducible refine' C_fwi ?s1 ?s2 ?_; (case s1 => with_unfolding_all exact rfl); (case s2 => omega))
  | (with_reducible refine' C_foc ?s1 ?s2 ?s3 ?s4 ?s5 ?_; (case s1 => with_unfolding_all exact rfl); (case s2 => omega); (case s3 => omega); (case s4 => omega); (case s5 => omega))
  | (with_reducible refine' C_check ?s1 ?s2 ?_; (case s1 => with_unfolding_all exact rfl); (case s2 => omega))
  | (with_reducible refine' At_uS ?s1 ?s2 ?_; (case s1 => with_unfolding_all exact rfl); (case s2 => assumption))
  | (with_reducible refine' At_uN ?s1 ?s2 ?_; (case s1 => with_unfolding_all exact rfl); (case s2 => assumption))
  | (with_reducible refine' At_kS ?s1 ?s2 ?_; (case s1 => with_unfolding_all exact rfl); (case s2 => assumption))
  | (with_reducible refine' At_kN ?s1 ?s2 ?_; (case s1 => with_unfolding_all exact rfl); (case s2 => assumption))
  | (with_reducible refine' At_u ?s1 ?_; (case s1 => with_unfolding_all exact rfl))
  | (with_reducible refine' At_w ?s1 ?_; (case s1 => with_unfolding_all exact rfl))
  | (with_reducible refine' At_s ?s1 ?_; (case s1 => with_unfolding_all exact rfl))
  | (with_reducible refine' At_rs ?s1 ?_; (case s1 => with_unfolding_all exact rfl))
  | (with_reducible refine' Mt_wg ?s1 ?s2 ?_; (case s1 => with_unfolding_all exact rfl); (case s2 => with_unfolding_all exact rfl))
  | (with_reducible refine' C_rlab ?s1 ?s2 ?s3 ?s4 ?_; (case s1 => with_unfolding_all exact rfl); (case s2 => assumption); (case s3 => omega); (case s4 => omega))
  | (with_reducible refine' Ix_id ?s1 ?_; (case s1 => with_unfolding_all exact rfl))
  | (with_reducible refine' Il_id ?s1 ?s2 ?_; (case s1 => with_unfolding_all exact rfl); (case s2 => assumption))
  | (with_reducible refine' V_pop ?s1 ?s2 ?_; (case s1 => with_unfolding_all exact rfl); (case s2 => assumption))
  | (with_reducible refine C_isnTup ?_)
  | (with_reducible refine C_isTup ?_)
  | (with_reducible refine C_neSt0 ?_)
  | (with_reducible refine C_eqSt0 ?_)
  | (with_reducible refine C_eqOI ?_)
  | (with_reducible refine C_neOI ?_)
  | (with_reducible refine C_isO ?_)
  | (with_reducible refine C_isnO ?_)
  | fail "a2")
theorem check_rows_is {rs : List Rw} {sto : List Cell} (hw : WOk rs) : p_check_rows [.lst (rs.map rwD)] sto = .ret (.val .non) sto := @Rz _ _ (fun qz => @Hz.get _ _ (qz.bar : Hz _ (by
  clear qz
  refine fx_eq (fx_all rfl (env := [.val (.lst (rs.map rwD)), .un, .un, .un, .un]) rfl ?_)
  unfold b_check_rows
  walk_at "w"
  refine X_forL (α := Int × Rw) (AI_enum ?_)
  walk_at "w"
  refine ⟨_, rfl, fun x => .tup [.int x.1, rwD x.2], enumL 0 rs, fun t fr => ∃ k l low s2 s3 s4, t = enumL k l ∧ k + l.length = rs.length ∧ (l = [] ∨ Ok 1000000000000000000000000000000000000000000000000000000000000 low l) ∧ fr = ⟨[.val (.lst (rs.map rwD)), .val (.int low), s2, s3, s4], sto⟩,
    enum_map rwD 0 rs, ⟨0, rs, 0, _, _, _, rfl, by omega, .inr hw.1, rfl⟩, ?_, ?_⟩
  · rintro ⟨k, r⟩ t fr ⟨k', l, low, s2, s3, s4, h1, h2, h3, rfl⟩
    cases l with
    | nil => cases h1
    | cons r' l =>
      cases h1
      rcases h3 with h3 | h3
      · cases h3
      obtain ⟨g1, g2, g3, g4⟩ := h3
      refine ⟨_, rfl, ?_⟩
      cases hu : r.u with
      | none =>
        rw [hu] at g4
        have g4 : l = [] := g4
        subst g4
        have hk : k = ((rs.map rwD).length : Int) - 1 := by
          rw [List.length_map]; simp only [List.length_cons, List.length_nil] at h2; omega
        walk_at "w"
        exact ⟨_, [], _, _, _, _, rfl, by simp only [List.length_cons, List.length_nil] at h2 ⊢; omega, .inl rfl, rfl⟩
      | some v =>
        rw [hu] at g4
        have hk : ¬ k = ((rs.map rwD).length : Int) - 1 := by
          rw [List.length_map]; simp only [List.length_cons] at h2
          have : l ≠ [] := fun z => by subst z; exact g4.2.elim
          have := List.length_pos_iff.mpr this
          omega
        obtain ⟨g5, g6⟩ := g4
        walk_at "w"
        · omega
        · exact ⟨_, l, v, _, _, _, rfl, by simp only [List.length_cons] at h2; omega, .inr g6, rfl⟩
  · rintro fr ⟨k, l, low, s2, s3, s4, h1, h2, h3, rfl⟩
    walk_at "w"
    exact ⟨rfl, rfl⟩))) Xz.mk
end
/-! an __init__ -/
def IG (T : Tab) (ib : List (Option Nat × Tm)) (fs : List (Nat × D)) (fr : Fr) (P : List (Nat × D) → Fr → Prop) (PX : PXt) : Prop := (iniGo T ib fs fr).all P PX
section
variable {T : Tab} {ib : List (Option Nat × Tm)} {fs : List (Nat × D)} {fr : Fr} {P : List (Nat × D) → Fr → Prop} {PX : PXt} {t : Tm} {f : Nat}
theorem IG_nil (h : P fs fr) : IG T [] fs fr P PX := h
theorem IG_some (h : AD T t fr (fun d fr1 => fs.length < 1000 ∧ IG T ib (fput f d fs) fr1 P PX) PX) : IG T ((some f, t) :: ib) fs fr P PX := @Rz _ _ (fun qz => @Hz.get _ _ (qz.bar : Hz _ (by
  clear qz
  unfold IG iniGo
  refine all_fr (Rs.all_imp h (fun d fr1 h => ?_) fun _ _ _ z => z)
  rw [if_pos h.1]; exact h.2))) Xz.mk
theorem IG_none (h : A T t fr (fun _ fr1 => IG T ib fs fr1 P PX) PX) : IG T ((none, t) :: ib) fs fr P PX := @Rz _ _ (fun qz => @Hz.get _ _ (qz.bar : Hz _ (by
  clear qz
  unfold IG iniGo
  exact all_bind h))) Xz.mk
theorem ini_all {c n np : Nat} {ds : List D} {sto : List Cell} {env : List Slot} {P : Out → List Cell → Prop} {PX : Nat → List D → List Cell → Prop} (hl : ds.length = np) (he : Slot.un :: (ds.map Slot.val ++ List.replicate (n - 1 - ds.length) .un) = env)
    (h : IG T ib [] ⟨env, sto⟩ (fun fs fr => P (.val (.obj c fs)) fr.sto) fun c fs fr => PX c fs fr.sto) : (iniFn T c n np ib ds sto).all P PX := @Rz _ _ (fun qz => @Hz.get _ _ (qz.bar : Hz _ (by
  clear qz
  unfold iniFn
  rw [if_pos hl, he]
  unfold IG at h
  cases q : iniGo T ib [] ⟨env, sto⟩ <;> (rw [q] at h; exact h)))) Xz.mk
end
section
variable {T : Tab} {P : Out → List Cell → Prop} {PX : Nat → List D → List Cell → Prop} {s sto : List Cell} {rs : List Rw}
theorem C_checkr (hT : T.phi 51 = p_check_rows) (hw : WOk rs) (k : P (.val .non) s) : (T.phi 51 [.lst (rs.map rwD)] s).all P PX := by
  rw [hT]; exact all_of_eq (check_rows_is hw) k
end
section
local macro_rules | `(tactic| walk_at "w") => `(tactic| repeat' first
  | fail "a1"
  | (with_reducible refine' C_count ?s1 ?s2 ?s3 ?s4 ?s5 ?_; (case s1 => with_unfolding_all exact rfl); (case s2 => omega); (case s3 => omega); (case s4 => omega); (case s5 => omega))
  | (with_reducible refine' C_offset ?s1 ?_; (case s1 => with_unfolding_all exact rfl))
  | (with_reducible refine' C_fwi ?s1 ?s2 ?_; (case s1 => with_unfolding_all exact rfl); (case s2 => omega))
  | (with_reducible refine' C_foc ?s1 ?s2 ?s3 ?s4 ?s5 ?_; (case s1 => with_unfolding_all exact rfl); (case s2 => omega); (case s3 => omega); (case s4 => omega); (case s5 => omega))
  | (with_reducible refine' C_check ?s1 ?s2 ?_; (case s1 => with_unfolding_all exact rfl); (case s2 => omega))
  | (with_reducible refine' At_uS ?s1 ?s2 ?_; (case s1 => with_unfolding_all exact rfl); (case s2 => assumption))
  | (with_reducible refine' At_uN ?s1 ?s2 ?_; (case s1 => with_unfolding_all exact rfl); (case s2 => assumption))
  | (with_reducible refine' At_kS ?s1 ?s2 ?_; (case s1 => with_unfolding_all exact rfl); (case s2 => assumption))
  | (with_reducible refine' At_kN ?s1 ?s2 ?_; (case s1 => with_unfolding_all exact rfl); (case s2 => assumption))
  | (with_reducible refine' At_u ?s1 ?_; (case s1 => with_unfolding_all exact rfl))
  | (with_reducible refine' At_w ?s1 ?_; (case s1 => with_unfolding_all exact rfl))
  | (with_reducible refine' At_s ?s1 ?_; (case s1 => with_unfolding_all exact rfl))
  | (with_reducible refine' At_rs ?s1 ?_; (case s1 => with_unfolding_all exact rfl))
  | (with_reducible refine' Mt_wg ?s1 ?s2 ?_; (case s1 => with_unfolding_all exact rfl); (case s2 => with_unfolding_all exact rfl))
  | (with_reducible refine' C_rlab ?s1 ?s2 ?s3 ?s4 ?_; (case s1 => with_unfolding_all exact rfl); (case s2 => assumption); (case s3 => omega); (case s4 => omega))
  | (with_reducible refine' Ix_id ?s1 ?_; (case s1 => with_unfolding_all exact rfl))
  | (with_reducible refine' Il_id ?s1 ?s2 ?_; (case s1 => with_unfolding_all exact rfl); (case s2 => assumption))
  | (with_reducible refine' V_pop ?s1 ?s2 ?_; (case s1 => with_unfolding_all exact rfl); (case s2 => assumption))
  | (with_reducible refine C_isnTup ?_)
  | (with_reducible refine C_isTup ?_)
  | (with_reducible refine C_neSt0 ?_)
  | (with_reducible refine C_eqSt0 ?_)
  | (with_reducible refine C_eqOI ?_)
  | (with_reducible refine C_neOI ?_)
  | (with_reducible refine C_isO ?_)
  | (with_reducible refine C_isnO ?_)
  | (with_reducible refine L_tupL ?_)
  | (with_reducible refine' C_checkr ?s1 ?s2 ?_; (case s1 => with_unfolding_all exact rfl); (case s2 => assumption))
  | fail "a2")
theorem Wording_is {rs : List Rw} {sto : List Cell} (hw : WOk rs) : p_Wording_init [.lst (rs.map rwD)] sto = .ret (.val (wgD rs)) sto := @Rz _ _ (fun qz => @Hz.get _ _ (qz.bar : Hz _ (by
  clear qz
  refine fx_eq (ini_all rfl (env := [.un, .val (.lst (rs.map rwD))]) rfl ?_)
  unfold b_Wording_init
  refine IG_none (A_call ?_)
  walk_at "w"
  refine IG_some ?_
  walk_at "w"
  refine ⟨by decide, IG_nil ?_⟩
  exact ⟨rfl, rfl⟩))) Xz.mk
end
section
variable {T : Tab} {P : Out → List Cell → Prop} {PX : Nat → List D → List Cell → Prop} {s sto : List Cell} {rs : List Rw} {r : Rw}
theorem C_Wording (hT : T.phi 38 = p_Wording_init) (hw : WOk rs) (k : P (.val (wgD rs)) s) : (T.phi 38 [.lst (rs.map rwD)] s).all P PX := by
  rw [hT]; exact all_of_eq (Wording_is hw) k
theorem C_Row (hT : T.phi 35 = p_Row_init) (k : P (.val (rwD r)) s) : (T.phi 35 [optD r.u, optD r.k, .str r.w, .str r.s] s).all P PX := by
  rw [hT]; exact all_of_eq Row_is k
end
section
local macro_rules | `(tactic| walk_at "w") => `(tactic| repeat' first
  | fail "a1"
  | (with_reducible refine' C_count ?s1 ?s2 ?s3 ?s4 ?s5 ?_; (case s1 => with_unfolding_all exact rfl); (case s2 => omega); (case s3 => omega); (case s4 => omega); (case s5 => omega))
  | (with_reducible refine' C_offset ?s1 ?_; (case s1 => with_unfolding_all exact rfl))
  | (with_reducible refine' C_fwi ?s1 ?s2 ?_; (case s1 => with_unfolding_all exact rfl); (case s2 => omega))
  | (with_reducible refine' C_foc ?s1 ?s2 ?s3 ?s4 ?s5 ?_; (case s1 => with_unfolding_all exact rfl); (case s2 => omega); (case s3 => omega); (case s4 => omega); (case s5 => omega))
  | (with_reducible refine' C_check ?s1 ?s2 ?_; (case s1 => with_unfolding_all exact rfl); (case s2 => omega))
  | (with_reducible refine' At_uS ?s1 ?s2 ?_; (case s1 => with_unfolding_all exact rfl); (case s2 => assumption))
  | (with_reducible refine' At_uN ?s1 ?s2 ?_; (case s1 => with_unfolding_all exact rfl); (case s2 => assumption))
  | (with_reducible refine' At_kS ?s1 ?s2 ?_; (case s1 => with_unfolding_all exact rfl); (case s2 => assumption))
  | (with_reducible refine' At_kN ?s1 ?s2 ?_; (case s1 => with_unfolding_all exact rfl); (case s2 => assumption))
  | (with_reducible refine' At_u ?s1 ?_; (case s1 => with_unfolding_all exact rfl))
  | (with_reducible refine' At_w ?s1 ?_; (case s1 => with_unfolding_all exact rfl))
  | (with_reducible refine' At_s ?s1 ?_; (case s1 => with_unfolding_all exact rfl))
  | (with_reducible refine' At_rs ?s1 ?_; (case s1 => with_unfolding_all exact rfl))
  | (with_reducible refine' Mt_wg ?s1 ?s2 ?_; (case s1 => with_unfolding_all exact rfl); (case s2 => with_unfolding_all exact rfl))
  | (with_reducible refine' C_rlab ?s1 ?s2 ?s3 ?s4 ?_; (case s1 => with_unfolding_all exact rfl); (case s2 => assumption); (case s3 => omega); (case s4 => omega))
  | (with_reducible refine' Ix_id ?s1 ?_; (case s1 => with_unfolding_all exact rfl))
  | (with_reducible refine' Il_id ?s1 ?s2 ?_; (case s1 => with_unfolding_all exact rfl); (case s2 => assumption))
  | (with_reducible refine' V_pop ?s1 ?s2 ?_; (case s1 => with_unfolding_all exact rfl); (case s2 => assumption))
  | (with_reducible refine C_isnTup ?_)
  | (with_reducible refine C_isTup ?_)
  | (with_reducible refine C_neSt0 ?_)
  | (with_reducible refine C_eqSt0 ?_)
  | (with_reducible refine C_eqOI ?_)
  | (with_reducible refine C_neOI ?_)
  | (with_reducible refine C_isO ?_)
  | (with_reducible refine C_isnO ?_)
  | (with_reducible refine' C_Wording ?s1 ?s2 ?_; (case s1 => with_unfolding_all exact rfl); (case s2 => assumption))
  | (with_reducible refine' C_Row ?s1 ?_; (case s1 => with_unfolding_all exact rfl))
  | fail "a2")
theorem law_made_is {rs : List Rw} {sto : List Cell} (hw : WOk rs) : p_law_made [.lst (rs.map rtD)] sto = .ret (.val (wgD rs)) sto := @Rz _ _ (fun qz => @Hz.get _ _ (qz.bar : Hz _ (by
  clear qz
  refine fx_eq (fx_all rfl (env := [.val (.lst (rs.map rtD)), .un, .un, .un, .un]) rfl ?_)
  unfold b_law_made
  walk_at "w"
  refine A_compL (α := Rw) (AI_seq ?_)
  walk_at "w"
  refine ⟨_, rfl, rtD, rs, fun r => some (rwD r), rfl, rfl, rfl, by have := hw.2; omega, fun r acc hr => ⟨_, rfl, rfl, AC_none ⟨rfl, fun _ => ?_, fun z => Bool.noConfusion z⟩⟩, ?_⟩
  · walk_at "w"
    exact ⟨rfl, rfl⟩
  · rw [List.filterMap_eq_map']
    refine ⟨_, rfl, ?_⟩
    walk_at "w"
    exact ⟨rfl, rfl⟩))) Xz.mk
end
end
section
open PySem L2
/-! ### drawn rows -/
/-- rows all with an until, from l to e -/
def Chn (B : Int) : Int → List Rw → Int → Prop
  | l, [], e => l = e
  | l, r :: rs, e => RwN B r ∧ ∃ v, r.u = some v ∧ l < v ∧ v < B ∧ Chn B v rs e
theorem Chn.snoc {B : Int} : ∀ {rs : List Rw} {l e v : Int} {r : Rw}, Chn B l rs e → RwN B r → r.u = some v → e < v → v < B → Chn B l (rs ++ [r]) v
  | [], l, e, v, r, h, h1, h2, h3, h4 => by
    have h : l = e := h
    subst h
    exact ⟨h1, v, h2, h3, h4, rfl⟩
  | x :: xs, l, e, v, r, ⟨g1, w, g2, g3, g4, g5⟩, h1, h2, h3, h4 => ⟨g1, w, g2, g3, g4, g5.snoc h1 h2 h3 h4⟩
theorem Chn.last {B : Int} : ∀ {rs : List Rw} {l e : Int} {r : Rw}, Chn B l rs e → 0 ≤ l → l < B → RwN B r → r.u = none → Ok B l (rs ++ [r])
  | [], l, e, r, h, h0, hB, h1, h2 => ⟨h1, h0, hB, by rw [h2]⟩
  | x :: xs, l, e, r, ⟨g1, w, g2, g3, g4, g5⟩, h0, hB, h1, h2 => ⟨g1, h0, hB, by rw [g2]; exact ⟨g3, g5.last (by omega) g4 h1 h2⟩⟩
theorem Ok.mono {B B' : Int} (hb : B ≤ B') : ∀ {rs : List Rw} {l : Int}, Ok B l rs → Ok B' l rs
  | [], _, h => h
  | r :: rs, l, ⟨h1, h2, h3, h4⟩ => ⟨fun u e => by have := h1 u e; omega, h2, by omega, by
    cases q : r.u with
    | none => rw [q] at h4; exact h4
    | some v => rw [q] at h4; exact ⟨h4.1, Ok.mono hb h4.2⟩⟩
/-- all numbers times a factor -/
def tms (f : Int) (r : Rw) : Rw := ⟨r.u.map (· * f), r.k.map (· * f), r.w, r.s⟩
theorem Ok.times {B f : Int} (hf : 0 < f) : ∀ {rs : List Rw} {l : Int}, Ok B l rs → Ok (B * f) (l * f) (rs.map (tms f))
  | [], _, h => h
  | r :: rs, l, ⟨h1, h2, h3, h4⟩ => by
    have lt : ∀ {x y : Int}, x < y → x * f < y * f := fun h => Int.mul_lt_mul_of_pos_right h hf
    refine ⟨fun u e => ?_, Int.mul_nonneg h2 (by omega), lt h3, ?_⟩
    · cases q : r.k with
      | none =>
        have e : (r.k.map (· * f)) = some u := e
        rw [q] at e; cases e
      | some v =>
        have e : (r.k.map (· * f)) = some u := e
        rw [q] at e; cases e
        have := h1 v q
        exact ⟨Int.mul_pos this.1 hf, lt this.2⟩
    · show (match (r.u.map (· * f)) with | none => _ | some v => _)
      cases q : r.u with
      | none => rw [q] at h4; have h4 : rs = [] := h4; subst h4; rfl
      | some v => rw [q] at h4; exact ⟨lt h4.1, Ok.times hf h4.2⟩
/-- steady: unlike words, and rows that go on as the one before -/
def stW : List Str := ["now", "s", "m", "h", "d", "w"]
def Std (rs : List Rw) : Prop := ∀ i r, rs[i]? = some r → (stW[i]? = some r.s) ∨ ∃ p, 0 < i ∧ rs[i - 1]? = some p ∧ r.k = p.k ∧ r.w = p.w ∧ r.s = p.s
/-- drawn rows -/
structure Drawn (B : Int) (ws : List Str) (rs : List Rw) : Prop where
  ok : Ok B 0 rs
  len : rs.length ≤ 6
  way : ∀ r ∈ rs, Way r.w
  std : ws = [] → Std rs
  wrd : ∀ r ∈ rs, r.s ∈ stW ∨ r.s ∈ ws
section
variable {T : Tab} {P : Out → List Cell → Prop} {PX : Nat → List D → List Cell → Prop} {s sto : List Cell} {rs : List Rw} {r : Rw} {B : Int}
theorem C_made (hT : T.phi 414 = p_law_made) (hw : WOk rs) (k : P (.val (wgD rs)) s) : (T.phi 414 [.lst (rs.map rtD)] s).all P PX := by
  rw [hT]; exact all_of_eq (law_made_is hw) k
end
section
local macro_rules | `(tactic| walk_at "w") => `(tactic| repeat' first
  | fail "a1"
  | (with_reducible refine' C_draw ?s1 ?s2 ?s3 ?s4 ?s5 ?_; (case s1 => with_unfolding_all exact rfl); (case s2 => assumption); (case s3 => omega); (case s4 => omega); (case s5 => omega); intro r s' hr0 hr1 hp)
  | fail "a2")
theorem number_is {s : List Cell} {B : Int} (hp : Pn B s) (hB : B < 100000000000000000000000000000) : (p_law_number [.cell 0] s).all (fun o s' => ∃ n, o = .val (.int n) ∧ 0 ≤ n ∧ n < 90 ∧ Pn (B + 5) s') (fun _ _ _ => False) := @Rz _ _ (fun qz => @Hz.get _ _ (qz.bar : Hz _ (by
  clear qz
  refine fx_all rfl (env := [.val (.cell 0)]) rfl ?_
  unfold b_law_number
  walk_at "w"
  rename_i r1 s1 a1 b1 p1 r2 s2 a2 b2 p2 r3 s3 a3 b3 p3 r4 s4 a4 b4 p4
  refine C_pick rfl p4 (by omega) (by simp) (by simp) (fun x s5 hx p5 => ?_)
  walk_at "w"
  simp only [List.mem_cons, List.not_mem_nil, or_false] at hx
  rcases hx with rfl | rfl | rfl | rfl
  · exact ⟨_, rfl, by omega, by omega, p5.mono (by omega)⟩
  · exact ⟨_, rfl, by omega, by omega, p5.mono (by omega)⟩
  · exact ⟨_, rfl, by omega, by omega, p5.mono (by omega)⟩
  · exact ⟨_, rfl, by omega, by omega, p5.mono (by omega)⟩))) Xz.mk
end
section
variable {T : Tab} {P : Out → List Cell → Prop} {PX : Nat → List D → List Cell → Prop} {s : List Cell} {B : Int}
theorem C_number (hT : T.phi 422 = p_law_number) (hp : Pn B s) (hB : B < 100000000000000000000000000000) (k : ∀ (n : Int) (s' : List Cell), 0 ≤ n → n < 90 → Pn (B + 5) s' → P (.val (.int n)) s') : (T.phi 422 [.cell 0] s).all P PX := @Rz _ _ (fun qz => @Hz.get _ _ (qz.bar : Hz _ (by
  clear qz
  rw [hT]
  refine fx_imp (number_is hp hB) (fun o s h => ?_) fun _ _ _ z => z.elim
  obtain ⟨n, rfl, h1, h2, h3⟩ := h
  exact k n s h1 h2 h3))) Xz.mk
end
end
section
open PySem L2
/-! ### lists of texts -/
theorem toPys_strs : ∀ ws : List Str, toPys (ws.map D.str) = some (ws.map PyData.str)
  | [] => rfl
  | w :: ws => by
    show (match toPy (.str w), toPys (ws.map D.str) with | some x, some xs => some (x :: xs) | _, _ => none) = _
    rw [toPys_strs ws]; rfl
theorem lays_strs : ∀ ws : List Str, (ws.all PyData.strOk) = true → PyData.canLayAll0 (ws.map PyData.str) = true
  | [], _ => rfl
  | w :: ws, h => by
    rw [List.all_cons, Bool.and_eq_true] at h
    show (PyData.strOk w && PyData.canLayAll0 (ws.map PyData.str)) = true
    rw [h.1, lays_strs ws h.2]; rfl
theorem deps_strs : ∀ ws : List Str, PyData.depthAll (ws.map PyData.str) = 0
  | [] => rfl
  | w :: ws => by
    show max (PyData.depth (.str w)) (PyData.depthAll (ws.map PyData.str)) = 0
    rw [deps_strs ws]; rfl
theorem eq_strs0 {ws : List Str} (h : (ws.all PyData.strOk) = true) : eqD (.lst (ws.map D.str)) (.lst []) = some (decide (ws = [])) := @Rz _ _ (fun qz => @Hz.get _ _ (qz.bar : Hz _ (by
  clear qz
  have tp : toPy (.lst (ws.map D.str)) = some (.list (ws.map PyData.str)) := by
    show (toPys (ws.map D.str)).map PyData.list = _
    rw [toPys_strs]; rfl
  have sh : SeqAt.shaped (.list (ws.map PyData.str)) = true := by
    show (PyData.canLayAll0 (ws.map PyData.str) && decide (PyData.depthAll (ws.map PyData.str) + 1 ≤ 64)) = true
    rw [lays_strs ws h, deps_strs]; rfl
  show eqP _ _ = _
  unfold eqP
  rw [tp]
  show (if (SeqAt.shaped (.list (ws.map PyData.str)) && SeqAt.shaped (.list [])) = true then some (PyData.eqvAll (ws.map PyData.str) []) else none) = _
  rw [sh]
  cases ws <;> rfl))) Xz.mk
section
variable {T : Tab} {fr : Fr} {PD : D → Fr → Prop} {PX : PXt} {b : Tm} {ts : List Tm} {P : Bool → Prop} {ws : List Str} {sto : List Cell} {Q : D → Prop}
theorem C_eqStrs0T (h0 : (ws.all PyData.strOk) = true) (e : ws = []) (h : P true) : ∃ k, cmpD .eq (.lst (ws.map D.str)) (.lst []) = some k ∧ P k := ⟨_, eq_strs0 h0, by rw [decide_eq_true e]; exact h⟩
theorem C_eqStrs0F (h0 : (ws.all PyData.strOk) = true) (e : ¬ ws = []) (h : P false) : ∃ k, cmpD .eq (.lst (ws.map D.str)) (.lst []) = some k ∧ P k := ⟨_, eq_strs0 h0, by rw [decide_eq_false e]; exact h⟩
theorem V_ixLst (h : AS T ts fr (fun ds fr1 => ds.length ≤ sizeLine ∧ AV T b fr1 (fun k fr2 => ∃ v, ixD fr2.sto (.lst ds) k = some v ∧ PD v fr2) PX) PX) : AV T (.ix (.lst ts) b) fr PD PX :=
  A_ix (A_lst (Rs.all_imp h (fun ds fr1 z => ⟨z.1, AD_V (A_imp z.2 fun r fr2 y => by
    obtain ⟨k, rfl, v, h1, h2⟩ := y
    exact ⟨k, rfl, _, v, rfl, h1, v, rfl, h2⟩)⟩) fun _ _ _ z => z))
theorem Ix_stW {i : Nat} (hi : i < 6) (k : ∀ w, stW[i]? = some w → Q (.str w)) : ∃ v, ixD sto (.lst [.str "now", .str "s", .str "m", .str "h", .str "d", .str "w"]) (.int (0 + (i : Int))) = some v ∧ Q v := @Rz _ _ (fun qz => @Hz.get _ _ (qz.bar : Hz _ (by
  clear qz
  have : i = 0 ∨ i = 1 ∨ i = 2 ∨ i = 3 ∨ i = 4 ∨ i = 5 := by omega
  rcases this with rfl | rfl | rfl | rfl | rfl | rfl <;> exact ⟨_, rfl, k _ rfl⟩))) Xz.mk
end
/-- drawn rows so far -/
structure Dr (m : Int) (ws : List Str) (i : Nat) (e : Int) (rs : List Rw) : Prop where
  len : rs.length = i
  chn : (i : Int) < m → Chn 2000 0 rs e ∧ 0 ≤ e ∧ e ≤ 90 * i
  ok : (i : Int) = m → Ok 2000 0 rs
  way : ∀ r ∈ rs, Way r.w
  std : ws = [] → Std rs
  wrd : ∀ r ∈ rs, r.s ∈ stW ∨ r.s ∈ ws
theorem Dr.step {m : Int} {ws : List Str} {i : Nat} {e n : Int} {rs : List Rw} {r : Rw} (h : Dr m ws i e rs) (hi : (i : Int) < m) (hm : m ≤ 6) (hn : 0 ≤ n ∧ n < 90) (hu : r.u = if (i : Int) = m - 1 then none else some (e + 1 + n)) (hN : RwN 2000 r) (hw : Way r.w)
    (hs : ws = [] → (stW[i]? = some r.s) ∨ ∃ p, rs.getLast? = some p ∧ r.k = p.k ∧ r.w = p.w ∧ r.s = p.s) (hws : ¬ ws = [] → r.s ∈ ws) : Dr m ws (i + 1) (e + 1 + n) (rs ++ [r]) := @Rz _ _ (fun qz => @Hz.get _ _ (qz.bar : Hz _ (by
  clear qz
  obtain ⟨c1, c2, c3⟩ := h.chn hi
  refine ⟨by rw [List.length_append, h.len]; rfl, fun q => ?_, fun q => ?_, fun x hx => ?_, fun q => ?_, fun x hx => ?_⟩
  · rw [if_neg (by omega)] at hu
    exact ⟨c1.snoc hN hu (by omega) (by omega), by omega, by omega⟩
  · rw [if_pos (by omega)] at hu
    exact c1.last (by omega) (by omega) hN hu
  · rcases List.mem_append.mp hx with z | z
    · exact h.way x z
    · rw [List.mem_singleton.mp z]; exact hw
  · intro j x hx
    by_cases z : j < rs.length
    · rw [List.getElem?_append_left z] at hx
      rcases h.std q j x hx with y | ⟨p, h1, h2, h3⟩
      · exact .inl y
      · exact .inr ⟨p, h1, by rw [List.getElem?_append_left (by omega)]; exact h2, h3⟩
    · have hj : j = rs.length := by
        have := (List.getElem?_eq_some_iff.mp hx).1
        rw [List.length_append] at this
        simp only [List.length_cons, List.length_nil] at this
        omega
      subst hj
      rw [List.getElem?_append_right (Nat.le_refl _), Nat.sub_self] at hx
      cases hx
      rcases hs q with y | ⟨p, h1, h2⟩
      · rw [h.len]; exact .inl y
      · have hne : rs ≠ [] := fun z => by rw [z] at h1; cases h1
        have hl := List.length_pos_iff.mpr hne
        refine .inr ⟨p, hl, ?_, h2⟩
        rw [List.getElem?_append_left (by omega), ← List.getLast?_eq_getElem?]; exact h1
  · rcases List.mem_append.mp hx with z | z
    · exact h.wrd x z
    · rw [List.mem_singleton.mp z]
      by_cases q : ws = []
      · rcases hs q with y | ⟨p, h1, _, _, h4⟩
        · exact .inl (List.mem_of_getElem? y)
        · rw [h4]; exact h.wrd p (List.mem_of_getLast? h1)
      · exact .inr (hws q)))) Xz.mk
theorem unit_of {x : D} {r1 r2 : Int} (h : x ∈ [D.non, .int 1, .int 2, .int 3, .int (1 + r1), .int (1 + r2)]) (h1 : 0 ≤ r1 ∧ r1 < 8) (h2 : 0 ≤ r2 ∧ r2 < 30) : ∃ k : Option Int, x = optD k ∧ ∀ u, k = some u → 0 < u ∧ u < 2000 := @Rz _ _ (fun qz => @Hz.get _ _ (qz.bar : Hz _ (by
  clear qz
  simp only [List.mem_cons, List.not_mem_nil, or_false] at h
  rcases h with rfl | rfl | rfl | rfl | rfl | rfl
  · exact ⟨none, rfl, fun u e => (by cases e)⟩
  all_goals exact ⟨some _, rfl, fun u e => by cases e; omega⟩))) Xz.mk
section
local macro_rules | `(tactic| walk_at "w") => `(tactic| repeat' first
  | (with_reducible refine V_ixLst ?_)
  | fail "a1"
  | (with_reducible refine' Ix_id ?s1 ?_; (case s1 => with_unfolding_all exact rfl))
  | (with_reducible refine' Il_id ?s1 ?s2 ?_; (case s1 => with_unfolding_all exact rfl); (case s2 => assumption))
  | (with_reducible refine' V_pop ?s1 ?s2 ?_; (case s1 => with_unfolding_all exact rfl); (case s2 => assumption))
  | (with_reducible refine C_isnTup ?_)
  | (with_reducible refine C_isTup ?_)
  | (with_reducible refine C_neSt0 ?_)
  | (with_reducible refine C_eqSt0 ?_)
  | (with_reducible refine C_eqOI ?_)
  | (with_reducible refine C_neOI ?_)
  | (with_reducible refine C_isO ?_)
  | (with_reducible refine C_isnO ?_)
  | (with_reducible refine' C_draw ?s1 ?s2 ?s3 ?s4 ?s5 ?_; (case s1 => with_unfolding_all exact rfl); (case s2 => assumption); (case s3 => omega); (case s4 => omega); (case s5 => omega); intro r s' hr0 hr1 hp)
  | (with_reducible refine' C_number ?s1 ?s2 ?s3 ?_; (case s1 => with_unfolding_all exact rfl); (case s2 => assumption); (case s3 => omega); intro n s' hn0 hn1 hp)
  | (with_reducible refine' C_way ?s1 ?s2 ?s3 ?_; (case s1 => with_unfolding_all exact rfl); (case s2 => assumption); (case s3 => omega); intro w s' hw hp)
  | (with_reducible refine' C_eqStrs0T ?s1 ?s2 ?_; (case s1 => assumption); (case s2 => assumption))
  | (with_reducible refine' C_eqStrs0F ?s1 ?s2 ?_; (case s1 => assumption); (case s2 => assumption))
  | fail "a2")
end
end
section
open PySem L2
/-! ### the law's own reading of rows -/
/-- the place of the row of an age -/
def rowOf : List Rw → Int → Nat
  | [], _ => 0
  | r :: rs, a => match r.u with
    | none => 0
    | some v => if a < v then 0 else rowOf rs a + 1
theorem rowOf_lab {B : Int} : ∀ {rs : List Rw} {l a : Int}, Ok B l rs → ∃ r, rs[rowOf rs a]? = some r ∧ lab rs a = rlab r a ∧ RwN B r ∧ (∀ v, r.u = some v → a < v) ∧ ∀ j r', j < rowOf rs a → rs[j]? = some r' → ∃ v, r'.u = some v ∧ v ≤ a
  | [], _, _, h => h.elim
  | r :: rs, l, a, ⟨h1, h2, h3, h4⟩ => by
    unfold rowOf lab
    cases q : r.u with
    | none => exact ⟨r, rfl, rfl, h1, fun v z => (by rw [q] at z; cases z), fun j r' hj => (by cases hj)⟩
    | some v =>
      rw [q] at h4
      dsimp only
      by_cases z : a < v
      · rw [if_pos z, if_pos z]
        exact ⟨r, rfl, rfl, h1, fun w y => (by rw [q] at y; cases y; exact z), fun j r' hj => (by cases hj)⟩
      · rw [if_neg z, if_neg z]
        obtain ⟨r', g1, g2, g3, g4, g5⟩ := rowOf_lab (a := a) h4.2
        refine ⟨r', by simpa using g1, g2, g3, g4, fun j r'' hj hr => ?_⟩
        cases j with
        | zero => cases hr; exact ⟨v, q, by omega⟩
        | succ j => exact g5 j r'' (by omega) (by simpa using hr)
theorem rowOf_lt {B : Int} {rs : List Rw} {l a : Int} (h : Ok B l rs) : rowOf rs a < rs.length := @Rz _ _ (fun qz => @Hz.get _ _ (qz.bar : Hz _ (by
  clear qz
  obtain ⟨r, h1, _⟩ := rowOf_lab (a := a) h
  exact (List.getElem?_eq_some_iff.mp h1).1))) Xz.mk
section
variable {T : Tab} {P : Out → List Cell → Prop} {PX : Nat → List D → List Cell → Prop} {s sto : List Cell} {rs : List Rw} {r : Rw} {B u a m : Int} {w : Str} {ws : List Str}
theorem ix_rt {i : Int} {Q : D → Prop} (h0 : 0 ≤ i) (hr : rs[i.toNat]? = some r) (k : Q (.tup [optD r.u, optD r.k, .str r.w, .str r.s])) : ∃ v, ixD sto (.lst (rs.map rtD)) (.int i) = some v ∧ Q v := @Rz _ _ (fun qz => @Hz.get _ _ (qz.bar : Hz _ (by
  clear qz
  refine ⟨_, ?_, k⟩
  have := (List.getElem?_eq_some_iff.mp hr).1
  show atI (rs.map rtD) i = _
  rw [atI_ok h0 (by rw [List.length_map]; omega), List.getElem?_map, hr]; rfl))) Xz.mk
end
section
local macro_rules | `(tactic| walk_at "w") => `(tactic| repeat' first
  | fail "a1"
  | (with_reducible refine' Ix_id ?s1 ?_; (case s1 => with_unfolding_all exact rfl))
  | (with_reducible refine' Il_id ?s1 ?s2 ?_; (case s1 => with_unfolding_all exact rfl); (case s2 => assumption))
  | (with_reducible refine' V_pop ?s1 ?s2 ?_; (case s1 => with_unfolding_all exact rfl); (case s2 => assumption))
  | (with_reducible refine C_isnTup ?_)
  | (with_reducible refine C_isTup ?_)
  | (with_reducible refine C_neSt0 ?_)
  | (with_reducible refine C_eqSt0 ?_)
  | (with_reducible refine C_eqOI ?_)
  | (with_reducible refine C_neOI ?_)
  | (with_reducible refine C_isO ?_)
  | (with_reducible refine C_isnO ?_)
  | fail "a2")
theorem lcount_is {u a : Int} {w : Str} {sto : List Cell} (h0 : 0 < u) (h1 : u < 10000000000000000000000000000000000000000000000000000000000000) (h2 : -10000000000000000000000000000000000000000000000000000000000000 < a) (h3 : a < 10000000000000000000000000000000000000000000000000000000000000) : p_law_count [.int u, .str w, .int a] sto = .ret (.val (.int (cnt w u a))) sto := @Rz _ _ (fun qz => @Hz.get _ _ (qz.bar : Hz _ (by
  clear qz
  rw [← lcnt_cnt h0]
  refine fx_eq (fx_all rfl (env := [.val (.int u), .val (.str w), .val (.int a)]) rfl ?_)
  unfold b_law_count lcnt
  walk_at "w"
  · rw [if_pos ‹_›]; exact ⟨rfl, rfl⟩
  · rw [if_neg ‹_›, if_pos ‹_›]; exact ⟨rfl, rfl⟩
  · rw [if_neg ‹_›, if_neg ‹_›]; exact ⟨rfl, rfl⟩))) Xz.mk
theorem law_row_of_is {rs : List Rw} {a : Int} {sto : List Cell} (hw : WOk rs) : p_law_row_of [.lst (rs.map rtD), .int a] sto = .ret (.val (.int (rowOf rs a))) sto := @Rz _ _ (fun qz => @Hz.get _ _ (qz.bar : Hz _ (by
  clear qz
  obtain ⟨R, hR, _, _, hR4, hR5⟩ := rowOf_lab (a := a) hw.1
  have hlt := rowOf_lt (a := a) hw.1
  refine fx_eq (fx_all rfl (env := [.val (.lst (rs.map rtD)), .val (.int a), .un]) rfl ?_)
  unfold b_law_row_of
  walk_at "w"
  with_reducible refine X_forI (AI_range1V ?_)
  walk_at "w"
  have := hw.2
  refine ⟨⟨by rw [List.length_map]; omega, by rw [List.length_map]; omega⟩, fun i fr => i ≤ rowOf rs a ∧ ∃ s2, fr = ⟨[.val (.lst (rs.map rtD)), .val (.int a), s2], sto⟩, ⟨Nat.zero_le _, _, rfl⟩, ?_, ?_⟩
  · rintro i x fr hx ⟨hi, s2, rfl⟩
    obtain ⟨hi2, rfl⟩ := range_at hx
    refine ⟨_, rfl, ?_⟩
    have hir : i < rs.length := by omega
    have hr : rs[(0 + (i : Int)).toNat]? = some rs[i] := by rw [show (0 + (i : Int)).toNat = i by omega]; exact List.getElem?_eq_getElem hir
    have hr2 : rs[i]? = some rs[i] := List.getElem?_eq_getElem hir
    generalize rs[i] = r at hr hr2
    by_cases hlast : i = rowOf rs a
    · rw [← hlast, hr2] at hR
      cases hR
      cases hu : R.u with
      | none =>
        walk_at "w"
        refine ix_rt (by omega) hr ?_
        rw [hu, optD_none]
        walk_at "w"
        rw [← hlast, Int.zero_add]; exact ⟨rfl, rfl⟩
      | some v =>
        have := hR4 v hu
        walk_at "w"
        refine ix_rt (by omega) hr ?_
        rw [hu, optD_some]
        walk_at "w"
        refine ix_rt (by omega) hr ?_
        rw [hu, optD_some]
        walk_at "w"
        rw [← hlast, Int.zero_add]; exact ⟨rfl, rfl⟩
    · obtain ⟨v, hu, hv⟩ := hR5 i r (by omega) hr2
      walk_at "w"
      refine ix_rt (by omega) hr ?_
      rw [hu, optD_some]
      walk_at "w"
      refine ix_rt (by omega) hr ?_
      rw [hu, optD_some]
      walk_at "w"
      · omega
      · exact ⟨by omega, _, rfl⟩
  · rintro fr ⟨hi, s2, rfl⟩
    rw [rangeD_len, List.length_map] at hi
    omega))) Xz.mk
end
section
variable {T : Tab} {P : Out → List Cell → Prop} {PX : Nat → List D → List Cell → Prop} {s sto : List Cell} {rs : List Rw} {r : Rw} {B u a m : Int} {w : Str}
theorem C_lcount (hT : T.phi 320 = p_law_count) (h0 : 0 < u) (h1 : u < 10000000000000000000000000000000000000000000000000000000000000) (h2 : -10000000000000000000000000000000000000000000000000000000000000 < a) (h3 : a < 10000000000000000000000000000000000000000000000000000000000000) (k : P (.val (.int (cnt w u a))) s) : (T.phi 320 [.int u, .str w, .int a] s).all P PX := by
  rw [hT]; exact all_of_eq (lcount_is h0 h1 h2 h3) k
theorem C_rowof (hT : T.phi 445 = p_law_row_of) (hw : WOk rs) (k : P (.val (.int (rowOf rs a))) s) : (T.phi 445 [.lst (rs.map rtD), .int a] s).all P PX := by
  rw [hT]; exact all_of_eq (law_row_of_is hw) k
end
section
local macro_rules | `(tactic| walk_at "w") => `(tactic| repeat' first
  | fail "a1"
  | (with_reducible refine' Ix_id ?s1 ?_; (case s1 => with_unfolding_all exact rfl))
  | (with_reducible refine' Il_id ?s1 ?s2 ?_; (case s1 => with_unfolding_all exact rfl); (case s2 => assumption))
  | (with_reducible refine' V_pop ?s1 ?s2 ?_; (case s1 => with_unfolding_all exact rfl); (case s2 => assumption))
  | (with_reducible refine C_isnTup ?_)
  | (with_reducible refine C_isTup ?_)
  | (with_reducible refine C_neSt0 ?_)
  | (with_reducible refine C_eqSt0 ?_)
  | (with_reducible refine C_eqOI ?_)
  | (with_reducible refine C_neOI ?_)
  | (with_reducible refine C_isO ?_)
  | (with_reducible refine C_isnO ?_)
  | (with_reducible refine' C_lcount ?s1 ?s2 ?s3 ?s4 ?s5 ?_; (case s1 => with_unfolding_all exact rfl); (case s2 => omega); (case s3 => omega); (case s4 => omega); (case s5 => omega))
  | (with_reducible refine' C_rowof ?s1 ?s2 ?_; (case s1 => with_unfolding_all exact rfl); (case s2 => assumption))
  | fail "a2")
theorem law_label_is {rs : List Rw} {a : Int} {sto : List Cell} (hw : WOk rs) (h0 : 0 ≤ a) (h1 : a < 1000000000000000000000000000000000000000000000000000000000000) : p_law_label [.lst (rs.map rtD), .int a] sto = .ret (.val (lbD (lab rs a))) sto := @Rz _ _ (fun qz => @Hz.get _ _ (qz.bar : Hz _ (by
  clear qz
  obtain ⟨R, hR, hlab, hN, _⟩ := rowOf_lab (a := a) hw.1
  refine fx_eq (fx_all rfl (env := [.val (.lst (rs.map rtD)), .val (.int a), .un, .un, .un, .un]) rfl ?_)
  unfold b_law_label
  walk_at "w"
  refine ix_rt (by omega) (by simpa using hR) ?_
  rw [hlab]
  cases hk : R.k with
  | none =>
    rw [optD_none]
    walk_at "w"
    unfold rlab; rw [hk]; exact ⟨rfl, rfl⟩
  | some u =>
    have := hN u hk
    rw [optD_some]
    walk_at "w"
    rw [rlab_some hk]; exact ⟨rfl, rfl⟩))) Xz.mk
theorem law_times_is {rs : List Rw} {f B : Int} {sto : List Cell} (hw : Ok B 0 rs) (hB : B ≤ 1000000000000000000000000000000000000000000000000000000000000) (hl : rs.length ≤ 1000) (hf : 0 < f) (hf2 : f < 1000000000000000000000000000000000000000000000000000000000000) : p_law_times [.lst (rs.map rtD), .int f] sto = .ret (.fresh ((rs.map (tms f)).map rtD)) sto := @Rz _ _ (fun qz => @Hz.get _ _ (qz.bar : Hz _ (by
  clear qz
  refine fx_eq (fx_all rfl (env := [.val (.lst (rs.map rtD)), .val (.int f), .un, .un, .un, .un, .un]) rfl ?_)
  unfold b_law_times
  walk_at "w"
  refine X_forL (α := Rw) (AI_seq ?_)
  walk_at "w"
  refine ⟨_, rfl, rtD, rs, fun l fr => ∃ done s3 s4 s5 s6, (∃ low, l = [] ∨ Ok B low l) ∧ done ++ l = rs ∧ fr = ⟨[.val (.lst (rs.map rtD)), .val (.int f), .own ((done.map (tms f)).map rtD), s3, s4, s5, s6], sto⟩, rfl, ⟨[], _, _, _, _, ⟨0, .inr hw⟩, rfl, rfl⟩, ?_, ?_⟩
  · rintro r l fr ⟨done, s3, s4, s5, s6, ⟨low, h1⟩, h2, rfl⟩
    rcases h1 with h1 | ⟨hN, hl0, hlB, hk⟩
    · cases h1
    have hlen : ((done.map (tms f)).map rtD).length < 16777216 := by
      rw [List.length_map, List.length_map]
      have := congrArg List.length h2
      rw [List.length_append] at this; omega
    have fin : ∀ (s3 s4 s5 s6 : Slot), ∃ done' s3' s4' s5' s6', (∃ low, l = [] ∨ Ok B low l) ∧ done' ++ l = rs ∧
        (⟨[.val (.lst (rs.map rtD)), .val (.int f), .own ((done.map (tms f)).map rtD ++ [rtD (tms f r)]), s3, s4, s5, s6], sto⟩ : Fr) = ⟨[.val (.lst (rs.map rtD)), .val (.int f), .own ((done'.map (tms f)).map rtD), s3', s4', s5', s6'], sto⟩ := fun s3 s4 s5 s6 => by
      refine ⟨done ++ [r], s3, s4, s5, s6, ?_, by rw [← h2, List.append_assoc]; rfl, by rw [List.map_append, List.map_append]; rfl⟩
      cases hu : r.u with
      | none => rw [hu] at hk; exact ⟨0, .inl hk⟩
      | some v => rw [hu] at hk; exact ⟨v, .inr hk.2⟩
    refine ⟨_, rfl, ?_⟩
    have hub : ∀ v, r.u = some v → 0 < v ∧ v < 1000000000000000000000000000000000000000000000000000000000000 := fun v hu => by
      rw [hu] at hk
      obtain ⟨k1, k2⟩ := hk
      have : v < B := by
        cases l with
        | nil => exact k2.elim
        | cons x xs => exact k2.2.2.1
      omega
    cases hu : r.u with
    | none =>
      cases hkk : r.k with
      | none =>
        have e : rtD (tms f r) = .tup [.non, .non, .str r.w, .str r.s] := by unfold rtD tms; rw [hu, hkk]; rfl
        walk_at "w"
        have := fin; rw [e] at this; exact this _ _ _ _
      | some u =>
        have := hN u hkk
        have e : rtD (tms f r) = .tup [.non, .int (u * f), .str r.w, .str r.s] := by unfold rtD tms; rw [hu, hkk]; rfl
        walk_at "w"
        have := fin; rw [e] at this; exact this _ _ _ _
    | some v =>
      have hv := hub v hu
      cases hkk : r.k with
      | none =>
        have e : rtD (tms f r) = .tup [.int (v * f), .non, .str r.w, .str r.s] := by unfold rtD tms; rw [hu, hkk]; rfl
        walk_at "w"
        have := fin; rw [e] at this; exact this _ _ _ _
      | some u =>
        have := hN u hkk
        have e : rtD (tms f r) = .tup [.int (v * f), .int (u * f), .str r.w, .str r.s] := by unfold rtD tms; rw [hu, hkk]; rfl
        walk_at "w"
        have := fin; rw [e] at this; exact this _ _ _ _
  · rintro fr ⟨done, s3, s4, s5, s6, _, h2, rfl⟩
    rw [List.append_nil] at h2
    subst h2
    walk_at "w"
    exact ⟨rfl, rfl⟩))) Xz.mk
end
section
variable {T : Tab} {P : Out → List Cell → Prop} {PX : Nat → List D → List Cell → Prop} {s sto : List Cell} {rs : List Rw} {r : Rw} {B u a m f : Int} {w : Str}
theorem C_llab (hT : T.phi 396 = p_law_label) (hw : WOk rs) (h0 : 0 ≤ a) (h1 : a < 1000000000000000000000000000000000000000000000000000000000000) (k : P (.val (lbD (lab rs a))) s) : (T.phi 396 [.lst (rs.map rtD), .int a] s).all P PX := by
  rw [hT]; exact all_of_eq (law_label_is hw h0 h1) k
theorem C_times (hT : T.phi 481 = p_law_times) (hw : Ok B 0 rs) (hB : B ≤ 1000000000000000000000000000000000000000000000000000000000000) (hl : rs.length ≤ 1000) (hf : 0 < f) (hf2 : f < 1000000000000000000000000000000000000000000000000000000000000) (k : P (.fresh ((rs.map (tms f)).map rtD)) s) : (T.phi 481 [.lst (rs.map rtD), .int f] s).all P PX := by
  rw [hT]; exact all_of_eq (law_times_is hw hB hl hf hf2) k
end
end
section
open PySem L2
/-- the words are texts -/
def SOk (rs : List Rw) : Prop := ∀ r ∈ rs, PyData.strOk r.s = true
theorem lab_ok : ∀ {rs : List Rw} (a : Int), SOk rs → PyData.strOk (lab rs a).1 = true
  | [], _, _ => by show PyData.strOk ("" : Str) = true; decide +kernel
  | r :: rs, a, h => by
    have h1 := h r (List.mem_cons_self ..)
    have h2 := lab_ok (rs := rs) a fun x hx => h x (List.mem_cons_of_mem _ hx)
    unfold lab
    cases q : r.u with
    | none => exact h1
    | some v =>
      dsimp only
      by_cases z : a < v
      · rw [if_pos z]; exact h1
      · rw [if_neg z]; exact h2
/-- where the row of an index begins -/
def lo : Int → List Rw → Nat → Int
  | l, [], _ => l
  | l, _ :: _, 0 => l
  | _, r :: rs, i + 1 => lo (r.u.getD 0) rs i
section
local macro_rules | `(tactic| walk_at "w") => `(tactic| repeat' first
  | fail "a1"
  | (with_reducible refine' Ix_id ?s1 ?_; (case s1 => with_unfolding_all exact rfl))
  | (with_reducible refine' Il_id ?s1 ?s2 ?_; (case s1 => with_unfolding_all exact rfl); (case s2 => assumption))
  | (with_reducible refine' V_pop ?s1 ?s2 ?_; (case s1 => with_unfolding_all exact rfl); (case s2 => assumption))
  | (with_reducible refine C_isnTup ?_)
  | (with_reducible refine C_isTup ?_)
  | (with_reducible refine C_neSt0 ?_)
  | (with_reducible refine C_eqSt0 ?_)
  | (with_reducible refine C_eqOI ?_)
  | (with_reducible refine C_neOI ?_)
  | (with_reducible refine C_isO ?_)
  | (with_reducible refine C_isnO ?_)
  | (with_reducible refine' C_draw ?s1 ?s2 ?s3 ?s4 ?s5 ?_; (case s1 => with_unfolding_all exact rfl); (case s2 => assumption); (case s3 => omega); (case s4 => omega); (case s5 => omega); intro r s' hr0 hr1 hp)
  | (with_reducible refine' C_llab ?s1 ?s2 ?s3 ?s4 ?_; (case s1 => with_unfolding_all exact rfl); (case s2 => assumption); (case s3 => omega); (case s4 => omega))
  | (with_reducible refine' C_eqLb ?s1 ?s2 ?_; (case s1 => first | assumption | exact lab_ok _ (by assumption)); (case s2 => first | assumption | exact lab_ok _ (by assumption)))
  | (with_reducible refine' C_neLb ?s1 ?s2 ?_; (case s1 => first | assumption | exact lab_ok _ (by assumption)); (case s2 => first | assumption | exact lab_ok _ (by assumption)))
  | fail "a2")
end
end
section
open PySem L2
section
variable {T : Tab} {P : Out → List Cell → Prop} {PX : Nat → List D → List Cell → Prop} {s sto : List Cell} {rs : List Rw} {r : Rw} {x h : Int}
end
section
local macro_rules | `(tactic| walk_at "w") => `(tactic| repeat' first
  | fail "a1"
  | (with_reducible refine' Ix_id ?s1 ?_; (case s1 => with_unfolding_all exact rfl))
  | (with_reducible refine' Il_id ?s1 ?s2 ?_; (case s1 => with_unfolding_all exact rfl); (case s2 => assumption))
  | (with_reducible refine' V_pop ?s1 ?s2 ?_; (case s1 => with_unfolding_all exact rfl); (case s2 => assumption))
  | (with_reducible refine C_isnTup ?_)
  | (with_reducible refine C_isTup ?_)
  | (with_reducible refine C_neSt0 ?_)
  | (with_reducible refine C_eqSt0 ?_)
  | (with_reducible refine C_eqOI ?_)
  | (with_reducible refine C_neOI ?_)
  | (with_reducible refine C_isO ?_)
  | (with_reducible refine C_isnO ?_)
  | (with_reducible refine' C_draw ?s1 ?s2 ?s3 ?s4 ?s5 ?_; (case s1 => with_unfolding_all exact rfl); (case s2 => assumption); (case s3 => omega); (case s4 => omega); (case s5 => omega); intro r s' hr0 hr1 hp)
  | (with_reducible refine' C_llab ?s1 ?s2 ?s3 ?s4 ?_; (case s1 => with_unfolding_all exact rfl); (case s2 => assumption); (case s3 => omega); (case s4 => omega))
  | (with_reducible refine' C_eqLb ?s1 ?s2 ?_; (case s1 => first | assumption | exact lab_ok _ (by assumption)); (case s2 => first | assumption | exact lab_ok _ (by assumption)))
  | (with_reducible refine' C_neLb ?s1 ?s2 ?_; (case s1 => first | assumption | exact lab_ok _ (by assumption)); (case s2 => first | assumption | exact lab_ok _ (by assumption)))
  | fail "a2")
end
end
section
open PySem L2
section
variable {B : Int} {L : Int → Lb} {l a m u : Int} {h : Option Int} {r : Rw}
end
section
variable {T : Tab} {P : Out → List Cell → Prop} {PX : Nat → List D → List Cell → Prop} {s sto : List Cell} {rs : List Rw} {a : Int}
local macro_rules | `(tactic| walk_at "w") => `(tactic| repeat' first
  | fail "a1"
  | (with_reducible refine' C_count ?s1 ?s2 ?s3 ?s4 ?s5 ?_; (case s1 => with_unfolding_all exact rfl); (case s2 => omega); (case s3 => omega); (case s4 => omega); (case s5 => omega))
  | (with_reducible refine' C_offset ?s1 ?_; (case s1 => with_unfolding_all exact rfl))
  | (with_reducible refine' C_fwi ?s1 ?s2 ?_; (case s1 => with_unfolding_all exact rfl); (case s2 => omega))
  | (with_reducible refine' C_foc ?s1 ?s2 ?s3 ?s4 ?s5 ?_; (case s1 => with_unfolding_all exact rfl); (case s2 => omega); (case s3 => omega); (case s4 => omega); (case s5 => omega))
  | (with_reducible refine' C_check ?s1 ?s2 ?_; (case s1 => with_unfolding_all exact rfl); (case s2 => omega))
  | (with_reducible refine' At_uS ?s1 ?s2 ?_; (case s1 => with_unfolding_all exact rfl); (case s2 => assumption))
  | (with_reducible refine' At_uN ?s1 ?s2 ?_; (case s1 => with_unfolding_all exact rfl); (case s2 => assumption))
  | (with_reducible refine' At_kS ?s1 ?s2 ?_; (case s1 => with_unfolding_all exact rfl); (case s2 => assumption))
  | (with_reducible refine' At_kN ?s1 ?s2 ?_; (case s1 => with_unfolding_all exact rfl); (case s2 => assumption))
  | (with_reducible refine' At_u ?s1 ?_; (case s1 => with_unfolding_all exact rfl))
  | (with_reducible refine' At_w ?s1 ?_; (case s1 => with_unfolding_all exact rfl))
  | (with_reducible refine' At_s ?s1 ?_; (case s1 => with_unfolding_all exact rfl))
  | (with_reducible refine' At_rs ?s1 ?_; (case s1 => with_unfolding_all exact rfl))
  | (with_reducible refine' Mt_wg ?s1 ?s2 ?_; (case s1 => with_unfolding_all exact rfl); (case s2 => with_unfolding_all exact rfl))
  | (with_reducible refine' C_rlab ?s1 ?s2 ?s3 ?s4 ?_; (case s1 => with_unfolding_all exact rfl); (case s2 => assumption); (case s3 => omega); (case s4 => omega))
  | (with_reducible refine' Ix_id ?s1 ?_; (case s1 => with_unfolding_all exact rfl))
  | (with_reducible refine' Il_id ?s1 ?s2 ?_; (case s1 => with_unfolding_all exact rfl); (case s2 => assumption))
  | (with_reducible refine' V_pop ?s1 ?s2 ?_; (case s1 => with_unfolding_all exact rfl); (case s2 => assumption))
  | (with_reducible refine C_isnTup ?_)
  | (with_reducible refine C_isTup ?_)
  | (with_reducible refine C_neSt0 ?_)
  | (with_reducible refine C_eqSt0 ?_)
  | (with_reducible refine C_eqOI ?_)
  | (with_reducible refine C_neOI ?_)
  | (with_reducible refine C_isO ?_)
  | (with_reducible refine C_isnO ?_)
  | (with_reducible refine' C_draw ?s1 ?s2 ?s3 ?s4 ?s5 ?_; (case s1 => with_unfolding_all exact rfl); (case s2 => assumption); (case s3 => omega); (case s4 => omega); (case s5 => omega); intro r s' hr0 hr1 hp)
  | (with_reducible refine' C_llab ?s1 ?s2 ?s3 ?s4 ?_; (case s1 => with_unfolding_all exact rfl); (case s2 => assumption); (case s3 => omega); (case s4 => omega))
  | (with_reducible refine' C_eqLb ?s1 ?s2 ?_; (case s1 => first | assumption | exact lab_ok _ (by assumption)); (case s2 => first | assumption | exact lab_ok _ (by assumption)))
  | (with_reducible refine' C_neLb ?s1 ?s2 ?_; (case s1 => first | assumption | exact lab_ok _ (by assumption)); (case s2 => first | assumption | exact lab_ok _ (by assumption)))
  | (with_reducible refine' C_rages ?s1 ?s2 ?_; (case s1 => with_unfolding_all exact rfl); (case s2 => assumption))
  | (with_reducible refine' C_label ?s1 ?s2 ?s3 ?s4 ?_; (case s1 => with_unfolding_all exact rfl); (case s2 => assumption); (case s3 => omega); (case s4 => omega))
  | (with_reducible refine' C_neLb (lab_ok _ ?s1) (lab_ok _ ?s2) ?_; (case s1 => assumption); (case s2 => assumption))
  | fail "a2")
end
/-! ### the number of edges -/
section
variable {B : Int} {L : Int → Lb} {l top u : Int} {h : Option Int} {r : Rw}
end
section
variable {T : Tab} {P : Out → List Cell → Prop} {PX : Nat → List D → List Cell → Prop} {s sto : List Cell} {rs : List Rw} {a : Int}
local macro_rules | `(tactic| walk_at "w") => `(tactic| repeat' first
  | (with_reducible refine' X_augV ?s1 ?_; (case s1 => with_unfolding_all exact rfl))
  | fail "a1"
  | (with_reducible refine' C_count ?s1 ?s2 ?s3 ?s4 ?s5 ?_; (case s1 => with_unfolding_all exact rfl); (case s2 => omega); (case s3 => omega); (case s4 => omega); (case s5 => omega))
  | (with_reducible refine' C_offset ?s1 ?_; (case s1 => with_unfolding_all exact rfl))
  | (with_reducible refine' C_fwi ?s1 ?s2 ?_; (case s1 => with_unfolding_all exact rfl); (case s2 => omega))
  | (with_reducible refine' C_foc ?s1 ?s2 ?s3 ?s4 ?s5 ?_; (case s1 => with_unfolding_all exact rfl); (case s2 => omega); (case s3 => omega); (case s4 => omega); (case s5 => omega))
  | (with_reducible refine' C_check ?s1 ?s2 ?_; (case s1 => with_unfolding_all exact rfl); (case s2 => omega))
  | (with_reducible refine' At_uS ?s1 ?s2 ?_; (case s1 => with_unfolding_all exact rfl); (case s2 => assumption))
  | (with_reducible refine' At_uN ?s1 ?s2 ?_; (case s1 => with_unfolding_all exact rfl); (case s2 => assumption))
  | (with_reducible refine' At_kS ?s1 ?s2 ?_; (case s1 => with_unfolding_all exact rfl); (case s2 => assumption))
  | (with_reducible refine' At_kN ?s1 ?s2 ?_; (case s1 => with_unfolding_all exact rfl); (case s2 => assumption))
  | (with_reducible refine' At_u ?s1 ?_; (case s1 => with_unfolding_all exact rfl))
  | (with_reducible refine' At_w ?s1 ?_; (case s1 => with_unfolding_all exact rfl))
  | (with_reducible refine' At_s ?s1 ?_; (case s1 => with_unfolding_all exact rfl))
  | (with_reducible refine' At_rs ?s1 ?_; (case s1 => with_unfolding_all exact rfl))
  | (with_reducible refine' Mt_wg ?s1 ?s2 ?_; (case s1 => with_unfolding_all exact rfl); (case s2 => with_unfolding_all exact rfl))
  | (with_reducible refine' C_rlab ?s1 ?s2 ?s3 ?s4 ?_; (case s1 => with_unfolding_all exact rfl); (case s2 => assumption); (case s3 => omega); (case s4 => omega))
  | (with_reducible refine' Ix_id ?s1 ?_; (case s1 => with_unfolding_all exact rfl))
  | (with_reducible refine' Il_id ?s1 ?s2 ?_; (case s1 => with_unfolding_all exact rfl); (case s2 => assumption))
  | (with_reducible refine' V_pop ?s1 ?s2 ?_; (case s1 => with_unfolding_all exact rfl); (case s2 => assumption))
  | (with_reducible refine C_isnTup ?_)
  | (with_reducible refine C_isTup ?_)
  | (with_reducible refine C_neSt0 ?_)
  | (with_reducible refine C_eqSt0 ?_)
  | (with_reducible refine C_eqOI ?_)
  | (with_reducible refine C_neOI ?_)
  | (with_reducible refine C_isO ?_)
  | (with_reducible refine C_isnO ?_)
  | (with_reducible refine' C_draw ?s1 ?s2 ?s3 ?s4 ?s5 ?_; (case s1 => with_unfolding_all exact rfl); (case s2 => assumption); (case s3 => omega); (case s4 => omega); (case s5 => omega); intro r s' hr0 hr1 hp)
  | (with_reducible refine' C_llab ?s1 ?s2 ?s3 ?s4 ?_; (case s1 => with_unfolding_all exact rfl); (case s2 => assumption); (case s3 => omega); (case s4 => omega))
  | (with_reducible refine' C_eqLb ?s1 ?s2 ?_; (case s1 => first | assumption | exact lab_ok _ (by assumption)); (case s2 => first | assumption | exact lab_ok _ (by assumption)))
  | (with_reducible refine' C_neLb ?s1 ?s2 ?_; (case s1 => first | assumption | exact lab_ok _ (by assumption)); (case s2 => first | assumption | exact lab_ok _ (by assumption)))
  | (with_reducible refine' C_rages ?s1 ?s2 ?_; (case s1 => with_unfolding_all exact rfl); (case s2 => assumption))
  | (with_reducible refine' C_label ?s1 ?s2 ?s3 ?s4 ?_; (case s1 => with_unfolding_all exact rfl); (case s2 => assumption); (case s3 => omega); (case s4 => omega))
  | (with_reducible refine' C_neLb (lab_ok _ ?s1) (lab_ok _ ?s2) ?_; (case s1 => assumption); (case s2 => assumption))
  | fail "a2")
end
end
section
open PySem L2
section
variable {T : Tab} {P : Out → List Cell → Prop} {PX : Nat → List D → List Cell → Prop} {s sto : List Cell} {rs : List Rw} {a : Int}
local macro_rules | `(tactic| walk_at "w") => `(tactic| repeat' first
  | (with_reducible refine D_lzip ?_)
  | fail "a1p"
  | (with_reducible refine' C_count ?s1 ?s2 ?s3 ?s4 ?s5 ?_; (case s1 => with_unfolding_all exact rfl); (case s2 => omega); (case s3 => omega); (case s4 => omega); (case s5 => omega))
  | (with_reducible refine' C_offset ?s1 ?_; (case s1 => with_unfolding_all exact rfl))
  | (with_reducible refine' C_fwi ?s1 ?s2 ?_; (case s1 => with_unfolding_all exact rfl); (case s2 => omega))
  | (with_reducible refine' C_foc ?s1 ?s2 ?s3 ?s4 ?s5 ?_; (case s1 => with_unfolding_all exact rfl); (case s2 => omega); (case s3 => omega); (case s4 => omega); (case s5 => omega))
  | (with_reducible refine' C_check ?s1 ?s2 ?_; (case s1 => with_unfolding_all exact rfl); (case s2 => omega))
  | (with_reducible refine' At_uS ?s1 ?s2 ?_; (case s1 => with_unfolding_all exact rfl); (case s2 => assumption))
  | (with_reducible refine' At_uN ?s1 ?s2 ?_; (case s1 => with_unfolding_all exact rfl); (case s2 => assumption))
  | (with_reducible refine' At_kS ?s1 ?s2 ?_; (case s1 => with_unfolding_all exact rfl); (case s2 => assumption))
  | (with_reducible refine' At_kN ?s1 ?s2 ?_; (case s1 => with_unfolding_all exact rfl); (case s2 => assumption))
  | (with_reducible refine' At_u ?s1 ?_; (case s1 => with_unfolding_all exact rfl))
  | (with_reducible refine' At_w ?s1 ?_; (case s1 => with_unfolding_all exact rfl))
  | (with_reducible refine' At_s ?s1 ?_; (case s1 => with_unfolding_all exact rfl))
  | (with_reducible refine' At_rs ?s1 ?_; (case s1 => with_unfolding_all exact rfl))
  | (with_reducible refine' Mt_wg ?s1 ?s2 ?_; (case s1 => with_unfolding_all exact rfl); (case s2 => with_unfolding_all exact rfl))
  | (with_reducible refine' C_rlab ?s1 ?s2 ?s3 ?s4 ?_; (case s1 => with_unfolding_all exact rfl); (case s2 => assumption); (case s3 => omega); (case s4 => omega))
  | (with_reducible refine' Ix_id ?s1 ?_; (case s1 => with_unfolding_all exact rfl))
  | (with_reducible refine' Il_id ?s1 ?s2 ?_; (case s1 => with_unfolding_all exact rfl); (case s2 => assumption))
  | (with_reducible refine' V_pop ?s1 ?s2 ?_; (case s1 => with_unfolding_all exact rfl); (case s2 => assumption))
  | (with_reducible refine C_isnTup ?_)
  | (with_reducible refine C_isTup ?_)
  | (with_reducible refine C_neSt0 ?_)
  | (with_reducible refine C_eqSt0 ?_)
  | (with_reducible refine C_eqOI ?_)
  | (with_reducible refine C_neOI ?_)
  | (with_reducible refine C_isO ?_)
  | (with_reducible refine C_isnO ?_)
  | (with_reducible refine' C_draw ?s1 ?s2 ?s3 ?s4 ?s5 ?_; (case s1 => with_unfolding_all exact rfl); (case s2 => assumption); (case s3 => omega); (case s4 => omega); (case s5 => omega); intro r s' hr0 hr1 hp)
  | (with_reducible refine' C_llab ?s1 ?s2 ?s3 ?s4 ?_; (case s1 => with_unfolding_all exact rfl); (case s2 => assumption); (case s3 => omega); (case s4 => omega))
  | (with_reducible refine' C_eqLb ?s1 ?s2 ?_; (case s1 => first | assumption | exact lab_ok _ (by assumption)); (case s2 => first | assumption | exact lab_ok _ (by assumption)))
  | (with_reducible refine' C_neLb ?s1 ?s2 ?_; (case s1 => first | assumption | exact lab_ok _ (by assumption)); (case s2 => first | assumption | exact lab_ok _ (by assumption)))
  | (with_reducible refine' C_rages ?s1 ?s2 ?_; (case s1 => with_unfolding_all exact rfl); (case s2 => assumption))
  | (with_reducible refine' C_label ?s1 ?s2 ?s3 ?s4 ?_; (case s1 => with_unfolding_all exact rfl); (case s2 => assumption); (case s3 => omega); (case s4 => omega))
  | (with_reducible refine' C_neLb (lab_ok _ ?s1) (lab_ok _ ?s2) ?_; (case s1 => assumption); (case s2 => assumption))
  | fail "a2")
end
end
section
open PySem L2
section
variable {B : Int} {L : Int → Lb} {l x u e : Int} {h : Option Int} {r : Rw}
end
section
variable {T : Tab} {P : Out → List Cell → Prop} {PX : Nat → List D → List Cell → Prop} {s sto : List Cell} {rs : List Rw} {a x l : Int}
local macro_rules | `(tactic| walk_at "w") => `(tactic| repeat' first
  | fail "a1p"
  | (with_reducible refine' Ix_id ?s1 ?_; (case s1 => with_unfolding_all exact rfl))
  | (with_reducible refine' Il_id ?s1 ?s2 ?_; (case s1 => with_unfolding_all exact rfl); (case s2 => assumption))
  | (with_reducible refine' V_pop ?s1 ?s2 ?_; (case s1 => with_unfolding_all exact rfl); (case s2 => assumption))
  | (with_reducible refine C_isnTup ?_)
  | (with_reducible refine C_isTup ?_)
  | (with_reducible refine C_neSt0 ?_)
  | (with_reducible refine C_eqSt0 ?_)
  | (with_reducible refine C_eqOI ?_)
  | (with_reducible refine C_neOI ?_)
  | (with_reducible refine C_isO ?_)
  | (with_reducible refine C_isnO ?_)
  | (with_reducible refine' C_draw ?s1 ?s2 ?s3 ?s4 ?s5 ?_; (case s1 => with_unfolding_all exact rfl); (case s2 => assumption); (case s3 => omega); (case s4 => omega); (case s5 => omega); intro r s' hr0 hr1 hp)
  | (with_reducible refine' C_llab ?s1 ?s2 ?s3 ?s4 ?_; (case s1 => with_unfolding_all exact rfl); (case s2 => assumption); (case s3 => omega); (case s4 => omega))
  | (with_reducible refine' C_eqLb ?s1 ?s2 ?_; (case s1 => first | assumption | exact lab_ok _ (by assumption)); (case s2 => first | assumption | exact lab_ok _ (by assumption)))
  | (with_reducible refine' C_neLb ?s1 ?s2 ?_; (case s1 => first | assumption | exact lab_ok _ (by assumption)); (case s2 => first | assumption | exact lab_ok _ (by assumption)))
  | fail "a2")
end
section
variable {T : Tab} {P : Out → List Cell → Prop} {PX : Nat → List D → List Cell → Prop} {s sto : List Cell} {rs : List Rw} {a x l : Int}
local macro_rules | `(tactic| walk_at "w") => `(tactic| repeat' first
  | fail "a1p"
  | (with_reducible refine' Ix_id ?s1 ?_; (case s1 => with_unfolding_all exact rfl))
  | (with_reducible refine' Il_id ?s1 ?s2 ?_; (case s1 => with_unfolding_all exact rfl); (case s2 => assumption))
  | (with_reducible refine' V_pop ?s1 ?s2 ?_; (case s1 => with_unfolding_all exact rfl); (case s2 => assumption))
  | (with_reducible refine C_isnTup ?_)
  | (with_reducible refine C_isTup ?_)
  | (with_reducible refine C_neSt0 ?_)
  | (with_reducible refine C_eqSt0 ?_)
  | (with_reducible refine C_eqOI ?_)
  | (with_reducible refine C_neOI ?_)
  | (with_reducible refine C_isO ?_)
  | (with_reducible refine C_isnO ?_)
  | (with_reducible refine' C_draw ?s1 ?s2 ?s3 ?s4 ?s5 ?_; (case s1 => with_unfolding_all exact rfl); (case s2 => assumption); (case s3 => omega); (case s4 => omega); (case s5 => omega); intro r s' hr0 hr1 hp)
  | (with_reducible refine' C_llab ?s1 ?s2 ?s3 ?s4 ?_; (case s1 => with_unfolding_all exact rfl); (case s2 => assumption); (case s3 => omega); (case s4 => omega))
  | (with_reducible refine' C_eqLb ?s1 ?s2 ?_; (case s1 => first | assumption | exact lab_ok _ (by assumption)); (case s2 => first | assumption | exact lab_ok _ (by assumption)))
  | (with_reducible refine' C_neLb ?s1 ?s2 ?_; (case s1 => first | assumption | exact lab_ok _ (by assumption)); (case s2 => first | assumption | exact lab_ok _ (by assumption)))
  | (with_reducible refine AI_range3 ?_)
  | fail "a2")
end
end
section
open PySem L2
/-! ### labels in a list of labels -/
section
variable {T : Tab} {fr : Fr} {PD : D → Fr → Prop} {PX : PXt} {a : Tm} {i : Nat} {x : Lb} {ls : List Lb} {P : Bool → Prop}
end
section
variable {T : Tab} {P : Out → List Cell → Prop} {PX : Nat → List D → List Cell → Prop} {s sto : List Cell} {rs : List Rw} {a b : Int}
end
section
variable {T : Tab} {P : Out → List Cell → Prop} {PX : Nat → List D → List Cell → Prop} {s sto : List Cell} {rs : List Rw} {a b : Int}
local macro_rules | `(tactic| walk_at "w") => `(tactic| repeat' first
  | fail "a1"
  | (with_reducible refine' C_count ?s1 ?s2 ?s3 ?s4 ?s5 ?_; (case s1 => with_unfolding_all exact rfl); (case s2 => omega); (case s3 => omega); (case s4 => omega); (case s5 => omega))
  | (with_reducible refine' C_offset ?s1 ?_; (case s1 => with_unfolding_all exact rfl))
  | (with_reducible refine' C_fwi ?s1 ?s2 ?_; (case s1 => with_unfolding_all exact rfl); (case s2 => omega))
  | (with_reducible refine' C_foc ?s1 ?s2 ?s3 ?s4 ?s5 ?_; (case s1 => with_unfolding_all exact rfl); (case s2 => omega); (case s3 => omega); (case s4 => omega); (case s5 => omega))
  | (with_reducible refine' C_check ?s1 ?s2 ?_; (case s1 => with_unfolding_all exact rfl); (case s2 => omega))
  | (with_reducible refine' At_uS ?s1 ?s2 ?_; (case s1 => with_unfolding_all exact rfl); (case s2 => assumption))
  | (with_reducible refine' At_uN ?s1 ?s2 ?_; (case s1 => with_unfolding_all exact rfl); (case s2 => assumption))
  | (with_reducible refine' At_kS ?s1 ?s2 ?_; (case s1 => with_unfolding_all exact rfl); (case s2 => assumption))
  | (with_reducible refine' At_kN ?s1 ?s2 ?_; (case s1 => with_unfolding_all exact rfl); (case s2 => assumption))
  | (with_reducible refine' At_u ?s1 ?_; (case s1 => with_unfolding_all exact rfl))
  | (with_reducible refine' At_w ?s1 ?_; (case s1 => with_unfolding_all exact rfl))
  | (with_reducible refine' At_s ?s1 ?_; (case s1 => with_unfolding_all exact rfl))
  | (with_reducible refine' At_rs ?s1 ?_; (case s1 => with_unfolding_all exact rfl))
  | (with_reducible refine' Mt_wg ?s1 ?s2 ?_; (case s1 => with_unfolding_all exact rfl); (case s2 => with_unfolding_all exact rfl))
  | (with_reducible refine' C_rlab ?s1 ?s2 ?s3 ?s4 ?_; (case s1 => with_unfolding_all exact rfl); (case s2 => assumption); (case s3 => omega); (case s4 => omega))
  | (with_reducible refine' Ix_id ?s1 ?_; (case s1 => with_unfolding_all exact rfl))
  | (with_reducible refine' Il_id ?s1 ?s2 ?_; (case s1 => with_unfolding_all exact rfl); (case s2 => assumption))
  | (with_reducible refine' V_pop ?s1 ?s2 ?_; (case s1 => with_unfolding_all exact rfl); (case s2 => assumption))
  | (with_reducible refine C_isnTup ?_)
  | (with_reducible refine C_isTup ?_)
  | (with_reducible refine C_neSt0 ?_)
  | (with_reducible refine C_eqSt0 ?_)
  | (with_reducible refine C_eqOI ?_)
  | (with_reducible refine C_neOI ?_)
  | (with_reducible refine C_isO ?_)
  | (with_reducible refine C_isnO ?_)
  | (with_reducible refine' C_eupto ?s1 ?s2 ?s3 ?s4 ?_; (case s1 => with_unfolding_all exact rfl); (case s2 => assumption); (case s3 => assumption); (case s4 => omega))
  | fail "a2")
end
/-! ### the labels that are met -/
section
variable {T : Tab} {P : Out → List Cell → Prop} {PX : Nat → List D → List Cell → Prop} {s sto : List Cell} {rs : List Rw} {m : Int}
local macro_rules | `(tactic| walk_at "w") => `(tactic| repeat' first
  | (with_reducible refine V_ninOwn ?_)
  | fail "a1"
  | (with_reducible refine' C_count ?s1 ?s2 ?s3 ?s4 ?s5 ?_; (case s1 => with_unfolding_all exact rfl); (case s2 => omega); (case s3 => omega); (case s4 => omega); (case s5 => omega))
  | (with_reducible refine' C_offset ?s1 ?_; (case s1 => with_unfolding_all exact rfl))
  | (with_reducible refine' C_fwi ?s1 ?s2 ?_; (case s1 => with_unfolding_all exact rfl); (case s2 => omega))
  | (with_reducible refine' C_foc ?s1 ?s2 ?s3 ?s4 ?s5 ?_; (case s1 => with_unfolding_all exact rfl); (case s2 => omega); (case s3 => omega); (case s4 => omega); (case s5 => omega))
  | (with_reducible refine' C_check ?s1 ?s2 ?_; (case s1 => with_unfolding_all exact rfl); (case s2 => omega))
  | (with_reducible refine' At_uS ?s1 ?s2 ?_; (case s1 => with_unfolding_all exact rfl); (case s2 => assumption))
  | (with_reducible refine' At_uN ?s1 ?s2 ?_; (case s1 => with_unfolding_all exact rfl); (case s2 => assumption))
  | (with_reducible refine' At_kS ?s1 ?s2 ?_; (case s1 => with_unfolding_all exact rfl); (case s2 => assumption))
  | (with_reducible refine' At_kN ?s1 ?s2 ?_; (case s1 => with_unfolding_all exact rfl); (case s2 => assumption))
  | (with_reducible refine' At_u ?s1 ?_; (case s1 => with_unfolding_all exact rfl))
  | (with_reducible refine' At_w ?s1 ?_; (case s1 => with_unfolding_all exact rfl))
  | (with_reducible refine' At_s ?s1 ?_; (case s1 => with_unfolding_all exact rfl))
  | (with_reducible refine' At_rs ?s1 ?_; (case s1 => with_unfolding_all exact rfl))
  | (with_reducible refine' Mt_wg ?s1 ?s2 ?_; (case s1 => with_unfolding_all exact rfl); (case s2 => with_unfolding_all exact rfl))
  | (with_reducible refine' C_rlab ?s1 ?s2 ?s3 ?s4 ?_; (case s1 => with_unfolding_all exact rfl); (case s2 => assumption); (case s3 => omega); (case s4 => omega))
  | (with_reducible refine' Ix_id ?s1 ?_; (case s1 => with_unfolding_all exact rfl))
  | (with_reducible refine' Il_id ?s1 ?s2 ?_; (case s1 => with_unfolding_all exact rfl); (case s2 => assumption))
  | (with_reducible refine' V_pop ?s1 ?s2 ?_; (case s1 => with_unfolding_all exact rfl); (case s2 => assumption))
  | (with_reducible refine C_isnTup ?_)
  | (with_reducible refine C_isTup ?_)
  | (with_reducible refine C_neSt0 ?_)
  | (with_reducible refine C_eqSt0 ?_)
  | (with_reducible refine C_eqOI ?_)
  | (with_reducible refine C_neOI ?_)
  | (with_reducible refine C_isO ?_)
  | (with_reducible refine C_isnO ?_)
  | (with_reducible refine' C_label ?s1 ?s2 ?s3 ?s4 ?_; (case s1 => with_unfolding_all exact rfl); (case s2 => assumption); (case s3 => omega); (case s4 => omega))
  | (with_reducible refine' C_ninLb (lab_ok _ ?s1) ?s2 ?_; (case s1 => assumption); (case s2 => assumption))
  | fail "a2")
end
end
section
open PySem L2
end
section
open PySem L2
section
variable {T : Tab} {fr : Fr} {K : SxP} {i : Nat}
end
section
variable {T : Tab} {P : Out → List Cell → Prop} {PX : Nat → List D → List Cell → Prop} {s sto : List Cell} {rs : List Rw} {xs : List Lb} {m : Int}
local macro_rules | `(tactic| walk_at "w") => `(tactic| repeat' first
  | fail "a1"
  | (with_reducible refine' C_count ?s1 ?s2 ?s3 ?s4 ?s5 ?_; (case s1 => with_unfolding_all exact rfl); (case s2 => omega); (case s3 => omega); (case s4 => omega); (case s5 => omega))
  | (with_reducible refine' C_offset ?s1 ?_; (case s1 => with_unfolding_all exact rfl))
  | (with_reducible refine' C_fwi ?s1 ?s2 ?_; (case s1 => with_unfolding_all exact rfl); (case s2 => omega))
  | (with_reducible refine' C_foc ?s1 ?s2 ?s3 ?s4 ?s5 ?_; (case s1 => with_unfolding_all exact rfl); (case s2 => omega); (case s3 => omega); (case s4 => omega); (case s5 => omega))
  | (with_reducible refine' C_check ?s1 ?s2 ?_; (case s1 => with_unfolding_all exact rfl); (case s2 => omega))
  | (with_reducible refine' At_uS ?s1 ?s2 ?_; (case s1 => with_unfolding_all exact rfl); (case s2 => assumption))
  | (with_reducible refine' At_uN ?s1 ?s2 ?_; (case s1 => with_unfolding_all exact rfl); (case s2 => assumption))
  | (with_reducible refine' At_kS ?s1 ?s2 ?_; (case s1 => with_unfolding_all exact rfl); (case s2 => assumption))
  | (with_reducible refine' At_kN ?s1 ?s2 ?_; (case s1 => with_unfolding_all exact rfl); (case s2 => assumption))
  | (with_reducible refine' At_u ?s1 ?_; (case s1 => with_unfolding_all exact rfl))
  | (with_reducible refine' At_w ?s1 ?_; (case s1 => with_unfolding_all exact rfl))
  | (with_reducible refine' At_s ?s1 ?_; (case s1 => with_unfolding_all exact rfl))
  | (with_reducible refine' At_rs ?s1 ?_; (case s1 => with_unfolding_all exact rfl))
  | (with_reducible refine' Mt_wg ?s1 ?s2 ?_; (case s1 => with_unfolding_all exact rfl); (case s2 => with_unfolding_all exact rfl))
  | (with_reducible refine' C_rlab ?s1 ?s2 ?s3 ?s4 ?_; (case s1 => with_unfolding_all exact rfl); (case s2 => assumption); (case s3 => omega); (case s4 => omega))
  | (with_reducible refine' Ix_id ?s1 ?_; (case s1 => with_unfolding_all exact rfl))
  | (with_reducible refine' Il_id ?s1 ?s2 ?_; (case s1 => with_unfolding_all exact rfl); (case s2 => assumption))
  | (with_reducible refine' V_pop ?s1 ?s2 ?_; (case s1 => with_unfolding_all exact rfl); (case s2 => assumption))
  | (with_reducible refine C_isnTup ?_)
  | (with_reducible refine C_isTup ?_)
  | (with_reducible refine C_neSt0 ?_)
  | (with_reducible refine C_eqSt0 ?_)
  | (with_reducible refine C_eqOI ?_)
  | (with_reducible refine C_neOI ?_)
  | (with_reducible refine C_isO ?_)
  | (with_reducible refine C_isnO ?_)
  | (with_reducible refine' C_ages ?s1 ?s2 ?s3 ?_; (case s1 => with_unfolding_all exact rfl); (case s2 => assumption); (case s3 => assumption))
  | fail "a2")
end
end
section
open PySem L2
theorem SOk.of {B : Int} {ws : List Str} {rs : List Rw} (h : Drawn B ws rs) (hw : (ws.all PyData.strOk) = true) : SOk rs := fun r hr => by
  rcases h.wrd r hr with z | z
  · have : (stW.all PyData.strOk) = true := by decide +kernel
    exact List.all_eq_true.mp this _ z
  · exact List.all_eq_true.mp hw _ z
theorem SOk.times {f : Int} {rs : List Rw} (h : SOk rs) : SOk (rs.map (tms f)) := fun r hr => by
  obtain ⟨x, hx, rfl⟩ := List.mem_map.mp hr
  exact h x hx
section
variable {T : Tab} {P : Out → List Cell → Prop} {PX : Nat → List D → List Cell → Prop} {s sto : List Cell} {rs : List Rw} {xs : List Lb} {m : Int}
end
end
section
open PySem L2
section
variable {T : Tab} {P : Out → List Cell → Prop} {PX : Nat → List D → List Cell → Prop} {s sto : List Cell} {rs : List Rw} {r : Rw} {a x l : Int} {h c d : Option Int}
local macro_rules | `(tactic| walk_at "w") => `(tactic| repeat' first
  | (with_reducible refine X_retIteL ?_)
  | fail "a1p"
  | (with_reducible refine' C_count ?s1 ?s2 ?s3 ?s4 ?s5 ?_; (case s1 => with_unfolding_all exact rfl); (case s2 => omega); (case s3 => omega); (case s4 => omega); (case s5 => omega))
  | (with_reducible refine' C_offset ?s1 ?_; (case s1 => with_unfolding_all exact rfl))
  | (with_reducible refine' C_fwi ?s1 ?s2 ?_; (case s1 => with_unfolding_all exact rfl); (case s2 => omega))
  | (with_reducible refine' C_foc ?s1 ?s2 ?s3 ?s4 ?s5 ?_; (case s1 => with_unfolding_all exact rfl); (case s2 => omega); (case s3 => omega); (case s4 => omega); (case s5 => omega))
  | (with_reducible refine' C_check ?s1 ?s2 ?_; (case s1 => with_unfolding_all exact rfl); (case s2 => omega))
  | (with_reducible refine' At_uS ?s1 ?s2 ?_; (case s1 => with_unfolding_all exact rfl); (case s2 => assumption))
  | (with_reducible refine' At_uN ?s1 ?s2 ?_; (case s1 => with_unfolding_all exact rfl); (case s2 => assumption))
  | (with_reducible refine' At_kS ?s1 ?s2 ?_; (case s1 => with_unfolding_all exact rfl); (case s2 => assumption))
  | (with_reducible refine' At_kN ?s1 ?s2 ?_; (case s1 => with_unfolding_all exact rfl); (case s2 => assumption))
  | (with_reducible refine' At_u ?s1 ?_; (case s1 => with_unfolding_all exact rfl))
  | (with_reducible refine' At_w ?s1 ?_; (case s1 => with_unfolding_all exact rfl))
  | (with_reducible refine' At_s ?s1 ?_; (case s1 => with_unfolding_all exact rfl))
  | (with_reducible refine' At_rs ?s1 ?_; (case s1 => with_unfolding_all exact rfl))
  | (with_reducible refine' Mt_wg ?s1 ?s2 ?_; (case s1 => with_unfolding_all exact rfl); (case s2 => with_unfolding_all exact rfl))
  | (with_reducible refine' C_rlab ?s1 ?s2 ?s3 ?s4 ?_; (case s1 => with_unfolding_all exact rfl); (case s2 => assumption); (case s3 => omega); (case s4 => omega))
  | (with_reducible refine' Ix_id ?s1 ?_; (case s1 => with_unfolding_all exact rfl))
  | (with_reducible refine' Il_id ?s1 ?s2 ?_; (case s1 => with_unfolding_all exact rfl); (case s2 => assumption))
  | (with_reducible refine' V_pop ?s1 ?s2 ?_; (case s1 => with_unfolding_all exact rfl); (case s2 => assumption))
  | (with_reducible refine C_isnTup ?_)
  | (with_reducible refine C_isTup ?_)
  | (with_reducible refine C_neSt0 ?_)
  | (with_reducible refine C_eqSt0 ?_)
  | (with_reducible refine C_eqOI ?_)
  | (with_reducible refine C_neOI ?_)
  | (with_reducible refine C_isO ?_)
  | (with_reducible refine C_isnO ?_)
  | (with_reducible refine' C_draw ?s1 ?s2 ?s3 ?s4 ?s5 ?_; (case s1 => with_unfolding_all exact rfl); (case s2 => assumption); (case s3 => omega); (case s4 => omega); (case s5 => omega); intro r s' hr0 hr1 hp)
  | (with_reducible refine' C_llab ?s1 ?s2 ?s3 ?s4 ?_; (case s1 => with_unfolding_all exact rfl); (case s2 => assumption); (case s3 => omega); (case s4 => omega))
  | (with_reducible refine' C_eqLb ?s1 ?s2 ?_; (case s1 => first | assumption | exact lab_ok _ (by assumption)); (case s2 => first | assumption | exact lab_ok _ (by assumption)))
  | (with_reducible refine' C_neLb ?s1 ?s2 ?_; (case s1 => first | assumption | exact lab_ok _ (by assumption)); (case s2 => first | assumption | exact lab_ok _ (by assumption)))
  | (with_reducible refine' C_label ?s1 ?s2 ?s3 ?s4 ?_; (case s1 => with_unfolding_all exact rfl); (case s2 => assumption); (case s3 => omega); (case s4 => omega))
  | (with_reducible refine' C_neLb (lab_ok _ ?s1) (lab_ok _ ?s2) ?_; (case s1 => assumption); (case s2 => assumption))
  | fail "a2")
end
end
section
open PySem L2
section
variable {T : Tab} {P : Out → List Cell → Prop} {PX : Nat → List D → List Cell → Prop} {s sto : List Cell} {rs : List Rw} {r : Rw} {a x l : Int} {h c d : Option Int} {Q : D → Prop}
local macro_rules | `(tactic| walk_at "w") => `(tactic| repeat' first
  | (with_reducible refine V_sliceT ?_)
  | (with_reducible refine' L_min1d ?s1 ?_; (case s1 => with_unfolding_all exact rfl))
  | fail "a1p"
  | (with_reducible refine' At_k ?s1 ?_; (case s1 => with_unfolding_all exact rfl))
  | (with_reducible refine' X_extend ?s1 ?_; (case s1 => with_unfolding_all exact rfl))
  | (with_reducible refine' Ex_id ?s1 ?s2 ?_; (case s1 => with_unfolding_all exact rfl); (case s2 => first | assumption | omega | (simp only [List.length_append, List.length_map] at *; omega)))
  | (with_reducible refine' ix_rw ?s1 ?_; (case s1 => assumption))
  | (with_reducible refine Et_id ?_)
  | (with_reducible refine' C_shown ?s1 ?s2 ?s3 ?s4 ?s5 ?s6 ?s7 ?_; (case s1 => with_unfolding_all exact rfl); (case s2 => assumption); (case s3 => assumption); (case s4 => assumption); (case s5 => omega); (case s6 => omega); (case s7 => assumption))
  | (with_reducible refine' C_count ?s1 ?s2 ?s3 ?s4 ?s5 ?_; (case s1 => with_unfolding_all exact rfl); (case s2 => omega); (case s3 => omega); (case s4 => omega); (case s5 => omega))
  | (with_reducible refine' C_offset ?s1 ?_; (case s1 => with_unfolding_all exact rfl))
  | (with_reducible refine' C_fwi ?s1 ?s2 ?_; (case s1 => with_unfolding_all exact rfl); (case s2 => omega))
  | (with_reducible refine' C_foc ?s1 ?s2 ?s3 ?s4 ?s5 ?_; (case s1 => with_unfolding_all exact rfl); (case s2 => omega); (case s3 => omega); (case s4 => omega); (case s5 => omega))
  | (with_reducible refine' C_check ?s1 ?s2 ?_; (case s1 => with_unfolding_all exact rfl); (case s2 => omega))
  | (with_reducible refine' At_uS ?s1 ?s2 ?_; (case s1 => with_unfolding_all exact rfl); (case s2 => assumption))
  | (with_reducible refine' At_uN ?s1 ?s2 ?_; (case s1 => with_unfolding_all exact rfl); (case s2 => assumption))
  | (with_reducible refine' At_kS ?s1 ?s2 ?_; (case s1 => with_unfolding_all exact rfl); (case s2 => assumption))
  | (with_reducible refine' At_kN ?s1 ?s2 ?_; (case s1 => with_unfolding_all exact rfl); (case s2 => assumption))
  | (with_reducible refine' At_u ?s1 ?_; (case s1 => with_unfolding_all exact rfl))
  | (with_reducible refine' At_w ?s1 ?_; (case s1 => with_unfolding_all exact rfl))
  | (with_reducible refine' At_s ?s1 ?_; (case s1 => with_unfolding_all exact rfl))
  | (with_reducible refine' At_rs ?s1 ?_; (case s1 => with_unfolding_all exact rfl))
  | (with_reducible refine' Mt_wg ?s1 ?s2 ?_; (case s1 => with_unfolding_all exact rfl); (case s2 => with_unfolding_all exact rfl))
  | (with_reducible refine' C_rlab ?s1 ?s2 ?s3 ?s4 ?_; (case s1 => with_unfolding_all exact rfl); (case s2 => assumption); (case s3 => omega); (case s4 => omega))
  | (with_reducible refine' Ix_id ?s1 ?_; (case s1 => with_unfolding_all exact rfl))
  | (with_reducible refine' Il_id ?s1 ?s2 ?_; (case s1 => with_unfolding_all exact rfl); (case s2 => assumption))
  | (with_reducible refine' V_pop ?s1 ?s2 ?_; (case s1 => with_unfolding_all exact rfl); (case s2 => assumption))
  | (with_reducible refine C_isnTup ?_)
  | (with_reducible refine C_isTup ?_)
  | (with_reducible refine C_neSt0 ?_)
  | (with_reducible refine C_eqSt0 ?_)
  | (with_reducible refine C_eqOI ?_)
  | (with_reducible refine C_neOI ?_)
  | (with_reducible refine C_isO ?_)
  | (with_reducible refine C_isnO ?_)
  | (with_reducible refine' C_draw ?s1 ?s2 ?s3 ?s4 ?s5 ?_; (case s1 => with_unfolding_all exact rfl); (case s2 => assumption); (case s3 => omega); (case s4 => omega); (case s5 => omega); intro r s' hr0 hr1 hp)
  | (with_reducible refine' C_llab ?s1 ?s2 ?s3 ?s4 ?_; (case s1 => with_unfolding_all exact rfl); (case s2 => assumption); (case s3 => omega); (case s4 => omega))
  | (with_reducible refine' C_eqLb ?s1 ?s2 ?_; (case s1 => first | assumption | exact lab_ok _ (by assumption)); (case s2 => first | assumption | exact lab_ok _ (by assumption)))
  | (with_reducible refine' C_neLb ?s1 ?s2 ?_; (case s1 => first | assumption | exact lab_ok _ (by assumption)); (case s2 => first | assumption | exact lab_ok _ (by assumption)))
  | (with_reducible refine' C_rages ?s1 ?s2 ?_; (case s1 => with_unfolding_all exact rfl); (case s2 => assumption))
  | fail "a2")
end
section
variable {T : Tab} {P : Out → List Cell → Prop} {PX : Nat → List D → List Cell → Prop} {s sto : List Cell} {rs : List Rw} {r : Rw} {a x l : Int} {h c d : Option Int} {Q : D → Prop}
local macro_rules | `(tactic| walk_at "w") => `(tactic| repeat' first
  | fail "a1p"
  | (with_reducible refine' C_count ?s1 ?s2 ?s3 ?s4 ?s5 ?_; (case s1 => with_unfolding_all exact rfl); (case s2 => omega); (case s3 => omega); (case s4 => omega); (case s5 => omega))
  | (with_reducible refine' C_offset ?s1 ?_; (case s1 => with_unfolding_all exact rfl))
  | (with_reducible refine' C_fwi ?s1 ?s2 ?_; (case s1 => with_unfolding_all exact rfl); (case s2 => omega))
  | (with_reducible refine' C_foc ?s1 ?s2 ?s3 ?s4 ?s5 ?_; (case s1 => with_unfolding_all exact rfl); (case s2 => omega); (case s3 => omega); (case s4 => omega); (case s5 => omega))
  | (with_reducible refine' C_check ?s1 ?s2 ?_; (case s1 => with_unfolding_all exact rfl); (case s2 => omega))
  | (with_reducible refine' At_uS ?s1 ?s2 ?_; (case s1 => with_unfolding_all exact rfl); (case s2 => assumption))
  | (with_reducible refine' At_uN ?s1 ?s2 ?_; (case s1 => with_unfolding_all exact rfl); (case s2 => assumption))
  | (with_reducible refine' At_kS ?s1 ?s2 ?_; (case s1 => with_unfolding_all exact rfl); (case s2 => assumption))
  | (with_reducible refine' At_kN ?s1 ?s2 ?_; (case s1 => with_unfolding_all exact rfl); (case s2 => assumption))
  | (with_reducible refine' At_u ?s1 ?_; (case s1 => with_unfolding_all exact rfl))
  | (with_reducible refine' At_w ?s1 ?_; (case s1 => with_unfolding_all exact rfl))
  | (with_reducible refine' At_s ?s1 ?_; (case s1 => with_unfolding_all exact rfl))
  | (with_reducible refine' At_rs ?s1 ?_; (case s1 => with_unfolding_all exact rfl))
  | (with_reducible refine' Mt_wg ?s1 ?s2 ?_; (case s1 => with_unfolding_all exact rfl); (case s2 => with_unfolding_all exact rfl))
  | (with_reducible refine' C_rlab ?s1 ?s2 ?s3 ?s4 ?_; (case s1 => with_unfolding_all exact rfl); (case s2 => assumption); (case s3 => omega); (case s4 => omega))
  | (with_reducible refine' Ix_id ?s1 ?_; (case s1 => with_unfolding_all exact rfl))
  | (with_reducible refine' Il_id ?s1 ?s2 ?_; (case s1 => with_unfolding_all exact rfl); (case s2 => assumption))
  | (with_reducible refine' V_pop ?s1 ?s2 ?_; (case s1 => with_unfolding_all exact rfl); (case s2 => assumption))
  | (with_reducible refine C_isnTup ?_)
  | (with_reducible refine C_isTup ?_)
  | (with_reducible refine C_neSt0 ?_)
  | (with_reducible refine C_eqSt0 ?_)
  | (with_reducible refine C_eqOI ?_)
  | (with_reducible refine C_neOI ?_)
  | (with_reducible refine C_isO ?_)
  | (with_reducible refine C_isnO ?_)
  | (with_reducible refine' C_draw ?s1 ?s2 ?s3 ?s4 ?s5 ?_; (case s1 => with_unfolding_all exact rfl); (case s2 => assumption); (case s3 => omega); (case s4 => omega); (case s5 => omega); intro r s' hr0 hr1 hp)
  | (with_reducible refine' C_llab ?s1 ?s2 ?s3 ?s4 ?_; (case s1 => with_unfolding_all exact rfl); (case s2 => assumption); (case s3 => omega); (case s4 => omega))
  | (with_reducible refine' C_eqLb ?s1 ?s2 ?_; (case s1 => first | assumption | exact lab_ok _ (by assumption)); (case s2 => first | assumption | exact lab_ok _ (by assumption)))
  | (with_reducible refine' C_neLb ?s1 ?s2 ?_; (case s1 => first | assumption | exact lab_ok _ (by assumption)); (case s2 => first | assumption | exact lab_ok _ (by assumption)))
  | (with_reducible refine' C_rages ?s1 ?s2 ?_; (case s1 => with_unfolding_all exact rfl); (case s2 => assumption))
  | fail "a2")
end
/-! ### steady wordings -/
end
section
open PySem L2
end
section
open PySem L2
end
section
open PySem L2
section
variable {T : Tab} {P : Out → List Cell → Prop} {PX : Nat → List D → List Cell → Prop} {s sto : List Cell} {rs : List Rw} {r : Rw} {a : Int} {i : Int} {ps : List St2} {p : St2} {Q : D → Prop}
end
section
local macro_rules | `(tactic| walk_at "w") => `(tactic| repeat' first
  | fail "a1"
  | (with_reducible refine' Ix_id ?s1 ?_; (case s1 => with_unfolding_all exact rfl))
  | (with_reducible refine' Il_id ?s1 ?s2 ?_; (case s1 => with_unfolding_all exact rfl); (case s2 => assumption))
  | (with_reducible refine' V_pop ?s1 ?s2 ?_; (case s1 => with_unfolding_all exact rfl); (case s2 => assumption))
  | (with_reducible refine C_isnTup ?_)
  | (with_reducible refine C_isTup ?_)
  | (with_reducible refine C_neSt0 ?_)
  | (with_reducible refine C_eqSt0 ?_)
  | (with_reducible refine C_eqOI ?_)
  | (with_reducible refine C_neOI ?_)
  | (with_reducible refine C_isO ?_)
  | (with_reducible refine C_isnO ?_)
  | (with_reducible refine' C_draw ?s1 ?s2 ?s3 ?s4 ?s5 ?_; (case s1 => with_unfolding_all exact rfl); (case s2 => assumption); (case s3 => omega); (case s4 => omega); (case s5 => omega); intro r s' hr0 hr1 hp)
  | (with_reducible refine' C_llab ?s1 ?s2 ?s3 ?s4 ?_; (case s1 => with_unfolding_all exact rfl); (case s2 => assumption); (case s3 => omega); (case s4 => omega))
  | (with_reducible refine' C_eqLb ?s1 ?s2 ?_; (case s1 => first | assumption | exact lab_ok _ (by assumption)); (case s2 => first | assumption | exact lab_ok _ (by assumption)))
  | (with_reducible refine' C_neLb ?s1 ?s2 ?_; (case s1 => first | assumption | exact lab_ok _ (by assumption)); (case s2 => first | assumption | exact lab_ok _ (by assumption)))
  | (with_reducible refine Is_tup ?_)
  | fail "a2")
end
/-! ### the walk through all ages -/
section
local macro_rules | `(tactic| walk_at "w") => `(tactic| repeat' first
  | fail "a1"
  | (with_reducible refine' Ix_id ?s1 ?_; (case s1 => with_unfolding_all exact rfl))
  | (with_reducible refine' Il_id ?s1 ?s2 ?_; (case s1 => with_unfolding_all exact rfl); (case s2 => assumption))
  | (with_reducible refine' V_pop ?s1 ?s2 ?_; (case s1 => with_unfolding_all exact rfl); (case s2 => assumption))
  | (with_reducible refine C_isnTup ?_)
  | (with_reducible refine C_isTup ?_)
  | (with_reducible refine C_neSt0 ?_)
  | (with_reducible refine C_eqSt0 ?_)
  | (with_reducible refine C_eqOI ?_)
  | (with_reducible refine C_neOI ?_)
  | (with_reducible refine C_isO ?_)
  | (with_reducible refine C_isnO ?_)
  | (with_reducible refine' C_eqLb ?s1 ?s2 ?_; (case s1 => assumption); (case s2 => assumption))
  | (with_reducible refine' X_setlV ?s1 ?_; (case s1 => with_unfolding_all exact rfl))
  | (with_reducible refine' Ow_id ?s1 ?_; (case s1 => with_unfolding_all exact rfl))
  | fail "a2")
end
end
section
open PySem L2
section
variable {T : Tab} {P : Out → List Cell → Prop} {PX : Nat → List D → List Cell → Prop} {s sto : List Cell} {rs : List Rw} {a b : Int} {ps : List St2}
local macro_rules | `(tactic| walk_at "w") => `(tactic| repeat' first
  | fail "a1p"
  | (with_reducible refine' C_count ?s1 ?s2 ?s3 ?s4 ?s5 ?_; (case s1 => with_unfolding_all exact rfl); (case s2 => omega); (case s3 => omega); (case s4 => omega); (case s5 => omega))
  | (with_reducible refine' C_offset ?s1 ?_; (case s1 => with_unfolding_all exact rfl))
  | (with_reducible refine' C_fwi ?s1 ?s2 ?_; (case s1 => with_unfolding_all exact rfl); (case s2 => omega))
  | (with_reducible refine' C_foc ?s1 ?s2 ?s3 ?s4 ?s5 ?_; (case s1 => with_unfolding_all exact rfl); (case s2 => omega); (case s3 => omega); (case s4 => omega); (case s5 => omega))
  | (with_reducible refine' C_check ?s1 ?s2 ?_; (case s1 => with_unfolding_all exact rfl); (case s2 => omega))
  | (with_reducible refine' At_uS ?s1 ?s2 ?_; (case s1 => with_unfolding_all exact rfl); (case s2 => assumption))
  | (with_reducible refine' At_uN ?s1 ?s2 ?_; (case s1 => with_unfolding_all exact rfl); (case s2 => assumption))
  | (with_reducible refine' At_kS ?s1 ?s2 ?_; (case s1 => with_unfolding_all exact rfl); (case s2 => assumption))
  | (with_reducible refine' At_kN ?s1 ?s2 ?_; (case s1 => with_unfolding_all exact rfl); (case s2 => assumption))
  | (with_reducible refine' At_u ?s1 ?_; (case s1 => with_unfolding_all exact rfl))
  | (with_reducible refine' At_w ?s1 ?_; (case s1 => with_unfolding_all exact rfl))
  | (with_reducible refine' At_s ?s1 ?_; (case s1 => with_unfolding_all exact rfl))
  | (with_reducible refine' At_rs ?s1 ?_; (case s1 => with_unfolding_all exact rfl))
  | (with_reducible refine' Mt_wg ?s1 ?s2 ?_; (case s1 => with_unfolding_all exact rfl); (case s2 => with_unfolding_all exact rfl))
  | (with_reducible refine' C_rlab ?s1 ?s2 ?s3 ?s4 ?_; (case s1 => with_unfolding_all exact rfl); (case s2 => assumption); (case s3 => omega); (case s4 => omega))
  | (with_reducible refine' Ix_id ?s1 ?_; (case s1 => with_unfolding_all exact rfl))
  | (with_reducible refine' Il_id ?s1 ?s2 ?_; (case s1 => with_unfolding_all exact rfl); (case s2 => assumption))
  | (with_reducible refine' V_pop ?s1 ?s2 ?_; (case s1 => with_unfolding_all exact rfl); (case s2 => assumption))
  | (with_reducible refine C_isnTup ?_)
  | (with_reducible refine C_isTup ?_)
  | (with_reducible refine C_neSt0 ?_)
  | (with_reducible refine C_eqSt0 ?_)
  | (with_reducible refine C_eqOI ?_)
  | (with_reducible refine C_neOI ?_)
  | (with_reducible refine C_isO ?_)
  | (with_reducible refine C_isnO ?_)
  | (with_reducible refine' C_draw ?s1 ?s2 ?s3 ?s4 ?s5 ?_; (case s1 => with_unfolding_all exact rfl); (case s2 => assumption); (case s3 => omega); (case s4 => omega); (case s5 => omega); intro r s' hr0 hr1 hp)
  | (with_reducible refine' C_llab ?s1 ?s2 ?s3 ?s4 ?_; (case s1 => with_unfolding_all exact rfl); (case s2 => assumption); (case s3 => omega); (case s4 => omega))
  | (with_reducible refine' C_eqLb ?s1 ?s2 ?_; (case s1 => first | assumption | exact lab_ok _ (by assumption)); (case s2 => first | assumption | exact lab_ok _ (by assumption)))
  | (with_reducible refine' C_neLb ?s1 ?s2 ?_; (case s1 => first | assumption | exact lab_ok _ (by assumption)); (case s2 => first | assumption | exact lab_ok _ (by assumption)))
  | (with_reducible refine' C_label ?s1 ?s2 ?s3 ?s4 ?_; (case s1 => with_unfolding_all exact rfl); (case s2 => assumption); (case s3 => omega); (case s4 => omega))
  | (with_reducible refine' C_ages ?s1 ?s2 ?s3 ?_; (case s1 => with_unfolding_all exact rfl); (case s2 => assumption); (case s3 => assumption))
  | (with_reducible refine' C_lastU ?s1 ?s2 ?s3 ?s4 ?s5 ?_; (case s1 => with_unfolding_all exact rfl); (case s2 => assumption); (case s3 => assumption); (case s4 => omega); (case s5 => assumption))
  | (with_reducible refine' C_ledgeU ?s1 ?s2 ?s3 ?s4 ?s5 ?_; (case s1 => with_unfolding_all exact rfl); (case s2 => assumption); (case s3 => assumption); (case s4 => omega); (case s5 => assumption))
  | (with_reducible refine' C_llastU ?s1 ?s2 ?s3 ?s4 ?s5 ?s6 ?_; (case s1 => with_unfolding_all exact rfl); (case s2 => assumption); (case s3 => assumption); (case s4 => omega); (case s5 => omega); (case s6 => assumption))
  | (with_reducible refine' C_laterU ?s1 ?s2 ?s3 ?s4 ?s5 ?s6 ?s7 ?_; (case s1 => with_unfolding_all exact rfl); (case s2 => assumption); (case s3 => omega); (case s4 => assumption); (case s5 => omega); (case s6 => omega); (case s7 => assumption))
  | (with_reducible refine' Mt_wg ?s1 ?s2 ?_; (case s1 => with_unfolding_all exact rfl); (case s2 => with_unfolding_all exact rfl))
  | (with_reducible refine C_neNOe ?_)
  | (with_reducible refine C_neIOe ?_)
  | (with_reducible refine C_neOO ?_)
  | (with_reducible refine C_eqStt1N ?_)
  | (with_reducible refine C_eqStt1I ?_)
  | fail "a2")
end
section
variable {T : Tab} {P : Out → List Cell → Prop} {PX : Nat → List D → List Cell → Prop} {s sto : List Cell} {rs : List Rw} {a b : Int} {ps : List St2}
local macro_rules | `(tactic| walk_at "w") => `(tactic| repeat' first
  | (with_reducible refine' X_augV ?s1 ?_; (case s1 => with_unfolding_all exact rfl))
  | fail "a1p"
  | (with_reducible refine' C_count ?s1 ?s2 ?s3 ?s4 ?s5 ?_; (case s1 => with_unfolding_all exact rfl); (case s2 => omega); (case s3 => omega); (case s4 => omega); (case s5 => omega))
  | (with_reducible refine' C_offset ?s1 ?_; (case s1 => with_unfolding_all exact rfl))
  | (with_reducible refine' C_fwi ?s1 ?s2 ?_; (case s1 => with_unfolding_all exact rfl); (case s2 => omega))
  | (with_reducible refine' C_foc ?s1 ?s2 ?s3 ?s4 ?s5 ?_; (case s1 => with_unfolding_all exact rfl); (case s2 => omega); (case s3 => omega); (case s4 => omega); (case s5 => omega))
  | (with_reducible refine' C_check ?s1 ?s2 ?_; (case s1 => with_unfolding_all exact rfl); (case s2 => omega))
  | (with_reducible refine' At_uS ?s1 ?s2 ?_; (case s1 => with_unfolding_all exact rfl); (case s2 => assumption))
  | (with_reducible refine' At_uN ?s1 ?s2 ?_; (case s1 => with_unfolding_all exact rfl); (case s2 => assumption))
  | (with_reducible refine' At_kS ?s1 ?s2 ?_; (case s1 => with_unfolding_all exact rfl); (case s2 => assumption))
  | (with_reducible refine' At_kN ?s1 ?s2 ?_; (case s1 => with_unfolding_all exact rfl); (case s2 => assumption))
  | (with_reducible refine' At_u ?s1 ?_; (case s1 => with_unfolding_all exact rfl))
  | (with_reducible refine' At_w ?s1 ?_; (case s1 => with_unfolding_all exact rfl))
  | (with_reducible refine' At_s ?s1 ?_; (case s1 => with_unfolding_all exact rfl))
  | (with_reducible refine' At_rs ?s1 ?_; (case s1 => with_unfolding_all exact rfl))
  | (with_reducible refine' Mt_wg ?s1 ?s2 ?_; (case s1 => with_unfolding_all exact rfl); (case s2 => with_unfolding_all exact rfl))
  | (with_reducible refine' C_rlab ?s1 ?s2 ?s3 ?s4 ?_; (case s1 => with_unfolding_all exact rfl); (case s2 => assumption); (case s3 => omega); (case s4 => omega))
  | (with_reducible refine' Ix_id ?s1 ?_; (case s1 => with_unfolding_all exact rfl))
  | (with_reducible refine' Il_id ?s1 ?s2 ?_; (case s1 => with_unfolding_all exact rfl); (case s2 => assumption))
  | (with_reducible refine' V_pop ?s1 ?s2 ?_; (case s1 => with_unfolding_all exact rfl); (case s2 => assumption))
  | (with_reducible refine C_isnTup ?_)
  | (with_reducible refine C_isTup ?_)
  | (with_reducible refine C_neSt0 ?_)
  | (with_reducible refine C_eqSt0 ?_)
  | (with_reducible refine C_eqOI ?_)
  | (with_reducible refine C_neOI ?_)
  | (with_reducible refine C_isO ?_)
  | (with_reducible refine C_isnO ?_)
  | (with_reducible refine' C_draw ?s1 ?s2 ?s3 ?s4 ?s5 ?_; (case s1 => with_unfolding_all exact rfl); (case s2 => assumption); (case s3 => omega); (case s4 => omega); (case s5 => omega); intro r s' hr0 hr1 hp)
  | (with_reducible refine' C_llab ?s1 ?s2 ?s3 ?s4 ?_; (case s1 => with_unfolding_all exact rfl); (case s2 => assumption); (case s3 => omega); (case s4 => omega))
  | (with_reducible refine' C_eqLb ?s1 ?s2 ?_; (case s1 => first | assumption | exact lab_ok _ (by assumption)); (case s2 => first | assumption | exact lab_ok _ (by assumption)))
  | (with_reducible refine' C_neLb ?s1 ?s2 ?_; (case s1 => first | assumption | exact lab_ok _ (by assumption)); (case s2 => first | assumption | exact lab_ok _ (by assumption)))
  | (with_reducible refine' C_label ?s1 ?s2 ?s3 ?s4 ?_; (case s1 => with_unfolding_all exact rfl); (case s2 => assumption); (case s3 => omega); (case s4 => omega))
  | (with_reducible refine' C_lastU ?s1 ?s2 ?s3 ?s4 ?s5 ?_; (case s1 => with_unfolding_all exact rfl); (case s2 => assumption); (case s3 => assumption); (case s4 => omega); (case s5 => assumption))
  | (with_reducible refine' C_ledgeU ?s1 ?s2 ?s3 ?s4 ?s5 ?_; (case s1 => with_unfolding_all exact rfl); (case s2 => assumption); (case s3 => assumption); (case s4 => omega); (case s5 => assumption))
  | (with_reducible refine' C_edges ?s1 ?s2 ?s3 ?s4 ?s5 ?_; (case s1 => with_unfolding_all exact rfl); (case s2 => assumption); (case s3 => assumption); (case s4 => omega); (case s5 => omega))
  | (with_reducible refine' C_eqLb (lab_ok _ ?s1) (lab_ok _ ?s2) ?_; (case s1 => assumption); (case s2 => assumption))
  | (with_reducible refine' Mt_wg ?s1 ?s2 ?_; (case s1 => with_unfolding_all exact rfl); (case s2 => with_unfolding_all exact rfl))
  | fail "a2")
end
end
section
open PySem L2
section
variable {T : Tab} {P : Out → List Cell → Prop} {PX : Nat → List D → List Cell → Prop} {s sto : List Cell} {rs : List Rw} {f : Int} {ws : List Str}
end
end
section
open PySem L2
/-! ### == of data, built up -/
structure En2 {α : Type} [DecidableEq α] (f : α → D) (ok : α → Prop) (n : Nat) where
  p : α → PyData
  py : ∀ a, toPy (f a) = some (p a)
  eqv : ∀ a b, PyData.eqv (p a) (p b) = decide (a = b)
  lay : ∀ a, ok a → PyData.canLay0 (p a) = true
  dep : ∀ a, PyData.depth (p a) ≤ n
/-- never None -/
structure En2.Nn {α : Type} [DecidableEq α] {f : α → D} {ok : α → Prop} {n : Nat} (E : En2 f ok n) : Prop where
  l : ∀ a, PyData.eqv .none (E.p a) = false
  r : ∀ a, PyData.eqv (E.p a) .none = false
section
variable {α β : Type} [DecidableEq α] [DecidableEq β] {f : α → D} {g : β → D} {ok : α → Prop} {ok2 : β → Prop} {n m : Nat}
end
/-- two ends, each left out or not -/
abbrev O2 := Option Int × Option Int
section
variable {P : Bool → Prop} {p q : O2} {xs ys : List (Option Lb)}
end
end
section
open PySem L2
/-- what a look at m shows of an event x -/
def shw (L : Int → Lb) (x m : Int) : Option Lb := if x ≤ m then some (L (m - x)) else none
def SameE (L : Int → Lb) (M : Int → Prop) (e x : Int) : Prop := ∀ m, M m → shw L x m = shw L e m
def InO (p : O2) (x : Int) : Prop := (∀ v, p.1 = some v → v ≤ x) ∧ ∀ v, p.2 = some v → x ≤ v
def IsStr (L : Int → Lb) (M : Int → Prop) (e : Int) (p : O2) : Prop := ∀ x, SameE L M e x ↔ InO p x
end
section
open PySem L2
end
section
open PySem L2
section
variable {T : Tab} {P : Out → List Cell → Prop} {PX : Nat → List D → List Cell → Prop} {s sto : List Cell} {rs : List Rw} {a b : Int} {o p : Option Int} {Q : D → Prop}
local macro_rules | `(tactic| walk_at "w") => `(tactic| repeat' first
  | fail "a1p"
  | (with_reducible refine C_isO ?_)
  | fail "a2")
end
section
variable {T : Tab} {P : Out → List Cell → Prop} {PX : Nat → List D → List Cell → Prop} {s sto : List Cell} {rs : List Rw} {a b : Int} {o p : Option Int} {Q : D → Prop}
local macro_rules | `(tactic| walk_at "w") => `(tactic| repeat' first
  | fail "a1p"
  | (with_reducible refine' Ix_id ?s1 ?_; (case s1 => with_unfolding_all exact rfl))
  | (with_reducible refine' Il_id ?s1 ?s2 ?_; (case s1 => with_unfolding_all exact rfl); (case s2 => assumption))
  | (with_reducible refine' V_pop ?s1 ?s2 ?_; (case s1 => with_unfolding_all exact rfl); (case s2 => assumption))
  | (with_reducible refine C_isnTup ?_)
  | (with_reducible refine C_isTup ?_)
  | (with_reducible refine C_neSt0 ?_)
  | (with_reducible refine C_eqSt0 ?_)
  | (with_reducible refine C_eqOI ?_)
  | (with_reducible refine C_neOI ?_)
  | (with_reducible refine C_isO ?_)
  | (with_reducible refine C_isnO ?_)
  | (with_reducible refine' C_returnsS ?s1 ?s2 ?s3 ?s4 ?_; (case s1 => with_unfolding_all exact rfl); (case s2 => assumption); (case s3 => assumption); (case s4 => assumption))
  | (with_reducible refine' Mt_wg ?s1 ?s2 ?_; (case s1 => with_unfolding_all exact rfl); (case s2 => with_unfolding_all exact rfl))
  | fail "a2")
end
section
variable {T : Tab} {P : Out → List Cell → Prop} {PX : Nat → List D → List Cell → Prop} {s sto : List Cell} {rs : List Rw} {a b e : Int} {o p : Option Int} {Q : D → Prop} {ms : List Int}
local macro_rules | `(tactic| walk_at "w") => `(tactic| repeat' first
  | fail "a1p"
  | (with_reducible refine' Ix_id ?s1 ?_; (case s1 => with_unfolding_all exact rfl))
  | (with_reducible refine' Il_id ?s1 ?s2 ?_; (case s1 => with_unfolding_all exact rfl); (case s2 => assumption))
  | (with_reducible refine' V_pop ?s1 ?s2 ?_; (case s1 => with_unfolding_all exact rfl); (case s2 => assumption))
  | (with_reducible refine C_isnTup ?_)
  | (with_reducible refine C_isTup ?_)
  | (with_reducible refine C_neSt0 ?_)
  | (with_reducible refine C_eqSt0 ?_)
  | (with_reducible refine C_eqOI ?_)
  | (with_reducible refine C_neOI ?_)
  | (with_reducible refine C_isO ?_)
  | (with_reducible refine C_isnO ?_)
  | (with_reducible refine' C_steady ?s1 ?s2 ?s3 ?s4 ?_; (case s1 => with_unfolding_all exact rfl); (case s2 => assumption); (case s3 => assumption); (case s4 => assumption))
  | (with_reducible refine' C_lastU ?s1 ?s2 ?s3 ?s4 ?s5 ?_; (case s1 => with_unfolding_all exact rfl); (case s2 => assumption); (case s3 => assumption); (case s4 => omega); (case s5 => assumption))
  | (with_reducible refine' C_ledgeU ?s1 ?s2 ?s3 ?s4 ?s5 ?_; (case s1 => with_unfolding_all exact rfl); (case s2 => assumption); (case s3 => assumption); (case s4 => omega); (case s5 => assumption))
  | (with_reducible refine' C_glowI ?s1 ?_; (case s1 => with_unfolding_all exact rfl))
  | (with_reducible refine' C_lhighI ?s1 ?_; (case s1 => with_unfolding_all exact rfl))
  | (with_reducible refine C_isO ?_)
  | (with_reducible refine' Mt_wg ?s1 ?s2 ?_; (case s1 => with_unfolding_all exact rfl); (case s2 => with_unfolding_all exact rfl))
  | fail "a2")
end
end
section
open PySem L2
section
variable {c : Fr → Rs Bool} {b : Fr → Sx}
end
section
variable {T : Tab} {fr : Fr} {K : SxP} {c : Tm} {B : List Stm}
end
section
variable {T : Tab} {fr : Fr} {P : RV → Fr → Prop} {PX : PXt} {K : SxP} {a b c : Tm} {i : Nat} {ts us : List Tm}
end
end
section
open PySem L2
/-! ### rests of rows of numbers -/
/-- what least_rest's loop keeps: O the numbers asked for -/
structure LrI (O : Int → Prop) (f s u n l : Int) : Prop where
  u0 : 0 < u
  lO : O l
  low : ∀ r, O r → l ≤ r ∨ ∃ k, 0 ≤ k ∧ k < n ∧ (f + k * s) % u ≤ r
  mem : ∀ k, 0 ≤ k → k < n → O ((f + k * s) % u)
/-! ### the greatest common divisor -/
structure GI (S U a b : Int) : Prop where
  b0 : 0 ≤ b
  dv : ∀ d, d ∣ a → d ∣ b → d ∣ S ∧ d ∣ U
  sa : ∃ x y, a = x * S + y * U
  sb : ∃ x y, b = x * S + y * U
end
section
open PySem L2
section
variable {T : Tab} {P : Out → List Cell → Prop} {PX : Nat → List D → List Cell → Prop} {s sto : List Cell} {f st u g : Int} {n : Option Int}
local macro_rules | `(tactic| walk_at "w") => `(tactic| repeat' first
  | fail "a1p"
  | fail "a2")
end
section
variable {T : Tab} {P : Out → List Cell → Prop} {PX : Nat → List D → List Cell → Prop} {s sto : List Cell} {f st u g : Int} {n : Option Int}
local macro_rules | `(tactic| walk_at "w") => `(tactic| repeat' first
  | fail "a1p"
  | (with_reducible refine' C_gcd ?s1 ?s2 ?_; (case s1 => with_unfolding_all exact rfl); (case s2 => omega); intro g hg)
  | (with_reducible refine' O_mod ?s1 ?_; (case s1 => assumption))
  | fail "a2")
end
end
section
open PySem L2
/-! ### zones -/
structure Zn where
  lo : Int
  hi : Option Int
  u : Option Int
  o : Int
deriving DecidableEq
def ZU (L : Int → Lb) (z : Zn) : Option Int → Prop
  | none => ∀ b, z.lo < b → Upto z.hi b → ¬ Edge L b
  | some u => 0 < u ∧ ∀ a, z.lo ≤ a → Upto z.hi a → IsLast L a (a - (a - z.o) % u) ∧ IsLater L a (some (fwi a u z.o)) ∧ IsLater L (fwi a u z.o) (some (fwi a u z.o + u))
structure ZP (B : Int) (L : Int → Lb) (z : Zn) : Prop where
  l0 : 0 ≤ z.lo
  lB : z.lo < B
  hB : ∀ v, z.hi = some v → z.lo < v ∧ v < B
  uB : ∀ u, z.u = some u → u < B
  oB : -B < z.o ∧ z.o < B
  un : ZU L z z.u
def rz (r : Rw) (l : Int) (h : Option Int) : List Zn := match r.k with
  | none => [⟨l, h, none, 0⟩]
  | some u => match h with
    | none => [⟨l, some (fwi l u (off r.w u)), none, 0⟩, ⟨fwi l u (off r.w u), none, some u, off r.w u⟩]
    | some v => if v ≤ fwi l u (off r.w u) then [⟨l, some v, none, 0⟩] else
      [⟨l, some (fwi l u (off r.w u)), none, 0⟩] ++ (if fwi l u (off r.w u) < v - 1 - (v - 1 - off r.w u) % u - u then [⟨fwi l u (off r.w u), some (v - 1 - (v - 1 - off r.w u) % u - u), some u, off r.w u⟩] else []) ++
        (if fwi l u (off r.w u) < v - 1 - (v - 1 - off r.w u) % u then [⟨v - 1 - (v - 1 - off r.w u) % u - u, some (v - 1 - (v - 1 - off r.w u) % u), none, 0⟩] else []) ++ [⟨v - 1 - (v - 1 - off r.w u) % u, some v, none, 0⟩]
section
variable {B : Int} {L : Int → Lb} {l : Int} {h : Option Int} {r : Rw}
end
end
section
open PySem L2
/-- k is one of the first n numbers from 0 on; all for none -/
def Kn (n : Option Int) (k : Int) : Prop := 0 ≤ k ∧ ∀ v, n = some v → k < v
def BhS (L : Int → Lb) (f s : Int) (n : Option Int) (d : Int) : Prop := ∃ k, Kn n k ∧ IsLast L (f + k * s) (f + k * s - d)
def AhS (L : Int → Lb) (f s : Int) (n : Option Int) (d : Int) : Prop := ∃ k, Kn n k ∧ IsLater L (f + k * s) (some (f + k * s + d))
def InZ (z : Zn) (a : Int) : Prop := z.lo ≤ a ∧ Upto z.hi a
section
variable {B : Int} {L : Int → Lb} {z : Zn} {f s : Int} {n : Option Int}
end
/-! ### what looks of a beat tell -/
def Bt (f s : Int) (n : Option Int) (m : Int) : Prop := ∃ k, Kn n k ∧ m = f + k * s
section
variable {L : Int → Lb} {f s e : Int} {n : Option Int}
end
end
section
open PySem L2
section
variable {T : Tab} {P : Out → List Cell → Prop} {PX : Nat → List D → List Cell → Prop} {s sto : List Cell} {f st u g l : Int} {n h : Option Int} {r : Rw} {rs : List Rw}
local macro_rules | `(tactic| walk_at "w") => `(tactic| repeat' first
  | fail "a1p"
  | (with_reducible refine' X_retLstSO ?s1 ?_; (case s1 => with_unfolding_all exact rfl))
  | (with_reducible refine' C_count ?s1 ?s2 ?s3 ?s4 ?s5 ?_; (case s1 => with_unfolding_all exact rfl); (case s2 => omega); (case s3 => omega); (case s4 => omega); (case s5 => omega))
  | (with_reducible refine' C_offset ?s1 ?_; (case s1 => with_unfolding_all exact rfl))
  | (with_reducible refine' C_fwi ?s1 ?s2 ?_; (case s1 => with_unfolding_all exact rfl); (case s2 => omega))
  | (with_reducible refine' C_foc ?s1 ?s2 ?s3 ?s4 ?s5 ?_; (case s1 => with_unfolding_all exact rfl); (case s2 => omega); (case s3 => omega); (case s4 => omega); (case s5 => omega))
  | (with_reducible refine' C_check ?s1 ?s2 ?_; (case s1 => with_unfolding_all exact rfl); (case s2 => omega))
  | (with_reducible refine' At_uS ?s1 ?s2 ?_; (case s1 => with_unfolding_all exact rfl); (case s2 => assumption))
  | (with_reducible refine' At_uN ?s1 ?s2 ?_; (case s1 => with_unfolding_all exact rfl); (case s2 => assumption))
  | (with_reducible refine' At_kS ?s1 ?s2 ?_; (case s1 => with_unfolding_all exact rfl); (case s2 => assumption))
  | (with_reducible refine' At_kN ?s1 ?s2 ?_; (case s1 => with_unfolding_all exact rfl); (case s2 => assumption))
  | (with_reducible refine' At_u ?s1 ?_; (case s1 => with_unfolding_all exact rfl))
  | (with_reducible refine' At_w ?s1 ?_; (case s1 => with_unfolding_all exact rfl))
  | (with_reducible refine' At_s ?s1 ?_; (case s1 => with_unfolding_all exact rfl))
  | (with_reducible refine' At_rs ?s1 ?_; (case s1 => with_unfolding_all exact rfl))
  | (with_reducible refine' Mt_wg ?s1 ?s2 ?_; (case s1 => with_unfolding_all exact rfl); (case s2 => with_unfolding_all exact rfl))
  | (with_reducible refine' C_rlab ?s1 ?s2 ?s3 ?s4 ?_; (case s1 => with_unfolding_all exact rfl); (case s2 => assumption); (case s3 => omega); (case s4 => omega))
  | (with_reducible refine' Ix_id ?s1 ?_; (case s1 => with_unfolding_all exact rfl))
  | (with_reducible refine' Il_id ?s1 ?s2 ?_; (case s1 => with_unfolding_all exact rfl); (case s2 => assumption))
  | (with_reducible refine' V_pop ?s1 ?s2 ?_; (case s1 => with_unfolding_all exact rfl); (case s2 => assumption))
  | (with_reducible refine C_isnTup ?_)
  | (with_reducible refine C_isTup ?_)
  | (with_reducible refine C_neSt0 ?_)
  | (with_reducible refine C_eqSt0 ?_)
  | (with_reducible refine C_eqOI ?_)
  | (with_reducible refine C_neOI ?_)
  | (with_reducible refine C_isO ?_)
  | (with_reducible refine C_isnO ?_)
  | fail "a2")
local macro_rules | `(tactic| walk_at "w") => `(tactic| repeat' first
  | fail "a1p"
  | (with_reducible refine' C_count ?s1 ?s2 ?s3 ?s4 ?s5 ?_; (case s1 => with_unfolding_all exact rfl); (case s2 => omega); (case s3 => omega); (case s4 => omega); (case s5 => omega))
  | (with_reducible refine' C_offset ?s1 ?_; (case s1 => with_unfolding_all exact rfl))
  | (with_reducible refine' C_fwi ?s1 ?s2 ?_; (case s1 => with_unfolding_all exact rfl); (case s2 => omega))
  | (with_reducible refine' C_foc ?s1 ?s2 ?s3 ?s4 ?s5 ?_; (case s1 => with_unfolding_all exact rfl); (case s2 => omega); (case s3 => omega); (case s4 => omega); (case s5 => omega))
  | (with_reducible refine' C_check ?s1 ?s2 ?_; (case s1 => with_unfolding_all exact rfl); (case s2 => omega))
  | (with_reducible refine' At_uS ?s1 ?s2 ?_; (case s1 => with_unfolding_all exact rfl); (case s2 => assumption))
  | (with_reducible refine' At_uN ?s1 ?s2 ?_; (case s1 => with_unfolding_all exact rfl); (case s2 => assumption))
  | (with_reducible refine' At_kS ?s1 ?s2 ?_; (case s1 => with_unfolding_all exact rfl); (case s2 => assumption))
  | (with_reducible refine' At_kN ?s1 ?s2 ?_; (case s1 => with_unfolding_all exact rfl); (case s2 => assumption))
  | (with_reducible refine' At_u ?s1 ?_; (case s1 => with_unfolding_all exact rfl))
  | (with_reducible refine' At_w ?s1 ?_; (case s1 => with_unfolding_all exact rfl))
  | (with_reducible refine' At_s ?s1 ?_; (case s1 => with_unfolding_all exact rfl))
  | (with_reducible refine' At_rs ?s1 ?_; (case s1 => with_unfolding_all exact rfl))
  | (with_reducible refine' Mt_wg ?s1 ?s2 ?_; (case s1 => with_unfolding_all exact rfl); (case s2 => with_unfolding_all exact rfl))
  | (with_reducible refine' C_rlab ?s1 ?s2 ?s3 ?s4 ?_; (case s1 => with_unfolding_all exact rfl); (case s2 => assumption); (case s3 => omega); (case s4 => omega))
  | (with_reducible refine' Ix_id ?s1 ?_; (case s1 => with_unfolding_all exact rfl))
  | (with_reducible refine' Il_id ?s1 ?s2 ?_; (case s1 => with_unfolding_all exact rfl); (case s2 => assumption))
  | (with_reducible refine' V_pop ?s1 ?s2 ?_; (case s1 => with_unfolding_all exact rfl); (case s2 => assumption))
  | (with_reducible refine C_isnTup ?_)
  | (with_reducible refine C_isTup ?_)
  | (with_reducible refine C_neSt0 ?_)
  | (with_reducible refine C_eqSt0 ?_)
  | (with_reducible refine C_eqOI ?_)
  | (with_reducible refine C_neOI ?_)
  | (with_reducible refine C_isO ?_)
  | (with_reducible refine C_isnO ?_)
  | (with_reducible refine' C_rages ?s1 ?s2 ?_; (case s1 => with_unfolding_all exact rfl); (case s2 => assumption))
  | (with_reducible refine' X_extend ?s1 ?_; (case s1 => with_unfolding_all exact rfl))
  | (with_reducible refine' C_rzones ?s1 ?s2 ?_; (case s1 => with_unfolding_all exact rfl); (case s2 => assumption))
  | fail "a2")
end
end
section
open PySem L2
section
variable {T : Tab} {P : Out → List Cell → Prop} {PX : Nat → List D → List Cell → Prop} {s sto : List Cell} {f st u g l : Int} {n h : Option Int} {r : Rw} {rs : List Rw} {z : Zn}
local macro_rules | `(tactic| walk_at "w") => `(tactic| repeat' first
  | fail "a1p"
  | (with_reducible refine' Ix_id ?s1 ?_; (case s1 => with_unfolding_all exact rfl))
  | (with_reducible refine' Il_id ?s1 ?s2 ?_; (case s1 => with_unfolding_all exact rfl); (case s2 => assumption))
  | (with_reducible refine' V_pop ?s1 ?s2 ?_; (case s1 => with_unfolding_all exact rfl); (case s2 => assumption))
  | (with_reducible refine C_isnTup ?_)
  | (with_reducible refine C_isTup ?_)
  | (with_reducible refine C_neSt0 ?_)
  | (with_reducible refine C_eqSt0 ?_)
  | (with_reducible refine C_eqOI ?_)
  | (with_reducible refine C_neOI ?_)
  | (with_reducible refine C_isO ?_)
  | (with_reducible refine C_isnO ?_)
  | fail "a2")
end
section
variable {T : Tab} {P : Out → List Cell → Prop} {PX : Nat → List D → List Cell → Prop} {s sto : List Cell} {f st u g l : Int} {n h : Option Int} {r : Rw} {rs : List Rw} {z : Zn}
local macro_rules | `(tactic| walk_at "w") => `(tactic| repeat' first
  | fail "a1p"
  | (with_reducible refine' C_count ?s1 ?s2 ?s3 ?s4 ?s5 ?_; (case s1 => with_unfolding_all exact rfl); (case s2 => omega); (case s3 => omega); (case s4 => omega); (case s5 => omega))
  | (with_reducible refine' C_offset ?s1 ?_; (case s1 => with_unfolding_all exact rfl))
  | (with_reducible refine' C_fwi ?s1 ?s2 ?_; (case s1 => with_unfolding_all exact rfl); (case s2 => omega))
  | (with_reducible refine' C_foc ?s1 ?s2 ?s3 ?s4 ?s5 ?_; (case s1 => with_unfolding_all exact rfl); (case s2 => omega); (case s3 => omega); (case s4 => omega); (case s5 => omega))
  | (with_reducible refine' C_check ?s1 ?s2 ?_; (case s1 => with_unfolding_all exact rfl); (case s2 => omega))
  | (with_reducible refine' At_uS ?s1 ?s2 ?_; (case s1 => with_unfolding_all exact rfl); (case s2 => assumption))
  | (with_reducible refine' At_uN ?s1 ?s2 ?_; (case s1 => with_unfolding_all exact rfl); (case s2 => assumption))
  | (with_reducible refine' At_kS ?s1 ?s2 ?_; (case s1 => with_unfolding_all exact rfl); (case s2 => assumption))
  | (with_reducible refine' At_kN ?s1 ?s2 ?_; (case s1 => with_unfolding_all exact rfl); (case s2 => assumption))
  | (with_reducible refine' At_u ?s1 ?_; (case s1 => with_unfolding_all exact rfl))
  | (with_reducible refine' At_w ?s1 ?_; (case s1 => with_unfolding_all exact rfl))
  | (with_reducible refine' At_s ?s1 ?_; (case s1 => with_unfolding_all exact rfl))
  | (with_reducible refine' At_rs ?s1 ?_; (case s1 => with_unfolding_all exact rfl))
  | (with_reducible refine' Mt_wg ?s1 ?s2 ?_; (case s1 => with_unfolding_all exact rfl); (case s2 => with_unfolding_all exact rfl))
  | (with_reducible refine' C_rlab ?s1 ?s2 ?s3 ?s4 ?_; (case s1 => with_unfolding_all exact rfl); (case s2 => assumption); (case s3 => omega); (case s4 => omega))
  | (with_reducible refine' Ix_id ?s1 ?_; (case s1 => with_unfolding_all exact rfl))
  | (with_reducible refine' Il_id ?s1 ?s2 ?_; (case s1 => with_unfolding_all exact rfl); (case s2 => assumption))
  | (with_reducible refine' V_pop ?s1 ?s2 ?_; (case s1 => with_unfolding_all exact rfl); (case s2 => assumption))
  | (with_reducible refine C_isnTup ?_)
  | (with_reducible refine C_isTup ?_)
  | (with_reducible refine C_neSt0 ?_)
  | (with_reducible refine C_eqSt0 ?_)
  | (with_reducible refine C_eqOI ?_)
  | (with_reducible refine C_neOI ?_)
  | (with_reducible refine C_isO ?_)
  | (with_reducible refine C_isnO ?_)
  | (with_reducible refine' C_least ?s1 ?s2 ?s3 ?s4 ?_; (case s1 => with_unfolding_all exact rfl); (case s2 => omega); (case s3 => omega); (case s4 => assumption); intro m hm)
  | (with_reducible refine' C_lastU ?s1 ?s2 ?s3 ?s4 ?s5 ?_; (case s1 => with_unfolding_all exact rfl); (case s2 => assumption); (case s3 => assumption); (case s4 => omega); (case s5 => assumption))
  | (with_reducible refine' C_ledgeU ?s1 ?s2 ?s3 ?s4 ?s5 ?_; (case s1 => with_unfolding_all exact rfl); (case s2 => assumption); (case s3 => assumption); (case s4 => omega); (case s5 => assumption))
  | (with_reducible refine' Mt_wg ?s1 ?s2 ?_; (case s1 => with_unfolding_all exact rfl); (case s2 => with_unfolding_all exact rfl))
  | fail "a2")
end
end
section
open PySem L2
/-- what nearest_edges gathers -/
structure EdI (L : Int → Lb) (f s : Int) (n : Option Int) (Z : List Zn) (bs as : List Int) : Prop where
  bM : ∀ b ∈ bs, BhS L f s n b
  bL : ∀ z ∈ Z, ∀ k, Kn n k → InZ z (f + k * s) → ∀ d, IsLast L (f + k * s) (f + k * s - d) → ∃ b ∈ bs, b ≤ d
  aM : ∀ b ∈ as, AhS L f s n b
  aL : ∀ z ∈ Z, ∀ k, Kn n k → InZ z (f + k * s) → ∀ d, IsLater L (f + k * s) (some (f + k * s + d)) → ∃ b ∈ as, b ≤ d
section
variable {L : Int → Lb} {f s : Int} {n : Option Int} {Z : List Zn} {bs as : List Int} {z : Zn}
end
end
section
open PySem L2
section
variable {T : Tab} {P : Out → List Cell → Prop} {PX : Nat → List D → List Cell → Prop} {s sto : List Cell} {f st u g l : Int} {n h : Option Int} {r : Rw} {rs : List Rw} {z : Zn} {zs : List Zn}
local macro_rules | `(tactic| walk_at "w") => `(tactic| repeat' first
  | (with_reducible refine' L_min1d ?s1 ?_; (case s1 => with_unfolding_all exact rfl))
  | (with_reducible refine' L_min1 ?s1 ?s2 ?_; (case s1 => with_unfolding_all exact rfl); (case s2 => assumption))
  | fail "a1p"
  | (with_reducible refine' C_count ?s1 ?s2 ?s3 ?s4 ?s5 ?_; (case s1 => with_unfolding_all exact rfl); (case s2 => omega); (case s3 => omega); (case s4 => omega); (case s5 => omega))
  | (with_reducible refine' C_offset ?s1 ?_; (case s1 => with_unfolding_all exact rfl))
  | (with_reducible refine' C_fwi ?s1 ?s2 ?_; (case s1 => with_unfolding_all exact rfl); (case s2 => omega))
  | (with_reducible refine' C_foc ?s1 ?s2 ?s3 ?s4 ?s5 ?_; (case s1 => with_unfolding_all exact rfl); (case s2 => omega); (case s3 => omega); (case s4 => omega); (case s5 => omega))
  | (with_reducible refine' C_check ?s1 ?s2 ?_; (case s1 => with_unfolding_all exact rfl); (case s2 => omega))
  | (with_reducible refine' At_uS ?s1 ?s2 ?_; (case s1 => with_unfolding_all exact rfl); (case s2 => assumption))
  | (with_reducible refine' At_uN ?s1 ?s2 ?_; (case s1 => with_unfolding_all exact rfl); (case s2 => assumption))
  | (with_reducible refine' At_kS ?s1 ?s2 ?_; (case s1 => with_unfolding_all exact rfl); (case s2 => assumption))
  | (with_reducible refine' At_kN ?s1 ?s2 ?_; (case s1 => with_unfolding_all exact rfl); (case s2 => assumption))
  | (with_reducible refine' At_u ?s1 ?_; (case s1 => with_unfolding_all exact rfl))
  | (with_reducible refine' At_w ?s1 ?_; (case s1 => with_unfolding_all exact rfl))
  | (with_reducible refine' At_s ?s1 ?_; (case s1 => with_unfolding_all exact rfl))
  | (with_reducible refine' At_rs ?s1 ?_; (case s1 => with_unfolding_all exact rfl))
  | (with_reducible refine' Mt_wg ?s1 ?s2 ?_; (case s1 => with_unfolding_all exact rfl); (case s2 => with_unfolding_all exact rfl))
  | (with_reducible refine' C_rlab ?s1 ?s2 ?s3 ?s4 ?_; (case s1 => with_unfolding_all exact rfl); (case s2 => assumption); (case s3 => omega); (case s4 => omega))
  | (with_reducible refine' Ix_id ?s1 ?_; (case s1 => with_unfolding_all exact rfl))
  | (with_reducible refine' Il_id ?s1 ?s2 ?_; (case s1 => with_unfolding_all exact rfl); (case s2 => assumption))
  | (with_reducible refine' V_pop ?s1 ?s2 ?_; (case s1 => with_unfolding_all exact rfl); (case s2 => assumption))
  | (with_reducible refine C_isnTup ?_)
  | (with_reducible refine C_isTup ?_)
  | (with_reducible refine C_neSt0 ?_)
  | (with_reducible refine C_eqSt0 ?_)
  | (with_reducible refine C_eqOI ?_)
  | (with_reducible refine C_neOI ?_)
  | (with_reducible refine C_isO ?_)
  | (with_reducible refine C_isnO ?_)
  | (with_reducible refine' C_swE ?s1 ?s2 ?s3 ?s4 ?s5 ?s6 ?s7 ?_; (case s1 => with_unfolding_all exact rfl); (case s2 => assumption); (case s3 => omega); (case s4 => omega); (case s5 => assumption); (case s6 => assumption); (case s7 => assumption))
  | (with_reducible refine' C_nbehindI ?s1 ?s2 ?s3 ?s4 ?s5 ?s6 ?s7 ?s8 ?_; (case s1 => with_unfolding_all exact rfl); (case s2 => assumption); (case s3 => assumption); (case s4 => assumption); (case s5 => omega); (case s6 => omega); (case s7 => assumption); (case s8 => assumption); intro m hm)
  | (with_reducible refine' C_nbehindN ?s1 ?s2 ?s3 ?s4 ?s5 ?s6 ?s7 ?_; (case s1 => with_unfolding_all exact rfl); (case s2 => assumption); (case s3 => assumption); (case s4 => assumption); (case s5 => omega); (case s6 => omega); (case s7 => assumption); intro m hm)
  | (with_reducible refine' C_naheadI ?s1 ?s2 ?s3 ?s4 ?s5 ?s6 ?s7 ?s8 ?s9 ?_; (case s1 => with_unfolding_all exact rfl); (case s2 => assumption); (case s3 => assumption); (case s4 => assumption); (case s5 => omega); (case s6 => omega); (case s7 => omega); (case s8 => assumption); (case s9 => assumption); intro m hm)
  | (with_reducible refine' C_naheadN ?s1 ?s2 ?s3 ?s4 ?s5 ?s6 ?s7 ?s8 ?s9 ?_; (case s1 => with_unfolding_all exact rfl); (case s2 => assumption); (case s3 => assumption); (case s4 => assumption); (case s5 => omega); (case s6 => omega); (case s7 => omega); (case s8 => assumption); (case s9 => assumption); intro m hm)
  | (with_reducible refine' X_extend ?s1 ?_; (case s1 => with_unfolding_all exact rfl))
  | (with_reducible refine D_iteL ?_)
  | (with_reducible refine' Ex_id ?s1 ?s2 ?_; (case s1 => with_unfolding_all exact rfl); (case s2 => simp only [List.length_append, List.length_cons, List.length_nil, List.length_map] at *; omega))
  | fail "a2")
end
end
section
open PySem L2
section
variable {i : Nat} {env : List Slot} {P : D → Prop} {a b : Int}
end
section
variable {T : Tab} {P : Out → List Cell → Prop} {PX : Nat → List D → List Cell → Prop} {s sto : List Cell} {f st u g l e : Int} {n h : Option Int} {r : Rw} {rs : List Rw} {z : Zn} {zs : List Zn} {Q : D → Prop}
end
section
variable {T : Tab} {P : Out → List Cell → Prop} {PX : Nat → List D → List Cell → Prop} {s sto : List Cell} {f st u g l e : Int} {n h : Option Int} {r : Rw} {rs : List Rw} {z : Zn} {zs : List Zn} {Q : D → Prop}
local macro_rules | `(tactic| walk_at "w") => `(tactic| repeat' first
  | (with_reducible refine X_asgIteL2 ?_)
  | (with_reducible refine' L_max1d0 ?s1 ?_; (case s1 => with_unfolding_all exact rfl))
  | (with_reducible refine' L_max1d1 ?s1 ?_; (case s1 => with_unfolding_all exact rfl))
  | (with_reducible refine' L_max1d2 ?s1 ?_; (case s1 => with_unfolding_all exact rfl))
  | fail "a1p"
  | (with_reducible refine' Ix_id ?s1 ?_; (case s1 => with_unfolding_all exact rfl))
  | (with_reducible refine' Il_id ?s1 ?s2 ?_; (case s1 => with_unfolding_all exact rfl); (case s2 => assumption))
  | (with_reducible refine' V_pop ?s1 ?s2 ?_; (case s1 => with_unfolding_all exact rfl); (case s2 => assumption))
  | (with_reducible refine C_isnTup ?_)
  | (with_reducible refine C_isTup ?_)
  | (with_reducible refine C_neSt0 ?_)
  | (with_reducible refine C_eqSt0 ?_)
  | (with_reducible refine C_eqOI ?_)
  | (with_reducible refine C_neOI ?_)
  | (with_reducible refine C_isO ?_)
  | (with_reducible refine C_isnO ?_)
  | (with_reducible refine' At_b5 ?s1 ?_; (case s1 => with_unfolding_all exact rfl))
  | (with_reducible refine' At_b6 ?s1 ?_; (case s1 => with_unfolding_all exact rfl))
  | (with_reducible refine' At_b7 ?s1 ?_; (case s1 => with_unfolding_all exact rfl))
  | (with_reducible refine' C_nedgesI ?s1 ?s2 ?s3 ?s4 ?s5 ?s6 ?s7 ?s8 ?s9 ?s10 ?s11 ?_; (case s1 => with_unfolding_all exact rfl); (case s2 => assumption); (case s3 => assumption); (case s4 => assumption); (case s5 => assumption); (case s6 => omega); (case s7 => omega); (case s8 => omega); (case s9 => omega); (case s10 => omega); (case s11 => omega); intro b a hb ha)
  | (with_reducible refine' C_nedgesN ?s1 ?s2 ?s3 ?s4 ?s5 ?s6 ?s7 ?s8 ?s9 ?_; (case s1 => with_unfolding_all exact rfl); (case s2 => assumption); (case s3 => assumption); (case s4 => assumption); (case s5 => assumption); (case s6 => omega); (case s7 => omega); (case s8 => omega); (case s9 => omega); intro b a hb ha)
  | (with_reducible refine' X_extend ?s1 ?_; (case s1 => with_unfolding_all exact rfl))
  | (with_reducible refine D_iteL ?_)
  | (with_reducible refine C_eqIN ?_)
  | (with_reducible refine' Ex_id ?s1 ?s2 ?_; (case s1 => with_unfolding_all exact rfl); (case s2 => simp only [List.length_append, List.length_cons, List.length_nil, List.length_map] at *; omega))
  | fail "a2")
end
section
variable {T : Tab} {P : Out → List Cell → Prop} {PX : Nat → List D → List Cell → Prop} {s sto : List Cell} {f st u g l e : Int} {n h : Option Int} {r : Rw} {rs : List Rw} {z : Zn} {zs : List Zn} {Q : D → Prop}
local macro_rules | `(tactic| walk_at "w") => `(tactic| repeat' first
  | fail "a1p"
  | (with_reducible refine' C_steady ?s1 ?s2 ?s3 ?s4 ?_; (case s1 => with_unfolding_all exact rfl); (case s2 => assumption); (case s3 => assumption); (case s4 => assumption))
  | (with_reducible refine' C_zones ?s1 ?s2 ?_; (case s1 => with_unfolding_all exact rfl); (case s2 => assumption))
  | (with_reducible refine' C_told ?s1 ?s2 ?s3 ?s4 ?s5 ?s6 ?s7 ?s8 ?s9 ?s10 ?s11 ?_; (case s1 => with_unfolding_all exact rfl); (case s2 => assumption); (case s3 => assumption); (case s4 => assumption); (case s5 => assumption); (case s6 => assumption); (case s7 => omega); (case s8 => omega); (case s9 => assumption); (case s10 => assumption); (case s11 => assumption); intro p hp)
  | fail "a2")
end
end
section
open PySem L2
section
variable {T : Tab} {P : Out → List Cell → Prop} {PX : Nat → List D → List Cell → Prop} {s sto : List Cell} {rs : List Rw} {a b e x m : Int} {o p : Option Int} {Q : D → Prop} {ms : List Int}
local macro_rules | `(tactic| walk_at "w") => `(tactic| repeat' first
  | fail "a1p"
  | (with_reducible refine' Ix_id ?s1 ?_; (case s1 => with_unfolding_all exact rfl))
  | (with_reducible refine' Il_id ?s1 ?s2 ?_; (case s1 => with_unfolding_all exact rfl); (case s2 => assumption))
  | (with_reducible refine' V_pop ?s1 ?s2 ?_; (case s1 => with_unfolding_all exact rfl); (case s2 => assumption))
  | (with_reducible refine C_isnTup ?_)
  | (with_reducible refine C_isTup ?_)
  | (with_reducible refine C_neSt0 ?_)
  | (with_reducible refine C_eqSt0 ?_)
  | (with_reducible refine C_eqOI ?_)
  | (with_reducible refine C_neOI ?_)
  | (with_reducible refine C_isO ?_)
  | (with_reducible refine C_isnO ?_)
  | (with_reducible refine' C_llab ?s1 ?s2 ?s3 ?s4 ?_; (case s1 => with_unfolding_all exact rfl); (case s2 => assumption); (case s3 => omega); (case s4 => omega))
  | fail "a2")
end
section
variable {T : Tab} {P : Out → List Cell → Prop} {PX : Nat → List D → List Cell → Prop} {s sto : List Cell} {rs : List Rw} {a b e x m : Int} {o p : Option Int} {Q : D → Prop} {ms : List Int}
local macro_rules | `(tactic| walk_at "w") => `(tactic| repeat' first
  | fail "a1p"
  | (with_reducible refine' Ix_id ?s1 ?_; (case s1 => with_unfolding_all exact rfl))
  | (with_reducible refine' Il_id ?s1 ?s2 ?_; (case s1 => with_unfolding_all exact rfl); (case s2 => assumption))
  | (with_reducible refine' V_pop ?s1 ?s2 ?_; (case s1 => with_unfolding_all exact rfl); (case s2 => assumption))
  | (with_reducible refine C_isnTup ?_)
  | (with_reducible refine C_isTup ?_)
  | (with_reducible refine C_neSt0 ?_)
  | (with_reducible refine C_eqSt0 ?_)
  | (with_reducible refine C_eqOI ?_)
  | (with_reducible refine C_neOI ?_)
  | (with_reducible refine C_isO ?_)
  | (with_reducible refine C_isnO ?_)
  | (with_reducible refine' C_show ?s1 ?s2 ?s3 ?_; (case s1 => with_unfolding_all exact rfl); (case s2 => assumption); (case s3 => assumption))
  | (with_reducible refine Of_id ?_)
  | fail "a2")
end
section
variable {T : Tab} {P : Out → List Cell → Prop} {PX : Nat → List D → List Cell → Prop} {s sto : List Cell} {rs : List Rw} {a b e x m : Int} {o p : Option Int} {Q : D → Prop} {ms : List Int} {B : Int}
local macro_rules | `(tactic| walk_at "w") => `(tactic| repeat' first
  | (with_reducible refine X_retCmp0 ?_)
  | (with_reducible refine' V_cmpCallO ?s1 ?_; (case s1 => with_unfolding_all exact rfl))
  | fail "a1p"
  | (with_reducible refine' Ix_id ?s1 ?_; (case s1 => with_unfolding_all exact rfl))
  | (with_reducible refine' Il_id ?s1 ?s2 ?_; (case s1 => with_unfolding_all exact rfl); (case s2 => assumption))
  | (with_reducible refine' V_pop ?s1 ?s2 ?_; (case s1 => with_unfolding_all exact rfl); (case s2 => assumption))
  | (with_reducible refine C_isnTup ?_)
  | (with_reducible refine C_isTup ?_)
  | (with_reducible refine C_neSt0 ?_)
  | (with_reducible refine C_eqSt0 ?_)
  | (with_reducible refine C_eqOI ?_)
  | (with_reducible refine C_neOI ?_)
  | (with_reducible refine C_isO ?_)
  | (with_reducible refine C_isnO ?_)
  | (with_reducible refine Is_tup ?_)
  | (with_reducible refine' Og0 ?s1 ?_; (case s1 => with_unfolding_all exact rfl))
  | (with_reducible refine' Og1 ?s1 ?_; (case s1 => with_unfolding_all exact rfl))
  | (with_reducible refine' C_draw ?s1 ?s2 ?s3 ?s4 ?s5 ?_; (case s1 => with_unfolding_all exact rfl); (case s2 => assumption); (case s3 => omega); (case s4 => omega); (case s5 => omega); intro r s' hr0 hr1 hp)
  | (with_reducible refine' C_showsB ?s1 ?s2 ?s3 ?s4 ?s5 ?s6 ?_; (case s1 => with_unfolding_all exact rfl); (case s2 => assumption); (case s3 => assumption); (case s4 => omega); (case s5 => assumption); (case s6 => omega))
  | (with_reducible refine' C_eqShl (shs_ok ?s1 _ _) (shs_ok ?s2 _ _) ?_; (case s1 => assumption); (case s2 => assumption))
  | (with_reducible refine' C_neShl (shs_ok ?s1 _ _) (shs_ok ?s2 _ _) ?_; (case s1 => assumption); (case s2 => assumption))
  | (with_reducible refine Of_id ?_)
  | (with_reducible refine' Oe_id ?s1 ?_; (case s1 => with_unfolding_all exact rfl))
  | fail "a2")
end
end
section
open PySem L2
end
section
open PySem L2
/-! ### stretches within stretches -/
def Sub (p q : O2) : Prop := (∀ v, q.1 = some v → ∃ w, p.1 = some w ∧ v ≤ w) ∧ ∀ v, q.2 = some v → ∃ w, p.2 = some w ∧ w ≤ v
/-! ### a wording of one row that counts -/
def one (u : Int) (w s : Str) : List Rw := [⟨none, some u, w, s⟩]
section
variable {u f s e g : Int} {w t : Str} {n : Option Int}
end
/-! ### Euclid's turns -/
end
section
open PySem L2
/-! ### short stretches, the fewest looks -/
def shortB (p : O2) (w : Int) : Bool := match p with
  | (some a, some b) => decide (b - a < w)
  | _ => false
section
variable {B X f s e x : Int} {rs : List Rw}
end
/-! ### the least number of looks -/
structure IsNeed (L : Int → Lb) (f s e w : Int) (n o : Option Int) : Prop where
  no : o = none → ∀ p, IsStr L (Bt f s n) e p → shortB p w = false
  yes : ∀ m, o = some m → 1 ≤ m ∧ (∀ v, n = some v → m ≤ v) ∧ (∀ p, IsStr L (Bt f s (some m)) e p → shortB p w = true) ∧ ∀ p, IsStr L (Bt f s (some (m - 1))) e p → shortB p w = false
section
variable {L : Int → Lb} {f s e w : Int} {n m : Option Int} {p : O2}
end
end
section
open PySem L2
section
variable {B f s e : Int} {rs : List Rw} {n : Option Int} {p : O2}
end
end
section
open PySem L2
/-! ### the last row -/
def lowOf : Int → List Rw → Int
  | low, [] => low
  | low, [_] => low
  | _, r :: r2 :: rs => lowOf (r.u.getD 0) (r2 :: rs)
def unitOf : List Rw → Option Int
  | [] => none
  | [r] => r.k
  | _ :: r2 :: rs => unitOf (r2 :: rs)
def wayOf : List Rw → Str
  | [] => ""
  | [r] => r.w
  | _ :: r2 :: rs => wayOf (r2 :: rs)
def wrdOf : List Rw → Str
  | [] => ""
  | [r] => r.s
  | _ :: r2 :: rs => wrdOf (r2 :: rs)
theorem low_lab {B : Int} : ∀ {rs : List Rw} {low : Int}, Ok B low rs → low ≤ lowOf low rs ∧ lowOf low rs < B ∧ (∀ u, unitOf rs = some u → 0 < u ∧ u < B) ∧ ∀ a, lowOf low rs ≤ a → lab rs a = (wrdOf rs, (unitOf rs).map fun u => cnt (wayOf rs) u a)
  | [], _, h => h.elim
  | [r], low, ⟨h1, h2, h3, h4⟩ => by
    have q : r.u = none := by
      cases q : r.u with
      | none => rfl
      | some v => rw [q] at h4; exact h4.2.elim
    refine ⟨Int.le_refl _, h3, h1, fun a _ => ?_⟩
    show (match r.u with | none => rlab r a | some v => if a < v then rlab r a else lab [] a) = _
    rw [q]; rfl
  | r :: r2 :: rs, low, ⟨h1, h2, h3, h4⟩ => by
    cases q : r.u with
    | none => rw [q] at h4; cases (show r2 :: rs = [] from h4)
    | some v =>
      rw [q] at h4
      obtain ⟨h5, h6⟩ := h4
      have e : lowOf low (r :: r2 :: rs) = lowOf v (r2 :: rs) := by
        show lowOf (r.u.getD 0) (r2 :: rs) = _
        rw [q]; rfl
      obtain ⟨g1, g2, g3, g4⟩ := low_lab h6
      rw [e]
      refine ⟨by omega, g2, g3, fun a ha => ?_⟩
      show (match r.u with | none => rlab r a | some v => if a < v then rlab r a else lab (r2 :: rs) a) = _
      rw [q]; dsimp only
      rw [if_neg (by omega)]
      exact g4 a ha
section
variable {B f s e : Int} {rs : List Rw} {p : O2}
end
/-! ### rows rounded down, times a number -/
def dn (r : Rw) : Rw := ⟨r.u, r.k, "down", r.s⟩
theorem Ok.dn {B : Int} : ∀ {rs : List Rw} {l : Int}, Ok B l rs → Ok B l (rs.map Ag.dn)
  | [], _, h => h
  | r :: rs, l, ⟨h1, h2, h3, h4⟩ => by
    refine ⟨h1, h2, h3, ?_⟩
    show match r.u with | none => _ | some v => _
    cases q : r.u with
    | none => rw [q] at h4; have h4 : rs = [] := h4; subst h4; rfl
    | some v => rw [q] at h4; exact ⟨h4.1, Ok.dn h4.2⟩
theorem lab_scale {F : Int} (hF : 0 < F) : ∀ {rs : List Rw}, (∀ r ∈ rs, r.w = "down") → (∀ r ∈ rs, ∀ u, r.k = some u → 0 < u) → ∀ a, lab (rs.map (tms F)) a = lab rs (a / F)
  | [], _, _, a => rfl
  | r :: rs, h, hk, a => by
    have ih := lab_scale hF (fun x hx => h x (.tail _ hx)) (fun x hx => hk x (.tail _ hx)) a
    have e : rlab (tms F r) a = rlab r (a / F) := by
      unfold rlab
      cases q : r.k with
      | none =>
        have : (tms F r).k = none := by show r.k.map _ = _; rw [q]; rfl
        rw [this]; rfl
      | some u =>
        have u0 := hk r (.head _) u q
        have : (tms F r).k = some (u * F) := by show r.k.map _ = _; rw [q]; rfl
        rw [this]
        show (r.s, some (cnt r.w (u * F) a)) = (r.s, some (cnt r.w u (a / F)))
        rw [h r (.head _)]
        show (r.s, some (a / (u * F))) = (r.s, some (a / F / u))
        rw [Int.ediv_ediv_of_nonneg (by omega), Int.mul_comm]
    show (match (tms F r).u with | none => rlab (tms F r) a | some v => if a < v then rlab (tms F r) a else lab (rs.map (tms F)) a) = (match r.u with | none => rlab r (a / F) | some v => if a / F < v then rlab r (a / F) else lab rs (a / F))
    cases q : r.u with
    | none =>
      have : (tms F r).u = none := by show r.u.map _ = _; rw [q]; rfl
      rw [this]; exact e
    | some v =>
      have : (tms F r).u = some (v * F) := by show r.u.map _ = _; rw [q]; rfl
      rw [this]
      dsimp only
      by_cases z : a / F < v
      · rw [if_pos z, if_pos ((Int.ediv_lt_iff_lt_mul hF).mp z)]; exact e
      · rw [if_neg z, if_neg fun y => z ((Int.ediv_lt_iff_lt_mul hF).mpr y)]; exact ih
end
section
open PySem L2
/-! ### two wordings beside one another -/
theorem cnt_from {w : Str} {u s a : Int} (h : 0 < u) : cnt w u a = cnt w u s + 1 + (a - fwi s u (off w u)) / u := @Rz _ _ (fun qz => @Hz.get _ _ (qz.bar : Hz _ (by
  clear qz
  have h1 := fwi_rest (low := s) (o := off w u) h
  obtain ⟨g1, g2⟩ := fwi_gt (low := s) (o := off w u) h
  have e : fwi s u (off w u) - off w u = u * ((fwi s u (off w u) - off w u) / u) := by
    have := Int.emod_add_mul_ediv (fwi s u (off w u) - off w u) u
    omega
  generalize (fwi s u (off w u) - off w u) / u = q at e
  generalize fwi s u (off w u) = f at *
  rw [cnt_off h, cnt_off h]
  have a1 : (a - off w u) / u = (a - f) / u + q := by rw [← div_add h]; congr 1; omega
  have a2 : (s - off w u) / u = q - 1 := by
    have : s - off w u = (s - f) + u * q := by omega
    rw [this, div_add h]
    have : (s - f) / u = -1 := div_is h (by omega) (by omega)
    omega
  omega))) Xz.mk
structure IsFU (L L' : Int → Lb) (s : Int) (h o : Option Int) : Prop where
  no : o = none → ∀ a, s ≤ a → Upto h a → L a = L' a
  yes : ∀ b, o = some b → s ≤ b ∧ Upto h b ∧ L b ≠ L' b ∧ ∀ a, s ≤ a → a < b → L a = L' a
section
variable {L L' : Int → Lb} {s : Int} {h : Option Int} {r r' : Rw} {u u' : Int}
theorem fu_start (hu : Upto h s) (hne : L s ≠ L' s) : IsFU L L' s h (some s) := ⟨fun z => (nomatch z), fun b z => by cases z; exact ⟨Int.le_refl _, hu, hne, fun a h1 h2 => by omega⟩⟩
theorem fu_none (hL : ∀ a, s ≤ a → Upto h a → L a = rlab r a) (hL' : ∀ a, s ≤ a → Upto h a → L' a = rlab r' a) (hu : Upto h s) (he : L s = L' s) (hk : r.k = none) : IsFU L L' s h none := ⟨fun _ a h1 h2 => by
  have hk' : r'.k = none := by
    rw [hL s (Int.le_refl _) hu, hL' s (Int.le_refl _) hu] at he
    have := congrArg Prod.snd he
    unfold rlab at this
    rw [hk] at this
    cases q : r'.k with
    | none => rfl
    | some v => rw [q] at this; cases this
  rw [hL a h1 h2, hL' a h1 h2, rlab_none hk a s, rlab_none hk' a s, ← hL s (Int.le_refl _) hu, ← hL' s (Int.le_refl _) hu, he], fun b z => nomatch z⟩
/-- both count, and alike at the start -/
theorem fu_both (hL : ∀ a, s ≤ a → Upto h a → L a = rlab r a) (hL' : ∀ a, s ≤ a → Upto h a → L' a = rlab r' a) (hu : Upto h s) (he : L s = L' s) (hk : r.k = some u) : ∃ u', r'.k = some u' ∧ r.s = r'.s ∧ cnt r.w u s = cnt r'.w u' s := @Rz _ _ (fun qz => @Hz.get _ _ (qz.bar : Hz _ (by
  clear qz
  rw [hL s (Int.le_refl _) hu, hL' s (Int.le_refl _) hu, rlab_some hk] at he
  have h2 := congrArg Prod.snd he
  have h1 := congrArg Prod.fst he
  unfold rlab at h2 h1
  cases q : r'.k with
  | none => rw [q] at h2; cases h2
  | some v => rw [q] at h2; exact ⟨v, rfl, h1, Option.some.inj h2⟩))) Xz.mk
theorem fu_cmp (hL : ∀ a, s ≤ a → Upto h a → L a = rlab r a) (hL' : ∀ a, s ≤ a → Upto h a → L' a = rlab r' a) (hk : r.k = some u) (hk' : r'.k = some u') (h0 : 0 < u) (h0' : 0 < u') (hs : r.s = r'.s) (hc : cnt r.w u s = cnt r'.w u' s) {a : Int} (h1 : s ≤ a) (h2 : Upto h a) :
    L a = L' a ↔ (a - fwi s u (off r.w u)) / u = (a - fwi s u' (off r'.w u')) / u' := @Rz _ _ (fun qz => @Hz.get _ _ (qz.bar : Hz _ (by
  clear qz
  rw [hL a h1 h2, hL' a h1 h2, rlab_some hk, rlab_some hk', hs, cnt_from (s := s) h0, cnt_from (w := r'.w) (s := s) h0', hc]
  constructor
  · intro z
    have := Option.some.inj (congrArg Prod.snd z)
    omega
  · intro z; rw [z]))) Xz.mk
theorem fu_same (hL : ∀ a, s ≤ a → Upto h a → L a = rlab r a) (hL' : ∀ a, s ≤ a → Upto h a → L' a = rlab r' a) (hk : r.k = some u) (hk' : r'.k = some u) (h0 : 0 < u) (hs : r.s = r'.s) (hc : cnt r.w u s = cnt r'.w u s) (hf : fwi s u (off r.w u) = fwi s u (off r'.w u)) : IsFU L L' s h none :=
  ⟨fun _ a h1 h2 => (fu_cmp hL hL' hk hk' h0 h0 hs hc h1 h2).mpr (by rw [hf]), fun b z => nomatch z⟩
theorem fu_m {m : Int} (hL : ∀ a, s ≤ a → Upto h a → L a = rlab r a) (hL' : ∀ a, s ≤ a → Upto h a → L' a = rlab r' a) (hk : r.k = some u) (hk' : r'.k = some u') (h0 : 0 < u) (h0' : 0 < u') (hs : r.s = r'.s) (hc : cnt r.w u s = cnt r'.w u' s)
    (hm : (fwi s u (off r.w u) ≠ fwi s u' (off r'.w u') ∧ m = min (fwi s u (off r.w u)) (fwi s u' (off r'.w u'))) ∨ (fwi s u (off r.w u) = fwi s u' (off r'.w u') ∧ u ≠ u' ∧ m = fwi s u (off r.w u) + min u u')) :
    (Upto h m → IsFU L L' s h (some m)) ∧ ((∃ v, h = some v ∧ v ≤ m) → IsFU L L' s h none) := @Rz _ _ (fun qz => @Hz.get _ _ (qz.bar : Hz _ (by
  clear qz
  obtain ⟨g1, g2⟩ := fwi_gt (low := s) (o := off r.w u) h0
  obtain ⟨g3, g4⟩ := fwi_gt (low := s) (o := off r'.w u') h0'
  have cmp := fun a => @fu_cmp L L' s h r r' u u' hL hL' hk hk' h0 h0' hs hc a
  generalize fwi s u (off r.w u) = f at *
  generalize fwi s u' (off r'.w u') = f' at *
  have dv : ∀ x w q : Int, 0 < w → q * w ≤ x → x < (q + 1) * w → x / w = q := fun x w q h h1 h2 => div_is h h1 h2
  have low : ∀ a, s ≤ a → a < m → Upto h a → L a = L' a := fun a h1 h2 h3 => by
    refine (cmp a h1 h3).mpr ?_
    rcases hm with ⟨hm1, hm2⟩ | ⟨hm1, hm2, hm3⟩
    · rw [dv (a - f) u (-1) h0 (by omega) (by omega), dv (a - f') u' (-1) h0' (by omega) (by omega)]
    · subst hm1
      by_cases z : a < f
      · rw [dv (a - f) u (-1) h0 (by omega) (by omega), dv (a - f) u' (-1) h0' (by omega) (by omega)]
      · rw [dv (a - f) u 0 h0 (by omega) (by omega), dv (a - f) u' 0 h0' (by omega) (by omega)]
  refine ⟨fun hu => ⟨fun z => (nomatch z), fun b z => ?_⟩, fun ⟨v, hv, hle⟩ => ⟨fun _ a h1 h2 => low a h1 (by have := h2 v hv; omega) h2, fun b z => nomatch z⟩⟩
  cases z
  have up : ∀ a, a < m → Upto h a := fun a ha v hv => by have := hu v hv; omega
  refine ⟨by omega, hu, fun z => ?_, fun a h1 h2 => low a h1 h2 (up a h2)⟩
  have z := (cmp m (by omega) hu).mp z
  rcases hm with ⟨hm1, hm2⟩ | ⟨hm1, hm2, hm3⟩
  · by_cases y : f < f'
    · rw [dv (m - f) u 0 h0 (by omega) (by omega), dv (m - f') u' (-1) h0' (by omega) (by omega)] at z
      omega
    · rw [dv (m - f) u (-1) h0 (by omega) (by omega), dv (m - f') u' 0 h0' (by omega) (by omega)] at z
      omega
  · subst hm1
    by_cases y : u < u'
    · rw [dv (m - f) u 1 h0 (by omega) (by omega), dv (m - f) u' 0 h0' (by omega) (by omega)] at z
      omega
    · rw [dv (m - f) u 0 h0 (by omega) (by omega), dv (m - f) u' 1 h0' (by omega) (by omega)] at z
      omega))) Xz.mk
end
/-- the least age at which labels are unlike -/
structure IsUnl (L L' : Int → Lb) (o : Option Int) : Prop where
  no : o = none → ∀ a, 0 ≤ a → L a = L' a
  yes : ∀ b, o = some b → 0 ≤ b ∧ L b ≠ L' b ∧ ∀ a, 0 ≤ a → a < b → L a = L' a
theorem IsUnl.uniq {L L' : Int → Lb} {o q : Option Int} (h : IsUnl L L' o) (k : IsUnl L L' q) : o = q := @Rz _ _ (fun qz => @Hz.get _ _ (qz.bar : Hz _ (by
  clear qz
  cases o with
  | none => cases q with
    | none => rfl
    | some b => obtain ⟨h1, h2, _⟩ := k.yes b rfl; exact absurd (h.no rfl b h1) h2
  | some a =>
    obtain ⟨a1, a2, a3⟩ := h.yes a rfl
    cases q with
    | none => exact absurd (k.no rfl a a1) a2
    | some b =>
      obtain ⟨b1, b2, b3⟩ := k.yes b rfl
      by_cases z : a < b
      · exact absurd (b3 a a1 z) a2
      · by_cases y : b < a
        · exact absurd (a3 b b1 y) b2
        · congr 1; omega))) Xz.mk
theorem IsUnl.symm {L L' : Int → Lb} {o : Option Int} (h : IsUnl L L' o) : IsUnl L' L o := ⟨fun z a ha => (h.no z a ha).symm, fun b z => by
  obtain ⟨h1, h2, h3⟩ := h.yes b z
  exact ⟨h1, fun y => h2 y.symm, fun a h0 h4 => (h3 a h0 h4).symm⟩⟩
theorem IsUnl.self {L : Int → Lb} : IsUnl L L none := ⟨fun _ _ _ => rfl, fun b z => nomatch z⟩
end
section
open PySem L2
def lend : Option Int → Option Int → Option Int
  | none, b => b
  | a, none => a
  | some a, some b => some (min a b)
theorem upto_lend {a b : Option Int} {x : Int} : Upto (lend a b) x ↔ Upto a x ∧ Upto b x := @Rz _ _ (fun qz => @Hz.get _ _ (qz.bar : Hz _ (by
  clear qz
  unfold Upto
  cases a <;> cases b <;> simp [lend] <;> omega))) Xz.mk
section
variable {T : Tab} {P : Out → List Cell → Prop} {PX : Nat → List D → List Cell → Prop} {s sto : List Cell} {rs qs : List Rw} {r r' : Rw} {a : Int} {h h' : Option Int}
local macro_rules | `(tactic| walk_at "w") => `(tactic| repeat' first
  | fail "a1p"
  | (with_reducible refine' Ix_id ?s1 ?_; (case s1 => with_unfolding_all exact rfl))
  | (with_reducible refine' Il_id ?s1 ?s2 ?_; (case s1 => with_unfolding_all exact rfl); (case s2 => assumption))
  | (with_reducible refine' V_pop ?s1 ?s2 ?_; (case s1 => with_unfolding_all exact rfl); (case s2 => assumption))
  | (with_reducible refine C_isnTup ?_)
  | (with_reducible refine C_isTup ?_)
  | (with_reducible refine C_neSt0 ?_)
  | (with_reducible refine C_eqSt0 ?_)
  | (with_reducible refine C_eqOI ?_)
  | (with_reducible refine C_neOI ?_)
  | (with_reducible refine C_isO ?_)
  | (with_reducible refine C_isnO ?_)
  | fail "a2")
theorem lesser_end_is : p_lesser_end [optD h, optD h'] sto = .ret (.val (optD (lend h h'))) sto := @Rz _ _ (fun qz => @Hz.get _ _ (qz.bar : Hz _ (by
  clear qz
  refine fx_eq (fx_allK rfl (env := [.val (optD h), .val (optD h')]) rfl fun K hret _ _ => ?_)
  unfold b_lesser_end
  cases h <;> cases h' <;> (walk_at "w"; exact hret _ _ ⟨rfl, rfl⟩)))) Xz.mk
theorem C_lend (hT : T.phi 69 = p_lesser_end) (k : P (.val (optD (lend h h'))) s) : (T.phi 69 [optD h, optD h'] s).all P PX := by
  rw [hT]; exact all_of_eq lesser_end_is k
end
section
variable {T : Tab} {P : Out → List Cell → Prop} {PX : Nat → List D → List Cell → Prop} {s sto : List Cell} {rs qs : List Rw} {r r' : Rw} {a : Int} {h h' : Option Int}
local macro_rules | `(tactic| walk_at "w") => `(tactic| repeat' first
  | fail "a1p"
  | (with_reducible refine' Ix_id ?s1 ?_; (case s1 => with_unfolding_all exact rfl))
  | (with_reducible refine' Il_id ?s1 ?s2 ?_; (case s1 => with_unfolding_all exact rfl); (case s2 => assumption))
  | (with_reducible refine' V_pop ?s1 ?s2 ?_; (case s1 => with_unfolding_all exact rfl); (case s2 => assumption))
  | (with_reducible refine C_isnTup ?_)
  | (with_reducible refine C_isTup ?_)
  | (with_reducible refine C_neSt0 ?_)
  | (with_reducible refine C_eqSt0 ?_)
  | (with_reducible refine C_eqOI ?_)
  | (with_reducible refine C_neOI ?_)
  | (with_reducible refine C_isO ?_)
  | (with_reducible refine C_isnO ?_)
  | (with_reducible refine' At_uS ?s1 ?s2 ?_; (case s1 => with_unfolding_all exact rfl); (case s2 => assumption))
  | (with_reducible refine' C_label ?s1 ?s2 ?s3 ?s4 ?_; (case s1 => with_unfolding_all exact rfl); (case s2 => assumption); (case s3 => omega); (case s4 => omega))
  | (with_reducible refine' C_fwi ?s1 ?s2 ?_; (case s1 => with_unfolding_all exact rfl); (case s2 => omega))
  | (with_reducible refine' C_offset ?s1 ?_; (case s1 => with_unfolding_all exact rfl))
  | (with_reducible refine' C_neLb ?s1 ?s2 ?_; (case s1 => first | assumption | exact lab_ok _ (by assumption)); (case s2 => first | assumption | exact lab_ok _ (by assumption)))
  | (with_reducible refine Of_id ?_)
  | fail "a2")
theorem first_unlike_is (hw : WOk rs) (hs : SOk rs) (hw' : WOk qs) (hs' : SOk qs) (h0 : 0 ≤ a) (h1 : a < 1000000000000000000000000000000000000000000000000000000000000) (hu : Upto h a) (hN : RwN 1000000000000000000000000000000000000000000000000000000000000 r) (hN' : RwN 1000000000000000000000000000000000000000000000000000000000000 r')
    (hL : ∀ x, a ≤ x → Upto h x → lab rs x = rlab r x) (hL' : ∀ x, a ≤ x → Upto h x → lab qs x = rlab r' x) :
    (p_first_unlike [wgD rs, wgD qs, .tup [rwD r, rwD r'], .tup [.int a, optD h]] sto).all (fun o s => s = sto ∧ ∃ e, o = .val (optD e) ∧ IsFU (lab rs) (lab qs) a h e) (fun _ _ _ => False) := @Rz _ _ (fun qz => @Hz.get _ _ (qz.bar : Hz _ (by
  clear qz
  refine fx_allK rfl (env := [.val (wgD rs), .val (wgD qs), .val (.tup [rwD r, rwD r']), .val (.tup [.int a, optD h]), .un, .un, .un, .un, .un, .un, .un, .un]) rfl fun K hret _ _ => ?_
  have hr := fun (e : Option Int) fr (z : fr.sto = sto) (i : IsFU (lab rs) (lab qs) a h e) => hret (.val (optD e)) fr ⟨z, e, rfl, i⟩
  unfold b_first_unlike
  by_cases hne : lab rs a = lab qs a
  · cases hk : r.k with
    | none =>
      walk_at "w"
      exact hr none _ rfl (fu_none hL hL' hu hne hk)
    | some u =>
      obtain ⟨u', hk', hss, hc⟩ := fu_both hL hL' hu hne hk
      have u0 := (hN u hk).1
      have u0' := (hN' u' hk').1
      walk_at "w"
      · rename_i z
        rw [hk] at z
        cases z
      refine A_compM (α := Rw) (AI_seq ?_)
      refine AD_V (V_slot rfl ?_)
      refine ⟨_, rfl, rwD, [r, r'], fun x => .int (fwi a (x.k.getD 1) (off x.w (x.k.getD 1))), rfl, rfl, rfl, by show 2 ≤ 16777216; decide, fun x acc hx => ⟨_, rfl, rfl, ?_⟩, ?_⟩
      · obtain ⟨v, hv, v0⟩ : ∃ v, x.k = some v ∧ 0 < v := by
          have hx : x = r ∨ x = r' := by simpa using hx
          rcases hx with rfl | rfl
          · exact ⟨u, hk, u0⟩
          · exact ⟨u', hk', u0'⟩
        cases x with | mk xd xw xk xs =>
        cases hv
        walk_at "w"
        refine C_offset (u := v) (by with_unfolding_all exact rfl) ?_
        refine isD_val ?_
        walk_at "w"
        refine C_fwi (u := v) (by with_unfolding_all exact rfl) v0 ?_
        refine isD_val ?_
        exact ⟨rfl, rfl⟩
      rw [show ([r, r'].map fun x => D.int (fwi a (x.k.getD 1) (off x.w (x.k.getD 1)))) = [.int (fwi a u (off r.w u)), .int (fwi a u' (off r'.w u'))] by
        simp only [List.map_cons, List.map_nil, hk, hk', Option.getD_some]]
      have M := fun m => @fu_m _ _ a h r r' u u' m hL hL' hk hk' u0 u0' hss hc
      have S : fwi a u (off r.w u) = fwi a u' (off r'.w u') → u = u' → IsFU (lab rs) (lab qs) a h none := fun e1 e2 => by
        subst e2
        exact fu_same hL hL' hk hk' u0 hss hc e1
      clear hc
      by_cases hf : fwi a u (off r.w u) = fwi a u' (off r'.w u')
      · cases h with
        | none =>
          walk_at "w"
          rw [hk, hk']
          refine L_minM (x := u) (y := u') ?_
          walk_at "w"
          rw [hk, hk']
          by_cases huu : u = u'
          · refine C_eqIt huu ?_
            walk_at "w"
            exact hr none _ rfl (S hf huu)
          · refine C_eqIf huu ?_
            walk_at "w"
            exact hr (some _) _ rfl ((M _ (.inr ⟨hf, huu, rfl⟩)).1 (fun v z => nomatch z))
        | some v =>
          walk_at "w"
          rw [hk, hk']
          refine L_minM (x := u) (y := u') ?_
          walk_at "w"
          rw [hk, hk']
          by_cases huu : u = u'
          · refine C_eqIt huu ?_
            walk_at "w"
            exact hr none _ rfl (S hf huu)
          · refine C_eqIf huu ?_
            walk_at "w"
            · exact hr (some _) _ rfl ((M _ (.inr ⟨hf, huu, rfl⟩)).1 (fun v z => by cases z; assumption))
            · exact hr none _ rfl ((M _ (.inr ⟨hf, huu, rfl⟩)).2 ⟨v, rfl, by omega⟩)
      · cases h with
        | none =>
          walk_at "w"
          exact hr (some _) _ rfl ((M _ (.inl ⟨hf, rfl⟩)).1 (fun v z => nomatch z))
        | some v =>
          walk_at "w"
          · exact hr (some _) _ rfl ((M _ (.inl ⟨hf, rfl⟩)).1 (fun v z => by cases z; assumption))
          · exact hr none _ rfl ((M _ (.inl ⟨hf, rfl⟩)).2 ⟨v, rfl, by omega⟩)
  · walk_at "w"
    exact hr (some a) _ rfl (fu_start hu hne)))) Xz.mk
end
end
section
open PySem L2
/-- alike in one stretch up to an age -/
def Don (L L' : Int → Lb) (l : Int) (h w : Option Int) : Prop := ∀ a, l ≤ a → Upto h a → Upto w a → L a = L' a
theorem upto_none {a : Int} : Upto none a := fun v z => nomatch z
theorem upto_some {a v : Int} : Upto (some v) a ↔ a < v := ⟨fun h => h v rfl, fun h w z => by cases z; exact h⟩
theorem don_in {L L' : Int → Lb} {l b : Int} {h h' : Option Int} (d : Don L L' l h (some b)) (f : IsFU L L' (max l b) (lend h h') none) : Don L L' l h h' := fun a h1 h2 h3 => by
  by_cases z : a < b
  · exact d a h1 h2 (upto_some.mpr z)
  · exact f.no rfl a (by omega) (upto_lend.mpr ⟨h2, h3⟩)
theorem don_out {L L' : Int → Lb} {l b : Int} {h h' : Option Int} (d : Don L L' l h (some b)) (f : ¬ Upto (lend h h') (max l b)) : Don L L' l h h' := fun a h1 h2 h3 => by
  by_cases z : a < b
  · exact d a h1 h2 (upto_some.mpr z)
  · exact absurd (fun v e => by have := (upto_lend.mpr ⟨h2, h3⟩) v e; omega) f
theorem don_yes {L L' : Int → Lb} {l b e : Int} {h h' : Option Int} (h0 : 0 ≤ l) (o : ∀ a, 0 ≤ a → a < l → L a = L' a) (d : Don L L' l h (some b)) (f : IsFU L L' (max l b) (lend h h') (some e)) : IsUnl L L' (some e) := ⟨fun z => (nomatch z), fun c z => by
  cases z
  obtain ⟨f1, f2, f3, f4⟩ := f.yes e rfl
  refine ⟨by omega, f3, fun a g1 g2 => ?_⟩
  by_cases z : a < l
  · exact o a g1 z
  · by_cases y : a < b
    · refine d a (by omega) (fun v hv => ?_) (upto_some.mpr y)
      have := (upto_lend.mp f2).1 v hv
      omega
    · exact f4 a (by omega) g2⟩
section
variable {T : Tab} {P : Out → List Cell → Prop} {PX : Nat → List D → List Cell → Prop} {s sto : List Cell} {rs qs : List Rw} {r r' : Rw} {a : Int} {h h' : Option Int}
theorem C_funl (hT : T.phi 70 = p_first_unlike) (hw : WOk rs) (hs : SOk rs) (hw' : WOk qs) (hs' : SOk qs) (h0 : 0 ≤ a) (h1 : a < 1000000000000000000000000000000000000000000000000000000000000) (hu : Upto h a) (hN : RwN 1000000000000000000000000000000000000000000000000000000000000 r) (hN' : RwN 1000000000000000000000000000000000000000000000000000000000000 r')
    (hL : ∀ x, a ≤ x → Upto h x → lab rs x = rlab r x) (hL' : ∀ x, a ≤ x → Upto h x → lab qs x = rlab r' x) (k : ∀ e, IsFU (lab rs) (lab qs) a h e → P (.val (optD e)) s) :
    (T.phi 70 [wgD rs, wgD qs, .tup [rwD r, rwD r'], .tup [.int a, optD h]] s).all P PX := @Rz _ _ (fun qz => @Hz.get _ _ (qz.bar : Hz _ (by
  clear qz
  rw [hT]
  refine fx_imp (first_unlike_is hw hs hw' hs' h0 h1 hu hN hN' hL hL') (fun o s h => ?_) fun _ _ _ z => z.elim
  obtain ⟨rfl, e, rfl, h1⟩ := h
  exact k e h1))) Xz.mk
theorem C_lendE {e : Option Int} (hT : T.phi 69 = p_lesser_end) (he : lend h h' = e) (k : P (.val (optD e)) s) : (T.phi 69 [optD h, optD h'] s).all P PX := C_lend hT (by rw [he]; exact k)
local macro_rules | `(tactic| walk_at "w") => `(tactic| repeat' first
  | fail "a1p"
  | (with_reducible refine' Ix_id ?s1 ?_; (case s1 => with_unfolding_all exact rfl))
  | (with_reducible refine' Il_id ?s1 ?s2 ?_; (case s1 => with_unfolding_all exact rfl); (case s2 => assumption))
  | (with_reducible refine' V_pop ?s1 ?s2 ?_; (case s1 => with_unfolding_all exact rfl); (case s2 => assumption))
  | (with_reducible refine C_isnTup ?_)
  | (with_reducible refine C_isTup ?_)
  | (with_reducible refine C_neSt0 ?_)
  | (with_reducible refine C_eqSt0 ?_)
  | (with_reducible refine C_eqOI ?_)
  | (with_reducible refine C_neOI ?_)
  | (with_reducible refine C_isO ?_)
  | (with_reducible refine C_isnO ?_)
  | (with_reducible refine' C_rages ?s1 ?s2 ?_; (case s1 => with_unfolding_all exact rfl); (case s2 => assumption))
  | (with_reducible refine' C_lendE ?s1 ?s2 ?_; (case s1 => with_unfolding_all exact rfl); (case s2 => assumption))
  | fail "a2")
theorem alike_is (hw : WOk rs) (hs : SOk rs) (hw' : WOk qs) (hs' : SOk qs) : (p_alike [wgD rs, wgD qs] sto).all (fun o s => s = sto ∧ ∃ e, o = .val (optD e) ∧ IsUnl (lab rs) (lab qs) e) (fun _ _ _ => False) := @Rz _ _ (fun qz => @Hz.get _ _ (qz.bar : Hz _ (by
  clear qz
  refine fx_allK rfl (env := [.val (wgD rs), .val (wgD qs), .un, .un, .un, .un, .un, .un, .un, .un, .un]) rfl fun K hret _ _ => ?_
  unfold b_alike
  walk_at "w"
  with_reducible refine X_forLK (α := Sg) (AI_zip ?_)
  walk_at "w"
  refine ⟨_, _, rfl, rfl, sgD, sg 0 rs, fun t fr => ∃ s2 s3 s4 s5 s6 s7 s8 s9 s10, (t = [] ∧ (∀ a, 0 ≤ a → lab rs a = lab qs a) ∨ ∃ low, SegOk 1000000000000000000000000000000000000000000000000000000000000 (lab rs) low t ∧ ∀ a, 0 ≤ a → a < low → lab rs a = lab qs a) ∧ fr = ⟨[.val (wgD rs), .val (wgD qs), s2, s3, s4, s5, s6, s7, s8, s9, s10], sto⟩,
    zip_sg rs 0, ⟨_, _, _, _, _, _, _, _, _, .inr ⟨0, seg_ok hw.1, fun b h1 h2 => by omega⟩, rfl⟩, ?_, ?_⟩
  · rintro ⟨l, h, r⟩ t fr ⟨s2, s3, s4, s5, s6, s7, s8, s9, s10, h1, rfl⟩
    rcases h1 with ⟨h1, _⟩ | ⟨low, h1, hE⟩
    · cases h1
    obtain ⟨rfl, g2, g3, g4, g5, g6, g7⟩ := h1
    have ht : Don (lab rs) (lab qs) l h none → t = [] ∧ (∀ a, 0 ≤ a → lab rs a = lab qs a) ∨ ∃ low, SegOk 1000000000000000000000000000000000000000000000000000000000000 (lab rs) low t ∧ ∀ a, 0 ≤ a → a < low → lab rs a = lab qs a := fun z => by
      have q : ∀ a, 0 ≤ a → Upto h a → lab rs a = lab qs a := fun a h0 hu => by
        by_cases y : a < l
        · exact hE a h0 y
        · exact z a (by omega) hu upto_none
      cases h with
      | none => exact .inl ⟨g7, fun b hb => q b hb upto_none⟩
      | some v => exact .inr ⟨v, g7.2, fun b hb hb2 => q b hb (upto_some.mpr hb2)⟩
    clear g5 g7
    refine ⟨_, rfl, fun K' kp => ?_⟩
    refine XS_norm (env := [.val (wgD rs), .val (wgD qs), .val (rwD r), .val (.int l), .val (optD h), s5, s6, s7, s8, s9, s10]) rfl rfl ?_
    walk_at "w"
    with_reducible refine X_forLK (α := Sg) (AI_zip ?_)
    walk_at "w"
    refine ⟨_, _, rfl, rfl, sgD, sg 0 qs, fun t' fr => ∃ s5 s6 s7 s8 s9 s10, (t' = [] ∧ Don (lab rs) (lab qs) l h none ∨ ∃ low, SegOk 1000000000000000000000000000000000000000000000000000000000000 (lab qs) low t' ∧ Don (lab rs) (lab qs) l h (some low)) ∧ fr = ⟨[.val (wgD rs), .val (wgD qs), .val (rwD r), .val (.int l), .val (optD h), s5, s6, s7, s8, s9, s10], sto⟩,
      zip_sg qs 0, ⟨_, _, _, _, _, _, .inr ⟨0, seg_ok hw'.1, fun b h1 h2 h3 => by have := upto_some.mp h3; omega⟩, rfl⟩, ?_, ?_⟩
    · rintro ⟨b, h', r'⟩ t' fr ⟨s5, s6, s7, s8, s9, s10, h1, rfl⟩
      rcases h1 with ⟨h1, _⟩ | ⟨low, h1, hD⟩
      · cases h1
      obtain ⟨rfl, e2, e3, e4, e5, e6, e7⟩ := h1
      have ht' : Don (lab rs) (lab qs) l h h' → t' = [] ∧ Don (lab rs) (lab qs) l h none ∨ ∃ low, SegOk 1000000000000000000000000000000000000000000000000000000000000 (lab qs) low t' ∧ Don (lab rs) (lab qs) l h (some low) := fun z => by
        cases h' with
        | none => exact .inl ⟨e7, z⟩
        | some v => exact .inr ⟨v, e7.2, z⟩
      clear e5 e7
      refine ⟨_, rfl, fun K2 kp2 => ?_⟩
      refine XS_norm (env := [.val (wgD rs), .val (wgD qs), .val (rwD r), .val (.int l), .val (optD h), .val (rwD r'), .val (.int b), .val (optD h'), s8, s9, s10]) rfl rfl ?_
      have hnx := fun z s8 s9 s10 => kp2.next ⟨[.val (wgD rs), .val (wgD qs), .val (rwD r), .val (.int l), .val (optD h), .val (rwD r'), .val (.int b), .val (optD h'), s8, s9, s10], sto⟩ ⟨_, _, _, _, _, _, ht' z, rfl⟩
      have hrt := fun e z fr (y : fr.sto = sto) => kp2.ret _ _ (kp.ret _ _ (hret (.val (optD (some e))) fr ⟨y, _, rfl, don_yes (h' := h') g2 hE hD z⟩))
      have hin := fun z => hnx (don_in hD z)
      have hout := fun z => hnx (don_out hD z)
      have hL1 : ∀ x, max l b ≤ x → Upto (lend h h') x → lab rs x = rlab r x := fun x h1 h2 => g6 x (by omega) (upto_lend.mp h2).1
      have hL2 : ∀ x, max l b ≤ x → Upto (lend h h') x → lab qs x = rlab r' x := fun x h1 h2 => e6 x (by omega) (upto_lend.mp h2).2
      have m0 : 0 ≤ max l b := by omega
      have m1 : max l b < 1000000000000000000000000000000000000000000000000000000000000 := by omega
      clear hD hE ht ht' kp kp2 hret hnx g6 e6
      generalize he : lend h h' = e at *
      cases e with
      | none =>
        walk_at "w"
        refine C_funl (by with_unfolding_all exact rfl) hw hs hw' hs' m0 m1 upto_none g4 e4 hL1 hL2 fun e ie => ?_
        refine isS_val ?_
        cases e with
        | none =>
          walk_at "w"
          exact hin ie _ _ _
        | some e =>
          walk_at "w"
          exact hrt _ ie _ rfl
      | some v =>
        by_cases hv : max l b < v
        · walk_at "w"
          refine C_funl (by with_unfolding_all exact rfl) hw hs hw' hs' m0 m1 (upto_some.mpr hv) g4 e4 hL1 hL2 fun e ie => ?_
          refine isS_val ?_
          cases e with
          | none =>
            walk_at "w"
            exact hin ie _ _ _
          | some e =>
            walk_at "w"
            exact hrt _ ie _ rfl
        · walk_at "w"
          exact hout (fun z => hv (upto_some.mp z)) _ _ _
    · rintro fr ⟨s5, s6, s7, s8, s9, s10, h1, rfl⟩
      rcases h1 with ⟨_, h1⟩ | ⟨low, h1, _⟩
      · exact kp.next _ ⟨_, _, _, _, _, _, _, _, _, ht h1, rfl⟩
      · exact h1.elim
  · rintro fr ⟨s2, s3, s4, s5, s6, s7, s8, s9, s10, h1, rfl⟩
    rcases h1 with ⟨_, h1⟩ | ⟨low, h1, _⟩
    · walk_at "w"
      exact hret _ _ ⟨rfl, none, rfl, ⟨fun _ => h1, fun b z => nomatch z⟩⟩
    · exact h1.elim))) Xz.mk
theorem C_alike (hT : T.phi 68 = p_alike) (hw : WOk rs) (hs : SOk rs) (hw' : WOk qs) (hs' : SOk qs) (k : ∀ e, IsUnl (lab rs) (lab qs) e → P (.val (optD e)) s) : (T.phi 68 [wgD rs, wgD qs] s).all P PX := @Rz _ _ (fun qz => @Hz.get _ _ (qz.bar : Hz _ (by
  clear qz
  rw [hT]
  refine fx_imp (alike_is hw hs hw' hs') (fun o s h => ?_) fun _ _ _ z => z.elim
  obtain ⟨rfl, e, rfl, h1⟩ := h
  exact k e h1))) Xz.mk
end
end
section
open PySem L2
/- law_rows_v2 : 449 (_law_pen_here, _law_most, _law_words, _law_rows_here, _law_before, _law_many, _law_k, _law_unit, _law_word) -/
def b_law_rows_v2 : List Stm := [.par [3, 4, 5] [.lst [], .int 0, .bin .add (.int 1) (.call 201 [.slot 0, .slot 1])], .for_ (.slot 6) (.range1 (.slot 5)) [.asg (.slot 4) (.bin .add (.bin .add (.slot 4) (.int 1)) (.call 422 [.slot 0])), .asg (.slot 7) (.call 202 [.slot 0, .lst [.non, .int 1, .int 2, .int 3, .bin .add (.int 1) (.call 201 [.slot 0, .int 8]), .bin .add (.int 1) (.call 201 [.slot 0, .int 30])]]), .asg (.slot 8) (.ite (.cmp .eq (.slot 2) (.lst [])) (.ix (.lst [.str "now", .str "s", .str "m", .str "h", .str "d", .str "w"]) (.slot 6)) (.call 202 [.slot 0, .slot 2])), .append 3 (.tup [.ite (.cmp .eq (.slot 6) (.bin .sub (.slot 5) (.int 1))) .non (.slot 4), .slot 7, .call 203 [.slot 0], .slot 8])], .ret (.slot 3)]
noncomputable def T_law_rows_v2 : Tab := { ((((T0.add 201 p_draw).add 202 p_pick).add 203 p_way).add 422 p_law_number) with psi := psiT [], fld := fldT [] }
noncomputable def p_law_rows_v2 : Fn := fx T_law_rows_v2 3 9 b_law_rows_v2
end
section
open PySem L2
/- law_bent_v2 : 310 (_law_pen_here, _law_rows_here, _law_k, _law_sort, _law_until, _law_unit, _law_way_here, _law_word, _law_low) -/
def b_law_bent_v2 : List Stm := [.par [2, 3] [.call 201 [.slot 0, .bi .len [.slot 1]], .call 201 [.slot 0, .int 4]], .asg (.tup [.slot 4, .slot 5, .slot 6, .slot 7]) (.ix (.slot 1) (.slot 2)), .asg (.slot 8) (.ite (.cmp .gt (.slot 2) (.int 0)) (.ix (.ix (.slot 1) (.bin .sub (.slot 2) (.int 1))) (.int 0)) (.int 0)), .ite (.cmp .eq (.slot 3) (.int 0)) [.asg (.slot 5) (.call 202 [.slot 0, .lst [.non, .bin .add (.int 1) (.call 201 [.slot 0, .int 30]), .ite (.cmp .is_ (.slot 5) .non) (.int 2) (.bin .add (.slot 5) (.int 1))]])] [], .ite (.cmp .eq (.slot 3) (.int 1)) [.asg (.slot 6) (.call 203 [.slot 0])] [], .ite (.cmp .eq (.slot 3) (.int 2)) [.asg (.slot 7) (.call 202 [.slot 0, .lst [.str "s", .str "m", .str "h"]])] [], .ite (.and_ (.cmp .eq (.slot 3) (.int 3)) (.cmp .isn (.slot 4) .non)) [.asg (.slot 4) (.bin .add (.bin .add (.slot 8) (.int 1)) (.call 201 [.slot 0, .bin .sub (.slot 4) (.slot 8)]))] [], .ret (.bin .add (.bin .add (.slice (.slot 1) none (some (.slot 2))) (.lst [.tup [.slot 4, .slot 5, .slot 6, .slot 7]])) (.slice (.slot 1) (some (.bin .add (.slot 2) (.int 1))) none))]
noncomputable def T_law_bent_v2 : Tab := { (((T0.add 201 p_draw).add 202 p_pick).add 203 p_way) with psi := psiT [], fld := fldT [] }
noncomputable def p_law_bent_v2 : Fn := fx T_law_bent_v2 2 9 b_law_bent_v2
/- law_first_unlike : 355 (_law_one, _law_other, _law_untils, _law_counted, _law_age, _law_row) -/
def b_law_first_unlike : List Stm := [.asg (.slot 2) (.comp (.ix (.slot 5) (.int 0)) (.slot 5) (.seq (.bin .add (.slot 0) (.slot 1))) (some (.cmp .isn (.ix (.slot 5) (.int 0)) .non)) [5]), .asg (.slot 3) (.comp (.ix (.slot 5) (.int 1)) (.slot 5) (.seq (.bin .add (.slot 0) (.slot 1))) (some (.cmp .isn (.ix (.slot 5) (.int 1)) .non)) [5]), .for_ (.slot 4) (.range1 (.bin .add (.bin .add (.bi .max1 [.bin .add (.slot 2) (.lst [.int 0])]) (.bin .mul (.int 3) (.bi .max1 [.bin .add (.slot 3) (.lst [.int 1])]))) (.int 2))) [.ite (.cmp .ne (.call 396 [.slot 0, .slot 4]) (.call 396 [.slot 1, .slot 4])) [.ret (.slot 4)] []], .ret .non]
noncomputable def T_law_first_unlike : Tab := { (T0.add 396 p_law_label) with psi := psiT [], fld := fldT [] }
noncomputable def p_law_first_unlike : Fn := fx T_law_first_unlike 2 6 b_law_first_unlike
/- law_split : 475 (_law_pen_here, _law_rows_here, _law_k, _law_low, _law_until, _law_unit, _law_way_here, _law_word, _law_at) -/
def b_law_split : List Stm := [.asg (.slot 2) (.call 201 [.slot 0, .bi .len [.slot 1]]), .asg (.slot 3) (.ite (.cmp .gt (.slot 2) (.int 0)) (.ix (.ix (.slot 1) (.bin .sub (.slot 2) (.int 1))) (.int 0)) (.int 0)), .asg (.tup [.slot 4, .slot 5, .slot 6, .slot 7]) (.ix (.slot 1) (.slot 2)), .ite (.and_ (.cmp .isn (.slot 4) .non) (.cmp .lt (.slot 4) (.bin .add (.slot 3) (.int 2)))) [.ret (.slot 1)] [], .asg (.slot 8) (.bin .add (.bin .add (.slot 3) (.int 1)) (.call 201 [.slot 0, .ite (.cmp .is_ (.slot 4) .non) (.int 40) (.bin .sub (.bin .sub (.slot 4) (.slot 3)) (.int 1))])), .ret (.bin .add (.bin .add (.slice (.slot 1) none (some (.slot 2))) (.lst [.tup [.slot 8, .slot 5, .slot 6, .slot 7], .tup [.slot 4, .slot 5, .slot 6, .slot 7]])) (.slice (.slot 1) (some (.bin .add (.slot 2) (.int 1))) none))]
noncomputable def T_law_split : Tab := { (T0.add 201 p_draw) with psi := psiT [], fld := fldT [] }
noncomputable def p_law_split : Fn := fx T_law_split 2 9 b_law_split
end
section
open PySem L2
section
local macro_rules | `(tactic| walk_at "w") => `(tactic| repeat' first
  | (with_reducible refine V_ixLst ?_)
  | fail "a1"
  | (with_reducible refine' Ix_id ?s1 ?_; (case s1 => with_unfolding_all exact rfl))
  | (with_reducible refine' Il_id ?s1 ?s2 ?_; (case s1 => with_unfolding_all exact rfl); (case s2 => assumption))
  | (with_reducible refine' V_pop ?s1 ?s2 ?_; (case s1 => with_unfolding_all exact rfl); (case s2 => assumption))
  | (with_reducible refine C_isnTup ?_)
  | (with_reducible refine C_isTup ?_)
  | (with_reducible refine C_neSt0 ?_)
  | (with_reducible refine C_eqSt0 ?_)
  | (with_reducible refine C_eqOI ?_)
  | (with_reducible refine C_neOI ?_)
  | (with_reducible refine C_isO ?_)
  | (with_reducible refine C_isnO ?_)
  | (with_reducible refine' C_draw ?s1 ?s2 ?s3 ?s4 ?s5 ?_; (case s1 => with_unfolding_all exact rfl); (case s2 => assumption); (case s3 => omega); (case s4 => omega); (case s5 => omega); intro r s' hr0 hr1 hp)
  | (with_reducible refine' C_number ?s1 ?s2 ?s3 ?_; (case s1 => with_unfolding_all exact rfl); (case s2 => assumption); (case s3 => omega); intro n s' hn0 hn1 hp)
  | (with_reducible refine' C_way ?s1 ?s2 ?s3 ?_; (case s1 => with_unfolding_all exact rfl); (case s2 => assumption); (case s3 => omega); intro w s' hw hp)
  | (with_reducible refine' C_eqStrs0T ?s1 ?s2 ?_; (case s1 => assumption); (case s2 => assumption))
  | (with_reducible refine' C_eqStrs0F ?s1 ?s2 ?_; (case s1 => assumption); (case s2 => assumption))
  | fail "a2")
theorem law_rows2_is {ws : List Str} {m : Int} {s : List Cell} {B : Int} (hm : 0 < m ∧ m ≤ 6) (hws : (ws.all PyData.strOk) = true) (hp : Pn B s) (hB : B < 10000000000000000000000000000) (hlen : ws.length < 1000) :
    (p_law_rows_v2 [.cell 0, .int m, .lst (ws.map D.str)] s).all (fun o s' => ∃ rs, o = .fresh (rs.map rtD) ∧ Drawn 2000 ws rs ∧ Pn (B + 200) s') (fun _ _ _ => False) := @Rz _ _ (fun qz => @Hz.get _ _ (qz.bar : Hz _ (by
  clear qz
  refine fx_all rfl (env := [.val (.cell 0), .val (.int m), .val (.lst (ws.map D.str)), .un, .un, .un, .un, .un, .un]) rfl ?_
  unfold b_law_rows_v2
  walk_at "w"
  rename_i r0 s0 hr0 hr1 hp0
  with_reducible refine X_forI (AI_range1V ?_)
  walk_at "w"
  generalize hM : 1 + r0 = M
  refine ⟨⟨by omega, by omega⟩, fun i fr => ∃ rs e s4 s6 s7 s8 st, Dr M ws i e rs ∧ Pn (B + 1 + 20 * i) st ∧ ((i : Int) < M → s4 = .val (.int e)) ∧ fr = ⟨[.val (.cell 0), .val (.int m), .val (.lst (ws.map D.str)), .own (rs.map rtD), s4, .val (.int M), s6, s7, s8], st⟩,
    ⟨[], 0, _, _, _, _, _, ⟨rfl, fun _ => ⟨rfl, by omega, by omega⟩, fun z => by omega, fun r h => (nomatch h), fun _ i r h => (by cases i <;> cases h), fun r h => nomatch h⟩, hp0.mono (by omega), fun _ => rfl, rfl⟩, ?_, ?_⟩
  · rintro i x fr hx ⟨rs, e, s4, s6, s7, s8, st, hD, hpn, h4, rfl⟩
    obtain ⟨hi, rfl⟩ := range_at hx
    have hiM : (i : Int) < M := by omega
    cases h4 hiM
    have hlen2 : (rs.map rtD).length < 16777216 := by rw [List.length_map, hD.len]; omega
    obtain ⟨hc1, hc2, hc3⟩ := hD.chn hiM
    refine ⟨_, rfl, ?_⟩
    walk_at "w"
    rename_i n s1 hn0 hn1 hp1 r1 s2 ha1 hb1 hp2 r2 s3 ha2 hb2 hp3
    refine C_pick rfl hp3 (by omega) (by simp) (by simp) (fun x s4 hx hp4 => ?_)
    obtain ⟨k, rfl, hk⟩ := unit_of hx ⟨ha1, hb1⟩ ⟨ha2, hb2⟩
    clear hx
    have fin : ∀ (u k : Option Int) (w x : Str) (B' : Int) (s' : List Cell) (s6 s7 s8 : Slot), Pn B' s' → B' ≤ B + 1 + 20 * ((i + 1 : Nat) : Int) → (u = if (i : Int) = M - 1 then none else some (e + 1 + n)) → (∀ v, k = some v → 0 < v ∧ v < 2000) → Way w →
        (ws = [] → (stW[i]? = some x) ∨ ∃ p, rs.getLast? = some p ∧ k = p.k ∧ w = p.w ∧ x = p.s) → (¬ ws = [] → x ∈ ws) →
        ∃ rs' e' s4' s6' s7' s8' st', Dr M ws (i + 1) e' rs' ∧ Pn (B + 1 + 20 * ((i + 1 : Nat) : Int)) st' ∧ (((i + 1 : Nat) : Int) < M → s4' = .val (.int e')) ∧
          (⟨[.val (.cell 0), .val (.int m), .val (.lst (ws.map D.str)), .own (rs.map rtD ++ [.tup [optD u, optD k, .str w, .str x]]), .val (.int (e + 1 + n)), .val (.int M), s6, s7, s8], s'⟩ : Fr) = ⟨[.val (.cell 0), .val (.int m), .val (.lst (ws.map D.str)), .own (rs'.map rtD), s4', .val (.int M), s6', s7', s8'], st'⟩ :=
      fun u k w x B' s' s6 s7 s8 hp hb hu hk hw h1 h2 => ⟨rs ++ [⟨u, k, w, x⟩], e + 1 + n, .val (.int (e + 1 + n)), s6, s7, s8, s', hD.step (r := ⟨u, k, w, x⟩) hiM (by omega) ⟨hn0, hn1⟩ hu hk hw h1 h2, hp.mono hb, fun _ => rfl, by rw [List.map_append]; rfl⟩
    by_cases hw0 : ws = []
    · by_cases hlast : 0 + (i : Int) = M - 1
      · walk_at "w"
        refine Ix_stW (by omega) (fun x hx => ?_)
        walk_at "w"
        rename_i w _ hw hp
        exact fin none k w x _ _ _ _ _ hp (by omega) (by rw [if_pos (by omega)]) hk hw (fun _ => .inl hx) (fun z => absurd hw0 z)
      · walk_at "w"
        refine Ix_stW (by omega) (fun x hx => ?_)
        walk_at "w"
        rename_i w _ hw hp
        exact fin (some (e + 1 + n)) k w x _ _ _ _ _ hp (by omega) (by rw [if_neg (by omega)]) hk hw (fun _ => .inl hx) (fun z => absurd hw0 z)
    · by_cases hlast : 0 + (i : Int) = M - 1
      · walk_at "w"
        refine C_pick rfl hp4 (by omega) (fun z => hw0 (List.map_eq_nil_iff.mp z)) (by rw [List.length_map]; omega) (fun x s5 hx hp5 => ?_)
        obtain ⟨x, hxm, rfl⟩ := List.mem_map.mp hx
        walk_at "w"
        rename_i w _ hw hp
        exact fin none k w x _ _ _ _ _ hp (by omega) (by rw [if_pos (by omega)]) hk hw (fun z => absurd z hw0) (fun _ => hxm)
      · walk_at "w"
        refine C_pick rfl hp4 (by omega) (fun z => hw0 (List.map_eq_nil_iff.mp z)) (by rw [List.length_map]; omega) (fun x s5 hx hp5 => ?_)
        obtain ⟨x, hxm, rfl⟩ := List.mem_map.mp hx
        walk_at "w"
        rename_i w _ hw hp
        exact fin (some (e + 1 + n)) k w x _ _ _ _ _ hp (by omega) (by rw [if_neg (by omega)]) hk hw (fun z => absurd z hw0) (fun _ => hxm)
  · rintro fr ⟨rs, e, s4, s6, s7, s8, st, hD, hpn, h4, rfl⟩
    rw [rangeD_len] at hD hpn
    walk_at "w"
    have := hD.len
    exact ⟨rs, rfl, ⟨hD.ok (by omega), by omega, hD.way, hD.std, hD.wrd⟩, hpn.mono (by omega)⟩))) Xz.mk
end
section
variable {T : Tab} {P : Out → List Cell → Prop} {PX : Nat → List D → List Cell → Prop} {s : List Cell} {B m : Int} {ws : List Str}
theorem C_rows2 (hT : T.phi 449 = p_law_rows_v2) (hm : 0 < m ∧ m ≤ 6) (hws : (ws.all PyData.strOk) = true) (hp : Pn B s) (hB : B < 10000000000000000000000000000) (hlen : ws.length < 1000)
    (k : ∀ rs s', Drawn 2000 ws rs → Pn (B + 200) s' → P (.fresh (rs.map rtD)) s') : (T.phi 449 [.cell 0, .int m, .lst (ws.map D.str)] s).all P PX := @Rz _ _ (fun qz => @Hz.get _ _ (qz.bar : Hz _ (by
  clear qz
  rw [hT]
  refine fx_imp (law_rows2_is hm hws hp hB hlen) (fun o s h => ?_) fun _ _ _ z => z.elim
  obtain ⟨rs, rfl, h1, h2⟩ := h
  exact k rs s h1 h2))) Xz.mk
end
end
section
open PySem L2
def topS (i : Nat) : Stmt := PySem.Challenge.pw_agewords_k29_whole_wordings_alike.main.body.getD i (.Pass ⟨0, 0, 0, 0⟩)
def atT : List Str := (["until", "unit", "way", "word", "rows", "first", "step", "number", "wording", "waits", "index", "line", "age", "second", "guard", "now", "past", "future", "held", "trials", "label", "text", "later_edge", "last_edge", "edges", "ages", "returns", "read", "worded", "shows", "names", "guards", "undoable", "redoable", "looks", "events", "put", "drop", "keep", "free", "undo", "redo", "tried", "exchange", "check_back"] : List String).map Str.ofString
abbrev s_law_draw : Stmt := topS 38
def n_law_draw : List Str := ["_law_pen_here", "_law_many", "_law_at", "_law_cell", "_law_mixed", "_law_digit"]
def c_law_draw : Cv := { N := n_law_draw, fns := [], nms := [], meths := [], globs := [], blts := ["int", "len"], fnc := fun _ => true }
theorem cv_law_draw : cvSs c_law_draw 60 (defScope s_law_draw) (defBody s_law_draw) = some b_draw := by kernel_rfl
theorem sc_law_draw : FnScope c_law_draw.N ["_law_pen_here", "_law_many"] (defScope s_law_draw) := ⟨rfl, rfl, rfl, by decide +kernel, rfl, by decide +kernel, by decide +kernel⟩
abbrev s_law_pick : Stmt := topS 39
def n_law_pick : List Str := ["_law_pen_here", "_law_items"]
def c_law_pick : Cv := { N := n_law_pick, fns := [("_law_draw", 201)], nms := [], meths := [], globs := [], blts := ["len"], fnc := fun _ => true }
theorem cv_law_pick : cvSs c_law_pick 60 (defScope s_law_pick) (defBody s_law_pick) = some b_pick := by kernel_rfl
theorem sc_law_pick : FnScope c_law_pick.N ["_law_pen_here", "_law_items"] (defScope s_law_pick) := ⟨rfl, rfl, rfl, by decide +kernel, rfl, by decide +kernel, by decide +kernel⟩
abbrev s_law_way : Stmt := topS 41
def n_law_way : List Str := ["_law_pen_here"]
def c_law_way : Cv := { N := n_law_way, fns := [("_law_pick", 202)], nms := [], meths := [], globs := [], blts := [], fnc := fun _ => true }
theorem cv_law_way : cvSs c_law_way 60 (defScope s_law_way) (defBody s_law_way) = some b_way := by kernel_rfl
theorem sc_law_way : FnScope c_law_way.N ["_law_pen_here"] (defScope s_law_way) := ⟨rfl, rfl, rfl, by decide +kernel, rfl, by decide +kernel, by decide +kernel⟩
abbrev s_law_bent_v2 : Stmt := topS 49
def n_law_bent_v2 : List Str := ["_law_pen_here", "_law_rows_here", "_law_k", "_law_sort", "_law_until", "_law_unit", "_law_way_here", "_law_word", "_law_low"]
def c_law_bent_v2 : Cv := { N := n_law_bent_v2, fns := [("_law_draw", 201), ("_law_pick", 202), ("_law_way", 203)], nms := [], meths := [], globs := [], blts := ["len"], fnc := fun _ => true }
theorem cv_law_bent_v2 : cvSs c_law_bent_v2 60 (defScope s_law_bent_v2) (defBody s_law_bent_v2) = some b_law_bent_v2 := by kernel_rfl
theorem sc_law_bent_v2 : FnScope c_law_bent_v2.N ["_law_pen_here", "_law_rows_here"] (defScope s_law_bent_v2) := ⟨rfl, rfl, rfl, by decide +kernel, rfl, by decide +kernel, by decide +kernel⟩
abbrev s_law_count : Stmt := topS 45
def n_law_count : List Str := ["_law_unit", "_law_way_here", "_law_age"]
def c_law_count : Cv := { N := n_law_count, fns := [], nms := [], meths := [], globs := [], blts := [], fnc := fun _ => true }
theorem cv_law_count : cvSs c_law_count 60 (defScope s_law_count) (defBody s_law_count) = some b_law_count := by kernel_rfl
theorem sc_law_count : FnScope c_law_count.N ["_law_unit", "_law_way_here", "_law_age"] (defScope s_law_count) := ⟨rfl, rfl, rfl, by decide +kernel, rfl, by decide +kernel, by decide +kernel⟩
abbrev s_law_row_of : Stmt := topS 46
def n_law_row_of : List Str := ["_law_rows_here", "_law_age", "_law_k"]
def c_law_row_of : Cv := { N := n_law_row_of, fns := [], nms := [], meths := [], globs := [], blts := ["len", "range"], fnc := fun _ => true }
theorem cv_law_row_of : cvSs c_law_row_of 60 (defScope s_law_row_of) (defBody s_law_row_of) = some b_law_row_of := by kernel_rfl
theorem sc_law_row_of : FnScope c_law_row_of.N ["_law_rows_here", "_law_age"] (defScope s_law_row_of) := ⟨rfl, rfl, rfl, by decide +kernel, rfl, by decide +kernel, by decide +kernel⟩
abbrev s_law_label : Stmt := topS 47
def n_law_label : List Str := ["_law_rows_here", "_law_age", "_law_until", "_law_unit", "_law_way_here", "_law_word"]
def c_law_label : Cv := { N := n_law_label, fns := [("_law_count", 320), ("_law_row_of", 445)], nms := [], meths := [], globs := [], blts := [], fnc := fun _ => true }
theorem cv_law_label : cvSs c_law_label 60 (defScope s_law_label) (defBody s_law_label) = some b_law_label := by kernel_rfl
theorem sc_law_label : FnScope c_law_label.N ["_law_rows_here", "_law_age"] (defScope s_law_label) := ⟨rfl, rfl, rfl, by decide +kernel, rfl, by decide +kernel, by decide +kernel⟩
abbrev s_law_first_unlike : Stmt := topS 50
def n_law_first_unlike : List Str := ["_law_one", "_law_other", "_law_untils", "_law_counted", "_law_age", "_law_row"]
def c_law_first_unlike : Cv := { N := n_law_first_unlike, fns := [("_law_label", 396)], nms := [], meths := [], globs := [], blts := ["max", "range"], fnc := fun _ => true }
theorem cv_law_first_unlike : cvSs c_law_first_unlike 60 (defScope s_law_first_unlike) (defBody s_law_first_unlike) = some b_law_first_unlike := by kernel_rfl
theorem sc_law_first_unlike : FnScope c_law_first_unlike.N ["_law_one", "_law_other"] (defScope s_law_first_unlike) := ⟨rfl, rfl, rfl, by decide +kernel, rfl, by decide +kernel, by decide +kernel⟩
abbrev s_Row_init : Stmt := inClass (topS 23) 0
def n_Row_init : List Str := ["self", "until", "unit", "way", "word"]
def c_Row_init : Cv := { N := n_Row_init, fns := [], nms := [("unit", 1), ("until", 0), ("way", 2), ("word", 3)], meths := [], globs := [], blts := [], fnc := fun _ => true }
theorem cv_Row_init : cvIni c_Row_init 60 (defScope s_Row_init) "self" (defBody s_Row_init) = some b_Row_init := by kernel_rfl
theorem sc_Row_init : FnScope c_Row_init.N ["self", "until", "unit", "way", "word"] (defScope s_Row_init) := ⟨rfl, rfl, rfl, by decide +kernel, rfl, by decide +kernel, by decide +kernel⟩
abbrev s_check_rows : Stmt := topS 26
def n_check_rows : List Str := ["rows", "before", "index", "row", "is_last"]
def c_check_rows : Cv := { N := n_check_rows, fns := [], nms := [("until", 0)], meths := [], globs := [], blts := ["enumerate", "len"], fnc := fun _ => true }
theorem cv_check_rows : cvSs c_check_rows 60 (defScope s_check_rows) (defBody s_check_rows) = some b_check_rows := by kernel_rfl
theorem sc_check_rows : FnScope c_check_rows.N ["rows"] (defScope s_check_rows) := ⟨rfl, rfl, rfl, by decide +kernel, rfl, by decide +kernel, by decide +kernel⟩
abbrev s_Wording_init : Stmt := inClass (topS 24) 0
def n_Wording_init : List Str := ["self", "rows"]
def c_Wording_init : Cv := { N := n_Wording_init, fns := [("check_rows", 51)], nms := [("rows", 4)], meths := [], globs := [], blts := ["tuple"], fnc := fun _ => true }
theorem cv_Wording_init : cvIni c_Wording_init 60 (defScope s_Wording_init) "self" (defBody s_Wording_init) = some b_Wording_init := by kernel_rfl
theorem sc_Wording_init : FnScope c_Wording_init.N ["self", "rows"] (defScope s_Wording_init) := ⟨rfl, rfl, rfl, by decide +kernel, rfl, by decide +kernel, by decide +kernel⟩
abbrev s_law_made : Stmt := topS 44
def n_law_made : List Str := ["_law_rows_here", "_law_until", "_law_unit", "_law_way_here", "_law_word"]
def c_law_made : Cv := { N := n_law_made, fns := [("Row", 35), ("Wording", 38)], nms := [], meths := [], globs := [], blts := [], fnc := fun _ => true }
theorem cv_law_made : cvSs c_law_made 60 (defScope s_law_made) (defBody s_law_made) = some b_law_made := by kernel_rfl
theorem sc_law_made : FnScope c_law_made.N ["_law_rows_here"] (defScope s_law_made) := ⟨rfl, rfl, rfl, by decide +kernel, rfl, by decide +kernel, by decide +kernel⟩
abbrev s_law_pen : Stmt := topS 37
def n_law_pen : List Str := ["_law_script"]
def c_law_pen : Cv := { N := n_law_pen, fns := [], nms := [], meths := [], globs := [], blts := ["list"], fnc := fun _ => true }
theorem cv_law_pen : cvSs c_law_pen 60 (defScope s_law_pen) (defBody s_law_pen) = some b_pen := by kernel_rfl
theorem sc_law_pen : FnScope c_law_pen.N ["_law_script"] (defScope s_law_pen) := ⟨rfl, rfl, rfl, by decide +kernel, rfl, by decide +kernel, by decide +kernel⟩
abbrev s_law_number : Stmt := topS 40
def n_law_number : List Str := ["_law_pen_here"]
def c_law_number : Cv := { N := n_law_number, fns := [("_law_draw", 201), ("_law_pick", 202)], nms := [], meths := [], globs := [], blts := [], fnc := fun _ => true }
theorem cv_law_number : cvSs c_law_number 60 (defScope s_law_number) (defBody s_law_number) = some b_law_number := by kernel_rfl
theorem sc_law_number : FnScope c_law_number.N ["_law_pen_here"] (defScope s_law_number) := ⟨rfl, rfl, rfl, by decide +kernel, rfl, by decide +kernel, by decide +kernel⟩
abbrev s_law_rows_v2 : Stmt := topS 42
def n_law_rows_v2 : List Str := ["_law_pen_here", "_law_most", "_law_words", "_law_rows_here", "_law_before", "_law_many", "_law_k", "_law_unit", "_law_word"]
def c_law_rows_v2 : Cv := { N := n_law_rows_v2, fns := [("_law_draw", 201), ("_law_number", 422), ("_law_pick", 202), ("_law_way", 203)], nms := [], meths := [], globs := [], blts := ["range"], fnc := fun _ => true }
theorem cv_law_rows_v2 : cvSs c_law_rows_v2 60 (defScope s_law_rows_v2) (defBody s_law_rows_v2) = some b_law_rows_v2 := by kernel_rfl
theorem sc_law_rows_v2 : FnScope c_law_rows_v2.N ["_law_pen_here", "_law_most", "_law_words"] (defScope s_law_rows_v2) := ⟨rfl, rfl, rfl, by decide +kernel, rfl, by decide +kernel, by decide +kernel⟩
abbrev s_law_split : Stmt := topS 48
def n_law_split : List Str := ["_law_pen_here", "_law_rows_here", "_law_k", "_law_low", "_law_until", "_law_unit", "_law_way_here", "_law_word", "_law_at"]
def c_law_split : Cv := { N := n_law_split, fns := [("_law_draw", 201)], nms := [], meths := [], globs := [], blts := ["len"], fnc := fun _ => true }
theorem cv_law_split : cvSs c_law_split 60 (defScope s_law_split) (defBody s_law_split) = some b_law_split := by kernel_rfl
theorem sc_law_split : FnScope c_law_split.N ["_law_pen_here", "_law_rows_here"] (defScope s_law_split) := ⟨rfl, rfl, rfl, by decide +kernel, rfl, by decide +kernel, by decide +kernel⟩
abbrev s_law_times : Stmt := topS 43
def n_law_times : List Str := ["_law_rows_here", "_law_factor", "_law_found", "_law_until", "_law_unit", "_law_way_here", "_law_word"]
def c_law_times : Cv := { N := n_law_times, fns := [], nms := [], meths := [], globs := [], blts := [], fnc := fun _ => true }
theorem cv_law_times : cvSs c_law_times 60 (defScope s_law_times) (defBody s_law_times) = some b_law_times := by kernel_rfl
theorem sc_law_times : FnScope c_law_times.N ["_law_rows_here", "_law_factor"] (defScope s_law_times) := ⟨rfl, rfl, rfl, by decide +kernel, rfl, by decide +kernel, by decide +kernel⟩
abbrev s_first_within : Stmt := topS 21
def n_first_within : List Str := ["low", "unit", "offset"]
def c_first_within : Cv := { N := n_first_within, fns := [], nms := [], meths := [], globs := [], blts := [], fnc := fun _ => true }
theorem cv_first_within : cvSs c_first_within 60 (defScope s_first_within) (defBody s_first_within) = some b_first_within := by kernel_rfl
theorem sc_first_within : FnScope c_first_within.N ["low", "unit", "offset"] (defScope s_first_within) := ⟨rfl, rfl, rfl, by decide +kernel, rfl, by decide +kernel, by decide +kernel⟩
abbrev s_offset_of : Stmt := topS 19
def n_offset_of : List Str := ["unit", "way"]
def c_offset_of : Cv := { N := n_offset_of, fns := [], nms := [], meths := [], globs := [], blts := [], fnc := fun _ => true }
theorem cv_offset_of : cvSs c_offset_of 60 (defScope s_offset_of) (defBody s_offset_of) = some b_offset_of := by kernel_rfl
theorem sc_offset_of : FnScope c_offset_of.N ["unit", "way"] (defScope s_offset_of) := ⟨rfl, rfl, rfl, by decide +kernel, rfl, by decide +kernel, by decide +kernel⟩
abbrev s_check_age : Stmt := topS 25
def n_check_age : List Str := ["age"]
def c_check_age : Cv := { N := n_check_age, fns := [], nms := [], meths := [], globs := [], blts := [], fnc := fun _ => true }
theorem cv_check_age : cvSs c_check_age 60 (defScope s_check_age) (defBody s_check_age) = some b_check_age := by kernel_rfl
theorem sc_check_age : FnScope c_check_age.N ["age"] (defScope s_check_age) := ⟨rfl, rfl, rfl, by decide +kernel, rfl, by decide +kernel, by decide +kernel⟩
abbrev s_count_of : Stmt := topS 18
def n_count_of : List Str := ["unit", "way", "age"]
def c_count_of : Cv := { N := n_count_of, fns := [], nms := [], meths := [], globs := [], blts := [], fnc := fun _ => true }
theorem cv_count_of : cvSs c_count_of 60 (defScope s_count_of) (defBody s_count_of) = some b_count_of := by kernel_rfl
theorem sc_count_of : FnScope c_count_of.N ["unit", "way", "age"] (defScope s_count_of) := ⟨rfl, rfl, rfl, by decide +kernel, rfl, by decide +kernel, by decide +kernel⟩
abbrev s_row_label : Stmt := topS 27
def n_row_label : List Str := ["row", "age"]
def c_row_label : Cv := { N := n_row_label, fns := [("count_of", 25)], nms := [("unit", 1), ("way", 2), ("word", 3)], meths := [], globs := [], blts := [], fnc := fun _ => true }
theorem cv_row_label : cvSs c_row_label 60 (defScope s_row_label) (defBody s_row_label) = some b_row_label := by kernel_rfl
theorem sc_row_label : FnScope c_row_label.N ["row", "age"] (defScope s_row_label) := ⟨rfl, rfl, rfl, by decide +kernel, rfl, by decide +kernel, by decide +kernel⟩
abbrev s_Wording_label : Stmt := inClass (topS 24) 3
def n_Wording_label : List Str := ["self", "age", "row"]
def c_Wording_label : Cv := { N := n_Wording_label, fns := [("check_age", 50), ("row_label", 52)], nms := [("rows", 4), ("until", 0)], meths := [], globs := [], blts := [], fnc := fun _ => true }
theorem cv_Wording_label : cvSs c_Wording_label 60 (defScope s_Wording_label) (defBody s_Wording_label) = some b_Wording_label := by kernel_rfl
theorem sc_Wording_label : FnScope c_Wording_label.N ["self", "age"] (defScope s_Wording_label) := ⟨rfl, rfl, rfl, by decide +kernel, rfl, by decide +kernel, by decide +kernel⟩
abbrev s_first_unlike : Stmt := topS 35
def n_first_unlike : List Str := ["one", "other", "rows", "ages", "mine", "yours", "start", "stop", "first", "second", "found", "row"]
def c_first_unlike : Cv := { N := n_first_unlike, fns := [("first_within", 28), ("offset_of", 26)], nms := [("label", 20), ("unit", 1), ("way", 2)], meths := [20], globs := [], blts := ["min"], fnc := fun _ => true }
theorem cv_first_unlike : cvSs c_first_unlike 60 (defScope s_first_unlike) (defBody s_first_unlike) = some b_first_unlike := by kernel_rfl
theorem sc_first_unlike : FnScope c_first_unlike.N ["one", "other", "rows", "ages"] (defScope s_first_unlike) := ⟨rfl, rfl, rfl, by decide +kernel, rfl, by decide +kernel, by decide +kernel⟩
abbrev s_lesser_end : Stmt := topS 34
def n_lesser_end : List Str := ["one", "other"]
def c_lesser_end : Cv := { N := n_lesser_end, fns := [], nms := [], meths := [], globs := [], blts := ["int", "min"], fnc := fun _ => true }
theorem cv_lesser_end : cvSs c_lesser_end 60 (defScope s_lesser_end) (defBody s_lesser_end) = some b_lesser_end := by kernel_rfl
theorem sc_lesser_end : FnScope c_lesser_end.N ["one", "other"] (defScope s_lesser_end) := ⟨rfl, rfl, rfl, by decide +kernel, rfl, by decide +kernel, by decide +kernel⟩
abbrev s_row_ages : Stmt := topS 20
def n_row_ages : List Str := ["rows", "found", "low", "row"]
def c_row_ages : Cv := { N := n_row_ages, fns := [], nms := [("until", 0)], meths := [], globs := [], blts := [], fnc := fun _ => true }
theorem cv_row_ages : cvSs c_row_ages 60 (defScope s_row_ages) (defBody s_row_ages) = some b_row_ages := by kernel_rfl
theorem sc_row_ages : FnScope c_row_ages.N ["rows"] (defScope s_row_ages) := ⟨rfl, rfl, rfl, by decide +kernel, rfl, by decide +kernel, by decide +kernel⟩
abbrev s_alike : Stmt := topS 33
def n_alike : List Str := ["one", "other", "mine", "low", "high", "yours", "begin", "end", "start", "stop", "found"]
def c_alike : Cv := { N := n_alike, fns := [("first_unlike", 70), ("lesser_end", 69), ("row_ages", 27)], nms := [("rows", 4)], meths := [], globs := [], blts := ["max", "zip"], fnc := fun _ => true }
theorem cv_alike : cvSs c_alike 60 (defScope s_alike) (defBody s_alike) = some b_alike := by kernel_rfl
theorem sc_alike : FnScope c_alike.N ["one", "other"] (defScope s_alike) := ⟨rfl, rfl, rfl, by decide +kernel, rfl, by decide +kernel, by decide +kernel⟩
def b_law : List Stm := [.asg (.slot 1) (.call 200 [.slot 0]), .for_ (.slot 2) (.range1 (.bin .add (.int 2) (.bi .min2 [.int 4, .bi .len [.slot 0]]))) [.asg (.slot 3) (.call 449 [.slot 1, .int 3, .call 202 [.slot 1, .lst [.lst [], .lst [.str "s", .str "m"]]]]), .asg (.slot 4) (.call 202 [.slot 1, .lst [.slot 3, .slot 3, .call 475 [.slot 1, .slot 3], .call 449 [.slot 1, .int 3, .lst [.str "s", .str "m"]]]]), .for_ (.slot 5) (.range1 (.call 201 [.slot 1, .int 3])) [.asg (.slot 4) (.ite (.and_ (.cmp .lt (.bi .len [.slot 4]) (.int 6)) (.cmp .eq (.call 201 [.slot 1, .int 2]) (.int 0))) (.call 475 [.slot 1, .slot 4]) (.call 310 [.slot 1, .slot 4]))], .asg (.slot 6) (.call 355 [.slot 3, .slot 4]), .par [7, 8] [.call 414 [.slot 3], .call 414 [.slot 4]], .ite (.or_ (.cmp .ne (.call 68 [.slot 7, .slot 8]) (.slot 6)) (.or_ (.cmp .ne (.call 68 [.slot 8, .slot 7]) (.slot 6)) (.cmp .isn (.call 68 [.slot 7, .call 414 [.slot 3]]) .non))) [.ret (.bl false)] [], .asg (.slot 9) (.call 202 [.slot 1, .lst [.int 2, .bin .pow (.int 10) (.int 20)]]), .asg (.slot 3) (.comp (.tup [.ix (.slot 11) (.int 0), .ix (.slot 11) (.int 1), .str "down", .ix (.slot 11) (.int 3)]) (.slot 11) (.seq (.slot 3)) none [11]), .asg (.slot 4) (.comp (.tup [.ix (.slot 11) (.int 0), .ix (.slot 11) (.int 1), .str "down", .ix (.slot 11) (.int 3)]) (.slot 11) (.seq (.slot 4)) none [11]), .asg (.slot 6) (.call 68 [.call 414 [.slot 3], .call 414 [.slot 4]]), .asg (.slot 10) (.call 68 [.call 414 [.call 481 [.slot 3, .slot 9]], .call 414 [.call 481 [.slot 4, .slot 9]]]), .ite (.cmp .ne (.slot 10) (.ite (.cmp .is_ (.slot 6) .non) .non (.bin .mul (.slot 6) (.slot 9)))) [.ret (.bl false)] []], .ret (.bl true)]
noncomputable def T_law : Tab := { ((((((((((T0.add 68 p_alike).add 200 p_pen).add 201 p_draw).add 202 p_pick).add 310 p_law_bent_v2).add 355 p_law_first_unlike).add 414 p_law_made).add 449 p_law_rows_v2).add 475 p_law_split).add 481 p_law_times) with psi := psiT [], fld := fldT [] }
noncomputable def p_law : Fn := fx T_law 1 12 b_law
abbrev s_law : Stmt := topS 51
def n_law : List Str := ["_law_script", "_law_pen_here", "_law_turn", "_law_one", "_law_other", "_law_change", "_law_due", "_law_mine", "_law_yours", "_law_factor", "_law_great", "_law_row"]
def c_law : Cv := { N := n_law, fns := [("_law_bent", 310), ("_law_draw", 201), ("_law_first_unlike", 355), ("_law_made", 414), ("_law_pen", 200), ("_law_pick", 202), ("_law_rows", 449), ("_law_split", 475), ("_law_times", 481), ("alike", 68)], nms := [], meths := [], globs := [], blts := ["len", "min", "range"], fnc := fun _ => true }
theorem cv_law : cvSs c_law 60 (defScope s_law) (defBody s_law) = some b_law := by kernel_rfl
theorem sc_law : FnScope c_law.N ["_law_script"] (defScope s_law) := ⟨rfl, rfl, rfl, by decide +kernel, rfl, by decide +kernel, by decide +kernel⟩
end
section
open PySem L2
/-! ### steady wordings by any unlike words -/
end
section
open PySem L2
/-! ### rows of which one is changed -/
theorem ok_at {B : Int} : ∀ {rs : List Rw} {low : Int} {k : Nat} {r : Rw}, Ok B low rs → rs[k]? = some r →
    ∃ l, (k = 0 → l = low) ∧ (∀ j, k = j + 1 → ∃ p, rs[j]? = some p ∧ p.u = some l) ∧ Ok B l (r :: rs.drop (k + 1)) ∧ ∀ {B' ys}, B ≤ B' → Ok B' l ys → Ok B' low (rs.take k ++ ys)
  | [], _, _, _, h, _ => h.elim
  | r :: rs, low, 0, _, h, e => by
    cases e
    exact ⟨low, fun _ => rfl, fun j z => by omega, h, fun _ h' => h'⟩
  | r :: rs, low, k + 1, x, ⟨h1, h2, h3, h4⟩, e => by
    have e : rs[k]? = some x := e
    cases q : r.u with
    | none =>
      rw [q] at h4
      cases h4
      cases e
    | some v =>
      rw [q] at h4
      obtain ⟨l, k1, k2, k3, k4⟩ := ok_at h4.2 e
      refine ⟨l, fun z => by omega, fun j z => ?_, k3, fun hB h' => ⟨fun u hu => ⟨(h1 u hu).1, by have := (h1 u hu).2; omega⟩, h2, by omega, ?_⟩⟩
      · obtain rfl : k = j := by omega
        cases k with
        | zero => exact ⟨r, rfl, by rw [q, k1 rfl]⟩
        | succ i =>
          obtain ⟨p, p1, p2⟩ := k2 i rfl
          exact ⟨p, p1, p2⟩
      · rw [q]
        exact ⟨h4.1, k4 hB h'⟩
/-- drawn and bent rows -/
structure Bent (B : Int) (rs : List Rw) : Prop where
  ok : Ok B 0 rs
  len : rs.length ≤ 7
  way : ∀ r ∈ rs, Way r.w
  str : SOk rs
theorem Bent.mono {B B' : Int} {rs : List Rw} (h : Bent B rs) (hB : B ≤ B') : Bent B' rs := ⟨h.ok.mono hB, h.len, h.way, h.str⟩
theorem Bent.wok {B : Int} {rs : List Rw} (h : Bent B rs) (hB : B ≤ 1000000000000000000000000000000000000000000000000000000000000) : WOk rs := ⟨h.ok.mono hB, by have := h.len; omega⟩
theorem Drawn.bn {B : Int} {ws : List Str} {rs : List Rw} (h : Drawn B ws rs) (hws : (ws.all PyData.strOk) = true) : Bent B rs := ⟨h.ok, by have := h.len; omega, h.way, SOk.of h hws⟩
theorem mem_cut {α : Type} {xs ys : List α} {k : Nat} {x : α} (h : x ∈ xs.take k ++ ys ++ xs.drop (k + 1)) : x ∈ xs ∨ x ∈ ys := @Rz _ _ (fun qz => @Hz.get _ _ (qz.bar : Hz _ (by
  clear qz
  rw [List.mem_append, List.mem_append] at h
  rcases h with (h | h) | h
  · exact .inl (List.mem_of_mem_take h)
  · exact .inr h
  · exact .inl (List.mem_of_mem_drop h)))) Xz.mk
theorem Bent.split {B a : Int} {rs : List Rw} {k : Nat} {r : Rw} (h : Bent B rs) (hl : rs.length ≤ 6) (e : rs[k]? = some r) (hb : ∀ l, (k = 0 → l = 0) → (∀ j, k = j + 1 → ∃ p, rs[j]? = some p ∧ p.u = some l) → l < B → l < a ∧ (∀ v, r.u = some v → l < v → a < v) ∧ (r.u = none → a < B + 41)) :
    Bent (B + 41) (rs.take k ++ [⟨some a, r.k, r.w, r.s⟩, r] ++ rs.drop (k + 1)) := @Rz _ _ (fun qz => @Hz.get _ _ (qz.bar : Hz _ (by
  clear qz
  obtain ⟨l, k1, k2, k3, k4⟩ := ok_at h.ok e
  obtain ⟨b1, b2, b3⟩ := hb l k1 k2 k3.2.2.1
  have hm := List.mem_of_getElem? e
  have hk := (List.getElem?_eq_some_iff.mp e).1
  refine ⟨?_, ?_, fun x hx => ?_, fun x hx => ?_⟩
  · rw [List.append_assoc]
    refine k4 (by omega) ⟨fun u hu => ⟨(k3.1 u hu).1, by have := (k3.1 u hu).2; omega⟩, k3.2.1, by have := k3.2.2.1; omega, ?_⟩
    refine ⟨b1, fun u hu => ⟨(k3.1 u hu).1, by have := (k3.1 u hu).2; omega⟩, by have := k3.2.1; omega, ?_, ?_⟩
    · have k5 := k3.2.2.2
      cases q : r.u with
      | none => exact b3 q
      | some v =>
        rw [q] at k5
        have := b2 v q k5.1
        have : v < B := by
          have := k5.2
          cases hd : rs.drop (k + 1) with
          | nil => rw [hd] at this; exact this.elim
          | cons y ys => rw [hd] at this; exact this.2.2.1
        omega
    · have k5 := k3.2.2.2
      cases q : r.u with
      | none => rw [q] at k5; exact k5
      | some v =>
        rw [q] at k5
        exact ⟨b2 v q k5.1, k5.2.mono (by omega)⟩
  · rw [List.length_append, List.length_append, List.length_take, List.length_drop]
    show min k rs.length + 2 + (rs.length - (k + 1)) ≤ 7
    omega
  · rcases mem_cut hx with hx | hx
    · exact h.way x hx
    · rcases List.mem_cons.mp hx with rfl | hx
      · exact h.way r hm
      · cases List.mem_singleton.mp hx
        exact h.way r hm
  · rcases mem_cut hx with hx | hx
    · exact h.str x hx
    · rcases List.mem_cons.mp hx with rfl | hx
      · exact h.str r hm
      · cases List.mem_singleton.mp hx
        exact h.str r hm))) Xz.mk
theorem Bent.bent {B : Int} {rs : List Rw} {k : Nat} {r r' : Rw} (h : Bent B rs) (e : rs[k]? = some r) (hk : RwN (B + 41) r') (hw : Way r'.w) (hs : PyData.strOk r'.s = true)
    (hu : r'.u = r.u ∨ ∀ l, (k = 0 → l = 0) → (∀ j, k = j + 1 → ∃ p, rs[j]? = some p ∧ p.u = some l) → ∃ v v', r.u = some v ∧ r'.u = some v' ∧ (l < v → l < v' ∧ v' ≤ v)) :
    Bent (B + 41) (rs.take k ++ [r'] ++ rs.drop (k + 1)) := @Rz _ _ (fun qz => @Hz.get _ _ (qz.bar : Hz _ (by
  clear qz
  obtain ⟨l, k1, k2, k3, k4⟩ := ok_at h.ok e
  have hm := List.mem_of_getElem? e
  have hl := (List.getElem?_eq_some_iff.mp e).1
  refine ⟨?_, ?_, fun x hx => ?_, fun x hx => ?_⟩
  · rw [List.append_assoc]
    refine k4 (by omega) ⟨hk, k3.2.1, by have := k3.2.2.1; omega, ?_⟩
    have k5 := k3.2.2.2
    have lo : ∀ {v v' : Int}, v' ≤ v → 0 ≤ v' → Ok B v (rs.drop (k + 1)) → Ok (B + 41) v' (rs.drop (k + 1)) := fun {v v'} g g0 q => by
      cases hd : rs.drop (k + 1) with
      | nil => rw [hd] at q; exact q.elim
      | cons y ys =>
        rw [hd] at q
        obtain ⟨q1, q2, q3, q4⟩ := q
        refine ⟨fun u hu => ⟨(q1 u hu).1, by have := (q1 u hu).2; omega⟩, g0, by omega, ?_⟩
        cases z : y.u with
        | none => rw [z] at q4; exact q4
        | some w => rw [z] at q4; exact ⟨by have := q4.1; omega, q4.2.mono (by omega)⟩
    rcases hu with hu | hu
    · rw [hu]
      cases q : r.u with
      | none => rw [q] at k5; exact k5
      | some v => rw [q] at k5; exact ⟨k5.1, k5.2.mono (by omega)⟩
    · obtain ⟨v, v', q, q', qq⟩ := hu l k1 k2
      rw [q] at k5
      rw [q']
      obtain ⟨q1, q2⟩ := qq k5.1
      exact ⟨q1, lo q2 (by have := k3.2.1; omega) k5.2⟩
  · rw [List.length_append, List.length_append, List.length_take, List.length_drop]
    have := h.len
    show min k rs.length + 1 + (rs.length - (k + 1)) ≤ 7
    omega
  · rcases mem_cut hx with hx | hx
    · exact h.way x hx
    · cases List.mem_singleton.mp hx
      exact hw
  · rcases mem_cut hx with hx | hx
    · exact h.str x hx
    · cases List.mem_singleton.mp hx
      exact hs))) Xz.mk
theorem cut_from {α : Type} {xs : List α} {k : Nat} (h1 : k ≤ xs.length) : cutL xs (some (k : Int)) none = xs.drop k := @Rz _ _ (fun qz => @Hz.get _ _ (qz.bar : Hz _ (by
  clear qz
  unfold cutL
  rw [HT.sIx_nat, HT.sIx_none, Nat.min_eq_left h1, List.take_of_length_le (by rw [List.length_drop]; omega)]))) Xz.mk
/-! ### the first age at which labels are unlike is not far -/
end
section
open PySem L2
section
variable {T : Tab} {fr : Fr} {PX : PXt} {K : SxP}
theorem A_sliceL {a : Tm} {lo hi : Option Tm} {P : RV → Fr → Prop} (h : AV T a fr (fun d fr1 => ∃ xs, d = .lst xs ∧ AO T lo fr1 (fun l fr2 => AO T hi fr2 (fun u fr3 => P (.out (.fresh (cutL xs l u))) fr3) PX) PX) PX) : A T (.slice a lo hi) fr P PX :=
  A_slice (A_imp h fun r fr1 z => by
    obtain ⟨d, rfl, xs, rfl, z⟩ := z
    exact Rs.all_imp z (fun l fr2 z => Rs.all_imp z (fun u fr3 z => ⟨_, rfl, .inl ⟨xs, rfl, z⟩⟩) fun _ _ _ z => z) fun _ _ _ z => z)
/-- xs[:k] + [..] + xs[k + 1:] returned -/
theorem X_retSplice {i j : Nat} {ts : List Tm} {xs : List D} {k : Nat} (e : fr.env[i]? = some (.val (.lst xs))) (ek : fr.env[j]? = some (.val (.int k))) (hk : k < xs.length) (hs : xs.length < 1000000)
    (h : AS T ts fr (fun ds fr2 => fr2 = fr ∧ ds.length ≤ 10 ∧ K.ret (.fresh (xs.take k ++ ds ++ xs.drop (k + 1))) fr) K.exc) :
    X T (.ret (.bin .add (.bin .add (.slice (.slot i) none (some (.slot j))) (.lst ts)) (.slice (.slot i) (some (.bin .add (.slot j) (.int 1))) none))) fr K := @Rz _ _ (fun qz => @Hz.get _ _ (qz.bar : Hz _ (by
  clear qz
  refine X_retF (A_bin (A_bin (A_sliceL (V_slot e ⟨xs, rfl, AO_none (AO_someV (V_slot ek ⟨_, rfl, ?_⟩))⟩))))
  refine A_lst (Rs.all_imp h (fun ds fr2 z => ?_) fun _ _ _ z => z)
  obtain ⟨rfl, hl, z⟩ := z
  rw [size_is]
  refine ⟨by omega, _, _, Out.fresh (cutL xs none (some (k : Int)) ++ ds), rfl, rfl, ?s1, ?g⟩
  case s1 =>
    show (if _ then _ else none) = some (Out.fresh (cutL xs none (some (k : Int)) ++ ds))
    rw [if_pos]
    rw [cut_to (by omega) (by omega), List.length_take, size_is]
    omega
  refine A_sliceL (V_slot e ⟨xs, rfl, AO_someV (V_bin (V_slot ek (V_int ⟨_, rfl, _, rfl, AO_none ?_⟩)))⟩)
  refine ⟨_, _, Out.fresh (xs.take k ++ ds ++ xs.drop (k + 1)), rfl, rfl, ?s2, _, rfl, ?g2⟩
  case s2 =>
    show (if _ then _ else none) = some (Out.fresh (xs.take k ++ ds ++ xs.drop (k + 1)))
    rw [cut_to (by omega) (by omega), show (k : Int) + 1 = ((k + 1 : Nat) : Int) by omega, cut_from (by omega), Int.toNat_natCast, if_pos]
    rw [List.length_append, List.length_take, List.length_drop, size_is]
    omega
  exact z))) Xz.mk
theorem ix_nat {sto : List Cell} {xs : List D} {k : Nat} {v : D} {Q : D → Prop} (e : xs[k]? = some v) (h : Q v) : ∃ v, ixD sto (.lst xs) (.int (k : Int)) = some v ∧ Q v := ⟨_, by
  show atI xs _ = _
  rw [atI_ok (by omega) (by have := (List.getElem?_eq_some_iff.mp e).1; omega), Int.toNat_natCast]; exact e, h⟩
theorem ix_sub {sto : List Cell} {xs : List D} {k : Nat} {v : D} {Q : D → Prop} (e : xs[k]? = some v) (h : Q v) : ∃ v, ixD sto (.lst xs) (.int (((k + 1 : Nat) : Int) - 1)) = some v ∧ Q v := @Rz _ _ (fun qz => @Hz.get _ _ (qz.bar : Hz _ (by
  clear qz
  rw [show ((k + 1 : Nat) : Int) - 1 = (k : Int) by omega]
  exact ix_nat e h))) Xz.mk
end
def split_tail : List Stm := [.asg (.tup [.slot 4, .slot 5, .slot 6, .slot 7]) (.ix (.slot 1) (.slot 2)), .ite (.and_ (.cmp .isn (.slot 4) .non) (.cmp .lt (.slot 4) (.bin .add (.slot 3) (.int 2)))) [.ret (.slot 1)] [], .asg (.slot 8) (.bin .add (.bin .add (.slot 3) (.int 1)) (.call 201 [.slot 0, .ite (.cmp .is_ (.slot 4) .non) (.int 40) (.bin .sub (.bin .sub (.slot 4) (.slot 3)) (.int 1))])), .ret (.bin .add (.bin .add (.slice (.slot 1) none (some (.slot 2))) (.lst [.tup [.slot 8, .slot 5, .slot 6, .slot 7], .tup [.slot 4, .slot 5, .slot 6, .slot 7]])) (.slice (.slot 1) (some (.bin .add (.slot 2) (.int 1))) none))]
section
local macro_rules | `(tactic| walk_at "w") => `(tactic| repeat' first
  | fail "a1p"
  | (with_reducible refine' Ix_id ?s1 ?_; (case s1 => with_unfolding_all exact rfl))
  | (with_reducible refine' Il_id ?s1 ?s2 ?_; (case s1 => with_unfolding_all exact rfl); (case s2 => assumption))
  | (with_reducible refine' V_pop ?s1 ?s2 ?_; (case s1 => with_unfolding_all exact rfl); (case s2 => assumption))
  | (with_reducible refine C_isnTup ?_)
  | (with_reducible refine C_isTup ?_)
  | (with_reducible refine C_neSt0 ?_)
  | (with_reducible refine C_eqSt0 ?_)
  | (with_reducible refine C_eqOI ?_)
  | (with_reducible refine C_neOI ?_)
  | (with_reducible refine C_isO ?_)
  | (with_reducible refine C_isnO ?_)
  | fail "a2")
local macro_rules | `(tactic| walk_at "s") => `(tactic| repeat' first
  | fail "a1p"
  | (with_reducible refine' Ix_id ?s1 ?_; (case s1 => with_unfolding_all exact rfl))
  | (with_reducible refine' Il_id ?s1 ?s2 ?_; (case s1 => with_unfolding_all exact rfl); (case s2 => assumption))
  | (with_reducible refine' V_pop ?s1 ?s2 ?_; (case s1 => with_unfolding_all exact rfl); (case s2 => assumption))
  | (with_reducible refine C_isnTup ?_)
  | (with_reducible refine C_isTup ?_)
  | (with_reducible refine C_neSt0 ?_)
  | (with_reducible refine C_eqSt0 ?_)
  | (with_reducible refine C_eqOI ?_)
  | (with_reducible refine C_neOI ?_)
  | (with_reducible refine C_isO ?_)
  | (with_reducible refine C_isnO ?_)
  | fail "a2s")
theorem law_split_is {rs : List Rw} {s : List Cell} {X B : Int} (hB : Bent X rs) (hX : X ≤ 100000) (hp : Pn B s) (hB2 : B < 10000000000000000000000000000) :
    (p_law_split [.cell 0, .lst (rs.map rtD)] s).all (fun o s' => ∃ qs, (o = .val (.lst (qs.map rtD)) ∨ o = .fresh (qs.map rtD)) ∧ (rs.length ≤ 6 → Bent (X + 41) qs) ∧ Pn (B + 10) s') (fun _ _ _ => False) := @Rz _ _ (fun qz => @Hz.get _ _ (qz.bar : Hz _ (by
  clear qz
  refine fx_allK rfl (env := [.val (.cell 0), .val (.lst (rs.map rtD)), .un, .un, .un, .un, .un, .un, .un]) rfl fun K hret _ _ => ?_
  unfold b_law_split
  have hne : 0 < rs.length := by
    cases rs with
    | nil => exact hB.ok.elim
    | cons r rs => exact Nat.succ_pos _
  have hlen := hB.len
  have hml : (rs.map rtD).length = rs.length := List.length_map _
  walk_at "w"
  refine C_draw (by with_unfolding_all exact rfl) hp (by omega) (by omega) (by omega) fun n s1 n0 n1 hp1 => ?_
  refine isS_val ?_
  obtain ⟨k, rfl⟩ : ∃ k : Nat, n = (k : Int) := ⟨n.toNat, by omega⟩
  have hk : k < rs.length := by omega
  obtain ⟨r, hr⟩ : ∃ r, rs[k]? = some r := ⟨_, List.getElem?_eq_getElem hk⟩
  have hr' : (rs.map rtD)[k]? = some (rtD r) := by rw [List.getElem?_map, hr]; rfl
  obtain ⟨l, k1, k2, k3, _⟩ := ok_at hB.ok hr
  have lB := k3.2.2.1
  have l0 := k3.2.1
  have lu : ∀ l', (k = 0 → l' = 0) → (∀ j, k = j + 1 → ∃ p, rs[j]? = some p ∧ p.u = some l') → l' = l := fun l' h1 h2 => by
    cases k with
    | zero => rw [h1 rfl, k1 rfl]
    | succ j =>
      obtain ⟨p, p1, p2⟩ := h2 j rfl
      obtain ⟨q, q1, q2⟩ := k2 j rfl
      rw [p1] at q1
      cases q1
      rw [p2] at q2
      exact Option.some.inj q2
  have hv9 : ∀ v, r.u = some v → l < v ∧ v < X := fun v hv => by
    have k5 := k3.2.2.2
    rw [hv] at k5
    refine ⟨k5.1, ?_⟩
    have := k5.2
    cases hd : rs.drop (k + 1) with
    | nil => rw [hd] at this; exact this.elim
    | cons y ys => rw [hd] at this; exact this.2.2.1
  have fin : ∀ at_, l < at_ → (∀ v, r.u = some v → at_ < v) → (r.u = none → at_ < X + 41) → rs.length ≤ 6 → Bent (X + 41) (rs.take k ++ [⟨some at_, r.k, r.w, r.s⟩, r] ++ rs.drop (k + 1)) := fun at_ h1 h2 h3 h4 =>
    hB.split h4 hr fun l' q1 q2 q3 => by
      obtain rfl := lu l' q1 q2
      exact ⟨h1, fun v hv _ => h2 v hv, h3⟩
  have spl : ∀ at_ : Int, ∀ x, x = rs.take k ++ [⟨some at_, r.k, r.w, r.s⟩, r] ++ rs.drop (k + 1) → (rs.map rtD).take k ++ [.tup [.int at_, optD r.k, .str r.w, .str r.s], .tup [optD r.u, optD r.k, .str r.w, .str r.s]] ++ (rs.map rtD).drop (k + 1) = x.map rtD := fun at_ x e => by
    rw [e, List.map_append, List.map_append, List.map_take, List.map_drop]; rfl
  have tail : XS T_law_split split_tail ⟨[.val (.cell 0), .val (.lst (rs.map rtD)), .val (.int (k : Int)), .val (.int l), .un, .un, .un, .un, .un], s1⟩ K := by
    unfold split_tail
    refine XS_cons ?_
    walk_at "s"
    refine ix_nat hr' ?_
    have hrt : rtD r = .tup [optD r.u, optD r.k, .str r.w, .str r.s] := rfl
    rw [hrt]
    clear hr' k1 k2 lu
    cases hu : r.u with
    | none =>
      walk_at "s"
      refine N_thn ?_
      walk_at "s"
      refine N_thn ?_
      walk_at "s"
      refine C_draw (by with_unfolding_all exact rfl) hp1 (by omega) (by omega) (by omega) fun n s2 n0 n1 hp2 => ?_
      refine isV ?_
      walk_at "s"
      refine N_thn ?_
      refine XS_cons ?_
      refine X_retSplice (xs := rs.map rtD) (k := k) (by with_unfolding_all exact rfl) (by with_unfolding_all exact rfl) (by omega) (by omega) ?_
      walk_at "s"
      refine ⟨rfl, by show 2 ≤ 10; decide, hret _ _ ⟨_, .inr (congrArg Out.fresh (by have := spl (l + 1 + n) _ rfl; rw [hu] at this; exact this)), fin _ (by omega) (fun v hv => by rw [hu] at hv; cases hv) (fun _ => by omega), hp2.mono (by omega)⟩⟩
    | some v =>
      have hvX := hv9 v hu
      by_cases hv : v < l + 2
      · walk_at "s"
        refine N_thn ?_
        walk_at "s"
        exact hret _ _ ⟨rs, .inl rfl, fun _ => hB.mono (by omega), hp1.mono (by omega)⟩
      · walk_at "s"
        refine N_thn ?_
        walk_at "s"
        refine N_thn ?_
        walk_at "s"
        refine C_draw (by with_unfolding_all exact rfl) hp1 (by omega) (by omega) (by omega) fun n s2 n0 n1 hp2 => ?_
        refine isV ?_
        walk_at "s"
        refine N_thn ?_
        refine XS_cons ?_
        refine X_retSplice (xs := rs.map rtD) (k := k) (by with_unfolding_all exact rfl) (by with_unfolding_all exact rfl) (by omega) (by omega) ?_
        walk_at "s"
        refine ⟨rfl, by show 2 ≤ 10; decide, hret _ _ ⟨_, .inr (congrArg Out.fresh (by have := spl (l + 1 + n) _ rfl; rw [hu] at this; exact this)), fin _ (by omega) (fun v hv => by rw [hu] at hv; cases hv; omega) (fun z => by rw [hu] at z; cases z), hp2.mono (by omega)⟩⟩
  cases k with
  | zero =>
    obtain rfl := k1 rfl
    walk_at "s"
    refine N_thn ?_
    walk_at "s"
    refine N_thn ?_
    exact tail
  | succ j =>
    obtain ⟨p, hp', hpu⟩ := k2 j rfl
    walk_at "s"
    refine N_thn ?_
    walk_at "s"
    refine ix_sub (by rw [List.getElem?_map, hp']; rfl) ?_
    have hrt : rtD p = .tup [optD p.u, optD p.k, .str p.w, .str p.s] := rfl
    rw [hrt, hpu]
    walk_at "s"
    refine N_thn ?_
    exact tail))) Xz.mk
end
def bent_tail : List Stm := [.ite (.cmp .eq (.slot 3) (.int 0)) [.asg (.slot 5) (.call 202 [.slot 0, .lst [.non, .bin .add (.int 1) (.call 201 [.slot 0, .int 30]), .ite (.cmp .is_ (.slot 5) .non) (.int 2) (.bin .add (.slot 5) (.int 1))]])] [], .ite (.cmp .eq (.slot 3) (.int 1)) [.asg (.slot 6) (.call 203 [.slot 0])] [], .ite (.cmp .eq (.slot 3) (.int 2)) [.asg (.slot 7) (.call 202 [.slot 0, .lst [.str "s", .str "m", .str "h"]])] [], .ite (.and_ (.cmp .eq (.slot 3) (.int 3)) (.cmp .isn (.slot 4) .non)) [.asg (.slot 4) (.bin .add (.bin .add (.slot 8) (.int 1)) (.call 201 [.slot 0, .bin .sub (.slot 4) (.slot 8)]))] [], .ret (.bin .add (.bin .add (.slice (.slot 1) none (some (.slot 2))) (.lst [.tup [.slot 4, .slot 5, .slot 6, .slot 7]])) (.slice (.slot 1) (some (.bin .add (.slot 2) (.int 1))) none))]
def bent_last : List Stm := [.ret (.bin .add (.bin .add (.slice (.slot 1) none (some (.slot 2))) (.lst [.tup [.slot 4, .slot 5, .slot 6, .slot 7]])) (.slice (.slot 1) (some (.bin .add (.slot 2) (.int 1))) none))]
section
local macro_rules | `(tactic| walk_at "w") => `(tactic| repeat' first
  | fail "a1p"
  | (with_reducible refine' Ix_id ?s1 ?_; (case s1 => with_unfolding_all exact rfl))
  | (with_reducible refine' Il_id ?s1 ?s2 ?_; (case s1 => with_unfolding_all exact rfl); (case s2 => assumption))
  | (with_reducible refine' V_pop ?s1 ?s2 ?_; (case s1 => with_unfolding_all exact rfl); (case s2 => assumption))
  | (with_reducible refine C_isnTup ?_)
  | (with_reducible refine C_isTup ?_)
  | (with_reducible refine C_neSt0 ?_)
  | (with_reducible refine C_eqSt0 ?_)
  | (with_reducible refine C_eqOI ?_)
  | (with_reducible refine C_neOI ?_)
  | (with_reducible refine C_isO ?_)
  | (with_reducible refine C_isnO ?_)
  | fail "a2")
local macro_rules | `(tactic| walk_at "s") => `(tactic| repeat' first
  | fail "a1p"
  | (with_reducible refine' Ix_id ?s1 ?_; (case s1 => with_unfolding_all exact rfl))
  | (with_reducible refine' Il_id ?s1 ?s2 ?_; (case s1 => with_unfolding_all exact rfl); (case s2 => assumption))
  | (with_reducible refine' V_pop ?s1 ?s2 ?_; (case s1 => with_unfolding_all exact rfl); (case s2 => assumption))
  | (with_reducible refine C_isnTup ?_)
  | (with_reducible refine C_isTup ?_)
  | (with_reducible refine C_neSt0 ?_)
  | (with_reducible refine C_eqSt0 ?_)
  | (with_reducible refine C_eqOI ?_)
  | (with_reducible refine C_neOI ?_)
  | (with_reducible refine C_isO ?_)
  | (with_reducible refine C_isnO ?_)
  | fail "a2s")
theorem law_bent2_is {rs : List Rw} {s : List Cell} {X B : Int} (hB : Bent X rs) (hX : X ≤ 100000) (hX2 : 100 ≤ X) (hp : Pn B s) (hB2 : B < 10000000000000000000000000000) :
    (p_law_bent_v2 [.cell 0, .lst (rs.map rtD)] s).all (fun o s' => ∃ qs, o = .fresh (qs.map rtD) ∧ Bent (X + 41) qs ∧ Pn (B + 20) s') (fun _ _ _ => False) := @Rz _ _ (fun qz => @Hz.get _ _ (qz.bar : Hz _ (by
  clear qz
  refine fx_allK rfl (env := [.val (.cell 0), .val (.lst (rs.map rtD)), .un, .un, .un, .un, .un, .un, .un]) rfl fun K hret _ _ => ?_
  unfold b_law_bent_v2
  have hne : 0 < rs.length := by
    cases rs with
    | nil => exact hB.ok.elim
    | cons r rs => exact Nat.succ_pos _
  have hlen := hB.len
  have hml : (rs.map rtD).length = rs.length := List.length_map _
  walk_at "s"
  refine C_draw (by with_unfolding_all exact rfl) hp (by omega) (by omega) (by omega) fun n s1 n0 n1 hp1 => ?_
  refine isS_val ?_
  walk_at "s"
  refine C_draw (by with_unfolding_all exact rfl) hp1 (by omega) (by omega) (by omega) fun m s2 m0 m1 hp2 => ?_
  refine isS_val ?_
  walk_at "s"
  refine N_thn ?_
  obtain ⟨k, rfl⟩ : ∃ k : Nat, n = (k : Int) := ⟨n.toNat, by omega⟩
  have hk : k < rs.length := by omega
  obtain ⟨r, hr⟩ : ∃ r, rs[k]? = some r := ⟨_, List.getElem?_eq_getElem hk⟩
  have hr' : (rs.map rtD)[k]? = some (rtD r) := by rw [List.getElem?_map, hr]; rfl
  obtain ⟨l, k1, k2, k3, _⟩ := ok_at hB.ok hr
  have lB := k3.2.2.1
  have l0 := k3.2.1
  have hrt : rtD r = .tup [optD r.u, optD r.k, .str r.w, .str r.s] := rfl
  have hmem := List.mem_of_getElem? hr
  have hW := hB.way r hmem
  have hS := hB.str r hmem
  have hN := k3.1
  have lu : ∀ l', (k = 0 → l' = 0) → (∀ j, k = j + 1 → ∃ p, rs[j]? = some p ∧ p.u = some l') → l' = l := fun l' h1 h2 => by
    cases k with
    | zero => rw [h1 rfl, k1 rfl]
    | succ j =>
      obtain ⟨p, p1, p2⟩ := h2 j rfl
      obtain ⟨q, q1, q2⟩ := k2 j rfl
      rw [p1] at q1
      cases q1
      rw [p2] at q2
      exact Option.some.inj q2
  have hv9 : ∀ v, r.u = some v → l < v := fun v hv => by
    have k5 := k3.2.2.2
    rw [hv] at k5
    exact k5.1
  have last : ∀ (u' k' : Option Int) (w' s' : Str) (st : List Cell), (u' = r.u ∨ ∃ v v', r.u = some v ∧ u' = some v' ∧ l < v' ∧ v' ≤ v) → RwN (X + 41) ⟨u', k', w', s'⟩ → Way w' → PyData.strOk s' = true → Pn (B + 20) st →
      XS T_law_bent_v2 bent_last ⟨[.val (.cell 0), .val (.lst (rs.map rtD)), .val (.int (k : Int)), .val (.int m), .val (optD u'), .val (optD k'), .val (.str w'), .val (.str s'), .val (.int l)], st⟩ K := fun u' k' w' s' st h1 h2 h3 h4 h5 => by
    unfold bent_last
    refine XS_cons ?_
    refine X_retSplice (xs := rs.map rtD) (k := k) (by with_unfolding_all exact rfl) (by with_unfolding_all exact rfl) (by omega) (by omega) ?_
    walk_at "s"
    refine ⟨rfl, by show 1 ≤ 10; decide, hret _ _ ⟨rs.take k ++ [⟨u', k', w', s'⟩] ++ rs.drop (k + 1), congrArg Out.fresh (by rw [List.map_append, List.map_append, List.map_take, List.map_drop]; rfl), hB.bent (r' := ⟨u', k', w', s'⟩) hr h2 h3 h4 ?_, h5⟩⟩
    rcases h1 with h1 | ⟨v, v', e1, e2, e3, e4⟩
    · exact .inl h1
    · exact .inr fun l' q1 q2 => by
        obtain rfl := lu l' q1 q2
        exact ⟨v, v', e1, e2, fun _ => ⟨e3, e4⟩⟩
  have tail : XS T_law_bent_v2 bent_tail ⟨[.val (.cell 0), .val (.lst (rs.map rtD)), .val (.int (k : Int)), .val (.int m), .val (optD r.u), .val (optD r.k), .val (.str r.w), .val (.str r.s), .val (.int l)], s2⟩ K := by
    clear hr hr' k1 k2 lu hB hp hp1 hret
    unfold bent_tail
    refine XS_cons ?_
    have hm : m = 0 ∨ m = 1 ∨ m = 2 ∨ m = 3 := by omega
    rcases hm with rfl | rfl | rfl | rfl
    · -- the unit
      walk_at "s"
      refine C_draw (by with_unfolding_all exact rfl) hp2 (by omega) (by omega) (by omega) fun n s3 n0 n1 hp3 => ?_
      refine isV ?_
      have hq : RwN (X + 41) ⟨r.u, r.k, r.w, r.s⟩ := fun u hu => ⟨(hN u hu).1, by have := (hN u hu).2; omega⟩
      cases hk : r.k with
      | none =>
        walk_at "s"
        refine C_pick (by with_unfolding_all exact rfl) hp3 (by omega) (by simp) (by simp) fun x s4 hx hp4 => ?_
        obtain ⟨x, rfl, hx'⟩ : ∃ q : Option Int, x = optD q ∧ ∀ u, q = some u → 0 < u ∧ u < X + 41 := by
          simp only [List.mem_cons, List.not_mem_nil, or_false] at hx
          rcases hx with rfl | rfl | rfl
          · exact ⟨none, rfl, fun u hu => nomatch hu⟩
          · exact ⟨some (1 + n), rfl, fun u hu => by cases hu; omega⟩
          · exact ⟨some 2, rfl, fun u hu => by cases hu; omega⟩
        refine isS_val ?_
        repeat (refine N_thn ?_; first | exact last r.u x r.w r.s _ (.inl rfl) hx' hW hS (hp4.mono (by omega)) | walk_at "s")
      | some v =>
        have v0 := hN v hk
        walk_at "s"
        refine O_add (x := v) ?_
        walk_at "s"
        refine C_pick (by with_unfolding_all exact rfl) hp3 (by omega) (by simp) (by simp) fun x s4 hx hp4 => ?_
        obtain ⟨x, rfl, hx'⟩ : ∃ q : Option Int, x = optD q ∧ ∀ u, q = some u → 0 < u ∧ u < X + 41 := by
          simp only [List.mem_cons, List.not_mem_nil, or_false] at hx
          rcases hx with rfl | rfl | rfl
          · exact ⟨none, rfl, fun u hu => nomatch hu⟩
          · exact ⟨some (1 + n), rfl, fun u hu => by cases hu; omega⟩
          · exact ⟨some (v + 1), rfl, fun u hu => by cases hu; omega⟩
        refine isS_val ?_
        repeat (refine N_thn ?_; first | exact last r.u x r.w r.s _ (.inl rfl) hx' hW hS (hp4.mono (by omega)) | walk_at "s")
    · walk_at "s"
      refine N_thn ?_
      walk_at "s"
      refine C_way (by with_unfolding_all exact rfl) hp2 (by omega) fun w s3 hw hp3 => ?_
      refine isS_val ?_
      repeat (refine N_thn ?_; first | exact last r.u r.k w r.s _ (.inl rfl) (fun u hu => ⟨(hN u hu).1, by have := (hN u hu).2; omega⟩) hw hS (hp3.mono (by omega)) | walk_at "s")
    · walk_at "s"
      refine N_thn ?_
      walk_at "s"
      refine N_thn ?_
      walk_at "s"
      refine C_pick (by with_unfolding_all exact rfl) hp2 (by omega) (by simp) (by simp) fun x s4 hx hp4 => ?_
      obtain ⟨x, rfl, hx'⟩ : ∃ q : Str, x = .str q ∧ PyData.strOk q = true := by
        simp only [List.mem_cons, List.not_mem_nil, or_false] at hx
        rcases hx with rfl | rfl | rfl
        · exact ⟨_, rfl, by decide +kernel⟩
        · exact ⟨_, rfl, by decide +kernel⟩
        · exact ⟨_, rfl, by decide +kernel⟩
      refine isS_val ?_
      repeat (refine N_thn ?_; first | exact last r.u r.k r.w x _ (.inl rfl) (fun u hu => ⟨(hN u hu).1, by have := (hN u hu).2; omega⟩) hW hx' (hp4.mono (by omega)) | walk_at "s")
    · walk_at "s"
      refine N_thn ?_
      walk_at "s"
      refine N_thn ?_
      walk_at "s"
      refine N_thn ?_
      cases hu : r.u with
      | none =>
        walk_at "s"
        repeat (refine N_thn ?_; first | exact last none r.k r.w r.s _ (.inl hu.symm) (fun u hu => ⟨(hN u hu).1, by have := (hN u hu).2; omega⟩) hW hS (hp2.mono (by omega)) | walk_at "s")
      | some v =>
        have v0 := hv9 v hu
        have hvB : v < X := by
          have k5 := k3.2.2.2
          rw [hu] at k5
          have := k5.2
          cases hd : rs.drop (k + 1) with
          | nil => rw [hd] at this; exact this.elim
          | cons y ys => rw [hd] at this; exact this.2.2.1
        clear k3
        walk_at "s"
        refine C_draw (by with_unfolding_all exact rfl) hp2 (by omega) (by omega) (by omega) fun n s3 n0 n1 hp3 => ?_
        refine isV ?_
        walk_at "s"
        repeat (refine N_thn ?_; first | exact last (some (l + 1 + n)) r.k r.w r.s _ (.inr ⟨v, _, hu, rfl, by omega, by omega⟩) (fun u hu => ⟨(hN u hu).1, by have := (hN u hu).2; omega⟩) hW hS (hp3.mono (by omega)) | walk_at "s")
  refine XS_cons ?_
  walk_at "s"
  refine ix_nat hr' ?_
  rw [hrt]
  walk_at "s"
  refine N_thn ?_
  cases k with
  | zero =>
    obtain rfl := k1 rfl
    walk_at "s"
    refine N_thn ?_
    exact tail
  | succ j =>
    obtain ⟨p, hp', hpu⟩ := k2 j rfl
    walk_at "s"
    refine ix_sub (by rw [List.getElem?_map, hp']; rfl) ?_
    have hrt : rtD p = .tup [optD p.u, optD p.k, .str p.w, .str p.s] := rfl
    rw [hrt, hpu]
    walk_at "s"
    refine N_thn ?_
    exact tail))) Xz.mk
end
end
section
open PySem L2
/-! ### the first age at which labels are unlike is not far -/
theorem maxL_spec (i : Int) (is : List Int) : maxL (i :: is) ∈ i :: is ∧ ∀ y ∈ i :: is, y ≤ maxL (i :: is) := @Rz _ _ (fun qz => @Hz.get _ _ (qz.bar : Hz _ (by
  clear qz
  have key : ∀ (l : List Int) (a : Int), (l.foldl (fun a b => if b > a then b else a) a) ∈ a :: l ∧ ∀ y ∈ a :: l, y ≤ l.foldl (fun a b => if b > a then b else a) a := by
    intro l
    induction l with
    | nil => intro a; simp
    | cons b l ih =>
      intro a
      obtain ⟨h1, h2⟩ := ih (if b > a then b else a)
      refine ⟨?_, fun y hy => ?_⟩
      · show List.foldl _ (if b > a then b else a) l ∈ _
        rcases List.mem_cons.mp h1 with h | h
        · rw [h]
          split
          · exact .tail _ (.head _)
          · exact .head _
        · exact .tail _ (.tail _ h)
      · show y ≤ List.foldl _ (if b > a then b else a) l
        have h3 := h2 _ (.head _)
        rcases List.mem_cons.mp hy with h | h
        · subst h
          refine Int.le_trans ?_ h3
          split <;> omega
        · rcases List.mem_cons.mp h with h | h
          · subst h
            refine Int.le_trans ?_ h3
            split <;> omega
          · exact h2 y (.tail _ h)
  exact key is i))) Xz.mk
theorem maxL_app {l : List Int} {c : Int} : (∀ y ∈ l, y ≤ maxL (l ++ [c])) ∧ c ≤ maxL (l ++ [c]) ∧ ∀ X, (∀ y ∈ l, y ≤ X) → c ≤ X → maxL (l ++ [c]) ≤ X := @Rz _ _ (fun qz => @Hz.get _ _ (qz.bar : Hz _ (by
  clear qz
  obtain ⟨x, t, e⟩ : ∃ x t, l ++ [c] = x :: t := by cases l with | nil => exact ⟨_, _, rfl⟩ | cons a l => exact ⟨_, _, rfl⟩
  have h := maxL_spec x t
  rw [← e] at h
  refine ⟨fun y hy => h.2 y (List.mem_append.mpr (.inl hy)), h.2 c (List.mem_append.mpr (.inr (.head _))), fun X h1 h2 => ?_⟩
  rcases List.mem_append.mp h.1 with z | z
  · exact h1 _ z
  · rw [List.mem_singleton.mp z]; exact h2))) Xz.mk
theorem lowOf_in : ∀ {rs : List Rw} {low : Int}, lowOf low rs = low ∨ lowOf low rs = 0 ∨ lowOf low rs ∈ rs.filterMap (·.u)
  | [], _ => .inl rfl
  | [r], _ => .inl rfl
  | r :: q :: rs, low => by
    have ih := @lowOf_in (q :: rs) (r.u.getD 0)
    have e : lowOf low (r :: q :: rs) = lowOf (r.u.getD 0) (q :: rs) := rfl
    rw [e]
    cases hu : r.u with
    | none =>
      rw [hu] at ih
      rw [List.filterMap_cons_none hu]
      rcases ih with h | h
      · exact .inr (.inl h)
      · exact .inr h
    | some v =>
      rw [hu] at ih
      rw [List.filterMap_cons_some hu]
      rcases ih with h | h | h
      · exact .inr (.inr (by rw [h]; exact .head _))
      · exact .inr (.inl h)
      · exact .inr (.inr (.tail _ h))
theorem unitOf_in : ∀ {rs : List Rw} {u : Int}, unitOf rs = some u → u ∈ rs.filterMap (·.k)
  | [], _, h => nomatch h
  | [r], u, h => by
    have h : r.k = some u := h
    rw [List.filterMap_cons_some h]; exact .head _
  | r :: q :: rs, u, h => by
    have ih := @unitOf_in (q :: rs) u h
    cases hu : r.k with
    | none => rw [List.filterMap_cons_none hu]; exact ih
    | some v => rw [List.filterMap_cons_some hu]; exact .tail _ ih
theorem far_alike {B B' : Int} {rs qs : List Rw} (h : Ok B 0 rs) (h' : Ok B' 0 qs) {U M : Int} (hU : ∀ y ∈ (rs ++ qs).filterMap (·.u), y ≤ U) (U0 : 0 ≤ U) (hM : ∀ y ∈ (rs ++ qs).filterMap (·.k), y ≤ M) (M1 : 1 ≤ M)
    (he : ∀ a, 0 ≤ a → a < U + 3 * M + 2 → lab rs a = lab qs a) : ∀ a, 0 ≤ a → lab rs a = lab qs a := @Rz _ _ (fun qz => @Hz.get _ _ (qz.bar : Hz _ (by
  clear qz
  rw [List.filterMap_append] at hU hM
  obtain ⟨a1, a2, a3, a4⟩ := low_lab h
  obtain ⟨b1, b2, b3, b4⟩ := low_lab h'
  have u1 : lowOf 0 rs ≤ U := by
    rcases @lowOf_in rs 0 with z | z | z
    · omega
    · omega
    · exact hU _ (List.mem_append.mpr (.inl z))
  have u2 : lowOf 0 qs ≤ U := by
    rcases @lowOf_in qs 0 with z | z | z
    · omega
    · omega
    · exact hU _ (List.mem_append.mpr (.inr z))
  let r : Rw := ⟨none, unitOf rs, wayOf rs, wrdOf rs⟩
  let r' : Rw := ⟨none, unitOf qs, wayOf qs, wrdOf qs⟩
  have hL : ∀ a, U ≤ a → Upto none a → lab rs a = rlab r a := fun a ha _ => by rw [a4 a (by omega)]; unfold rlab; cases z : unitOf rs <;> simp [r, z]
  have hL' : ∀ a, U ≤ a → Upto none a → lab qs a = rlab r' a := fun a ha _ => by rw [b4 a (by omega)]; unfold rlab; cases z : unitOf qs <;> simp [r', z]
  have up : ∀ a, Upto none a := fun a v z => nomatch z
  have go : IsFU (lab rs) (lab qs) U none none := by
    have heU := he U U0 (by omega)
    cases hk : r.k with
    | none => exact fu_none hL hL' (up _) heU hk
    | some u =>
      obtain ⟨u', hk', hss, hc⟩ := fu_both hL hL' (up _) heU hk
      obtain ⟨c1, _⟩ := a3 u hk
      obtain ⟨d1, _⟩ := b3 u' hk'
      have c2 := hM u (List.mem_append.mpr (.inl (unitOf_in hk)))
      have d2 := hM u' (List.mem_append.mpr (.inr (unitOf_in hk')))
      have f1 := fwi_gt (low := U) (o := off r.w u) c1
      have f2 := fwi_gt (low := U) (o := off r'.w u') d1
      have no : ∀ m, U ≤ m → m < U + 3 * M + 2 → ¬ IsFU (lab rs) (lab qs) U none (some m) := fun m g1 g2 g3 => (g3.yes m rfl).2.2.1 (he m (by omega) g2)
      have M' := fun m => @fu_m _ _ U none r r' u u' m hL hL' hk hk' c1 d1 hss hc
      by_cases hf : fwi U u (off r.w u) = fwi U u' (off r'.w u')
      · by_cases hu : u = u'
        · subst hu
          exact fu_same hL hL' hk hk' c1 hss hc hf
        · exact absurd ((M' _ (.inr ⟨hf, hu, rfl⟩)).1 (up _)) (no _ (by omega) (by omega))
      · exact absurd ((M' _ (.inl ⟨hf, rfl⟩)).1 (up _)) (no _ (by omega) (by omega))
  intro a ha
  by_cases z : a < U
  · exact he a ha (by omega)
  · exact go.no rfl a (by omega) (up a)))) Xz.mk
theorem IsUnl.scale {L L' M M' : Int → Lb} {F : Int} {o q : Option Int} (hF : 0 < F) (hM : ∀ a, M a = L (a / F)) (hM' : ∀ a, M' a = L' (a / F)) (h : IsUnl L L' o) (k : IsUnl M M' q) : q = o.map (· * F) := @Rz _ _ (fun qz => @Hz.get _ _ (qz.bar : Hz _ (by
  clear qz
  refine k.uniq ?_
  cases o with
  | none => exact ⟨fun _ a ha => by rw [hM, hM', h.no rfl _ (Int.ediv_nonneg ha (by omega))], fun b z => nomatch z⟩
  | some b =>
    obtain ⟨h1, h2, h3⟩ := h.yes b rfl
    refine ⟨fun z => (nomatch z), fun c z => ?_⟩
    have z : b * F = c := Option.some.inj z
    subst z
    refine ⟨Int.mul_nonneg h1 (by omega), by rw [hM, hM', Int.mul_ediv_cancel _ (by omega)]; exact h2, fun a g1 g2 => ?_⟩
    rw [hM, hM']
    exact h3 _ (Int.ediv_nonneg g1 (by omega)) (Int.ediv_lt_of_lt_mul hF g2)))) Xz.mk
end
section
open PySem L2
section
variable {T : Tab} {fr : Fr} {PX : PXt} {K : SxP}
theorem AD_addL {i j : Nat} {xs ys : List D} {PD : D → Fr → Prop} (e : fr.env[i]? = some (.val (.lst xs))) (e' : fr.env[j]? = some (.val (.lst ys))) (hl : xs.length + ys.length ≤ 16777216) (h : PD (.lst (xs ++ ys)) fr) : AD T (.bin .add (.slot i) (.slot j)) fr PD PX :=
  AD_of (A_bin (A_slot e (A_slot e' ⟨.lst xs, .lst ys, .fresh (xs ++ ys), rfl, rfl, by
    show (if xs.length + ys.length ≤ sizeLine then _ else none) = _
    rw [size_is, if_pos hl], .lst (xs ++ ys), _, rfl, h⟩)))
theorem V_max1add {i : Nat} {l : List Int} {c : Int} {PD : D → Fr → Prop} (e : fr.env[i]? = some (.own (l.map D.int))) (hl : l.length ≤ 16000000) (h : PD (.int (maxL (l ++ [c]))) fr) : AV T (.bi .max1 [.bin .add (.slot i) (.lst [.int c])]) fr PD PX :=
  V_bi (AP_cons (A_bin (A_own e (A_lst (AS_consV (V_int (AS_nil ⟨by rw [size_is]; show 1 ≤ 16777216; omega, .lst (l.map D.int), .lst [.int c], .fresh (l.map D.int ++ [.int c]), by show (match fr.env[i]? with | some (.own xs) => _ | some (.val d) => _ | _ => _) = _; rw [e], rfl, by
    show (if (l.map D.int).length + 1 ≤ sizeLine then _ else none) = _
    rw [size_is, List.length_map, if_pos (by omega)], AP_nil ⟨[.lst ((l ++ [c]).map D.int)], .int (maxL (l ++ [c])), by rw [List.map_append]; rfl, by
      obtain ⟨x, t, ex⟩ : ∃ x t, l ++ [c] = x :: t := by cases l with | nil => exact ⟨_, _, rfl⟩ | cons a l => exact ⟨_, _, rfl⟩
      rw [ex]
      show (match intsD ((x :: t).map D.int) with | some (i :: is) => some (Out.val (.int (maxL (i :: is)))) | _ => none) = _
      rw [intsD_map], h⟩⟩)))))))
end
section
local macro_rules | `(tactic| walk_at "w") => `(tactic| repeat' first
  | (with_reducible refine' V_max1add ?s1 ?s2 ?_; (case s1 => with_unfolding_all exact rfl); (case s2 => omega))
  | fail "a1p"
  | (with_reducible refine' Ix_id ?s1 ?_; (case s1 => with_unfolding_all exact rfl))
  | (with_reducible refine' Il_id ?s1 ?s2 ?_; (case s1 => with_unfolding_all exact rfl); (case s2 => assumption))
  | (with_reducible refine' V_pop ?s1 ?s2 ?_; (case s1 => with_unfolding_all exact rfl); (case s2 => assumption))
  | (with_reducible refine C_isnTup ?_)
  | (with_reducible refine C_isTup ?_)
  | (with_reducible refine C_neSt0 ?_)
  | (with_reducible refine C_eqSt0 ?_)
  | (with_reducible refine C_eqOI ?_)
  | (with_reducible refine C_neOI ?_)
  | (with_reducible refine C_isO ?_)
  | (with_reducible refine C_isnO ?_)
  | (with_reducible refine' C_llab ?s1 ?s2 ?s3 ?s4 ?_; (case s1 => with_unfolding_all exact rfl); (case s2 => assumption); (case s3 => omega); (case s4 => omega))
  | (with_reducible refine' C_neLb ?s1 ?s2 ?_; (case s1 => first | assumption | exact lab_ok _ (by assumption)); (case s2 => first | assumption | exact lab_ok _ (by assumption)))
  | fail "a2")
local macro_rules | `(tactic| walk_at "s") => `(tactic| repeat' first
  | (with_reducible refine' V_max1add ?s1 ?s2 ?_; (case s1 => with_unfolding_all exact rfl); (case s2 => omega))
  | fail "a1p"
  | (with_reducible refine' Ix_id ?s1 ?_; (case s1 => with_unfolding_all exact rfl))
  | (with_reducible refine' Il_id ?s1 ?s2 ?_; (case s1 => with_unfolding_all exact rfl); (case s2 => assumption))
  | (with_reducible refine' V_pop ?s1 ?s2 ?_; (case s1 => with_unfolding_all exact rfl); (case s2 => assumption))
  | (with_reducible refine C_isnTup ?_)
  | (with_reducible refine C_isTup ?_)
  | (with_reducible refine C_neSt0 ?_)
  | (with_reducible refine C_eqSt0 ?_)
  | (with_reducible refine C_eqOI ?_)
  | (with_reducible refine C_neOI ?_)
  | (with_reducible refine C_isO ?_)
  | (with_reducible refine C_isnO ?_)
  | (with_reducible refine' C_llab ?s1 ?s2 ?s3 ?s4 ?_; (case s1 => with_unfolding_all exact rfl); (case s2 => assumption); (case s3 => omega); (case s4 => omega))
  | (with_reducible refine' C_neLb ?s1 ?s2 ?_; (case s1 => first | assumption | exact lab_ok _ (by assumption)); (case s2 => first | assumption | exact lab_ok _ (by assumption)))
  | fail "a2s")
theorem law_first_unlike_is {rs qs : List Rw} {X : Int} {s : List Cell} (h : Ok X 0 rs) (h' : Ok X 0 qs) (hX : X ≤ 1000000000) (hl : rs.length ≤ 1000) (hl' : qs.length ≤ 1000) (hs : SOk rs) (hs' : SOk qs) :
    (p_law_first_unlike [.lst (rs.map rtD), .lst (qs.map rtD)] s).all (fun o s' => s' = s ∧ ∃ e, o = .val (optD e) ∧ IsUnl (lab rs) (lab qs) e) (fun _ _ _ => False) := @Rz _ _ (fun qz => @Hz.get _ _ (qz.bar : Hz _ (by
  clear qz
  refine fx_allK rfl (env := [.val (.lst (rs.map rtD)), .val (.lst (qs.map rtD)), .un, .un, .un, .un]) rfl fun K hret _ _ => ?_
  have hw : WOk rs := ⟨h.mono (by omega), hl⟩
  have hw' : WOk qs := ⟨h'.mono (by omega), hl'⟩
  have hl1 : (rs.map rtD).length ≤ 1000 := by rw [List.length_map]; exact hl
  have hl2 : (qs.map rtD).length ≤ 1000 := by rw [List.length_map]; exact hl'
  have hfu : ((rs ++ qs).filterMap (·.u)).length ≤ 2000 := Nat.le_trans (List.length_filterMap_le _ _) (by rw [List.length_append]; omega)
  have hfk : ((rs ++ qs).filterMap (·.k)).length ≤ 2000 := Nat.le_trans (List.length_filterMap_le _ _) (by rw [List.length_append]; omega)
  have okn : ∀ {rs : List Rw} {l : Int}, Ok X l rs → (∀ r ∈ rs, ∀ u, r.k = some u → 0 < u ∧ u < X) ∧ ∀ r ∈ rs, ∀ v, r.u = some v → 0 ≤ v ∧ v < X := by
    intro rs
    induction rs with
    | nil => intro l h; exact h.elim
    | cons r rs ih =>
      intro l h
      obtain ⟨h1, h2, h3, h4⟩ := h
      cases q : r.u with
      | none =>
        rw [q] at h4
        cases h4
        refine ⟨fun x hx => ?_, fun x hx v hv => ?_⟩
        · cases List.mem_singleton.mp hx
          exact h1
        · cases List.mem_singleton.mp hx
          rw [q] at hv; cases hv
      | some v =>
        rw [q] at h4
        obtain ⟨i1, i2⟩ := ih h4.2
        refine ⟨fun x hx => ?_, fun x hx w hw => ?_⟩
        · rcases List.mem_cons.mp hx with rfl | hx
          · exact h1
          · exact i1 x hx
        · rcases List.mem_cons.mp hx with rfl | hx
          · rw [q] at hw
            cases hw
            cases rs with
            | nil => exact h4.2.elim
            | cons y ys => exact ⟨by omega, h4.2.2.2.1⟩
          · exact i2 x hx w hw
  have hyU : ∀ y ∈ (rs ++ qs).filterMap (·.u), y ≤ X := fun y hy => by
    obtain ⟨r, hr, e⟩ := List.mem_filterMap.mp hy
    rcases List.mem_append.mp hr with z | z
    · exact Int.le_of_lt ((okn h).2 r z y e).2
    · exact Int.le_of_lt ((okn h').2 r z y e).2
  have hyK : ∀ y ∈ (rs ++ qs).filterMap (·.k), y ≤ X := fun y hy => by
    obtain ⟨r, hr, e⟩ := List.mem_filterMap.mp hy
    rcases List.mem_append.mp hr with z | z
    · exact Int.le_of_lt ((okn h).1 r z y e).2
    · exact Int.le_of_lt ((okn h').1 r z y e).2
  have X1 : 1 ≤ X := by
    cases rs with
    | nil => exact h.elim
    | cons r t => have := h.2.2.1; omega
  obtain ⟨u1, u2, u3⟩ := @maxL_app ((rs ++ qs).filterMap (·.u)) 0
  obtain ⟨m1, m2, m3⟩ := @maxL_app ((rs ++ qs).filterMap (·.k)) 1
  have u4 := u3 X hyU (by omega)
  have m4 := m3 X hyK (by omega)
  have far := @far_alike X X rs qs h h' _ _ u1 u2 m1 m2
  clear u1 u3 m1 m3 okn hyU hyK
  have eu : (rs ++ qs).filterMap (fun r => r.u.map D.int) = ((rs ++ qs).filterMap (·.u)).map D.int := by rw [List.map_filterMap]
  have ek : (rs ++ qs).filterMap (fun r => r.k.map D.int) = ((rs ++ qs).filterMap (·.k)).map D.int := by rw [List.map_filterMap]
  have ea : rs.map rtD ++ qs.map rtD = (rs ++ qs).map rtD := by rw [List.map_append]
  have hla : (rs ++ qs).length ≤ 2000 := by rw [List.length_append]; omega
  unfold b_law_first_unlike
  walk_at "s"
  refine A_compL (α := Rw) (AI_seq (AD_addL rfl rfl (by omega) ⟨_, rfl, rtD, rs ++ qs, fun r => r.u.map D.int, ea, rfl, rfl, by omega, fun x acc hx => ⟨_, rfl, rfl, AC_some ?_⟩, ?_⟩))
  · rcases x with ⟨_ | v, xk, xw, xs⟩
    · walk_at "s"
      exact ⟨rfl, fun z => Bool.noConfusion z, fun _ => rfl⟩
    · walk_at "s"
      refine ⟨rfl, fun _ => ?_, fun z => Bool.noConfusion z⟩
      walk_at "s"
      exact ⟨rfl, rfl⟩
  rw [eu]
  refine ⟨_, rfl, ?_⟩
  refine N_thn ?_
  walk_at "s"
  refine A_compL (α := Rw) (AI_seq (AD_addL rfl rfl (by omega) ⟨_, rfl, rtD, rs ++ qs, fun r => r.k.map D.int, ea, rfl, rfl, by omega, fun x acc hx => ⟨_, rfl, rfl, AC_some ?_⟩, ?_⟩))
  · rcases x with ⟨xu, _ | v, xw, xs⟩
    · walk_at "s"
      exact ⟨rfl, fun z => Bool.noConfusion z, fun _ => rfl⟩
    · walk_at "s"
      refine ⟨rfl, fun _ => ?_, fun z => Bool.noConfusion z⟩
      walk_at "s"
      exact ⟨rfl, rfl⟩
  rw [ek]
  refine ⟨_, rfl, ?_⟩
  refine N_thn ?_
  refine XS_cons ?_
  with_reducible refine X_forIK (AI_range1V ?_)
  walk_at "s"
  generalize hN : maxL ((rs ++ qs).filterMap (fun x => x.u) ++ [0]) + 3 * maxL ((rs ++ qs).filterMap (fun x => x.k) ++ [1]) + 2 = N at far
  have hN1 : 0 ≤ N ∧ N < 10000000000 := by omega
  clear hN u2 m2 u4 m4 eu ek ea hfu hfk
  generalize ((rs ++ qs).filterMap (fun x => x.u)).map D.int = us9
  generalize ((rs ++ qs).filterMap (fun x => x.k)).map D.int = ks9
  refine ⟨⟨by omega, by omega⟩, fun i fr => (∀ a, 0 ≤ a → a < (i : Int) → lab rs a = lab qs a) ∧ ∃ s4 s5, fr = ⟨[.val (.lst (rs.map rtD)), .val (.lst (qs.map rtD)), .own us9, .own ks9, s4, s5], s⟩, ⟨fun a h1 h2 => by omega, _, _, rfl⟩, ?_, ?_⟩
  · rintro i y fr hy ⟨hI, s4, s5, rfl⟩
    obtain ⟨hi, rfl⟩ := range_at hy
    have hi' : (0 : Int) + i < 10000000000 := by omega
    refine ⟨_, rfl, fun K' kp => ?_⟩
    have hnx := fun (z : ∀ a, 0 ≤ a → a < ((i + 1 : Nat) : Int) → lab rs a = lab qs a) s4 s5 => kp.next ⟨[.val (.lst (rs.map rtD)), .val (.lst (qs.map rtD)), .own us9, .own ks9, s4, s5], s⟩ ⟨z, _, _, rfl⟩
    have hrt := fun (z : IsUnl (lab rs) (lab qs) (some (0 + (i : Int)))) fr (y : fr.sto = s) => kp.ret _ _ (hret (.val (optD (some (0 + (i : Int))))) fr ⟨y, _, rfl, z⟩)
    clear kp hret
    generalize hj : (0 : Int) + i = j at *
    by_cases hne : lab rs j = lab qs j
    · refine XS_norm (env := [.val (.lst (rs.map rtD)), .val (.lst (qs.map rtD)), .own us9, .own ks9, .val (.int j), s5]) rfl rfl ?_
      refine XS_cons ?_
      walk_at "s"
      refine N_thn ?_
      exact hnx (fun a h1 h2 => by
        by_cases z : a < i
        · exact hI a h1 z
        · rw [show a = j by omega]; exact hne) _ _
    · refine XS_norm (env := [.val (.lst (rs.map rtD)), .val (.lst (qs.map rtD)), .own us9, .own ks9, .val (.int j), s5]) rfl rfl ?_
      refine XS_cons ?_
      walk_at "s"
      exact hrt ⟨fun z => (nomatch z), fun b z => by
        cases z
        exact ⟨by omega, hne, fun a h1 h2 => hI a h1 (by omega)⟩⟩ _ rfl
  · rintro fr ⟨hI, s4, s5, rfl⟩
    rw [rangeD_len] at hI
    refine N_thn ?_
    walk_at "s"
    exact hret _ _ ⟨rfl, none, rfl, fun _ => far fun a h1 h2 => hI a h1 (by omega), fun b z => nomatch z⟩))) Xz.mk
end
section
variable {T : Tab} {P : Out → List Cell → Prop} {PX : Nat → List D → List Cell → Prop} {s : List Cell} {rs qs : List Rw} {X B : Int}
theorem C_lfun (hT : T.phi 355 = p_law_first_unlike) (h : Ok X 0 rs) (h' : Ok X 0 qs) (hX : X ≤ 1000000000) (hl : rs.length ≤ 1000) (hl' : qs.length ≤ 1000) (hs : SOk rs) (hs' : SOk qs) (k : ∀ e, IsUnl (lab rs) (lab qs) e → P (.val (optD e)) s) :
    (T.phi 355 [.lst (rs.map rtD), .lst (qs.map rtD)] s).all P PX := @Rz _ _ (fun qz => @Hz.get _ _ (qz.bar : Hz _ (by
  clear qz
  rw [hT]
  refine fx_imp (law_first_unlike_is h h' hX hl hl' hs hs') (fun o s h => ?_) fun _ _ _ z => z.elim
  obtain ⟨rfl, e, rfl, h1⟩ := h
  exact k e h1))) Xz.mk
theorem C_split (hT : T.phi 475 = p_law_split) (hB : Bent X rs) (hX : X ≤ 100000) (hp : Pn B s) (hB2 : B < 10000000000000000000000000000) (k : ∀ o qs s', (o = .val (.lst (qs.map rtD)) ∨ o = .fresh (qs.map rtD)) → (rs.length ≤ 6 → Bent (X + 41) qs) → Pn (B + 10) s' → P o s') :
    (T.phi 475 [.cell 0, .lst (rs.map rtD)] s).all P PX := @Rz _ _ (fun qz => @Hz.get _ _ (qz.bar : Hz _ (by
  clear qz
  rw [hT]
  refine fx_imp (law_split_is hB hX hp hB2) (fun o s h => ?_) fun _ _ _ z => z.elim
  obtain ⟨qs, h1, h2, h3⟩ := h
  exact k o qs s h1 h2 h3))) Xz.mk
theorem C_bent (hT : T.phi 310 = p_law_bent_v2) (hB : Bent X rs) (hX : X ≤ 100000) (hX2 : 100 ≤ X) (hp : Pn B s) (hB2 : B < 10000000000000000000000000000) (k : ∀ qs s', Bent (X + 41) qs → Pn (B + 20) s' → P (.fresh (qs.map rtD)) s') :
    (T.phi 310 [.cell 0, .lst (rs.map rtD)] s).all P PX := @Rz _ _ (fun qz => @Hz.get _ _ (qz.bar : Hz _ (by
  clear qz
  rw [hT]
  refine fx_imp (law_bent2_is hB hX hX2 hp hB2) (fun o s h => ?_) fun _ _ _ z => z.elim
  obtain ⟨qs, rfl, h2, h3⟩ := h
  exact k qs s h2 h3))) Xz.mk
end
end
section
open PySem L2
section
variable {T : Tab} {fr : Fr} {PX : PXt} {K : SxP}
theorem X_asgIteC {c : Tm} {i f g : Nat} {ts us : List Tm} (h : AV T c fr (fun d fr1 => ∃ k, d = .bl k ∧
    (k = true → AS T ts fr1 (fun ds fr1 => (T.phi f ds fr1.sto).all (fun o s => ∃ e, IsS o e ∧ K.next (setE { fr1 with sto := s } i e)) (fun c fs s => K.exc c fs { fr1 with sto := s })) K.exc) ∧
    (k = false → AS T us fr1 (fun ds fr1 => (T.phi g ds fr1.sto).all (fun o s => ∃ e, IsS o e ∧ K.next (setE { fr1 with sto := s } i e)) (fun c fs s => K.exc c fs { fr1 with sto := s })) K.exc)) K.exc) : X T (.asg (.slot i) (.ite c (.call f ts) (.call g us))) fr K :=
  X_asg (A_iteV (A_imp h fun r fr1 z => by
    obtain ⟨d, rfl, k, rfl, h1, h2⟩ := z
    refine ⟨_, rfl, k, rfl, fun e => A_call (Rs.all_imp (h1 e) (fun ds fr1 z => fx_imp z (fun o s z => by
      obtain ⟨d, e, z⟩ := z
      cases e <;> exact z) fun _ _ _ z => z) fun _ _ _ z => z), fun e => A_call (Rs.all_imp (h2 e) (fun ds fr1 z => fx_imp z (fun o s z => by
      obtain ⟨d, e, z⟩ := z
      cases e <;> exact z) fun _ _ _ z => z) fun _ _ _ z => z)⟩))
end
theorem C_neOr {e : Option Int} {P : Bool → Prop} (h : P false) : ∃ k, cmpD .ne (optD e) (optD e) = some k ∧ P k := @Rz _ _ (fun qz => @Hz.get _ _ (qz.bar : Hz _ (by
  clear qz
  cases e with
  | none => exact ⟨_, rfl, h⟩
  | some v => exact ⟨_, rfl, by rw [decide_eq_true rfl]; exact h⟩))) Xz.mk
theorem Bent.dn {B : Int} {rs : List Rw} (h : Bent B rs) : Bent B (rs.map Ag.dn) := ⟨h.ok.dn, by rw [List.length_map]; exact h.len, fun r hr => by
  obtain ⟨x, hx, rfl⟩ := List.mem_map.mp hr
  exact .inl rfl, fun r hr => by
  obtain ⟨x, hx, rfl⟩ := List.mem_map.mp hr
  exact h.str x hx⟩
theorem ok_pos {B : Int} : ∀ {rs : List Rw} {l : Int}, Ok B l rs → ∀ r ∈ rs, ∀ u, r.k = some u → 0 < u
  | [], _, h => h.elim
  | r :: rs, l, ⟨h1, _, _, h4⟩ => fun x hx u hu => by
    rcases List.mem_cons.mp hx with rfl | hx
    · exact (h1 u hu).1
    · cases q : r.u with
      | none => rw [q] at h4; rw [h4] at hx; cases hx
      | some v => rw [q] at h4; exact ok_pos h4.2 x hx u hu
theorem IsUnl.bound {B : Int} {rs qs : List Rw} {b : Int} (h : Ok B 0 rs) (h' : Ok B 0 qs) (hB : ∀ rs : List Rw, Ok B 0 rs → (∀ y ∈ rs.filterMap (·.u), y ≤ B) ∧ ∀ y ∈ rs.filterMap (·.k), y ≤ B) (i : IsUnl (lab rs) (lab qs) (some b)) : 0 ≤ b ∧ b < 4 * B + 2 := @Rz _ _ (fun qz => @Hz.get _ _ (qz.bar : Hz _ (by
  clear qz
  obtain ⟨h1, h2, h3⟩ := i.yes b rfl
  refine ⟨h1, ?_⟩
  have B1 : 0 < B := by
    cases rs with
    | nil => exact h.elim
    | cons r t => exact h.2.2.1
  refine Classical.byContradiction fun z => h2 (far_alike h h' (U := B) (M := B) (fun y hy => ?_) (by omega) (fun y hy => ?_) (by omega) (fun a g1 g2 => h3 a g1 (by omega)) b h1)
  · rw [List.filterMap_append] at hy
    rcases List.mem_append.mp hy with q | q
    · exact (hB rs h).1 y q
    · exact (hB qs h').1 y q
  · rw [List.filterMap_append] at hy
    rcases List.mem_append.mp hy with q | q
    · exact (hB rs h).2 y q
    · exact (hB qs h').2 y q))) Xz.mk
theorem ok_fm {B : Int} : ∀ {rs : List Rw} {l : Int}, Ok B l rs → (∀ y ∈ rs.filterMap (·.u), y ≤ B) ∧ ∀ y ∈ rs.filterMap (·.k), y ≤ B
  | [], _, h => h.elim
  | r :: rs, l, ⟨h1, h2, h3, h4⟩ => by
    have hk : ∀ x, r.k = some x → x ≤ B := fun x hx => Int.le_of_lt (h1 x hx).2
    cases q : r.u with
    | none =>
      rw [q] at h4
      cases h4
      refine ⟨fun y hy => ?_, fun y hy => ?_⟩
      · obtain ⟨x, hx, e⟩ := List.mem_filterMap.mp hy
        cases List.mem_singleton.mp hx
        rw [q] at e; cases e
      · obtain ⟨x, hx, e⟩ := List.mem_filterMap.mp hy
        cases List.mem_singleton.mp hx
        exact hk y e
    | some v =>
      rw [q] at h4
      obtain ⟨i1, i2⟩ := ok_fm h4.2
      refine ⟨fun y hy => ?_, fun y hy => ?_⟩
      · obtain ⟨x, hx, e⟩ := List.mem_filterMap.mp hy
        rcases List.mem_cons.mp hx with rfl | hx
        · rw [q] at e
          cases e
          cases rs with
          | nil => exact h4.2.elim
          | cons z zs => exact Int.le_of_lt h4.2.2.2.1
        · exact i1 y (List.mem_filterMap.mpr ⟨x, hx, e⟩)
      · obtain ⟨x, hx, e⟩ := List.mem_filterMap.mp hy
        rcases List.mem_cons.mp hx with rfl | hx
        · exact hk y e
        · exact i2 y (List.mem_filterMap.mpr ⟨x, hx, e⟩)
def k29_tail : List Stm := [.asg (.slot 6) (.call 355 [.slot 3, .slot 4]), .par [7, 8] [.call 414 [.slot 3], .call 414 [.slot 4]], .ite (.or_ (.cmp .ne (.call 68 [.slot 7, .slot 8]) (.slot 6)) (.or_ (.cmp .ne (.call 68 [.slot 8, .slot 7]) (.slot 6)) (.cmp .isn (.call 68 [.slot 7, .call 414 [.slot 3]]) .non))) [.ret (.bl false)] [], .asg (.slot 9) (.call 202 [.slot 1, .lst [.int 2, .bin .pow (.int 10) (.int 20)]]), .asg (.slot 3) (.comp (.tup [.ix (.slot 11) (.int 0), .ix (.slot 11) (.int 1), .str "down", .ix (.slot 11) (.int 3)]) (.slot 11) (.seq (.slot 3)) none [11]), .asg (.slot 4) (.comp (.tup [.ix (.slot 11) (.int 0), .ix (.slot 11) (.int 1), .str "down", .ix (.slot 11) (.int 3)]) (.slot 11) (.seq (.slot 4)) none [11]), .asg (.slot 6) (.call 68 [.call 414 [.slot 3], .call 414 [.slot 4]]), .asg (.slot 10) (.call 68 [.call 414 [.call 481 [.slot 3, .slot 9]], .call 414 [.call 481 [.slot 4, .slot 9]]]), .ite (.cmp .ne (.slot 10) (.ite (.cmp .is_ (.slot 6) .non) .non (.bin .mul (.slot 6) (.slot 9)))) [.ret (.bl false)] []]
def k29_mid : List Stm := [.par [7, 8] [.call 414 [.slot 3], .call 414 [.slot 4]], .ite (.or_ (.cmp .ne (.call 68 [.slot 7, .slot 8]) (.slot 6)) (.or_ (.cmp .ne (.call 68 [.slot 8, .slot 7]) (.slot 6)) (.cmp .isn (.call 68 [.slot 7, .call 414 [.slot 3]]) .non))) [.ret (.bl false)] [], .asg (.slot 9) (.call 202 [.slot 1, .lst [.int 2, .bin .pow (.int 10) (.int 20)]]), .asg (.slot 3) (.comp (.tup [.ix (.slot 11) (.int 0), .ix (.slot 11) (.int 1), .str "down", .ix (.slot 11) (.int 3)]) (.slot 11) (.seq (.slot 3)) none [11]), .asg (.slot 4) (.comp (.tup [.ix (.slot 11) (.int 0), .ix (.slot 11) (.int 1), .str "down", .ix (.slot 11) (.int 3)]) (.slot 11) (.seq (.slot 4)) none [11]), .asg (.slot 6) (.call 68 [.call 414 [.slot 3], .call 414 [.slot 4]]), .asg (.slot 10) (.call 68 [.call 414 [.call 481 [.slot 3, .slot 9]], .call 414 [.call 481 [.slot 4, .slot 9]]]), .ite (.cmp .ne (.slot 10) (.ite (.cmp .is_ (.slot 6) .non) .non (.bin .mul (.slot 6) (.slot 9)))) [.ret (.bl false)] []]
def k29_tail2 : List Stm := [.asg (.slot 9) (.call 202 [.slot 1, .lst [.int 2, .bin .pow (.int 10) (.int 20)]]), .asg (.slot 3) (.comp (.tup [.ix (.slot 11) (.int 0), .ix (.slot 11) (.int 1), .str "down", .ix (.slot 11) (.int 3)]) (.slot 11) (.seq (.slot 3)) none [11]), .asg (.slot 4) (.comp (.tup [.ix (.slot 11) (.int 0), .ix (.slot 11) (.int 1), .str "down", .ix (.slot 11) (.int 3)]) (.slot 11) (.seq (.slot 4)) none [11]), .asg (.slot 6) (.call 68 [.call 414 [.slot 3], .call 414 [.slot 4]]), .asg (.slot 10) (.call 68 [.call 414 [.call 481 [.slot 3, .slot 9]], .call 414 [.call 481 [.slot 4, .slot 9]]]), .ite (.cmp .ne (.slot 10) (.ite (.cmp .is_ (.slot 6) .non) .non (.bin .mul (.slot 6) (.slot 9)))) [.ret (.bl false)] []]
section
local macro_rules | `(tactic| walk_at "w") => `(tactic| repeat' first
  | (with_reducible refine X_asgIteC ?_)
  | fail "a1p"
  | (with_reducible refine' Ix_id ?s1 ?_; (case s1 => with_unfolding_all exact rfl))
  | (with_reducible refine' Il_id ?s1 ?s2 ?_; (case s1 => with_unfolding_all exact rfl); (case s2 => assumption))
  | (with_reducible refine' V_pop ?s1 ?s2 ?_; (case s1 => with_unfolding_all exact rfl); (case s2 => assumption))
  | (with_reducible refine C_isnTup ?_)
  | (with_reducible refine C_isTup ?_)
  | (with_reducible refine C_neSt0 ?_)
  | (with_reducible refine C_eqSt0 ?_)
  | (with_reducible refine C_eqOI ?_)
  | (with_reducible refine C_neOI ?_)
  | (with_reducible refine C_isO ?_)
  | (with_reducible refine C_isnO ?_)
  | (with_reducible refine C_neOr ?_)
  | (with_reducible refine' C_made ?s1 ?s2 ?_; (case s1 => with_unfolding_all exact rfl); (case s2 => assumption))
  | (with_reducible refine' C_draw ?s1 ?s2 ?s3 ?s4 ?s5 ?_; (case s1 => with_unfolding_all exact rfl); (case s2 => assumption); (case s3 => omega); (case s4 => omega); (case s5 => omega); intro r s' hr0 hr1 hp)
  | fail "a2")
local macro_rules | `(tactic| walk_at "s") => `(tactic| repeat' first
  | (with_reducible refine X_asgIteC ?_)
  | fail "a1p"
  | (with_reducible refine' Ix_id ?s1 ?_; (case s1 => with_unfolding_all exact rfl))
  | (with_reducible refine' Il_id ?s1 ?s2 ?_; (case s1 => with_unfolding_all exact rfl); (case s2 => assumption))
  | (with_reducible refine' V_pop ?s1 ?s2 ?_; (case s1 => with_unfolding_all exact rfl); (case s2 => assumption))
  | (with_reducible refine C_isnTup ?_)
  | (with_reducible refine C_isTup ?_)
  | (with_reducible refine C_neSt0 ?_)
  | (with_reducible refine C_eqSt0 ?_)
  | (with_reducible refine C_eqOI ?_)
  | (with_reducible refine C_neOI ?_)
  | (with_reducible refine C_isO ?_)
  | (with_reducible refine C_isnO ?_)
  | (with_reducible refine C_neOr ?_)
  | (with_reducible refine' C_made ?s1 ?s2 ?_; (case s1 => with_unfolding_all exact rfl); (case s2 => assumption))
  | (with_reducible refine' C_draw ?s1 ?s2 ?s3 ?s4 ?s5 ?_; (case s1 => with_unfolding_all exact rfl); (case s2 => assumption); (case s3 => omega); (case s4 => omega); (case s5 => omega); intro r s' hr0 hr1 hp)
  | fail "a2s")
theorem keeps : Keeps p_law := @Rz _ _ (fun qz => @Hz.get _ _ (qz.bar : Hz _ (by
  clear qz
  intro ns hl
  refine fx_allK rfl (env := [.val (.rol (ns.map D.int)), .un, .un, .un, .un, .un, .un, .un, .un, .un, .un, .un]) rfl fun K hret _ _ => ?_
  unfold b_law
  walk_at "s"
  refine C_pen (by with_unfolding_all exact rfl) fun s0 hp0 => ?_
  refine isS_val ?_
  refine N_thn ?_
  refine XS_cons ?_
  with_reducible refine X_forIK (AI_range1V ?_)
  walk_at "s"
  have hM : 2 + min 4 ((ns.map D.int).length : Int) ≤ 6 ∧ 0 ≤ 2 + min 4 ((ns.map D.int).length : Int) := by omega
  generalize 2 + min 4 ((ns.map D.int).length : Int) = M at hM
  generalize ns.map D.int = scr
  refine ⟨⟨by omega, by omega⟩, fun i fr => i ≤ 6 ∧ ∃ st s2 s3 s4 s5 s6 s7 s8 s9 s10, Pn (100000 * i) st ∧ fr = ⟨[.val (.rol scr), .val (.cell 0), s2, s3, s4, s5, s6, s7, s8, s9, s10, .un], st⟩, ⟨by omega, _, _, _, _, _, _, _, _, _, _, hp0.mono (by omega), rfl⟩, ?_, ?_⟩
  · rintro i0 y fr hy ⟨hi8, st, s2, s3, s4, s5, s6, s7, s8, s9, s10, hp, rfl⟩
    obtain ⟨hi, rfl⟩ := range_at hy
    have hi9 : i0 < 6 := by omega
    clear hy hi
    refine ⟨_, rfl, fun K' kp => ?_⟩
    have tail : ∀ (rs os : List Rw) (st : List Cell) (s4 s5 : Slot), Bent 2000 rs → Bent 2200 os → s4 = .val (.lst (os.map rtD)) ∨ s4 = .own (os.map rtD) → Pn (100000 * (i0 : Int) + 1000) st →
        XS T_law k29_tail ⟨[.val (.rol scr), .val (.cell 0), .val (.int (0 + (i0 : Int))), .val (.lst (rs.map rtD)), s4, s5, s6, s7, s8, s9, s10, .un], st⟩ K' := by
      intro rs os st s4 s5 hB hB' h4 hp
      have hw := hB.wok (by decide)
      have hw' := hB'.wok (by decide)
      have hs := hB.str
      have hs' := hB'.str
      have hok := hB.ok.mono (show (2000 : Int) ≤ 1000000000 by decide)
      have hok' := hB'.ok.mono (show (2200 : Int) ≤ 1000000000 by decide)
      have hl := hB.len
      have hl' := hB'.len
      have hd := hB.dn
      have hd' := hB'.dn
      have hnx := fun st s2 s3 s4 s5 s6 s7 s8 s9 s10 (q : Pn (100000 * ((i0 + 1 : Nat) : Int)) st) => kp.next ⟨[.val (.rol scr), .val (.cell 0), s2, s3, s4, s5, s6, s7, s8, s9, s10, .un], st⟩ ⟨by omega, _, _, _, _, _, _, _, _, _, _, q, rfl⟩
      have tail2 : ∀ (s6 s7 s8 : Slot), XS T_law k29_tail2 ⟨[.val (.rol scr), .val (.cell 0), .val (.int (0 + (i0 : Int))), .val (.lst (rs.map rtD)), .val (.lst (os.map rtD)), s5, s6, s7, s8, s9, s10, .un], st⟩ K' := by
        intro s6 s7 s8
        clear hok hok' hw hw' hs hs'
        unfold k29_tail2
        refine XS_cons ?_
        walk_at "s"
        refine C_pick (by with_unfolding_all exact rfl) hp (by omega) (by simp) (by simp) fun x st2 hx hp2 => ?_
        obtain ⟨F, rfl, F0, F1⟩ : ∃ g : Int, x = .int g ∧ 0 < g ∧ g ≤ 100000000000000000000 := by
          simp only [List.mem_cons, List.not_mem_nil, or_false] at hx
          rcases hx with rfl | rfl
          all_goals exact ⟨_, rfl, by omega, by omega⟩
        clear hx
        refine isS_val ?_
        refine N_thn ?_
        walk_at "s"
        refine A_compM (α := Rw) (AI_seq (AD_V (V_slot rfl ⟨_, rfl, rtD, rs, fun r => rtD (dn r), rfl, rfl, rfl, by omega, fun x acc hx => ⟨_, rfl, rfl, ?_⟩, ?_⟩)))
        · walk_at "s"
          exact ⟨rfl, rfl⟩
        rw [show (rs.map fun r => rtD (dn r)) = (rs.map dn).map rtD by rw [List.map_map]; rfl]
        refine ⟨_, rfl, ?_⟩
        refine N_thn ?_
        walk_at "s"
        refine A_compM (α := Rw) (AI_seq (AD_V (V_slot rfl ⟨_, rfl, rtD, os, fun r => rtD (dn r), rfl, rfl, rfl, by omega, fun x acc hx => ⟨_, rfl, rfl, ?_⟩, ?_⟩)))
        · walk_at "s"
          exact ⟨rfl, rfl⟩
        rw [show (os.map fun r => rtD (dn r)) = (os.map dn).map rtD by rw [List.map_map]; rfl]
        refine ⟨_, rfl, ?_⟩
        refine N_thn ?_
        have hw := hd.wok (by decide)
        have hw' := hd'.wok (by decide)
        have hs := hd.str
        have hs' := hd'.str
        have hl := hd.len
        have hl' := hd'.len
        have L := fun a => @lab_scale F F0 (rs.map dn) (fun r hr => by obtain ⟨x, hx, rfl⟩ := List.mem_map.mp hr; rfl) (ok_pos hd.ok) a
        have L' := fun a => @lab_scale F F0 (os.map dn) (fun r hr => by obtain ⟨x, hx, rfl⟩ := List.mem_map.mp hr; rfl) (ok_pos hd'.ok) a
        have ot : ∀ {X : Int} {qs : List Rw}, Ok X 0 qs → X ≤ 2200 → qs.length ≤ 7 → WOk (qs.map (tms F)) := fun {X qs} h hX hl => by
          have h := Ok.times F0 h
          rw [Int.zero_mul] at h
          refine ⟨h.mono ?_, by rw [List.length_map]; omega⟩
          have : X * F ≤ 2200 * F := Int.mul_le_mul_of_nonneg_right hX (by omega)
          omega
        have ht := ot hd.ok (by omega) hl
        have ht' := ot hd'.ok (by omega) hl'
        have hst := hs.times (f := F)
        have hst' := hs'.times (f := F)
        have hok := hd.ok
        have hok' := hd'.ok
        clear ot hB hB' hd hd'
        generalize rs.map dn = rs at *
        generalize os.map dn = os at *
        walk_at "s"
        refine C_alike (by with_unfolding_all exact rfl) hw hs hw' hs' fun e1 he1 => ?_
        refine isS_val ?_
        refine N_thn ?_
        walk_at "s"
        refine C_times (by with_unfolding_all exact rfl) hok (by decide) (by omega) F0 (by omega) ?_
        refine isD_fresh ?_
        walk_at "s"
        refine C_times (by with_unfolding_all exact rfl) hok' (by decide) (by omega) F0 (by omega) ?_
        refine isD_fresh ?_
        walk_at "s"
        refine C_alike (by with_unfolding_all exact rfl) ht hst ht' hst' fun e2 he2 => ?_
        obtain rfl := IsUnl.scale F0 L L' he1 he2
        refine isS_val ?_
        refine N_thn ?_
        clear he2 ht ht' hst hst' L L' hw hw' hs hs' kp hret h4
        cases e1 with
        | none =>
          walk_at "s"
          refine C_neOr (e := none) ?_
          walk_at "s"
          refine N_thn (XS_nil ?_)
          exact hnx _ _ _ _ _ _ _ _ _ _ (hp2.mono (by omega))
        | some v =>
          obtain ⟨v0, v1⟩ := IsUnl.bound (hok.mono (show (2000 : Int) ≤ 2200 by decide)) hok' (fun _ => ok_fm) he1
          clear he1
          walk_at "s"
          · rename_i z
            exact absurd rfl z
          · refine N_thn (XS_nil ?_)
            exact hnx _ _ _ _ _ _ _ _ _ _ (hp2.mono (by omega))
      have go : ∀ due, IsUnl (lab rs) (lab os) due → XS T_law k29_mid ⟨[.val (.rol scr), .val (.cell 0), .val (.int (0 + (i0 : Int))), .val (.lst (rs.map rtD)), .val (.lst (os.map rtD)), s5, .val (optD due), s7, s8, s9, s10, .un], st⟩ K' := by
        intro due hdue
        unfold k29_mid
        refine XS_cons ?_
        walk_at "s"
        refine N_thn ?_
        walk_at "s"
        refine C_alike (by with_unfolding_all exact rfl) hw hs hw' hs' fun e1 he1 => ?_
        obtain rfl := he1.uniq hdue
        refine isV ?_
        walk_at "s"
        refine C_alike (by with_unfolding_all exact rfl) hw' hs' hw hs fun e2 he2 => ?_
        obtain rfl := he2.uniq he1.symm
        refine isV ?_
        walk_at "s"
        refine C_alike (by with_unfolding_all exact rfl) hw hs hw hs fun e3 he3 => ?_
        obtain rfl := he3.uniq .self
        refine isV ?_
        walk_at "s"
        refine N_thn ?_
        exact tail2 _ _ _
      unfold k29_tail
      refine XS_cons ?_
      rcases h4 with rfl | rfl
      all_goals
        walk_at "s"
        refine C_lfun (by with_unfolding_all exact rfl) hok hok' (by decide) (by omega) (by omega) hs hs' fun due hdue => ?_
        refine isS_val ?_
        refine N_thn ?_
        exact go due hdue
    walk_at "s"
    refine C_pick (by with_unfolding_all exact rfl) hp (by omega) (by simp) (by simp) fun x s1 hx hp1 => ?_
    obtain ⟨ws, rfl, hws, hwl⟩ : ∃ ws : List Str, x = .lst (ws.map D.str) ∧ (ws.all PyData.strOk) = true ∧ ws.length < 1000 := by
      simp only [List.mem_cons, List.not_mem_nil, or_false] at hx
      rcases hx with rfl | rfl
      · exact ⟨[], rfl, rfl, by decide⟩
      · exact ⟨["s", "m"], rfl, by decide +kernel, by decide⟩
    clear hx
    refine isD_val ?_
    refine C_rows2 (ws := ws) (by with_unfolding_all exact rfl) (by omega) hws hp1 (by omega) hwl fun rs st2 hD hp2 => ?_
    have hB := hD.bn hws
    refine isS_fresh ?_
    refine N_thn ?_
    clear hp hp1
    walk_at "s"
    refine C_split (by with_unfolding_all exact rfl) hB (by omega) hp2 (by omega) fun o qs st3 ho hq hp3 => ?_
    have hq := hq hD.len
    refine ⟨.lst (qs.map rtD), by rcases ho with rfl | rfl <;> constructor, ?_⟩
    walk_at "s"
    refine C_rows2 (ws := ["s", "m"]) (by with_unfolding_all exact rfl) (by omega) (by decide +kernel) hp3 (by omega) (by decide) fun ts st4 hDt hp4 => ?_
    have hBt := hDt.bn (by decide +kernel)
    refine isD_fresh ?_
    walk_at "s"
    refine C_pick (by with_unfolding_all exact rfl) hp4 (by omega) (by simp) (by simp) fun x st5 hx hp5 => ?_
    obtain ⟨os, rfl, ho⟩ : ∃ os : List Rw, x = .lst (os.map rtD) ∧ Bent 2041 os := by
      simp only [List.mem_cons, List.not_mem_nil, or_false] at hx
      rcases hx with rfl | rfl | rfl | rfl
      · exact ⟨rs, rfl, hB.mono (by omega)⟩
      · exact ⟨rs, rfl, hB.mono (by omega)⟩
      · exact ⟨qs, rfl, hq⟩
      · exact ⟨ts, rfl, hBt.mono (by omega)⟩
    refine isS_val ?_
    refine N_thn ?_
    clear hx hq hBt hDt hp2 hp3 hp4
    refine XS_cons ?_
    with_reducible refine X_forIK (AI_range1V ?_)
    walk_at "s"
    refine C_draw (by with_unfolding_all exact rfl) hp5 (by omega) (by omega) (by omega) fun n st6 n0 n1 hp6 => ?_
    refine isV ?_
    walk_at "s"
    refine ⟨⟨by omega, by omega⟩, fun i fr => ∃ os s4 s5 st, Bent (2041 + 41 * i) os ∧ (s4 = .val (.lst (os.map rtD)) ∨ s4 = .own (os.map rtD)) ∧ Pn (100000 * (i0 : Int) + 500 + 40 * i) st ∧ fr = ⟨[.val (.rol scr), .val (.cell 0), .val (.int (0 + (i0 : Int))), .val (.lst (rs.map rtD)), s4, s5, s6, s7, s8, s9, s10, .un], st⟩,
      ⟨os, _, _, _, ho.mono (by omega), .inl rfl, hp6.mono (by omega), rfl⟩, ?_, ?_⟩
    · rintro j y fr hy ⟨os, s4, s5, st, hos, h4, hpj, rfl⟩
      obtain ⟨hj, rfl⟩ := range_at hy
      have hj3 : j < 3 := by omega
      have hlo := hos.len
      have hml : (os.map rtD).length = os.length := List.length_map _
      refine ⟨_, rfl, fun K2 kp2 => ?_⟩
      have fin := fun (os : List Rw) (s4 s5 : Slot) (st : List Cell) (h1 : Bent (2041 + 41 * ((j + 1 : Nat) : Int)) os) h2 h3 => kp2.next ⟨[.val (.rol scr), .val (.cell 0), .val (.int (0 + (i0 : Int))), .val (.lst (rs.map rtD)), s4, s5, s6, s7, s8, s9, s10, .un], st⟩ ⟨os, s4, s5, st, h1, h2, h3, rfl⟩
      clear kp kp2 tail hy hret
      rcases h4 with rfl | rfl
      · walk_at "s"
        all_goals first
          | (refine C_split (by with_unfolding_all exact rfl) hos (by omega) (by with_unfolding_all assumption) (by omega) fun o qs st7 ho hq hp7 => ?_
             have hq := hq (by omega)
             rcases ho with rfl | rfl
             · refine isS_val ?_
               refine N_thn (XS_nil ?_)
               exact fin qs _ _ st7 (hq.mono (by omega)) (.inl rfl) (hp7.mono (by omega))
             · refine isS_fresh ?_
               refine N_thn (XS_nil ?_)
               exact fin qs _ _ st7 (hq.mono (by omega)) (.inr rfl) (hp7.mono (by omega)))
          | (refine C_bent (by with_unfolding_all exact rfl) hos (by omega) (by omega) (by with_unfolding_all assumption) (by omega) fun qs st7 hq hp7 => ?_
             refine isS_fresh ?_
             refine N_thn (XS_nil ?_)
             exact fin qs _ _ st7 (hq.mono (by omega)) (.inr rfl) (hp7.mono (by omega)))
      · walk_at "s"
        all_goals first
          | (refine C_split (by with_unfolding_all exact rfl) hos (by omega) (by with_unfolding_all assumption) (by omega) fun o qs st7 ho hq hp7 => ?_
             have hq := hq (by omega)
             rcases ho with rfl | rfl
             · refine isS_val ?_
               refine N_thn (XS_nil ?_)
               exact fin qs _ _ st7 (hq.mono (by omega)) (.inl rfl) (hp7.mono (by omega))
             · refine isS_fresh ?_
               refine N_thn (XS_nil ?_)
               exact fin qs _ _ st7 (hq.mono (by omega)) (.inr rfl) (hp7.mono (by omega)))
          | (refine C_bent (by with_unfolding_all exact rfl) hos (by omega) (by omega) (by with_unfolding_all assumption) (by omega) fun qs st7 hq hp7 => ?_
             refine isS_fresh ?_
             refine N_thn (XS_nil ?_)
             exact fin qs _ _ st7 (hq.mono (by omega)) (.inr rfl) (hp7.mono (by omega)))
    · rintro fr ⟨os, s4, s5, st, hos, h4, hpj, rfl⟩
      rw [rangeD_len] at hos hpj
      refine N_thn ?_
      exact tail rs os st s4 s5 hB (hos.mono (by omega)) h4 (hpj.mono (by omega))
  · rintro fr ⟨_, st, s2, s3, s4, s5, s6, s7, s8, s9, s10, hp, rfl⟩
    walk_at "s"
    exact hret _ _ rfl))) Xz.mk
end
end
open PySem PySem.Spec PyProof.Rows L2
theorem atT_nd : atT.Nodup := by decide +kernel
theorem atT_ns : atT.all (fun s => decide (s.cps.size < 1000)) = true := by decide +kernel
theorem q_law_draw {l : PySem.W.OpenLaw} {w : World} {K : PySem.W.Frag} {h : Heap} {mg : Str → Option Value} {f1 : Addr} {C0 C1 : Addr} {od1 an1 : Option Addr} {sl1 : Array (Option Value)} {oc1 kV1 dc1 pm1 cd1 ct1 : Value} (X : K.In h) (G : h.Ns mainGlobals mg) (a1 : PySem.W.nsIn K mainGlobals "_law_draw" = some (some (.ref f1))) (l1 : K.lookup f1 = some ⟨oc1, od1, .func (PySem.W.fnOf "_law_draw" "_law_draw" (defArgs s_law_draw) (defBody s_law_draw) (defScope s_law_draw) .none kV1 dc1 pm1 an1 cd1 ct1), sl1⟩) (c1 : PySem.W.codeIn K cd1 "_law_draw" = true) (k1 : PySem.W.keepIn K (.ref f1) = true)  (z_int : PySem.W.nsIn K mainGlobals "int" = some none) (z_len : PySem.W.nsIn K mainGlobals "len" = some none)  :
    ∀ base : Heap, Good l.prog w K mg base (glbT K [C0, C1] atT) 1 "_law_draw" p_draw := @Rz _ _ (fun qz => @Hz.get _ _ (qz.bar : Hz _ (by
  clear qz
  have F1 := fun_mk (st := s_law_draw) l1 c1 k1
  have b1 := F1.binds (ps := ["_law_pen_here", "_law_many"]) fun _ _ _ _ _ _ us hl => match us, hl with | [_, _], _ => rfl
  have hf0 : ∀ c f, (fun _ _ => false : Nat → Nat → Bool) c f = true → Cls K (clT [C0, C1] c) ∧ NoAttr K (clT [C0, C1] c) (fnT atT f) := fun c f e => nomatch e
  have o1 : ∀ base : Heap, FnOk l.prog w K mg base (L2.CX l.prog w) 1 f1 _ ["_law_pen_here", "_law_many"] (spI (glbT K [C0, C1] atT) 2 p_draw) := fun base => def_ok (T := T0) (C := c_law_draw) (n := 60) (body := b_draw) (phi := p_draw) (baseT (cs := [C0, C1]) (tab := atT) atT_nd atT_ns hf0 nms_nil rfl (blts_cons (PySem.W.mg_none_of X G z_int) (blts_cons (PySem.W.mg_none_of X G z_len) blts_nil))) F1 sc_law_draw fns_nil (fun m _ c i e => nomatch e) rfl cv_law_draw (by decide) fun ds sto h => fx_len (T := T0) (np := 2) (n := 6) (body := b_draw) h
  exact fun base => def_good F1 (PySem.W.mg_of X G a1) b1 (o1 base) fun ds sto h => (fx_len (T := T0) (np := 2) (n := 6) (body := b_draw) h).1))) Xz.mk
theorem q_law_pick {l : PySem.W.OpenLaw} {w : World} {K : PySem.W.Frag} {h : Heap} {mg : Str → Option Value} {f2 : Addr} {C0 C1 : Addr} {od2 an2 : Option Addr} {sl2 : Array (Option Value)} {oc2 kV2 dc2 pm2 cd2 ct2 : Value} (X : K.In h) (G : h.Ns mainGlobals mg) (a2 : PySem.W.nsIn K mainGlobals "_law_pick" = some (some (.ref f2))) (l2 : K.lookup f2 = some ⟨oc2, od2, .func (PySem.W.fnOf "_law_pick" "_law_pick" (defArgs s_law_pick) (defBody s_law_pick) (defScope s_law_pick) .none kV2 dc2 pm2 an2 cd2 ct2), sl2⟩) (c2 : PySem.W.codeIn K cd2 "_law_pick" = true) (k2 : PySem.W.keepIn K (.ref f2) = true)  (z_len : PySem.W.nsIn K mainGlobals "len" = some none) (g1 : ∀ base : Heap, Good l.prog w K mg base (glbT K [C0, C1] atT) 1 "_law_draw" p_draw) :
    ∀ base : Heap, Good l.prog w K mg base (glbT K [C0, C1] atT) 2 "_law_pick" p_pick := @Rz _ _ (fun qz => @Hz.get _ _ (qz.bar : Hz _ (by
  clear qz
  have F2 := fun_mk (st := s_law_pick) l2 c2 k2
  have b2 := F2.binds (ps := ["_law_pen_here", "_law_items"]) fun _ _ _ _ _ _ us hl => match us, hl with | [_, _], _ => rfl
  have hf0 : ∀ c f, (fun _ _ => false : Nat → Nat → Bool) c f = true → Cls K (clT [C0, C1] c) ∧ NoAttr K (clT [C0, C1] c) (fnT atT f) := fun c f e => nomatch e
  have o2 : ∀ base : Heap, FnOk l.prog w K mg base (L2.CX l.prog w) 2 f2 _ ["_law_pen_here", "_law_items"] (spI (glbT K [C0, C1] atT) 2 p_pick) := fun base => def_ok (T := T_pick) (C := c_law_pick) (n := 60) (body := b_pick) (phi := p_pick) (baseT (cs := [C0, C1]) (tab := atT) atT_nd atT_ns hf0 nms_nil rfl (blts_cons (PySem.W.mg_none_of X G z_len) blts_nil)) F2 sc_law_pick (fns_cons (Good.mono (phi := p_draw) (g1 base) (by decide)) fns_nil) (fun m _ c i e => nomatch e) rfl cv_law_pick (by decide) fun ds sto h => fx_len (T := T_pick) (np := 2) (n := 2) (body := b_pick) h
  exact fun base => def_good F2 (PySem.W.mg_of X G a2) b2 (o2 base) fun ds sto h => (fx_len (T := T_pick) (np := 2) (n := 2) (body := b_pick) h).1))) Xz.mk
theorem q_law_way {l : PySem.W.OpenLaw} {w : World} {K : PySem.W.Frag} {h : Heap} {mg : Str → Option Value} {f3 : Addr} {C0 C1 : Addr} {od3 an3 : Option Addr} {sl3 : Array (Option Value)} {oc3 kV3 dc3 pm3 cd3 ct3 : Value} (X : K.In h) (G : h.Ns mainGlobals mg) (a3 : PySem.W.nsIn K mainGlobals "_law_way" = some (some (.ref f3))) (l3 : K.lookup f3 = some ⟨oc3, od3, .func (PySem.W.fnOf "_law_way" "_law_way" (defArgs s_law_way) (defBody s_law_way) (defScope s_law_way) .none kV3 dc3 pm3 an3 cd3 ct3), sl3⟩) (c3 : PySem.W.codeIn K cd3 "_law_way" = true) (k3 : PySem.W.keepIn K (.ref f3) = true)   (g2 : ∀ base : Heap, Good l.prog w K mg base (glbT K [C0, C1] atT) 2 "_law_pick" p_pick) :
    ∀ base : Heap, Good l.prog w K mg base (glbT K [C0, C1] atT) 3 "_law_way" p_way := @Rz _ _ (fun qz => @Hz.get _ _ (qz.bar : Hz _ (by
  clear qz
  have F3 := fun_mk (st := s_law_way) l3 c3 k3
  have b3 := F3.binds (ps := ["_law_pen_here"]) fun _ _ _ _ _ _ us hl => match us, hl with | [_], _ => rfl
  have hf0 : ∀ c f, (fun _ _ => false : Nat → Nat → Bool) c f = true → Cls K (clT [C0, C1] c) ∧ NoAttr K (clT [C0, C1] c) (fnT atT f) := fun c f e => nomatch e
  have o3 : ∀ base : Heap, FnOk l.prog w K mg base (L2.CX l.prog w) 3 f3 _ ["_law_pen_here"] (spI (glbT K [C0, C1] atT) 1 p_way) := fun base => def_ok (T := T_way) (C := c_law_way) (n := 60) (body := b_way) (phi := p_way) (baseT (cs := [C0, C1]) (tab := atT) atT_nd atT_ns hf0 nms_nil rfl blts_nil) F3 sc_law_way (fns_cons (Good.mono (phi := p_pick) (g2 base) (by decide)) fns_nil) (fun m _ c i e => nomatch e) rfl cv_law_way (by decide) fun ds sto h => fx_len (T := T_way) (np := 1) (n := 1) (body := b_way) h
  exact fun base => def_good F3 (PySem.W.mg_of X G a3) b3 (o3 base) fun ds sto h => (fx_len (T := T_way) (np := 1) (n := 1) (body := b_way) h).1))) Xz.mk
theorem q_law_bent_v2 {l : PySem.W.OpenLaw} {w : World} {K : PySem.W.Frag} {h : Heap} {mg : Str → Option Value} {f4 : Addr} {C0 C1 : Addr} {od4 an4 : Option Addr} {sl4 : Array (Option Value)} {oc4 kV4 dc4 pm4 cd4 ct4 : Value} (X : K.In h) (G : h.Ns mainGlobals mg) (a4 : PySem.W.nsIn K mainGlobals "_law_bent" = some (some (.ref f4))) (l4 : K.lookup f4 = some ⟨oc4, od4, .func (PySem.W.fnOf "_law_bent" "_law_bent" (defArgs s_law_bent_v2) (defBody s_law_bent_v2) (defScope s_law_bent_v2) .none kV4 dc4 pm4 an4 cd4 ct4), sl4⟩) (c4 : PySem.W.codeIn K cd4 "_law_bent" = true) (k4 : PySem.W.keepIn K (.ref f4) = true)  (z_len : PySem.W.nsIn K mainGlobals "len" = some none) (g3 : ∀ base : Heap, Good l.prog w K mg base (glbT K [C0, C1] atT) 3 "_law_way" p_way) (g2 : ∀ base : Heap, Good l.prog w K mg base (glbT K [C0, C1] atT) 2 "_law_pick" p_pick) (g1 : ∀ base : Heap, Good l.prog w K mg base (glbT K [C0, C1] atT) 1 "_law_draw" p_draw) :
    ∀ base : Heap, Good l.prog w K mg base (glbT K [C0, C1] atT) 4 "_law_bent" p_law_bent_v2 := @Rz _ _ (fun qz => @Hz.get _ _ (qz.bar : Hz _ (by
  clear qz
  have F4 := fun_mk (st := s_law_bent_v2) l4 c4 k4
  have b4 := F4.binds (ps := ["_law_pen_here", "_law_rows_here"]) fun _ _ _ _ _ _ us hl => match us, hl with | [_, _], _ => rfl
  have hfl4 : ∀ c f, fldT [] c f = true → Cls K (clT [C0, C1] c) ∧ NoAttr K (clT [C0, C1] c) (fnT atT f) := fld_nil
  have o4 : ∀ base : Heap, FnOk l.prog w K mg base (L2.CX l.prog w) 4 f4 _ ["_law_pen_here", "_law_rows_here"] (spI (glbT K [C0, C1] atT) 2 p_law_bent_v2) := fun base => def_ok (T := T_law_bent_v2) (C := c_law_bent_v2) (n := 60) (body := b_law_bent_v2) (phi := p_law_bent_v2) (baseT (cs := [C0, C1]) (tab := atT) atT_nd atT_ns hfl4 nms_nil rfl (blts_cons (PySem.W.mg_none_of X G z_len) blts_nil)) F4 sc_law_bent_v2 (fns_cons (Good.mono (phi := p_draw) (g1 base) (by decide)) (fns_cons (Good.mono (phi := p_pick) (g2 base) (by decide)) (fns_cons (Good.mono (phi := p_way) (g3 base) (by decide)) fns_nil))) (fun m _ c i e => (psi_nil : ∀ c m i, psiT [] c m = some i → GoodM l.prog w K mg base (glbT K [C0, C1] atT) 3 c m (T_law_bent_v2.phi i)) c m i e) rfl cv_law_bent_v2 (by decide) fun ds sto h => fx_len (T := T_law_bent_v2) (np := 2) (n := 9) (body := b_law_bent_v2) h
  exact fun base => def_good F4 (PySem.W.mg_of X G a4) b4 (o4 base) fun ds sto h => (fx_len (T := T_law_bent_v2) (np := 2) (n := 9) (body := b_law_bent_v2) h).1))) Xz.mk
theorem q_law_count {l : PySem.W.OpenLaw} {w : World} {K : PySem.W.Frag} {h : Heap} {mg : Str → Option Value} {f5 : Addr} {C0 C1 : Addr} {od5 an5 : Option Addr} {sl5 : Array (Option Value)} {oc5 kV5 dc5 pm5 cd5 ct5 : Value} (X : K.In h) (G : h.Ns mainGlobals mg) (a5 : PySem.W.nsIn K mainGlobals "_law_count" = some (some (.ref f5))) (l5 : K.lookup f5 = some ⟨oc5, od5, .func (PySem.W.fnOf "_law_count" "_law_count" (defArgs s_law_count) (defBody s_law_count) (defScope s_law_count) .none kV5 dc5 pm5 an5 cd5 ct5), sl5⟩) (c5 : PySem.W.codeIn K cd5 "_law_count" = true) (k5 : PySem.W.keepIn K (.ref f5) = true)    :
    ∀ base : Heap, Good l.prog w K mg base (glbT K [C0, C1] atT) 5 "_law_count" p_law_count := @Rz _ _ (fun qz => @Hz.get _ _ (qz.bar : Hz _ (by
  clear qz
  have F5 := fun_mk (st := s_law_count) l5 c5 k5
  have b5 := F5.binds (ps := ["_law_unit", "_law_way_here", "_law_age"]) fun _ _ _ _ _ _ us hl => match us, hl with | [_, _, _], _ => rfl
  have hfl5 : ∀ c f, fldT [] c f = true → Cls K (clT [C0, C1] c) ∧ NoAttr K (clT [C0, C1] c) (fnT atT f) := fld_nil
  have o5 : ∀ base : Heap, FnOk l.prog w K mg base (L2.CX l.prog w) 5 f5 _ ["_law_unit", "_law_way_here", "_law_age"] (spI (glbT K [C0, C1] atT) 3 p_law_count) := fun base => def_ok (T := T_law_count) (C := c_law_count) (n := 60) (body := b_law_count) (phi := p_law_count) (baseT (cs := [C0, C1]) (tab := atT) atT_nd atT_ns hfl5 nms_nil rfl blts_nil) F5 sc_law_count fns_nil (fun m _ c i e => (psi_nil : ∀ c m i, psiT [] c m = some i → GoodM l.prog w K mg base (glbT K [C0, C1] atT) 4 c m (T_law_count.phi i)) c m i e) rfl cv_law_count (by decide) fun ds sto h => fx_len (T := T_law_count) (np := 3) (n := 3) (body := b_law_count) h
  exact fun base => def_good F5 (PySem.W.mg_of X G a5) b5 (o5 base) fun ds sto h => (fx_len (T := T_law_count) (np := 3) (n := 3) (body := b_law_count) h).1))) Xz.mk
theorem q_law_row_of {l : PySem.W.OpenLaw} {w : World} {K : PySem.W.Frag} {h : Heap} {mg : Str → Option Value} {f6 : Addr} {C0 C1 : Addr} {od6 an6 : Option Addr} {sl6 : Array (Option Value)} {oc6 kV6 dc6 pm6 cd6 ct6 : Value} (X : K.In h) (G : h.Ns mainGlobals mg) (a6 : PySem.W.nsIn K mainGlobals "_law_row_of" = some (some (.ref f6))) (l6 : K.lookup f6 = some ⟨oc6, od6, .func (PySem.W.fnOf "_law_row_of" "_law_row_of" (defArgs s_law_row_of) (defBody s_law_row_of) (defScope s_law_row_of) .none kV6 dc6 pm6 an6 cd6 ct6), sl6⟩) (c6 : PySem.W.codeIn K cd6 "_law_row_of" = true) (k6 : PySem.W.keepIn K (.ref f6) = true)  (z_len : PySem.W.nsIn K mainGlobals "len" = some none) (z_range : PySem.W.nsIn K mainGlobals "range" = some none)  :
    ∀ base : Heap, Good l.prog w K mg base (glbT K [C0, C1] atT) 6 "_law_row_of" p_law_row_of := @Rz _ _ (fun qz => @Hz.get _ _ (qz.bar : Hz _ (by
  clear qz
  have F6 := fun_mk (st := s_law_row_of) l6 c6 k6
  have b6 := F6.binds (ps := ["_law_rows_here", "_law_age"]) fun _ _ _ _ _ _ us hl => match us, hl with | [_, _], _ => rfl
  have hfl6 : ∀ c f, fldT [] c f = true → Cls K (clT [C0, C1] c) ∧ NoAttr K (clT [C0, C1] c) (fnT atT f) := fld_nil
  have o6 : ∀ base : Heap, FnOk l.prog w K mg base (L2.CX l.prog w) 6 f6 _ ["_law_rows_here", "_law_age"] (spI (glbT K [C0, C1] atT) 2 p_law_row_of) := fun base => def_ok (T := T_law_row_of) (C := c_law_row_of) (n := 60) (body := b_law_row_of) (phi := p_law_row_of) (baseT (cs := [C0, C1]) (tab := atT) atT_nd atT_ns hfl6 nms_nil rfl (blts_cons (PySem.W.mg_none_of X G z_len) (blts_cons (PySem.W.mg_none_of X G z_range) blts_nil))) F6 sc_law_row_of fns_nil (fun m _ c i e => (psi_nil : ∀ c m i, psiT [] c m = some i → GoodM l.prog w K mg base (glbT K [C0, C1] atT) 5 c m (T_law_row_of.phi i)) c m i e) rfl cv_law_row_of (by decide) fun ds sto h => fx_len (T := T_law_row_of) (np := 2) (n := 3) (body := b_law_row_of) h
  exact fun base => def_good F6 (PySem.W.mg_of X G a6) b6 (o6 base) fun ds sto h => (fx_len (T := T_law_row_of) (np := 2) (n := 3) (body := b_law_row_of) h).1))) Xz.mk
theorem q_law_label {l : PySem.W.OpenLaw} {w : World} {K : PySem.W.Frag} {h : Heap} {mg : Str → Option Value} {f7 : Addr} {C0 C1 : Addr} {od7 an7 : Option Addr} {sl7 : Array (Option Value)} {oc7 kV7 dc7 pm7 cd7 ct7 : Value} (X : K.In h) (G : h.Ns mainGlobals mg) (a7 : PySem.W.nsIn K mainGlobals "_law_label" = some (some (.ref f7))) (l7 : K.lookup f7 = some ⟨oc7, od7, .func (PySem.W.fnOf "_law_label" "_law_label" (defArgs s_law_label) (defBody s_law_label) (defScope s_law_label) .none kV7 dc7 pm7 an7 cd7 ct7), sl7⟩) (c7 : PySem.W.codeIn K cd7 "_law_label" = true) (k7 : PySem.W.keepIn K (.ref f7) = true)   (g6 : ∀ base : Heap, Good l.prog w K mg base (glbT K [C0, C1] atT) 6 "_law_row_of" p_law_row_of) (g5 : ∀ base : Heap, Good l.prog w K mg base (glbT K [C0, C1] atT) 5 "_law_count" p_law_count) :
    ∀ base : Heap, Good l.prog w K mg base (glbT K [C0, C1] atT) 7 "_law_label" p_law_label := @Rz _ _ (fun qz => @Hz.get _ _ (qz.bar : Hz _ (by
  clear qz
  have F7 := fun_mk (st := s_law_label) l7 c7 k7
  have b7 := F7.binds (ps := ["_law_rows_here", "_law_age"]) fun _ _ _ _ _ _ us hl => match us, hl with | [_, _], _ => rfl
  have hfl7 : ∀ c f, fldT [] c f = true → Cls K (clT [C0, C1] c) ∧ NoAttr K (clT [C0, C1] c) (fnT atT f) := fld_nil
  have o7 : ∀ base : Heap, FnOk l.prog w K mg base (L2.CX l.prog w) 7 f7 _ ["_law_rows_here", "_law_age"] (spI (glbT K [C0, C1] atT) 2 p_law_label) := fun base => def_ok (T := T_law_label) (C := c_law_label) (n := 60) (body := b_law_label) (phi := p_law_label) (baseT (cs := [C0, C1]) (tab := atT) atT_nd atT_ns hfl7 nms_nil rfl blts_nil) F7 sc_law_label (fns_cons (Good.mono (phi := p_law_count) (g5 base) (by decide)) (fns_cons (Good.mono (phi := p_law_row_of) (g6 base) (by decide)) fns_nil)) (fun m _ c i e => (psi_nil : ∀ c m i, psiT [] c m = some i → GoodM l.prog w K mg base (glbT K [C0, C1] atT) 6 c m (T_law_label.phi i)) c m i e) rfl cv_law_label (by decide) fun ds sto h => fx_len (T := T_law_label) (np := 2) (n := 6) (body := b_law_label) h
  exact fun base => def_good F7 (PySem.W.mg_of X G a7) b7 (o7 base) fun ds sto h => (fx_len (T := T_law_label) (np := 2) (n := 6) (body := b_law_label) h).1))) Xz.mk
theorem q_law_first_unlike {l : PySem.W.OpenLaw} {w : World} {K : PySem.W.Frag} {h : Heap} {mg : Str → Option Value} {f8 : Addr} {C0 C1 : Addr} {od8 an8 : Option Addr} {sl8 : Array (Option Value)} {oc8 kV8 dc8 pm8 cd8 ct8 : Value} (X : K.In h) (G : h.Ns mainGlobals mg) (a8 : PySem.W.nsIn K mainGlobals "_law_first_unlike" = some (some (.ref f8))) (l8 : K.lookup f8 = some ⟨oc8, od8, .func (PySem.W.fnOf "_law_first_unlike" "_law_first_unlike" (defArgs s_law_first_unlike) (defBody s_law_first_unlike) (defScope s_law_first_unlike) .none kV8 dc8 pm8 an8 cd8 ct8), sl8⟩) (c8 : PySem.W.codeIn K cd8 "_law_first_unlike" = true) (k8 : PySem.W.keepIn K (.ref f8) = true)  (z_max : PySem.W.nsIn K mainGlobals "max" = some none) (z_range : PySem.W.nsIn K mainGlobals "range" = some none) (g7 : ∀ base : Heap, Good l.prog w K mg base (glbT K [C0, C1] atT) 7 "_law_label" p_law_label) :
    ∀ base : Heap, Good l.prog w K mg base (glbT K [C0, C1] atT) 8 "_law_first_unlike" p_law_first_unlike := @Rz _ _ (fun qz => @Hz.get _ _ (qz.bar : Hz _ (by
  clear qz
  have F8 := fun_mk (st := s_law_first_unlike) l8 c8 k8
  have b8 := F8.binds (ps := ["_law_one", "_law_other"]) fun _ _ _ _ _ _ us hl => match us, hl with | [_, _], _ => rfl
  have hfl8 : ∀ c f, fldT [] c f = true → Cls K (clT [C0, C1] c) ∧ NoAttr K (clT [C0, C1] c) (fnT atT f) := fld_nil
  have o8 : ∀ base : Heap, FnOk l.prog w K mg base (L2.CX l.prog w) 8 f8 _ ["_law_one", "_law_other"] (spI (glbT K [C0, C1] atT) 2 p_law_first_unlike) := fun base => def_ok (T := T_law_first_unlike) (C := c_law_first_unlike) (n := 60) (body := b_law_first_unlike) (phi := p_law_first_unlike) (baseT (cs := [C0, C1]) (tab := atT) atT_nd atT_ns hfl8 nms_nil rfl (blts_cons (PySem.W.mg_none_of X G z_max) (blts_cons (PySem.W.mg_none_of X G z_range) blts_nil))) F8 sc_law_first_unlike (fns_cons (Good.mono (phi := p_law_label) (g7 base) (by decide)) fns_nil) (fun m _ c i e => (psi_nil : ∀ c m i, psiT [] c m = some i → GoodM l.prog w K mg base (glbT K [C0, C1] atT) 7 c m (T_law_first_unlike.phi i)) c m i e) rfl cv_law_first_unlike (by decide) fun ds sto h => fx_len (T := T_law_first_unlike) (np := 2) (n := 6) (body := b_law_first_unlike) h
  exact fun base => def_good F8 (PySem.W.mg_of X G a8) b8 (o8 base) fun ds sto h => (fx_len (T := T_law_first_unlike) (np := 2) (n := 6) (body := b_law_first_unlike) h).1))) Xz.mk
theorem q_Row_init {l : PySem.W.OpenLaw} {w : World} {K : PySem.W.Frag} {h : Heap} {mg : Str → Option Value} {f9 : Addr} {C0 C1 : Addr} {od9 an9 : Option Addr} {sl9 : Array (Option Value)} {oc9 kV9 dc9 pm9 cd9 ct9 : Value} (X : K.In h) (G : h.Ns mainGlobals mg) (a9 : PySem.W.findIn K (.ref C0) "__init__" = some (some (.ref f9))) (i9 : PySem.W.isFn K (.ref f9) = true) (l9 : K.lookup f9 = some ⟨oc9, od9, .func (PySem.W.fnOf "__init__" "Row.__init__" (defArgs s_Row_init) (defBody s_Row_init) (defScope s_Row_init) .none kV9 dc9 pm9 an9 cd9 ct9), sl9⟩) (c9 : PySem.W.codeIn K cd9 "Row.__init__" = true) (k9 : PySem.W.keepIn K (.ref f9) = true) (aC0 : PySem.W.nsIn K mainGlobals "Row" = some (some (.ref C0))) (mk0 : PySem.W.makesIn K C0 = true) (kc0 : PySem.W.keepIn K (.ref C0) = true) (K0 : Cls K C0) (n0_unit : PySem.W.findIn K (.ref C0) "unit" = some none) (n0_until : PySem.W.findIn K (.ref C0) "until" = some none) (n0_way : PySem.W.findIn K (.ref C0) "way" = some none) (n0_word : PySem.W.findIn K (.ref C0) "word" = some none)  :
    ∀ base : Heap, Good l.prog w K mg base (glbT K [C0, C1] atT) 10 "Row" p_Row_init := @Rz _ _ (fun qz => @Hz.get _ _ (qz.bar : Hz _ (by
  clear qz
  have F9 := fun_mk (st := s_Row_init) l9 c9 k9
  have b9 := F9.binds (ps := ["self", "until", "unit", "way", "word"]) fun _ _ _ _ _ _ us hl => match us, hl with | [_, _, _, _, _], _ => rfl
  have hfl9 : ∀ c f, fldT [] c f = true → Cls K (clT [C0, C1] c) ∧ NoAttr K (clT [C0, C1] c) (fnT atT f) := fld_nil
  have o9 : ∀ base : Heap, FnOk l.prog w K mg base (L2.CX l.prog w) 9 f9 _ ["self", "until", "unit", "way", "word"] (spMk (glbT K [C0, C1] atT) 0 4 p_Row_init) := fun base => make_ok (T := T_Row_init) (C := c_Row_init) (n := 60) (c := 0) (ib := b_Row_init) (baseT (cs := [C0, C1]) (tab := atT) atT_nd atT_ns hfl9 (fns_cons rfl (fns_cons rfl (fns_cons rfl (fns_cons rfl nms_nil)))) rfl blts_nil) F9 sc_Row_init fns_nil (fun m _ c i e => (psi_nil : ∀ c m i, psiT [] c m = some i → GoodM l.prog w K mg base (glbT K [C0, C1] atT) 8 c m (T_Row_init.phi i)) c m i e) rfl cv_Row_init (by decide +kernel) (by decide) K0 (fun f t hm => by
      simp only [b_Row_init, List.mem_cons, List.not_mem_nil, or_false, Prod.mk.injEq, Option.some.injEq, reduceCtorEq, false_and, false_or] at hm
      rcases hm with ⟨rfl, _⟩ | ⟨rfl, _⟩ | ⟨rfl, _⟩ | ⟨rfl, _⟩
      · exact n0_until
      · exact n0_unit
      · exact n0_way
      · exact n0_word)
  exact fun base => make_good (G := (glbT K [C0, C1] atT)) (c := 0) (PySem.W.mg_of X G aC0) (fun _ => ⟨mk0, a9, i9, kc0⟩) rfl b9 (o9 base) (fun ds sto h => iniFn_len h) (fun ds sto o s h => iniFn_obj h)))) Xz.mk
theorem q_check_rows {l : PySem.W.OpenLaw} {w : World} {K : PySem.W.Frag} {h : Heap} {mg : Str → Option Value} {f10 : Addr} {C0 C1 : Addr} {od10 an10 : Option Addr} {sl10 : Array (Option Value)} {oc10 kV10 dc10 pm10 cd10 ct10 : Value} (X : K.In h) (G : h.Ns mainGlobals mg) (a10 : PySem.W.nsIn K mainGlobals "check_rows" = some (some (.ref f10))) (l10 : K.lookup f10 = some ⟨oc10, od10, .func (PySem.W.fnOf "check_rows" "check_rows" (defArgs s_check_rows) (defBody s_check_rows) (defScope s_check_rows) .none kV10 dc10 pm10 an10 cd10 ct10), sl10⟩) (c10 : PySem.W.codeIn K cd10 "check_rows" = true) (k10 : PySem.W.keepIn K (.ref f10) = true) (K0 : Cls K C0) (n0_until : PySem.W.findIn K (.ref C0) "until" = some none) (z_enumerate : PySem.W.nsIn K mainGlobals "enumerate" = some none) (z_len : PySem.W.nsIn K mainGlobals "len" = some none)  :
    ∀ base : Heap, Good l.prog w K mg base (glbT K [C0, C1] atT) 11 "check_rows" p_check_rows := @Rz _ _ (fun qz => @Hz.get _ _ (qz.bar : Hz _ (by
  clear qz
  have F10 := fun_mk (st := s_check_rows) l10 c10 k10
  have b10 := F10.binds (ps := ["rows"]) fun _ _ _ _ _ _ us hl => match us, hl with | [_], _ => rfl
  have hfl10 : ∀ c f, fldT [(0, [0])] c f = true → Cls K (clT [C0, C1] c) ∧ NoAttr K (clT [C0, C1] c) (fnT atT f) := (fld_cons (Q := fun c f => Cls K (clT [C0, C1] c) ∧ NoAttr K (clT [C0, C1] c) (fnT atT f)) (has_cons (Q := fun f => Cls K C0 ∧ NoAttr K C0 (fnT atT f)) ⟨K0, n0_until⟩ has_nil) fld_nil)
  have o10 : ∀ base : Heap, FnOk l.prog w K mg base (L2.CX l.prog w) 11 f10 _ ["rows"] (spI (glbT K [C0, C1] atT) 1 p_check_rows) := fun base => def_ok (T := T_check_rows) (C := c_check_rows) (n := 60) (body := b_check_rows) (phi := p_check_rows) (baseT (cs := [C0, C1]) (tab := atT) atT_nd atT_ns hfl10 (fns_cons rfl nms_nil) rfl (blts_cons (PySem.W.mg_none_of X G z_enumerate) (blts_cons (PySem.W.mg_none_of X G z_len) blts_nil))) F10 sc_check_rows fns_nil (fun m _ c i e => (psi_nil : ∀ c m i, psiT [] c m = some i → GoodM l.prog w K mg base (glbT K [C0, C1] atT) 10 c m (T_check_rows.phi i)) c m i e) rfl cv_check_rows (by decide) fun ds sto h => fx_len (T := T_check_rows) (np := 1) (n := 5) (body := b_check_rows) h
  exact fun base => def_good F10 (PySem.W.mg_of X G a10) b10 (o10 base) fun ds sto h => (fx_len (T := T_check_rows) (np := 1) (n := 5) (body := b_check_rows) h).1))) Xz.mk
theorem q_Wording_init {l : PySem.W.OpenLaw} {w : World} {K : PySem.W.Frag} {h : Heap} {mg : Str → Option Value} {f11 : Addr} {C0 C1 : Addr} {od11 an11 : Option Addr} {sl11 : Array (Option Value)} {oc11 kV11 dc11 pm11 cd11 ct11 : Value} (X : K.In h) (G : h.Ns mainGlobals mg) (a11 : PySem.W.findIn K (.ref C1) "__init__" = some (some (.ref f11))) (i11 : PySem.W.isFn K (.ref f11) = true) (l11 : K.lookup f11 = some ⟨oc11, od11, .func (PySem.W.fnOf "__init__" "Wording.__init__" (defArgs s_Wording_init) (defBody s_Wording_init) (defScope s_Wording_init) .none kV11 dc11 pm11 an11 cd11 ct11), sl11⟩) (c11 : PySem.W.codeIn K cd11 "Wording.__init__" = true) (k11 : PySem.W.keepIn K (.ref f11) = true) (aC1 : PySem.W.nsIn K mainGlobals "Wording" = some (some (.ref C1))) (mk1 : PySem.W.makesIn K C1 = true) (kc1 : PySem.W.keepIn K (.ref C1) = true) (K1 : Cls K C1) (n1_rows : PySem.W.findIn K (.ref C1) "rows" = some none) (z_tuple : PySem.W.nsIn K mainGlobals "tuple" = some none) (g10 : ∀ base : Heap, Good l.prog w K mg base (glbT K [C0, C1] atT) 11 "check_rows" p_check_rows) :
    ∀ base : Heap, Good l.prog w K mg base (glbT K [C0, C1] atT) 13 "Wording" p_Wording_init := @Rz _ _ (fun qz => @Hz.get _ _ (qz.bar : Hz _ (by
  clear qz
  have F11 := fun_mk (st := s_Wording_init) l11 c11 k11
  have b11 := F11.binds (ps := ["self", "rows"]) fun _ _ _ _ _ _ us hl => match us, hl with | [_, _], _ => rfl
  have hfl11 : ∀ c f, fldT [] c f = true → Cls K (clT [C0, C1] c) ∧ NoAttr K (clT [C0, C1] c) (fnT atT f) := fld_nil
  have o11 : ∀ base : Heap, FnOk l.prog w K mg base (L2.CX l.prog w) 12 f11 _ ["self", "rows"] (spMk (glbT K [C0, C1] atT) 1 1 p_Wording_init) := fun base => make_ok (T := T_Wording_init) (C := c_Wording_init) (n := 60) (c := 1) (ib := b_Wording_init) (baseT (cs := [C0, C1]) (tab := atT) atT_nd atT_ns hfl11 (fns_cons rfl nms_nil) rfl (blts_cons (PySem.W.mg_none_of X G z_tuple) blts_nil)) F11 sc_Wording_init (fns_cons (Good.mono (phi := p_check_rows) (g10 base) (by decide)) fns_nil) (fun m _ c i e => (psi_nil : ∀ c m i, psiT [] c m = some i → GoodM l.prog w K mg base (glbT K [C0, C1] atT) 11 c m (T_Wording_init.phi i)) c m i e) rfl cv_Wording_init (by decide +kernel) (by decide) K1 (fun f t hm => by
      simp only [b_Wording_init, List.mem_cons, List.not_mem_nil, or_false, Prod.mk.injEq, Option.some.injEq, reduceCtorEq, false_and, false_or] at hm
      rcases hm with ⟨rfl, _⟩
      · exact n1_rows)
  exact fun base => make_good (G := (glbT K [C0, C1] atT)) (c := 1) (PySem.W.mg_of X G aC1) (fun _ => ⟨mk1, a11, i11, kc1⟩) rfl b11 (o11 base) (fun ds sto h => iniFn_len h) (fun ds sto o s h => iniFn_obj h)))) Xz.mk
theorem q_law_made {l : PySem.W.OpenLaw} {w : World} {K : PySem.W.Frag} {h : Heap} {mg : Str → Option Value} {f12 : Addr} {C0 C1 : Addr} {od12 an12 : Option Addr} {sl12 : Array (Option Value)} {oc12 kV12 dc12 pm12 cd12 ct12 : Value} (X : K.In h) (G : h.Ns mainGlobals mg) (a12 : PySem.W.nsIn K mainGlobals "_law_made" = some (some (.ref f12))) (l12 : K.lookup f12 = some ⟨oc12, od12, .func (PySem.W.fnOf "_law_made" "_law_made" (defArgs s_law_made) (defBody s_law_made) (defScope s_law_made) .none kV12 dc12 pm12 an12 cd12 ct12), sl12⟩) (c12 : PySem.W.codeIn K cd12 "_law_made" = true) (k12 : PySem.W.keepIn K (.ref f12) = true)   (g11 : ∀ base : Heap, Good l.prog w K mg base (glbT K [C0, C1] atT) 13 "Wording" p_Wording_init) (g9 : ∀ base : Heap, Good l.prog w K mg base (glbT K [C0, C1] atT) 10 "Row" p_Row_init) :
    ∀ base : Heap, Good l.prog w K mg base (glbT K [C0, C1] atT) 14 "_law_made" p_law_made := @Rz _ _ (fun qz => @Hz.get _ _ (qz.bar : Hz _ (by
  clear qz
  have F12 := fun_mk (st := s_law_made) l12 c12 k12
  have b12 := F12.binds (ps := ["_law_rows_here"]) fun _ _ _ _ _ _ us hl => match us, hl with | [_], _ => rfl
  have hfl12 : ∀ c f, fldT [] c f = true → Cls K (clT [C0, C1] c) ∧ NoAttr K (clT [C0, C1] c) (fnT atT f) := fld_nil
  have o12 : ∀ base : Heap, FnOk l.prog w K mg base (L2.CX l.prog w) 14 f12 _ ["_law_rows_here"] (spI (glbT K [C0, C1] atT) 1 p_law_made) := fun base => def_ok (T := T_law_made) (C := c_law_made) (n := 60) (body := b_law_made) (phi := p_law_made) (baseT (cs := [C0, C1]) (tab := atT) atT_nd atT_ns hfl12 nms_nil rfl blts_nil) F12 sc_law_made (fns_cons (Good.mono (phi := p_Row_init) (g9 base) (by decide)) (fns_cons (Good.mono (phi := p_Wording_init) (g11 base) (by decide)) fns_nil)) (fun m _ c i e => (psi_nil : ∀ c m i, psiT [] c m = some i → GoodM l.prog w K mg base (glbT K [C0, C1] atT) 13 c m (T_law_made.phi i)) c m i e) rfl cv_law_made (by decide) fun ds sto h => fx_len (T := T_law_made) (np := 1) (n := 5) (body := b_law_made) h
  exact fun base => def_good F12 (PySem.W.mg_of X G a12) b12 (o12 base) fun ds sto h => (fx_len (T := T_law_made) (np := 1) (n := 5) (body := b_law_made) h).1))) Xz.mk
theorem q_law_pen {l : PySem.W.OpenLaw} {w : World} {K : PySem.W.Frag} {h : Heap} {mg : Str → Option Value} {f13 : Addr} {C0 C1 : Addr} {od13 an13 : Option Addr} {sl13 : Array (Option Value)} {oc13 kV13 dc13 pm13 cd13 ct13 : Value} (X : K.In h) (G : h.Ns mainGlobals mg) (a13 : PySem.W.nsIn K mainGlobals "_law_pen" = some (some (.ref f13))) (l13 : K.lookup f13 = some ⟨oc13, od13, .func (PySem.W.fnOf "_law_pen" "_law_pen" (defArgs s_law_pen) (defBody s_law_pen) (defScope s_law_pen) .none kV13 dc13 pm13 an13 cd13 ct13), sl13⟩) (c13 : PySem.W.codeIn K cd13 "_law_pen" = true) (k13 : PySem.W.keepIn K (.ref f13) = true)  (z_list : PySem.W.nsIn K mainGlobals "list" = some none)  :
    ∀ base : Heap, Good l.prog w K mg base (glbT K [C0, C1] atT) 15 "_law_pen" p_pen := @Rz _ _ (fun qz => @Hz.get _ _ (qz.bar : Hz _ (by
  clear qz
  have F13 := fun_mk (st := s_law_pen) l13 c13 k13
  have b13 := F13.binds (ps := ["_law_script"]) fun _ _ _ _ _ _ us hl => match us, hl with | [_], _ => rfl
  have hf0 : ∀ c f, (fun _ _ => false : Nat → Nat → Bool) c f = true → Cls K (clT [C0, C1] c) ∧ NoAttr K (clT [C0, C1] c) (fnT atT f) := fun c f e => nomatch e
  have o13 : ∀ base : Heap, FnOk l.prog w K mg base (L2.CX l.prog w) 15 f13 _ ["_law_script"] (spI (glbT K [C0, C1] atT) 1 p_pen) := fun base => def_ok (T := T0) (C := c_law_pen) (n := 60) (body := b_pen) (phi := p_pen) (baseT (cs := [C0, C1]) (tab := atT) atT_nd atT_ns hf0 nms_nil rfl (blts_cons (PySem.W.mg_none_of X G z_list) blts_nil)) F13 sc_law_pen fns_nil (fun m _ c i e => nomatch e) rfl cv_law_pen (by decide) fun ds sto h => fx_len (T := T0) (np := 1) (n := 1) (body := b_pen) h
  exact fun base => def_good F13 (PySem.W.mg_of X G a13) b13 (o13 base) fun ds sto h => (fx_len (T := T0) (np := 1) (n := 1) (body := b_pen) h).1))) Xz.mk
theorem q_law_number {l : PySem.W.OpenLaw} {w : World} {K : PySem.W.Frag} {h : Heap} {mg : Str → Option Value} {f14 : Addr} {C0 C1 : Addr} {od14 an14 : Option Addr} {sl14 : Array (Option Value)} {oc14 kV14 dc14 pm14 cd14 ct14 : Value} (X : K.In h) (G : h.Ns mainGlobals mg) (a14 : PySem.W.nsIn K mainGlobals "_law_number" = some (some (.ref f14))) (l14 : K.lookup f14 = some ⟨oc14, od14, .func (PySem.W.fnOf "_law_number" "_law_number" (defArgs s_law_number) (defBody s_law_number) (defScope s_law_number) .none kV14 dc14 pm14 an14 cd14 ct14), sl14⟩) (c14 : PySem.W.codeIn K cd14 "_law_number" = true) (k14 : PySem.W.keepIn K (.ref f14) = true)   (g2 : ∀ base : Heap, Good l.prog w K mg base (glbT K [C0, C1] atT) 2 "_law_pick" p_pick) (g1 : ∀ base : Heap, Good l.prog w K mg base (glbT K [C0, C1] atT) 1 "_law_draw" p_draw) :
    ∀ base : Heap, Good l.prog w K mg base (glbT K [C0, C1] atT) 16 "_law_number" p_law_number := @Rz _ _ (fun qz => @Hz.get _ _ (qz.bar : Hz _ (by
  clear qz
  have F14 := fun_mk (st := s_law_number) l14 c14 k14
  have b14 := F14.binds (ps := ["_law_pen_here"]) fun _ _ _ _ _ _ us hl => match us, hl with | [_], _ => rfl
  have hfl14 : ∀ c f, fldT [] c f = true → Cls K (clT [C0, C1] c) ∧ NoAttr K (clT [C0, C1] c) (fnT atT f) := fld_nil
  have o14 : ∀ base : Heap, FnOk l.prog w K mg base (L2.CX l.prog w) 16 f14 _ ["_law_pen_here"] (spI (glbT K [C0, C1] atT) 1 p_law_number) := fun base => def_ok (T := T_law_number) (C := c_law_number) (n := 60) (body := b_law_number) (phi := p_law_number) (baseT (cs := [C0, C1]) (tab := atT) atT_nd atT_ns hfl14 nms_nil rfl blts_nil) F14 sc_law_number (fns_cons (Good.mono (phi := p_draw) (g1 base) (by decide)) (fns_cons (Good.mono (phi := p_pick) (g2 base) (by decide)) fns_nil)) (fun m _ c i e => (psi_nil : ∀ c m i, psiT [] c m = some i → GoodM l.prog w K mg base (glbT K [C0, C1] atT) 15 c m (T_law_number.phi i)) c m i e) rfl cv_law_number (by decide) fun ds sto h => fx_len (T := T_law_number) (np := 1) (n := 1) (body := b_law_number) h
  exact fun base => def_good F14 (PySem.W.mg_of X G a14) b14 (o14 base) fun ds sto h => (fx_len (T := T_law_number) (np := 1) (n := 1) (body := b_law_number) h).1))) Xz.mk
theorem q_law_rows_v2 {l : PySem.W.OpenLaw} {w : World} {K : PySem.W.Frag} {h : Heap} {mg : Str → Option Value} {f15 : Addr} {C0 C1 : Addr} {od15 an15 : Option Addr} {sl15 : Array (Option Value)} {oc15 kV15 dc15 pm15 cd15 ct15 : Value} (X : K.In h) (G : h.Ns mainGlobals mg) (a15 : PySem.W.nsIn K mainGlobals "_law_rows" = some (some (.ref f15))) (l15 : K.lookup f15 = some ⟨oc15, od15, .func (PySem.W.fnOf "_law_rows" "_law_rows" (defArgs s_law_rows_v2) (defBody s_law_rows_v2) (defScope s_law_rows_v2) .none kV15 dc15 pm15 an15 cd15 ct15), sl15⟩) (c15 : PySem.W.codeIn K cd15 "_law_rows" = true) (k15 : PySem.W.keepIn K (.ref f15) = true)  (z_range : PySem.W.nsIn K mainGlobals "range" = some none) (g3 : ∀ base : Heap, Good l.prog w K mg base (glbT K [C0, C1] atT) 3 "_law_way" p_way) (g2 : ∀ base : Heap, Good l.prog w K mg base (glbT K [C0, C1] atT) 2 "_law_pick" p_pick) (g14 : ∀ base : Heap, Good l.prog w K mg base (glbT K [C0, C1] atT) 16 "_law_number" p_law_number) (g1 : ∀ base : Heap, Good l.prog w K mg base (glbT K [C0, C1] atT) 1 "_law_draw" p_draw) :
    ∀ base : Heap, Good l.prog w K mg base (glbT K [C0, C1] atT) 17 "_law_rows" p_law_rows_v2 := @Rz _ _ (fun qz => @Hz.get _ _ (qz.bar : Hz _ (by
  clear qz
  have F15 := fun_mk (st := s_law_rows_v2) l15 c15 k15
  have b15 := F15.binds (ps := ["_law_pen_here", "_law_most", "_law_words"]) fun _ _ _ _ _ _ us hl => match us, hl with | [_, _, _], _ => rfl
  have hfl15 : ∀ c f, fldT [] c f = true → Cls K (clT [C0, C1] c) ∧ NoAttr K (clT [C0, C1] c) (fnT atT f) := fld_nil
  have o15 : ∀ base : Heap, FnOk l.prog w K mg base (L2.CX l.prog w) 17 f15 _ ["_law_pen_here", "_law_most", "_law_words"] (spI (glbT K [C0, C1] atT) 3 p_law_rows_v2) := fun base => def_ok (T := T_law_rows_v2) (C := c_law_rows_v2) (n := 60) (body := b_law_rows_v2) (phi := p_law_rows_v2) (baseT (cs := [C0, C1]) (tab := atT) atT_nd atT_ns hfl15 nms_nil rfl (blts_cons (PySem.W.mg_none_of X G z_range) blts_nil)) F15 sc_law_rows_v2 (fns_cons (Good.mono (phi := p_draw) (g1 base) (by decide)) (fns_cons (Good.mono (phi := p_law_number) (g14 base) (by decide)) (fns_cons (Good.mono (phi := p_pick) (g2 base) (by decide)) (fns_cons (Good.mono (phi := p_way) (g3 base) (by decide)) fns_nil)))) (fun m _ c i e => (psi_nil : ∀ c m i, psiT [] c m = some i → GoodM l.prog w K mg base (glbT K [C0, C1] atT) 16 c m (T_law_rows_v2.phi i)) c m i e) rfl cv_law_rows_v2 (by decide) fun ds sto h => fx_len (T := T_law_rows_v2) (np := 3) (n := 9) (body := b_law_rows_v2) h
  exact fun base => def_good F15 (PySem.W.mg_of X G a15) b15 (o15 base) fun ds sto h => (fx_len (T := T_law_rows_v2) (np := 3) (n := 9) (body := b_law_rows_v2) h).1))) Xz.mk
theorem q_law_split {l : PySem.W.OpenLaw} {w : World} {K : PySem.W.Frag} {h : Heap} {mg : Str → Option Value} {f16 : Addr} {C0 C1 : Addr} {od16 an16 : Option Addr} {sl16 : Array (Option Value)} {oc16 kV16 dc16 pm16 cd16 ct16 : Value} (X : K.In h) (G : h.Ns mainGlobals mg) (a16 : PySem.W.nsIn K mainGlobals "_law_split" = some (some (.ref f16))) (l16 : K.lookup f16 = some ⟨oc16, od16, .func (PySem.W.fnOf "_law_split" "_law_split" (defArgs s_law_split) (defBody s_law_split) (defScope s_law_split) .none kV16 dc16 pm16 an16 cd16 ct16), sl16⟩) (c16 : PySem.W.codeIn K cd16 "_law_split" = true) (k16 : PySem.W.keepIn K (.ref f16) = true)  (z_len : PySem.W.nsIn K mainGlobals "len" = some none) (g1 : ∀ base : Heap, Good l.prog w K mg base (glbT K [C0, C1] atT) 1 "_law_draw" p_draw) :
    ∀ base : Heap, Good l.prog w K mg base (glbT K [C0, C1] atT) 18 "_law_split" p_law_split := @Rz _ _ (fun qz => @Hz.get _ _ (qz.bar : Hz _ (by
  clear qz
  have F16 := fun_mk (st := s_law_split) l16 c16 k16
  have b16 := F16.binds (ps := ["_law_pen_here", "_law_rows_here"]) fun _ _ _ _ _ _ us hl => match us, hl with | [_, _], _ => rfl
  have hfl16 : ∀ c f, fldT [] c f = true → Cls K (clT [C0, C1] c) ∧ NoAttr K (clT [C0, C1] c) (fnT atT f) := fld_nil
  have o16 : ∀ base : Heap, FnOk l.prog w K mg base (L2.CX l.prog w) 18 f16 _ ["_law_pen_here", "_law_rows_here"] (spI (glbT K [C0, C1] atT) 2 p_law_split) := fun base => def_ok (T := T_law_split) (C := c_law_split) (n := 60) (body := b_law_split) (phi := p_law_split) (baseT (cs := [C0, C1]) (tab := atT) atT_nd atT_ns hfl16 nms_nil rfl (blts_cons (PySem.W.mg_none_of X G z_len) blts_nil)) F16 sc_law_split (fns_cons (Good.mono (phi := p_draw) (g1 base) (by decide)) fns_nil) (fun m _ c i e => (psi_nil : ∀ c m i, psiT [] c m = some i → GoodM l.prog w K mg base (glbT K [C0, C1] atT) 17 c m (T_law_split.phi i)) c m i e) rfl cv_law_split (by decide) fun ds sto h => fx_len (T := T_law_split) (np := 2) (n := 9) (body := b_law_split) h
  exact fun base => def_good F16 (PySem.W.mg_of X G a16) b16 (o16 base) fun ds sto h => (fx_len (T := T_law_split) (np := 2) (n := 9) (body := b_law_split) h).1))) Xz.mk
theorem q_law_times {l : PySem.W.OpenLaw} {w : World} {K : PySem.W.Frag} {h : Heap} {mg : Str → Option Value} {f17 : Addr} {C0 C1 : Addr} {od17 an17 : Option Addr} {sl17 : Array (Option Value)} {oc17 kV17 dc17 pm17 cd17 ct17 : Value} (X : K.In h) (G : h.Ns mainGlobals mg) (a17 : PySem.W.nsIn K mainGlobals "_law_times" = some (some (.ref f17))) (l17 : K.lookup f17 = some ⟨oc17, od17, .func (PySem.W.fnOf "_law_times" "_law_times" (defArgs s_law_times) (defBody s_law_times) (defScope s_law_times) .none kV17 dc17 pm17 an17 cd17 ct17), sl17⟩) (c17 : PySem.W.codeIn K cd17 "_law_times" = true) (k17 : PySem.W.keepIn K (.ref f17) = true)    :
    ∀ base : Heap, Good l.prog w K mg base (glbT K [C0, C1] atT) 19 "_law_times" p_law_times := @Rz _ _ (fun qz => @Hz.get _ _ (qz.bar : Hz _ (by
  clear qz
  have F17 := fun_mk (st := s_law_times) l17 c17 k17
  have b17 := F17.binds (ps := ["_law_rows_here", "_law_factor"]) fun _ _ _ _ _ _ us hl => match us, hl with | [_, _], _ => rfl
  have hfl17 : ∀ c f, fldT [] c f = true → Cls K (clT [C0, C1] c) ∧ NoAttr K (clT [C0, C1] c) (fnT atT f) := fld_nil
  have o17 : ∀ base : Heap, FnOk l.prog w K mg base (L2.CX l.prog w) 19 f17 _ ["_law_rows_here", "_law_factor"] (spI (glbT K [C0, C1] atT) 2 p_law_times) := fun base => def_ok (T := T_law_times) (C := c_law_times) (n := 60) (body := b_law_times) (phi := p_law_times) (baseT (cs := [C0, C1]) (tab := atT) atT_nd atT_ns hfl17 nms_nil rfl blts_nil) F17 sc_law_times fns_nil (fun m _ c i e => (psi_nil : ∀ c m i, psiT [] c m = some i → GoodM l.prog w K mg base (glbT K [C0, C1] atT) 18 c m (T_law_times.phi i)) c m i e) rfl cv_law_times (by decide) fun ds sto h => fx_len (T := T_law_times) (np := 2) (n := 7) (body := b_law_times) h
  exact fun base => def_good F17 (PySem.W.mg_of X G a17) b17 (o17 base) fun ds sto h => (fx_len (T := T_law_times) (np := 2) (n := 7) (body := b_law_times) h).1))) Xz.mk
theorem q_first_within {l : PySem.W.OpenLaw} {w : World} {K : PySem.W.Frag} {h : Heap} {mg : Str → Option Value} {f18 : Addr} {C0 C1 : Addr} {od18 an18 : Option Addr} {sl18 : Array (Option Value)} {oc18 kV18 dc18 pm18 cd18 ct18 : Value} (X : K.In h) (G : h.Ns mainGlobals mg) (a18 : PySem.W.nsIn K mainGlobals "first_within" = some (some (.ref f18))) (l18 : K.lookup f18 = some ⟨oc18, od18, .func (PySem.W.fnOf "first_within" "first_within" (defArgs s_first_within) (defBody s_first_within) (defScope s_first_within) .none kV18 dc18 pm18 an18 cd18 ct18), sl18⟩) (c18 : PySem.W.codeIn K cd18 "first_within" = true) (k18 : PySem.W.keepIn K (.ref f18) = true)    :
    ∀ base : Heap, Good l.prog w K mg base (glbT K [C0, C1] atT) 20 "first_within" p_first_within := @Rz _ _ (fun qz => @Hz.get _ _ (qz.bar : Hz _ (by
  clear qz
  have F18 := fun_mk (st := s_first_within) l18 c18 k18
  have b18 := F18.binds (ps := ["low", "unit", "offset"]) fun _ _ _ _ _ _ us hl => match us, hl with | [_, _, _], _ => rfl
  have hfl18 : ∀ c f, fldT [] c f = true → Cls K (clT [C0, C1] c) ∧ NoAttr K (clT [C0, C1] c) (fnT atT f) := fld_nil
  have o18 : ∀ base : Heap, FnOk l.prog w K mg base (L2.CX l.prog w) 20 f18 _ ["low", "unit", "offset"] (spI (glbT K [C0, C1] atT) 3 p_first_within) := fun base => def_ok (T := T_first_within) (C := c_first_within) (n := 60) (body := b_first_within) (phi := p_first_within) (baseT (cs := [C0, C1]) (tab := atT) atT_nd atT_ns hfl18 nms_nil rfl blts_nil) F18 sc_first_within fns_nil (fun m _ c i e => (psi_nil : ∀ c m i, psiT [] c m = some i → GoodM l.prog w K mg base (glbT K [C0, C1] atT) 19 c m (T_first_within.phi i)) c m i e) rfl cv_first_within (by decide) fun ds sto h => fx_len (T := T_first_within) (np := 3) (n := 3) (body := b_first_within) h
  exact fun base => def_good F18 (PySem.W.mg_of X G a18) b18 (o18 base) fun ds sto h => (fx_len (T := T_first_within) (np := 3) (n := 3) (body := b_first_within) h).1))) Xz.mk
theorem q_offset_of {l : PySem.W.OpenLaw} {w : World} {K : PySem.W.Frag} {h : Heap} {mg : Str → Option Value} {f19 : Addr} {C0 C1 : Addr} {od19 an19 : Option Addr} {sl19 : Array (Option Value)} {oc19 kV19 dc19 pm19 cd19 ct19 : Value} (X : K.In h) (G : h.Ns mainGlobals mg) (a19 : PySem.W.nsIn K mainGlobals "offset_of" = some (some (.ref f19))) (l19 : K.lookup f19 = some ⟨oc19, od19, .func (PySem.W.fnOf "offset_of" "offset_of" (defArgs s_offset_of) (defBody s_offset_of) (defScope s_offset_of) .none kV19 dc19 pm19 an19 cd19 ct19), sl19⟩) (c19 : PySem.W.codeIn K cd19 "offset_of" = true) (k19 : PySem.W.keepIn K (.ref f19) = true)    :
    ∀ base : Heap, Good l.prog w K mg base (glbT K [C0, C1] atT) 21 "offset_of" p_offset_of := @Rz _ _ (fun qz => @Hz.get _ _ (qz.bar : Hz _ (by
  clear qz
  have F19 := fun_mk (st := s_offset_of) l19 c19 k19
  have b19 := F19.binds (ps := ["unit", "way"]) fun _ _ _ _ _ _ us hl => match us, hl with | [_, _], _ => rfl
  have hfl19 : ∀ c f, fldT [] c f = true → Cls K (clT [C0, C1] c) ∧ NoAttr K (clT [C0, C1] c) (fnT atT f) := fld_nil
  have o19 : ∀ base : Heap, FnOk l.prog w K mg base (L2.CX l.prog w) 21 f19 _ ["unit", "way"] (spI (glbT K [C0, C1] atT) 2 p_offset_of) := fun base => def_ok (T := T_offset_of) (C := c_offset_of) (n := 60) (body := b_offset_of) (phi := p_offset_of) (baseT (cs := [C0, C1]) (tab := atT) atT_nd atT_ns hfl19 nms_nil rfl blts_nil) F19 sc_offset_of fns_nil (fun m _ c i e => (psi_nil : ∀ c m i, psiT [] c m = some i → GoodM l.prog w K mg base (glbT K [C0, C1] atT) 20 c m (T_offset_of.phi i)) c m i e) rfl cv_offset_of (by decide) fun ds sto h => fx_len (T := T_offset_of) (np := 2) (n := 2) (body := b_offset_of) h
  exact fun base => def_good F19 (PySem.W.mg_of X G a19) b19 (o19 base) fun ds sto h => (fx_len (T := T_offset_of) (np := 2) (n := 2) (body := b_offset_of) h).1))) Xz.mk
theorem q_check_age {l : PySem.W.OpenLaw} {w : World} {K : PySem.W.Frag} {h : Heap} {mg : Str → Option Value} {f20 : Addr} {C0 C1 : Addr} {od20 an20 : Option Addr} {sl20 : Array (Option Value)} {oc20 kV20 dc20 pm20 cd20 ct20 : Value} (X : K.In h) (G : h.Ns mainGlobals mg) (a20 : PySem.W.nsIn K mainGlobals "check_age" = some (some (.ref f20))) (l20 : K.lookup f20 = some ⟨oc20, od20, .func (PySem.W.fnOf "check_age" "check_age" (defArgs s_check_age) (defBody s_check_age) (defScope s_check_age) .none kV20 dc20 pm20 an20 cd20 ct20), sl20⟩) (c20 : PySem.W.codeIn K cd20 "check_age" = true) (k20 : PySem.W.keepIn K (.ref f20) = true)    :
    ∀ base : Heap, Good l.prog w K mg base (glbT K [C0, C1] atT) 22 "check_age" p_check_age := @Rz _ _ (fun qz => @Hz.get _ _ (qz.bar : Hz _ (by
  clear qz
  have F20 := fun_mk (st := s_check_age) l20 c20 k20
  have b20 := F20.binds (ps := ["age"]) fun _ _ _ _ _ _ us hl => match us, hl with | [_], _ => rfl
  have hfl20 : ∀ c f, fldT [] c f = true → Cls K (clT [C0, C1] c) ∧ NoAttr K (clT [C0, C1] c) (fnT atT f) := fld_nil
  have o20 : ∀ base : Heap, FnOk l.prog w K mg base (L2.CX l.prog w) 22 f20 _ ["age"] (spI (glbT K [C0, C1] atT) 1 p_check_age) := fun base => def_ok (T := T_check_age) (C := c_check_age) (n := 60) (body := b_check_age) (phi := p_check_age) (baseT (cs := [C0, C1]) (tab := atT) atT_nd atT_ns hfl20 nms_nil rfl blts_nil) F20 sc_check_age fns_nil (fun m _ c i e => (psi_nil : ∀ c m i, psiT [] c m = some i → GoodM l.prog w K mg base (glbT K [C0, C1] atT) 21 c m (T_check_age.phi i)) c m i e) rfl cv_check_age (by decide) fun ds sto h => fx_len (T := T_check_age) (np := 1) (n := 1) (body := b_check_age) h
  exact fun base => def_good F20 (PySem.W.mg_of X G a20) b20 (o20 base) fun ds sto h => (fx_len (T := T_check_age) (np := 1) (n := 1) (body := b_check_age) h).1))) Xz.mk
theorem q_count_of {l : PySem.W.OpenLaw} {w : World} {K : PySem.W.Frag} {h : Heap} {mg : Str → Option Value} {f21 : Addr} {C0 C1 : Addr} {od21 an21 : Option Addr} {sl21 : Array (Option Value)} {oc21 kV21 dc21 pm21 cd21 ct21 : Value} (X : K.In h) (G : h.Ns mainGlobals mg) (a21 : PySem.W.nsIn K mainGlobals "count_of" = some (some (.ref f21))) (l21 : K.lookup f21 = some ⟨oc21, od21, .func (PySem.W.fnOf "count_of" "count_of" (defArgs s_count_of) (defBody s_count_of) (defScope s_count_of) .none kV21 dc21 pm21 an21 cd21 ct21), sl21⟩) (c21 : PySem.W.codeIn K cd21 "count_of" = true) (k21 : PySem.W.keepIn K (.ref f21) = true)    :
    ∀ base : Heap, Good l.prog w K mg base (glbT K [C0, C1] atT) 23 "count_of" p_count_of := @Rz _ _ (fun qz => @Hz.get _ _ (qz.bar : Hz _ (by
  clear qz
  have F21 := fun_mk (st := s_count_of) l21 c21 k21
  have b21 := F21.binds (ps := ["unit", "way", "age"]) fun _ _ _ _ _ _ us hl => match us, hl with | [_, _, _], _ => rfl
  have hfl21 : ∀ c f, fldT [] c f = true → Cls K (clT [C0, C1] c) ∧ NoAttr K (clT [C0, C1] c) (fnT atT f) := fld_nil
  have o21 : ∀ base : Heap, FnOk l.prog w K mg base (L2.CX l.prog w) 23 f21 _ ["unit", "way", "age"] (spI (glbT K [C0, C1] atT) 3 p_count_of) := fun base => def_ok (T := T_count_of) (C := c_count_of) (n := 60) (body := b_count_of) (phi := p_count_of) (baseT (cs := [C0, C1]) (tab := atT) atT_nd atT_ns hfl21 nms_nil rfl blts_nil) F21 sc_count_of fns_nil (fun m _ c i e => (psi_nil : ∀ c m i, psiT [] c m = some i → GoodM l.prog w K mg base (glbT K [C0, C1] atT) 22 c m (T_count_of.phi i)) c m i e) rfl cv_count_of (by decide) fun ds sto h => fx_len (T := T_count_of) (np := 3) (n := 3) (body := b_count_of) h
  exact fun base => def_good F21 (PySem.W.mg_of X G a21) b21 (o21 base) fun ds sto h => (fx_len (T := T_count_of) (np := 3) (n := 3) (body := b_count_of) h).1))) Xz.mk
theorem q_row_label {l : PySem.W.OpenLaw} {w : World} {K : PySem.W.Frag} {h : Heap} {mg : Str → Option Value} {f22 : Addr} {C0 C1 : Addr} {od22 an22 : Option Addr} {sl22 : Array (Option Value)} {oc22 kV22 dc22 pm22 cd22 ct22 : Value} (X : K.In h) (G : h.Ns mainGlobals mg) (a22 : PySem.W.nsIn K mainGlobals "row_label" = some (some (.ref f22))) (l22 : K.lookup f22 = some ⟨oc22, od22, .func (PySem.W.fnOf "row_label" "row_label" (defArgs s_row_label) (defBody s_row_label) (defScope s_row_label) .none kV22 dc22 pm22 an22 cd22 ct22), sl22⟩) (c22 : PySem.W.codeIn K cd22 "row_label" = true) (k22 : PySem.W.keepIn K (.ref f22) = true) (K0 : Cls K C0) (n0_unit : PySem.W.findIn K (.ref C0) "unit" = some none) (n0_way : PySem.W.findIn K (.ref C0) "way" = some none) (n0_word : PySem.W.findIn K (.ref C0) "word" = some none) (g21 : ∀ base : Heap, Good l.prog w K mg base (glbT K [C0, C1] atT) 23 "count_of" p_count_of) :
    ∀ base : Heap, Good l.prog w K mg base (glbT K [C0, C1] atT) 24 "row_label" p_row_label := @Rz _ _ (fun qz => @Hz.get _ _ (qz.bar : Hz _ (by
  clear qz
  have F22 := fun_mk (st := s_row_label) l22 c22 k22
  have b22 := F22.binds (ps := ["row", "age"]) fun _ _ _ _ _ _ us hl => match us, hl with | [_, _], _ => rfl
  have hfl22 : ∀ c f, fldT [(0, [1, 2, 3])] c f = true → Cls K (clT [C0, C1] c) ∧ NoAttr K (clT [C0, C1] c) (fnT atT f) := (fld_cons (Q := fun c f => Cls K (clT [C0, C1] c) ∧ NoAttr K (clT [C0, C1] c) (fnT atT f)) (has_cons (Q := fun f => Cls K C0 ∧ NoAttr K C0 (fnT atT f)) ⟨K0, n0_unit⟩ (has_cons (Q := fun f => Cls K C0 ∧ NoAttr K C0 (fnT atT f)) ⟨K0, n0_way⟩ (has_cons (Q := fun f => Cls K C0 ∧ NoAttr K C0 (fnT atT f)) ⟨K0, n0_word⟩ has_nil))) fld_nil)
  have o22 : ∀ base : Heap, FnOk l.prog w K mg base (L2.CX l.prog w) 24 f22 _ ["row", "age"] (spI (glbT K [C0, C1] atT) 2 p_row_label) := fun base => def_ok (T := T_row_label) (C := c_row_label) (n := 60) (body := b_row_label) (phi := p_row_label) (baseT (cs := [C0, C1]) (tab := atT) atT_nd atT_ns hfl22 (fns_cons rfl (fns_cons rfl (fns_cons rfl nms_nil))) rfl blts_nil) F22 sc_row_label (fns_cons (Good.mono (phi := p_count_of) (g21 base) (by decide)) fns_nil) (fun m _ c i e => (psi_nil : ∀ c m i, psiT [] c m = some i → GoodM l.prog w K mg base (glbT K [C0, C1] atT) 23 c m (T_row_label.phi i)) c m i e) rfl cv_row_label (by decide) fun ds sto h => fx_len (T := T_row_label) (np := 2) (n := 2) (body := b_row_label) h
  exact fun base => def_good F22 (PySem.W.mg_of X G a22) b22 (o22 base) fun ds sto h => (fx_len (T := T_row_label) (np := 2) (n := 2) (body := b_row_label) h).1))) Xz.mk
theorem q_Wording_label {l : PySem.W.OpenLaw} {w : World} {K : PySem.W.Frag} {h : Heap} {mg : Str → Option Value} {f23 : Addr} {C0 C1 : Addr} {od23 an23 : Option Addr} {sl23 : Array (Option Value)} {oc23 kV23 dc23 pm23 cd23 ct23 : Value} (X : K.In h) (G : h.Ns mainGlobals mg) (a23 : PySem.W.findIn K (.ref C1) "label" = some (some (.ref f23))) (i23 : PySem.W.isFn K (.ref f23) = true) (l23 : K.lookup f23 = some ⟨oc23, od23, .func (PySem.W.fnOf "label" "Wording.label" (defArgs s_Wording_label) (defBody s_Wording_label) (defScope s_Wording_label) .none kV23 dc23 pm23 an23 cd23 ct23), sl23⟩) (c23 : PySem.W.codeIn K cd23 "Wording.label" = true) (k23 : PySem.W.keepIn K (.ref f23) = true) (K0 : Cls K C0) (K1 : Cls K C1) (n0_until : PySem.W.findIn K (.ref C0) "until" = some none) (n1_rows : PySem.W.findIn K (.ref C1) "rows" = some none) (g22 : ∀ base : Heap, Good l.prog w K mg base (glbT K [C0, C1] atT) 24 "row_label" p_row_label) (g20 : ∀ base : Heap, Good l.prog w K mg base (glbT K [C0, C1] atT) 22 "check_age" p_check_age) :
    ∀ base : Heap, GoodM l.prog w K mg base (glbT K [C0, C1] atT) 25 1 20 p_Wording_label := @Rz _ _ (fun qz => @Hz.get _ _ (qz.bar : Hz _ (by
  clear qz
  have F23 := fun_mk (st := s_Wording_label) l23 c23 k23
  have b23 := F23.binds (ps := ["self", "age"]) fun _ _ _ _ _ _ us hl => match us, hl with | [_, _], _ => rfl
  have hfl23 : ∀ c f, fldT [(0, [0]), (1, [4])] c f = true → Cls K (clT [C0, C1] c) ∧ NoAttr K (clT [C0, C1] c) (fnT atT f) := (fld_cons (Q := fun c f => Cls K (clT [C0, C1] c) ∧ NoAttr K (clT [C0, C1] c) (fnT atT f)) (has_cons (Q := fun f => Cls K C0 ∧ NoAttr K C0 (fnT atT f)) ⟨K0, n0_until⟩ has_nil) (fld_cons (Q := fun c f => Cls K (clT [C0, C1] c) ∧ NoAttr K (clT [C0, C1] c) (fnT atT f)) (has_cons (Q := fun f => Cls K C1 ∧ NoAttr K C1 (fnT atT f)) ⟨K1, n1_rows⟩ has_nil) fld_nil))
  have o23 : ∀ base : Heap, FnOk l.prog w K mg base (L2.CX l.prog w) 25 f23 _ ["self", "age"] (spI (glbT K [C0, C1] atT) 2 p_Wording_label) := fun base => def_ok (T := T_Wording_label) (C := c_Wording_label) (n := 60) (body := b_Wording_label) (phi := p_Wording_label) (baseT (cs := [C0, C1]) (tab := atT) atT_nd atT_ns hfl23 (fns_cons rfl (fns_cons rfl nms_nil)) rfl blts_nil) F23 sc_Wording_label (fns_cons (Good.mono (phi := p_check_age) (g20 base) (by decide)) (fns_cons (Good.mono (phi := p_row_label) (g22 base) (by decide)) fns_nil)) (fun m _ c i e => (psi_nil : ∀ c m i, psiT [] c m = some i → GoodM l.prog w K mg base (glbT K [C0, C1] atT) 24 c m (T_Wording_label.phi i)) c m i e) rfl cv_Wording_label (by decide) fun ds sto h => fx_len (T := T_Wording_label) (np := 2) (n := 3) (body := b_Wording_label) h
  exact fun base => meth_good (G := (glbT K [C0, C1] atT)) (c := 1) (m := 20) K1 ⟨a23, i23, k23⟩ b23 (o23 base) fun ds sto h => (fx_len (T := T_Wording_label) (np := 2) (n := 3) (body := b_Wording_label) h).1))) Xz.mk
theorem q_first_unlike {l : PySem.W.OpenLaw} {w : World} {K : PySem.W.Frag} {h : Heap} {mg : Str → Option Value} {f24 : Addr} {C0 C1 : Addr} {od24 an24 : Option Addr} {sl24 : Array (Option Value)} {oc24 kV24 dc24 pm24 cd24 ct24 : Value} (X : K.In h) (G : h.Ns mainGlobals mg) (a24 : PySem.W.nsIn K mainGlobals "first_unlike" = some (some (.ref f24))) (l24 : K.lookup f24 = some ⟨oc24, od24, .func (PySem.W.fnOf "first_unlike" "first_unlike" (defArgs s_first_unlike) (defBody s_first_unlike) (defScope s_first_unlike) .none kV24 dc24 pm24 an24 cd24 ct24), sl24⟩) (c24 : PySem.W.codeIn K cd24 "first_unlike" = true) (k24 : PySem.W.keepIn K (.ref f24) = true) (K0 : Cls K C0) (n0_unit : PySem.W.findIn K (.ref C0) "unit" = some none) (n0_way : PySem.W.findIn K (.ref C0) "way" = some none) (z_min : PySem.W.nsIn K mainGlobals "min" = some none) (g19 : ∀ base : Heap, Good l.prog w K mg base (glbT K [C0, C1] atT) 21 "offset_of" p_offset_of) (g18 : ∀ base : Heap, Good l.prog w K mg base (glbT K [C0, C1] atT) 20 "first_within" p_first_within) (g23 : ∀ base : Heap, GoodM l.prog w K mg base (glbT K [C0, C1] atT) 25 1 20 p_Wording_label) :
    ∀ base : Heap, Good l.prog w K mg base (glbT K [C0, C1] atT) 26 "first_unlike" p_first_unlike := @Rz _ _ (fun qz => @Hz.get _ _ (qz.bar : Hz _ (by
  clear qz
  have F24 := fun_mk (st := s_first_unlike) l24 c24 k24
  have b24 := F24.binds (ps := ["one", "other", "rows", "ages"]) fun _ _ _ _ _ _ us hl => match us, hl with | [_, _, _, _], _ => rfl
  have hfl24 : ∀ c f, fldT [(0, [1, 2])] c f = true → Cls K (clT [C0, C1] c) ∧ NoAttr K (clT [C0, C1] c) (fnT atT f) := (fld_cons (Q := fun c f => Cls K (clT [C0, C1] c) ∧ NoAttr K (clT [C0, C1] c) (fnT atT f)) (has_cons (Q := fun f => Cls K C0 ∧ NoAttr K C0 (fnT atT f)) ⟨K0, n0_unit⟩ (has_cons (Q := fun f => Cls K C0 ∧ NoAttr K C0 (fnT atT f)) ⟨K0, n0_way⟩ has_nil)) fld_nil)
  have o24 : ∀ base : Heap, FnOk l.prog w K mg base (L2.CX l.prog w) 26 f24 _ ["one", "other", "rows", "ages"] (spI (glbT K [C0, C1] atT) 4 p_first_unlike) := fun base => def_ok (T := T_first_unlike) (C := c_first_unlike) (n := 60) (body := b_first_unlike) (phi := p_first_unlike) (baseT (cs := [C0, C1]) (tab := atT) atT_nd atT_ns hfl24 (fns_cons rfl (fns_cons rfl (fns_cons rfl nms_nil))) rfl (blts_cons (PySem.W.mg_none_of X G z_min) blts_nil)) F24 sc_first_unlike (fns_cons (Good.mono (phi := p_first_within) (g18 base) (by decide)) (fns_cons (Good.mono (phi := p_offset_of) (g19 base) (by decide)) fns_nil)) (fun m _ c i e => ((psi_cons (GoodM.mono (phi := p_Wording_label) (g23 base) (by decide)) psi_nil) : ∀ c m i, psiT [((1, 20), 42)] c m = some i → GoodM l.prog w K mg base (glbT K [C0, C1] atT) 25 c m (T_first_unlike.phi i)) c m i e) rfl cv_first_unlike (by decide) fun ds sto h => fx_len (T := T_first_unlike) (np := 4) (n := 12) (body := b_first_unlike) h
  exact fun base => def_good F24 (PySem.W.mg_of X G a24) b24 (o24 base) fun ds sto h => (fx_len (T := T_first_unlike) (np := 4) (n := 12) (body := b_first_unlike) h).1))) Xz.mk
theorem q_lesser_end {l : PySem.W.OpenLaw} {w : World} {K : PySem.W.Frag} {h : Heap} {mg : Str → Option Value} {f25 : Addr} {C0 C1 : Addr} {od25 an25 : Option Addr} {sl25 : Array (Option Value)} {oc25 kV25 dc25 pm25 cd25 ct25 : Value} (X : K.In h) (G : h.Ns mainGlobals mg) (a25 : PySem.W.nsIn K mainGlobals "lesser_end" = some (some (.ref f25))) (l25 : K.lookup f25 = some ⟨oc25, od25, .func (PySem.W.fnOf "lesser_end" "lesser_end" (defArgs s_lesser_end) (defBody s_lesser_end) (defScope s_lesser_end) .none kV25 dc25 pm25 an25 cd25 ct25), sl25⟩) (c25 : PySem.W.codeIn K cd25 "lesser_end" = true) (k25 : PySem.W.keepIn K (.ref f25) = true)  (z_int : PySem.W.nsIn K mainGlobals "int" = some none) (z_min : PySem.W.nsIn K mainGlobals "min" = some none)  :
    ∀ base : Heap, Good l.prog w K mg base (glbT K [C0, C1] atT) 27 "lesser_end" p_lesser_end := @Rz _ _ (fun qz => @Hz.get _ _ (qz.bar : Hz _ (by
  clear qz
  have F25 := fun_mk (st := s_lesser_end) l25 c25 k25
  have b25 := F25.binds (ps := ["one", "other"]) fun _ _ _ _ _ _ us hl => match us, hl with | [_, _], _ => rfl
  have hfl25 : ∀ c f, fldT [] c f = true → Cls K (clT [C0, C1] c) ∧ NoAttr K (clT [C0, C1] c) (fnT atT f) := fld_nil
  have o25 : ∀ base : Heap, FnOk l.prog w K mg base (L2.CX l.prog w) 27 f25 _ ["one", "other"] (spI (glbT K [C0, C1] atT) 2 p_lesser_end) := fun base => def_ok (T := T_lesser_end) (C := c_lesser_end) (n := 60) (body := b_lesser_end) (phi := p_lesser_end) (baseT (cs := [C0, C1]) (tab := atT) atT_nd atT_ns hfl25 nms_nil rfl (blts_cons (PySem.W.mg_none_of X G z_int) (blts_cons (PySem.W.mg_none_of X G z_min) blts_nil))) F25 sc_lesser_end fns_nil (fun m _ c i e => (psi_nil : ∀ c m i, psiT [] c m = some i → GoodM l.prog w K mg base (glbT K [C0, C1] atT) 26 c m (T_lesser_end.phi i)) c m i e) rfl cv_lesser_end (by decide) fun ds sto h => fx_len (T := T_lesser_end) (np := 2) (n := 2) (body := b_lesser_end) h
  exact fun base => def_good F25 (PySem.W.mg_of X G a25) b25 (o25 base) fun ds sto h => (fx_len (T := T_lesser_end) (np := 2) (n := 2) (body := b_lesser_end) h).1))) Xz.mk
theorem q_row_ages {l : PySem.W.OpenLaw} {w : World} {K : PySem.W.Frag} {h : Heap} {mg : Str → Option Value} {f26 : Addr} {C0 C1 : Addr} {od26 an26 : Option Addr} {sl26 : Array (Option Value)} {oc26 kV26 dc26 pm26 cd26 ct26 : Value} (X : K.In h) (G : h.Ns mainGlobals mg) (a26 : PySem.W.nsIn K mainGlobals "row_ages" = some (some (.ref f26))) (l26 : K.lookup f26 = some ⟨oc26, od26, .func (PySem.W.fnOf "row_ages" "row_ages" (defArgs s_row_ages) (defBody s_row_ages) (defScope s_row_ages) .none kV26 dc26 pm26 an26 cd26 ct26), sl26⟩) (c26 : PySem.W.codeIn K cd26 "row_ages" = true) (k26 : PySem.W.keepIn K (.ref f26) = true) (K0 : Cls K C0) (n0_until : PySem.W.findIn K (.ref C0) "until" = some none)  :
    ∀ base : Heap, Good l.prog w K mg base (glbT K [C0, C1] atT) 28 "row_ages" p_row_ages := @Rz _ _ (fun qz => @Hz.get _ _ (qz.bar : Hz _ (by
  clear qz
  have F26 := fun_mk (st := s_row_ages) l26 c26 k26
  have b26 := F26.binds (ps := ["rows"]) fun _ _ _ _ _ _ us hl => match us, hl with | [_], _ => rfl
  have hfl26 : ∀ c f, fldT [(0, [0])] c f = true → Cls K (clT [C0, C1] c) ∧ NoAttr K (clT [C0, C1] c) (fnT atT f) := (fld_cons (Q := fun c f => Cls K (clT [C0, C1] c) ∧ NoAttr K (clT [C0, C1] c) (fnT atT f)) (has_cons (Q := fun f => Cls K C0 ∧ NoAttr K C0 (fnT atT f)) ⟨K0, n0_until⟩ has_nil) fld_nil)
  have o26 : ∀ base : Heap, FnOk l.prog w K mg base (L2.CX l.prog w) 28 f26 _ ["rows"] (spI (glbT K [C0, C1] atT) 1 p_row_ages) := fun base => def_ok (T := T_row_ages) (C := c_row_ages) (n := 60) (body := b_row_ages) (phi := p_row_ages) (baseT (cs := [C0, C1]) (tab := atT) atT_nd atT_ns hfl26 (fns_cons rfl nms_nil) rfl blts_nil) F26 sc_row_ages fns_nil (fun m _ c i e => (psi_nil : ∀ c m i, psiT [] c m = some i → GoodM l.prog w K mg base (glbT K [C0, C1] atT) 27 c m (T_row_ages.phi i)) c m i e) rfl cv_row_ages (by decide) fun ds sto h => fx_len (T := T_row_ages) (np := 1) (n := 4) (body := b_row_ages) h
  exact fun base => def_good F26 (PySem.W.mg_of X G a26) b26 (o26 base) fun ds sto h => (fx_len (T := T_row_ages) (np := 1) (n := 4) (body := b_row_ages) h).1))) Xz.mk
theorem q_alike {l : PySem.W.OpenLaw} {w : World} {K : PySem.W.Frag} {h : Heap} {mg : Str → Option Value} {f27 : Addr} {C0 C1 : Addr} {od27 an27 : Option Addr} {sl27 : Array (Option Value)} {oc27 kV27 dc27 pm27 cd27 ct27 : Value} (X : K.In h) (G : h.Ns mainGlobals mg) (a27 : PySem.W.nsIn K mainGlobals "alike" = some (some (.ref f27))) (l27 : K.lookup f27 = some ⟨oc27, od27, .func (PySem.W.fnOf "alike" "alike" (defArgs s_alike) (defBody s_alike) (defScope s_alike) .none kV27 dc27 pm27 an27 cd27 ct27), sl27⟩) (c27 : PySem.W.codeIn K cd27 "alike" = true) (k27 : PySem.W.keepIn K (.ref f27) = true) (K1 : Cls K C1) (n1_rows : PySem.W.findIn K (.ref C1) "rows" = some none) (z_max : PySem.W.nsIn K mainGlobals "max" = some none) (z_zip : PySem.W.nsIn K mainGlobals "zip" = some none) (g26 : ∀ base : Heap, Good l.prog w K mg base (glbT K [C0, C1] atT) 28 "row_ages" p_row_ages) (g25 : ∀ base : Heap, Good l.prog w K mg base (glbT K [C0, C1] atT) 27 "lesser_end" p_lesser_end) (g24 : ∀ base : Heap, Good l.prog w K mg base (glbT K [C0, C1] atT) 26 "first_unlike" p_first_unlike) :
    ∀ base : Heap, Good l.prog w K mg base (glbT K [C0, C1] atT) 29 "alike" p_alike := @Rz _ _ (fun qz => @Hz.get _ _ (qz.bar : Hz _ (by
  clear qz
  have F27 := fun_mk (st := s_alike) l27 c27 k27
  have b27 := F27.binds (ps := ["one", "other"]) fun _ _ _ _ _ _ us hl => match us, hl with | [_, _], _ => rfl
  have hfl27 : ∀ c f, fldT [(1, [4])] c f = true → Cls K (clT [C0, C1] c) ∧ NoAttr K (clT [C0, C1] c) (fnT atT f) := (fld_cons (Q := fun c f => Cls K (clT [C0, C1] c) ∧ NoAttr K (clT [C0, C1] c) (fnT atT f)) (has_cons (Q := fun f => Cls K C1 ∧ NoAttr K C1 (fnT atT f)) ⟨K1, n1_rows⟩ has_nil) fld_nil)
  have o27 : ∀ base : Heap, FnOk l.prog w K mg base (L2.CX l.prog w) 29 f27 _ ["one", "other"] (spI (glbT K [C0, C1] atT) 2 p_alike) := fun base => def_ok (T := T_alike) (C := c_alike) (n := 60) (body := b_alike) (phi := p_alike) (baseT (cs := [C0, C1]) (tab := atT) atT_nd atT_ns hfl27 (fns_cons rfl nms_nil) rfl (blts_cons (PySem.W.mg_none_of X G z_max) (blts_cons (PySem.W.mg_none_of X G z_zip) blts_nil))) F27 sc_alike (fns_cons (Good.mono (phi := p_first_unlike) (g24 base) (by decide)) (fns_cons (Good.mono (phi := p_lesser_end) (g25 base) (by decide)) (fns_cons (Good.mono (phi := p_row_ages) (g26 base) (by decide)) fns_nil))) (fun m _ c i e => (psi_nil : ∀ c m i, psiT [] c m = some i → GoodM l.prog w K mg base (glbT K [C0, C1] atT) 28 c m (T_alike.phi i)) c m i e) rfl cv_alike (by decide) fun ds sto h => fx_len (T := T_alike) (np := 2) (n := 11) (body := b_alike) h
  exact fun base => def_good F27 (PySem.W.mg_of X G a27) b27 (o27 base) fun ds sto h => (fx_len (T := T_alike) (np := 2) (n := 11) (body := b_alike) h).1))) Xz.mk
theorem q_law {l : PySem.W.OpenLaw} {w : World} {K : PySem.W.Frag} {h : Heap} {mg : Str → Option Value} {f28 : Addr} {C0 C1 : Addr} {od28 an28 : Option Addr} {sl28 : Array (Option Value)} {oc28 kV28 dc28 pm28 cd28 ct28 : Value} (X : K.In h) (G : h.Ns mainGlobals mg) (a28 : PySem.W.nsIn K mainGlobals "law" = some (some (.ref f28))) (l28 : K.lookup f28 = some ⟨oc28, od28, .func (PySem.W.fnOf "law" "law" (defArgs s_law) (defBody s_law) (defScope s_law) .none kV28 dc28 pm28 an28 cd28 ct28), sl28⟩) (c28 : PySem.W.codeIn K cd28 "law" = true) (k28 : PySem.W.keepIn K (.ref f28) = true)  (z_len : PySem.W.nsIn K mainGlobals "len" = some none) (z_min : PySem.W.nsIn K mainGlobals "min" = some none) (z_range : PySem.W.nsIn K mainGlobals "range" = some none) (g27 : ∀ base : Heap, Good l.prog w K mg base (glbT K [C0, C1] atT) 29 "alike" p_alike) (g17 : ∀ base : Heap, Good l.prog w K mg base (glbT K [C0, C1] atT) 19 "_law_times" p_law_times) (g16 : ∀ base : Heap, Good l.prog w K mg base (glbT K [C0, C1] atT) 18 "_law_split" p_law_split) (g15 : ∀ base : Heap, Good l.prog w K mg base (glbT K [C0, C1] atT) 17 "_law_rows" p_law_rows_v2) (g2 : ∀ base : Heap, Good l.prog w K mg base (glbT K [C0, C1] atT) 2 "_law_pick" p_pick) (g13 : ∀ base : Heap, Good l.prog w K mg base (glbT K [C0, C1] atT) 15 "_law_pen" p_pen) (g12 : ∀ base : Heap, Good l.prog w K mg base (glbT K [C0, C1] atT) 14 "_law_made" p_law_made) (g8 : ∀ base : Heap, Good l.prog w K mg base (glbT K [C0, C1] atT) 8 "_law_first_unlike" p_law_first_unlike) (g1 : ∀ base : Heap, Good l.prog w K mg base (glbT K [C0, C1] atT) 1 "_law_draw" p_draw) (g4 : ∀ base : Heap, Good l.prog w K mg base (glbT K [C0, C1] atT) 4 "_law_bent" p_law_bent_v2) :
    ∃ fd : FuncData, (∀ (s : Shared) (v : Value), BindsTo s fd ⟨[v], []⟩ [("_law_script", v)]) ∧ ∀ base : Heap, K.In base → base.Ns mainGlobals mg → FnOk l.prog w K mg base (L2.CX l.prog w) 30 f28 fd ["_law_script"] (spLaw K) := @Rz _ _ (fun qz => @Hz.get _ _ (qz.bar : Hz _ (by
  clear qz
  have F28 := fun_mk (st := s_law) l28 c28 k28
  have b28 := F28.binds (ps := ["_law_script"]) fun _ _ _ _ _ _ us hl => match us, hl with | [_], _ => rfl
  have hfl28 : ∀ c f, fldT [] c f = true → Cls K (clT [C0, C1] c) ∧ NoAttr K (clT [C0, C1] c) (fnT atT f) := fld_nil
  have o28 : ∀ base : Heap, FnOk l.prog w K mg base (L2.CX l.prog w) 30 f28 _ ["_law_script"] (spI (glbT K [C0, C1] atT) 1 p_law) := fun base => def_ok (T := T_law) (C := c_law) (n := 60) (body := b_law) (phi := p_law) (baseT (cs := [C0, C1]) (tab := atT) atT_nd atT_ns hfl28 nms_nil rfl (blts_cons (PySem.W.mg_none_of X G z_len) (blts_cons (PySem.W.mg_none_of X G z_min) (blts_cons (PySem.W.mg_none_of X G z_range) blts_nil)))) F28 sc_law (fns_cons (Good.mono (phi := p_law_bent_v2) (g4 base) (by decide)) (fns_cons (Good.mono (phi := p_draw) (g1 base) (by decide)) (fns_cons (Good.mono (phi := p_law_first_unlike) (g8 base) (by decide)) (fns_cons (Good.mono (phi := p_law_made) (g12 base) (by decide)) (fns_cons (Good.mono (phi := p_pen) (g13 base) (by decide)) (fns_cons (Good.mono (phi := p_pick) (g2 base) (by decide)) (fns_cons (Good.mono (phi := p_law_rows_v2) (g15 base) (by decide)) (fns_cons (Good.mono (phi := p_law_split) (g16 base) (by decide)) (fns_cons (Good.mono (phi := p_law_times) (g17 base) (by decide)) (fns_cons (Good.mono (phi := p_alike) (g27 base) (by decide)) fns_nil)))))))))) (fun m _ c i e => (psi_nil : ∀ c m i, psiT [] c m = some i → GoodM l.prog w K mg base (glbT K [C0, C1] atT) 29 c m (T_law.phi i)) c m i e) rfl cv_law (by decide) fun ds sto h => fx_len (T := T_law) (np := 1) (n := 12) (body := b_law) h
  exact ⟨_, fun s v => .of_eq rfl, fun base _ _ => law_sp (o28 base) rfl keeps⟩))) Xz.mk
theorem all_mk {l : PySem.W.OpenLaw} {w : World} {K : PySem.W.Frag} {h : Heap} {mg : Str → Option Value} {fa : Addr} {f1 f2 f3 f4 f5 f6 f7 f8 f9 f10 f11 f12 f13 f14 f15 f16 f17 f18 f19 f20 f21 f22 f23 f24 f25 f26 f27 f28 C0 C1 : Addr} {od1 an1 od2 an2 od3 an3 od4 an4 od5 an5 od6 an6 od7 an7 od8 an8 od9 an9 od10 an10 od11 an11 od12 an12 od13 an13 od14 an14 od15 an15 od16 an16 od17 an17 od18 an18 od19 an19 od20 an20 od21 an21 od22 an22 od23 an23 od24 an24 od25 an25 od26 an26 od27 an27 od28 an28 : Option Addr} {sl1 sl2 sl3 sl4 sl5 sl6 sl7 sl8 sl9 sl10 sl11 sl12 sl13 sl14 sl15 sl16 sl17 sl18 sl19 sl20 sl21 sl22 sl23 sl24 sl25 sl26 sl27 sl28 : Array (Option Value)} {oc1 kV1 dc1 pm1 cd1 ct1 oc2 kV2 dc2 pm2 cd2 ct2 oc3 kV3 dc3 pm3 cd3 ct3 oc4 kV4 dc4 pm4 cd4 ct4 oc5 kV5 dc5 pm5 cd5 ct5 oc6 kV6 dc6 pm6 cd6 ct6 oc7 kV7 dc7 pm7 cd7 ct7 oc8 kV8 dc8 pm8 cd8 ct8 oc9 kV9 dc9 pm9 cd9 ct9 oc10 kV10 dc10 pm10 cd10 ct10 oc11 kV11 dc11 pm11 cd11 ct11 oc12 kV12 dc12 pm12 cd12 ct12 oc13 kV13 dc13 pm13 cd13 ct13 oc14 kV14 dc14 pm14 cd14 ct14 oc15 kV15 dc15 pm15 cd15 ct15 oc16 kV16 dc16 pm16 cd16 ct16 oc17 kV17 dc17 pm17 cd17 ct17 oc18 kV18 dc18 pm18 cd18 ct18 oc19 kV19 dc19 pm19 cd19 ct19 oc20 kV20 dc20 pm20 cd20 ct20 oc21 kV21 dc21 pm21 cd21 ct21 oc22 kV22 dc22 pm22 cd22 ct22 oc23 kV23 dc23 pm23 cd23 ct23 oc24 kV24 dc24 pm24 cd24 ct24 oc25 kV25 dc25 pm25 cd25 ct25 oc26 kV26 dc26 pm26 cd26 ct26 oc27 kV27 dc27 pm27 cd27 ct27 oc28 kV28 dc28 pm28 cd28 ct28 : Value} (X : K.In h) (G : h.Ns mainGlobals mg) (hfa : mg "law" = some (.ref fa))
    (aC0 : PySem.W.nsIn K mainGlobals "Row" = some (some (.ref C0)))
    (aC1 : PySem.W.nsIn K mainGlobals "Wording" = some (some (.ref C1)))
    (a1 : PySem.W.nsIn K mainGlobals "_law_draw" = some (some (.ref f1)))
    (l1 : K.lookup f1 = some ⟨oc1, od1, .func (PySem.W.fnOf "_law_draw" "_law_draw" (defArgs s_law_draw) (defBody s_law_draw) (defScope s_law_draw) .none kV1 dc1 pm1 an1 cd1 ct1), sl1⟩)
    (c1 : PySem.W.codeIn K cd1 "_law_draw" = true)
    (k1 : PySem.W.keepIn K (.ref f1) = true)
    (a2 : PySem.W.nsIn K mainGlobals "_law_pick" = some (some (.ref f2)))
    (l2 : K.lookup f2 = some ⟨oc2, od2, .func (PySem.W.fnOf "_law_pick" "_law_pick" (defArgs s_law_pick) (defBody s_law_pick) (defScope s_law_pick) .none kV2 dc2 pm2 an2 cd2 ct2), sl2⟩)
    (c2 : PySem.W.codeIn K cd2 "_law_pick" = true)
    (k2 : PySem.W.keepIn K (.ref f2) = true)
    (a3 : PySem.W.nsIn K mainGlobals "_law_way" = some (some (.ref f3)))
    (l3 : K.lookup f3 = some ⟨oc3, od3, .func (PySem.W.fnOf "_law_way" "_law_way" (defArgs s_law_way) (defBody s_law_way) (defScope s_law_way) .none kV3 dc3 pm3 an3 cd3 ct3), sl3⟩)
    (c3 : PySem.W.codeIn K cd3 "_law_way" = true)
    (k3 : PySem.W.keepIn K (.ref f3) = true)
    (a4 : PySem.W.nsIn K mainGlobals "_law_bent" = some (some (.ref f4)))
    (l4 : K.lookup f4 = some ⟨oc4, od4, .func (PySem.W.fnOf "_law_bent" "_law_bent" (defArgs s_law_bent_v2) (defBody s_law_bent_v2) (defScope s_law_bent_v2) .none kV4 dc4 pm4 an4 cd4 ct4), sl4⟩)
    (c4 : PySem.W.codeIn K cd4 "_law_bent" = true)
    (k4 : PySem.W.keepIn K (.ref f4) = true)
    (a5 : PySem.W.nsIn K mainGlobals "_law_count" = some (some (.ref f5)))
    (l5 : K.lookup f5 = some ⟨oc5, od5, .func (PySem.W.fnOf "_law_count" "_law_count" (defArgs s_law_count) (defBody s_law_count) (defScope s_law_count) .none kV5 dc5 pm5 an5 cd5 ct5), sl5⟩)
    (c5 : PySem.W.codeIn K cd5 "_law_count" = true)
    (k5 : PySem.W.keepIn K (.ref f5) = true)
    (a6 : PySem.W.nsIn K mainGlobals "_law_row_of" = some (some (.ref f6)))
    (l6 : K.lookup f6 = some ⟨oc6, od6, .func (PySem.W.fnOf "_law_row_of" "_law_row_of" (defArgs s_law_row_of) (defBody s_law_row_of) (defScope s_law_row_of) .none kV6 dc6 pm6 an6 cd6 ct6), sl6⟩)
    (c6 : PySem.W.codeIn K cd6 "_law_row_of" = true)
    (k6 : PySem.W.keepIn K (.ref f6) = true)
    (a7 : PySem.W.nsIn K mainGlobals "_law_label" = some (some (.ref f7)))
    (l7 : K.lookup f7 = some ⟨oc7, od7, .func (PySem.W.fnOf "_law_label" "_law_label" (defArgs s_law_label) (defBody s_law_label) (defScope s_law_label) .none kV7 dc7 pm7 an7 cd7 ct7), sl7⟩)
    (c7 : PySem.W.codeIn K cd7 "_law_label" = true)
    (k7 : PySem.W.keepIn K (.ref f7) = true)
    (a8 : PySem.W.nsIn K mainGlobals "_law_first_unlike" = some (some (.ref f8)))
    (l8 : K.lookup f8 = some ⟨oc8, od8, .func (PySem.W.fnOf "_law_first_unlike" "_law_first_unlike" (defArgs s_law_first_unlike) (defBody s_law_first_unlike) (defScope s_law_first_unlike) .none kV8 dc8 pm8 an8 cd8 ct8), sl8⟩)
    (c8 : PySem.W.codeIn K cd8 "_law_first_unlike" = true)
    (k8 : PySem.W.keepIn K (.ref f8) = true)
    (a9 : PySem.W.findIn K (.ref C0) "__init__" = some (some (.ref f9)))
    (i9 : PySem.W.isFn K (.ref f9) = true)
    (l9 : K.lookup f9 = some ⟨oc9, od9, .func (PySem.W.fnOf "__init__" "Row.__init__" (defArgs s_Row_init) (defBody s_Row_init) (defScope s_Row_init) .none kV9 dc9 pm9 an9 cd9 ct9), sl9⟩)
    (c9 : PySem.W.codeIn K cd9 "Row.__init__" = true)
    (k9 : PySem.W.keepIn K (.ref f9) = true)
    (a10 : PySem.W.nsIn K mainGlobals "check_rows" = some (some (.ref f10)))
    (l10 : K.lookup f10 = some ⟨oc10, od10, .func (PySem.W.fnOf "check_rows" "check_rows" (defArgs s_check_rows) (defBody s_check_rows) (defScope s_check_rows) .none kV10 dc10 pm10 an10 cd10 ct10), sl10⟩)
    (c10 : PySem.W.codeIn K cd10 "check_rows" = true)
    (k10 : PySem.W.keepIn K (.ref f10) = true)
    (a11 : PySem.W.findIn K (.ref C1) "__init__" = some (some (.ref f11)))
    (i11 : PySem.W.isFn K (.ref f11) = true)
    (l11 : K.lookup f11 = some ⟨oc11, od11, .func (PySem.W.fnOf "__init__" "Wording.__init__" (defArgs s_Wording_init) (defBody s_Wording_init) (defScope s_Wording_init) .none kV11 dc11 pm11 an11 cd11 ct11), sl11⟩)
    (c11 : PySem.W.codeIn K cd11 "Wording.__init__" = true)
    (k11 : PySem.W.keepIn K (.ref f11) = true)
    (a12 : PySem.W.nsIn K mainGlobals "_law_made" = some (some (.ref f12)))
    (l12 : K.lookup f12 = some ⟨oc12, od12, .func (PySem.W.fnOf "_law_made" "_law_made" (defArgs s_law_made) (defBody s_law_made) (defScope s_law_made) .none kV12 dc12 pm12 an12 cd12 ct12), sl12⟩)
    (c12 : PySem.W.codeIn K cd12 "_law_made" = true)
    (k12 : PySem.W.keepIn K (.ref f12) = true)
    (a13 : PySem.W.nsIn K mainGlobals "_law_pen" = some (some (.ref f13)))
    (l13 : K.lookup f13 = some ⟨oc13, od13, .func (PySem.W.fnOf "_law_pen" "_law_pen" (defArgs s_law_pen) (defBody s_law_pen) (defScope s_law_pen) .none kV13 dc13 pm13 an13 cd13 ct13), sl13⟩)
    (c13 : PySem.W.codeIn K cd13 "_law_pen" = true)
    (k13 : PySem.W.keepIn K (.ref f13) = true)
    (a14 : PySem.W.nsIn K mainGlobals "_law_number" = some (some (.ref f14)))
    (l14 : K.lookup f14 = some ⟨oc14, od14, .func (PySem.W.fnOf "_law_number" "_law_number" (defArgs s_law_number) (defBody s_law_number) (defScope s_law_number) .none kV14 dc14 pm14 an14 cd14 ct14), sl14⟩)
    (c14 : PySem.W.codeIn K cd14 "_law_number" = true)
    (k14 : PySem.W.keepIn K (.ref f14) = true)
    (a15 : PySem.W.nsIn K mainGlobals "_law_rows" = some (some (.ref f15)))
    (l15 : K.lookup f15 = some ⟨oc15, od15, .func (PySem.W.fnOf "_law_rows" "_law_rows" (defArgs s_law_rows_v2) (defBody s_law_rows_v2) (defScope s_law_rows_v2) .none kV15 dc15 pm15 an15 cd15 ct15), sl15⟩)
    (c15 : PySem.W.codeIn K cd15 "_law_rows" = true)
    (k15 : PySem.W.keepIn K (.ref f15) = true)
    (a16 : PySem.W.nsIn K mainGlobals "_law_split" = some (some (.ref f16)))
    (l16 : K.lookup f16 = some ⟨oc16, od16, .func (PySem.W.fnOf "_law_split" "_law_split" (defArgs s_law_split) (defBody s_law_split) (defScope s_law_split) .none kV16 dc16 pm16 an16 cd16 ct16), sl16⟩)
    (c16 : PySem.W.codeIn K cd16 "_law_split" = true)
    (k16 : PySem.W.keepIn K (.ref f16) = true)
    (a17 : PySem.W.nsIn K mainGlobals "_law_times" = some (some (.ref f17)))
    (l17 : K.lookup f17 = some ⟨oc17, od17, .func (PySem.W.fnOf "_law_times" "_law_times" (defArgs s_law_times) (defBody s_law_times) (defScope s_law_times) .none kV17 dc17 pm17 an17 cd17 ct17), sl17⟩)
    (c17 : PySem.W.codeIn K cd17 "_law_times" = true)
    (k17 : PySem.W.keepIn K (.ref f17) = true)
    (a18 : PySem.W.nsIn K mainGlobals "first_within" = some (some (.ref f18)))
    (l18 : K.lookup f18 = some ⟨oc18, od18, .func (PySem.W.fnOf "first_within" "first_within" (defArgs s_first_within) (defBody s_first_within) (defScope s_first_within) .none kV18 dc18 pm18 an18 cd18 ct18), sl18⟩)
    (c18 : PySem.W.codeIn K cd18 "first_within" = true)
    (k18 : PySem.W.keepIn K (.ref f18) = true)
    (a19 : PySem.W.nsIn K mainGlobals "offset_of" = some (some (.ref f19)))
    (l19 : K.lookup f19 = some ⟨oc19, od19, .func (PySem.W.fnOf "offset_of" "offset_of" (defArgs s_offset_of) (defBody s_offset_of) (defScope s_offset_of) .none kV19 dc19 pm19 an19 cd19 ct19), sl19⟩)
    (c19 : PySem.W.codeIn K cd19 "offset_of" = true)
    (k19 : PySem.W.keepIn K (.ref f19) = true)
    (a20 : PySem.W.nsIn K mainGlobals "check_age" = some (some (.ref f20)))
    (l20 : K.lookup f20 = some ⟨oc20, od20, .func (PySem.W.fnOf "check_age" "check_age" (defArgs s_check_age) (defBody s_check_age) (defScope s_check_age) .none kV20 dc20 pm20 an20 cd20 ct20), sl20⟩)
    (c20 : PySem.W.codeIn K cd20 "check_age" = true)
    (k20 : PySem.W.keepIn K (.ref f20) = true)
    (a21 : PySem.W.nsIn K mainGlobals "count_of" = some (some (.ref f21)))
    (l21 : K.lookup f21 = some ⟨oc21, od21, .func (PySem.W.fnOf "count_of" "count_of" (defArgs s_count_of) (defBody s_count_of) (defScope s_count_of) .none kV21 dc21 pm21 an21 cd21 ct21), sl21⟩)
    (c21 : PySem.W.codeIn K cd21 "count_of" = true)
    (k21 : PySem.W.keepIn K (.ref f21) = true)
    (a22 : PySem.W.nsIn K mainGlobals "row_label" = some (some (.ref f22)))
    (l22 : K.lookup f22 = some ⟨oc22, od22, .func (PySem.W.fnOf "row_label" "row_label" (defArgs s_row_label) (defBody s_row_label) (defScope s_row_label) .none kV22 dc22 pm22 an22 cd22 ct22), sl22⟩)
    (c22 : PySem.W.codeIn K cd22 "row_label" = true)
    (k22 : PySem.W.keepIn K (.ref f22) = true)
    (a23 : PySem.W.findIn K (.ref C1) "label" = some (some (.ref f23)))
    (i23 : PySem.W.isFn K (.ref f23) = true)
    (l23 : K.lookup f23 = some ⟨oc23, od23, .func (PySem.W.fnOf "label" "Wording.label" (defArgs s_Wording_label) (defBody s_Wording_label) (defScope s_Wording_label) .none kV23 dc23 pm23 an23 cd23 ct23), sl23⟩)
    (c23 : PySem.W.codeIn K cd23 "Wording.label" = true)
    (k23 : PySem.W.keepIn K (.ref f23) = true)
    (a24 : PySem.W.nsIn K mainGlobals "first_unlike" = some (some (.ref f24)))
    (l24 : K.lookup f24 = some ⟨oc24, od24, .func (PySem.W.fnOf "first_unlike" "first_unlike" (defArgs s_first_unlike) (defBody s_first_unlike) (defScope s_first_unlike) .none kV24 dc24 pm24 an24 cd24 ct24), sl24⟩)
    (c24 : PySem.W.codeIn K cd24 "first_unlike" = true)
    (k24 : PySem.W.keepIn K (.ref f24) = true)
    (a25 : PySem.W.nsIn K mainGlobals "lesser_end" = some (some (.ref f25)))
    (l25 : K.lookup f25 = some ⟨oc25, od25, .func (PySem.W.fnOf "lesser_end" "lesser_end" (defArgs s_lesser_end) (defBody s_lesser_end) (defScope s_lesser_end) .none kV25 dc25 pm25 an25 cd25 ct25), sl25⟩)
    (c25 : PySem.W.codeIn K cd25 "lesser_end" = true)
    (k25 : PySem.W.keepIn K (.ref f25) = true)
    (a26 : PySem.W.nsIn K mainGlobals "row_ages" = some (some (.ref f26)))
    (l26 : K.lookup f26 = some ⟨oc26, od26, .func (PySem.W.fnOf "row_ages" "row_ages" (defArgs s_row_ages) (defBody s_row_ages) (defScope s_row_ages) .none kV26 dc26 pm26 an26 cd26 ct26), sl26⟩)
    (c26 : PySem.W.codeIn K cd26 "row_ages" = true)
    (k26 : PySem.W.keepIn K (.ref f26) = true)
    (a27 : PySem.W.nsIn K mainGlobals "alike" = some (some (.ref f27)))
    (l27 : K.lookup f27 = some ⟨oc27, od27, .func (PySem.W.fnOf "alike" "alike" (defArgs s_alike) (defBody s_alike) (defScope s_alike) .none kV27 dc27 pm27 an27 cd27 ct27), sl27⟩)
    (c27 : PySem.W.codeIn K cd27 "alike" = true)
    (k27 : PySem.W.keepIn K (.ref f27) = true)
    (a28 : PySem.W.nsIn K mainGlobals "law" = some (some (.ref f28)))
    (l28 : K.lookup f28 = some ⟨oc28, od28, .func (PySem.W.fnOf "law" "law" (defArgs s_law) (defBody s_law) (defScope s_law) .none kV28 dc28 pm28 an28 cd28 ct28), sl28⟩)
    (c28 : PySem.W.codeIn K cd28 "law" = true)
    (k28 : PySem.W.keepIn K (.ref f28) = true)
    (pg0 : PySem.W.plainGet K C0 Str.empty = true)
    (hd0 : PySem.W.hasDictIn K C0 = true)
    (po0 : PySem.W.plainOver K C0 = true)
    (sa0 : PySem.W.findIn K (.ref C0) "__setattr__" = some (some (.builtin "object.__setattr__")))
    (mk0 : PySem.W.makesIn K C0 = true)
    (kc0 : PySem.W.keepIn K (.ref C0) = true)
    (n0_until : PySem.W.findIn K (.ref C0) "until" = some none)
    (n0_unit : PySem.W.findIn K (.ref C0) "unit" = some none)
    (n0_way : PySem.W.findIn K (.ref C0) "way" = some none)
    (n0_word : PySem.W.findIn K (.ref C0) "word" = some none)
    (pg1 : PySem.W.plainGet K C1 Str.empty = true)
    (hd1 : PySem.W.hasDictIn K C1 = true)
    (po1 : PySem.W.plainOver K C1 = true)
    (sa1 : PySem.W.findIn K (.ref C1) "__setattr__" = some (some (.builtin "object.__setattr__")))
    (mk1 : PySem.W.makesIn K C1 = true)
    (kc1 : PySem.W.keepIn K (.ref C1) = true)
    (n1_rows : PySem.W.findIn K (.ref C1) "rows" = some none)
    (z_enumerate : PySem.W.nsIn K mainGlobals "enumerate" = some none)
    (z_int : PySem.W.nsIn K mainGlobals "int" = some none)
    (z_len : PySem.W.nsIn K mainGlobals "len" = some none)
    (z_list : PySem.W.nsIn K mainGlobals "list" = some none)
    (z_max : PySem.W.nsIn K mainGlobals "max" = some none)
    (z_min : PySem.W.nsIn K mainGlobals "min" = some none)
    (z_range : PySem.W.nsIn K mainGlobals "range" = some none)
    (z_tuple : PySem.W.nsIn K mainGlobals "tuple" = some none)
    (z_zip : PySem.W.nsIn K mainGlobals "zip" = some none) :
    ∃ fd : FuncData, (∀ (s : Shared) (v : Value), BindsTo s fd ⟨[v], []⟩ [("_law_script", v)]) ∧ ∀ base : Heap, K.In base → base.Ns mainGlobals mg → FnOk l.prog w K mg base (L2.CX l.prog w) 30 fa fd ["_law_script"] (spLaw K) := @Rz _ _ (fun qz => @Hz.get _ _ (qz.bar : Hz _ (by
  clear qz
  have e := hfa.symm.trans (PySem.W.mg_of X G a28)
  cases e
  have K0 : Cls K C0 := ⟨pg0, hd0, po0, sa0⟩
  have K1 : Cls K C1 := ⟨pg1, hd1, po1, sa1⟩
  have g1 := q_law_draw (l := l) (w := w) (C0 := C0) (C1 := C1) X G a1 l1 c1 k1 z_int z_len
  have g2 := q_law_pick (l := l) (w := w) (C0 := C0) (C1 := C1) X G a2 l2 c2 k2 z_len g1
  have g3 := q_law_way (l := l) (w := w) (C0 := C0) (C1 := C1) X G a3 l3 c3 k3 g2
  have g4 := q_law_bent_v2 (l := l) (w := w) (C0 := C0) (C1 := C1) X G a4 l4 c4 k4 z_len g3 g2 g1
  have g5 := q_law_count (l := l) (w := w) (C0 := C0) (C1 := C1) X G a5 l5 c5 k5
  have g6 := q_law_row_of (l := l) (w := w) (C0 := C0) (C1 := C1) X G a6 l6 c6 k6 z_len z_range
  have g7 := q_law_label (l := l) (w := w) (C0 := C0) (C1 := C1) X G a7 l7 c7 k7 g6 g5
  have g8 := q_law_first_unlike (l := l) (w := w) (C0 := C0) (C1 := C1) X G a8 l8 c8 k8 z_max z_range g7
  have g9 := q_Row_init (l := l) (w := w) (C0 := C0) (C1 := C1) X G a9 i9 l9 c9 k9 aC0 mk0 kc0 K0 n0_unit n0_until n0_way n0_word
  have g10 := q_check_rows (l := l) (w := w) (C0 := C0) (C1 := C1) X G a10 l10 c10 k10 K0 n0_until z_enumerate z_len
  have g11 := q_Wording_init (l := l) (w := w) (C0 := C0) (C1 := C1) X G a11 i11 l11 c11 k11 aC1 mk1 kc1 K1 n1_rows z_tuple g10
  have g12 := q_law_made (l := l) (w := w) (C0 := C0) (C1 := C1) X G a12 l12 c12 k12 g11 g9
  have g13 := q_law_pen (l := l) (w := w) (C0 := C0) (C1 := C1) X G a13 l13 c13 k13 z_list
  have g14 := q_law_number (l := l) (w := w) (C0 := C0) (C1 := C1) X G a14 l14 c14 k14 g2 g1
  have g15 := q_law_rows_v2 (l := l) (w := w) (C0 := C0) (C1 := C1) X G a15 l15 c15 k15 z_range g3 g2 g14 g1
  have g16 := q_law_split (l := l) (w := w) (C0 := C0) (C1 := C1) X G a16 l16 c16 k16 z_len g1
  have g17 := q_law_times (l := l) (w := w) (C0 := C0) (C1 := C1) X G a17 l17 c17 k17
  have g18 := q_first_within (l := l) (w := w) (C0 := C0) (C1 := C1) X G a18 l18 c18 k18
  have g19 := q_offset_of (l := l) (w := w) (C0 := C0) (C1 := C1) X G a19 l19 c19 k19
  have g20 := q_check_age (l := l) (w := w) (C0 := C0) (C1 := C1) X G a20 l20 c20 k20
  have g21 := q_count_of (l := l) (w := w) (C0 := C0) (C1 := C1) X G a21 l21 c21 k21
  have g22 := q_row_label (l := l) (w := w) (C0 := C0) (C1 := C1) X G a22 l22 c22 k22 K0 n0_unit n0_way n0_word g21
  have g23 := q_Wording_label (l := l) (w := w) (C0 := C0) (C1 := C1) X G a23 i23 l23 c23 k23 K0 K1 n0_until n1_rows g22 g20
  have g24 := q_first_unlike (l := l) (w := w) (C0 := C0) (C1 := C1) X G a24 l24 c24 k24 K0 n0_unit n0_way z_min g19 g18 g23
  have g25 := q_lesser_end (l := l) (w := w) (C0 := C0) (C1 := C1) X G a25 l25 c25 k25 z_int z_min
  have g26 := q_row_ages (l := l) (w := w) (C0 := C0) (C1 := C1) X G a26 l26 c26 k26 K0 n0_until
  have g27 := q_alike (l := l) (w := w) (C0 := C0) (C1 := C1) X G a27 l27 c27 k27 K1 n1_rows z_max z_zip g26 g25 g24
  exact q_law (K := K) (l := l) X G a28 l28 c28 k28 z_len z_min z_range g27 g17 g16 g15 g2 g13 g12 g8 g1 g4))) Xz.mk
end Ag
open PySem PySem.W PyProof.Rows in
set_option maxRecDepth 100000 in
set_option maxHeartbeats 0 in
theorem PySem.Challenge.cw_agewords_k29_whole_wordings_alike_holds : PySem.Challenge.rw_agewords_k29_whole_wordings_alike.Holds :=
  @Ag.Rz _ _ (fun qz => @Ag.Hz.get _ _ (qz.bar : Ag.Hz _ (by
  clear qz
  w_on; o_law; k_head; (case hw => w_witness2)
  k_fill
  refine Ag.law_walk (k := 30) (l := PySem.Challenge.rw_agewords_k29_whole_wordings_alike) rfl rfl ⟨rfl, by decide, by decide⟩ (fun w h Y => PySem.W.kIn_of Y) ?F
  case F =>
    intro w mg fa h KX G hmg
    refine' Ag.all_mk KX G hmg ?aC0 ?aC1 ?a1 ?l1 ?c1 ?k1 ?a2 ?l2 ?c2 ?k2 ?a3 ?l3 ?c3 ?k3 ?a4 ?l4 ?c4 ?k4 ?a5 ?l5 ?c5 ?k5 ?a6 ?l6 ?c6 ?k6 ?a7 ?l7 ?c7 ?k7 ?a8 ?l8 ?c8 ?k8 ?a9 ?i9 ?l9 ?c9 ?k9 ?a10 ?l10 ?c10 ?k10 ?a11 ?i11 ?l11 ?c11 ?k11 ?a12 ?l12 ?c12 ?k12 ?a13 ?l13 ?c13 ?k13 ?a14 ?l14 ?c14 ?k14 ?a15 ?l15 ?c15 ?k15 ?a16 ?l16 ?c16 ?k16 ?a17 ?l17 ?c17 ?k17 ?a18 ?l18 ?c18 ?k18 ?a19 ?l19 ?c19 ?k19 ?a20 ?l20 ?c20 ?k20 ?a21 ?l21 ?c21 ?k21 ?a22 ?l22 ?c22 ?k22 ?a23 ?i23 ?l23 ?c23 ?k23 ?a24 ?l24 ?c24 ?k24 ?a25 ?l25 ?c25 ?k25 ?a26 ?l26 ?c26 ?k26 ?a27 ?l27 ?c27 ?k27 ?a28 ?l28 ?c28 ?k28 ?pg0 ?hd0 ?po0 ?sa0 ?mk0 ?kc0 ?n0_until ?n0_unit ?n0_way ?n0_word ?pg1 ?hd1 ?po1 ?sa1 ?mk1 ?kc1 ?n1_rows ?z_enumerate ?z_int ?z_len ?z_list ?z_max ?z_min ?z_range ?z_tuple ?z_zip
    (case aC0 => k_is)
    (case aC1 => k_is)
    (case a1 => k_is)
    (case l1 => k_is)
    (case c1 => k_is)
    (case k1 => k_is)
    (case a2 => k_is)
    (case l2 => k_is)
    (case c2 => k_is)
    (case k2 => k_is)
    (case a3 => k_is)
    (case l3 => k_is)
    (case c3 => k_is)
    (case k3 => k_is)
    (case a4 => k_is)
    (case l4 => k_is)
    (case c4 => k_is)
    (case k4 => k_is)
    (case a5 => k_is)
    (case l5 => k_is)
    (case c5 => k_is)
    (case k5 => k_is)
    (case a6 => k_is)
    (case l6 => k_is)
    (case c6 => k_is)
    (case k6 => k_is)
    (case a7 => k_is)
    (case l7 => k_is)
    (case c7 => k_is)
    (case k7 => k_is)
    (case a8 => k_is)
    (case l8 => k_is)
    (case c8 => k_is)
    (case k8 => k_is)
    (case a9 => k_is)
    (case i9 => k_is)
    (case l9 => k_is)
    (case c9 => k_is)
    (case k9 => k_is)
    (case a10 => k_is)
    (case l10 => k_is)
    (case c10 => k_is)
    (case k10 => k_is)
    (case a11 => k_is)
    (case i11 => k_is)
    (case l11 => k_is)
    (case c11 => k_is)
    (case k11 => k_is)
    (case a12 => k_is)
    (case l12 => k_is)
    (case c12 => k_is)
    (case k12 => k_is)
    (case a13 => k_is)
    (case l13 => k_is)
    (case c13 => k_is)
    (case k13 => k_is)
    (case a14 => k_is)
    (case l14 => k_is)
    (case c14 => k_is)
    (case k14 => k_is)
    (case a15 => k_is)
    (case l15 => k_is)
    (case c15 => k_is)
    (case k15 => k_is)
    (case a16 => k_is)
    (case l16 => k_is)
    (case c16 => k_is)
    (case k16 => k_is)
    (case a17 => k_is)
    (case l17 => k_is)
    (case c17 => k_is)
    (case k17 => k_is)
    (case a18 => k_is)
    (case l18 => k_is)
    (case c18 => k_is)
    (case k18 => k_is)
    (case a19 => k_is)
    (case l19 => k_is)
    (case c19 => k_is)
    (case k19 => k_is)
    (case a20 => k_is)
    (case l20 => k_is)
    (case c20 => k_is)
    (case k20 => k_is)
    (case a21 => k_is)
    (case l21 => k_is)
    (case c21 => k_is)
    (case k21 => k_is)
    (case a22 => k_is)
    (case l22 => k_is)
    (case c22 => k_is)
    (case k22 => k_is)
    (case a23 => k_is)
    (case i23 => k_is)
    (case l23 => k_is)
    (case c23 => k_is)
    (case k23 => k_is)
    (case a24 => k_is)
    (case l24 => k_is)
    (case c24 => k_is)
    (case k24 => k_is)
    (case a25 => k_is)
    (case l25 => k_is)
    (case c25 => k_is)
    (case k25 => k_is)
    (case a26 => k_is)
    (case l26 => k_is)
    (case c26 => k_is)
    (case k26 => k_is)
    (case a27 => k_is)
    (case l27 => k_is)
    (case c27 => k_is)
    (case k27 => k_is)
    (case a28 => k_is)
    (case l28 => k_is)
    (case c28 => k_is)
    (case k28 => k_is)
    (case pg0 => k_is)
    (case hd0 => k_is)
    (case po0 => k_is)
    (case sa0 => k_is)
    (case mk0 => k_is)
    (case kc0 => k_is)
    (case n0_until => k_is)
    (case n0_unit => k_is)
    (case n0_way => k_is)
    (case n0_word => k_is)
    (case pg1 => k_is)
    (case hd1 => k_is)
    (case po1 => k_is)
    (case sa1 => k_is)
    (case mk1 => k_is)
    (case kc1 => k_is)
    (case n1_rows => k_is)
    (case z_enumerate => k_is)
    (case z_int => k_is)
    (case z_len => k_is)
    (case z_list => k_is)
    (case z_max => k_is)
    (case z_min => k_is)
    (case z_range => k_is)
    (case z_tuple => k_is)
    (case z_zip => k_is)))) Ag.Xz.mk
