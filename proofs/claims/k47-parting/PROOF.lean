import PyProof.Rows.All
import Wide.All
import OpenK.AllK
import Wide.FinOn
import HandS.ForMost
import HandS.ForExc
import HandS.Wide
import HandS.TupAny
import HandS.Small
import HandS.Style
import HandS.Walk
import PySem.Challenge.RW_agewords_k47_whole_units_that_part
set_option Elab.async false
set_option linter.all false
set_option maxRecDepth 100000
set_option maxHeartbeats 4000000
set_option exponentiation.threshold 2000

/-! A small core language, its evaluator over plain data. -/
namespace Ag
open PySem L2

inductive D where
  | non | bl (b : Bool) | int (i : Int) | str (s : Str)
  | tup (xs : List D) | lst (xs : List D) | rol (xs : List D)
  | obj (c : Nat) (fs : List (Nat × D))
  | cell (n : Nat)

/-- a mutable thing: a dict with int and text keys, an instance -/
inductive Cell where
  | dict (kvs : List (Key × D))
  | inst (c : Nat) (fs : List (Nat × D))

inductive Slot where
  | un | val (d : D) | own (xs : List D)

structure Fr where
  env : List Slot
  sto : List Cell

inductive Out where
  | val (d : D) | fresh (xs : List D)

inductive RV where
  | out (o : Out) | var (i : Nat)

inductive Rs (α : Type) where
  | ok (a : α) (fr : Fr) | exc (c : Nat) (fs : List D) (fr : Fr) | bad

inductive Fx where
  | ret (o : Out) (s : List Cell) | exc (c : Nat) (fs : List D) (s : List Cell) | bad

inductive Sx where
  | next (fr : Fr) | ret (o : Out) (fr : Fr) | brk (fr : Fr) | cont (fr : Fr) | exc (c : Nat) (fs : List D) (fr : Fr) | bad

def Rs.bind {α β : Type} : Rs α → (α → Fr → Rs β) → Rs β
  | .ok a fr, k => k a fr
  | .exc c fs fr, _ => .exc c fs fr
  | .bad, _ => .bad
def Sx.seq : Sx → (Fr → Sx) → Sx
  | .next fr, k => k fr
  | x, _ => x
def Rs.toS {α : Type} : Rs α → (α → Fr → Sx) → Sx
  | .ok a fr, k => k a fr
  | .exc c fs fr, _ => .exc c fs fr
  | .bad, _ => .bad

inductive Op2 where | add | sub | mul | fdiv | mod | pow
inductive Cm where | eq | ne | lt | le | gt | ge | is_ | isn | in_ | nin
inductive Bi where | len | min2 | max2 | int_ | str_ | tuple_ | list_ | min1 | max1 | min1d | max1d | all_

mutual
inductive Tm where
  | slot (i : Nat)
  | non | bl (b : Bool) | int (i : Int) | str (s : Str)
  | glob (g : Nat)
  | bin (op : Op2) (a b : Tm)
  | neg (a : Tm) | not_ (a : Tm)
  | and_ (a b : Tm) | or_ (a b : Tm)
  | cmp (op : Cm) (a b : Tm)
  | chain (op op' : Cm) (a b c : Tm)
  | ite (c a b : Tm)
  | call (f : Nat) (as : List Tm)
  | meth (m : Nat) (o : Tm) (as : List Tm)
  | make (c : Nat) (as : List Tm)
  | bi (b : Bi) (as : List Tm)
  | attr (o : Tm) (f : Nat)
  | ix (o i : Tm)
  | slice (o : Tm) (lo hi : Option Tm)
  | tup (as : List Tm)
  | lst (as : List Tm)
  | dict (kvs : List (Key × Tm))
  | comp (elt : Tm) (tg : Tg) (it : Iter) (cond : Option Tm) (own : List Nat)
  | pop (i : Nat)
inductive Tg where
  | slot (i : Nat) | tup (ts : List Tg)
inductive Iter where
  | seq (t : Tm)
  | range1 (a : Tm) | range2 (a b : Tm) | range3 (a b c : Tm)
  | zip (a b : Tm) | enum (a : Tm) (start : Int) | rev (a : Tm)
end

inductive Stm where
  | skip
  | expr (t : Tm)
  | asg (tg : Tg) (t : Tm)
  | par (is : List Nat) (ts : List Tm)
  | setk (o k : Tm) (v : Tm)
  | seti (i : Nat) (k : Tm) (v : Tm)
  | seta (o : Tm) (f : Nat) (v : Tm)
  | aug (i : Nat) (op : Op2) (t : Tm)
  | append (i : Nat) (t : Tm)
  | extend (i : Nat) (t : Tm)
  | ite (c : Tm) (a b : List Stm)
  | whil (c : Tm) (b : List Stm)
  | for_ (tg : Tg) (it : Iter) (b : List Stm)
  | ret (t : Tm) | retN
  | brk | cont
  | rais (c : Nat) (as : List Tm)
  | tryx (b : List Stm) (hs : List (Nat × Option Nat × List Stm))

/-! ### values -/
mutual
def toPy : D → Option PyData
  | .non => some .none
  | .bl b => some (.bool b)
  | .int i => some (.int i)
  | .str s => some (.str s)
  | .tup xs => (toPys xs).map PyData.tuple
  | .lst xs => (toPys xs).map PyData.list
  | .rol _ => none
  | .obj _ _ => none
  | .cell _ => none
def toPys : List D → Option (List PyData)
  | [] => some []
  | d :: ds => match toPy d, toPys ds with | some x, some xs => some (x :: xs) | _, _ => none
end
/-- scalars compared -/
def scalD : D → D → Option Bool
  | .int i, .int j => some (decide (i = j))
  | .str a, .str b => some (decide (a = b))
  | .bl a, .bl b => some (decide (a = b))
  | .non, .non => some true
  | .non, .int _ => some false
  | .int _, .non => some false
  | .non, .str _ => some false
  | .str _, .non => some false
  | .non, .bl _ => some false
  | .bl _, .non => some false
  | .int _, .str _ => some false
  | .str _, .int _ => some false
  | .bl _, .str _ => some false
  | .str _, .bl _ => some false
  | _, _ => none
def eqP (x y : D) : Option Bool :=
  match toPy x, toPy y with
  | some a, some b => if SeqAt.shaped a && SeqAt.shaped b then some (PyData.eqv a b) else none
  | _, _ => none
def eqD (x y : D) : Option Bool := match scalD x y with | some b => some b | none => eqP x y
def flatD : D → Bool
  | .non => true | .bl _ => true | .int _ => true | .str _ => true
  | _ => false
def sIn (x y : Str) : Bool := !(Builtin.Str.occurrences y x 0 y.length 1).isEmpty
def eqF : D → D → Bool
  | .non, .non => true
  | .bl a, .bl b => a == b
  | .bl a, .int b => (if a then 1 else 0) == b
  | .int a, .bl b => a == (if b then 1 else 0)
  | .int a, .int b => a == b
  | .str a, .str b => a == b
  | _, _ => false
def inF (x : D) (ys : List D) : Bool := ys.any fun y => eqF y x
def ofB (b : Bool) : D := .bl b
def mulOk (i j : Int) : Bool := decide (i.natAbs.log2 + j.natAbs.log2 < 1000000)
def divOk (j : Int) : Bool := decide (0 < j) && decide (j.natAbs.log2 < 9000)
def powOk (i j : Int) : Bool := decide (0 ≤ j) && decide (j ≤ 1000000) && decide (i.natAbs < 2 ^ 64)
/-- an operator by values -/
def opD : Op2 → D → D → Option Out
  | .add, .int i, .int j => some (.val (.int (i + j)))
  | .sub, .int i, .int j => some (.val (.int (i - j)))
  | .mul, .int i, .int j => if mulOk i j then some (.val (.int (i * j))) else none
  | .fdiv, .int i, .int j => if divOk j then some (.val (.int (i / j))) else none
  | .mod, .int i, .int j => if 0 < j then some (.val (.int (i % j))) else none
  | .pow, .int i, .int j => if powOk i j then some (.val (.int (i ^ j.toNat))) else none
  | .add, .str x, .str y => if x.length + y.length ≤ sizeLine then some (.val (.str (x ++ y))) else none
  | .add, .lst xs, .lst ys => if xs.length + ys.length ≤ sizeLine then some (.fresh (xs ++ ys)) else none
  | .add, .tup xs, .tup ys => if xs.length + ys.length ≤ sizeLine then some (.val (.tup (xs ++ ys))) else none
  | _, _, _ => none
def isNon : D → Bool | .non => true | _ => false
def cmpD : Cm → D → D → Option Bool
  | .eq, x, y => eqD x y
  | .ne, x, y => (eqD x y).map (!·)
  | .lt, .int i, .int j => some (decide (i < j))
  | .le, .int i, .int j => some (decide (i ≤ j))
  | .gt, .int i, .int j => some (decide (j < i))
  | .ge, .int i, .int j => some (decide (j ≤ i))
  | .is_, x, .non => some (isNon x)
  | .isn, x, .non => some (!isNon x)
  | .in_, .str x, .str y => some (sIn x y)
  | .nin, .str x, .str y => some (!sIn x y)
  | .in_, x, .tup ys => if flatD x && ys.all flatD then some (inF x ys) else none
  | .nin, x, .tup ys => if flatD x && ys.all flatD then some (!inF x ys) else none
  | .in_, x, .lst ys => if flatD x && ys.all flatD then some (inF x ys) else none
  | .nin, x, .lst ys => if flatD x && ys.all flatD then some (!inF x ys) else none
  | _, _, _ => none
def intsD : List D → Option (List Int)
  | [] => some []
  | .int i :: ds => (intsD ds).map (i :: ·)
  | _ => none
def boolsD : List D → Option (List Bool)
  | [] => some []
  | .bl i :: ds => (boolsD ds).map (i :: ·)
  | _ => none
def seqOf : D → Option (List D)
  | .tup xs => some xs
  | .lst xs => some xs
  | _ => none
def minL : List Int → Int
  | [] => 0
  | i :: is => is.foldl (fun a b => if b < a then b else a) i
def maxL : List Int → Int
  | [] => 0
  | i :: is => is.foldl (fun a b => if b > a then b else a) i
def biLen : List D → Option Out
  | [.lst xs] => some (.val (.int xs.length))
  | [.tup xs] => some (.val (.int xs.length))
  | [.rol xs] => some (.val (.int xs.length))
  | [.str s] => if s.length ≤ sizeLine then some (.val (.int s.length)) else none
  | _ => none
def biMin2 : List D → Option Out
  | [.int i, .int j] => some (.val (.int (if j < i then j else i)))
  | _ => none
def biMax2 : List D → Option Out
  | [.int i, .int j] => some (.val (.int (if j > i then j else i)))
  | _ => none
def biInt : List D → Option Out
  | [.int i] => some (.val (.int i))
  | _ => none
def biStr : List D → Option Out
  | [.int i] => if i.natAbs.log2 < 1920 then some (.val (.str (toString i))) else none
  | [.str s] => some (.val (.str s))
  | _ => none
def biTuple : List D → Option Out
  | [.lst xs] => some (.val (.tup xs))
  | [.tup xs] => some (.val (.tup xs))
  | _ => none
def biList : List D → Option Out
  | [.lst xs] => some (.fresh xs)
  | [.tup xs] => some (.fresh xs)
  | _ => none
def biMin1 : List D → Option Out
  | [.lst xs] => match intsD xs with | some (i :: is) => some (.val (.int (minL (i :: is)))) | _ => none
  | _ => none
def biMax1 : List D → Option Out
  | [.lst xs] => match intsD xs with | some (i :: is) => some (.val (.int (maxL (i :: is)))) | _ => none
  | _ => none
def biMin1d : List D → Option Out
  | [.lst xs] => match intsD xs with | some (i :: is) => some (.val (.int (minL (i :: is)))) | some [] => some (.val .non) | _ => none
  | _ => none
def biMax1d : List D → Option Out
  | [.lst xs] => match intsD xs with | some (i :: is) => some (.val (.int (maxL (i :: is)))) | some [] => some (.val .non) | _ => none
  | _ => none
def biAll : List D → Option Out
  | [.lst xs] => match boolsD xs with | some bs => some (.val (.bl (bs.all id))) | none => none
  | _ => none
def biD : Bi → List D → Option Out
  | .len => biLen | .min2 => biMin2 | .max2 => biMax2 | .int_ => biInt | .str_ => biStr | .tuple_ => biTuple | .list_ => biList
  | .min1 => biMin1 | .max1 => biMax1 | .min1d => biMin1d | .max1d => biMax1d | .all_ => biAll
def dget (kvs : List (Key × D)) (k : Key) : Option D := (kvs.find? fun kv => decide (kv.1 = k)).map (·.2)
def keyOf : D → Option Key
  | .int i => some (.inl i)
  | .str s => some (.inr s)
  | _ => none
def ixD (sto : List Cell) : D → D → Option D
  | .lst xs, .int i => atI xs i
  | .tup xs, .int i => atI xs i
  | .str s, .int i => if s.length ≤ sizeLine then (atI s.cps.toList i).map (fun c => .str ⟨#[c]⟩) else none
  | .cell n, k => match sto[n]?, keyOf k with | some (.dict kvs), some k => dget kvs k | _, _ => none
  | _, _ => none
def fget (fs : List (Nat × D)) (f : Nat) : Option D := fs.lookup f
def fput (f : Nat) (d : D) : List (Nat × D) → List (Nat × D)
  | [] => [(f, d)]
  | (g, e) :: r => if g = f then (f, d) :: r else (g, e) :: fput f d r
def kput (kvs : List (Key × D)) (k : Key) (d : D) : List (Key × D) :=
  if (kvs.any fun kv => decide (kv.1 = k)) = true then kvs.map (fun kv => if kv.1 = k then (kv.1, d) else kv) else kvs ++ [(k, d)]
def kmerge (kvs more : List (Key × D)) : List (Key × D) := more.foldl (fun acc kv => kput acc kv.1 kv.2) kvs
/-- an instance: its class, its fields -/
def insD (sto : List Cell) : D → Option (Nat × List (Nat × D))
  | .obj c fs => some (c, fs)
  | .cell n => match sto[n]? with | some (.inst c fs) => some (c, fs) | _ => none
  | _ => none
def cutL {α : Type} (xs : List α) (lo hi : Option Int) : List α :=
  (xs.drop (HT.sIx xs.length 0 lo)).take (HT.sIx xs.length xs.length hi - HT.sIx xs.length 0 lo)

/-! ### slots -/
def look (env : List Slot) : RV → Option D
  | .out (.val d) => some d
  | .out (.fresh xs) => some (.lst xs)
  | .var i => match env[i]? with | some (.own xs) => some (.lst xs) | some (.val d) => some d | _ => none
def hold : RV → RV
  | .out (.fresh xs) => .out (.val (.lst xs))
  | r => r
/-- a value as a part of something else: a list is no more changed then -/
def toD (fr : Fr) : RV → Option (D × Fr)
  | .out (.val d) => some (d, fr)
  | .out (.fresh xs) => some (.lst xs, fr)
  | .var i => match fr.env[i]? with
    | some (.own xs) => some (.lst xs, { fr with env := fr.env.set i (.val (.lst xs)) })
    | some (.val d) => some (d, fr)
    | _ => none
def Rs.fr {α : Type} (r : Rs RV) (k : D → Fr → Rs α) : Rs α :=
  r.bind fun v fr => match toD fr v with | some (d, fr') => k d fr' | none => .bad
def Rs.opt {α : Type} (fr : Fr) : Option α → Rs α
  | some a => .ok a fr
  | none => .bad
def ofFx (fr : Fr) : Fx → Rs RV
  | .ret o s => .ok (.out o) { fr with sto := s }
  | .exc c fs s => .exc c fs { fr with sto := s }
  | .bad => .bad

mutual
def bindT : Tg → D → Fr → Option Fr
  | .slot i, d, fr => some { fr with env := fr.env.set i (.val d) }
  | .tup ts, .tup ds, fr => bindTs ts ds fr
  | .tup _, _, _ => none
def bindTs : List Tg → List D → Fr → Option Fr
  | [], [], fr => some fr
  | t :: ts, d :: ds, fr => match bindT t d fr with | some fr' => bindTs ts ds fr' | none => none
  | _, _, _ => none
end
def wipeE (env : List Slot) : List Nat → List Slot
  | [] => env
  | v :: vs => (wipeE env vs).set v .un
/-- the slots at own as they were before -/
def backE (old : List Slot) (env : List Slot) : List Nat → List Slot
  | [] => env
  | v :: vs => (backE old env vs).set v (old.getD v .un)
def rangeD (lo : Int) (n : Nat) : List D := (List.range n).map fun (i : Nat) => D.int (lo + (i : Int))
def range3D (lo c : Int) (n : Nat) : List D := (List.range n).map fun (i : Nat) => D.int (lo + (i : Int) * c)
def stepsN (a b c : Int) : Nat := if 0 < c then ((b - a + c - 1) / c).toNat else if c < 0 then ((a - b + (-c) - 1) / (-c)).toNat else 0
def zipD : List D → List D → List D
  | x :: xs, y :: ys => .tup [x, y] :: zipD xs ys
  | _, _ => []
def enumD : Int → List D → List D
  | _, [] => []
  | i, x :: xs => .tup [.int i, x] :: enumD (i + 1) xs

def compGo (tg : D → Fr → Option Fr) (own : List Nat) (c : Fr → Rs Bool) (f : Fr → Rs D) : List D → Fr → Rs (List D)
  | [], fr => .ok [] fr
  | x :: xs, fr => match tg x { fr with env := wipeE fr.env own } with
    | none => .bad
    | some fr1 => (c fr1).bind fun b fr2 =>
      if b then (f fr2).bind fun d fr3 => (compGo tg own c f xs fr3).bind fun ds fr4 => .ok (d :: ds) fr4
      else compGo tg own c f xs fr2
def forGo (tg : D → Fr → Option Fr) (b : Fr → Sx) : List D → Fr → Sx
  | [], fr => .next fr
  | x :: xs, fr => match tg x fr with
    | none => .bad
    | some fr1 => match b fr1 with
      | .next fr2 => forGo tg b xs fr2
      | .cont fr2 => forGo tg b xs fr2
      | .brk fr2 => .next fr2
      | r => r
def whilN (c : Fr → Rs Bool) (b : Fr → Sx) : Nat → Fr → Sx
  | 0, _ => .bad
  | n + 1, fr => (c fr).toS fun t fr1 => if t then (match b fr1 with
      | .next fr2 => whilN c b n fr2
      | .cont fr2 => whilN c b n fr2
      | .brk fr2 => .next fr2
      | r => r) else .next fr1
noncomputable def whilGo (c : Fr → Rs Bool) (b : Fr → Sx) (fr : Fr) : Sx :=
  open Classical in if h : ∃ n, whilN c b n fr ≠ .bad then whilN c b (Classical.choose h) fr else .bad

abbrev Fn := List D → List Cell → Fx
/-- field c f: instances of the class c have f as an own attribute or not at all -/
structure Tab where
  phi : Nat → Fn
  fld : Nat → Nat → Bool
  psi : Nat → Nat → Option Nat
  glob : Nat → Option D
  sub : Nat → Nat → Bool

def asB {α : Type} (d : D) (fr : Fr) (k : Bool → Fr → Rs α) : Rs α := match d with | .bl b => k b fr | _ => .bad
def optI : D → Option (Option Int)
  | .non => some none
  | .int i => some (some i)
  | _ => none

mutual
def ev (T : Tab) : Tm → Fr → Rs RV
  | .slot i, fr => match fr.env[i]? with
    | some (.val d) => .ok (.out (.val d)) fr
    | some (.own _) => .ok (.var i) fr
    | _ => .bad
  | .non, fr => .ok (.out (.val .non)) fr
  | .bl b, fr => .ok (.out (.val (.bl b))) fr
  | .int i, fr => .ok (.out (.val (.int i))) fr
  | .str s, fr => .ok (.out (.val (.str s))) fr
  | .glob g, fr => match T.glob g with | some d => .ok (.out (.val d)) fr | none => .bad
  | .bin op a b, fr => (ev T a fr).bind fun x fr1 => (ev T b fr1).bind fun y fr2 =>
    match look fr2.env (hold x), look fr2.env (hold y) with
    | some d, some e => match opD op d e with | some o => .ok (.out o) fr2 | none => .bad
    | _, _ => .bad
  | .neg a, fr => (ev T a fr).fr fun d fr1 => match d with | .int i => .ok (.out (.val (.int (-i)))) fr1 | _ => .bad
  | .not_ a, fr => (ev T a fr).fr fun d fr1 => asB d fr1 fun b fr2 => .ok (.out (.val (.bl (!b)))) fr2
  | .and_ a b, fr => (ev T a fr).fr fun d fr1 => asB d fr1 fun c fr2 => if c then ev T b fr2 else .ok (.out (.val (.bl false))) fr2
  | .or_ a b, fr => (ev T a fr).fr fun d fr1 => asB d fr1 fun c fr2 => if c then .ok (.out (.val (.bl true))) fr2 else ev T b fr2
  | .cmp op a b, fr => (ev T a fr).bind fun x fr1 => (ev T b fr1).bind fun y fr2 =>
    match look fr2.env (hold x), look fr2.env (hold y) with
    | some d, some e => match cmpD op d e with | some c => .ok (.out (.val (.bl c))) fr2 | none => .bad
    | _, _ => .bad
  | .chain op op' a b c, fr => (ev T a fr).fr fun x fr1 => (ev T b fr1).fr fun y fr2 =>
    match cmpD op x y with
    | some true => (ev T c fr2).fr fun z fr3 => match cmpD op' y z with | some k => .ok (.out (.val (.bl k))) fr3 | none => .bad
    | some false => .ok (.out (.val (.bl false))) fr2
    | none => .bad
  | .ite c a b, fr => (ev T c fr).fr fun d fr1 => asB d fr1 fun k fr2 => if k then ev T a fr2 else ev T b fr2
  | .call f as, fr => (evs T as fr).bind fun ds fr1 => ofFx fr1 (T.phi f ds fr1.sto)
  | .meth m o as, fr => (ev T o fr).fr fun d fr1 => match insD fr1.sto d with
    | some (c, fs) => if (fget fs m).isNone then match T.psi c m with
      | some f => (evs T as fr1).bind fun ds fr2 => ofFx fr2 (T.phi f (d :: ds) fr2.sto)
      | none => .bad else .bad
    | none => .bad
  | .make c as, fr => (evs T as fr).bind fun ds fr1 => ofFx fr1 (T.phi c ds fr1.sto)
  | .bi b as, fr => (evp T as fr).bind fun rs fr1 => match looks fr1.env rs with
    | some ds => match biD b ds with | some o => .ok (.out o) fr1 | none => .bad
    | none => .bad
  | .attr o f, fr => (ev T o fr).fr fun d fr1 => match insD fr1.sto d with
    | some (c, fs) => if T.fld c f then match fget fs f with | some v => .ok (.out (.val v)) fr1 | none => .bad else .bad
    | none => .bad
  | .ix o i, fr => (ev T o fr).bind fun x fr1 => (ev T i fr1).fr fun k fr2 => match look fr2.env (hold x) with
    | some d => match ixD fr2.sto d k with | some v => .ok (.out (.val v)) fr2 | none => .bad
    | none => .bad
  | .slice o lo hi, fr => (ev T o fr).bind fun x fr1 => (evo T lo fr1).bind fun l fr2 => (evo T hi fr2).bind fun h fr3 =>
    match look fr3.env (hold x) with
    | some (.lst xs) => .ok (.out (.fresh (cutL xs l h))) fr3
    | some (.rol xs) => .ok (.out (.fresh (cutL xs l h))) fr3
    | some (.tup xs) => .ok (.out (.val (.tup (cutL xs l h)))) fr3
    | _ => .bad
  | .tup as, fr => (evs T as fr).bind fun ds fr1 => if ds.length ≤ sizeLine then .ok (.out (.val (.tup ds))) fr1 else .bad
  | .lst as, fr => (evs T as fr).bind fun ds fr1 => if ds.length ≤ sizeLine then .ok (.out (.fresh ds)) fr1 else .bad
  | .dict kvs, fr => (evk T kvs fr).bind fun ds fr1 => if ds.length ≤ 15 then .ok (.out (.val (.cell fr1.sto.length))) { fr1 with sto := fr1.sto ++ [.dict (kmerge [] ds)] } else .bad
  | .comp elt tg it cond own, fr => (evi T it fr).bind fun xs fr1 =>
    if xs.length < sizeLine then
    (compGo (bindT tg) own (fun fr2 => evc T cond fr2) (fun fr2 => (ev T elt fr2).fr fun d fr3 => .ok d fr3) xs fr1).bind fun ds fr2 =>
      .ok (.out (.fresh ds)) { fr2 with env := backE fr1.env fr2.env own }
    else .bad
  | .pop i, fr => match fr.env[i]? with
    | some (.own xs) => match xs.getLast? with
      | some d => .ok (.out (.val d)) { fr with env := fr.env.set i (.own xs.dropLast) }
      | none => .bad
    | _ => .bad
def evs (T : Tab) : List Tm → Fr → Rs (List D)
  | [], fr => .ok [] fr
  | t :: ts, fr => (ev T t fr).fr fun d fr1 => (evs T ts fr1).bind fun ds fr2 => .ok (d :: ds) fr2
/-- arguments of a built-in: only looked at -/
def evp (T : Tab) : List Tm → Fr → Rs (List RV)
  | [], fr => .ok [] fr
  | t :: ts, fr => (ev T t fr).bind fun r fr1 => (evp T ts fr1).bind fun rs fr2 => .ok (hold r :: rs) fr2
def evk (T : Tab) : List (Key × Tm) → Fr → Rs (List (Key × D))
  | [], fr => .ok [] fr
  | (k, t) :: ts, fr => (ev T t fr).fr fun d fr1 => (evk T ts fr1).bind fun ds fr2 => .ok ((k, d) :: ds) fr2
def evo (T : Tab) : Option Tm → Fr → Rs (Option Int)
  | none, fr => .ok none fr
  | some t, fr => (ev T t fr).fr fun d fr1 => match d with | .int i => .ok (some i) fr1 | _ => .bad
def evc (T : Tab) : Option Tm → Fr → Rs Bool
  | none, fr => .ok true fr
  | some t, fr => (ev T t fr).fr fun d fr1 => asB d fr1 fun b fr2 => .ok b fr2
def evi (T : Tab) : Iter → Fr → Rs (List D)
  | .seq t, fr => (ev T t fr).fr fun d fr1 => match seqOf d with | some xs => .ok xs fr1 | none => .bad
  | .range1 a, fr => (ev T a fr).fr fun d fr1 => match d with | .int n => if n < 2 ^ 62 ∧ -(2 ^ 62) < n then .ok (rangeD 0 n.toNat) fr1 else .bad | _ => .bad
  | .range2 a b, fr => (ev T a fr).fr fun d fr1 => (ev T b fr1).fr fun e fr2 => match d, e with
    | .int lo, .int hi => if -(2 ^ 62) < lo ∧ lo < 2 ^ 62 ∧ -(2 ^ 62) < hi ∧ hi < 2 ^ 62 then .ok (rangeD lo (hi - lo).toNat) fr2 else .bad
    | _, _ => .bad
  | .range3 a b c, fr => (ev T a fr).fr fun d fr1 => (ev T b fr1).fr fun e fr2 => (ev T c fr2).fr fun f fr3 => match d, e, f with
    | .int lo, .int hi, .int st => if -(2 ^ 60) < lo ∧ lo < 2 ^ 60 ∧ -(2 ^ 60) < hi ∧ hi < 2 ^ 60 ∧ -(2 ^ 29) < st ∧ st < 2 ^ 29 ∧ st ≠ 0 then .ok (range3D lo st (stepsN lo hi st)) fr3 else .bad
    | _, _, _ => .bad
  | .zip a b, fr => (ev T a fr).fr fun d fr1 => (ev T b fr1).fr fun e fr2 => match seqOf d, seqOf e with
    | some xs, some ys => .ok (zipD xs ys) fr2
    | _, _ => .bad
  | .enum a st, fr => (ev T a fr).fr fun d fr1 => match seqOf d with | some xs => .ok (enumD st xs) fr1 | none => .bad
  | .rev a, fr => (ev T a fr).fr fun d fr1 => match seqOf d with | some xs => .ok xs.reverse fr1 | none => .bad
def looks (env : List Slot) : List RV → Option (List D)
  | [] => some []
  | r :: rs => match look env r, looks env rs with | some d, some ds => some (d :: ds) | _, _ => none
end

/-! ### statements -/
def Rs.frS (r : Rs RV) (k : D → Fr → Sx) : Sx :=
  r.toS fun v fr => match toD fr v with | some (d, fr') => k d fr' | none => .bad
def setE (fr : Fr) (i : Nat) (s : Slot) : Fr := { fr with env := fr.env.set i s }
def asgR (tg : Tg) (r : RV) (fr : Fr) : Sx :=
  match tg with
  | .slot i => match r with
    | .out (.fresh xs) => .next (setE fr i (.own xs))
    | r => match toD fr r with
      | some (d, fr') => .next (setE fr' i (.val d))
      | none => .bad
  | .tup ts => match toD fr r with
    | some (d, fr') => match bindT (.tup ts) d fr' with | some fr2 => .next fr2 | none => .bad
    | none => .bad
/-- several values, the new lists among them kept in slots behind the others -/
def parGo (T : Tab) (n : Nat) : List Tm → Fr → Rs (List RV)
  | [], fr => .ok [] fr
  | t :: ts, fr => (ev T t fr).bind fun r fr1 => match r with
    | .out (.fresh xs) => (parGo T n ts { fr1 with env := fr1.env ++ [.own xs] }).bind fun rs fr2 => .ok (.var fr1.env.length :: rs) fr2
    | r => (parGo T n ts fr1).bind fun rs fr2 => .ok (r :: rs) fr2
/-- the slots is := rs, one by one; a list that stands behind n moves -/
def parSet (n : Nat) : List Nat → List RV → Fr → Option Fr
  | [], [], fr => some fr
  | i :: is, r :: rs, fr => match r with
    | .out (.val d) => parSet n is rs (setE fr i (.val d))
    | .out (.fresh _) => none
    | .var j => if n ≤ j then match fr.env[j]? with
        | some (.own xs) => parSet n is rs (setE (setE fr j .un) i (.own xs))
        | _ => none else none
  | _, _, _ => none
def cutE (n : Nat) (fr : Fr) : Fr := { fr with env := fr.env.take n }
def cutX {α : Type} (n : Nat) : Rs α → Rs α
  | .exc c fs fr => .exc c fs (cutE n fr)
  | r => r
def ofFxS (fr : Fr) : Fx → Sx
  | .ret o s => .next { fr with sto := s }
  | .exc c fs s => .exc c fs { fr with sto := s }
  | .bad => .bad

mutual
noncomputable def ex (T : Tab) : Stm → Fr → Sx
  | .skip, fr => .next fr
  | .expr t, fr => (ev T t fr).toS fun _ fr1 => .next fr1
  | .asg tg t, fr => (ev T t fr).toS fun r fr1 => asgR tg r fr1
  | .par is ts, fr => (cutX fr.env.length (parGo T fr.env.length ts fr)).toS fun rs fr1 => match parSet fr.env.length is rs fr1 with
    | some fr2 => .next (cutE fr.env.length fr2)
    | none => .bad
  | .setk o k v, fr => (ev T v fr).frS fun dv fr1 => (ev T o fr1).frS fun d fr2 => (ev T k fr2).frS fun dk fr3 => match d, keyOf dk with
    | .cell n, some kk => match fr3.sto[n]? with
      | some (.dict kvs) => if kvs.length < 1000 then .next { fr3 with sto := fr3.sto.set n (.dict (kput kvs kk dv)) } else .bad
      | _ => .bad
    | _, _ => .bad
  | .seti i k v, fr => (ev T v fr).frS fun dv fr1 => (ev T (.slot i) fr1).toS fun _ fr2 => (ev T k fr2).frS fun dk fr3 => match fr3.env[i]?, dk with
    | some (.own xs), .int j => match ixN xs.length j with
      | some m => .next (setE fr3 i (.own (xs.set m dv)))
      | none => .bad
    | _, _ => .bad
  | .seta o f v, fr => (ev T v fr).frS fun dv fr1 => (ev T o fr1).frS fun d fr2 => match d with
    | .cell n => match fr2.sto[n]? with
      | some (.inst c fs) => if T.fld c f && decide (fs.length < 100) then .next { fr2 with sto := fr2.sto.set n (.inst c (fput f dv fs)) } else .bad
      | _ => .bad
    | _ => .bad
  | .aug i op t, fr => match fr.env[i]? with
    | some (.val (.int x)) => (ev T t fr).frS fun d fr1 => match op, d with
      | .add, .int y => .next (setE fr1 i (.val (.int (x + y))))
      | .sub, .int y => .next (setE fr1 i (.val (.int (x - y))))
      | _, _ => .bad
    | _ => .bad
  | .append i t, fr => match fr.env[i]? with
    | some (.own _) => (ev T t fr).frS fun d fr1 => match fr1.env[i]? with
      | some (.own xs) => if xs.length < sizeLine then .next (setE fr1 i (.own (xs ++ [d]))) else .bad
      | _ => .bad
    | _ => .bad
  | .extend i t, fr => match fr.env[i]? with
    | some (.own _) => (ev T t fr).frS fun d fr1 => match fr1.env[i]?, d with
      | some (.own xs), .lst ys => if xs.length + ys.length ≤ sizeLine then .next (setE fr1 i (.own (xs ++ ys))) else .bad
      | _, _ => .bad
    | _ => .bad
  | .ite c a b, fr => (ev T c fr).frS fun d fr1 => match d with | .bl k => if k then exs T a fr1 else exs T b fr1 | _ => .bad
  | .whil c b, fr => whilGo (fun fr1 => (ev T c fr1).fr fun d fr2 => asB d fr2 fun k fr3 => .ok k fr3) (fun fr1 => exs T b fr1) fr
  | .for_ tg it b, fr => (evi T it fr).toS fun xs fr1 => forGo (bindT tg) (fun fr2 => exs T b fr2) xs fr1
  | .ret t, fr => (ev T t fr).toS fun r fr1 => match r with
    | .out o => .ret o fr1
    | .var i => match fr1.env[i]? with
      | some (.own xs) => .ret (.fresh xs) (setE fr1 i .un)
      | _ => .bad
  | .retN, fr => .ret (.val .non) fr
  | .brk, fr => .brk fr
  | .cont, fr => .cont fr
  | .rais c as, fr => (evs T as fr).toS fun ds fr1 => .exc c ds fr1
  | .tryx b hs, fr => match exs T b fr with
    | .exc c fs fr1 => exh T hs c fs fr1
    | r => r
noncomputable def exs (T : Tab) : List Stm → Fr → Sx
  | [], fr => .next fr
  | t :: ts, fr => (ex T t fr).seq fun fr1 => exs T ts fr1
noncomputable def exh (T : Tab) : List (Nat × Option Nat × List Stm) → Nat → List D → Fr → Sx
  | [], c, fs, fr => .exc c fs fr
  | (hc, _, b) :: hs, c, fs, fr => if T.sub c hc then exs T b fr else exh T hs c fs fr
end

/-- a def: how many slots, its body -/
structure Fd where
  n : Nat
  body : List Stm
noncomputable def run (T : Tab) (f : Fd) : Fn := fun ds sto =>
  match exs T f.body ⟨ds.map Slot.val ++ List.replicate (f.n - ds.length) .un, sto⟩ with
  | .next fr => .ret (.val .non) fr.sto
  | .ret o fr => .ret o fr.sto
  | .exc c fs fr => .exc c fs fr.sto
  | _ => .bad
end Ag
namespace Ag
open PySem L2

structure Glb where
  K : PySem.W.Frag
  cl : Nat → Addr
  fn : Nat → Str
  xf : Nat → List Nat

section
variable (G : Glb)
mutual
inductive Rep (F : Hp) (io : List Addr) : D → V → Prop
  | non : Rep F io .non .non
  | bl (b) : Rep F io (.bl b) (.bl b)
  | int (i) : Rep F io (.int i) (.int i)
  | str (s) : Rep F io (.str s) (.str s)
  | tup {ds vs a} : SqT G.K F a vs → Reps F io ds vs → Rep F io (.tup ds) (.ref a)
  | lst {ds vs a} : F a = some (.lst vs) → Reps F io ds vs → Rep F io (.lst ds) (.ref a)
  | rol {ds vs a} : SqL G.K F a vs → Reps F io ds vs → Rep F io (.rol ds) (.ref a)
  | obj {c fs vs a dx} : F a = some (.ins (G.cl c) dx vs) → RepF F io fs vs → Rep F io (.obj c fs) (.ref a)
  | cell {n a} : io[n]? = some a → Rep F io (.cell n) (.ref a)
inductive Reps (F : Hp) (io : List Addr) : List D → List V → Prop
  | nil : Reps F io [] []
  | cons {d v ds vs} : Rep F io d v → Reps F io ds vs → Reps F io (d :: ds) (v :: vs)
inductive RepF (F : Hp) (io : List Addr) : List (Nat × D) → List (Str × V) → Prop
  | nil : RepF F io [] []
  | cons {f d v ds vs} : Rep F io d v → RepF F io ds vs → RepF F io ((f, d) :: ds) ((G.fn f, v) :: vs)
end
end

section
variable {G : Glb} {F F' : Hp} {io io' : List Addr}
def Pre (io io' : List Addr) : Prop := ∀ (n : Nat) (a : Addr), io[n]? = some a → io'[n]? = some a
theorem Pre.refl (io : List Addr) : Pre io io := fun _ _ h => h
theorem Pre.trans {i1 i2 i3 : List Addr} (a : Pre i1 i2) (b : Pre i2 i3) : Pre i1 i3 := fun n x h => b n x (a n x h)
theorem Same.sqT {K : PySem.W.Frag} {H H' : Hp} {a : Addr} {xs : List V} (e : Same H H') (h : SqT K H a xs) : SqT K H' a xs := by
  rcases h with (h | ⟨o, h⟩) | h
  · exact .inl (.inl (e _ _ h))
  · exact .inl (.inr ⟨o, e _ _ h⟩)
  · exact .inr h
mutual
theorem Rep.mono (s : Same F F') (p : Pre io io') : ∀ {d : D} {v : V}, Rep G F io d v → Rep G F' io' d v
  | _, _, .non => .non
  | _, _, .bl b => .bl b
  | _, _, .int b => .int b
  | _, _, .str b => .str b
  | _, _, .tup h r => .tup (Same.sqT s h) (Reps.mono s p r)
  | _, _, .lst h r => .lst (s _ _ h) (Reps.mono s p r)
  | _, _, .rol h r => .rol (s.seq h) (Reps.mono s p r)
  | _, _, .obj h r => .obj (s _ _ h) (RepF.mono s p r)
  | _, _, .cell h => .cell (p _ _ h)
theorem Reps.mono (s : Same F F') (p : Pre io io') : ∀ {d : List D} {v : List V}, Reps G F io d v → Reps G F' io' d v
  | _, _, .nil => .nil
  | _, _, .cons h r => .cons (Rep.mono s p h) (Reps.mono s p r)
theorem RepF.mono (s : Same F F') (p : Pre io io') : ∀ {d : List (Nat × D)} {v : List (Str × V)}, RepF G F io d v → RepF G F' io' d v
  | _, _, .nil => .nil
  | _, _, .cons h r => .cons (Rep.mono s p h) (RepF.mono s p r)
end
theorem Reps.length : ∀ {d : List D} {v : List V}, Reps G F io d v → d.length = v.length
  | _, _, .nil => rfl
  | _, _, .cons _ r => by rw [List.length_cons, List.length_cons, Reps.length r]
theorem Reps.append : ∀ {d e : List D} {v u : List V}, Reps G F io d v → Reps G F io e u → Reps G F io (d ++ e) (v ++ u)
  | _, _, _, _, .nil, s => s
  | _, _, _, _, .cons h r, s => .cons h (Reps.append r s)
theorem Reps.get : ∀ {d : List D} {v : List V} {i : Nat} {x : D}, Reps G F io d v → d[i]? = some x → ∃ u, v[i]? = some u ∧ Rep G F io x u
  | _, _, _, _, .nil, e => by simp at e
  | _, _, 0, _, .cons h _, e => by simp at e; subst e; exact ⟨_, rfl, h⟩
  | _, _, i + 1, x, .cons _ r, e => by
    obtain ⟨u, h1, h2⟩ := Reps.get (i := i) (x := x) r (by simpa using e)
    exact ⟨u, by simpa using h1, h2⟩
theorem Reps.take : ∀ {d : List D} {v : List V} (n : Nat), Reps G F io d v → Reps G F io (d.take n) (v.take n)
  | _, _, 0, _ => by simp; exact .nil
  | _, _, n + 1, .nil => by simp; exact .nil
  | _, _, n + 1, .cons h r => by simp; exact .cons h (Reps.take n r)
theorem Reps.drop : ∀ {d : List D} {v : List V} (n : Nat), Reps G F io d v → Reps G F io (d.drop n) (v.drop n)
  | _, _, 0, h => by simpa using h
  | _, _, n + 1, .nil => by simp; exact .nil
  | _, _, n + 1, .cons h r => by simp; exact Reps.drop n r
theorem Reps.set {x : D} {u : V} (hx : Rep G F io x u) : ∀ {d : List D} {v : List V} (n : Nat), Reps G F io d v → Reps G F io (d.set n x) (v.set n u)
  | _, _, _, .nil => .nil
  | _, _, 0, .cons h r => .cons hx r
  | _, _, n + 1, .cons h r => .cons h (Reps.set hx n r)
theorem Reps.reverse : ∀ {d : List D} {v : List V}, Reps G F io d v → Reps G F io d.reverse v.reverse
  | _, _, .nil => .nil
  | _, _, .cons h r => by rw [List.reverse_cons, List.reverse_cons]; exact (Reps.reverse r).append (.cons h .nil)

inductive RepK (G : Glb) (F : Hp) (io : List Addr) : List (Key × D) → List (Key × V) → Prop
  | nil : RepK G F io [] []
  | cons {k d v ds vs} : Rep G F io d v → RepK G F io ds vs → RepK G F io ((k, d) :: ds) ((k, v) :: vs)
theorem RepK.mono (s : Same F F') (p : Pre io io') : ∀ {d : List (Key × D)} {v : List (Key × V)}, RepK G F io d v → RepK G F' io' d v
  | _, _, .nil => .nil
  | _, _, .cons h r => .cons (h.mono s p) (RepK.mono s p r)
theorem RepK.length : ∀ {d : List (Key × D)} {v : List (Key × V)}, RepK G F io d v → d.length = v.length
  | _, _, .nil => rfl
  | _, _, .cons _ r => by rw [List.length_cons, List.length_cons, RepK.length r]

def CellOk (G : Glb) (F : Hp) (io : List Addr) (H : Hp) (a : Addr) : Cell → Prop
  | .dict kvs => ∃ vs, H a = some (.dK vs) ∧ RepK G F io kvs vs
  | .inst c fs => ∃ dx vs, H a = some (.ins (G.cl c) dx vs) ∧ RepF G F io fs vs

/-- the heap at an entry, and what was known not to change any more -/
structure Ent where
  hp : Hp
  fz : Hp
instance : CoeFun Ent (fun _ => Addr → Option HO) := ⟨Ent.hp⟩
/-- what F may hold -/
def Fz : HO → Prop
  | .dK _ => False
  | .dT _ => False
  | _ => True
/-- the objects: F what never changes any more, io where the cells stand, H0 the heap at the entry, n0 the cells at the entry -/
structure Wr (G : Glb) (H0 : Ent) (n0 : Nat) (sto : List Cell) (H F : Hp) (io : List Addr) : Prop where
  sub : Same F H
  len : io.length = sto.length
  cel : ∀ (n : Nat) (c : Cell), sto[n]? = some c → ∃ a, io[n]? = some a ∧ F a = none ∧ CellOk G F io H a c
  inj : ∀ (i j : Nat) (a : Addr), io[i]? = some a → io[j]? = some a → i = j
  keep : ∀ a o, H0 a = some o → (∀ n : Nat, n < n0 → io[n]? ≠ some a) → H a = some o
  new : ∀ (n : Nat) (a : Addr), n0 ≤ n → io[n]? = some a → H0 a = none
  frz : ∀ a o, F a = some o → Fz o
  nle : n0 ≤ io.length
  old : ∀ a o u, H0 a = some o → F a = some u → H0.fz a = some u

/-- at p stands a list that nothing but a slot knows -/
def Own (G : Glb) (H0 : Ent) (H F : Hp) (io : List Addr) (xs : List D) (p : Addr) : Prop :=
  ∃ vs, H p = some (.lst vs) ∧ F p = none ∧ (∀ n : Nat, io[n]? ≠ some p) ∧ H0 p = none ∧ Reps G F io xs vs

def SlOk (G : Glb) (H0 : Ent) (H F : Hp) (io : List Addr) : Slot → Option (Option V) → Prop
  | .un, _ => True
  | .val d, o => ∃ v, o = some (some v) ∧ Rep G F io d v
  | .own xs, o => ∃ p, o = some (some (.ref p)) ∧ Own G H0 H F io xs p

structure Sl (G : Glb) (H0 : Ent) (H F : Hp) (io : List Addr) (env : List Slot) (σ : St) : Prop where
  len : env.length = σ.length
  at_ : ∀ (i : Nat) (s : Slot), env[i]? = some s → SlOk G H0 H F io s σ[i]?
  dis : ∀ (i j : Nat) (xs ys : List D) (p : Addr), env[i]? = some (.own xs) → env[j]? = some (.own ys) → σ[i]? = some (some (.ref p)) → σ[j]? = some (some (.ref p)) → i = j

structure Ws (G : Glb) (H0 : Ent) (n0 : Nat) (fr : Fr) (σ : St) (H F : Hp) (io : List Addr) : Prop where
  wr : Wr G H0 n0 fr.sto H F io
  sl : Sl G H0 H F io fr.env σ

def Hk (G : Glb) (F : Hp) (io : List Addr) (σ : St) : RV → V → Prop
  | .out (.val d), v => Rep G F io d v
  | .out (.fresh _), _ => False
  | .var i, v => σ[i]? = some (some v)
def RvOk (G : Glb) (H0 : Ent) (H F : Hp) (io : List Addr) (env : List Slot) (σ : St) : RV → V → Prop
  | .out (.val d), v => Rep G F io d v
  | .out (.fresh xs), v => ∃ p, v = .ref p ∧ Own G H0 H F io xs p ∧ ∀ (i : Nat) (ys : List D), env[i]? = some (.own ys) → σ[i]? ≠ some (some (.ref p))
  | .var i, v => σ[i]? = some (some v)
/-- looked at: a part of F, or the list of a slot -/
def Lk (G : Glb) (F : Hp) (io : List Addr) (H : Hp) (d : D) (v : V) : Prop :=
  Rep G F io d v ∨ ∃ xs p vs, d = .lst xs ∧ v = .ref p ∧ H p = some (.lst vs) ∧ Reps G F io xs vs

theorem Hk.mono {σ : St} (s : Same F F') (p : Pre io io') {r : RV} {v : V} (h : Hk G F io σ r v) : Hk G F' io' σ r v := by
  cases r with
  | out o =>
    cases o with
    | val d => exact Rep.mono s p h
    | fresh xs => exact h
  | var i => exact h

section
variable {H0 : Ent} {H : Hp} {n0 : Nat} {fr : Fr} {σ : St}
theorem Ws.look (w : Ws G H0 n0 fr σ H F io) {r : RV} {v : V} {d : D} (h : Hk G F io σ r v) (e : look fr.env r = some d) : Lk G F io H d v := by
  cases r with
  | out o =>
    cases o with
    | val x => cases e; exact .inl h
    | fresh xs => exact h.elim
  | var i =>
    have h' : σ[i]? = some (some v) := h
    unfold Ag.look at e
    cases q : fr.env[i]? with
    | none => simp [q] at e
    | some s =>
      have sl := w.sl.at_ i s q
      cases s with
      | un => simp [q] at e
      | val x =>
        simp [q] at e; subst e
        obtain ⟨u, e1, r⟩ := sl
        rw [h'] at e1; cases e1
        exact .inl r
      | own xs =>
        simp [q] at e; subst e
        obtain ⟨p, e1, vs, h1, h2, h3, h4, h5⟩ := sl
        rw [h'] at e1; cases e1
        exact .inr ⟨xs, p, vs, rfl, rfl, h1, h5⟩

/-- p is now a part of F -/
theorem Wr.freeze {sto : List Cell} (w : Wr G H0 n0 sto H F io) {p : Addr} {vs : List V} (hp : H p = some (.lst vs)) (fp : F p = none) (ip : ∀ n : Nat, io[n]? ≠ some p) (h0p : H0 p = none) : Same F (upd F p (.lst vs)) ∧ Wr G H0 n0 sto H (upd F p (.lst vs)) io := by
  have sm : Same F (upd F p (.lst vs)) := fun b o e => by rw [upd_ne (ne_of_none e fp)]; exact e
  refine ⟨sm, ⟨fun b o e => ?_, w.len, fun n c e => ?_, w.inj, w.keep, w.new, fun b o e => ?_, w.nle, fun b o u e1 e2 => ?_⟩⟩
  · by_cases hb : b = p
    · subst hb; rw [upd_same] at e; cases e; exact hp
    · rw [upd_ne hb] at e; exact w.sub b o e
  · obtain ⟨a, e1, e2, e3⟩ := w.cel n c e
    refine ⟨a, e1, ?_, ?_⟩
    · have : a ≠ p := fun z => ip n (z ▸ e1)
      rw [upd_ne this]; exact e2
    · cases c with
      | dict kvs => obtain ⟨us, h1, h2⟩ := e3; exact ⟨us, h1, h2.mono sm (Pre.refl _)⟩
      | inst c fs => obtain ⟨dx, us, h1, h2⟩ := e3; exact ⟨dx, us, h1, h2.mono sm (Pre.refl _)⟩
  · by_cases hb : b = p
    · subst hb; rw [upd_same] at e; cases e; trivial
    · rw [upd_ne hb] at e; exact w.frz b o e
  · by_cases hb : b = p
    · subst hb; rw [h0p] at e1; cases e1
    · rw [upd_ne hb] at e2; exact w.old b o u e1 e2
theorem SlOk.mono {H' : Hp} (s : Same F F') (p : Pre io io') (k : ∀ xs q, Own G H0 H F io xs q → Own G H0 H' F' io' xs q) {sl : Slot} {o : Option (Option V)} (h : SlOk G H0 H F io sl o) : SlOk G H0 H' F' io' sl o := by
  cases sl with
  | un => trivial
  | val d => obtain ⟨v, e, r⟩ := h; exact ⟨v, e, r.mono s p⟩
  | own xs => obtain ⟨q, e, r⟩ := h; exact ⟨q, e, k _ _ r⟩
theorem set_own {env : List Slot} {i j : Nat} {s : Slot} {xs : List D} (hs : ∀ ys, s ≠ .own ys) (h : (env.set i s)[j]? = some (.own xs)) : j ≠ i ∧ env[j]? = some (.own xs) := by
  by_cases e : i = j
  · subst e
    rw [List.getElem?_set_self'] at h
    cases q : env[i]? with
    | none => rw [q] at h; cases h
    | some z => rw [q] at h; simp at h; exact absurd h (hs xs)
  · rw [List.getElem?_set_ne e] at h
    exact ⟨fun z => e z.symm, h⟩
theorem set_at {env : List Slot} {i j : Nat} {s t : Slot} (h : (env.set i s)[j]? = some t) : (j = i ∧ t = s) ∨ (j ≠ i ∧ env[j]? = some t) := by
  by_cases e : i = j
  · subst e
    rw [List.getElem?_set_self'] at h
    cases q : env[i]? with
    | none => rw [q] at h; cases h
    | some z => rw [q] at h; simp at h; exact .inl ⟨rfl, h.symm⟩
  · rw [List.getElem?_set_ne e] at h
    exact .inr ⟨fun z => e z.symm, h⟩

/-- a slot's list becomes a part of F -/
theorem Ws.freezeSlot (w : Ws G H0 n0 fr σ H F io) {i : Nat} {xs : List D} (e : fr.env[i]? = some (.own xs)) :
    ∃ p F', σ[i]? = some (some (.ref p)) ∧ Same F F' ∧ Rep G F' io (.lst xs) (.ref p) ∧ Ws G H0 n0 { fr with env := fr.env.set i (.val (.lst xs)) } σ H F' io := by
  obtain ⟨p, e1, vs, h1, h2, h3, h4, h5⟩ := w.sl.at_ i _ e
  obtain ⟨sm, wr⟩ := w.wr.freeze h1 h2 h3 h4
  have rp : Rep G (upd F p (.lst vs)) io (.lst xs) (.ref p) := .lst upd_same (h5.mono sm (Pre.refl _))
  refine ⟨p, _, e1, sm, rp, wr, ?_⟩
  refine ⟨by rw [List.length_set]; exact w.sl.len, fun j s q => ?_, fun j k ys zs q g1 g2 => ?_⟩
  · rcases set_at q with ⟨rfl, rfl⟩ | ⟨ne, q⟩
    · exact ⟨_, e1, rp⟩
    · cases s with
      | un => trivial
      | val d =>
        obtain ⟨v, ev, r⟩ := w.sl.at_ j _ q
        exact ⟨v, ev, r.mono sm (Pre.refl _)⟩
      | own ys =>
        obtain ⟨q', eq, us, k1, k2, k3, k4, k5⟩ := w.sl.at_ j _ q
        have nq : q' ≠ p := fun z => ne (w.sl.dis j i ys xs p q e (z ▸ eq) e1)
        exact ⟨q', eq, us, k1, by rw [upd_ne nq]; exact k2, k3, k4, k5.mono sm (Pre.refl _)⟩
  · obtain ⟨_, g1⟩ := set_own (fun _ z => by cases z) g1
    obtain ⟨_, g2⟩ := set_own (fun _ z => by cases z) g2
    exact w.sl.dis j k ys zs q g1 g2

theorem Ws.toD (w : Ws G H0 n0 fr σ H F io) {r : RV} {v : V} {d : D} {fr' : Fr} (h : RvOk G H0 H F io fr.env σ r v) (e : toD fr r = some (d, fr')) :
    ∃ F', Same F F' ∧ Rep G F' io d v ∧ Ws G H0 n0 fr' σ H F' io := by
  cases r with
  | out o =>
    cases o with
    | val x => cases e; exact ⟨F, Same.refl _, h, w⟩
    | fresh xs =>
      cases e
      obtain ⟨p, rfl, ⟨vs, h1, h2, h3, h4, h5⟩, hd⟩ := h
      obtain ⟨sm, wr⟩ := w.wr.freeze h1 h2 h3 h4
      refine ⟨_, sm, .lst upd_same (h5.mono sm (Pre.refl _)), wr, w.sl.len, fun j s q => ?_, w.sl.dis⟩
      cases s with
      | un => trivial
      | val d =>
        obtain ⟨v, ev, r⟩ := w.sl.at_ j _ q
        exact ⟨v, ev, r.mono sm (Pre.refl _)⟩
      | own ys =>
        obtain ⟨q', eq, us, k1, k2, k3, k4, k5⟩ := w.sl.at_ j _ q
        have nq : q' ≠ p := fun z => hd j ys q (z ▸ eq)
        exact ⟨q', eq, us, k1, by rw [upd_ne nq]; exact k2, k3, k4, k5.mono sm (Pre.refl _)⟩
  | var i =>
    have h' : σ[i]? = some (some v) := h
    unfold Ag.toD at e
    cases q : fr.env[i]? with
    | none => simp [q] at e
    | some s =>
      cases s with
      | un => simp [q] at e
      | val x =>
        simp [q] at e
        obtain ⟨rfl, rfl⟩ := e
        obtain ⟨u, e1, r⟩ := w.sl.at_ i _ q
        rw [h'] at e1; cases e1
        exact ⟨F, Same.refl _, r, w⟩
      | own xs =>
        simp [q] at e
        obtain ⟨rfl, rfl⟩ := e
        obtain ⟨p, F', e1, sm, rp, w'⟩ := w.freezeSlot q
        rw [h'] at e1; cases e1
        exact ⟨F', sm, rp, w'⟩
theorem Ws.hold (w : Ws G H0 n0 fr σ H F io) {r : RV} {v : V} (h : RvOk G H0 H F io fr.env σ r v) : ∃ F', Same F F' ∧ Hk G F' io σ (hold r) v ∧ Ws G H0 n0 fr σ H F' io := by
  cases r with
  | out o =>
    cases o with
    | val x => exact ⟨F, Same.refl _, h, w⟩
    | fresh xs =>
      obtain ⟨F', sm, rp, w'⟩ := w.toD (r := .out (.fresh xs)) (d := .lst xs) (fr' := fr) h rfl
      exact ⟨F', sm, rp, w'⟩
  | var i => exact ⟨F, Same.refl _, h, w⟩
end
end
end Ag
namespace Ag
open PySem L2

def Rs.all {α : Type} (r : Rs α) (P : α → Fr → Prop) (PX : Nat → List D → Fr → Prop) : Prop :=
  match r with
  | .ok a fr => P a fr
  | .exc c fs fr => PX c fs fr
  | .bad => False
theorem Rs.all_bind {α β : Type} {m : Rs α} {k : α → Fr → Rs β} {P : β → Fr → Prop} {PX : Nat → List D → Fr → Prop} (h : (m.bind k).all P PX) : m.all (fun a fr => (k a fr).all P PX) PX := by
  cases m with
  | ok a fr => exact h
  | exc c fs fr => exact h
  | bad => exact h
theorem Rs.all_imp {α : Type} {m : Rs α} {P P' : α → Fr → Prop} {PX PX' : Nat → List D → Fr → Prop} (h : m.all P PX) (k : ∀ a fr, P a fr → P' a fr) (kx : ∀ c fs fr, PX c fs fr → PX' c fs fr) : m.all P' PX' := by
  cases m with
  | ok a fr => exact k _ _ h
  | exc c fs fr => exact kx _ _ _ h
  | bad => exact h
theorem Rs.all_fr {α : Type} {m : Rs RV} {k : D → Fr → Rs α} {P : α → Fr → Prop} {PX : Nat → List D → Fr → Prop} (h : (m.fr k).all P PX) :
    m.all (fun r fr => ∃ d fr', toD fr r = some (d, fr') ∧ (k d fr').all P PX) PX := by
  refine Rs.all_imp (Rs.all_bind h) (fun r fr q => ?_) fun _ _ _ q => q
  cases e : toD fr r with
  | none => rw [e] at q; exact q.elim
  | some p => rw [e] at q; exact ⟨p.1, p.2, rfl, q⟩

structure En where
  X : Cx
  G : Glb
  H0 : Ent
  n0 : Nat
  T : Tab
  W : WX
structure En.Ok (E : En) : Prop where
  k : E.G.K = E.X.K
  nd : E.X.N.Nodup
  calm : E.X.calm = true
  hu : E.X.A.units + 64 < cLine
  tk : Takes E.X E.W
  inj : ∀ f g, E.G.fn f = E.G.fn g → f = g
  fld : ∀ c f, E.T.fld c f = true → Cls E.X.K (E.G.cl c) ∧ NoAttr E.X.K (E.G.cl c) (E.G.fn f)

/-- an exception's fields -/
def ExOk (G : Glb) (F : Hp) (io : List Addr) (H : Hp) (c : Nat) (fs : List D) (d : Option Addr) : Prop :=
  (∃ a vs, d = some a ∧ H a = some (.xd vs) ∧ vs.map (·.1) = (G.xf c).map G.fn ∧ Reps G F io fs (vs.map (·.2))) ∨ (fs = [] ∧ d = none)

section
variable (E : En)
abbrev En.ws (fr : Fr) (σ : St) (H F : Hp) (io : List Addr) : Prop := Ws E.G E.H0 E.n0 fr σ H F io
def okE (σ t : St) (F : Hp) (io : List Addr) (Q : VK) : RV → Fr → Prop := fun r fr => ∀ v H' F' io', Same F F' → Pre io io' → E.ws fr (σ ++ t) H' F' io' → RvOk E.G E.H0 H' F' io' fr.env (σ ++ t) r v → Q v H'
def exE (σ t : St) (F : Hp) (io : List Addr) : Nat → List D → Fr → Prop := fun c fs fr => ∀ d H' F' io', Same F F' → Pre io io' → E.ws fr (σ ++ t) H' F' io' → ExOk E.G F' io' H' c fs d → E.W (.ref (E.G.cl c)) d σ H'
/-- the weakest readings -/
def wE (X : Cx) (e : Expr) : TE := fun σ H Q => ∀ (pins : List (Addr × Obj)) (s : Shared), Inv X pins σ H s → wpAny (model X.prog X.w) X.A (eval e X.env) (EP X pins σ Q) X.xe s
def wT (X : Cx) (e : Expr) : TT := fun σ H Q => ∀ (pins : List (Addr × Obj)) (s : Shared), Inv X pins σ H s → wpAny (model X.prog X.w) X.A (isTrue e X.env (eval e X.env)) (TP X pins σ Q) X.xe s
def wA (X : Cx) (es : List Expr) : TA := fun σ H Q => ∀ (pos : Pos) (pins : List (Addr × Obj)) (s : Shared), Inv X pins σ H s → wpAny (model X.prog X.w) X.A (spliced (backTo pos (starEach es X.env))) (AP X pins σ Q) X.xe s
theorem pe_w {X : Cx} {e : Expr} : PE X e (wE X e) := ⟨fun pins s σ H Q I h => h pins s I⟩
theorem pt_w {X : Cx} {e : Expr} : PT X e (wT X e) := ⟨fun pins s σ H Q I h => h pins s I⟩
theorem pa_w {X : Cx} {es : List Expr} : PA X es (wA X es) := ⟨fun pos pins s σ H Q I h => h pos pins s I⟩
theorem wE_of {X : Cx} {e : Expr} {t : TE} {σ : St} {H : Hp} {Q : VK} (h : PE X e t) (q : t σ H Q) : wE X e σ H Q := fun pins s I => h.run pins s σ H Q I q
theorem wT_of {X : Cx} {e : Expr} {t : TT} {σ : St} {H : Hp} {Q : Bool → Hp → Prop} (h : PT X e t) (q : t σ H Q) : wT X e σ H Q := fun pins s I => h.run pins s σ H Q I q
theorem wA_of {X : Cx} {e : List Expr} {t : TA} {σ : St} {H : Hp} {Q : List V → Hp → Prop} (h : PA X e t) (q : t σ H Q) : wA X e σ H Q := fun pos pins s I => h.run pos pins s σ H Q I q
theorem wE_len {X : Cx} {e : Expr} {σ : St} {H : Hp} {Q : VK} (h : σ.length = X.N.length → wE X e σ H Q) : wE X e σ H Q := fun pins s I => h I.len pins s I

/-- the model's expression does what the core term tells -/
def SE (e : Expr) (t : Tm) : Prop := ∀ (fr : Fr) (σ tp : St) (H F : Hp) (io : List Addr) (Q : VK), σ.length = E.X.N.length → E.ws fr (σ ++ tp) H F io → (ev E.T t fr).all (okE E σ tp F io Q) (exE E σ tp F io) → wE E.X e σ H Q
def ST (e : Expr) (t : Tm) : Prop := ∀ (fr : Fr) (σ tp : St) (H F : Hp) (io : List Addr) (Q : Bool → Hp → Prop), σ.length = E.X.N.length → E.ws fr (σ ++ tp) H F io →
  (ev E.T t fr).all (fun r fr => ∃ b, look fr.env r = some (.bl b) ∧ ∀ H' F' io', Same F F' → Pre io io' → E.ws fr (σ ++ tp) H' F' io' → Q b H') (exE E σ tp F io) → wT E.X e σ H Q
/-- arguments as parts -/
def SA (es : List Expr) (ts : List Tm) : Prop := ∀ (fr : Fr) (σ tp : St) (H F : Hp) (io : List Addr) (Q : List V → Hp → Prop), σ.length = E.X.N.length → E.ws fr (σ ++ tp) H F io →
  (evs E.T ts fr).all (fun ds fr' => ∀ vs H' F' io', Same F F' → Pre io io' → E.ws fr' (σ ++ tp) H' F' io' → Reps E.G F' io' ds vs → Q vs H') (exE E σ tp F io) → wA E.X es σ H Q
/-- arguments that are only looked at -/
def SP' (es : List Expr) (ts : List Tm) : Prop := ∀ (fr : Fr) (σ tp : St) (H F : Hp) (io : List Addr) (Q : List V → Hp → Prop), σ.length = E.X.N.length → E.ws fr (σ ++ tp) H F io →
  (evp E.T ts fr).all (fun rs fr' => ∀ vs H' F' io', Same F F' → Pre io io' → E.ws fr' (σ ++ tp) H' F' io' → Paired (Hk E.G F' io' (σ ++ tp)) rs vs → Q vs H') (exE E σ tp F io) → wA E.X es σ H Q
end

section
variable {E : En} {e a b c : Expr} {ta tb tc : Tm} {fr : Fr} {σ tp : St} {H F : Hp} {io : List Addr} {Q : VK}
theorem exE.mono {F' : Hp} {io' : List Addr} (s : Same F F') (p : Pre io io') {c : Nat} {fs : List D} {fr : Fr} (h : exE E σ tp F io c fs fr) : exE E σ tp F' io' c fs fr :=
  fun d H' F2 io2 s2 p2 w x => h d H' F2 io2 (s.trans s2) (p.trans p2) w x
/-- a part: evaluated, then as data -/
theorem SE.part (ha : SE E a ta) (hl : σ.length = E.X.N.length) (w : E.ws fr (σ ++ tp) H F io) {α : Type} {k : D → Fr → Rs α} {P : α → Fr → Prop} (h : ((ev E.T ta fr).fr k).all P (exE E σ tp F io))
    (q : ∀ d fr1 v H1 F1 io1, Same F F1 → Pre io io1 → E.ws fr1 (σ ++ tp) H1 F1 io1 → Rep E.G F1 io1 d v → (k d fr1).all P (exE E σ tp F1 io1) → Q v H1) : wE E.X a σ H Q := by
  refine ha fr σ tp H F io Q hl w (Rs.all_imp (Rs.all_fr h) (fun r fr1 z => ?_) fun _ _ _ x => x)
  obtain ⟨d, fr', e1, z⟩ := z
  intro v H' F' io' s p w' rv
  obtain ⟨F2, s2, rp, w2⟩ := w'.toD rv e1
  exact q d fr' v H' F2 io' (s.trans s2) p w2 rp (Rs.all_imp z (fun _ _ y => y) fun _ _ _ y => y.mono (s.trans s2) p)
/-- looked at: evaluated, held -/
theorem SE.held (ha : SE E a ta) (hl : σ.length = E.X.N.length) (w : E.ws fr (σ ++ tp) H F io) {α : Type} {k : RV → Fr → Rs α} {P : α → Fr → Prop} (h : ((ev E.T ta fr).bind k).all P (exE E σ tp F io))
    (q : ∀ r fr1 v H1 F1 io1, Same F F1 → Pre io io1 → E.ws fr1 (σ ++ tp) H1 F1 io1 → Hk E.G F1 io1 (σ ++ tp) (hold r) v → (k r fr1).all P (exE E σ tp F1 io1) → Q v H1) : wE E.X a σ H Q := by
  refine ha fr σ tp H F io Q hl w (Rs.all_imp (Rs.all_bind h) (fun r fr1 z => ?_) fun _ _ _ x => x)
  intro v H' F' io' s p w' rv
  obtain ⟨F2, s2, hk, w2⟩ := w'.hold rv
  exact q r fr1 v H' F2 io' (s.trans s2) p w2 hk (Rs.all_imp z (fun _ _ y => y) fun _ _ _ y => y.mono (s.trans s2) p)

/-! ### names, constants -/
theorem lift_at {i : Nat} {x : Str} (hl : σ.length = E.X.N.length) (hN : E.X.N[i]? = some x) : (σ ++ tp)[i]? = σ[i]? := by
  have : i < E.X.N.length := (List.getElem?_eq_some_iff.mp hN).1
  rw [List.getElem?_append_left (by omega)]
theorem SE_slot {i : Nat} {x : Str} {pos : Pos} (hN : E.X.N[i]? = some x) (hv : Vis E.X.env.scope x) (hd : (x == ("__debug__" : Str)) = false) (hcd : (x == ("__classdict__" : Str)) = false) : SE E (.Name x pos) (.slot i) := by
  intro fr σ tp H F io Q hl w h
  refine wE_of (pe_var hN hv hd hcd) ?_
  unfold ev at h
  cases q : fr.env[i]? with
  | none => simp [q] at h; exact h.elim
  | some s =>
    have sl := w.sl.at_ i s q
    rw [lift_at hl hN] at sl
    cases s with
    | un => simp [q] at h; exact h.elim
    | val d =>
      simp [q] at h
      obtain ⟨v, e1, r⟩ := sl
      exact ⟨v, e1, h v H F io (Same.refl _) (Pre.refl _) w r⟩
    | own xs =>
      simp [q] at h
      obtain ⟨p, e1, _⟩ := sl
      exact ⟨.ref p, e1, h _ H F io (Same.refl _) (Pre.refl _) w (show (σ ++ tp)[i]? = _ by rw [lift_at hl hN, e1])⟩
theorem SE_non {j : Nat} {pos : Pos} : SE E (.Constant .none j pos) .non := fun fr σ tp H F io Q hl w h => wE_of pe_non (h _ H F io (Same.refl _) (Pre.refl _) w .non)
theorem SE_bl {b : Bool} {j : Nat} {pos : Pos} : SE E (.Constant (.bool b) j pos) (.bl b) := fun fr σ tp H F io Q hl w h => wE_of pe_bl (h _ H F io (Same.refl _) (Pre.refl _) w (.bl b))
theorem SE_int {i : Int} {j : Nat} {pos : Pos} : SE E (.Constant (.int i) j pos) (.int i) := fun fr σ tp H F io Q hl w h => wE_of pe_int (h _ H F io (Same.refl _) (Pre.refl _) w (.int i))
theorem SE_str {x : Str} {j : Nat} {pos : Pos} : SE E (.Constant (.str x) j pos) (.str x) := fun fr σ tp H F io Q hl w h => wE_of pe_str (h _ H F io (Same.refl _) (Pre.refl _) w (.str x))

/-! ### data by values -/
theorem Rep.lk {G : Glb} {d : D} {v : V} (h : Rep G F io d v) : Lk G F io H d v := .inl h
theorem Lk.int {G : Glb} {i : Int} {v : V} (h : Lk G F io H (.int i) v) : v = .int i := by
  rcases h with h | ⟨_, _, _, e, _⟩
  · cases h; rfl
  · cases e
theorem Lk.str {G : Glb} {i : Str} {v : V} (h : Lk G F io H (.str i) v) : v = .str i := by
  rcases h with h | ⟨_, _, _, e, _⟩
  · cases h; rfl
  · cases e
theorem Lk.bl {G : Glb} {i : Bool} {v : V} (h : Lk G F io H (.bl i) v) : v = .bl i := by
  rcases h with h | ⟨_, _, _, e, _⟩
  · cases h; rfl
  · cases e
theorem Lk.non {G : Glb} {v : V} (h : Lk G F io H .non v) : v = .non := by
  rcases h with h | ⟨_, _, _, e, _⟩
  · cases h; rfl
  · cases e
theorem Lk.lst {G : Glb} {xs : List D} {v : V} (s : Same F H) (h : Lk G F io H (.lst xs) v) : ∃ p vs, v = .ref p ∧ H p = some (.lst vs) ∧ Reps G F io xs vs := by
  rcases h with h | ⟨xs', p, vs, e, rfl, h1, h2⟩
  · cases h with | lst h r => exact ⟨_, _, rfl, s _ _ h, r⟩
  · cases e; exact ⟨p, vs, rfl, h1, h2⟩
theorem Lk.rol {G : Glb} {xs : List D} {v : V} (s : Same F H) (h : Lk G F io H (.rol xs) v) : ∃ p vs, v = .ref p ∧ SqL G.K H p vs ∧ Reps G F io xs vs := by
  rcases h with h | ⟨xs', p, vs, e, rfl, h1, h2⟩
  · cases h with | rol h r => exact ⟨_, _, rfl, s.seq h, r⟩
  · cases e
theorem Lk.tup {G : Glb} {xs : List D} {v : V} (s : Same F H) (h : Lk G F io H (.tup xs) v) : ∃ p vs, v = .ref p ∧ SqT G.K H p vs ∧ SqT G.K F p vs ∧ Reps G F io xs vs := by
  rcases h with h | ⟨_, _, _, e, _⟩
  · cases h with | tup h r => exact ⟨_, _, rfl, Same.sqT s h, h, r⟩
  · cases e
mutual
theorem Rep.dp {K : PySem.W.Frag} {G : Glb} (hK : G.K = K) (s : Same F H) : ∀ {d : D} {v : V} {p : PyData}, Rep G F io d v → toPy d = some p → Dp K H v p
  | _, _, _, .non, e => by cases e; constructor
  | _, _, _, .bl b, e => by cases e; constructor
  | _, _, _, .int b, e => by cases e; constructor
  | _, _, _, .str b, e => by cases e; constructor
  | .tup ds, _, _, .tup h r, e => by
    unfold toPy at e
    cases q : toPys ds with
    | none => rw [q] at e; cases e
    | some ps =>
      rw [q] at e; cases e
      exact .tup (hK ▸ Same.sqT s h) (Reps.dp hK s r q)
  | .lst ds, _, _, .lst h r, e => by
    unfold toPy at e
    cases q : toPys ds with
    | none => rw [q] at e; cases e
    | some ps =>
      rw [q] at e; cases e
      exact .lst (SqL.of (s _ _ h)) (Reps.dp hK s r q)
  | _, _, _, .rol h r, e => by cases e
  | _, _, _, .obj h r, e => by cases e
  | _, _, _, .cell h, e => by cases e
theorem Reps.dp {K : PySem.W.Frag} {G : Glb} (hK : G.K = K) (s : Same F H) : ∀ {d : List D} {v : List V} {p : List PyData}, Reps G F io d v → toPys d = some p → DpAll K H v p
  | _, _, _, .nil, e => by cases e; constructor
  | d :: ds, _, _, .cons h r, e => by
    unfold toPys at e
    cases q1 : toPy d with
    | none => simp [q1] at e
    | some x =>
      cases q2 : toPys ds with
      | none => simp [q1, q2] at e
      | some xs =>
        simp [q1, q2] at e; subst e
        exact .cons (Rep.dp hK s h q1) (Reps.dp hK s r q2)
end
theorem Lk.dp {K : PySem.W.Frag} {G : Glb} (hK : G.K = K) (s : Same F H) {d : D} {v : V} {p : PyData} (h : Lk G F io H d v) (e : toPy d = some p) : Dp K H v p := by
  rcases h with h | ⟨xs, q, vs, rfl, rfl, h1, h2⟩
  · exact Rep.dp hK s h e
  · unfold toPy at e
    cases z : toPys xs with
    | none => rw [z] at e; cases e
    | some ps =>
      rw [z] at e; cases e
      exact .lst (SqL.of h1) (Reps.dp hK s h2 z)

/-- the weakest reading of an operator by values -/
def wOp (X : Cx) (f : Value → Value → Sem Value) : R2 := fun x y H Q => ∀ (pins : List (Addr × Obj)) (σ : St) (s : Shared) (v u : Value), Inv X pins σ H s → RelV x v → RelV y u → wpAny (model X.prog X.w) X.A (f v u) (EP X pins σ Q) X.xe s
theorem op_w {X : Cx} {f : Value → Value → Sem Value} : OpR X f (wOp X f) := fun pins s σ H x y v u Q I r1 r2 h => h pins σ s v u I r1 r2
theorem wOp_of {X : Cx} {f : Value → Value → Sem Value} {r : R2} {x y : V} {H : Hp} {Q : VK} (h : OpR X f r) (q : r x y H Q) : wOp X f x y H Q := fun pins σ s v u I r1 r2 => h pins s σ H x y v u Q I r1 r2 q
end
end Ag
namespace Ag
open PySem L2

section
variable {G : Glb} {H0 : Ent} {H F F' : Hp} {n0 : Nat} {io : List Addr} {fr : Fr} {σ : St} {sto : List Cell}
theorem Wr.fresh (w : Wr G H0 n0 sto H F io) {p : Addr} (hp : H p = none) : F p = none ∧ (∀ n : Nat, io[n]? ≠ some p) ∧ H0 p = none := by
  have h1 : F p = none := by
    cases q : F p with
    | none => rfl
    | some o => rw [w.sub _ _ q] at hp; cases hp
  have h2 : ∀ n : Nat, io[n]? ≠ some p := fun n e => by
    have hn : n < sto.length := by rw [← w.len]; exact (List.getElem?_eq_some_iff.mp e).1
    obtain ⟨a, e1, _, e3⟩ := w.cel n sto[n] (List.getElem?_eq_getElem hn)
    rw [e] at e1; cases e1
    cases q : sto[n] with
    | dict kvs => rw [q] at e3; obtain ⟨vs, h, _⟩ := e3; rw [h] at hp; cases hp
    | inst c fs => rw [q] at e3; obtain ⟨dx, vs, h, _⟩ := e3; rw [h] at hp; cases hp
  refine ⟨h1, h2, ?_⟩
  cases q : H0 p with
  | none => rfl
  | some o => rw [w.keep p o q fun n _ => h2 n] at hp; cases hp
theorem Own.ne {xs : List D} {p q : Addr} (h : Own G H0 H F io xs q) (hp : H p = none) : q ≠ p := fun z => by
  obtain ⟨vs, e, _⟩ := h
  rw [z, hp] at e; cases e
/-- the heap grows at p, F too or not -/
theorem Ws.grow (w : Ws G H0 n0 fr σ H F io) {p : Addr} (hp : H p = none) (o : HO) (sF : Same F F') (oF : ∀ a, a ≠ p → F' a = F a) (sub : Same F' (upd H p o)) (fz : ∀ u, F' p = some u → Fz u) : Ws G H0 n0 fr σ (upd H p o) F' io := by
  obtain ⟨f1, f2, f3⟩ := w.wr.fresh hp
  have ho : ∀ a u, H a = some u → (upd H p o) a = some u := fun a u e => by rw [upd_ne (ne_of_none e hp)]; exact e
  refine ⟨⟨sub, w.wr.len, fun n c e => ?_, w.wr.inj, fun a u e k => ho a u (w.wr.keep a u e k), w.wr.new, fun a u e => ?_, w.wr.nle, fun a u x e1 e2 => ?_⟩, w.sl.len, fun i s e => ?_, w.sl.dis⟩
  · obtain ⟨a, e1, e2, e3⟩ := w.wr.cel n c e
    have na : a ≠ p := fun z => f2 n (z ▸ e1)
    refine ⟨a, e1, by rw [oF a na]; exact e2, ?_⟩
    cases c with
    | dict kvs => obtain ⟨us, h1, h2⟩ := e3; exact ⟨us, ho _ _ h1, h2.mono sF (Pre.refl _)⟩
    | inst c fs => obtain ⟨dx, us, h1, h2⟩ := e3; exact ⟨dx, us, ho _ _ h1, h2.mono sF (Pre.refl _)⟩
  · by_cases h : a = p
    · subst h; exact fz u e
    · rw [oF a h] at e; exact w.wr.frz a u e
  · have h : a ≠ p := fun z => by rw [z, f3] at e1; cases e1
    rw [oF a h] at e2; exact w.wr.old a u x e1 e2
  · refine SlOk.mono sF (Pre.refl _) (fun xs q h => ?_) (w.sl.at_ i s e)
    have nq := h.ne hp
    obtain ⟨vs, h1, h2, h3, h4, h5⟩ := h
    exact ⟨vs, ho _ _ h1, by rw [oF q nq]; exact h2, h3, h4, h5.mono sF (Pre.refl _)⟩
theorem Ws.newFrz (w : Ws G H0 n0 fr σ H F io) {p : Addr} (hp : H p = none) (o : HO) (fo : Fz o) : Same F (upd F p o) ∧ Ws G H0 n0 fr σ (upd H p o) (upd F p o) io := by
  obtain ⟨f1, f2, f3⟩ := w.wr.fresh hp
  have s : Same F (upd F p o) := fun a u e => by rw [upd_ne (ne_of_none e f1)]; exact e
  refine ⟨s, w.grow hp o s (fun a ha => upd_ne ha) (fun a u e => ?_) fun u e => by rw [upd_same] at e; cases e; exact fo⟩
  by_cases h : a = p
  · subst h; rw [upd_same] at e ⊢; exact e
  · rw [upd_ne h] at e ⊢; exact w.wr.sub a u e
theorem Ws.newOwn (w : Ws G H0 n0 fr σ H F io) {p : Addr} (hp : H p = none) {xs : List D} {vs : List V} (r : Reps G F io xs vs) :
    Ws G H0 n0 fr σ (upd H p (.lst vs)) F io ∧ RvOk G H0 (upd H p (.lst vs)) F io fr.env σ (.out (.fresh xs)) (.ref p) := by
  obtain ⟨f1, f2, f3⟩ := w.wr.fresh hp
  refine ⟨w.grow hp _ (Same.refl _) (fun _ _ => rfl) (fun a u e => ?_) (fun u e => by rw [f1] at e; cases e), p, rfl, ⟨vs, upd_same, f1, f2, f3, r⟩, fun i ys e z => ?_⟩
  · rw [upd_ne (ne_of_none (w.wr.sub a u e) hp)]; exact w.wr.sub a u e
  · obtain ⟨q, e1, hq⟩ := w.sl.at_ i _ e
    rw [z] at e1; cases e1
    exact hq.ne hp rfl
theorem Ws.newTup (w : Ws G H0 n0 fr σ H F io) {p : Addr} (hp : H p = none) {xs : List D} {vs : List V} (r : Reps G F io xs vs) :
    ∃ F', Same F F' ∧ Ws G H0 n0 fr σ (upd H p (.tup vs)) F' io ∧ Rep G F' io (.tup xs) (.ref p) := by
  obtain ⟨s, w'⟩ := w.newFrz hp (.tup vs) trivial
  exact ⟨_, s, w', .tup (SqT.of upd_same) (r.mono s (Pre.refl _))⟩
end

section
variable {E : En} {e a b c : Expr} {ta tb tc : Tm} {fr : Fr} {σ tp : St} {H F : Hp} {io : List Addr} {Q : VK} {pos : Pos}
/-- what is wanted of an answer o -/
def wOut (E : En) (σ t : St) (F : Hp) (io : List Addr) (fr : Fr) (Q : VK) (o : Out) : Prop := okE E σ t F io Q (.out o) fr
theorem okE.int (w : E.ws fr (σ ++ tp) H F io) {i : Int} (h : okE E σ tp F io Q (.out (.val (.int i))) fr) : Q (.int i) H := h _ H F io (Same.refl _) (Pre.refl _) w (.int i)
theorem okE.bl (w : E.ws fr (σ ++ tp) H F io) {i : Bool} (h : okE E σ tp F io Q (.out (.val (.bl i))) fr) : Q (.bl i) H := h _ H F io (Same.refl _) (Pre.refl _) w (.bl i)
theorem okE.str (w : E.ws fr (σ ++ tp) H F io) {i : Str} (h : okE E σ tp F io Q (.out (.val (.str i))) fr) : Q (.str i) H := h _ H F io (Same.refl _) (Pre.refl _) w (.str i)
theorem okE.non (w : E.ws fr (σ ++ tp) H F io) (h : okE E σ tp F io Q (.out (.val .non)) fr) : Q .non H := h _ H F io (Same.refl _) (Pre.refl _) w .non
theorem okE.mono {F' : Hp} {io' : List Addr} (s : Same F F') (p : Pre io io') {r : RV} (h : okE E σ tp F io Q r fr) : okE E σ tp F' io' Q r fr :=
  fun v H' F2 io2 s2 p2 w x => h v H' F2 io2 (s.trans s2) (p.trans p2) w x
theorem okE.fresh (w : E.ws fr (σ ++ tp) H F io) {xs : List D} {vs : List V} (r : Reps E.G F io xs vs) (h : okE E σ tp F io Q (.out (.fresh xs)) fr) {p : Addr} (hp : H p = none) : Q (.ref p) (upd H p (.lst vs)) := by
  obtain ⟨w', rv⟩ := w.newOwn hp r
  exact h _ _ F io (Same.refl _) (Pre.refl _) w' rv
theorem okE.tup (w : E.ws fr (σ ++ tp) H F io) {xs : List D} {vs : List V} (r : Reps E.G F io xs vs) (h : okE E σ tp F io Q (.out (.val (.tup xs))) fr) {p : Addr} (hp : H p = none) : Q (.ref p) (upd H p (.tup vs)) := by
  obtain ⟨F', s, w', rv⟩ := w.newTup hp r
  exact h _ _ F' io s (Pre.refl _) w' rv

def opM : Op2 → Operator
  | .add => .Add | .sub => .Sub | .mul => .Mult | .fdiv => .FloorDiv | .mod => .Mod | .pow => .Pow
def cmM : Cm → CmpOp
  | .eq => .Eq | .ne => .NotEq | .lt => .Lt | .le => .LtE | .gt => .Gt | .ge => .GtE | .is_ => .Is | .isn => .IsNot | .in_ => .In | .nin => .NotIn

theorem mulOk_ok {i j : Int} (h : mulOk i j = true) : CMulW i j := by unfold mulOk at h; exact (of_decide_eq_true h : _ < _)
theorem divOk_ok {j : Int} (i : Int) (h : divOk j = true) : CDivW i j := by
  unfold divOk at h
  rw [Bool.and_eq_true] at h
  exact ⟨of_decide_eq_true h.1, of_decide_eq_true h.2⟩
theorem powOk_ok {i j : Int} (h : powOk i j = true) : CPow i j := by
  unfold powOk at h
  rw [Bool.and_eq_true, Bool.and_eq_true] at h
  exact ⟨of_decide_eq_true h.1.1, of_decide_eq_true h.1.2, of_decide_eq_true h.2⟩

/-- the operators by values -/
theorem opD_ok (ok : E.Ok) {op : Op2} {x y : D} {o : Out} {v u : V} (w : E.ws fr (σ ++ tp) H F io) (hx : Lk E.G F io H x v) (hy : Lk E.G F io H y u) (e : opD op x y = some o) (h : okE E σ tp F io Q (.out o) fr) :
    wOp E.X (binaryOp (opM op)) v u H Q := by
  unfold opD at e
  split at e
  · cases e; rw [hx.int, hy.int]; exact wOp_of op_add ⟨_, _, rfl, rfl, h.int w⟩
  · cases e; rw [hx.int, hy.int]; exact wOp_of op_sub ⟨_, _, rfl, rfl, h.int w⟩
  · split at e <;> cases e
    rename_i hm
    rw [hx.int, hy.int]; exact wOp_of op_mulW ⟨_, _, rfl, rfl, mulOk_ok hm, h.int w⟩
  · split at e <;> cases e
    rename_i hm
    rw [hx.int, hy.int]; exact wOp_of op_fdivW ⟨_, _, rfl, rfl, divOk_ok _ hm, h.int w⟩
  · split at e <;> cases e
    rename_i hm
    rw [hx.int, hy.int]; exact wOp_of op_mod ⟨_, _, rfl, rfl, hm, h.int w⟩
  · split at e <;> cases e
    rename_i hm
    rw [hx.int, hy.int]; exact wOp_of op_pow ⟨_, _, rfl, rfl, powOk_ok hm, h.int w⟩
  · split at e <;> cases e
    rename_i hm
    rw [hx.str, hy.str]; exact wOp_of op_add_str ⟨_, _, rfl, rfl, hm, h.str w⟩
  · split at e <;> cases e
    rename_i hm
    obtain ⟨p, vs, rfl, h1, r1⟩ := hx.lst w.wr.sub
    obtain ⟨q, us, rfl, h2, r2⟩ := hy.lst w.wr.sub
    refine wOp_of op_cat ⟨_, _, _, _, rfl, rfl, h1, h2, by rw [← r1.length, ← r2.length]; exact hm, fun l hl => h.fresh w (r1.append r2) hl⟩
  · split at e <;> cases e
    rename_i hm
    obtain ⟨p, vs, rfl, h1, g1, r1⟩ := hx.tup w.wr.sub
    obtain ⟨q, us, rfl, h2, g2, r2⟩ := hy.tup w.wr.sub
    rw [ok.k] at h1 h2
    refine wOp_of op_catA ⟨_, _, _, _, rfl, rfl, h1, h2, by rw [← r1.length, ← r2.length]; exact hm, fun z => ?_, fun _ z => ?_, fun _ _ l hl => h.tup w (r1.append r2) hl⟩
    · subst z; cases r1
      exact h _ H F io (Same.refl _) (Pre.refl _) w (.tup g2 r2)
    · subst z; cases r2
      exact h _ H F io (Same.refl _) (Pre.refl _) w (by rw [List.append_nil]; exact .tup g1 r1)
  · cases e

theorem Lk.isNon {d : D} {v : V} (h : Lk E.G F io H d v) : decide (v = .non) = isNon d := by
  rcases h with h | ⟨xs, p, vs, rfl, rfl, _⟩
  · cases h <;> rfl
  · rfl
theorem flat_v {d : D} {v : V} (h : Lk E.G F io H d v) (f : flatD d = true) : flatV v = true := by
  rcases h with h | ⟨xs, p, vs, rfl, rfl, _⟩
  · cases h <;> first | rfl | cases f
  · cases f
theorem flat_eq {d d' : D} {v v' : V} (h : Lk E.G F io H d v) (f : flatD d = true) (h' : Lk E.G F io H d' v') (f' : flatD d' = true) : eqV v v' = eqF d d' := by
  rcases h with h | ⟨xs, p, vs, rfl, rfl, _⟩
  · rcases h' with h' | ⟨xs, p, vs, rfl, rfl, _⟩
    · cases h <;> cases h' <;> first | rfl | cases f | cases f'
    · cases f'
  · cases f
theorem flats_v : ∀ {ds : List D} {vs : List V}, Reps E.G F io ds vs → ds.all flatD = true → vs.all flatV = true
  | _, _, .nil, _ => rfl
  | _, _, .cons h r, f => by
    rw [List.all_cons, Bool.and_eq_true] at f ⊢
    exact ⟨flat_v (H := fun _ => none) (.inl h) f.1, flats_v r f.2⟩
theorem flats_in {d : D} {v : V} (h : Lk E.G F io H d v) (f : flatD d = true) : ∀ {ds : List D} {vs : List V}, Reps E.G F io ds vs → ds.all flatD = true → inV v vs = inF d ds
  | _, _, .nil, _ => rfl
  | _, _, .cons (d := x) (v := y) (ds := ds) (vs := vs) hx r, f' => by
    rw [List.all_cons, Bool.and_eq_true] at f'
    have e1 := flat_eq (E := E) (H := H) (.inl hx) f'.1 h f
    have e2 := flats_in h f r f'.2
    unfold inV inF at e2 ⊢
    rw [List.any_cons, List.any_cons, e1, e2]

theorem eqD_ok (ok : E.Ok) {x y : D} {k : Bool} {v u : V} (w : E.ws fr (σ ++ tp) H F io) (hx : Lk E.G F io H x v) (hy : Lk E.G F io H y u) (e : eqP x y = some k) :
    ∃ d e, Dp E.X.K H v d ∧ Dp E.X.K H u e ∧ SeqAt.shaped d = true ∧ SeqAt.shaped e = true ∧ PyData.eqv d e = k := by
  unfold eqP at e
  cases q1 : toPy x with
  | none => simp [q1] at e
  | some a =>
    cases q2 : toPy y with
    | none => simp [q1, q2] at e
    | some b =>
      simp [q1, q2] at e
      exact ⟨a, b, hx.dp ok.k w.wr.sub q1, hy.dp ok.k w.wr.sub q2, e.1.1, e.1.2, e.2⟩
theorem scal_ok {x y : D} {k : Bool} {v u : V} (hx : Lk E.G F io H x v) (hy : Lk E.G F io H y u) (e : scalD x y = some k) : scal v u = true ∧ decide (v = u) = k := by
  have fx : flatD x = true := by unfold scalD at e; split at e <;> first | rfl | cases e
  have fy : flatD y = true := by unfold scalD at e; split at e <;> first | rfl | cases e
  rcases hx with hx | ⟨_, _, _, rfl, _⟩
  · rcases hy with hy | ⟨_, _, _, rfl, _⟩
    · cases hx <;> cases hy <;> first | (cases e <;> exact ⟨rfl, by simp⟩) | cases fx | cases fy
    · cases fy
  · cases fx
theorem eq_ok (ok : E.Ok) {x y : D} {k : Bool} {v u : V} (w : E.ws fr (σ ++ tp) H F io) (hx : Lk E.G F io H x v) (hy : Lk E.G F io H y u) (e : eqD x y = some k) :
    (Q (.bl k) H → wOp E.X (compareOp .Eq) v u H Q) ∧ (Q (.bl (!k)) H → wOp E.X (compareOp .NotEq) v u H Q) := by
  unfold eqD at e
  cases q : scalD x y with
  | some b =>
    rw [q] at e; cases e
    obtain ⟨h1, h2⟩ := scal_ok hx hy q
    exact ⟨fun h => wOp_of op_eq ⟨h1, by rw [h2]; exact h⟩, fun h => wOp_of op_ne ⟨h1, by rw [h2]; exact h⟩⟩
  | none =>
    rw [q] at e
    obtain ⟨d, d', h1, h2, h3, h4, h5⟩ := eqD_ok ok w hx hy e
    exact ⟨fun h => wOp_of (op_eqD ok.hu) ⟨d, d', h1, h2, h3, h4, h5 ▸ h⟩, fun h => wOp_of (op_neD ok.hu) ⟨d, d', h1, h2, h3, h4, h5 ▸ h⟩⟩
theorem cmpD_ok (ok : E.Ok) {op : Cm} {x y : D} {k : Bool} {v u : V} (w : E.ws fr (σ ++ tp) H F io) (hx : Lk E.G F io H x v) (hy : Lk E.G F io H y u) (e : cmpD op x y = some k) (h : Q (.bl k) H) :
    wOp E.X (compareOp (cmM op)) v u H Q := by
  unfold cmpD at e
  split at e
  · exact (eq_ok ok w hx hy e).1 h
  · cases q : eqD x y with
    | none => rw [q] at e; cases e
    | some b =>
      rw [q] at e
      have e' : (!b) = k := Option.some.inj e
      exact (eq_ok ok w hx hy q).2 (by rw [e']; exact h)
  · cases e; rw [hx.int, hy.int]; exact wOp_of op_lt ⟨_, _, rfl, rfl, h⟩
  · cases e; rw [hx.int, hy.int]; exact wOp_of op_le ⟨_, _, rfl, rfl, h⟩
  · cases e; rw [hx.int, hy.int]; exact wOp_of op_gt ⟨_, _, rfl, rfl, h⟩
  · cases e; rw [hx.int, hy.int]; exact wOp_of op_ge ⟨_, _, rfl, rfl, h⟩
  · cases e; rw [hy.non]; exact wOp_of op_isN ⟨rfl, by rw [hx.isNon]; exact h⟩
  · cases e; rw [hy.non]; exact wOp_of op_notN ⟨rfl, by rw [hx.isNon]; exact h⟩
  · cases e; rw [hx.str, hy.str]; exact wOp_of op_in_str ⟨_, _, rfl, rfl, h⟩
  · cases e; rw [hx.str, hy.str]; exact wOp_of op_notin_str ⟨_, _, rfl, rfl, h⟩
  · split at e <;> cases e
    rename_i f
    rw [Bool.and_eq_true] at f
    obtain ⟨p, vs, rfl, h1, g1, r1⟩ := hy.tup w.wr.sub
    rw [ok.k] at h1
    exact wOp_of op_in_seq ⟨_, _, rfl, .inr h1, flat_v hx f.1, flats_v r1 f.2, by rw [flats_in hx f.1 r1 f.2]; exact h⟩
  · split at e <;> cases e
    rename_i f
    rw [Bool.and_eq_true] at f
    obtain ⟨p, vs, rfl, h1, g1, r1⟩ := hy.tup w.wr.sub
    rw [ok.k] at h1
    exact wOp_of op_notIn_seq ⟨_, _, rfl, .inr h1, flat_v hx f.1, flats_v r1 f.2, by rw [flats_in hx f.1 r1 f.2]; exact h⟩
  · split at e <;> cases e
    rename_i f
    rw [Bool.and_eq_true] at f
    obtain ⟨p, vs, rfl, h1, r1⟩ := hy.lst w.wr.sub
    exact wOp_of op_in_seq ⟨_, _, rfl, .inl (SqL.of h1), flat_v hx f.1, flats_v r1 f.2, by rw [flats_in hx f.1 r1 f.2]; exact h⟩
  · split at e <;> cases e
    rename_i f
    rw [Bool.and_eq_true] at f
    obtain ⟨p, vs, rfl, h1, r1⟩ := hy.lst w.wr.sub
    exact wOp_of op_notIn_seq ⟨_, _, rfl, .inl (SqL.of h1), flat_v hx f.1, flats_v r1 f.2, by rw [flats_in hx f.1 r1 f.2]; exact h⟩
  · cases e

/-! ### operators -/
theorem two_held (ha : SE E a ta) (hb : SE E b tb) (hl : σ.length = E.X.N.length) (w : E.ws fr (σ ++ tp) H F io) {α : Type} {k : D → D → Fr → Rs α} {P : α → Fr → Prop}
    (h : ((ev E.T ta fr).bind fun x fr1 => (ev E.T tb fr1).bind fun y fr2 => match look fr2.env (hold x), look fr2.env (hold y) with | some d, some e => k d e fr2 | _, _ => .bad).all P (exE E σ tp F io))
    {R : R2} (q : ∀ d e fr2 v u H2 F2 io2, Same F F2 → Pre io io2 → E.ws fr2 (σ ++ tp) H2 F2 io2 → Lk E.G F2 io2 H2 d v → Lk E.G F2 io2 H2 e u → (k d e fr2).all P (exE E σ tp F2 io2) → R v u H2 Q) :
    tOp R (wE E.X a) (wE E.X b) σ H Q := by
  refine ha.held hl w h fun r fr1 v H1 F1 io1 s1 p1 w1 hk1 h1 => ?_
  refine hb.held hl w1 h1 fun r2 fr2 u H2 F2 io2 s2 p2 w2 hk2 h2 => ?_
  cases e1 : look fr2.env (hold r) with
  | none => simp [e1] at h2; exact h2.elim
  | some d =>
    cases e2 : look fr2.env (hold r2) with
    | none => simp [e1, e2] at h2; exact h2.elim
    | some d2 =>
      simp only [e1, e2] at h2
      exact q d d2 fr2 v u H2 F2 io2 (s1.trans s2) (p1.trans p2) w2 (w2.look (hk1.mono s2 p2) e1) (w2.look hk2 e2) h2
theorem SE_bin (ok : E.Ok) (ha : SE E a ta) (hb : SE E b tb) {op : Op2} : SE E (.BinOp a (opM op) b pos) (.bin op ta tb) := by
  intro fr σ tp H F io Q hl w h
  refine wE_of (pe_op op_w pe_w pe_w) ?_
  unfold ev at h
  refine two_held ha hb hl w h fun d e fr2 v u H2 F2 io2 s p w2 l1 l2 z => ?_
  cases q : opD op d e with
  | none => simp [q] at z; exact z.elim
  | some o =>
    simp only [q] at z
    exact opD_ok ok w2 l1 l2 q (okE.mono s p z)
end
end Ag
namespace Ag
open PySem L2

def wW (X : Cx) (e : Expr) : TT := fun σ H Q => ∀ (whole : Sem Value) (pins : List (Addr × Obj)) (s : Shared), Inv X pins σ H s → wpAny (model X.prog X.w) X.A (isTrue e X.env whole) (TP X pins σ Q) X.xe s
theorem pw_w {X : Cx} {e : Expr} : PW X e (wW X e) := ⟨fun whole pins s σ H Q I h => h whole pins s I⟩
theorem wW_of {X : Cx} {e : Expr} {t : TT} {σ : St} {H : Hp} {Q : Bool → Hp → Prop} (h : PW X e t) (q : t σ H Q) : wW X e σ H Q := fun whole pins s I => h.run whole pins s σ H Q I q
section
variable (E : En)
def SW (e : Expr) (t : Tm) : Prop := ∀ (fr : Fr) (σ tp : St) (H F : Hp) (io : List Addr) (Q : Bool → Hp → Prop), σ.length = E.X.N.length → E.ws fr (σ ++ tp) H F io →
  (ev E.T t fr).all (fun r fr => ∃ b, look fr.env r = some (.bl b) ∧ ∀ H' F' io', Same F F' → Pre io io' → E.ws fr (σ ++ tp) H' F' io' → Q b H') (exE E σ tp F io) → wW E.X e σ H Q
end

section
variable {E : En} {e a b c : Expr} {ta tb tc : Tm} {fr : Fr} {σ tp : St} {H F : Hp} {io : List Addr} {Q : VK} {pos : Pos}
theorem toD_bl {r : RV} {fr fr' : Fr} {b : Bool} (h : toD fr r = some (.bl b, fr')) : fr' = fr ∧ look fr.env r = some (.bl b) := by
  cases r with
  | out o =>
    cases o with
    | val d => cases h; exact ⟨rfl, rfl⟩
    | fresh xs => cases h
  | var i =>
    unfold toD at h
    unfold look
    cases q : fr.env[i]? with
    | none => simp [q] at h
    | some s =>
      cases s with
      | un => simp [q] at h
      | val d => simp [q] at h ⊢; exact ⟨h.2.symm, h.1⟩
      | own xs => simp [q] at h
theorem all_asB {α : Type} {m : Rs RV} {k : Bool → Fr → Rs α} {P : α → Fr → Prop} {PX : Nat → List D → Fr → Prop} (h : (m.fr fun d fr1 => asB d fr1 k).all P PX) :
    m.all (fun r fr => ∃ b, look fr.env r = some (.bl b) ∧ (k b fr).all P PX) PX := by
  refine Rs.all_imp (Rs.all_fr h) (fun r fr z => ?_) fun _ _ _ z => z
  obtain ⟨d, fr', e, z⟩ := z
  cases d with
  | bl b =>
    obtain ⟨rfl, e2⟩ := toD_bl e
    exact ⟨b, e2, z⟩
  | _ => exact z.elim
/-- a test, then by its answer -/
theorem ST.test {α : Type} (hc : ST E c tc) (hl : σ.length = E.X.N.length) (w : E.ws fr (σ ++ tp) H F io) {k : Bool → Fr → Rs α} {P : α → Fr → Prop}
    (h : ((ev E.T tc fr).fr fun d fr1 => asB d fr1 k).all P (exE E σ tp F io)) {R : Bool → Hp → Prop}
    (q : ∀ t fr1 H1 F1 io1, Same F F1 → Pre io io1 → E.ws fr1 (σ ++ tp) H1 F1 io1 → (k t fr1).all P (exE E σ tp F1 io1) → R t H1) : wT E.X c σ H R := by
  refine hc fr σ tp H F io R hl w (Rs.all_imp (all_asB h) (fun r fr1 z => ?_) fun _ _ _ x => x)
  obtain ⟨t, e1, z⟩ := z
  exact ⟨t, e1, fun H1 F1 io1 s p w1 => q t fr1 H1 F1 io1 s p w1 (Rs.all_imp z (fun _ _ y => y) fun _ _ _ y => y.mono s p)⟩
theorem SE.tested {α : Type} (hc : SE E c tc) (hl : σ.length = E.X.N.length) (w : E.ws fr (σ ++ tp) H F io) {k : Bool → Fr → Rs α} {P : α → Fr → Prop}
    (h : ((ev E.T tc fr).fr fun d fr1 => asB d fr1 k).all P (exE E σ tp F io)) {R : VK}
    (q : ∀ t fr1 H1 F1 io1, Same F F1 → Pre io io1 → E.ws fr1 (σ ++ tp) H1 F1 io1 → (k t fr1).all P (exE E σ tp F1 io1) → R (.bl t) H1) : wE E.X c σ H R := by
  refine hc fr σ tp H F io R hl w (Rs.all_imp (all_asB h) (fun r fr1 z => ?_) fun _ _ _ x => x)
  obtain ⟨t, e1, z⟩ := z
  intro v H1 F1 io1 s p w1 rv
  have hv : v = .bl t := by
    obtain ⟨F2, s2, hk, w2⟩ := w1.hold rv
    have e2 : look fr1.env (hold r) = some (.bl t) := by
      cases r with
      | out o =>
        cases o with
        | val d => exact e1
        | fresh xs => cases e1
      | var i => exact e1
    exact (w2.look hk e2).bl
  rw [hv]
  exact q t fr1 H1 F1 io1 s p w1 (Rs.all_imp z (fun _ _ y => y) fun _ _ _ y => y.mono s p)

theorem SE_neg (ha : SE E a ta) : SE E (.UnaryOp .USub a pos) (.neg ta) := by
  intro fr σ tp H F io Q hl w h
  refine wE_of (pe_un un_neg pe_w) ?_
  unfold ev at h
  refine ha.part hl w h fun d fr1 v H1 F1 io1 s p w1 r z => ?_
  cases d with
  | int i => cases r; exact ⟨i, rfl, okE.int w1 (okE.mono s p z)⟩
  | _ => exact z.elim
theorem SE_not (ha : SE E a ta) : SE E (.UnaryOp .Not a pos) (.not_ ta) := by
  intro fr σ tp H F io Q hl w h
  refine wE_of (pe_not pe_w) ?_
  unfold ev at h
  refine ha.tested hl w h fun t fr1 H1 F1 io1 s p w1 z => ⟨t, rfl, okE.bl w1 (okE.mono s p z)⟩
theorem SE_one {op : BoolOp} (ha : SE E a ta) : SE E (.BoolOp op [a] pos) ta := fun fr σ tp H F io Q hl w h => wE_of (pe_one pe_w) (ha fr σ tp H F io Q hl w h)
theorem SE_and {rest : List Expr} (ha : SE E a ta) (hb : SE E (.BoolOp .And (b :: rest) pos) tb) : SE E (.BoolOp .And (a :: b :: rest) pos) (.and_ ta tb) := by
  intro fr σ tp H F io Q hl w h
  refine wE_of (pe_and pe_w pe_w) ?_
  unfold ev at h
  refine ha.tested hl w h fun t fr1 H1 F1 io1 s p w1 z => ⟨t, rfl, ?_⟩
  cases t with
  | true => exact hb fr1 σ tp H1 F1 io1 Q hl w1 (Rs.all_imp z (fun _ _ y => okE.mono s p y) fun _ _ _ y => y)
  | false => exact okE.bl w1 (okE.mono s p z)
theorem SE_or {rest : List Expr} (ha : SE E a ta) (hb : SE E (.BoolOp .Or (b :: rest) pos) tb) : SE E (.BoolOp .Or (a :: b :: rest) pos) (.or_ ta tb) := by
  intro fr σ tp H F io Q hl w h
  refine wE_of (pe_or pe_w pe_w) ?_
  unfold ev at h
  refine ha.tested hl w h fun t fr1 H1 F1 io1 s p w1 z => ⟨t, rfl, ?_⟩
  cases t with
  | true => exact okE.bl w1 (okE.mono s p z)
  | false => exact hb fr1 σ tp H1 F1 io1 Q hl w1 (Rs.all_imp z (fun _ _ y => okE.mono s p y) fun _ _ _ y => y)
theorem SE_ite (hc : ST E c tc) (ha : SE E a ta) (hb : SE E b tb) : SE E (.IfExp c a b pos) (.ite tc ta tb) := by
  intro fr σ tp H F io Q hl w h
  refine wE_of (pe_ifExp pt_w pe_w pe_w) ?_
  unfold ev at h
  refine hc.test hl w h fun t fr1 H1 F1 io1 s p w1 z => ?_
  cases t with
  | true => exact ha fr1 σ tp H1 F1 io1 Q hl w1 (Rs.all_imp z (fun _ _ y => okE.mono s p y) fun _ _ _ y => y)
  | false => exact hb fr1 σ tp H1 F1 io1 Q hl w1 (Rs.all_imp z (fun _ _ y => okE.mono s p y) fun _ _ _ y => y)

theorem cmp_read (ok : E.Ok) (ha : SE E a ta) (hb : SE E b tb) {op : Cm} (hl : σ.length = E.X.N.length) (w : E.ws fr (σ ++ tp) H F io) {P : RV → Fr → Prop} {R : VK}
    (h : (ev E.T (.cmp op ta tb) fr).all P (exE E σ tp F io)) (q : ∀ k fr2 H2 F2 io2, Same F F2 → Pre io io2 → E.ws fr2 (σ ++ tp) H2 F2 io2 → P (.out (.val (.bl k))) fr2 → R (.bl k) H2) :
    tOp (wOp E.X (compareOp (cmM op))) (wE E.X a) (wE E.X b) σ H R := by
  unfold ev at h
  refine two_held ha hb hl w h fun d e fr2 v u H2 F2 io2 s p w2 l1 l2 z => ?_
  cases e1 : cmpD op d e with
  | none => simp [e1] at z; exact z.elim
  | some k =>
    simp only [e1] at z
    exact cmpD_ok ok w2 l1 l2 e1 (q k fr2 H2 F2 io2 s p w2 z)
theorem nomarks (op : Cm) (b : Expr) (h : behindInMarks (cmM op) b = false) : behindInMarks (cmM op) b = false := h
theorem SE_cmp (ok : E.Ok) (ha : SE E a ta) (hb : SE E b tb) {op : Cm} (hm : behindInMarks (cmM op) b = false) : SE E (.Compare a [cmM op] [b] pos) (.cmp op ta tb) := by
  intro fr σ tp H F io Q hl w h
  refine wE_of (pe_cmpR op_w pe_w pe_w hm) ?_
  exact cmp_read ok ha hb hl w h fun k fr2 H2 F2 io2 s p w2 z => okE.bl w2 (okE.mono s p z)
theorem ST_cmp (ok : E.Ok) (ha : SE E a ta) (hb : SE E b tb) {op : Cm} (hm : behindInMarks (cmM op) b = false) : ST E (.Compare a [cmM op] [b] pos) (.cmp op ta tb) := by
  intro fr σ tp H F io Q hl w h
  refine wT_of (pt_cmpR op_w pe_w pe_w hm) ?_
  refine cmp_read ok ha hb hl w h fun k fr2 H2 F2 io2 s p w2 z => ?_
  obtain ⟨b, e1, z⟩ := z
  cases e1
  exact ⟨_, rfl, z H2 F2 io2 s p w2⟩
theorem ST_of {t : Tm} (he : SE E e t) (hp : ∀ whole, isTrue e E.X.env whole = (do let v ← whole; standAt e.pos; holding [v] (truthy v))) : ST E e t := by
  intro fr σ tp H F io Q hl w h
  refine wT_of (pt_val pe_w hp) ?_
  have h' : ((ev E.T t fr).fr fun d fr1 => asB d fr1 fun b fr2 => .ok b fr2).all (fun b fr2 => ∀ H' F' io', Same F F' → Pre io io' → E.ws fr2 (σ ++ tp) H' F' io' → Q b H') (exE E σ tp F io) := by
    cases q : ev E.T t fr with
    | ok r fr1 =>
      rw [q] at h
      obtain ⟨b, e1, z⟩ := h
      have e2 : toD fr1 r = some (.bl b, fr1) := by
        cases r with
        | out o =>
          cases o with
          | val d => cases e1; rfl
          | fresh xs => cases e1
        | var i =>
          unfold look at e1
          unfold toD
          cases q2 : fr1.env[i]? with
          | none => simp [q2] at e1
          | some s =>
            cases s with
            | un => simp [q2] at e1
            | val d => simp [q2] at e1 ⊢; exact e1
            | own xs => simp [q2] at e1
      show (match toD fr1 r with | some (d, fr') => asB d fr' fun b fr2 => Rs.ok b fr2 | none => .bad).all _ _
      rw [e2]
      exact z
    | exc c fs fr1 => rw [q] at h; exact h
    | bad => rw [q] at h; exact h.elim
  exact he.tested hl w h' fun k fr1 H1 F1 io1 s p w1 z => ⟨k, rfl, z H1 F1 io1 s p w1⟩
theorem ST_not (ha : ST E a ta) : ST E (.UnaryOp .Not a pos) (.not_ ta) := by
  intro fr σ tp H F io Q hl w h
  refine wT_of (pt_not pt_w) ?_
  unfold ev at h
  refine ha.test hl w h fun t fr1 H1 F1 io1 s p w1 z => ?_
  obtain ⟨b, e1, z⟩ := z
  cases e1
  exact z H1 F1 io1 s p w1
theorem SW.st {t : Tm} (h : SW E e t) : ST E e t := fun fr σ tp H F io Q hl w q => wT_of (PW.pt pw_w) (h fr σ tp H F io Q hl w q)
theorem SW_and1 (ha : ST E a ta) : SW E (.BoolOp .And [a] pos) ta := fun fr σ tp H F io Q hl w h => wW_of (pw_and1 pt_w) (ha fr σ tp H F io Q hl w h)
theorem SW_or1 (ha : ST E a ta) : SW E (.BoolOp .Or [a] pos) ta := fun fr σ tp H F io Q hl w h => wW_of (pw_or1 pt_w) (ha fr σ tp H F io Q hl w h)
theorem SW_and {rest : List Expr} (ha : ST E a ta) (hb : SW E (.BoolOp .And (b :: rest) pos) tb) : SW E (.BoolOp .And (a :: b :: rest) pos) (.and_ ta tb) := by
  intro fr σ tp H F io Q hl w h
  refine wW_of (pw_and pt_w pw_w) ?_
  unfold ev at h
  refine ha.test hl w h fun t fr1 H1 F1 io1 s p w1 z => ?_
  cases t with
  | true => exact hb fr1 σ tp H1 F1 io1 Q hl w1 (Rs.all_imp z (fun _ _ ⟨b, e, y⟩ => ⟨b, e, fun H2 F2 io2 s2 p2 => y H2 F2 io2 (s.trans s2) (p.trans p2)⟩) fun _ _ _ y => y)
  | false =>
    obtain ⟨b, e1, z⟩ := z
    cases e1
    exact z H1 F1 io1 s p w1
theorem SW_or {rest : List Expr} (ha : ST E a ta) (hb : SW E (.BoolOp .Or (b :: rest) pos) tb) : SW E (.BoolOp .Or (a :: b :: rest) pos) (.or_ ta tb) := by
  intro fr σ tp H F io Q hl w h
  refine wW_of (pw_or pt_w pw_w) ?_
  unfold ev at h
  refine ha.test hl w h fun t fr1 H1 F1 io1 s p w1 z => ?_
  cases t with
  | true =>
    obtain ⟨b, e1, z⟩ := z
    cases e1
    exact z H1 F1 io1 s p w1
  | false => exact hb fr1 σ tp H1 F1 io1 Q hl w1 (Rs.all_imp z (fun _ _ ⟨b, e, y⟩ => ⟨b, e, fun H2 F2 io2 s2 p2 => y H2 F2 io2 (s.trans s2) (p.trans p2)⟩) fun _ _ _ y => y)

/-! ### chains -/
theorem chain_read (ok : E.Ok) (ha : SE E a ta) (hb : SE E b tb) (hc : SE E c tc) {op op' : Cm} (hl : σ.length = E.X.N.length) (w : E.ws fr (σ ++ tp) H F io) {P : RV → Fr → Prop} {R : VK}
    (h : (ev E.T (.chain op op' ta tb tc) fr).all P (exE E σ tp F io)) (q : ∀ k fr2 H2 F2 io2, Same F F2 → Pre io io2 → E.ws fr2 (σ ++ tp) H2 F2 io2 → P (.out (.val (.bl k))) fr2 → R (.bl k) H2) :
    tChain (wOp E.X (compareOp (cmM op))) (wOp E.X (compareOp (cmM op'))) (wE E.X a) (wE E.X b) (wE E.X c) σ H R := by
  unfold ev at h
  refine ha.part hl w h fun d fr1 v H1 F1 io1 s1 p1 w1 r1 h1 => ?_
  refine hb.part hl w1 h1 fun e fr2 u H2 F2 io2 s2 p2 w2 r2 h2 => ?_
  have l1 : Lk E.G F2 io2 H2 d v := .inl (r1.mono s2 p2)
  cases e1 : cmpD op d e with
  | none => simp [e1] at h2; exact h2.elim
  | some k =>
    refine cmpD_ok ok w2 l1 (.inl r2) e1 ⟨k, rfl, ?_⟩
    cases k with
    | false =>
      simp only [e1] at h2
      exact q false fr2 H2 F2 io2 (s1.trans s2) (p1.trans p2) w2 h2
    | true =>
      simp only [e1] at h2
      refine hc.part hl w2 h2 fun f fr3 x H3 F3 io3 s3 p3 w3 r3 h3 => ?_
      cases e2 : cmpD op' e f with
      | none => simp [e2] at h3; exact h3.elim
      | some k =>
        simp only [e2] at h3
        exact cmpD_ok ok w3 (.inl (r2.mono s3 p3)) (.inl r3) e2 (q k fr3 H3 F3 io3 ((s1.trans s2).trans s3) ((p1.trans p2).trans p3) w3 h3)
end
end Ag
namespace Ag
open PySem L2
section
variable {E : En} {e a b c : Expr} {ta tb tc : Tm} {fr : Fr} {σ tp : St} {H F : Hp} {io : List Addr} {Q : VK} {pos : Pos}
theorem SE_chain (ok : E.Ok) (ha : SE E a ta) (hb : SE E b tb) (hc : SE E c tc) {op op' : Cm} (hm : lastMarks [cmM op, cmM op'] [b, c] = false) : SE E (.Compare a [cmM op, cmM op'] [b, c] pos) (.chain op op' ta tb tc) := by
  intro fr σ tp H F io Q hl w h
  refine wE_of (pe_chain op_w op_w pe_w pe_w pe_w hm) ?_
  exact chain_read ok ha hb hc hl w h fun k fr2 H2 F2 io2 s p w2 z => okE.bl w2 (okE.mono s p z)
theorem ST_chain (ok : E.Ok) (ha : SE E a ta) (hb : SE E b tb) (hc : SE E c tc) {op op' : Cm} (hm : lastMarks [cmM op, cmM op'] [b, c] = false) : ST E (.Compare a [cmM op, cmM op'] [b, c] pos) (.chain op op' ta tb tc) := by
  intro fr σ tp H F io Q hl w h
  refine wT_of (pt_chain op_w op_w pe_w pe_w pe_w hm) ?_
  refine chain_read ok ha hb hc hl w h fun k fr2 H2 F2 io2 s p w2 z => ?_
  obtain ⟨b, e1, z⟩ := z
  cases e1
  exact ⟨_, rfl, z H2 F2 io2 s p w2⟩
theorem isTrue_IfExp {M : Model} {A : Around} {X : Value → Shared → Prop} {P : Bool → Shared → Prop} {s : Shared} {env : Env} {whole : Sem Value} (h : wpAny M A (isTrue c env (eval c env)) (fun k s1 => wpAny M A (if k = true then isTrue a env (eval a env) else isTrue b env (eval b env)) P X s1) X s) :
    wpAny M A (isTrue (.IfExp c a b pos) env whole) P X s := by
  show wpAny M A (isTrue c env (eval c env) >>= fun k => if k = true then isTrue a env (eval a env) else isTrue b env (eval b env)) P X s
  exact wpAny_bind h
theorem ST_ite (hc : ST E c tc) (ha : ST E a ta) (hb : ST E b tb) : ST E (.IfExp c a b pos) (.ite tc ta tb) := by
  intro fr σ tp H F io Q hl w h pins s I
  unfold ev at h
  refine isTrue_IfExp ?_
  have hw : wT E.X c σ H (fun t H1 => if t = true then wT E.X a σ H1 Q else wT E.X b σ H1 Q) := by
    refine hc.test hl w h fun t fr1 H1 F1 io1 s p w1 z => ?_
    cases t with
    | true => exact ha fr1 σ tp H1 F1 io1 Q hl w1 (Rs.all_imp z (fun _ _ ⟨b, e, y⟩ => ⟨b, e, fun H2 F2 io2 s2 p2 => y H2 F2 io2 (s.trans s2) (p.trans p2)⟩) fun _ _ _ y => y)
    | false => exact hb fr1 σ tp H1 F1 io1 Q hl w1 (Rs.all_imp z (fun _ _ ⟨b, e, y⟩ => ⟨b, e, fun H2 F2 io2 s2 p2 => y H2 F2 io2 (s.trans s2) (p.trans p2)⟩) fun _ _ _ y => y)
  refine thn (hw pins s I) fun t s1 ⟨H1, I1, q⟩ => ?_
  cases t with
  | true => rw [if_pos rfl] at q ⊢; exact q pins s1 I1
  | false => rw [if_neg Bool.false_ne_true] at q ⊢; exact q pins s1 I1
end
end Ag
namespace Ag
open PySem L2

def notStar : Expr → Bool
  | .Starred .. => false
  | _ => true
theorem star_ne {e : Expr} (h : notStar e = true) (es : List Expr) (env : Env) : starEach (e :: es) env = (false, eval e env) :: starEach es env := by
  cases e <;> first | rfl | cases h
def allNot (es : List Expr) : Bool := es.all notStar
theorem plain_of {es : List Expr} (h : allNot es = true) (pos : Pos) (env : Env) : (backTo pos (starEach es env)).any (·.1) = false := by
  induction es with
  | nil => rfl
  | cons e es ih =>
    unfold allNot at h ih
    rw [List.all_cons, Bool.and_eq_true] at h
    rw [star_ne h.1]
    show (false || (backTo pos (starEach es env)).any (·.1)) = false
    rw [ih h.2]; rfl
def notSuper : Expr → Bool
  | .Call (.Name _ _) [] [] _ => false
  | _ => true
theorem base_of {o : Expr} (h : notSuper o = true) (attr : Str) (env : Env) (whole : Sem Value) : attributeBase o attr env whole = whole := by
  unfold attributeBase
  split
  · cases h
  · rfl

section
variable {E : En} {e a b c : Expr} {ta tb tc : Tm} {fr : Fr} {σ tp : St} {H F : Hp} {io : List Addr} {Q : VK} {pos : Pos} {es : List Expr} {ts : List Tm}
theorem SA_nil : SA E [] [] := fun fr σ tp H F io Q hl w h => wA_of pa_nil (h [] H F io (Same.refl _) (Pre.refl _) w .nil)
theorem SA_cons (hs : notStar e = true) (ha : SE E e ta) (hr : SA E es ts) : SA E (e :: es) (ta :: ts) := by
  intro fr σ tp H F io Q hl w h
  refine wA_of (pa_cons pe_w pa_w (star_ne hs _ _)) ?_
  unfold evs at h
  refine ha.part hl w h fun d fr1 v H1 F1 io1 s p w1 r z => ?_
  refine hr fr1 σ tp H1 F1 io1 _ hl w1 (Rs.all_imp (Rs.all_bind z) (fun ds fr2 z2 => ?_) fun _ _ _ x => x)
  intro vs H2 F2 io2 s2 p2 w2 rs
  exact z2 (v :: vs) H2 F2 io2 (s.trans s2) (p.trans p2) w2 (.cons (r.mono s2 p2) rs)
theorem SP_nil : SP' E [] [] := fun fr σ tp H F io Q hl w h => wA_of pa_nil (h [] H F io (Same.refl _) (Pre.refl _) w .nil)
theorem SP_cons (hs : notStar e = true) (ha : SE E e ta) (hr : SP' E es ts) : SP' E (e :: es) (ta :: ts) := by
  intro fr σ tp H F io Q hl w h
  refine wA_of (pa_cons pe_w pa_w (star_ne hs _ _)) ?_
  unfold evp at h
  refine ha.held hl w h fun r fr1 v H1 F1 io1 s p w1 hk z => ?_
  refine hr fr1 σ tp H1 F1 io1 _ hl w1 (Rs.all_imp (Rs.all_bind z) (fun ds fr2 z2 => ?_) fun _ _ _ x => x)
  intro vs H2 F2 io2 s2 p2 w2 rs
  exact z2 (v :: vs) H2 F2 io2 (s.trans s2) (p.trans p2) w2 (.cons (hk.mono s2 p2) rs)

/-! ### displays -/
theorem SE_tup {k : Nat} (ha : SA E es ts) : SE E (.Tuple es k pos) (.tup ts) := by
  intro fr σ tp H F io Q hl w h
  refine wE_of (pe_tup pa_w) ?_
  unfold ev at h
  refine ha fr σ tp H F io _ hl w (Rs.all_imp (Rs.all_bind h) (fun ds fr1 z => ?_) fun _ _ _ x => x)
  intro vs H1 F1 io1 s p w1 r
  split at z
  · rename_i hz
    exact ⟨by rw [← r.length]; exact hz, fun l hl => okE.tup w1 r (okE.mono s p z) hl⟩
  · exact z.elim
theorem SE_lst (ha : SA E es ts) : SE E (.List es pos) (.lst ts) := by
  intro fr σ tp H F io Q hl w h
  refine wE_of (pe_lst pa_w) ?_
  unfold ev at h
  refine ha fr σ tp H F io _ hl w (Rs.all_imp (Rs.all_bind h) (fun ds fr1 z => ?_) fun _ _ _ x => x)
  intro vs H1 F1 io1 s p w1 r
  split at z
  · rename_i hz
    exact ⟨by rw [← r.length]; exact hz, fun l hl => okE.fresh w1 r (okE.mono s p z) hl⟩
  · exact z.elim

/-! ### built-ins -/
def biName : Bi → Str
  | .len => "len" | .min2 => "min" | .max2 => "max" | .int_ => "int" | .str_ => "str" | .tuple_ => "tuple" | .list_ => "list"
  | .min1 => "min" | .max1 => "max" | .min1d => "min" | .max1d => "max" | .all_ => "all"
def biVal : Bi → Value
  | .len => .builtin "len" | .min2 => .builtin "min" | .max2 => .builtin "max" | .int_ => .type "int" | .str_ => .type "str" | .tuple_ => .type "tuple" | .list_ => .type "list"
  | .min1 => .builtin "min" | .max1 => .builtin "max" | .min1d => .builtin "min" | .max1d => .builtin "max" | .all_ => .builtin "all"
def wCall (X : Cx) (f : Value) : List V → Hp → VK → Prop := fun vs H Q => ∀ (pins : List (Addr × Obj)) (σ : St) (s : Shared) (us : List Value), Inv X pins σ H s → Vals vs us → wpAny (model X.prog X.w) X.A (call f us) (EP X pins σ Q) X.xe s
theorem call_w {X : Cx} {f : Value} : CallR X f (wCall X f) := fun pins s σ H vs us Q I r h => h pins σ s us I r
theorem wCall_of {X : Cx} {f : Value} {r : List V → Hp → VK → Prop} {vs : List V} {H : Hp} {Q : VK} (h : CallR X f r) (q : r vs H Q) : wCall X f vs H Q := fun pins σ s us I rv => h pins s σ H vs us Q I rv q
/-- a built-in function by values -/
def BiOk (E : En) (b : Bi) : Prop := ∀ (fr : Fr) (σ tp : St) (H F : Hp) (io : List Addr) (Q : VK) (ds : List D) (vs : List V) (o : Out), E.ws fr (σ ++ tp) H F io → Paired (Lk E.G F io H) ds vs → biD b ds = some o → okE E σ tp F io Q (.out o) fr → wCall E.X (biVal b) vs H Q
theorem looks_ok {H0 : Ent} {n0 : Nat} {ρ : St} (w : Ws E.G H0 n0 fr ρ H F io) : ∀ {rs : List RV} {vs : List V} {ds : List D}, Paired (Hk E.G F io ρ) rs vs → looks fr.env rs = some ds → Paired (Lk E.G F io H) ds vs
  | _, _, _, .nil, e => by cases e; exact .nil
  | r :: rs, _, _, .cons h t, e => by
    unfold looks at e
    cases q1 : look fr.env r with
    | none => simp [q1] at e
    | some d =>
      cases q2 : looks fr.env rs with
      | none => simp [q1, q2] at e
      | some ds =>
        simp [q1, q2] at e; subst e
        exact .cons (w.look h q1) (looks_ok w t q2)
theorem bi_read {b : Bi} (hb : BiOk E b) (ha : SP' E es ts) (hl : σ.length = E.X.N.length) (w : E.ws fr (σ ++ tp) H F io) (h : (ev E.T (.bi b ts) fr).all (okE E σ tp F io Q) (exE E σ tp F io)) : tCB (wCall E.X (biVal b)) (wA E.X es) σ H Q := by
  unfold ev at h
  refine ha fr σ tp H F io _ hl w (Rs.all_imp (Rs.all_bind h) (fun rs fr1 z => ?_) fun _ _ _ x => x)
  intro vs H1 F1 io1 s p w1 r
  cases e1 : looks fr1.env rs with
  | none => simp [e1] at z; exact z.elim
  | some ds =>
    simp only [e1] at z
    cases e2 : biD b ds with
    | none => simp [e2] at z; exact z.elim
    | some o =>
      simp only [e2] at z
      exact hb fr1 σ tp H1 F1 io1 Q ds vs o w1 (looks_ok w1 r e1) e2 (okE.mono s p z)
theorem SE_bi {b : Bi} {p : Pos} {x : Str} (hx : x = biName b) (hb : BiOk E b) (hg : Gl E.X x) (hm : E.X.mg x = none) (hn : notStar e = true) (hs : allNot es = true) (ha : SP' E (e :: es) ts) : SE E (.Call (.Name x p) (e :: es) [] pos) (.bi b ts) := by
  intro fr σ tp H F io Q hl w h
  subst hx
  have q := bi_read hb ha hl w h
  cases b
  · exact wE_of (pe_callB call_w hg hm PySem.boot_len pa_w (by decide +kernel) (by decide +kernel) (star_ne hn _ _) (plain_of hs _ _)) q
  · exact wE_of (pe_callB call_w hg hm (by decide +kernel) pa_w (by decide +kernel) (by decide +kernel) (star_ne hn _ _) (plain_of hs _ _)) q
  · exact wE_of (pe_callB call_w hg hm (by decide +kernel) pa_w (by decide +kernel) (by decide +kernel) (star_ne hn _ _) (plain_of hs _ _)) q
  · exact wE_of (pe_callTy call_w hg hm (by decide +kernel) pa_w (by decide +kernel) (by decide +kernel) (star_ne hn _ _) (plain_of hs _ _)) q
  · exact wE_of (pe_callTy call_w hg hm (by decide +kernel) pa_w (by decide +kernel) (by decide +kernel) (star_ne hn _ _) (plain_of hs _ _)) q
  · exact wE_of (pe_callTy call_w hg hm (by decide +kernel) pa_w (by decide +kernel) (by decide +kernel) (star_ne hn _ _) (plain_of hs _ _)) q
  · exact wE_of (pe_callTy call_w hg hm (by decide +kernel) pa_w (by decide +kernel) (by decide +kernel) (star_ne hn _ _) (plain_of hs _ _)) q
  all_goals exact wE_of (pe_callB call_w hg hm (by decide +kernel) pa_w (by decide +kernel) (by decide +kernel) (star_ne hn _ _) (plain_of hs _ _)) q

theorem lk1 {R : D → V → Prop} {d : D} {vs : List V} (h : Paired R [d] vs) : ∃ v, vs = [v] ∧ R d v := by
  cases h with | cons a t => cases t; exact ⟨_, rfl, a⟩
theorem lk2 {R : D → V → Prop} {d e : D} {vs : List V} (h : Paired R [d, e] vs) : ∃ v u, vs = [v, u] ∧ R d v ∧ R e u := by
  cases h with | cons a t => cases t with | cons b t => cases t; exact ⟨_, _, rfl, a, b⟩
theorem bi_len (ok : E.Ok) : BiOk E .len := by
  intro fr σ tp H F io Q ds vs o w r e h
  have e : biLen ds = some o := e
  unfold biLen at e
  split at e
  · cases e
    obtain ⟨v, rfl, l⟩ := lk1 r
    obtain ⟨p, vs, rfl, h1, r1⟩ := l.lst w.wr.sub
    exact wCall_of call_len_seq ⟨p, vs, rfl, .inl (SqL.of h1), by rw [← r1.length]; exact h.int w⟩
  · cases e
    obtain ⟨v, rfl, l⟩ := lk1 r
    obtain ⟨p, vs, rfl, h1, _, r1⟩ := l.tup w.wr.sub
    rw [ok.k] at h1
    exact wCall_of call_len_seq ⟨p, vs, rfl, .inr h1, by rw [← r1.length]; exact h.int w⟩
  · cases e
    obtain ⟨v, rfl, l⟩ := lk1 r
    obtain ⟨p, vs, rfl, h1, r1⟩ := l.rol w.wr.sub
    rw [ok.k] at h1
    exact wCall_of call_len_seq ⟨p, vs, rfl, .inl h1, by rw [← r1.length]; exact h.int w⟩
  · split at e <;> cases e
    rename_i hz
    obtain ⟨v, rfl, l⟩ := lk1 r
    rw [l.str]
    exact wCall_of call_len_str ⟨_, rfl, hz, h.int w⟩
  · cases e
theorem bi_min2 (ok : E.Ok) : BiOk E .min2 := by
  intro fr σ tp H F io Q ds vs o w r e h
  have e : biMin2 ds = some o := e
  unfold biMin2 at e
  split at e
  · cases e
    obtain ⟨v, u, rfl, l1, l2⟩ := lk2 r
    rw [l1.int, l2.int]
    exact wCall_of (call_min2 ok.calm) ⟨_, _, rfl, h.int w⟩
  · cases e
theorem bi_max2 (ok : E.Ok) : BiOk E .max2 := by
  intro fr σ tp H F io Q ds vs o w r e h
  have e : biMax2 ds = some o := e
  unfold biMax2 at e
  split at e
  · cases e
    obtain ⟨v, u, rfl, l1, l2⟩ := lk2 r
    rw [l1.int, l2.int]
    exact wCall_of (call_max2 ok.calm) ⟨_, _, rfl, h.int w⟩
  · cases e
theorem bi_int (ok : E.Ok) : BiOk E .int_ := by
  intro fr σ tp H F io Q ds vs o w r e h
  have e : biInt ds = some o := e
  unfold biInt at e
  split at e
  · cases e
    obtain ⟨v, rfl, l1⟩ := lk1 r
    rw [l1.int]
    exact wCall_of call_int1 (.inl ⟨_, rfl, h.int w⟩)
  · cases e
theorem bi_list (ok : E.Ok) : BiOk E .list_ := by
  intro fr σ tp H F io Q ds vs o w r e h
  have e : biList ds = some o := e
  unfold biList at e
  split at e
  · cases e
    obtain ⟨v, rfl, l⟩ := lk1 r
    obtain ⟨p, vs, rfl, h1, r1⟩ := l.lst w.wr.sub
    exact wCall_of call_list_of ⟨p, vs, rfl, .inl (SqL.of h1), fun l hl => h.fresh w r1 hl⟩
  · cases e
    obtain ⟨v, rfl, l⟩ := lk1 r
    obtain ⟨p, vs, rfl, h1, _, r1⟩ := l.tup w.wr.sub
    rw [ok.k] at h1
    exact wCall_of call_list_of ⟨p, vs, rfl, .inr h1, fun l hl => h.fresh w r1 hl⟩
  · cases e
theorem bi_tuple (ok : E.Ok) : BiOk E .tuple_ := by
  intro fr σ tp H F io Q ds vs o w r e h
  have e : biTuple ds = some o := e
  unfold biTuple at e
  split at e
  · cases e
    obtain ⟨v, rfl, l⟩ := lk1 r
    obtain ⟨p, vs, rfl, h1, r1⟩ := l.lst w.wr.sub
    exact wCall_of call_tuple_of ⟨p, vs, rfl, .inl ⟨SqL.of h1, fun l hl => h.tup w r1 hl⟩⟩
  · cases e
    obtain ⟨v, rfl, l⟩ := lk1 r
    obtain ⟨p, vs, rfl, h1, g1, r1⟩ := l.tup w.wr.sub
    rw [ok.k] at h1
    exact wCall_of call_tuple_of ⟨p, vs, rfl, .inr ⟨h1, h _ H F io (Same.refl _) (Pre.refl _) w (.tup g1 r1)⟩⟩
  · cases e

/-! ### attributes, items -/
theorem RepF.look {f : Nat} {d : D} (inj : ∀ f g, E.G.fn f = E.G.fn g → f = g) : ∀ {fs : List (Nat × D)} {vs : List (Str × V)}, RepF E.G F io fs vs → fget fs f = some d → ∃ v, vs.lookup (E.G.fn f) = some v ∧ Rep E.G F io d v
  | _, _, .nil, e => by cases e
  | _, _, .cons (f := g) (d := x) (v := v) (ds := ds) (vs := vs) h r, e => by
    unfold fget at e
    rw [List.lookup_cons] at e
    rw [List.lookup_cons]
    by_cases q : f = g
    · subst q
      simp at e ⊢; subst e
      exact h
    · have q2 : (f == g) = false := by simpa using q
      have q3 : (E.G.fn f == E.G.fn g) = false := by
        simpa using fun z => q (inj _ _ z)
      rw [q2] at e
      rw [q3]
      exact RepF.look inj r e
theorem RepF.none {f : Nat} (inj : ∀ f g, E.G.fn f = E.G.fn g → f = g) : ∀ {fs : List (Nat × D)} {vs : List (Str × V)}, RepF E.G F io fs vs → fget fs f = none → vs.lookup (E.G.fn f) = none
  | _, _, .nil, e => rfl
  | _, _, .cons (f := g) (d := x) (v := v) (ds := ds) (vs := vs) h r, e => by
    unfold fget at e
    rw [List.lookup_cons] at e
    rw [List.lookup_cons]
    by_cases q : f = g
    · subst q
      simp at e
    · have q2 : (f == g) = false := by simpa using q
      have q3 : (E.G.fn f == E.G.fn g) = false := by
        simpa using fun z => q (inj _ _ z)
      rw [q2] at e
      rw [q3]
      exact RepF.none inj r e
theorem ins_at {d : D} {v : V} {c : Nat} {fs : List (Nat × D)} (w : E.ws fr (σ ++ tp) H F io) (r : Rep E.G F io d v) (e : insD fr.sto d = some (c, fs)) : ∃ a dx vs, v = .ref a ∧ H a = some (.ins (E.G.cl c) dx vs) ∧ RepF E.G F io fs vs := by
  cases r with
  | obj h r => cases e; exact ⟨_, _, _, rfl, w.wr.sub _ _ h, r⟩
  | cell h =>
    rename_i n a
    unfold insD at e
    cases q : fr.sto[n]? with
    | none => simp [q] at e
    | some x =>
      cases x with
      | dict kvs => simp [q] at e
      | inst c' fs' =>
        simp [q] at e
        obtain ⟨rfl, rfl⟩ := e
        obtain ⟨a', e1, e2, dx, vs, h1, h2⟩ := w.wr.cel n _ q
        rw [h] at e1; cases e1
        exact ⟨_, dx, vs, rfl, h1, h2⟩
  | _ => cases e
theorem SE_attr (ok : E.Ok) {o : Expr} {to : Tm} {f : Nat} {x : Str} (hx : E.G.fn f = x) (hs : notSuper o = true) (ho : SE E o to) : SE E (.Attribute o x pos) (.attr to f) := by
  intro fr σ tp H F io Q hl w h
  subst hx
  refine wE_of (pe_fld pe_w (base_of hs _ _ _)) ?_
  unfold ev at h
  refine ho.part hl w h fun d fr1 v H1 F1 io1 s p w1 r z => ?_
  cases e1 : insD fr1.sto d with
  | none => simp [e1] at z; exact z.elim
  | some q =>
    obtain ⟨c, fs⟩ := q
    simp only [e1] at z
    split at z
    · rename_i hf
      obtain ⟨a, dx, vs, rfl, h1, rf⟩ := ins_at w1 r e1
      cases e2 : fget fs f with
      | none => simp [e2] at z; exact z.elim
      | some y =>
        simp only [e2] at z
        obtain ⟨u, l, ru⟩ := rf.look ok.inj e2
        obtain ⟨c1, c2⟩ := ok.fld c f hf
        exact ⟨a, _, dx, vs, u, rfl, h1, c1, c2, l, z u H1 F1 io1 s p w1 ru⟩
    · exact z.elim
end
end Ag
namespace Ag
open PySem PySem.Spec L2

section
variable {E : En} {e a b c : Expr} {ta tb tc : Tm} {fr : Fr} {σ tp : St} {H F : Hp} {io : List Addr} {Q : VK} {pos : Pos} {es : List Expr} {ts : List Tm}
/-! ### items -/
def notSlice : Expr → Bool
  | .Slice .. => false
  | _ => true
theorem plain_ix {i : Expr} (h : notSlice i = true) (v u : Value) : subscripted i false v u = operate [v, u] (getItem v u) := by
  cases i <;> first | rfl | cases h
def wIx (X : Cx) : R2 := fun x y H Q => ∀ (value slice : Expr) (pins : List (Addr × Obj)) (s : Shared) (σ : St) (v u : Value), Inv X pins σ H s → RelV x v → RelV y u → subscripted slice false v u = operate [v, u] (getItem v u) →
  wpAny (model X.prog X.w) X.A (PyProof.Rows.subscriptTail value slice v u) (EP X pins σ Q) X.xe s
theorem ix_w {X : Cx} : IxR X (wIx X) := fun value slice pins s σ H x y v u Q I r1 r2 h hs => h value slice pins s σ v u I r1 r2 hs
theorem wIx_of {X : Cx} {r : R2} {x y : V} {H : Hp} {Q : VK} (h : IxR X r) (q : r x y H Q) : wIx X x y H Q := fun value slice pins s σ v u I r1 r2 hs => h value slice pins s σ H x y v u Q I r1 r2 q hs
theorem ix_dict {X : Cx} (hu : X.A.units + 1 < cLine) : IxR X (fun x y H Q => ∃ a v, x = .ref a ∧ DGet H a y (some v) ∧ Q v H) := by
  intro value slice pins s σ H x y v u Q I rx ry h hs
  obtain ⟨a, z, rfl, g, q⟩ := h
  obtain rfl : v = Value.ref a := rx
  have hT := dict_typeIs I g
  unfold PyProof.Rows.subscriptTail
  refine wpAny_bind ?_
  rw [getitemInPython_of_ne hT.not_modules]
  refine wpAny_bind (wpAny_specialOf hT PySem.F.slot_dict_getitem.lookup ?_)
  have fin : wpAny (model X.prog X.w) X.A (subscripted slice false (.ref a) u) (fun r s₃ => wpAny (model X.prog X.w) X.A (letTemporaryGo value (.ref a) r >>= fun _ => pure r) (EP X pins σ Q) X.xe s₃) X.xe s := by
    rw [hs]
    exact wpAny_operating (wpAny_mono (d_getItem hu I g ry (Q := EP X pins σ Q) (E := X.xe) fun w' s3 I3 rw' => ⟨z, H, I3, rw', q⟩) (fun r s₃ h₃ => wpAny_bind (wpAny_letTemporaryGo (wpAny_pure h₃))) fun _ _ x => x)
  first
    | exact wpAny_pure (wpAny_bind fin)
    | exact fin
theorem RepK.get {k : Key} {d : D} : ∀ {kvs : List (Key × D)} {vs : List (Key × V)}, RepK E.G F io kvs vs → dget kvs k = some d → ∃ v, valV vs k = some v ∧ Rep E.G F io d v
  | _, _, .nil, e => by cases e
  | _, _, .cons (k := g) (d := x) (v := v) (ds := ds) (vs := vs) h r, e => by
    unfold dget at e
    rw [List.find?_cons] at e
    by_cases q : g = k
    · subst q
      simp at e; subst e
      exact ⟨v, valV_pos rfl, h⟩
    · have q2 : decide (g = k) = false := decide_eq_false q
      simp only [q2] at e
      rw [valV_neg (p := (g, v)) q]
      exact RepK.get r e
theorem RepK.anyk {k : Key} : ∀ {kvs : List (Key × D)} {vs : List (Key × V)}, RepK E.G F io kvs vs → (kvs.any fun kv => decide (kv.1 = k)) = (vs.any fun kv => decide (kv.1 = k))
  | _, _, .nil => rfl
  | _, _, .cons h r => by rw [List.any_cons, List.any_cons, RepK.anyk r]
theorem RepK.mapk {k : Key} {d : D} {v : V} (hd : Rep E.G F io d v) : ∀ {kvs : List (Key × D)} {vs : List (Key × V)}, RepK E.G F io kvs vs → RepK E.G F io (kvs.map fun kv => if kv.1 = k then (kv.1, d) else kv) (vs.map fun kv => if kv.1 = k then (kv.1, v) else kv)
  | _, _, .nil => .nil
  | _, _, .cons (k := g) h r => by
    rw [List.map_cons, List.map_cons]
    by_cases q : g = k
    · simp only [q, if_true]; exact .cons hd (RepK.mapk hd r)
    · simp only [if_neg q]; exact .cons h (RepK.mapk hd r)
theorem RepK.app : ∀ {kvs kvs' : List (Key × D)} {vs vs' : List (Key × V)}, RepK E.G F io kvs vs → RepK E.G F io kvs' vs' → RepK E.G F io (kvs ++ kvs') (vs ++ vs')
  | _, _, _, _, .nil, q => q
  | _, _, _, _, .cons h r, q => .cons h (RepK.app r q)
theorem RepK.put {k : Key} {d : D} {v : V} (hd : Rep E.G F io d v) {kvs : List (Key × D)} {vs : List (Key × V)} (r : RepK E.G F io kvs vs) : RepK E.G F io (kput kvs k d) (putK vs k v) := by
  unfold kput putK
  rw [r.anyk]
  split
  · exact r.mapk hd
  · exact r.app (.cons hd .nil)
theorem key_of {d : D} {v : V} {k : Key} (r : Rep E.G F io d v) (e : keyOf d = some k) : v = kV k := by
  cases r <;> first | (cases e; rfl) | cases e
theorem ixD_ok (ok : E.Ok) {x y d : D} {v u : V} (w : E.ws fr (σ ++ tp) H F io) (hx : Lk E.G F io H x v) (hy : Rep E.G F io y u) (e : ixD fr.sto x y = some d) (h : okE E σ tp F io Q (.out (.val d)) fr) : wIx E.X v u H Q := by
  have atR : ∀ {xs : List D} {vs : List V} {i : Int}, Reps E.G F io xs vs → atI xs i = some d → ∃ z, atI vs i = some z ∧ Rep E.G F io d z := by
    intro xs vs i r e
    unfold atI at e ⊢
    rw [r.length] at e
    cases q : ixN vs.length i with
    | none => rw [q] at e; cases e
    | some j =>
      rw [q] at e
      exact r.get e
  unfold ixD at e
  split at e
  · obtain ⟨p, vs, rfl, h1, r1⟩ := hx.lst w.wr.sub
    cases hy
    obtain ⟨z, e2, rz⟩ := atR r1 e
    exact wIx_of ix_list ⟨p, vs, _, z, rfl, rfl, SqL.of h1, e2, h z H F io (Same.refl _) (Pre.refl _) w rz⟩
  · obtain ⟨p, vs, rfl, h1, _, r1⟩ := hx.tup w.wr.sub
    rw [ok.k] at h1
    cases hy
    obtain ⟨z, e2, rz⟩ := atR r1 e
    exact wIx_of ix_tup ⟨p, vs, _, z, rfl, rfl, h1, e2, h z H F io (Same.refl _) (Pre.refl _) w rz⟩
  · split at e
    · rename_i hz
      rw [hx.str]
      cases hy
      cases q : atI (Str.cps _).toList _ with
      | none => rw [q] at e; cases e
      | some c =>
        rw [q] at e
        cases e
        exact wIx_of ix_str ⟨_, _, c, rfl, rfl, hz, q, h.str w⟩
    · cases e
  · rename_i k n
    have hx' : Rep E.G F io (.cell n) v := by
      rcases hx with hx | ⟨_, _, _, z, _⟩
      · exact hx
      · cases z
    cases hx' with
    | cell hc =>
      rename_i a
      cases q : fr.sto[n]? with
      | none => simp [q] at e
      | some c =>
        cases c with
        | inst c fs => simp [q] at e
        | dict kvs =>
          cases q2 : keyOf y with
          | none => simp [q, q2] at e
          | some kk =>
            simp only [q, q2] at e
            obtain ⟨a', e1, _, vs, h1, h2⟩ := w.wr.cel n _ q
            rw [hc] at e1; cases e1
            obtain ⟨z, e3, rz⟩ := h2.get e
            have hk := key_of hy q2
            subst hk
            exact wIx_of (ix_dict (by have := ok.hu; omega)) ⟨a, z, rfl, e3 ▸ DGet.k h1, h z H F io (Same.refl _) (Pre.refl _) w rz⟩
  · cases e
theorem SE_ix (ok : E.Ok) {o i : Expr} {to ti : Tm} (hs : notSlice i = true) (ho : SE E o to) (hi : SE E i ti) : SE E (.Subscript o i pos) (.ix to ti) := by
  intro fr σ tp H F io Q hl w h
  refine wE_of (pe_ix ix_w pe_w pe_w (plain_ix hs)) ?_
  unfold ev at h
  refine ho.held hl w h fun r fr1 v H1 F1 io1 s1 p1 w1 hk h1 => ?_
  refine hi.part hl w1 h1 fun k fr2 u H2 F2 io2 s2 p2 w2 rk h2 => ?_
  cases e1 : look fr2.env (hold r) with
  | none => simp [e1] at h2; exact h2.elim
  | some d =>
    simp only [e1] at h2
    cases e2 : ixD fr2.sto d k with
    | none => simp [e2] at h2; exact h2.elim
    | some y =>
      simp only [e2] at h2
      exact ixD_ok ok w2 (w2.look (hk.mono s2 p2) e1) rk e2 (okE.mono (s1.trans s2) (p1.trans p2) h2)

/-! ### slices -/
def wSl (X : Cx) : V → Option Int → Option Int → Hp → VK → Prop := fun x lo hi H Q => ∀ (pins : List (Addr × Obj)) (s : Shared) (σ : St) (v vl vu : Value) (sl : Addr), Inv X pins σ H s → RelV x v → s.heap.IsSliceOf sl vl vu .none → IsPart vl lo → IsPart vu hi →
    ∃ T id, typeLookup (.type T) "__getitem__" = pure (some (.builtin id)) ∧ s.TypeIs v T ∧ wpAny (model X.prog X.w) X.A (getItem v (.ref sl)) (EP X pins σ Q) X.xe s
theorem sl_w {X : Cx} : SlR X (wSl X) := fun pins s σ H x v vl vu lo hi sl Q I r a b c h => h pins s σ v vl vu sl I r a b c
theorem wSl_of {X : Cx} {r : V → Option Int → Option Int → Hp → VK → Prop} {x : V} {lo hi : Option Int} {H : Hp} {Q : VK} (h : SlR X r) (q : r x lo hi H Q) : wSl X x lo hi H Q := fun pins s σ v vl vu sl I r a b c => h pins s σ H x v vl vu lo hi sl Q I r a b c q
theorem cutL_rep {xs : List D} {vs : List V} (r : Reps E.G F io xs vs) (lo hi : Option Int) : Reps E.G F io (cutL xs lo hi) (cutV vs lo hi) := by
  unfold cutL cutV
  rw [r.length]
  exact (r.drop _).take _
def SO (E : En) (oe : Option Expr) (ot : Option Tm) : Prop := match oe, ot with
  | none, none => True
  | some e, some t => SE E e t
  | _, _ => False
def wO (X : Cx) (oe : Option Expr) : TO := match oe with
  | none => tNoPart
  | some e => tPart (wE X e)
theorem po_w {X : Cx} {oe : Option Expr} : PO X oe (wO X oe) := by
  cases oe with
  | none => exact po_none
  | some e => exact po_some pe_w
theorem SO.read {oe : Option Expr} {ot : Option Tm} (ho : SO E oe ot) (hl : σ.length = E.X.N.length) (w : E.ws fr (σ ++ tp) H F io) {α : Type} {k : Option Int → Fr → Rs α} {P : α → Fr → Prop} (h : ((evo E.T ot fr).bind k).all P (exE E σ tp F io))
    {R : Option Int → Hp → Prop} (q : ∀ o fr1 H1 F1 io1, Same F F1 → Pre io io1 → E.ws fr1 (σ ++ tp) H1 F1 io1 → (k o fr1).all P (exE E σ tp F1 io1) → R o H1) : wO E.X oe σ H R := by
  cases oe with
  | none =>
    cases ot with
    | none => exact q none fr H F io (Same.refl _) (Pre.refl _) w h
    | some t => exact ho.elim
  | some e =>
    cases ot with
    | none => exact ho.elim
    | some t =>
      have h0 := Rs.all_bind h
      unfold evo at h0
      show wE E.X e σ H _
      refine SE.part (show SE E e t from ho) hl w h0 fun d fr1 v H1 F1 io1 s p w1 r z => ?_
      cases d with
      | int i =>
        cases r
        exact ⟨i, rfl, q (some i) fr1 H1 F1 io1 s p w1 (Rs.all_imp z (fun _ _ y => y) fun _ _ _ y => y.mono s p)⟩
      | _ => exact z.elim
theorem SE_slice (ok : E.Ok) {o : Expr} {lo hi : Option Expr} {to : Tm} {tl th : Option Tm} {p2 : Pos} (ho : SE E o to) (hlo : SO E lo tl) (hhi : SO E hi th) : SE E (.Subscript o (.Slice lo hi none p2) pos) (.slice to tl th) := by
  intro fr σ tp H F io Q hl w h
  refine wE_of (pe_slice sl_w pe_w po_w po_w) ?_
  unfold ev at h
  refine ho.held hl w h fun r fr1 v H1 F1 io1 s1 p1 w1 hk h1 => ?_
  refine hlo.read hl w1 h1 fun l fr2 H2 F2 io2 s2 p2 w2 h2 => ?_
  refine hhi.read hl w2 h2 fun u fr3 H3 F3 io3 s3 p3 w3 h3 => ?_
  cases e1 : look fr3.env (hold r) with
  | none => simp [e1] at h3; exact h3.elim
  | some d =>
    simp only [e1] at h3
    have lk := w3.look (hk.mono (s2.trans s3) (p2.trans p3)) e1
    cases d with
    | lst xs =>
      obtain ⟨p, vs, rfl, g1, r1⟩ := lk.lst w3.wr.sub
      exact wSl_of sl_list ⟨p, vs, rfl, SqL.of g1, fun l hl => okE.fresh w3 (cutL_rep r1 _ _) (okE.mono ((s1.trans s2).trans s3) ((p1.trans p2).trans p3) h3) hl⟩
    | rol xs =>
      obtain ⟨p, vs, rfl, g1, r1⟩ := lk.rol w3.wr.sub
      rw [ok.k] at g1
      exact wSl_of sl_list ⟨p, vs, rfl, g1, fun l hl => okE.fresh w3 (cutL_rep r1 _ _) (okE.mono ((s1.trans s2).trans s3) ((p1.trans p2).trans p3) h3) hl⟩
    | tup xs =>
      obtain ⟨p, vs, rfl, g1, g2, r1⟩ := lk.tup w3.wr.sub
      rw [ok.k] at g1
      have h3' : okE E σ tp F3 io3 Q (.out (.val (.tup (cutL xs l u)))) fr3 := okE.mono ((s1.trans s2).trans s3) ((p1.trans p2).trans p3) h3
      refine wSl_of sl_tupA ⟨p, vs, rfl, g1, fun z => ?_, fun _ l hl => okE.tup w3 (cutL_rep r1 _ _) h3' hl⟩
      have e2 : cutL xs l u = xs := by
        unfold cutL
        rw [r1.length, z.1, z.2, ← r1.length]
        simp
      rw [e2] at h3'
      exact h3' _ H3 F3 io3 (Same.refl _) (Pre.refl _) w3 (.tup g2 r1)
    | _ => exact h3.elim
end
end Ag
namespace Ag
open PySem PySem.Spec L2

/-- the callable u does what phi tells -/
def Calls (E : En) (u : Value) (phi : Fn) : Prop := ∀ (fr : Fr) (σ tp : St) (H F : Hp) (io : List Addr) (Q : VK) (ds : List D) (vs : List V) (us : List Value) (pins : List (Addr × Obj)) (s : Shared),
  E.ws fr (σ ++ tp) H F io → Reps E.G F io ds vs → Vals vs us → Inv E.X pins σ H s → (ofFx fr (phi ds fr.sto)).all (okE E σ tp F io Q) (exE E σ tp F io) →
  wpAny (model E.X.prog E.X.w) E.X.A (call u us) (EP E.X pins σ Q) E.X.xe s
def CallOk (E : En) (x : Str) (i : Nat) : Prop := ∃ u, E.X.mg x = some u ∧ PySem.W.keepIn E.X.K u = true ∧ Calls E u (E.T.phi i)
/-- the method m of instances of the class c -/
def MethOk (E : En) (c m i : Nat) : Prop := Cls E.X.K (E.G.cl c) ∧ ∃ g, Meth E.X.K (E.G.cl c) (E.G.fn m) g ∧ Calls E (.ref g) (E.T.phi i)

section
variable {E : En} {e a b c : Expr} {ta tb tc : Tm} {fr : Fr} {σ tp : St} {H F : Hp} {io : List Addr} {Q : VK} {pos : Pos} {es : List Expr} {ts : List Tm}
theorem args_read {i : Nat} {phi : Fn} {u : Value} (hcall : Calls E u phi) (ha : SA E es ts) (hl : σ.length = E.X.N.length) (w : E.ws fr (σ ++ tp) H F io) {d0 : List D} {v0 : List V} (r0 : Reps E.G F io d0 v0)
    (h : ((evs E.T ts fr).bind fun ds fr1 => ofFx fr1 (phi (d0 ++ ds) fr1.sto)).all (okE E σ tp F io Q) (exE E σ tp F io)) :
    wA E.X es σ H fun vs H1 => ∀ pins s us, Inv E.X pins σ H1 s → Vals (v0 ++ vs) us → wpAny (model E.X.prog E.X.w) E.X.A (call u us) (EP E.X pins σ Q) E.X.xe s := by
  refine ha fr σ tp H F io _ hl w (Rs.all_imp (Rs.all_bind h) (fun ds fr1 z => ?_) fun _ _ _ x => x)
  intro vs H1 F1 io1 s p w1 r pins sh us I rv
  exact hcall fr1 σ tp H1 F1 io1 Q (d0 ++ ds) (v0 ++ vs) us pins sh w1 ((r0.mono s p).append r) rv I (Rs.all_imp z (fun _ _ y => okE.mono s p y) fun _ _ _ y => y.mono s p)
theorem SE_call {x : Str} {p : Pos} {i : Nat} (hg : Gl E.X x) (hd : (x == ("__debug__" : Str)) = false) (hc : CallOk E x i) (hn : notStar e = true) (hs : allNot es = true) (ha : SA E (e :: es) ts) : SE E (.Call (.Name x p) (e :: es) [] pos) (.call i ts) := by
  intro fr σ tp H F io Q hl w h
  unfold ev at h
  obtain ⟨u, hm, hk, hcall⟩ := hc
  have hA := args_read (i := i) hcall ha hl w (d0 := []) (v0 := []) .nil h
  intro pins s I
  refine wpAny_Call_Name_kw (ld_glob I hg hm ?_ hd)
  refine PySem.W.callWith_K (h₀ := E.X.base) I.ok.mod.kin hk (thn (hA pos pins s I) fun us s1 ⟨vs, H1, I1, r, q⟩ => ⟨I1.kIn, ?_⟩) (star_ne hn _ _) (plain_of hs _ _)
  exact q pins s1 us I1 r
theorem SE_call0 {x : Str} {p : Pos} {i : Nat} (hg : Gl E.X x) (hd : (x == ("__debug__" : Str)) = false) (hc : CallOk E x i) : SE E (.Call (.Name x p) [] [] pos) (.call i []) := by
  intro fr σ tp H F io Q hl w h
  unfold ev at h
  obtain ⟨u, hm, hk, hcall⟩ := hc
  intro pins s I
  refine wpAny_Call_Name_kw (ld_glob I hg hm ?_ hd)
  exact PySem.W.callWith_K0 I.kIn hk (hcall fr σ tp H F io Q [] [] [] pins s w .nil .nil I (Rs.all_bind h))
theorem meth_read {o : Expr} {to : Tm} {m : Nat} (ok : E.Ok) (hm : ∀ c i, E.T.psi c m = some i → MethOk E c m i) (ho : SE E o to) (hl : σ.length = E.X.N.length) (w : E.ws fr (σ ++ tp) H F io)
    (h : (ev E.T (.meth m to ts) fr).all (okE E σ tp F io Q) (exE E σ tp F io)) :
    wE E.X o σ H fun v H1 => ∃ (a : Addr) (dx : Addr) (fs : List (Str × V)) (c i : Nat) (d : D) (fr1 : Fr) (F1 : Hp) (io1 : List Addr), v = .ref a ∧ H1 a = some (.ins (E.G.cl c) dx fs) ∧ fs.lookup (E.G.fn m) = none ∧ MethOk E c m i ∧
      E.ws fr1 (σ ++ tp) H1 F1 io1 ∧ Rep E.G F1 io1 d v ∧ ((evs E.T ts fr1).bind fun ds fr2 => ofFx fr2 (E.T.phi i ([d] ++ ds) fr2.sto)).all (okE E σ tp F1 io1 Q) (exE E σ tp F1 io1) := by
  unfold ev at h
  refine ho.part hl w h fun d fr1 v H1 F1 io1 s p w1 r z => ?_
  cases e1 : insD fr1.sto d with
  | none => simp [e1] at z; exact z.elim
  | some q =>
    obtain ⟨c, fs⟩ := q
    simp only [e1] at z
    split at z
    · rename_i hf
      cases e2 : E.T.psi c m with
      | none => simp [e2] at z; exact z.elim
      | some i =>
        simp only [e2] at z
        obtain ⟨a, dx, vs, rfl, h1, rf⟩ := ins_at w1 r e1
        exact ⟨a, dx, vs, c, i, d, fr1, F1, io1, rfl, h1, rf.none ok.inj (Option.isNone_iff_eq_none.mp hf), hm c i e2, w1, r, Rs.all_imp z (fun _ _ y => okE.mono s p y) fun _ _ _ y => y⟩
    · exact z.elim
theorem form_of {es : List Expr} (h : allNot es = true) (hn : es.length < 29) (env : Env) : methodCallForm (es.length + ([] : List Keyword).length) (backTo pos (starEach es env)) (backToKw pos (keywordEach [] env)) = true := by
  have h1 : ∀ l : List Expr, allNot l = true → (backTo pos (starEach l env)).all (!·.1) = true := by
    intro l
    induction l with
    | nil => intro _; rfl
    | cons e l ih =>
      intro h
      unfold allNot at h ih
      rw [List.all_cons, Bool.and_eq_true] at h
      rw [star_ne h.1]
      show (true && (backTo pos (starEach l env)).all (!·.1)) = true
      rw [ih h.2]; rfl
  unfold methodCallForm
  rw [h1 es h]
  show (true && true && decide (es.length + 0 + 0 < 30)) = true
  simp
  omega
theorem meth_eval {o : Expr} {m : Str} {apos : Pos} {env : Env} (hso : notSuper o = true) (hs : allNot es = true) (hn : es.length < 29) (hl : (apos.endLine == pos.line) = true) :
    eval (.Call (.Attribute o m apos) es [] pos) env = (do
      let ov ← eval o env
      standAt apos.atName
      let (f, first) ← holding [ov] (getMethod ov m (do return (← importBound o env).getD true))
      callWith pos f first (backTo pos (starEach es env)) (backToKw pos (keywordEach [] env))) := by
  show (do
    let ov ← attributeBase o m env (eval o env)
    standAt apos.atName
    methodCall o m apos pos env ov (es.length + ([] : List Keyword).length) (backTo pos (starEach es env)) (backToKw pos (keywordEach [] env))) = _
  rw [base_of hso]
  unfold methodCall
  rw [form_of hs hn]
  unfold methodCallPos
  rw [hl]
  rfl
theorem SE_meth (ok : E.Ok) {o : Expr} {to : Tm} {m : Nat} {x : Str} {apos : Pos} (hx : E.G.fn m = x) (hm : ∀ c i, E.T.psi c m = some i → MethOk E c m i) (ho : SE E o to) (hso : notSuper o = true)
    (hn : notStar e = true) (hs : allNot es = true) (hz : es.length < 28) (hli : (apos.endLine == pos.line) = true) (ha : SA E (e :: es) ts) : SE E (.Call (.Attribute o x apos) (e :: es) [] pos) (.meth m to ts) := by
  intro fr σ tp H F io Q hl w h
  subst hx
  have hr := meth_read ok hm ho hl w h
  intro pins s I
  refine PySem.W.methodCall_KW (pl := do return (← importBound o E.X.env).getD true) (thn (hr pins s I) fun u s1 ⟨x, H1, I1, rx, a, dx, fs, c, i, d, fr1, F1, io1, ex, ea, l, ⟨cc, g, hg, hcall⟩, w1, rd, q⟩ => ?_) (meth_eval hso (by unfold allNot; rw [List.all_cons, hn]; exact hs) (by simp; omega) hli)
  subst ex
  obtain rfl : u = Value.ref a := rx
  refine getmeth_ok I1 ea cc hg l ?_
  have hA := args_read (i := i) hcall ha hl w1 (d0 := [d]) (v0 := [.ref a]) (.cons rd .nil) q
  refine PySem.W.callWith_K (first := [.ref a]) (h₀ := E.X.base) I.ok.mod.kin hg.kp (thn (hA pos pins s1 I1) fun us s2 ⟨vs, H2, I2, r, q2⟩ => ⟨I2.kIn, ?_⟩) (star_ne hn _ _) (plain_of hs _ _)
  exact q2 pins s2 (.ref a :: us) I2 (.cons rfl r)
theorem SE_meth0 (ok : E.Ok) {o : Expr} {to : Tm} {m : Nat} {x : Str} {apos : Pos} (hx : E.G.fn m = x) (hm : ∀ c i, E.T.psi c m = some i → MethOk E c m i) (ho : SE E o to) (hso : notSuper o = true) (hli : (apos.endLine == pos.line) = true) :
    SE E (.Call (.Attribute o x apos) [] [] pos) (.meth m to []) := by
  intro fr σ tp H F io Q hl w h
  subst hx
  have hr := meth_read ok hm ho hl w h
  intro pins s I
  refine PySem.W.methodCall_KW (pl := do return (← importBound o E.X.env).getD true) (thn (hr pins s I) fun u s1 ⟨x, H1, I1, rx, a, dx, fs, c, i, d, fr1, F1, io1, ex, ea, l, ⟨cc, g, hg, hcall⟩, w1, rd, q⟩ => ?_) (meth_eval hso rfl (by decide) hli)
  subst ex
  obtain rfl : u = Value.ref a := rx
  refine getmeth_ok I1 ea cc hg l ?_
  exact PySem.W.callWith_K0 (first := [.ref a]) I1.kIn hg.kp (hcall fr1 σ tp H1 F1 io1 Q [d] [.ref a] [.ref a] pins s1 w1 (.cons rd .nil) (.cons rfl .nil) I1 (Rs.all_bind q))

/-! ### displays of dicts -/
def En.at (E : En) (h0 : Ent) : En := { E with H0 := h0 }
theorem En.Ok.at (ok : E.Ok) (h0 : Ent) : (E.at h0).Ok := ⟨ok.k, ok.nd, ok.calm, ok.hu, ok.tk, ok.inj, ok.fld⟩
/-- the pairs of a display -/
inductive SK (E : En) : List (Option Expr) → List Expr → List (Key × Tm) → Prop
  | nil : SK E [] [] []
  | str {x : Str} {j : Nat} {p : Pos} {v : Expr} {t : Tm} {ks vs kts} : (∀ h0, SE (E.at h0) v t) → SK E ks vs kts → SK E (some (.Constant (.str x) j p) :: ks) (v :: vs) ((.inr x, t) :: kts)
def kTE (E : En) : List (Option Expr) → List Expr → List (TE × TE)
  | some k :: ks, v :: vs => (wE E.X k, wE E.X v) :: kTE E ks vs
  | _, _ => []
theorem SK.pps {ks : List (Option Expr)} {vs : List Expr} {kts : List (Key × Tm)} (h : SK E ks vs kts) : PPs E.X pos ks vs (kTE E ks vs) := by
  induction h with
  | nil => exact pps_nil
  | str _ _ ih => exact pps_cons pe_w pe_w ih
theorem SK.len {ks : List (Option Expr)} {vs : List Expr} {kts : List (Key × Tm)} (h : SK E ks vs kts) : ks.length = vs.length ∧ ks.length = kts.length ∧ ks.all (·.isSome) = true := by
  induction h with
  | nil => exact ⟨rfl, rfl, rfl⟩
  | str _ _ ih => exact ⟨by simp [ih.1], by simp [ih.2.1], by simpa using ih.2.2⟩
/-- more is known of the entry -/
def Ext (H0 h0 : Ent) : Prop := Same H0.hp h0.hp ∧ H0.fz = h0.fz
theorem Ws.weak {G : Glb} {H0 h0 : Ent} {n0 : Nat} {ρ : St} (s : Ext H0 h0) (w : Ws G h0 n0 fr ρ H F io) : Ws G H0 n0 fr ρ H F io := by
  have nn : ∀ a, h0 a = none → H0 a = none := fun a e => by
    cases q : H0 a with
    | none => rfl
    | some o => rw [s.1 a o q] at e; cases e
  refine ⟨⟨w.wr.sub, w.wr.len, w.wr.cel, w.wr.inj, fun a o e k => w.wr.keep a o (s.1 a o e) k, fun n a h e => nn a (w.wr.new n a h e), w.wr.frz, w.wr.nle, fun a o u e1 e2 => s.2 ▸ w.wr.old a o u (s.1 a o e1) e2⟩, w.sl.len, fun i sl e => ?_, w.sl.dis⟩
  have q := w.sl.at_ i sl e
  cases sl with
  | un => trivial
  | val d => exact q
  | own xs => obtain ⟨p, e1, vs, h1, h2, h3, h4, h5⟩ := q; exact ⟨p, e1, vs, h1, h2, h3, nn p h4, h5⟩
theorem exE.at {h0 : Ent} (s : Ext E.H0 h0) {c : Nat} {fs : List D} {fr : Fr} (h : exE E σ tp F io c fs fr) : exE (E.at h0) σ tp F io c fs fr :=
  fun d H' F' io' s1 p1 w x => h d H' F' io' s1 p1 (Ws.weak s w) x
theorem SE.partX {v : Expr} {t : Tm} {h0 : Ent} (ha : SE (E.at h0) v t) (hs : Ext E.H0 h0) (hl : σ.length = E.X.N.length) (w : (E.at h0).ws fr (σ ++ tp) H F io) {α : Type} {k : D → Fr → Rs α} {P : α → Fr → Prop} (h : ((ev E.T t fr).fr k).all P (exE E σ tp F io))
    (q : ∀ d fr1 v H1 F1 io1, Same F F1 → Pre io io1 → (E.at h0).ws fr1 (σ ++ tp) H1 F1 io1 → Rep E.G F1 io1 d v → (k d fr1).all P (exE E σ tp F1 io1) → Q v H1) : wE E.X v σ H Q := by
  refine ha fr σ tp H F io Q hl w (Rs.all_imp (Rs.all_fr h) (fun r fr1 z => ?_) fun _ _ _ x => x.at hs)
  obtain ⟨d, fr', e1, z⟩ := z
  intro v H' F' io' s p w' rv
  obtain ⟨F2, s2, rp, w2⟩ := w'.toD rv e1
  exact q d fr' v H' F2 io' (s.trans s2) p w2 rp (Rs.all_imp z (fun _ _ y => y) fun _ _ _ y => y.mono (s.trans s2) p)
theorem SK.read {ks : List (Option Expr)} {vs : List Expr} {kts : List (Key × Tm)} (h : SK E ks vs kts) (h0 : Ent) (hs : Ext E.H0 h0) : ∀ {fr : Fr} {H F : Hp} {io : List Addr} {P : List (Key × D) → Fr → Prop} {R : List (V × V) → Hp → Prop}, σ.length = E.X.N.length → (E.at h0).ws fr (σ ++ tp) H F io →
    (evk E.T kts fr).all P (exE E σ tp F io) →
    (∀ kds fr1 kvs H1 F1 io1, Same F F1 → Pre io io1 → (E.at h0).ws fr1 (σ ++ tp) H1 F1 io1 → RepK E.G F1 io1 kds kvs → P kds fr1 → R (kvs.map fun kv => (kV kv.1, kv.2)) H1) → tPairs (kTE E ks vs) σ H R := by
  induction h with
  | nil =>
    intro fr H F io P R hl w h q
    exact q [] fr [] H F io (Same.refl _) (Pre.refl _) w .nil h
  | @str x j p v t ks vs kts hv hr ih =>
    intro fr H F io P R hl w h q
    show wE E.X (.Constant (.str x) j p) σ H fun y H1 => wE E.X v σ H1 fun z H2 => tPairs (kTE E ks vs) σ H2 fun ps H3 => R ((y, z) :: ps) H3
    refine wE_of pe_str ?_
    unfold evk at h
    refine SE.partX (E := E) (hv h0) hs hl w h fun d fr1 u H1 F1 io1 s1 p1 w1 r z => ?_
    refine ih (P := fun kds fr2 => P ((.inr x, d) :: kds) fr2) hl w1 ?_ fun kds fr2 kvs H2 F2 io2 s2 p2 w2 rk z2 => ?_
    · exact Rs.all_bind z
    · exact q ((.inr x, d) :: kds) fr2 ((.inr x, u) :: kvs) H2 F2 io2 (s1.trans s2) (p1.trans p2) w2 (.cons (r.mono s2 p2) rk) z2
end
end Ag
namespace Ag
open PySem PySem.Spec L2
section
variable {E : En} {e a b c : Expr} {ta tb tc : Tm} {fr : Fr} {σ tp : St} {H F : Hp} {io : List Addr} {Q : VK} {pos : Pos} {es : List Expr} {ts : List Tm}
theorem RepK.merge : ∀ {more : List (Key × D)} {vs : List (Key × V)}, RepK E.G F io more vs → ∀ {kvs : List (Key × D)} {us : List (Key × V)}, RepK E.G F io kvs us → RepK E.G F io (kmerge kvs more) (mergeK us vs)
  | _, _, .nil => fun q => q
  | _, _, .cons h r => fun q => RepK.merge r (q.put h)
theorem pre_app {io : List Addr} {p : Addr} : Pre io (io ++ [p]) := fun n a h => by
  rw [List.getElem?_append_left (List.getElem?_eq_some_iff.mp h).1]; exact h
theorem app_at {io : List Addr} {p : Addr} {n : Nat} {a : Addr} (h : (io ++ [p])[n]? = some a) : (n = io.length ∧ a = p) ∨ io[n]? = some a := by
  by_cases q : n < io.length
  · rw [List.getElem?_append_left q] at h; exact .inr h
  · have : n = io.length := by
      have := (List.getElem?_eq_some_iff.mp h).1
      rw [List.length_append] at this
      simp at this; omega
    subst this
    simp at h
    exact .inl ⟨rfl, h.symm⟩
def Ent.add (h : Ent) (p : Addr) (o : HO) : Ent := ⟨upd h.hp p o, h.fz⟩
/-- a pending thing at p (known since h0) becomes a cell -/
theorem Ws.addCell {p : Addr} {o u : HO} {cl : Cell} (w : (E.at (E.H0.add p o)).ws fr (σ ++ tp) H F io) (hp : E.H0 p = none) (np : ∀ n : Nat, n < E.n0 → io[n]? ≠ some p) (fo : ¬ Fz o) (mu : ∀ q, Own E.G (E.H0.add p o) H F io q p → False)
    (hc : CellOk E.G F (io ++ [p]) (upd H p u) p cl) : E.ws { fr with sto := fr.sto ++ [cl] } (σ ++ tp) (upd H p u) F (io ++ [p]) := by
  have hH : H p = some o := w.wr.keep p o upd_same np
  have hF : F p = none := by
    cases q : F p with
    | none => rfl
    | some x =>
      have := w.wr.sub p x q
      rw [hH] at this; cases this
      exact absurd (w.wr.frz p _ q) fo
  have nio : ∀ n : Nat, io[n]? ≠ some p := fun n e => by
    by_cases h : n < E.n0
    · exact np n h e
    · have z : upd E.H0.hp p o p = none := w.wr.new n p (Nat.le_of_not_lt h) e
      rw [upd_same] at z; cases z
  have hne : ∀ a x, H a = some x → a ≠ p → (upd H p u) a = some x := fun a x e n => by rw [upd_ne n]; exact e
  refine ⟨⟨fun a x e => ?_, by simp [w.wr.len], fun n c e => ?_, fun i j a e1 e2 => ?_, fun a x e k => ?_, fun n a hn e => ?_, w.wr.frz, by have := w.wr.nle; show E.n0 ≤ _; rw [List.length_append]; exact Nat.le_trans this (Nat.le_add_right _ _), fun a x y e1 e2 => ?_⟩, w.sl.len, fun i sl e => ?_, w.sl.dis⟩
  · have n : a ≠ p := fun z => by rw [z, hF] at e; cases e
    exact hne a x (w.wr.sub a x e) n
  · by_cases q : n < fr.sto.length
    · rw [List.getElem?_append_left q] at e
      obtain ⟨a, e1, e2, e3⟩ := w.wr.cel n c e
      have na : a ≠ p := fun z => nio n (z ▸ e1)
      refine ⟨a, pre_app _ _ e1, e2, ?_⟩
      cases c with
      | dict kvs => obtain ⟨us, h1, h2⟩ := e3; exact ⟨us, hne _ _ h1 na, h2.mono (Same.refl _) pre_app⟩
      | inst c fs => obtain ⟨dx, us, h1, h2⟩ := e3; exact ⟨dx, us, hne _ _ h1 na, h2.mono (Same.refl _) pre_app⟩
    · have hl := (List.getElem?_eq_some_iff.mp e).1
      rw [List.length_append] at hl
      have hn : n = fr.sto.length := by simp at hl; omega
      subst hn
      simp at e; subst e
      refine ⟨p, ?_, hF, hc⟩
      rw [← w.wr.len]; simp
  · rcases app_at e1 with ⟨g1, g2⟩ | g
    · rcases app_at e2 with ⟨k1, _⟩ | k
      · rw [g1, k1]
      · exact absurd (g2 ▸ k) (nio j)
    · rcases app_at e2 with ⟨k1, k2⟩ | k
      · exact absurd (k2 ▸ g) (nio i)
      · exact w.wr.inj i j a g k
  · have n : a ≠ p := fun z => by rw [z, hp] at e; cases e
    refine hne a x (w.wr.keep a x (by show upd E.H0.hp p o a = some x; rw [upd_ne n]; exact e) fun n hn z => k n hn (pre_app _ _ z)) n
  · rcases app_at e with ⟨rfl, rfl⟩ | e
    · exact hp
    · have z : upd E.H0.hp p o a = none := w.wr.new n a hn e
      have na : a ≠ p := fun z2 => nio n (z2 ▸ e)
      rw [upd_ne na] at z; exact z
  · have n : a ≠ p := fun z => by rw [z, hp] at e1; cases e1
    exact w.wr.old a x y (by show upd E.H0.hp p o a = some x; rw [upd_ne n]; exact e1) e2
  · have q := w.sl.at_ i sl e
    cases sl with
    | un => trivial
    | val d => obtain ⟨v, e1, r⟩ := q; exact ⟨v, e1, r.mono (Same.refl _) pre_app⟩
    | own xs =>
      obtain ⟨q, e1, own⟩ := q
      obtain ⟨vs, h1, h2, h3, h4, h5⟩ := own
      have z : upd E.H0.hp p o q = none := h4
      have nq : q ≠ p := fun z2 => by rw [z2, upd_same] at z; cases z
      rw [upd_ne nq] at z
      refine ⟨q, e1, vs, hne _ _ h1 nq, h2, fun n e => ?_, z, h5.mono (Same.refl _) pre_app⟩
      rcases app_at e with ⟨_, e⟩ | e
      · exact nq e
      · exact h3 n e
/-- a new thing at p, not a cell as yet -/
theorem Ws.pend (w : E.ws fr (σ ++ tp) H F io) {p : Addr} (hp : H p = none) (o : HO) : (E.at (E.H0.add p o)).ws fr (σ ++ tp) (upd H p o) F io ∧ Ext E.H0 (E.H0.add p o) := by
  obtain ⟨f1, f2, f3⟩ := w.wr.fresh hp
  have w' := w.grow hp o (Same.refl F) (fun _ _ => rfl) (fun a u e => by rw [upd_ne (ne_of_none (w.wr.sub a u e) hp)]; exact w.wr.sub a u e) (fun u e => by rw [f1] at e; cases e)
  refine ⟨⟨⟨w'.wr.sub, w'.wr.len, w'.wr.cel, w'.wr.inj, fun a u e k => ?_, fun n a hn e => ?_, w'.wr.frz, w'.wr.nle, fun a u x e1 e2 => ?_⟩, w'.sl.len, fun i sl e => ?_, w'.sl.dis⟩, fun a u e => by show upd E.H0.hp p o a = some u; rw [upd_ne (ne_of_none e f3)]; exact e, rfl⟩
  · have e : upd E.H0.hp p o a = some u := e
    by_cases z : a = p
    · subst z; rw [upd_same] at e ⊢; exact e
    · rw [upd_ne z] at e; exact w'.wr.keep a u e k
  · have na : a ≠ p := fun z => f2 n (z ▸ e)
    show upd E.H0.hp p o a = none
    rw [upd_ne na]; exact w'.wr.new n a hn e
  · have na : a ≠ p := fun z => by rw [z, f1] at e2; cases e2
    have e1 : upd E.H0.hp p o a = some u := e1
    rw [upd_ne na] at e1
    exact w'.wr.old a u x e1 e2
  · have q := w'.sl.at_ i sl e
    cases sl with
    | un => trivial
    | val d => exact q
    | own xs =>
      obtain ⟨q, e1, vs, h1, h2, h3, h4, h5⟩ := q
      refine ⟨q, e1, vs, h1, h2, h3, ?_, h5⟩
      obtain ⟨q', e1', own⟩ := w.sl.at_ i _ e
      rw [e1] at e1'; cases e1'
      show upd E.H0.hp p o q = none
      rw [upd_ne (own.ne hp)]; exact h4
theorem SE_dict {keys : List (Option Expr)} {values : List Expr} {kts : List (Key × Tm)} (h : SK E keys values kts) (h0 : keys ≠ []) (h15 : keys.length ≤ 15) : SE E (.Dict keys values pos) (.dict kts) := by
  intro fr σ tp H F io Q hl w hh
  refine wE_of (pe_disp h.pps h.len.2.2 h.len.1 h0 h15) ?_
  unfold ev at hh
  intro p hp
  obtain ⟨w1, s1⟩ := w.pend hp (.dK [])
  obtain ⟨f1, f2, f3⟩ := w.wr.fresh hp
  refine h.read (E.H0.add p (.dK [])) s1 hl w1 (Rs.all_bind hh) fun kds fr1 kvs H1 F1 io1 s p1 w2 rk z => ?_
  have np : ∀ n : Nat, n < E.n0 → io1[n]? ≠ some p := fun n hn e => by
    have hlt : n < io.length := Nat.lt_of_lt_of_le hn w.wr.nle
    have e2 := p1 n _ (List.getElem?_eq_getElem hlt)
    rw [e] at e2
    exact f2 n ((List.getElem?_eq_getElem hlt).trans e2.symm)
  split at z
  case isFalse => exact z.elim
  rename_i hz
  refine ⟨w2.wr.keep p _ upd_same np, kvs, rfl, ?_, ?_⟩
  · rw [← rk.length]; exact hz
  · have hc : CellOk E.G F1 (io1 ++ [p]) (upd H1 p (.dK (mergeK [] kvs))) p (.dict (kmerge [] kds)) := ⟨_, upd_same, (rk.merge .nil).mono (Same.refl _) pre_app⟩
    have w3 := Ws.addCell w2 f3 np (fun z => z) (fun q own => by
      obtain ⟨vs, _, _, _, h4, _⟩ := own
      have h4 : upd E.H0.hp p (.dK []) p = none := h4
      rw [upd_same] at h4; cases h4) hc
    refine z (.ref p) _ F1 (io1 ++ [p]) s (Pre.trans p1 pre_app) w3 (.cell ?_)
    rw [← w2.wr.len]; simp
end
end Ag
namespace Ag
open PySem PySem.Spec L2

structure SxP where
  next : Fr → Prop
  ret : Out → Fr → Prop
  brk : Fr → Prop
  cont : Fr → Prop
  exc : Nat → List D → Fr → Prop
def Sx.all (r : Sx) (P : SxP) : Prop :=
  match r with
  | .next fr => P.next fr
  | .ret o fr => P.ret o fr
  | .brk fr => P.brk fr
  | .cont fr => P.cont fr
  | .exc c fs fr => P.exc c fs fr
  | .bad => False
theorem Sx.all_imp {r : Sx} {P P' : SxP} (h : r.all P) (h1 : ∀ fr, P.next fr → P'.next fr) (h2 : ∀ o fr, P.ret o fr → P'.ret o fr) (h3 : ∀ fr, P.brk fr → P'.brk fr) (h4 : ∀ fr, P.cont fr → P'.cont fr)
    (h5 : ∀ c fs fr, P.exc c fs fr → P'.exc c fs fr) : r.all P' := by
  cases r with
  | next fr => exact h1 _ h
  | ret o fr => exact h2 _ _ h
  | brk fr => exact h3 _ h
  | cont fr => exact h4 _ h
  | exc c fs fr => exact h5 _ _ _ h
  | bad => exact h
theorem Sx.all_seq {r : Sx} {k : Fr → Sx} {P : SxP} (h : (r.seq k).all P) : r.all { P with next := fun fr => (k fr).all P } := by
  cases r <;> exact h
theorem Rs.all_toS {α : Type} {m : Rs α} {k : α → Fr → Sx} {P : SxP} (h : (m.toS k).all P) : m.all (fun a fr => (k a fr).all P) P.exc := by
  cases m <;> exact h
theorem Rs.all_frS {m : Rs RV} {k : D → Fr → Sx} {P : SxP} (h : (m.frS k).all P) : m.all (fun r fr => ∃ d fr', toD fr r = some (d, fr') ∧ (k d fr').all P) P.exc := by
  refine Rs.all_imp (Rs.all_toS h) (fun r fr q => ?_) fun _ _ _ q => q
  cases e : toD fr r with
  | none => rw [e] at q; exact q.elim
  | some p => rw [e] at q; exact ⟨p.1, p.2, rfl, q⟩

def wS (X : Cx) (st : Stmt) : TS := fun D σ H => ∀ (pins : List (Addr × Obj)) (s : Shared), Inv X pins σ H s → wpAny (model X.prog X.w) X.A (exec st X.env) (SP X pins D) X.xe s
def wSs (X : Cx) (sts : List Stmt) : TS := fun D σ H => ∀ (pins : List (Addr × Obj)) (s : Shared), Inv X pins σ H s → wpAny (model X.prog X.w) X.A (execs sts X.env) (SP X pins D) X.xe s
theorem ps_w {X : Cx} {st : Stmt} : PS X st (wS X st) := ⟨fun pins s σ H D I h => h pins s I⟩
theorem pss_w {X : Cx} {sts : List Stmt} : PSs X sts (wSs X sts) := ⟨fun pins s σ H D I h => h pins s I⟩
theorem wS_of {X : Cx} {st : Stmt} {t : TS} {D : Ends} {σ : St} {H : Hp} (h : PS X st t) (q : t D σ H) : wS X st D σ H := fun pins s I => h.run pins s σ H D I q
theorem wSs_of {X : Cx} {st : List Stmt} {t : TS} {D : Ends} {σ : St} {H : Hp} (h : PSs X st t) (q : t D σ H) : wSs X st D σ H := fun pins s I => h.run pins s σ H D I q

section
variable (E : En)
/-- what is wanted behind a statement: tp the slots behind the def's -/
def okS (tp : St) (F : Hp) (io : List Addr) (D : Ends) : SxP where
  next := fun fr => ∀ σ H' F' io', σ.length = E.X.N.length → Same F F' → Pre io io' → E.ws fr (σ ++ tp) H' F' io' → D.nx σ H'
  brk := fun fr => ∀ σ H' F' io', σ.length = E.X.N.length → Same F F' → Pre io io' → E.ws fr (σ ++ tp) H' F' io' → D.bk σ H'
  cont := fun fr => ∀ σ H' F' io', σ.length = E.X.N.length → Same F F' → Pre io io' → E.ws fr (σ ++ tp) H' F' io' → D.ct σ H'
  ret := fun o fr => ∀ v σ H' F' io', σ.length = E.X.N.length → Same F F' → Pre io io' → E.ws fr (σ ++ tp) H' F' io' → RvOk E.G E.H0 H' F' io' fr.env (σ ++ tp) (.out o) v → D.rt v H'
  exc := fun c fs fr => ∀ d σ H' F' io', σ.length = E.X.N.length → Same F F' → Pre io io' → E.ws fr (σ ++ tp) H' F' io' → ExOk E.G F' io' H' c fs d → E.W (.ref (E.G.cl c)) d σ H'
def SS (st : Stmt) (t : Stm) : Prop := ∀ (fr : Fr) (σ tp : St) (H F : Hp) (io : List Addr) (D : Ends), σ.length = E.X.N.length → E.ws fr (σ ++ tp) H F io → (ex E.T t fr).all (okS E tp F io D) → wS E.X st D σ H
def SSs (sts : List Stmt) (ts : List Stm) : Prop := ∀ (fr : Fr) (σ tp : St) (H F : Hp) (io : List Addr) (D : Ends), σ.length = E.X.N.length → E.ws fr (σ ++ tp) H F io → (exs E.T ts fr).all (okS E tp F io D) → wSs E.X sts D σ H
end
section
variable {E : En} {e a b c : Expr} {ta tb tc : Tm} {fr : Fr} {σ tp : St} {H F : Hp} {io : List Addr} {Q : VK} {pos : Pos} {es : List Expr} {ts : List Tm} {D : Ends}
theorem okS.mono {F' : Hp} {io' : List Addr} (s : Same F F') (p : Pre io io') {r : Sx} (h : r.all (okS E tp F io D)) : r.all (okS E tp F' io' D) :=
  Sx.all_imp h (fun _ q σ H' F2 io2 l s2 p2 w => q σ H' F2 io2 l (s.trans s2) (p.trans p2) w) (fun _ _ q v σ H' F2 io2 l s2 p2 w r => q v σ H' F2 io2 l (s.trans s2) (p.trans p2) w r)
    (fun _ q σ H' F2 io2 l s2 p2 w => q σ H' F2 io2 l (s.trans s2) (p.trans p2) w) (fun _ q σ H' F2 io2 l s2 p2 w => q σ H' F2 io2 l (s.trans s2) (p.trans p2) w)
    fun _ _ _ q d σ H' F2 io2 l s2 p2 w x => q d σ H' F2 io2 l (s.trans s2) (p.trans p2) w x
theorem okS.exE (hl : σ.length = E.X.N.length) {c : Nat} {fs : List Ag.D} {fr : Fr} (h : (okS E tp F io D).exc c fs fr) : exE E σ tp F io c fs fr := fun d H' F' io' s p w x => h d σ H' F' io' hl s p w x
theorem SE.partS (ha : SE E a ta) (hl : σ.length = E.X.N.length) (w : E.ws fr (σ ++ tp) H F io) {k : Ag.D → Fr → Sx} (h : ((ev E.T ta fr).frS k).all (okS E tp F io D))
    (q : ∀ d fr1 v H1 F1 io1, Same F F1 → Pre io io1 → E.ws fr1 (σ ++ tp) H1 F1 io1 → Rep E.G F1 io1 d v → (k d fr1).all (okS E tp F1 io1 D) → Q v H1) : wE E.X a σ H Q := by
  refine ha fr σ tp H F io Q hl w (Rs.all_imp (Rs.all_frS h) (fun r fr1 z => ?_) fun _ _ _ x => okS.exE hl x)
  obtain ⟨d, fr', e1, z⟩ := z
  intro v H' F' io' s p w' rv
  obtain ⟨F2, s2, rp, w2⟩ := w'.toD rv e1
  exact q d fr' v H' F2 io' (s.trans s2) p w2 rp (okS.mono (s.trans s2) p z)
theorem SE.valS (ha : SE E a ta) (hl : σ.length = E.X.N.length) (w : E.ws fr (σ ++ tp) H F io) {k : RV → Fr → Sx} (h : ((ev E.T ta fr).toS k).all (okS E tp F io D))
    (q : ∀ r fr1 v H1 F1 io1, Same F F1 → Pre io io1 → E.ws fr1 (σ ++ tp) H1 F1 io1 → RvOk E.G E.H0 H1 F1 io1 fr1.env (σ ++ tp) r v → (k r fr1).all (okS E tp F1 io1 D) → Q v H1) : wE E.X a σ H Q := by
  refine ha fr σ tp H F io Q hl w (Rs.all_imp (Rs.all_toS h) (fun r fr1 z => ?_) fun _ _ _ x => okS.exE hl x)
  intro v H' F' io' s p w' rv
  exact q r fr1 v H' F' io' s p w' rv (okS.mono s p z)
theorem ST.testS (hc : ST E c tc) (hl : σ.length = E.X.N.length) (w : E.ws fr (σ ++ tp) H F io) {k1 k2 : Fr → Sx}
    (h : ((ev E.T tc fr).frS fun d fr1 => match d with | .bl k => if k then k1 fr1 else k2 fr1 | _ => .bad).all (okS E tp F io D)) {R : Bool → Hp → Prop}
    (q : ∀ t fr1 H1 F1 io1, Same F F1 → Pre io io1 → E.ws fr1 (σ ++ tp) H1 F1 io1 → ((if t then k1 fr1 else k2 fr1) : Sx).all (okS E tp F1 io1 D) → R t H1) : wT E.X c σ H R := by
  refine hc fr σ tp H F io R hl w (Rs.all_imp (Rs.all_frS h) (fun r fr1 z => ?_) fun _ _ _ x => okS.exE hl x)
  obtain ⟨d, fr', e, z⟩ := z
  cases d with
  | bl b =>
    obtain ⟨rfl, e2⟩ := toD_bl e
    exact ⟨b, e2, fun H1 F1 io1 s p w1 => q b fr' H1 F1 io1 s p w1 (okS.mono s p z)⟩
  | _ => exact z.elim

/-! ### blocks -/
theorem SSs_nil : SSs E [] [] := fun fr σ tp H F io D hl w h => wSs_of pss_nil (by unfold exs at h; exact h σ H F io hl (Same.refl _) (Pre.refl _) w)
theorem SSs_cons {st : Stmt} {sts : List Stmt} {t : Stm} {us : List Stm} (h1 : SS E st t) (h2 : SSs E sts us) : SSs E (st :: sts) (t :: us) := by
  intro fr σ tp H F io D hl w h
  refine wSs_of (pss_cons ps_w pss_w) ?_
  unfold exs at h
  refine h1 fr σ tp H F io _ hl w (Sx.all_imp (Sx.all_seq h) (fun fr1 z => ?_) (fun _ _ z => z) (fun _ z => z) (fun _ z => z) fun _ _ _ z => z)
  intro σ1 H1 F1 io1 l1 s p w1
  exact h2 fr1 σ1 tp H1 F1 io1 D l1 w1 (okS.mono s p z)

/-! ### small statements -/
theorem SS_expr (ha : SE E a ta) (hs : swapsWith a none pos.line E.X.env = pure false) : SS E (.Expr a pos) (.expr ta) := by
  intro fr σ tp H F io D hl w h
  refine wS_of (ps_expr pe_w hs) ?_
  unfold ex at h
  exact ha.valS hl w h fun r fr1 v H1 F1 io1 s p w1 rv z => z σ H1 F1 io1 hl (Same.refl _) (Pre.refl _) w1
theorem SS_pass : SS E (.Pass pos) .skip := fun fr σ tp H F io D hl w h => wS_of ps_pass (by unfold ex at h; exact h σ H F io hl (Same.refl _) (Pre.refl _) w)
theorem SS_brk : SS E (.Break pos) .brk := fun fr σ tp H F io D hl w h => wS_of ps_break (by unfold ex at h; exact h σ H F io hl (Same.refl _) (Pre.refl _) w)
theorem SS_cont : SS E (.Continue pos) .cont := fun fr σ tp H F io D hl w h => wS_of ps_continue (by unfold ex at h; exact h σ H F io hl (Same.refl _) (Pre.refl _) w)
theorem SS_retN : SS E (.Return none pos) .retN := fun fr σ tp H F io D hl w h => wS_of ps_retN (by unfold ex at h; exact h .non σ H F io hl (Same.refl _) (Pre.refl _) w .non)
/-- a slot's list is given away -/
theorem Ws.giveSlot {G : Glb} {H0 : Ent} {n0 : Nat} {ρ : St} (w : Ws G H0 n0 fr ρ H F io) {i : Nat} {xs : List Ag.D} (e : fr.env[i]? = some (.own xs)) :
    Ws G H0 n0 (setE fr i .un) ρ H F io ∧ ∀ v, ρ[i]? = some (some v) → RvOk G H0 H F io (setE fr i .un).env ρ (.out (.fresh xs)) v := by
  refine ⟨⟨w.wr, by show (fr.env.set i .un).length = _; rw [List.length_set]; exact w.sl.len, fun j s q => ?_, fun j k ys zs q g1 g2 => ?_⟩, fun v hv => ?_⟩
  · rcases set_at q with ⟨rfl, rfl⟩ | ⟨ne, q⟩
    · trivial
    · exact w.sl.at_ j _ q
  · obtain ⟨_, g1⟩ := set_own (fun _ z => by cases z) g1
    obtain ⟨_, g2⟩ := set_own (fun _ z => by cases z) g2
    exact w.sl.dis j k ys zs q g1 g2
  · obtain ⟨p, e1, own⟩ := w.sl.at_ i _ e
    rw [hv] at e1
    have ev : v = .ref p := by cases e1; rfl
    refine ⟨p, ev, own, fun j ys q z => ?_⟩
    obtain ⟨ne, q⟩ := set_own (fun _ z => by cases z) q
    exact ne (w.sl.dis j i ys xs p q e z (by rw [hv, ev]))
theorem SS_ret (ha : SE E a ta) : SS E (.Return (some a) pos) (.ret ta) := by
  intro fr σ tp H F io D hl w h
  refine wS_of (ps_ret pe_w) ?_
  unfold ex at h
  refine ha.valS hl w h fun r fr1 v H1 F1 io1 s p w1 rv z => ?_
  cases r with
  | out o => exact z v σ H1 F1 io1 hl (Same.refl _) (Pre.refl _) w1 rv
  | var i =>
    have z : ((match fr1.env[i]? with | some (.own xs) => Sx.ret (.fresh xs) (setE fr1 i .un) | _ => .bad) : Sx).all (okS E tp F1 io1 D) := z
    cases q : fr1.env[i]? with
    | none => simp [q] at z; exact z.elim
    | some sl =>
      cases sl with
      | un => simp [q] at z; exact z.elim
      | val d => simp [q] at z; exact z.elim
      | own xs =>
        simp only [q] at z
        obtain ⟨w2, rv2⟩ := w1.giveSlot q
        exact z v σ H1 F1 io1 hl (Same.refl _) (Pre.refl _) w2 (rv2 v rv)
theorem SS_ite {A B : List Stmt} {tA tB : List Stm} (hc : ST E c tc) (hA : SSs E A tA) (hB : SSs E B tB) : SS E (.If c A B pos) (.ite tc tA tB) := by
  intro fr σ tp H F io D hl w h
  refine wS_of (ps_if pt_w pss_w pss_w) ?_
  unfold ex at h
  refine hc.testS hl w h fun t fr1 H1 F1 io1 s p w1 z => ?_
  cases t with
  | true => exact hA fr1 σ tp H1 F1 io1 D hl w1 z
  | false => exact hB fr1 σ tp H1 F1 io1 D hl w1 z

/-! ### stores -/
theorem setN_len {σ : St} {i : Nat} {v : Option V} (hl : σ.length = E.X.N.length) : (σ.set i v).length = E.X.N.length := by rw [List.length_set]; exact hl
theorem set_app {σ tp : St} {i : Nat} {v : Option V} (h : i < σ.length) : σ.set i v ++ tp = (σ ++ tp).set i v := by rw [List.set_append_left _ _ h]
theorem Ws.put {G : Glb} {H0 : Ent} {n0 : Nat} {ρ : St} (w : Ws G H0 n0 fr ρ H F io) {i : Nat} (hi : i < ρ.length) {d : Ag.D} {v : V} (r : Rep G F io d v) : Ws G H0 n0 (setE fr i (.val d)) (ρ.set i (some v)) H F io := by
  refine ⟨w.wr, by show (fr.env.set i _).length = _; rw [List.length_set, List.length_set]; exact w.sl.len, fun j s q => ?_, fun j k ys zs q g1 g2 e1 e2 => ?_⟩
  · rcases set_at q with ⟨rfl, rfl⟩ | ⟨ne, q⟩
    · exact ⟨v, List.getElem?_set_self hi, r⟩
    · rw [List.getElem?_set_ne (Ne.symm ne)]
      exact w.sl.at_ j _ q
  · obtain ⟨n1, g1⟩ := set_own (fun _ z => by cases z) g1
    obtain ⟨n2, g2⟩ := set_own (fun _ z => by cases z) g2
    rw [List.getElem?_set_ne (Ne.symm n1)] at e1
    rw [List.getElem?_set_ne (Ne.symm n2)] at e2
    exact w.sl.dis j k ys zs q g1 g2 e1 e2
theorem Ws.putOwn {G : Glb} {H0 : Ent} {n0 : Nat} {ρ : St} (w : Ws G H0 n0 fr ρ H F io) {i : Nat} (hi : i < ρ.length) {xs : List Ag.D} {v : V} (r : RvOk G H0 H F io fr.env ρ (.out (.fresh xs)) v) : Ws G H0 n0 (setE fr i (.own xs)) (ρ.set i (some v)) H F io := by
  obtain ⟨p, rfl, own, hd⟩ := r
  refine ⟨w.wr, by show (fr.env.set i _).length = _; rw [List.length_set, List.length_set]; exact w.sl.len, fun j s q => ?_, fun j k ys zs q g1 g2 e1 e2 => ?_⟩
  · rcases set_at q with ⟨rfl, rfl⟩ | ⟨ne, q⟩
    · exact ⟨p, List.getElem?_set_self hi, own⟩
    · rw [List.getElem?_set_ne (Ne.symm ne)]
      exact w.sl.at_ j _ q
  · rcases set_at g1 with ⟨x1, _⟩ | ⟨n1, y1⟩
    · rcases set_at g2 with ⟨x2, _⟩ | ⟨n2, y2⟩
      · rw [x1, x2]
      · rw [x1, List.getElem?_set_self hi] at e1
        rw [List.getElem?_set_ne (Ne.symm n2)] at e2
        cases e1
        exact absurd e2 (hd k zs y2)
    · rcases set_at g2 with ⟨x2, _⟩ | ⟨n2, y2⟩
      · rw [x2, List.getElem?_set_self hi] at e2
        rw [List.getElem?_set_ne (Ne.symm n1)] at e1
        cases e2
        exact absurd e1 (hd j ys y1)
      · rw [List.getElem?_set_ne (Ne.symm n1)] at e1
        rw [List.getElem?_set_ne (Ne.symm n2)] at e2
        exact w.sl.dis j k ys zs q y1 y2 e1 e2

/-- a target: bound to data -/
def wG (X : Cx) (tg : Expr) : TG := fun v σ H Q => ∀ (pins : List (Addr × Obj)) (s : Shared) (u : Value), Inv X pins σ H s → RelV v u → wpAny (model X.prog X.w) X.A (assign tg X.env u) (fun _ s' => ∃ σ' H', Inv X pins σ' H' s' ∧ Q σ' H') X.xe s
theorem pg_w {X : Cx} {tg : Expr} : PG X tg (wG X tg) := ⟨fun pins s σ H v u Q I r h => h pins s u I r⟩
theorem wG_of {X : Cx} {tg : Expr} {t : TG} {v : V} {σ : St} {H : Hp} {Q : St → Hp → Prop} (h : PG X tg t) (q : t v σ H Q) : wG X tg v σ H Q := fun pins s u I r => h.run pins s σ H v u Q I r q
def SG (E : En) (tg : Expr) (g : Tg) : Prop := ∀ (fr fr' : Fr) (σ tp : St) (H F : Hp) (io : List Addr) (d : Ag.D) (v : V) (Q : St → Hp → Prop), σ.length = E.X.N.length → E.ws fr (σ ++ tp) H F io → Rep E.G F io d v → bindT g d fr = some fr' →
  (∀ σ', σ'.length = E.X.N.length → E.ws fr' (σ' ++ tp) H F io → Q σ' H) → wG E.X tg v σ H Q
def SGs (E : En) (tgs : List Expr) (gs : List Tg) : Prop := ∀ (fr fr' : Fr) (σ tp : St) (H F : Hp) (io : List Addr) (ds : List Ag.D) (vs : List V) (Q : St → Hp → Prop), σ.length = E.X.N.length → E.ws fr (σ ++ tp) H F io → Reps E.G F io ds vs → bindTs gs ds fr = some fr' →
  (∀ σ', σ'.length = E.X.N.length → E.ws fr' (σ' ++ tp) H F io → Q σ' H) → ∀ (pins : List (Addr × Obj)) (s : Shared) (us : List Value), Inv E.X pins σ H s → Vals vs us →
    wpAny (model E.X.prog E.X.w) E.X.A (assignInOrder ((assignEach tgs E.X.env).map (·.2)) us) (fun _ s' => ∃ σ' H', Inv E.X pins σ' H' s' ∧ Q σ' H') E.X.xe s
theorem SG_slot (ok : E.Ok) {i : Nat} {x : Str} (hN : E.X.N[i]? = some x) (hx : Loc E.X.env.scope x) (hf : E.X.fn x = true ∨ E.X.env.scope.names.lookup x = some .local) : SG E (.Name x pos) (.slot i) := by
  intro fr fr' σ tp H F io d v Q hl w r e q
  refine wG_of (pg_name ok.nd hN hx hf) ?_
  have hi : i < σ.length := by rw [hl]; exact (List.getElem?_eq_some_iff.mp hN).1
  cases e
  refine q _ (setN_len hl) ?_
  rw [set_app hi]
  exact w.put (by rw [List.length_append]; omega) r
theorem SGs_nil : SGs E [] [] := by
  intro fr fr' σ tp H F io ds vs Q hl w r e q pins s us I rv
  cases r with
  | nil => cases rv; cases e; exact PyProof.Rows.assignInOrder_nil ⟨σ, H, I, q σ hl w⟩
  | cons h r => cases e
theorem assign_ne {e : Expr} (h : notStar e = true) (es : List Expr) (env : Env) : (assignEach (e :: es) env).map (·.2) = assign e env :: (assignEach es env).map (·.2) := by
  cases e <;> first | rfl | cases h
theorem assign_len : ∀ (es : List Expr) (env : Env), (assignEach es env).length = es.length
  | [], _ => rfl
  | e :: es, env => by
    have ih := assign_len es env
    cases e <;> (show (_ :: assignEach es env).length = _; rw [List.length_cons, ih]; rfl)
theorem assign_find {es : List Expr} (h : allNot es = true) (env : Env) : (assignEach es env).findIdx? (·.1) = none := by
  induction es with
  | nil => rfl
  | cons e es ih =>
    unfold allNot at h ih
    rw [List.all_cons, Bool.and_eq_true] at h
    have e1 : ∃ x, assignEach (e :: es) env = (false, x) :: assignEach es env := by
      have := h.1
      cases e <;> first | exact ⟨_, rfl⟩ | cases this
    obtain ⟨x, e1⟩ := e1
    rw [e1, List.findIdx?_cons, ih h.2]
    rfl
theorem SGs_cons {tg : Expr} {tgs : List Expr} {g : Tg} {gs : List Tg} (hs : notStar tg = true) (h1 : SG E tg g) (h2 : SGs E tgs gs) : SGs E (tg :: tgs) (g :: gs) := by
  intro fr fr' σ tp H F io ds vs Q hl w r e q pins s us I rv
  cases r with
  | nil => cases e
  | @cons d v ds vs hr rr =>
    cases rv with
    | cons rv rvs =>
      unfold bindTs at e
      cases e1 : bindT g d fr with
      | none => simp [e1] at e
      | some fr1 =>
        simp only [e1] at e
        rw [assign_ne hs]
        refine PyProof.Rows.assignInOrder_cons (thn (h1 fr fr1 σ tp H F io d v (fun σ1 H1 => H1 = H ∧ σ1.length = E.X.N.length ∧ E.ws fr1 (σ1 ++ tp) H F io) hl w hr e1 (fun σ1 l1 w1 => ⟨rfl, l1, w1⟩) pins s _ I rv) fun _ s1 ⟨σ1, H1, I1, eH, l1, w1⟩ => ?_)
        subst eH
        exact h2 fr1 fr' σ1 tp _ F io ds vs Q l1 w1 rr e q pins s1 _ I1 rvs
theorem SG_tup (ok : E.Ok) {tgs : List Expr} {k : Nat} {gs : List Tg} (ha : allNot tgs = true) (hlen : tgs.length = gs.length) (h : SGs E tgs gs) : SG E (.Tuple tgs k pos) (.tup gs) := by
  intro fr fr' σ tp H F io d v Q hl w r e q
  cases d with
  | tup ds =>
    cases r with
    | @tup ds vs a ht rs =>
      have e' : bindTs gs ds fr = some fr' := e
      have ln : ∀ (gs : List Tg) (ds : List Ag.D) (fr : Fr), bindTs gs ds fr = some fr' → gs.length = ds.length := by
        intro gs
        induction gs with
        | nil => intro ds fr e; cases ds with | nil => rfl | cons => cases e
        | cons g gs ih =>
          intro ds fr e
          cases ds with
          | nil => cases e
          | cons d ds =>
            unfold bindTs at e
            cases e1 : bindT g d fr with
            | none => simp [e1] at e
            | some fr1 => simp only [e1] at e; simp [ih ds fr1 e]
      have hv : vs.length = tgs.length := by rw [← rs.length, ← ln _ _ _ e', hlen]
      refine wG_of (pg_tup (t := fun vs' σ' H' Q' => ∀ pins s us, Inv E.X pins σ' H' s → Vals vs' us → wpAny (model E.X.prog E.X.w) E.X.A (assignInOrder ((assignEach tgs E.X.env).map (·.2)) us) (fun _ s' => ∃ σ' H', Inv E.X pins σ' H' s' ∧ Q' σ' H') E.X.xe s) ok.calm ⟨fun pins s σ H vs us Q I r h => h pins s us I r⟩ (assign_len _ _) (assign_find ha _)) ?_
      have ht' := Same.sqT w.wr.sub ht
      rw [ok.k] at ht'
      exact ⟨a, vs, rfl, ht', hv, h fr fr' σ tp H F io ds vs Q hl w rs e' q⟩
  | _ => cases e
end
end Ag
namespace Ag
open PySem PySem.Spec L2
section
variable {E : En} {e a b c : Expr} {ta tb tc : Tm} {fr : Fr} {σ tp : St} {H F : Hp} {io : List Addr} {Q : VK} {pos : Pos} {es : List Expr} {ts : List Tm} {D : Ends}

def notComp : Expr → Bool
  | .ListComp .. => false
  | .SetComp .. => false
  | .DictComp .. => false
  | _ => true
theorem swaps_no {e : Expr} (h : notComp e = true) (t : Option Expr) (n : Nat) (env : Env) : swapsWith e t n env = pure false := by
  cases e <;> first | rfl | cases h

/-! ### assignments -/
theorem SS_asgName (ok : E.Ok) {i : Nat} {x : Str} {p : Pos} (hN : E.X.N[i]? = some x) (hx : Loc E.X.env.scope x) (hf : E.X.fn x = true ∨ E.X.env.scope.names.lookup x = some .local) (hs : swapsWith a (some (.Name x p)) pos.line E.X.env = pure false) (ha : SE E a ta) :
    SS E (.Assign [.Name x p] a pos) (.asg (.slot i) ta) := by
  intro fr σ tp H F io D hl w h
  refine wS_of (ps_set ok.nd hN hx pe_w hs hf) ?_
  have hi : i < σ.length := by rw [hl]; exact (List.getElem?_eq_some_iff.mp hN).1
  have hi2 : i < (σ ++ tp).length := by rw [List.length_append]; omega
  unfold ex at h
  refine ha.valS hl w h fun r fr1 v H1 F1 io1 s p w1 rv z => ?_
  show D.nx (σ.set i (some v)) H1
  have gen : ∀ d fr2, toD fr1 r = some (d, fr2) → (Sx.next (setE fr2 i (.val d))).all (okS E tp F1 io1 D) → D.nx (σ.set i (some v)) H1 := fun d fr2 e1 z => by
    obtain ⟨F2, s2, rp, w2⟩ := w1.toD rv e1
    exact z _ H1 F2 io1 (setN_len hl) s2 (Pre.refl _) (by rw [set_app hi]; exact w2.put hi2 rp)
  cases r with
  | out o =>
    cases o with
    | val d => exact gen d fr1 rfl z
    | fresh xs => exact z _ H1 F1 io1 (setN_len hl) (Same.refl _) (Pre.refl _) (by rw [set_app hi]; exact w1.putOwn hi2 rv)
  | var j =>
    have z : ((match toD fr1 (.var j) with | some (d, fr') => Sx.next (setE fr' i (.val d)) | none => .bad) : Sx).all (okS E tp F1 io1 D) := z
    cases e1 : toD fr1 (.var j) with
    | none => simp [e1] at z; exact z.elim
    | some q =>
      obtain ⟨d, fr2⟩ := q
      simp only [e1] at z
      exact gen d fr2 e1 z
theorem SS_asgTup {tg : Expr} {gs : List Tg} (hg : SG E tg (.tup gs)) (hs : swapsWithSole [tg] a pos.line E.X.env = pure false) (hw : swappedStores [tg] a E.X.env = pure none) (h1 : (assignEach [tg] E.X.env).map (·.2) = [assign tg E.X.env]) (ha : SE E a ta) :
    SS E (.Assign [tg] a pos) (.asg (.tup gs) ta) := by
  intro fr σ tp H F io D hl w h
  refine wS_of (ps_asg pe_w pg_w hs hw h1) ?_
  unfold ex at h
  refine ha.valS hl w h fun r fr1 v H1 F1 io1 s p w1 rv z => ?_
  have z : ((match toD fr1 r with | some (d, fr') => (match bindT (.tup gs) d fr' with | some fr2 => Sx.next fr2 | none => .bad) | none => .bad) : Sx).all (okS E tp F1 io1 D) := z
  cases e1 : toD fr1 r with
  | none => simp [e1] at z; exact z.elim
  | some q =>
    obtain ⟨d, fr2⟩ := q
    simp only [e1] at z
    obtain ⟨F2, s2, rp, w2⟩ := w1.toD rv e1
    cases e2 : bindT (.tup gs) d fr2 with
    | none => simp [e2] at z; exact z.elim
    | some fr3 =>
      simp only [e2] at z
      exact hg fr2 fr3 σ tp H1 F2 io1 d v D.nx hl w2 rp e2 fun σ' l' w' => z σ' H1 F2 io1 l' s2 (Pre.refl _) w'

/-! ### a dict's item stored -/
/-- a cell is written -/
theorem Ws.cellPut {G : Glb} {H0 : Ent} {n0 : Nat} {ρ : St} (w : Ws G H0 n0 fr ρ H F io) {n : Nat} {a : Addr} {cl : Cell} {u : HO} (ha : io[n]? = some a) (hc : CellOk G F io (upd H a u) a cl) : Ws G H0 n0 { fr with sto := fr.sto.set n cl } ρ (upd H a u) F io := by
  have hn : n < fr.sto.length := by rw [← w.wr.len]; exact (List.getElem?_eq_some_iff.mp ha).1
  obtain ⟨a', e1, fa, _⟩ := w.wr.cel n fr.sto[n] (List.getElem?_eq_getElem hn)
  rw [ha] at e1; cases e1
  have hne : ∀ b x, H b = some x → b ≠ a → (upd H a u) b = some x := fun b x e n => by rw [upd_ne n]; exact e
  refine ⟨⟨fun b x e => ?_, by show io.length = (fr.sto.set n cl).length; rw [List.length_set]; exact w.wr.len, fun m c e => ?_, w.wr.inj, fun b x e k => ?_, w.wr.new, w.wr.frz, w.wr.nle, w.wr.old⟩, w.sl.len, fun i sl e => ?_, w.sl.dis⟩
  · exact hne b x (w.wr.sub b x e) fun z => by rw [z, fa] at e; cases e
  · by_cases q : n = m
    · subst q
      have e : (fr.sto.set n cl)[n]? = some c := e
      rw [List.getElem?_set_self hn] at e; cases e
      exact ⟨a, ha, fa, hc⟩
    · have e : (fr.sto.set n cl)[m]? = some c := e
      rw [List.getElem?_set_ne q] at e
      obtain ⟨b, e1, e2, e3⟩ := w.wr.cel m c e
      have nb : b ≠ a := fun z => q (w.wr.inj n m a ha (z ▸ e1))
      refine ⟨b, e1, e2, ?_⟩
      cases c with
      | dict kvs => obtain ⟨us, h1, h2⟩ := e3; exact ⟨us, hne _ _ h1 nb, h2⟩
      | inst c fs => obtain ⟨dx, us, h1, h2⟩ := e3; exact ⟨dx, us, hne _ _ h1 nb, h2⟩
  · by_cases q : b = a
    · subst q
      by_cases hlt : n < n0
      · exact absurd ha (k n hlt)
      · rw [w.wr.new n b (Nat.le_of_not_lt hlt) ha] at e; cases e
    · exact hne b x (w.wr.keep b x e k) q
  · have q := w.sl.at_ i sl e
    cases sl with
    | un => trivial
    | val d => exact q
    | own xs =>
      obtain ⟨p, e1, vs, h1, h2, h3, h4, h5⟩ := q
      exact ⟨p, e1, vs, hne _ _ h1 (fun z => h3 n (z ▸ ha)), h2, h3, h4, h5⟩
theorem SS_setk (ok : E.Ok) {o k : Expr} {to tk : Tm} {p : Pos} (hs : notComp a = true) (ha : SE E a ta) (ho : SE E o to) (hk : SE E k tk) : SS E (.Assign [.Subscript o k p] a pos) (.setk to tk ta) := by
  intro fr σ tp H F io D hl w h
  refine wS_of (ps_dput (by have := ok.hu; omega) pe_w pe_w pe_w (swaps_no hs _ _ _)) ?_
  unfold ex at h
  refine ha.partS hl w h fun dv fr1 v H1 F1 io1 s1 p1 w1 rv h1 => ?_
  refine ho.partS hl w1 h1 fun d fr2 x H2 F2 io2 s2 p2 w2 rx h2 => ?_
  refine hk.partS hl w2 h2 fun dk fr3 y H3 F3 io3 s3 p3 w3 ry h3 => ?_
  cases d with
  | cell n =>
    cases e1 : keyOf dk with
    | none => simp [e1] at h3; exact h3.elim
    | some kk =>
      simp only [e1] at h3
      cases rx with
      | cell hc =>
        cases e2 : fr3.sto[n]? with
        | none => simp [e2] at h3; exact h3.elim
        | some cl =>
          cases cl with
          | inst c fs => simp [e2] at h3; exact h3.elim
          | dict kvs =>
            simp only [e2] at h3
            split at h3
            case isFalse => exact h3.elim
            rename_i hz
            obtain ⟨a, g1, g2, vs, g3, g4⟩ := w3.wr.cel n _ e2
            have hc3 := p3 _ _ hc
            rw [hc3] at g1; cases g1
            have ek := key_of ry e1
            subst ek
            refine ⟨_, _, rfl, DPut.k g3 (by rw [← g4.length]; exact Nat.lt_trans hz (by decide)), ?_⟩
            exact h3 σ _ F3 io3 hl (Same.refl _) (Pre.refl _) (w3.cellPut hc3 ⟨_, upd_same, g4.put (rv.mono (s2.trans s3) (p2.trans p3))⟩)
  | _ => exact h3.elim

/-! ### lists of slots -/
/-- the list of the slot i, changed in place -/
theorem Ws.ownPut {G : Glb} {H0 : Ent} {n0 : Nat} {ρ : St} (w : Ws G H0 n0 fr ρ H F io) {i : Nat} {p : Addr} {xs ys : List Ag.D} {us : List V} (e : fr.env[i]? = some (.own xs)) (hp : ρ[i]? = some (some (.ref p))) (r : Reps G F io ys us) :
    Ws G H0 n0 (setE fr i (.own ys)) ρ (upd H p (.lst us)) F io := by
  obtain ⟨p', e1, vs, h1, h2, h3, h4, h5⟩ := w.sl.at_ i _ e
  rw [hp] at e1; cases e1
  have hne : ∀ b x, H b = some x → b ≠ p → (upd H p (.lst us)) b = some x := fun b x e n => by rw [upd_ne n]; exact e
  refine ⟨⟨fun b x e => ?_, w.wr.len, fun m c e => ?_, w.wr.inj, fun b x e k => ?_, w.wr.new, w.wr.frz, w.wr.nle, w.wr.old⟩, by show (fr.env.set i _).length = _; rw [List.length_set]; exact w.sl.len, fun j sl q => ?_, fun j k zs ws pp g1 g2 e1 e2 => ?_⟩
  · exact hne b x (w.wr.sub b x e) fun z => by rw [z, h2] at e; cases e
  · obtain ⟨b, e1, e2, e3⟩ := w.wr.cel m c e
    have nb : b ≠ p := fun z => h3 m (z ▸ e1)
    refine ⟨b, e1, e2, ?_⟩
    cases c with
    | dict kvs => obtain ⟨us, h1, h2⟩ := e3; exact ⟨us, hne _ _ h1 nb, h2⟩
    | inst c fs => obtain ⟨dx, us, h1, h2⟩ := e3; exact ⟨dx, us, hne _ _ h1 nb, h2⟩
  · exact hne b x (w.wr.keep b x e k) fun z => by rw [z, h4] at e; cases e
  · rcases set_at q with ⟨rfl, rfl⟩ | ⟨ne, q⟩
    · exact ⟨p, hp, us, upd_same, h2, h3, h4, r⟩
    · have q2 := w.sl.at_ j _ q
      cases sl with
      | un => trivial
      | val d => exact q2
      | own zs =>
        obtain ⟨p2, g1, ws, k1, k2, k3, k4, k5⟩ := q2
        exact ⟨p2, g1, ws, hne _ _ k1 (fun z => ne (w.sl.dis j i zs xs p q e (z ▸ g1) hp)), k2, k3, k4, k5⟩
  · have f : ∀ (m : Nat) (qs : List Ag.D), (fr.env.set i (Slot.own ys))[m]? = some (Slot.own qs) → ∃ qs', fr.env[m]? = some (Slot.own qs') := fun m qs g => by
      rcases set_at g with ⟨g, _⟩ | ⟨_, g⟩
      · exact ⟨xs, g ▸ e⟩
      · exact ⟨qs, g⟩
    obtain ⟨_, g1⟩ := f j zs g1
    obtain ⟨_, g2⟩ := f k ws g2
    exact w.sl.dis j k _ _ _ g1 g2 e1 e2
theorem slot_of {i : Nat} {x : Str} (hl : σ.length = E.X.N.length) (hN : E.X.N[i]? = some x) (w : E.ws fr (σ ++ tp) H F io) {xs : List Ag.D} (e : fr.env[i]? = some (.own xs)) : ∃ p vs, σ[i]? = some (some (.ref p)) ∧ (σ ++ tp)[i]? = some (some (.ref p)) ∧ H p = some (.lst vs) ∧ Reps E.G F io xs vs := by
  obtain ⟨p, e1, vs, h1, h2, h3, h4, h5⟩ := w.sl.at_ i _ e
  exact ⟨p, vs, by rw [← lift_at (tp := tp) hl hN]; exact e1, e1, h1, h5⟩
def wMt (X : Cx) (id : String) : V → List V → Hp → VK → Prop := fun x xs H Q => ∀ (pins : List (Addr × Obj)) (s : Shared) (σ : St) (v : Value) (us : List Value), Inv X pins σ H s → RelV x v → Vals xs us → wpAny (model X.prog X.w) X.A (call (.builtin id) (v :: us)) (EP X pins σ Q) X.xe s
theorem SS_append (ok : E.Ok) {i : Nat} {x : Str} {p apos cpos : Pos} (hN : E.X.N[i]? = some x) (hv : Vis E.X.env.scope x) (hd : (x == ("__debug__" : Str)) = false) (hcd : (x == ("__classdict__" : Str)) = false) (hn : notStar a = true) (hline : (apos.endLine == cpos.line) = true) (ha : SE E a ta) :
    SS E (.Expr (.Call (.Attribute (.Name x p) "append" apos) [a] [] cpos) pos) (.append i ta) := by
  intro fr σ tp H F io D hl w h
  have f1 : allNot [a] = true := by unfold allNot; simp [hn]
  refine wS_of (ps_expr (pe_bm PySem.F.plainAttrs_list PySem.F.slot_list_append PySem.F.type_list_append mt_append (pe_var hN hv hd hcd) (pa_cons pe_w pa_nil (star_ne hn _ _)) (by rfl) (form_of (pos := cpos) f1 (by show 1 < 29; decide) E.X.env) hline (star_ne hn _ _) (by rfl)) (by rfl)) ?_
  unfold ex at h
  cases q : fr.env[i]? with
  | none => simp [q] at h; exact h.elim
  | some sl =>
    cases sl with
    | un => simp [q] at h; exact h.elim
    | val d => simp [q] at h; exact h.elim
    | own xs =>
      simp only [q] at h
      obtain ⟨pl, vs, e1, e2, g1, g2⟩ := slot_of hl hN w q
      refine ⟨.ref pl, e1, .inl ⟨rfl, vs, SqL.of g1⟩, ?_⟩
      refine ha.partS hl w h fun d fr1 v H1 F1 io1 s1 p1 w1 rv h1 => ?_
      cases q1 : fr1.env[i]? with
      | none => simp [q1] at h1; exact h1.elim
      | some sl =>
        cases sl with
        | un => simp [q1] at h1; exact h1.elim
        | val d => simp [q1] at h1; exact h1.elim
        | own ys =>
          simp only [q1] at h1
          split at h1
          case isFalse => exact h1.elim
          rename_i hz
          obtain ⟨pl', us, e1', e2', k1, k2⟩ := slot_of hl hN w1 q1
          rw [e1] at e1'; cases e1'
          refine ⟨pl, us, v, rfl, rfl, k1, by rw [← k2.length]; exact hz, ?_⟩
          exact h1 σ _ F1 io1 hl (Same.refl _) (Pre.refl _) (w1.ownPut q1 e2' (k2.append (.cons rv .nil)))
theorem SS_extend (ok : E.Ok) {i : Nat} {x : Str} {p apos cpos : Pos} (hN : E.X.N[i]? = some x) (hv : Vis E.X.env.scope x) (hd : (x == ("__debug__" : Str)) = false) (hcd : (x == ("__classdict__" : Str)) = false) (hn : notStar a = true) (hline : (apos.endLine == cpos.line) = true) (ha : SE E a ta) :
    SS E (.Expr (.Call (.Attribute (.Name x p) "extend" apos) [a] [] cpos) pos) (.extend i ta) := by
  intro fr σ tp H F io D hl w h
  have f1 : allNot [a] = true := by unfold allNot; simp [hn]
  refine wS_of (ps_expr (pe_bm PySem.F.plainAttrs_list PySem.F.slot_list_extend PySem.F.type_list_extend mt_extend (pe_var hN hv hd hcd) (pa_cons pe_w pa_nil (star_ne hn _ _)) (by rfl) (form_of (pos := cpos) f1 (by show 1 < 29; decide) E.X.env) hline (star_ne hn _ _) (by rfl)) (by rfl)) ?_
  unfold ex at h
  cases q : fr.env[i]? with
  | none => simp [q] at h; exact h.elim
  | some sl =>
    cases sl with
    | un => simp [q] at h; exact h.elim
    | val d => simp [q] at h; exact h.elim
    | own xs =>
      simp only [q] at h
      obtain ⟨pl, vs, e1, e2, g1, g2⟩ := slot_of hl hN w q
      refine ⟨.ref pl, e1, .inl ⟨rfl, vs, SqL.of g1⟩, ?_⟩
      refine ha.partS hl w h fun d fr1 v H1 F1 io1 s1 p1 w1 rv h1 => ?_
      cases q1 : fr1.env[i]? with
      | none => simp [q1] at h1; exact h1.elim
      | some sl =>
        cases sl with
        | un => simp [q1] at h1; exact h1.elim
        | val d => simp [q1] at h1; exact h1.elim
        | own ys =>
          cases d with
          | lst zs =>
            simp only [q1] at h1
            split at h1
            case isFalse => exact h1.elim
            rename_i hz
            obtain ⟨pl', us, e1', e2', k1, k2⟩ := slot_of hl hN w1 q1
            rw [e1] at e1'; cases e1'
            cases rv with
            | lst hb rb =>
              refine ⟨pl, _, us, _, rfl, rfl, k1, w1.wr.sub _ _ hb, by rw [← k2.length, ← rb.length]; exact hz, ?_⟩
              exact h1 σ _ F1 io1 hl (Same.refl _) (Pre.refl _) (w1.ownPut q1 e2' (k2.append rb))
          | _ => simp only [q1] at h1; exact h1.elim
theorem SE_pop (ok : E.Ok) {i : Nat} {x : Str} {p apos cpos : Pos} (hN : E.X.N[i]? = some x) (hv : Vis E.X.env.scope x) (hd : (x == ("__debug__" : Str)) = false) (hcd : (x == ("__classdict__" : Str)) = false) (hline : (apos.endLine == cpos.line) = true) :
    SE E (.Call (.Attribute (.Name x p) "pop" apos) [] [] cpos) (.pop i) := by
  intro fr σ tp H F io Q hl w h
  refine wE_of (pe_bm0 PySem.F.plainAttrs_list PySem.F.slot_list_pop PySem.F.type_list_pop mt_pop (pe_var hN hv hd hcd) (by rfl) hline) ?_
  unfold ev at h
  cases q : fr.env[i]? with
  | none => simp [q] at h; exact h.elim
  | some sl =>
    cases sl with
    | un => simp [q] at h; exact h.elim
    | val d => simp [q] at h; exact h.elim
    | own xs =>
      simp only [q] at h
      obtain ⟨pl, vs, e1, e2, g1, g2⟩ := slot_of hl hN w q
      cases e3 : xs.getLast? with
      | none => simp [e3] at h; exact h.elim
      | some d =>
        simp only [e3] at h
        have e4 : xs[xs.length - 1]? = some d := by rw [← List.getLast?_eq_getElem?]; exact e3
        obtain ⟨y, e5, ry⟩ := g2.get e4
        rw [g2.length] at e5
        refine ⟨.ref pl, e1, .inl ⟨rfl, vs, SqL.of g1⟩, pl, vs, y, rfl, rfl, g1, e5, ?_⟩
        refine h y _ F io (Same.refl _) (Pre.refl _) (w.ownPut q e2 ?_) ry
        have := g2.take (xs.length - 1)
        rw [List.dropLast_eq_take, List.dropLast_eq_take, ← g2.length]
        exact this
theorem SS_aug (ok : E.Ok) {i : Nat} {x : Str} {p : Pos} (hN : E.X.N[i]? = some x) (hx : Loc E.X.env.scope x) (hf : E.X.fn x = true ∨ E.X.env.scope.names.lookup x = some .local) (ha : SE E a ta) : SS E (.AugAssign (.Name x p) .Add a pos) (.aug i .add ta) := by
  intro fr σ tp H F io D hl w h
  refine wS_of (ps_aug ok.nd hN hx pe_w ip_add hf) ?_
  have hi : i < σ.length := by rw [hl]; exact (List.getElem?_eq_some_iff.mp hN).1
  have hi2 : i < (σ ++ tp).length := by rw [List.length_append]; omega
  unfold ex at h
  cases q : fr.env[i]? with
  | none => simp [q] at h; exact h.elim
  | some sl =>
    cases sl with
    | un => simp [q] at h; exact h.elim
    | own d => simp [q] at h; exact h.elim
    | val d =>
      cases d with
      | int n =>
        simp only [q] at h
        obtain ⟨v, e1, r1⟩ := w.sl.at_ i _ q
        rw [lift_at hl hN] at e1
        cases r1
        refine ⟨_, e1, ?_⟩
        refine ha.partS hl w h fun d fr1 v H1 F1 io1 s1 p1 w1 rv h1 => ?_
        cases d with
        | int m =>
          cases rv
          refine ⟨n, m, rfl, rfl, ?_⟩
          exact h1 _ H1 F1 io1 (setN_len hl) (Same.refl _) (Pre.refl _) (by rw [set_app hi]; exact w1.put hi2 (.int _))
        | _ => exact h1.elim
      | _ => simp [q] at h; exact h.elim
end
end Ag
namespace Ag
open PySem PySem.Spec L2
section
variable {E : En} {e a b c : Expr} {ta tb tc : Tm} {fr : Fr} {σ tp : St} {H F : Hp} {io : List Addr} {Q : VK} {pos : Pos} {es : List Expr} {ts : List Tm} {D : Ends}

theorem star_off (e : Expr) : notStar e = true → (match e with | .Starred .. => true | _ => false) = false := by
  cases e <;> intro h <;> first | rfl | exact absurd h (by simp [notStar])
theorem swap2_some {x y : Str} {px py pt pt2 : Pos} {kt k2 : Nat} {env : Env} (hk : env.scope.kind = .function) (hx : env.scope.names.lookup x = some .local) (hy : env.scope.names.lookup y = some .local) (hl : (py.line == px.line) = true) (hxy : x ≠ y)
    (hs : allNot [a, b] = true) (hf : ([a, b].all (foldedForSure 8)) = false) (hc : ([a, b].all (constantsAlone 8)) = false) :
    swappedStores [.Tuple [.Name x px, .Name y py] kt pt] (.Tuple [a, b] k2 pt2) env = pure (some [x, y]) := by
  have hb : env.blockKind = .function := by unfold Env.blockKind; rw [hk]; rfl
  have kx : env.kindOf x = some .local := hx
  have ky : env.kindOf y = some .local := hy
  unfold allNot at hs
  simp only [List.all_cons, List.all_nil, Bool.and_true, Bool.and_eq_true] at hs
  have e1 : ([x, y] : List Str).eraseDups.length = 2 := by
    have : (y == x) = false := by simpa using fun z => hxy z.symm
    simp [List.eraseDups_cons, this]
  unfold swappedStores
  simp only [hb, hf, hc, List.filterMap_cons, List.filterMap_nil, kx, ky, Expr.pos, hl]
  simp [e1, Expr.pos, kx, ky, hl]
  intro h
  rcases h with h | h
  · exact absurd ((star_off a hs.1).symm.trans h) (by simp)
  · exact absurd ((star_off b hs.2).symm.trans h) (by simp)
theorem swap3_some {x y z : Str} {px py pz pt pt2 : Pos} {kt k2 : Nat} {env : Env} (hk : env.scope.kind = .function) (hx : env.scope.names.lookup x = some .local) (hy : env.scope.names.lookup y = some .local) (hz : env.scope.names.lookup z = some .local)
    (hl : (py.line == px.line) = true) (hl2 : (pz.line == px.line) = true) (hxy : x ≠ y) (hxz : x ≠ z) (hyz : y ≠ z)
    (hs : allNot [a, b, c] = true) (hf : ([a, b, c].all (foldedForSure 8)) = false) (hc : ([a, b, c].all (constantsAlone 8)) = false) :
    swappedStores [.Tuple [.Name x px, .Name y py, .Name z pz] kt pt] (.Tuple [a, b, c] k2 pt2) env = pure (some [x, y, z]) := by
  have hb : env.blockKind = .function := by unfold Env.blockKind; rw [hk]; rfl
  have kx : env.kindOf x = some .local := hx
  have ky : env.kindOf y = some .local := hy
  have kz : env.kindOf z = some .local := hz
  unfold allNot at hs
  simp only [List.all_cons, List.all_nil, Bool.and_true, Bool.and_eq_true] at hs
  have e1 : ([x, y, z] : List Str).eraseDups.length = 3 := by
    have h1 : (y == x) = false := by simpa using fun z => hxy z.symm
    have h2 : (z == x) = false := by simpa using fun z => hxz z.symm
    have h3 : (z == y) = false := by simpa using fun z => hyz z.symm
    simp [List.eraseDups_cons, h1, h2, h3]
  unfold swappedStores
  simp only [hb, hf, hc, List.filterMap_cons, List.filterMap_nil, kx, ky, kz, Expr.pos, hl, hl2]
  simp [e1, Expr.pos, kx, ky, kz, hl, hl2]
  intro h
  rcases h with h | h | h
  · exact absurd ((star_off a hs.1).symm.trans h) (by simp)
  · exact absurd ((star_off b hs.2.1).symm.trans h) (by simp)
  · exact absurd ((star_off c hs.2.2).symm.trans h) (by simp)

/-! ### several names at once -/
inductive SEs (E : En) : List Expr → List Tm → Prop
  | nil : SEs E [] []
  | cons {e t es ts} : notStar e = true → SE E e t → SEs E es ts → SEs E (e :: es) (t :: ts)
theorem SEs.sa (h : SEs E es ts) : SA E es ts := by
  induction h with
  | nil => exact SA_nil
  | cons h1 h2 _ ih => exact SA_cons h1 h2 ih
theorem SEs.sp (h : SEs E es ts) : SP' E es ts := by
  induction h with
  | nil => exact SP_nil
  | cons h1 h2 _ ih => exact SP_cons h1 h2 ih
theorem Ws.cut {G : Glb} {H0 : Ent} {n0 : Nat} {ρ : St} (w : Ws G H0 n0 fr ρ H F io) (n : Nat) : Ws G H0 n0 (cutE n fr) (ρ.take n) H F io := by
  have f : ∀ {i : Nat} {s : Slot}, (fr.env.take n)[i]? = some s → i < n ∧ fr.env[i]? = some s := fun {i s} e => by
    rw [List.getElem?_take] at e
    split at e
    · exact ⟨by assumption, e⟩
    · cases e
  have g : ∀ {i : Nat}, i < n → (ρ.take n)[i]? = ρ[i]? := fun {i} h => by rw [List.getElem?_take, if_pos h]
  refine ⟨w.wr, by show (fr.env.take n).length = _; rw [List.length_take, List.length_take, w.sl.len], fun i s e => ?_, fun i j xs ys p e1 e2 h1 h2 => ?_⟩
  · obtain ⟨h, e⟩ := f e
    rw [g h]
    exact w.sl.at_ i s e
  · obtain ⟨k1, e1⟩ := f e1
    obtain ⟨k2, e2⟩ := f e2
    rw [g k1] at h1
    rw [g k2] at h2
    exact w.sl.dis i j xs ys p e1 e2 h1 h2
/-- a new list kept behind the slots -/
theorem Ws.keepT {G : Glb} {H0 : Ent} {n0 : Nat} {ρ : St} (w : Ws G H0 n0 fr ρ H F io) {xs : List Ag.D} {v : V} (r : RvOk G H0 H F io fr.env ρ (.out (.fresh xs)) v) :
    Ws G H0 n0 { fr with env := fr.env ++ [.own xs] } (ρ ++ [some v]) H F io := by
  obtain ⟨p, rfl, own, hd⟩ := r
  have ca : ∀ {i : Nat} {s : Slot}, (fr.env ++ [Slot.own xs])[i]? = some s → (i = ρ.length ∧ s = .own xs) ∨ (i < ρ.length ∧ fr.env[i]? = some s) := fun {i s} e => by
    by_cases q : i < fr.env.length
    · rw [List.getElem?_append_left q] at e
      exact .inr ⟨by rw [← w.sl.len]; exact q, e⟩
    · have hl := (List.getElem?_eq_some_iff.mp e).1
      rw [List.length_append] at hl
      have : i = fr.env.length := by simp at hl; omega
      subst this
      simp at e
      exact .inl ⟨w.sl.len, e.symm⟩
  refine ⟨w.wr, by show (fr.env ++ [Slot.own xs]).length = _; rw [List.length_append, List.length_append, w.sl.len]; rfl, fun i s e => ?_, fun i j ys zs q e1 e2 h1 h2 => ?_⟩
  · rcases ca e with ⟨e1, rfl⟩ | ⟨h, e⟩
    · subst e1
      exact ⟨p, by simp, own⟩
    · rw [List.getElem?_append_left h]
      exact w.sl.at_ i s e
  · rcases ca e1 with ⟨a1, b1⟩ | ⟨a1, b1⟩
    · rcases ca e2 with ⟨a2, b2⟩ | ⟨a2, b2⟩
      · rw [a1, a2]
      · rw [a1] at h1
        simp at h1
        rw [List.getElem?_append_left a2] at h2
        exact absurd (h1 ▸ h2) (hd j zs b2)
    · rcases ca e2 with ⟨a2, b2⟩ | ⟨a2, b2⟩
      · rw [a2] at h2
        simp at h2
        rw [List.getElem?_append_left a1] at h1
        exact absurd (h2 ▸ h1) (hd i ys b1)
      · rw [List.getElem?_append_left a1] at h1
        rw [List.getElem?_append_left a2] at h2
        exact w.sl.dis i j ys zs q b1 b2 h1 h2
/-- a kept value -/
def Kp (G : Glb) (F : Hp) (io : List Addr) (n : Nat) (ρ : St) : RV → V → Prop
  | .out (.val d), v => Rep G F io d v
  | .out (.fresh _), _ => False
  | .var j, v => n ≤ j → ρ[j]? = some (some v)
theorem Kp.mono {G : Glb} {n : Nat} {ρ : St} {F' : Hp} {io' : List Addr} {x : List (Option V)} (s : Same F F') (p : Pre io io') {r : RV} {v : V} (h : Kp G F io n ρ r v) : Kp G F' io' n (ρ ++ x) r v := by
  cases r with
  | out o =>
    cases o with
    | val d => exact Rep.mono s p h
    | fresh xs => exact h
  | var i =>
    intro hn
    have := h hn
    rw [List.getElem?_append_left (List.getElem?_eq_some_iff.mp this).1]; exact this
theorem par_read (h : SEs E es ts) : ∀ {fr : Fr} {x : St} {H F : Hp} {io : List Addr} {P : List RV → Fr → Prop} {R : List V → Hp → Prop}, σ.length = E.X.N.length → E.ws fr (σ ++ (tp ++ x)) H F io →
    (parGo E.T (σ ++ tp).length ts fr).all P (fun c fs fr => exE E σ tp F io c fs (cutE (σ ++ tp).length fr)) →
    (∀ rs fr1 vs y H1 F1 io1, Same F F1 → Pre io io1 → E.ws fr1 (σ ++ (tp ++ y)) H1 F1 io1 → Paired (Kp E.G F1 io1 (σ ++ tp).length (σ ++ (tp ++ y))) rs vs → (∃ z, y = x ++ z) → P rs fr1 → R vs H1) → wA E.X es σ H R := by
  induction h with
  | nil =>
    intro fr x H F io P R hl w h q
    exact wA_of pa_nil (q [] fr [] x H F io (Same.refl _) (Pre.refl _) w .nil ⟨[], by simp⟩ h)
  | @cons e t es ts hs he hr ih =>
    intro fr x H F io P R hl w h q
    refine wA_of (pa_cons pe_w pa_w (star_ne hs _ _)) ?_
    unfold parGo at h
    have cx : ∀ {F1 : Hp} {io1 : List Addr} {y : St} {c : Nat} {fs : List Ag.D} {fr : Fr}, Same F F1 → Pre io io1 → exE E σ tp F io c fs (cutE (σ ++ tp).length fr) → exE E σ (tp ++ y) F1 io1 c fs fr := fun {F1 io1 y c fs fr} s p hx d H' F' io' s2 p2 w2 xo => by
      refine hx d H' F' io' (s.trans s2) (p.trans p2) ?_ xo
      have := Ws.cut w2 (σ ++ tp).length
      rwa [← List.append_assoc, List.take_left] at this
    refine he fr σ (tp ++ x) H F io _ hl w (Rs.all_imp (Rs.all_bind h) (fun r fr1 z => ?_) fun _ _ _ z => cx (Same.refl _) (Pre.refl _) z)
    intro v H1 F1 io1 s1 p1 w1 rv
    have gen : ∀ (r' : RV) (fr2 : Fr) (y : St), (∃ z, y = x ++ z) → E.ws fr2 (σ ++ (tp ++ y)) H1 F1 io1 → Kp E.G F1 io1 (σ ++ tp).length (σ ++ (tp ++ y)) r' v →
        ((parGo E.T (σ ++ tp).length ts fr2).bind fun rs fr2 => .ok (r' :: rs) fr2).all P (fun c fs fr => exE E σ tp F io c fs (cutE (σ ++ tp).length fr)) → wA E.X es σ H1 fun vs H2 => R (v :: vs) H2 := by
      intro r' fr2 y hy w2 hk z
      refine ih hl w2 (Rs.all_imp (Rs.all_bind z) (fun _ _ z => z) fun _ _ _ z => z.mono s1 p1) fun rs fr3 vs y2 H3 F3 io3 s3 p3 w3 hp hy2 z3 => ?_
      obtain ⟨z2, e2⟩ := hy2
      obtain ⟨z1, e1⟩ := hy
      refine q (r' :: rs) fr3 (v :: vs) y2 H3 F3 io3 (s1.trans s3) (p1.trans p3) w3 (.cons ?_ hp) ⟨z1 ++ z2, by rw [e2, e1, List.append_assoc]⟩ z3
      have := hk.mono s3 p3 (x := z2)
      rw [e2]
      simpa [List.append_assoc] using this
    cases r with
    | out o =>
      cases o with
      | val d => exact gen (.out (.val d)) fr1 x ⟨[], by simp⟩ w1 rv z
      | fresh xs =>
        have w2 := w1.keepT rv
        have hlen : fr1.env.length = (σ ++ (tp ++ x)).length := w1.sl.len
        refine gen (.var fr1.env.length) { fr1 with env := fr1.env ++ [.own xs] } (x ++ [some v]) ⟨_, rfl⟩ (by simpa [List.append_assoc] using w2) (fun _ => ?_) z
        rw [hlen]
        simp [← List.append_assoc]
    | var j =>
      refine gen (.var j) fr1 x ⟨[], by simp⟩ w1 (fun hn => ?_) z
      exact rv
def setsV (σ : St) : List Nat → List V → St
  | i :: is, v :: vs => setsV (σ.set i (some v)) is vs
  | _, _ => σ
theorem setsV_len : ∀ {is : List Nat} {vs : List V} {σ : St}, (setsV σ is vs).length = σ.length
  | [], _, _ => by cases ‹List V› <;> rfl
  | i :: is, [], _ => rfl
  | i :: is, v :: vs, σ => by show (setsV (σ.set i (some v)) is vs).length = _; rw [setsV_len, List.length_set]
theorem par_set {y : St} : ∀ {is : List Nat} {rs : List RV} {vs : List V} {fr fr' : Fr} {σ : St}, (∀ i ∈ is, i < σ.length) → E.ws fr (σ ++ (tp ++ y)) H F io → Paired (Kp E.G F io (σ ++ tp).length (σ ++ (tp ++ y))) rs vs →
    parSet (σ ++ tp).length is rs fr = some fr' → E.ws fr' (setsV σ is vs ++ (tp ++ y)) H F io ∧ is.length = rs.length
  | [], [], vs, fr, fr', σ, hi, w, r, e => by
    cases r
    unfold parSet at e; cases e; exact ⟨w, rfl⟩
  | [], _ :: _, _, _, _, _, _, _, _, e => by unfold parSet at e; cases e
  | _ :: _, [], _, _, _, _, _, _, _, e => by unfold parSet at e; cases e
  | i :: is, r0 :: rs, [], fr, fr', σ, hi, w, r, e => by cases r
  | i :: is, r0 :: rs, v :: vs', fr, fr', σ, hi, w, r, e => by
    obtain ⟨h, t⟩ : Kp E.G F io (σ ++ tp).length (σ ++ (tp ++ y)) r0 v ∧ Paired (Kp E.G F io (σ ++ tp).length (σ ++ (tp ++ y))) rs vs' := by cases r with | cons h t => exact ⟨h, t⟩
    have h0 : i < σ.length := hi i List.mem_cons_self
    have h1 : i < (σ ++ (tp ++ y)).length := by rw [List.length_append]; omega
    have hlen : (σ.set i (some v) ++ tp).length = (σ ++ tp).length := by simp
    have hi' : ∀ j ∈ is, j < (σ.set i (some v)).length := fun j hj => by rw [List.length_set]; exact hi j (List.mem_cons_of_mem _ hj)
    have tk : Paired (Kp E.G F io (σ.set i (some v) ++ tp).length (σ.set i (some v) ++ (tp ++ y))) rs vs' := by
      rw [hlen]
      refine Paired.mapP t fun r u k => ?_
      cases r with
      | out o => cases o with | val d => exact k | fresh xs => exact k
      | var j =>
        intro hn
        have k' := k hn
        rw [set_app h0]
        have : i ≠ j := fun z => by rw [List.length_append] at hn; omega
        rw [List.getElem?_set_ne this]; exact k'
    unfold parSet at e
    cases r0 with
    | out o =>
      cases o with
      | val d =>
        have w2 := w.put h1 h
        rw [← set_app h0] at w2
        have := par_set hi' w2 tk (by rw [hlen]; exact e)
        exact ⟨this.1, by rw [List.length_cons, List.length_cons, this.2]⟩
      | fresh xs => cases e
    | var j =>
      by_cases hn : (σ ++ tp).length ≤ j
      · simp only [if_pos hn] at e
        cases q : fr.env[j]? with
        | none => simp [q] at e
        | some sl =>
          cases sl with
          | un => simp [q] at e
          | val d => simp [q] at e
          | own xs =>
            simp only [q] at e
            obtain ⟨w2, rv2⟩ := w.giveSlot q
            have w3 := w2.putOwn h1 (rv2 v (h hn))
            rw [← set_app h0] at w3
            have := par_set hi' w3 tk (by rw [hlen]; exact e)
            exact ⟨this.1, by rw [List.length_cons, List.length_cons, this.2]⟩
      · simp only [if_neg hn] at e; cases e
/-- the model's statement stores the values of es at is -/
def ParOk (E : En) (st : Stmt) (is : List Nat) (es : List Expr) : Prop := ∀ (σ : St) (H : Hp) (D : Ends), σ.length = E.X.N.length → wA E.X es σ H (fun vs H1 => vs.length = is.length ∧ D.nx (setsV σ is vs) H1 ∧ ∀ p, H1 p = none → D.nx (setsV σ is vs) (upd H1 p (.tup vs))) → wS E.X st D σ H
theorem SS_par {st : Stmt} {is : List Nat} (hp : ParOk E st is es) (hi : ∀ i ∈ is, i < E.X.N.length) (h : SEs E es ts) : SS E st (.par is ts) := by
  intro fr σ tp H F io D hl w hh
  refine hp σ H D hl ?_
  unfold ex at hh
  have hlen : fr.env.length = (σ ++ tp).length := w.sl.len
  rw [hlen] at hh
  have h0 := Rs.all_toS hh
  have h1 : (parGo E.T (σ ++ tp).length ts fr).all (fun rs fr1 => ((match parSet (σ ++ tp).length is rs fr1 with | some fr2 => Sx.next (cutE (σ ++ tp).length fr2) | none => .bad) : Sx).all (okS E tp F io D)) (fun c fs fr => exE E σ tp F io c fs (cutE (σ ++ tp).length fr)) := by
    cases q : parGo E.T (σ ++ tp).length ts fr with
    | ok a fr1 => rw [q] at h0; exact h0
    | exc c fs fr1 => rw [q] at h0; exact okS.exE hl h0
    | bad => rw [q] at h0; exact h0.elim
  refine par_read h (x := []) hl (by rw [List.append_nil]; exact w) h1 fun rs fr1 vs y H1 F1 io1 s p w1 hk _ z => ?_
  cases q : parSet (σ ++ tp).length is rs fr1 with
  | none => rw [q] at z; exact False.elim z
  | some fr2 =>
    rw [q] at z
    obtain ⟨w2, hlen2⟩ := par_set (fun i h => by rw [hl]; exact hi i h) w1 hk q
    have w3 : E.ws (cutE (σ ++ tp).length fr2) (setsV σ is vs ++ tp) H1 F1 io1 := by
      have := Ws.cut w2 (σ ++ tp).length
      have e2 : (σ ++ tp).length = (setsV σ is vs ++ tp).length := by simp [setsV_len]
      rw [← List.append_assoc] at this
      rw [e2, List.take_left] at this
      rw [e2]; exact this
    have hv : vs.length = is.length := by
      rw [hlen2]
      exact (Paired.length hk).symm
    refine ⟨hv, z _ H1 F1 io1 (by rw [setsV_len]; exact hl) s p w3, fun l hl2 => ?_⟩
    have hF : F1 l = none := (w3.wr.fresh hl2).1
    have w4 := w3.grow hl2 (.tup vs) (Same.refl F1) (fun _ _ => rfl) (fun a u e => by rw [upd_ne (ne_of_none (w3.wr.sub a u e) hl2)]; exact w3.wr.sub a u e) (fun u e => by rw [hF] at e; cases e)
    exact z _ _ F1 io1 (by rw [setsV_len]; exact hl) s p w4
end
end Ag
namespace Ag
open PySem PySem.Spec L2
section
variable {E : En} {e a b c : Expr} {ta tb tc : Tm} {fr : Fr} {σ tp : St} {H F : Hp} {io : List Addr} {Q : VK} {pos : Pos} {es : List Expr} {ts : List Tm} {D : Ends}

/-! ### the forms of several targets -/
/-- names as targets -/
inductive Nms (E : En) : List Expr → List Nat → Prop
  | nil : Nms E [] []
  | cons {x : Str} {p : Pos} {i : Nat} {es is} : E.X.N[i]? = some x → Loc E.X.env.scope x → (E.X.fn x = true ∨ E.X.env.scope.names.lookup x = some .local) → Nms E es is → Nms E (.Name x p :: es) (i :: is)
def gNms (is : List Nat) : TGs := fun vs σ H Q => vs.length = is.length ∧ Q (setsV σ is vs) H
theorem Nms.pgs (ok : E.Ok) {tgs : List Expr} {is : List Nat} (h : Nms E tgs is) : PGs E.X tgs (gNms is) := by
  induction h with
  | nil => exact ⟨fun pins s σ H vs us Q I r h => by
      obtain ⟨hl, q⟩ := h
      have e : vs = [] := List.length_eq_zero_iff.mp hl
      exact pgs_nil.run pins s σ H vs us Q I r ⟨e, by subst e; exact q⟩⟩
  | cons h1 h2 h3 _ ih => exact ⟨fun pins s σ H vs us Q I r h => by
      obtain ⟨hl, q⟩ := h
      cases vs with
      | nil => cases hl
      | cons v vs => exact (pgs_cons (pg_name ok.nd h1 h2 h3) ih (assign_ne rfl _ _)).run pins s σ H (v :: vs) us Q I r ⟨v, vs, rfl, by simpa using hl, q⟩⟩
theorem Nms.star {tgs : List Expr} {is : List Nat} (h : Nms E tgs is) : allNot tgs = true ∧ tgs.length = is.length := by
  induction h with
  | nil => exact ⟨rfl, rfl⟩
  | cons _ _ _ _ ih =>
    refine ⟨?_, by simp [ih.2]⟩
    have := ih.1
    unfold allNot at this ⊢
    rw [List.all_cons, this]; rfl
theorem par_gen (ok : E.Ok) {tgs : List Expr} {is : List Nat} {k k2 : Nat} {pt pt2 : Pos} (h : Nms E tgs is) (hz : is.length < 100) (hw : swappedStores [.Tuple tgs k pt] (.Tuple es k2 pt2) E.X.env = pure none) :
    ParOk E (.Assign [.Tuple tgs k pt] (.Tuple es k2 pt2) pos) is es := by
  intro σ H D hl hh
  refine wS_of (ps_asg (pe_tup pa_w) (pg_tup ok.calm (h.pgs ok) (assign_len _ _) (assign_find h.star.1 _)) (by rfl) hw (by rfl)) ?_
  show wA E.X es σ H _
  refine fun pos pins s I => thn (hh pos pins s I) fun us s1 ⟨vs, H1, I1, r, e1, q1, q2⟩ => ⟨vs, H1, I1, r, ?_, fun p hp => ?_⟩
  · rw [e1]; exact Nat.le_trans (Nat.le_of_lt hz) (by decide)
  · exact ⟨p, vs, rfl, SqT.of upd_same, by rw [e1, h.star.2], e1, q2 p hp⟩
theorem par_two (ok : E.Ok) (hk : E.X.env.scope.kind = .function) {x y : Str} {i j : Nat} {px py pt pt2 : Pos} {k k2 : Nat} (hi : E.X.N[i]? = some x) (hj : E.X.N[j]? = some y) (hij : i ≠ j) (hx : E.X.env.scope.names.lookup x = some .local) (hy : E.X.env.scope.names.lookup y = some .local)
    (hl : (py.line == px.line) = true) (hs : allNot [a, b] = true) (hf : ([a, b].all (foldedForSure 8)) = false) (hc : ([a, b].all (constantsAlone 8)) = false) :
    ParOk E (.Assign [.Tuple [.Name x px, .Name y py] k pt] (.Tuple [a, b] k2 pt2) pos) [i, j] [a, b] := by
  intro σ H D hl2 hh
  have hxy : x ≠ y := fun z => hij (nodup_ix ok.nd hi (z ▸ hj))
  refine wS_of (ps_par ok.calm ok.nd hi hj hij hx hy pa_w (swap2_some hk hx hy hl hxy hs hf hc) (by rfl)) ?_
  refine fun pos pins s I => thn (hh pos pins s I) fun us s1 ⟨vs, H1, I1, r, e1, q1, q2⟩ => ⟨vs, H1, I1, r, ?_⟩
  cases vs with
  | nil => cases e1
  | cons v vs => cases vs with
    | nil => cases e1
    | cons u vs => cases vs with
      | nil => exact ⟨v, u, rfl, q1⟩
      | cons => cases e1
theorem par_three (ok : E.Ok) (hk : E.X.env.scope.kind = .function) {x y z : Str} {i j l : Nat} {px py pz pt pt2 : Pos} {k k2 : Nat} (hi : E.X.N[i]? = some x) (hj : E.X.N[j]? = some y) (hl : E.X.N[l]? = some z) (hij : i ≠ j) (hil : i ≠ l) (hjl : j ≠ l)
    (hx : E.X.env.scope.names.lookup x = some .local) (hy : E.X.env.scope.names.lookup y = some .local) (hz : E.X.env.scope.names.lookup z = some .local)
    (hly : (py.line == px.line) = true) (hlz : (pz.line == px.line) = true) (hs : allNot [a, b, c] = true) (hf : ([a, b, c].all (foldedForSure 8)) = false) (hc : ([a, b, c].all (constantsAlone 8)) = false) :
    ParOk E (.Assign [.Tuple [.Name x px, .Name y py, .Name z pz] k pt] (.Tuple [a, b, c] k2 pt2) pos) [i, j, l] [a, b, c] := by
  intro σ H D hl2 hh
  have hxy : x ≠ y := fun q => hij (nodup_ix ok.nd hi (q ▸ hj))
  have hxz : x ≠ z := fun q => hil (nodup_ix ok.nd hi (q ▸ hl))
  have hyz : y ≠ z := fun q => hjl (nodup_ix ok.nd hj (q ▸ hl))
  refine wS_of (ps_par3 ok.calm ok.nd hi hj hl hij hil hjl hx hy hz pa_w (swap3_some hk hx hy hz hly hlz hxy hxz hyz hs hf hc) (by rfl)) ?_
  refine fun pos pins s I => thn (hh pos pins s I) fun us s1 ⟨vs, H1, I1, r, e1, q1, q2⟩ => ⟨vs, H1, I1, r, ?_⟩
  cases vs with
  | nil => cases e1
  | cons v vs => cases vs with
    | nil => cases e1
    | cons u vs => cases vs with
      | nil => cases e1
      | cons w vs => cases vs with
        | nil => exact ⟨v, u, w, rfl, q1⟩
        | cons => cases e1

/-! ### loops -/
theorem SS_whil (ok : E.Ok) (hp : PassesOwn (model E.X.prog E.X.w) E.X.A E.X.env E.X.xe) {B : List Stmt} {tB : List Stm} (hc : ST E c tc) (hB : SSs E B tB) : SS E (.While c B [] pos) (.whil tc tB) := by
  intro fr σ tp H F io D hl w h
  refine wS_of (ps_while hp pt_w pss_w) ?_
  unfold ex at h
  have hn : ∃ n, (whilN (fun fr1 => (ev E.T tc fr1).fr fun d fr2 => asB d fr2 fun k fr3 => .ok k fr3) (fun fr1 => exs E.T tB fr1) n fr).all (okS E tp F io D) := by
    unfold whilGo at h
    split at h
    · exact ⟨_, h⟩
    · exact h.elim
  clear h
  obtain ⟨n, hn⟩ := hn
  refine ⟨fun m σ H => ∃ fr F' io', σ.length = E.X.N.length ∧ Same F F' ∧ Pre io io' ∧ E.ws fr (σ ++ tp) H F' io' ∧ (whilN (fun fr1 => (ev E.T tc fr1).fr fun d fr2 => asB d fr2 fun k fr3 => .ok k fr3) (fun fr1 => exs E.T tB fr1) m fr).all (okS E tp F' io' D),
    ⟨n, fr, F, io, hl, Same.refl _, Pre.refl _, w, hn⟩, ?_⟩
  rintro m σ1 H1 ⟨fr1, F1, io1, hl1, s1, p1, w1, h1⟩
  cases m with
  | zero => unfold whilN at h1; exact h1.elim
  | succ m =>
    unfold whilN at h1
    have h2 := Rs.all_toS h1
    have h3 : ((ev E.T tc fr1).fr fun d fr2 => asB d fr2 fun k fr3 => Rs.ok k fr3).all _ (exE E σ1 tp F1 io1) := Rs.all_imp h2 (fun _ _ z => z) fun _ _ _ z => okS.exE hl1 z
    refine hc.test hl1 w1 h3 fun t fr2 H2 F2 io2 s2 p2 w2 z => ?_
    cases t with
    | false =>
      have z : (okS E tp F1 io1 D).next fr2 := z
      exact z σ1 H2 F2 io2 hl1 s2 p2 w2
    | true =>
      have z' : ((match exs E.T tB fr2 with
        | .next fr3 => whilN (fun fr1 => (ev E.T tc fr1).fr fun d fr2 => asB d fr2 fun k fr3 => .ok k fr3) (fun fr1 => exs E.T tB fr1) m fr3
        | .cont fr3 => whilN (fun fr1 => (ev E.T tc fr1).fr fun d fr2 => asB d fr2 fun k fr3 => .ok k fr3) (fun fr1 => exs E.T tB fr1) m fr3
        | .brk fr3 => .next fr3
        | r => r) : Sx).all (okS E tp F1 io1 D) := z
      rw [if_pos rfl]
      have s12 : Same F F2 := s1.trans s2
      have p12 : Pre io io2 := p1.trans p2
      refine ⟨fun σ' H' => ∃ fr F' io', σ'.length = E.X.N.length ∧ Same F F' ∧ Pre io io' ∧ E.ws fr (σ' ++ tp) H' F' io' ∧ (whilN (fun fr1 => (ev E.T tc fr1).fr fun d fr2 => asB d fr2 fun k fr3 => .ok k fr3) (fun fr1 => exs E.T tB fr1) m fr).all (okS E tp F' io' D),
        fun σ' H' q => ⟨m, Nat.lt_succ_self m, q⟩, ?_⟩
      refine hB fr2 σ1 tp H2 F2 io2 _ hl1 w2 ?_
      have z2 := okS.mono s2 p2 z'
      clear z z'
      cases q : exs E.T tB fr2 with
      | next fr3 => rw [q] at z2; exact fun σ3 H3 F3 io3 l3 s3 p3 w3 => ⟨fr3, F3, io3, l3, s12.trans s3, p12.trans p3, w3, okS.mono s3 p3 z2⟩
      | cont fr3 => rw [q] at z2; exact fun σ3 H3 F3 io3 l3 s3 p3 w3 => ⟨fr3, F3, io3, l3, s12.trans s3, p12.trans p3, w3, okS.mono s3 p3 z2⟩
      | brk fr3 => rw [q] at z2; exact z2
      | ret o fr3 => rw [q] at z2; exact z2
      | exc c fs fr3 => rw [q] at z2; exact z2
      | bad => rw [q] at z2; exact z2

/-- what a for walks -/
def wI (X : Cx) (tg iter : Expr) : TI := fun σ H R => ∀ (pins : List (Addr × Obj)) (s : Shared), Inv X pins σ H s → wpAny (model X.prog X.w) X.A (eval iter X.env) (fun v s1 => wpAny (model X.prog X.w) X.A (pyIter v) (PIE X pins σ tg R) X.xe s1) X.xe s
theorem pi_w {X : Cx} {tg iter : Expr} : PI X tg iter (wI X tg iter) := ⟨fun pins s σ H R I h => h pins s I⟩
theorem wI_of {X : Cx} {tg iter : Expr} {wi : TI} {σ : St} {H : Hp} {R : It → Hp → Prop} (h : PI X tg iter wi) (q : wi σ H R) : wI X tg iter σ H R := fun pins s I => h.run pins s σ H R I q
/-- a turn's thing: a part of F, or a new tuple of such -/
def YD (G : Glb) (F : Hp) (io : List Addr) (H : Hp) (v : V) (H' : Hp) (x : Ag.D) : Prop :=
  (H' = H ∧ Rep G F io x v) ∨ ∃ p vs ds, H p = none ∧ H' = upd H p (.tup vs) ∧ v = .ref p ∧ x = .tup ds ∧ Reps G F io ds vs
def WalkD (G : Glb) (J : It) (xs : List Ag.D) (F : Hp) (io : List Addr) : Prop := Walk J xs.length (fun H => Same F H) fun i H v H' => ∃ x, xs[i]? = some x ∧ YD G F io H v H' x
theorem YD.use {G : Glb} {H0 : Ent} {n0 : Nat} {ρ : St} {F0 : Hp} {io0 : List Addr} {H' : Hp} {v : V} {x : Ag.D} (y : YD G F0 io0 H v H' x) (s : Same F0 F) (p : Pre io0 io) (w : Ws G H0 n0 fr ρ H F io) : ∃ F', Same F F' ∧ Ws G H0 n0 fr ρ H' F' io ∧ Rep G F' io x v := by
  rcases y with ⟨rfl, r⟩ | ⟨q, vs, ds, hq, rfl, rfl, rfl, r⟩
  · exact ⟨F, Same.refl _, w, r.mono s p⟩
  · exact w.newTup hq (r.mono s p)
def SI (E : En) (tg iter : Expr) (it : Iter) : Prop := ∀ (fr : Fr) (σ tp : St) (H F : Hp) (io : List Addr) (R : It → Hp → Prop), σ.length = E.X.N.length → E.ws fr (σ ++ tp) H F io →
  (evi E.T it fr).all (fun xs fr1 => ∀ J H1 F1 io1, Same F F1 → Pre io io1 → E.ws fr1 (σ ++ tp) H1 F1 io1 → WalkD E.G J xs F1 io1 → R J H1) (exE E σ tp F io) → wI E.X tg iter σ H R
theorem SS_for (ok : E.Ok) (hp : PassesOwn (model E.X.prog E.X.w) E.X.A E.X.env E.X.xe) {tg iter : Expr} {g : Tg} {it : Iter} {B : List Stmt} {tB : List Stm} (hi : SI E tg iter it) (hg : SG E tg g) (hB : SSs E B tB) (hs : ∀ x, foldedSetIterable iter E.X.env x = pure x) :
    SS E (.For tg iter B [] pos) (.for_ g it tB) := by
  intro fr σ tp H F io D hl w h
  refine wS_of (ps_for hp ok.calm pi_w pg_w pss_w hs) ?_
  unfold ex at h
  refine hi fr σ tp H F io _ hl w (Rs.all_imp (Rs.all_toS h) (fun xs fr1 z => ?_) fun _ _ _ z => okS.exE hl z)
  intro J H1 F1 io1 s1 p1 w1 wd
  refine for_it (w := wd) (fun i σ H => ∃ fr F' io', σ.length = E.X.N.length ∧ Same F1 F' ∧ Pre io1 io' ∧ E.ws fr (σ ++ tp) H F' io' ∧ (forGo (bindT g) (fun fr2 => exs E.T tB fr2) (xs.drop i) fr).all (okS E tp F' io' D))
    ⟨fr1, F1, io1, hl, Same.refl _, Pre.refl _, w1, by simpa using okS.mono s1 p1 z⟩ (fun i σ H _ ⟨fr, F', io', _, s, _, w, _⟩ => s.trans w.wr.sub) ?_ ?_
  · rintro i v σ2 H2 H3 hlt ⟨fr2, F2, io2, l2, s2, p2, w2, h2⟩ ⟨x, ex, y⟩
    obtain ⟨F3, s3, w3, r3⟩ := y.use s2 p2 w2
    have ed : xs.drop i = x :: xs.drop (i + 1) := by
      obtain ⟨hlt', e⟩ := List.getElem?_eq_some_iff.mp ex
      rw [← e]; exact List.drop_eq_getElem_cons hlt'
    rw [ed] at h2
    unfold forGo at h2
    cases q : bindT g x fr2 with
    | none => rw [q] at h2; exact h2.elim
    | some fr3 =>
      rw [q] at h2
      refine hg fr2 fr3 σ2 tp H3 F3 io2 x v _ l2 w3 r3 q fun σ3 l3 w4 => ?_
      refine hB fr3 σ3 tp H3 F3 io2 _ l3 w4 ?_
      have h3 := okS.mono s3 (Pre.refl _) h2
      have s23 := s2.trans s3
      cases q2 : exs E.T tB fr3 with
      | next fr5 => simp only [q2] at h3; exact fun σ5 H5 F5 io5 l5 s5 p5 w5 => ⟨fr5, F5, io5, l5, s23.trans s5, p2.trans p5, w5, okS.mono s5 p5 h3⟩
      | cont fr5 => simp only [q2] at h3; exact fun σ5 H5 F5 io5 l5 s5 p5 w5 => ⟨fr5, F5, io5, l5, s23.trans s5, p2.trans p5, w5, okS.mono s5 p5 h3⟩
      | brk fr5 => simp only [q2] at h3; exact h3
      | ret o fr5 => simp only [q2] at h3; exact h3
      | exc c fs fr5 => simp only [q2] at h3; exact h3
      | bad => simp only [q2] at h3; exact h3
  · rintro σ2 H2 ⟨fr2, F2, io2, l2, s2, p2, w2, h2⟩
    rw [List.drop_length] at h2
    unfold forGo at h2
    exact h2 σ2 H2 F2 io2 l2 (Same.refl _) (Pre.refl _) w2
end
end Ag
namespace Ag
open PySem PySem.Spec L2
section
variable {X : Cx} {pins : List (Addr × Obj)} {σ : St} {H : Hp} {s : Shared} {a : Addr} {tg : Expr} {R : It → Hp → Prop}
theorem iter_list (I : Inv X pins σ H s) {xs : List V} (hq : SqL X.K H a xs) (q : R (Itl X.K a) H) : wpAny (model X.prog X.w) X.A (pyIter (.ref a)) (PIE X pins σ tg R) X.xe s := by
  obtain ⟨its, rv, p, hz⟩ := I.list hq
  refine wpAny_pyIter_list p.isList ?_
  refine ⟨s.heap.objs.size, [s.heap.objs.size], _, _, H, rfl, I.kept (t' := s.toks) fun b o e => Heap.get?_push_of_some _ e, turn_list a _, ⟨_, Heap.get?_push_size _ rfl, rfl, rfl⟩, fun b hb => ?_, q⟩
  have e : b = s.heap.objs.size := by simpa using hb
  subst e
  exact I.fpOk (Nat.le_refl _) (I.hok.fresh (Nat.le_refl _))
theorem iter_tup (I : Inv X pins σ H s) {xs : List V} (hq : SqT X.K H a xs) (q : R (Itt X.K a) H) : wpAny (model X.prog X.w) X.A (pyIter (.ref a)) (PIE X pins σ tg R) X.xe s := by
  obtain ⟨its, rv, p, hz⟩ := I.tuple hq
  refine wpAny_pyIter_tuple (show s.heap.IsTuple a its.toArray from p) ?_
  refine ⟨s.heap.objs.size, [s.heap.objs.size], _, _, H, rfl, I.kept (t' := s.toks) fun b o e => Heap.get?_push_of_some _ e, turn_tuple a _, ⟨_, Heap.get?_push_size _ rfl, rfl, rfl⟩, fun b hb => ?_, q⟩
  have e : b = s.heap.objs.size := by simpa using hb
  subst e
  exact I.fpOk (Nat.le_refl _) (I.hok.fresh (Nat.le_refl _))
end
section
variable {E : En} {e a b c : Expr} {ta tb tc : Tm} {fr : Fr} {σ tp : St} {H F : Hp} {io : List Addr} {Q : VK} {pos : Pos} {es : List Expr} {ts : List Tm} {D : Ends}
theorem walkL {G : Glb} {p : Addr} {vs : List V} {xs : List Ag.D} (h : F p = some (.lst vs)) (r : Reps G F io xs vs) : WalkD G (Itl G.K p) xs F io := by
  have w := walk_list (K := G.K) (a := p) (xs := vs)
  refine ⟨fun i H hi s => w.goes i H (by rw [← r.length]; exact hi) (SqL.of (s _ _ h)), fun H s => by rw [r.length]; exact w.stops H (SqL.of (s _ _ h)), fun i H x H' hi s y => ?_⟩
  obtain ⟨e1, e2⟩ := w.yields i H x H' (by rw [← r.length]; exact hi) (SqL.of (s _ _ h)) y
  obtain ⟨u, g1, g2⟩ := r.get (List.getElem?_eq_getElem hi)
  rw [e2] at g1; cases g1
  exact ⟨_, List.getElem?_eq_getElem hi, .inl ⟨e1, g2⟩⟩
theorem walkT {G : Glb} {p : Addr} {vs : List V} {xs : List Ag.D} (h : SqT G.K F p vs) (r : Reps G F io xs vs) : WalkD G (Itt G.K p) xs F io := by
  have w := walk_tup (K := G.K) (a := p) (xs := vs)
  refine ⟨fun i H hi s => w.goes i H (by rw [← r.length]; exact hi) (Same.sqT s h), fun H s => by rw [r.length]; exact w.stops H (Same.sqT s h), fun i H x H' hi s y => ?_⟩
  obtain ⟨e1, e2⟩ := w.yields i H x H' (by rw [← r.length]; exact hi) (Same.sqT s h) y
  obtain ⟨u, g1, g2⟩ := r.get (List.getElem?_eq_getElem hi)
  rw [e2] at g1; cases g1
  exact ⟨_, List.getElem?_eq_getElem hi, .inl ⟨e1, g2⟩⟩
theorem SI_seq (ok : E.Ok) {tg : Expr} (ha : SE E a ta) : SI E tg a (.seq ta) := by
  intro fr σ tp H F io R hl w h
  unfold evi at h
  have hw : wE E.X a σ H fun v H1 => (∃ p xs, v = .ref p ∧ SqL E.X.K H1 p xs ∧ R (Itl E.X.K p) H1) ∨ (∃ p xs, v = .ref p ∧ SqT E.X.K H1 p xs ∧ R (Itt E.X.K p) H1) := by
    refine ha.part hl w h fun d fr1 v H1 F1 io1 s p w1 r z => ?_
    cases d with
    | lst xs =>
      cases r with
      | lst h1 r1 => exact .inl ⟨_, _, rfl, SqL.of (w1.wr.sub _ _ h1), ok.k ▸ z _ H1 F1 io1 s p w1 (walkL h1 r1)⟩
    | tup xs =>
      cases r with
      | tup h1 r1 => exact .inr ⟨_, _, rfl, ok.k ▸ Same.sqT w1.wr.sub h1, ok.k ▸ z _ H1 F1 io1 s p w1 (walkT h1 r1)⟩
    | _ => exact z.elim
  intro pins s I
  refine thn (hw pins s I) fun v s1 ⟨x, H1, I1, rx, q⟩ => ?_
  rcases q with ⟨p, xs, rfl, h1, q⟩ | ⟨p, xs, rfl, h1, q⟩
  · obtain rfl : v = Value.ref p := rx
    exact iter_list I1 h1 q
  · obtain rfl : v = Value.ref p := rx
    exact iter_tup I1 h1 q
theorem range_get {lo : Int} {n i : Nat} (h : i < n) : (rangeD lo n)[i]? = some (.int (lo + (i : Int))) := by
  unfold rangeD
  rw [List.getElem?_map, List.getElem?_range h]; rfl
theorem range_len {lo : Int} {n : Nat} : (rangeD lo n).length = n := by unfold rangeD; rw [List.length_map, List.length_range]
theorem walkR {G : Glb} {lo : Int} {n : Nat} : WalkD G (Itr lo n) (rangeD lo n) F io := by
  have w := walk_range (lo := lo) (n := n)
  refine ⟨fun i H hi s => w.goes i H (by rw [range_len] at hi; exact hi) trivial, fun H s => by rw [range_len]; exact w.stops H trivial, fun i H x H' hi s y => ?_⟩
  rw [range_len] at hi
  obtain ⟨e1, e2⟩ := w.yields i H x H' hi trivial y
  refine ⟨_, range_get hi, .inl ⟨e1, ?_⟩⟩
  rw [e2]; exact .int _
theorem SI_range1 (ok : E.Ok) {tg : Expr} {p : Pos} (hg : Gl E.X "range") (hm : E.X.mg "range" = none) (hs : notStar a = true) (ha : SE E a ta) : SI E tg (.Call (.Name "range" p) [a] [] pos) (.range1 ta) := by
  intro fr σ tp H F io R hl w h
  refine wI_of (pi_range1 hg hm (pa_cons pe_w pa_nil (star_ne hs _ _)) (star_ne hs _ _)) ?_
  unfold evi at h
  show wE E.X a σ H _
  refine ha.part hl w h fun d fr1 v H1 F1 io1 s p w1 r z => ?_
  cases d with
  | int n =>
    cases r
    have z : ((if n < 2 ^ 62 ∧ -(2 ^ 62) < n then Rs.ok (rangeD 0 n.toNat) fr1 else .bad : Rs (List Ag.D))).all _ (exE E σ tp F1 io1) := z
    split at z
    case isFalse => exact z.elim
    rename_i hz
    exact ⟨n, rfl, by omega, by omega, z _ H1 F1 io1 s p w1 walkR⟩
  | _ => exact z.elim
theorem SI_range2 (ok : E.Ok) {tg : Expr} {p : Pos} (hg : Gl E.X "range") (hm : E.X.mg "range" = none) (hs : notStar a = true) (hs2 : notStar b = true) (ha : SE E a ta) (hb : SE E b tb) : SI E tg (.Call (.Name "range" p) [a, b] [] pos) (.range2 ta tb) := by
  intro fr σ tp H F io R hl w h
  refine wI_of (pi_range2 hg hm (pa_cons pe_w (pa_cons pe_w pa_nil (star_ne hs2 _ _)) (star_ne hs _ _)) (by rw [star_ne hs, star_ne hs2]; rfl) (star_ne hs2 _ _)) ?_
  unfold evi at h
  show wE E.X a σ H fun x H1 => wE E.X b σ H1 fun y H2 => _
  refine ha.part hl w h fun d fr1 v H1 F1 io1 s1 p1 w1 r1 z => ?_
  refine hb.part hl w1 z fun d2 fr2 v2 H2 F2 io2 s2 p2 w2 r2 z2 => ?_
  cases d with
  | int i =>
    cases d2 with
    | int j =>
      cases r1
      cases r2
      have z2 : ((if -(2 ^ 62) < i ∧ i < 2 ^ 62 ∧ -(2 ^ 62) < j ∧ j < 2 ^ 62 then Rs.ok (rangeD i (j - i).toNat) fr2 else .bad : Rs (List Ag.D))).all _ (exE E σ tp F2 io2) := z2
      split at z2
      case isFalse => exact z2.elim
      rename_i hz
      exact ⟨i, j, rfl, ⟨by omega, by omega, by omega, by omega⟩, z2 _ H2 F2 io2 (s1.trans s2) (p1.trans p2) w2 walkR⟩
    | _ => exact z2.elim
  | _ => exact z2.elim
end
end Ag
namespace Ag
open PySem PySem.Spec L2

structure Cv where
  N : List Str
  fns : List (Str × Nat)
  nms : List (Str × Nat)
  meths : List Nat
  globs : List (Str × Nat)
  blts : List Str
  fnc : Str → Bool

def visB (sc : Scope) (x : Str) : Bool := match sc.names.lookup x with
  | some .local => true | some .cell => true | some .free => true | _ => false
def glB (sc : Scope) (x : Str) : Bool := match sc.names.lookup x with
  | some .globalImplicit => true | _ => false
def locB (C : Cv) (sc : Scope) (x : Str) : Bool := match sc.names.lookup x with
  | some .local => true | some .cell => C.fnc x | _ => false
def ixOf : List Str → Str → Option Nat
  | [], _ => none
  | y :: ys, x => if y = x then some 0 else (ixOf ys x).map (· + 1)
def dund (x : Str) : Bool := (x == ("__debug__" : Str)) || (x == ("__classdict__" : Str))
/-- the slot of a name that is read -/
def rdSlot (C : Cv) (sc : Scope) (x : Str) : Option Nat := if visB sc x && !dund x then ixOf C.N x else none
/-- the slot of a name that is stored -/
def wrSlot (C : Cv) (sc : Scope) (x : Str) : Option Nat := if locB C sc x then ixOf C.N x else none
def op2 : Operator → Option Op2
  | .Add => some .add | .Sub => some .sub | .Mult => some .mul | .FloorDiv => some .fdiv | .Mod => some .mod | .Pow => some .pow | _ => none
def cm2 : CmpOp → Cm
  | .Eq => .eq | .NotEq => .ne | .Lt => .lt | .LtE => .le | .Gt => .gt | .GtE => .ge | .Is => .is_ | .IsNot => .isn | .In => .in_ | .NotIn => .nin
def bi2 (x : Str) (n : Nat) : Option Bi :=
  if x == ("len" : Str) && n == 1 then some .len
  else if x == ("min" : Str) && n == 2 then some .min2
  else if x == ("max" : Str) && n == 2 then some .max2
  else if x == ("int" : Str) && n == 1 then some .int_
  else if x == ("tuple" : Str) && n == 1 then some .tuple_
  else if x == ("list" : Str) && n == 1 then some .list_
  else none
def popName (C : Cv) (sc : Scope) (o : Expr) (m : Str) : Option Nat := match o with
  | .Name x _ => if m == ("pop" : Str) then rdSlot C sc x else none
  | _ => none

def o2 {α β γ : Type} (x : Option α) (y : Option β) (f : α → β → Option γ) : Option γ := x.bind fun a => y.bind fun b => f a b
def o3 {α β γ δ : Type} (x : Option α) (y : Option β) (w : Option δ) (f : α → β → δ → Option γ) : Option γ := x.bind fun a => y.bind fun b => w.bind fun c => f a b c
mutual
def cvE (C : Cv) : Nat → Scope → Expr → Option Tm
  | 0, _, _ => none
  | n + 1, sc, e => match e with
    | .Name x _ => match rdSlot C sc x with
      | some i => some (.slot i)
      | none => if glB sc x && !dund x then (C.globs.lookup x).map .glob else none
    | .Constant .none _ _ => some .non
    | .Constant (.bool b) _ _ => some (.bl b)
    | .Constant (.int i) _ _ => some (.int i)
    | .Constant (.str s) _ _ => some (.str s)
    | .BinOp a op b _ => o3 (op2 op) (cvE C n sc a) (cvE C n sc b) fun o x y => some (.bin o x y)
    | .UnaryOp .USub a _ => (cvE C n sc a).map .neg
    | .UnaryOp .Not a _ => (cvE C n sc a).map .not_
    | .BoolOp _ [a] _ => cvE C n sc a
    | .BoolOp .And (a :: b :: r) p => o2 (cvE C n sc a) (cvE C n sc (.BoolOp .And (b :: r) p)) fun x y => some (.and_ x y)
    | .BoolOp .Or (a :: b :: r) p => o2 (cvE C n sc a) (cvE C n sc (.BoolOp .Or (b :: r) p)) fun x y => some (.or_ x y)
    | .Compare a [op] [b] _ => if behindInMarks op b then none else o2 (cvE C n sc a) (cvE C n sc b) fun x y => some (.cmp (cm2 op) x y)
    | .Compare a [op, op'] [b, c] _ => if lastMarks [op, op'] [b, c] then none else o3 (cvE C n sc a) (cvE C n sc b) (cvE C n sc c) fun x y z => some (.chain (cm2 op) (cm2 op') x y z)
    | .IfExp c a b _ => o3 (cvE C n sc c) (cvE C n sc a) (cvE C n sc b) fun x y z => some (.ite x y z)
    | .Call (.Name x _) es [] _ => if glB sc x && !dund x then (match cvEs C n sc es with
      | some ts => (match C.fns.lookup x with
        | some i => some (.call i ts)
        | none => if es.isEmpty || !C.blts.contains x then none else (bi2 x es.length).map fun b => .bi b ts)
      | none => none) else none
    | .Call (.Attribute o m apos) es [] pos => if apos.endLine == pos.line then (match popName C sc o m with
      | some i => if es.isEmpty then some (.pop i) else none
      | none => if notSuper o && decide (es.length < 28) then (o3 (cvE C n sc o) (C.nms.lookup m) (cvEs C n sc es) fun to k ts => if C.meths.contains k then some (.meth k to ts) else none) else none) else none
    | .Attribute o f _ => if notSuper o then (o2 (cvE C n sc o) (C.nms.lookup f) fun to k => some (.attr to k)) else none
    | .Subscript o (.Slice lo hi none _) _ => o3 (cvE C n sc o) (cvO C n sc lo) (cvO C n sc hi) fun to l h => some (.slice to l h)
    | .Subscript o i _ => if notSlice i then (o2 (cvE C n sc o) (cvE C n sc i) fun to ti => some (.ix to ti)) else none
    | .Tuple es _ _ => (cvEs C n sc es).map .tup
    | .List es _ => (cvEs C n sc es).map .lst
    | .Dict ks vs _ => if ks.isEmpty || decide (15 < ks.length) then none else (cvK C n sc ks vs).map .dict
    | _ => none
def cvEs (C : Cv) : Nat → Scope → List Expr → Option (List Tm)
  | 0, _, _ => none
  | _ + 1, _, [] => some []
  | n + 1, sc, e :: es => if notStar e then (o2 (cvE C n sc e) (cvEs C n sc es) fun t ts => some (t :: ts)) else none
def cvO (C : Cv) : Nat → Scope → Option Expr → Option (Option Tm)
  | 0, _, _ => none
  | _ + 1, _, none => some none
  | n + 1, sc, some e => (cvE C n sc e).map some
def cvK (C : Cv) : Nat → Scope → List (Option Expr) → List Expr → Option (List (Key × Tm))
  | 0, _, _, _ => none
  | _ + 1, _, [], [] => some []
  | n + 1, sc, some (.Constant (.str x) _ _) :: ks, v :: vs => (o2 (cvE C n sc v) (cvK C n sc ks vs) fun t ts => some ((.inr x, t) :: ts))
  | _, _, _, _ => none
end

structure CtxOk (C : Cv) (sc : Scope) (E : En) : Prop where
  ok : E.Ok
  N : E.X.N = C.N
  sc : E.X.env.scope = sc
  kind : E.X.env.scope.kind = .function
  fns : ∀ x i, C.fns.lookup x = some i → ∀ h0, CallOk (E.at h0) x i
  nms : ∀ x i, C.nms.lookup x = some i → E.G.fn i = x
  meths : ∀ m, C.meths.contains m = true → ∀ c i, E.T.psi c m = some i → ∀ h0, MethOk (E.at h0) c m i
  globs : ∀ x g, C.globs.lookup x = some g → ∃ d v u, E.T.glob g = some d ∧ E.X.mg x = some u ∧ RelV v u ∧ ∀ F io, Rep E.G F io d v
  blts : ∀ x, C.blts.contains x = true → E.X.mg x = none
  fnc : ∀ x, C.fnc x = true → E.X.fn x = true
theorem CtxOk.at {C : Cv} {sc : Scope} {E : En} (c : CtxOk C sc E) (h0 : Ent) : CtxOk C sc (E.at h0) :=
  ⟨c.ok.at h0, c.N, c.sc, c.kind, fun x i e h1 => c.fns x i e h1, c.nms, fun m h cc i e h1 => c.meths m h cc i e h1, c.globs, c.blts, c.fnc⟩

theorem ixOf_at : ∀ {N : List Str} {x : Str} {i : Nat}, ixOf N x = some i → N[i]? = some x
  | [], _, _, e => by cases e
  | y :: ys, x, i, e => by
    unfold ixOf at e
    by_cases h : y = x
    · rw [if_pos h] at e; cases e; simp [h]
    · rw [if_neg h] at e
      cases q : ixOf ys x with
      | none => rw [q] at e; cases e
      | some j => rw [q] at e; cases e; simpa using ixOf_at q
theorem vis_of {sc : Scope} {x : Str} (h : visB sc x = true) : Vis sc x := by
  unfold visB at h
  split at h <;> first | exact .inl (by assumption) | exact .inr (.inl (by assumption)) | exact .inr (.inr (by assumption)) | cases h
theorem gl_of {sc : Scope} {x : Str} (h : glB sc x = true) : sc.names.lookup x = some .globalImplicit := by
  unfold glB at h
  split at h <;> first | assumption | cases h
theorem loc_of {C : Cv} {sc : Scope} {x : Str} (h : locB C sc x = true) : Loc sc x ∧ (C.fnc x = true ∨ sc.names.lookup x = some .local) := by
  unfold locB at h
  split at h
  · exact ⟨.inl (by assumption), .inr (by assumption)⟩
  · exact ⟨.inr (by assumption), .inl h⟩
  · cases h
theorem dund_of {x : Str} (h : (!dund x) = true) : (x == ("__debug__" : Str)) = false ∧ (x == ("__classdict__" : Str)) = false := by
  unfold dund at h
  simp only [Bool.not_or, Bool.and_eq_true, Bool.not_eq_true'] at h
  exact h
theorem rd_of {C : Cv} {sc : Scope} {x : Str} {i : Nat} (h : rdSlot C sc x = some i) : C.N[i]? = some x ∧ Vis sc x ∧ (x == ("__debug__" : Str)) = false ∧ (x == ("__classdict__" : Str)) = false := by
  unfold rdSlot at h
  split at h
  · rename_i q
    rw [Bool.and_eq_true] at q
    exact ⟨ixOf_at h, vis_of q.1, dund_of q.2⟩
  · cases h
theorem wr_of {C : Cv} {sc : Scope} {x : Str} {i : Nat} (h : wrSlot C sc x = some i) : C.N[i]? = some x ∧ Loc sc x ∧ (C.fnc x = true ∨ sc.names.lookup x = some .local) := by
  unfold wrSlot at h
  split at h
  · rename_i q
    exact ⟨ixOf_at h, loc_of q⟩
  · cases h
theorem op2_of {op : Operator} {o : Op2} (h : op2 op = some o) : opM o = op := by
  cases op <;> cases h <;> rfl
theorem cm2_of (op : CmpOp) : cmM (cm2 op) = op := by cases op <;> rfl
end Ag
namespace Ag
open PySem PySem.Spec L2

theorem pair_some {α β γ : Type} {x : Option α} {y : Option β} {f : α → β → Option γ} {z : γ} (h : o2 x y f = some z) : ∃ a b, x = some a ∧ y = some b ∧ f a b = some z := by
  cases x with
  | none => cases h
  | some a => cases y with
    | none => cases h
    | some b => exact ⟨a, b, rfl, rfl, h⟩
theorem triple_some {α β γ δ : Type} {x : Option α} {y : Option β} {w : Option δ} {f : α → β → δ → Option γ} {z : γ} (h : o3 x y w f = some z) : ∃ a b c, x = some a ∧ y = some b ∧ w = some c ∧ f a b c = some z := by
  cases x with
  | none => cases h
  | some a => cases y with
    | none => cases h
    | some b => cases w with
      | none => cases h
      | some c => exact ⟨a, b, c, rfl, rfl, rfl, h⟩
theorem map_some {α β : Type} {x : Option α} {f : α → β} {z : β} (h : x.map f = some z) : ∃ a, x = some a ∧ f a = z := by
  cases x with
  | none => cases h
  | some a => exact ⟨a, rfl, Option.some.inj h⟩

def SWB (E : En) (e : Expr) (t : Tm) : Prop := ∀ op vs pos, e = .BoolOp op vs pos → SW E e t
def All (E : En) (e : Expr) (t : Tm) : Prop := SE E e t ∧ ST E e t ∧ SWB E e t

section
variable {E : En} {e a b c : Expr} {ta tb tc : Tm} {pos : Pos} {es : List Expr} {ts : List Tm}
theorem All.of {t : Tm} (he : SE E e t) (hp : ∀ whole, isTrue e E.X.env whole = (do let v ← whole; standAt e.pos; holding [v] (truthy v))) (hb : ∀ op vs pos, e ≠ .BoolOp op vs pos) : All E e t :=
  ⟨he, ST_of he hp, fun op vs pos z => absurd z (hb op vs pos)⟩
theorem SEs.notall (h : SEs E es ts) : allNot es = true := by
  induction h with
  | nil => rfl
  | cons h1 _ _ ih =>
    unfold allNot at ih ⊢
    rw [List.all_cons, h1, ih]; rfl
theorem SE_glob {g : Nat} {x : Str} (hg : Gl E.X x) (hd : (x == ("__debug__" : Str)) = false) (h : ∃ d v u, E.T.glob g = some d ∧ E.X.mg x = some u ∧ RelV v u ∧ ∀ F io, Rep E.G F io d v) : SE E (.Name x pos) (.glob g) := by
  intro fr σ tp H F io Q hl w hh
  obtain ⟨d, v, u, e1, e2, rv, rp⟩ := h
  refine wE_of (pe_glob hg e2 rv hd) ?_
  unfold ev at hh
  rw [e1] at hh
  exact hh v H F io (Same.refl _) (Pre.refl _) w (rp F io)
theorem bi_all (ok : E.Ok) {x : Str} {n : Nat} {b : Bi} (h : bi2 x n = some b) : x = biName b ∧ BiOk E b ∧ n ≠ 0 := by
  unfold bi2 at h
  repeat' split at h
  all_goals first
    | (cases h
       rename_i q
       rw [Bool.and_eq_true, beq_iff_eq, beq_iff_eq] at q
       refine ⟨q.1, ?_, by omega⟩
       first | exact bi_len ok | exact bi_min2 ok | exact bi_max2 ok | exact bi_int ok | exact bi_tuple ok | exact bi_list ok)
    | cases h
end

theorem cv_sound (C : Cv) : ∀ (n : Nat) (sc : Scope), (∀ (E : En) (e : Expr) (t : Tm), CtxOk C sc E → cvE C n sc e = some t → All E e t) ∧
    (∀ (E : En) (es : List Expr) (ts : List Tm), CtxOk C sc E → cvEs C n sc es = some ts → SEs E es ts) ∧
    (∀ (E : En) (oe : Option Expr) (ot : Option Tm), CtxOk C sc E → cvO C n sc oe = some ot → SO E oe ot) ∧
    (∀ (E : En) (ks : List (Option Expr)) (vs : List Expr) (kts : List (Key × Tm)), CtxOk C sc E → cvK C n sc ks vs = some kts → SK E ks vs kts) := by
  intro n
  induction n with
  | zero =>
    intro sc
    refine ⟨fun E e t c h => ?_, fun E es ts c h => ?_, fun E oe ot c h => ?_, fun E ks vs kts c h => ?_⟩
    · unfold cvE at h; cases h
    · unfold cvEs at h; cases h
    · unfold cvO at h; cases h
    · unfold cvK at h; cases h
  | succ n ih =>
    intro sc
    obtain ⟨ihE, ihEs, ihO, ihK⟩ := ih sc
    refine ⟨fun E e t c h => ?_, fun E es ts c h => ?_, fun E oe ot c h => ?_, fun E ks vs kts c h => ?_⟩
    · unfold cvE at h
      split at h
      · -- Name
        rename_i x p
        split at h
        · rename_i i q
          cases h
          obtain ⟨h1, h2, h3, h4⟩ := rd_of q
          exact All.of (SE_slot (by rw [c.N]; exact h1) (by rw [c.sc]; exact h2) h3 h4) (fun _ => rfl) (fun _ _ _ z => by cases z)
        · split at h
          · rename_i q
            rw [Bool.and_eq_true] at q
            obtain ⟨g, e1, rfl⟩ := map_some h
            exact All.of (SE_glob (by show E.X.env.scope.names.lookup x = _; rw [c.sc]; exact gl_of q.1) (dund_of q.2).1 (c.globs x g e1)) (fun _ => rfl) (fun _ _ _ z => by cases z)
          · cases h
      · cases h; exact All.of SE_non (fun _ => rfl) (fun _ _ _ z => by cases z)
      · cases h; exact All.of SE_bl (fun _ => rfl) (fun _ _ _ z => by cases z)
      · cases h; exact All.of SE_int (fun _ => rfl) (fun _ _ _ z => by cases z)
      · cases h; exact All.of SE_str (fun _ => rfl) (fun _ _ _ z => by cases z)
      · -- BinOp
        obtain ⟨o, x, y, h1, h2, h3, h4⟩ := triple_some h
        cases h4
        rw [← op2_of h1]
        exact All.of (SE_bin c.ok (ihE E _ _ c h2).1 (ihE E _ _ c h3).1) (fun _ => rfl) (fun _ _ _ z => by cases z)
      · obtain ⟨x, h1, rfl⟩ := map_some h
        exact All.of (SE_neg (ihE E _ _ c h1).1) (fun _ => rfl) (fun _ _ _ z => by cases z)
      · obtain ⟨x, h1, rfl⟩ := map_some h
        exact ⟨SE_not (ihE E _ _ c h1).1, ST_not (ihE E _ _ c h1).2.1, fun _ _ _ z => by cases z⟩
      · -- BoolOp one
        rename_i op a p
        have q := ihE E _ _ c h
        have sw : SW E (.BoolOp op [a] p) t := by
          cases op with
          | And => exact SW_and1 q.2.1
          | Or => exact SW_or1 q.2.1
        exact ⟨SE_one q.1, sw.st, fun _ _ _ _ => sw⟩
      · obtain ⟨x, y, h1, h2, h3⟩ := pair_some h
        cases h3
        have q1 := ihE E _ _ c h1
        have q2 := ihE E _ _ c h2
        have sw := SW_and q1.2.1 (q2.2.2 _ _ _ rfl)
        exact ⟨SE_and q1.1 q2.1, sw.st, fun _ _ _ _ => sw⟩
      · obtain ⟨x, y, h1, h2, h3⟩ := pair_some h
        cases h3
        have q1 := ihE E _ _ c h1
        have q2 := ihE E _ _ c h2
        have sw := SW_or q1.2.1 (q2.2.2 _ _ _ rfl)
        exact ⟨SE_or q1.1 q2.1, sw.st, fun _ _ _ _ => sw⟩
      · -- Compare
        rename_i a op b p
        split at h
        · cases h
        · rename_i hm
          obtain ⟨x, y, h1, h2, h3⟩ := pair_some h
          cases h3
          have hm' : behindInMarks (cmM (cm2 op)) b = false := by rw [cm2_of]; simpa using hm
          have e1 := SE_cmp (pos := p) c.ok (ihE E _ _ c h1).1 (ihE E _ _ c h2).1 hm'
          have e2 := ST_cmp (pos := p) c.ok (ihE E _ _ c h1).1 (ihE E _ _ c h2).1 hm'
          rw [cm2_of] at e1 e2
          exact ⟨e1, e2, fun _ _ _ z => by cases z⟩
      · -- chain
        rename_i a op op' b d p
        split at h
        · cases h
        · rename_i hm
          obtain ⟨x, y, z, h1, h2, h3, h4⟩ := triple_some h
          cases h4
          have hm' : lastMarks [cmM (cm2 op), cmM (cm2 op')] [b, d] = false := by rw [cm2_of, cm2_of]; simpa using hm
          have e1 := SE_chain (pos := p) c.ok (ihE E _ _ c h1).1 (ihE E _ _ c h2).1 (ihE E _ _ c h3).1 hm'
          have e2 := ST_chain (pos := p) c.ok (ihE E _ _ c h1).1 (ihE E _ _ c h2).1 (ihE E _ _ c h3).1 hm'
          rw [cm2_of, cm2_of] at e1 e2
          exact ⟨e1, e2, fun _ _ _ z => by cases z⟩
      · -- IfExp
        obtain ⟨x, y, z, h1, h2, h3, h4⟩ := triple_some h
        cases h4
        have q := ihE E _ _ c h1
        exact ⟨SE_ite q.2.1 (ihE E _ _ c h2).1 (ihE E _ _ c h3).1, ST_ite q.2.1 (ihE E _ _ c h2).2.1 (ihE E _ _ c h3).2.1, fun _ _ _ z => by cases z⟩
      · -- Call of a name
        rename_i x p es pp
        split at h
        case isFalse => cases h
        rename_i q
        rw [Bool.and_eq_true] at q
        have hg : Gl E.X x := by show E.X.env.scope.names.lookup x = _; rw [c.sc]; exact gl_of q.1
        split at h
        case h_2 => cases h
        rename_i ts hts
        have ses := ihEs E _ _ c hts
        have hse : SE E (.Call (.Name x p) es [] pp) t := by
          split at h
          · rename_i i hi
            cases h
            have ck := c.fns x i hi E.H0
            cases ses with
            | nil => exact SE_call0 hg (dund_of q.2).1 ck
            | cons h1 h2 h3 => exact SE_call hg (dund_of q.2).1 ck h1 h3.notall (SEs.cons h1 h2 h3).sa
          · split at h
            · cases h
            · rename_i hb
              obtain ⟨b, e1, rfl⟩ := map_some h
              obtain ⟨b1, b2, b3⟩ := bi_all c.ok e1
              have hbl : C.blts.contains x = true := by
                cases z : C.blts.contains x with
                | true => rfl
                | false => rw [z] at hb; simp at hb
              cases ses with
              | nil => exact absurd rfl b3
              | cons h1 h2 h3 => exact SE_bi b1 b2 hg (c.blts x hbl) h1 h3.notall (SEs.cons h1 h2 h3).sp
        exact All.of hse (fun _ => rfl) (fun _ _ _ z => by cases z)
      · -- Call of a method
        rename_i o m apos es pp
        split at h
        case isFalse => cases h
        rename_i hl
        have hse : SE E (.Call (.Attribute o m apos) es [] pp) t := by
          split at h
          · rename_i i hi
            split at h
            case isFalse => cases h
            rename_i he
            cases h
            have he' : es = [] := List.isEmpty_iff.mp he
            subst he'
            unfold popName at hi
            split at hi
            · split at hi
              · rename_i hm
                obtain ⟨h1, h2, h3, h4⟩ := rd_of hi
                rw [beq_iff_eq] at hm
                subst hm
                exact SE_pop c.ok (by rw [c.N]; exact h1) (by rw [c.sc]; exact h2) h3 h4 hl
              · cases hi
            · cases hi
          · split at h
            case isFalse => cases h
            rename_i q
            rw [Bool.and_eq_true, decide_eq_true_eq] at q
            obtain ⟨to, k, ts, h1, h2, h3, h4⟩ := triple_some h
            split at h4
            case isFalse => cases h4
            rename_i hk
            cases h4
            have ses := ihEs E _ _ c h3
            have hm := fun cc i e => c.meths k hk cc i e E.H0
            cases ses with
            | nil => exact SE_meth0 c.ok (c.nms m k h2) hm (ihE E _ _ c h1).1 q.1 hl
            | cons g1 g2 g3 =>
              refine SE_meth c.ok (c.nms m k h2) hm (ihE E _ _ c h1).1 q.1 g1 g3.notall ?_ hl (SEs.cons g1 g2 g3).sa
              have := q.2
              simp at this; omega
        exact All.of hse (fun _ => rfl) (fun _ _ _ z => by cases z)
      · -- Attribute
        rename_i o f p
        split at h
        case isFalse => cases h
        rename_i q
        obtain ⟨to, k, h1, h2, h3⟩ := pair_some h
        cases h3
        exact All.of (SE_attr c.ok (c.nms f k h2) q (ihE E _ _ c h1).1) (fun _ => rfl) (fun _ _ _ z => by cases z)
      · -- slice
        obtain ⟨to, l, hh, h1, h2, h3, h4⟩ := triple_some h
        cases h4
        exact All.of (SE_slice c.ok (ihE E _ _ c h1).1 (ihO E _ _ c h2) (ihO E _ _ c h3)) (fun _ => rfl) (fun _ _ _ z => by cases z)
      · -- item
        split at h
        case isFalse => cases h
        rename_i q
        obtain ⟨to, ti, h1, h2, h3⟩ := pair_some h
        cases h3
        exact All.of (SE_ix c.ok q (ihE E _ _ c h1).1 (ihE E _ _ c h2).1) (fun _ => rfl) (fun _ _ _ z => by cases z)
      · obtain ⟨ts, h1, rfl⟩ := map_some h
        exact All.of (SE_tup (ihEs E _ _ c h1).sa) (fun _ => rfl) (fun _ _ _ z => by cases z)
      · obtain ⟨ts, h1, rfl⟩ := map_some h
        exact All.of (SE_lst (ihEs E _ _ c h1).sa) (fun _ => rfl) (fun _ _ _ z => by cases z)
      · -- Dict
        rename_i ks vs p
        split at h
        · cases h
        · rename_i q
          obtain ⟨ts, h1, rfl⟩ := map_some h
          have h15 : ks.length ≤ 15 := by
            simp at q; omega
          have h0 : ks ≠ [] := fun z => by subst z; simp at q
          exact All.of (SE_dict (ihK E _ _ _ c h1) h0 h15) (fun _ => rfl) (fun _ _ _ z => by cases z)
      · cases h
    · cases es with
      | nil => unfold cvEs at h; cases h; exact .nil
      | cons e es =>
        unfold cvEs at h
        split at h
        case isFalse => cases h
        rename_i q
        obtain ⟨t, ts', h1, h2, h3⟩ := pair_some h
        cases h3
        exact .cons q (ihE E _ _ c h1).1 (ihEs E _ _ c h2)
    · cases oe with
      | none => unfold cvO at h; cases h; trivial
      | some e =>
        unfold cvO at h
        obtain ⟨t, h1, rfl⟩ := map_some h
        exact (ihE E _ _ c h1).1
    · unfold cvK at h
      split at h
      · rename_i q; cases q
      · rename_i q
        cases h; exact .nil
      · rename_i x j p ks v vs q
        cases q
        obtain ⟨t, ts', h1, h2, h3⟩ := pair_some h
        cases h3
        exact .str (fun h0 => (ihE (E.at h0) _ _ (c.at h0) h1).1) (ihK E _ _ _ c h2)
      · cases h
end Ag
namespace Ag
open PySem PySem.Spec L2

def nmOf (C : Cv) (sc : Scope) : List Expr → Option (List Nat)
  | [] => some []
  | .Name x _ :: r => o2 (wrSlot C sc x) (nmOf C sc r) fun i is => some (i :: is)
  | _ => none
def isLoc (sc : Scope) : Expr → Bool
  | .Name x _ => (match sc.names.lookup x with | some .local => true | _ => false)
  | _ => false
/-- stored one by one through a tuple -/
def noSwap (sc : Scope) (tgs es : List Expr) : Bool :=
  !(tgs.length == 2 || tgs.length == 3) || !(tgs.all (isLoc sc)) || es.all (foldedForSure 8)
def lineOf : Expr → Nat := fun e => e.pos.line
/-- the last name first -/
def doSwap (sc : Scope) (tgs es : List Expr) : Bool := match tgs, es with
  | [a, b], [x, y] => isLoc sc a && isLoc sc b && (b.pos.line == a.pos.line) && !([x, y].all (foldedForSure 8)) && !([x, y].all (constantsAlone 8))
  | [a, b, c], [x, y, z] => isLoc sc a && isLoc sc b && isLoc sc c && (b.pos.line == a.pos.line) && (c.pos.line == a.pos.line) && !([x, y, z].all (foldedForSure 8)) && !([x, y, z].all (constantsAlone 8))
  | _, _ => false
def distinct : List Nat → Bool
  | [] => true
  | i :: is => !is.contains i && distinct is
def isTupE : Expr → Bool
  | .Tuple .. => true
  | _ => false
def isSetE : Expr → Bool
  | .Set .. => true
  | _ => false
/-- a call of a list's method upon a slot -/
def lstMeth (C : Cv) (sc : Scope) : Expr → Option (Str × Nat × Expr)
  | .Call (.Attribute (.Name x _) m apos) [a] [] cpos => if apos.endLine == cpos.line && notStar a && (m == ("append" : Str) || m == ("extend" : Str)) then (rdSlot C sc x).map fun i => (m, i, a) else none
  | _ => none
mutual
def cvG (C : Cv) : Nat → Scope → Expr → Option Tg
  | 0, _, _ => none
  | n + 1, sc, e => match e with
    | .Name x _ => (wrSlot C sc x).map .slot
    | .Tuple es _ _ => if allNot es then (cvGs C n sc es).map .tup else none
    | _ => none
def cvGs (C : Cv) : Nat → Scope → List Expr → Option (List Tg)
  | 0, _, _ => none
  | _ + 1, _, [] => some []
  | n + 1, sc, e :: es => o2 (cvG C n sc e) (cvGs C n sc es) fun t ts => some (t :: ts)
end
def rng (C : Cv) (sc : Scope) (x : Str) : Bool := x == ("range" : Str) && glB sc x && C.blts.contains x && (C.fns.lookup x).isNone
def cvI (C : Cv) (n : Nat) (sc : Scope) (e : Expr) : Option Iter := match e with
  | .Call (.Name x _) [a] [] _ => if rng C sc x then (if notStar a then (cvE C n sc a).map .range1 else none) else (cvE C n sc e).map .seq
  | .Call (.Name x _) [a, b] [] _ => if rng C sc x then (if notStar a && notStar b then o2 (cvE C n sc a) (cvE C n sc b) fun s t => some (.range2 s t) else none) else (cvE C n sc e).map .seq
  | e => if isSetE e then none else (cvE C n sc e).map .seq

mutual
def cvS (C : Cv) : Nat → Scope → Stmt → Option Stm
  | 0, _, _ => none
  | n + 1, sc, st => match st with
    | .Expr (.Constant (.str _) _ _) _ => some .skip
    | .Expr e _ => match lstMeth C sc e with
      | some (m, i, a) => (cvE C n sc a).map fun t => if m == ("append" : Str) then .append i t else .extend i t
      | none => if notComp e then (cvE C n sc e).map .expr else none
    | .Assign [.Name x _] a _ => if notComp a then o2 (wrSlot C sc x) (cvE C n sc a) fun i t => some (.asg (.slot i) t) else none
    | .Assign [.Tuple tgs _ _] (.Tuple es _ _) _ => if (noSwap sc tgs es || doSwap sc tgs es) && decide (tgs.length = es.length) then
        o2 (nmOf C sc tgs) (cvEs C n sc es) fun is ts => if distinct is && decide (is.length < 100) then some (.par is ts) else none
      else none
    | .Assign [.Tuple tgs k p] a _ => if notComp a then o2 (cvG C n sc (.Tuple tgs k p)) (cvE C n sc a) fun g t => some (.asg g t) else none
    | .Assign [.Subscript o k _] a _ => if notComp a then o3 (cvE C n sc o) (cvE C n sc k) (cvE C n sc a) fun x y z => some (.setk x y z) else none
    | .AugAssign (.Name x _) .Add a _ => o2 (wrSlot C sc x) (cvE C n sc a) fun i t => some (.aug i .add t)
    | .If c a b _ => o3 (cvE C n sc c) (cvSs C n sc a) (cvSs C n sc b) fun x y z => some (.ite x y z)
    | .While c b [] _ => o2 (cvE C n sc c) (cvSs C n sc b) fun x y => some (.whil x y)
    | .For tg it b [] _ => o3 (cvG C n sc tg) (cvI C n sc it) (cvSs C n sc b) fun x y z => some (.for_ x y z)
    | .Return none _ => some .retN
    | .Return (some a) _ => (cvE C n sc a).map .ret
    | .Pass _ => some .skip
    | .Break _ => some .brk
    | .Continue _ => some .cont
    | _ => none
def cvSs (C : Cv) : Nat → Scope → List Stmt → Option (List Stm)
  | 0, _, _ => none
  | _ + 1, _, [] => some []
  | n + 1, sc, s :: ss => o2 (cvS C n sc s) (cvSs C n sc ss) fun t ts => some (t :: ts)
end

structure CtxS (C : Cv) (sc : Scope) (E : En) : Prop where
  c : CtxOk C sc E
  pass : PassesOwn (model E.X.prog E.X.w) E.X.A E.X.env E.X.xe

section
variable {E : En} {e a b c : Expr} {ta tb tc : Tm} {fr : Fr} {σ tp : St} {H F : Hp} {io : List Addr} {Q : VK} {pos : Pos} {es : List Expr} {ts : List Tm} {C : Cv} {sc : Scope}
theorem SS_doc {x : Str} {j : Nat} {p : Pos} : SS E (.Expr (.Constant (.str x) j p) pos) .skip := fun fr σ tp H F io D hl w h => wS_of ps_doc (by unfold ex at h; exact h σ H F io hl (Same.refl _) (Pre.refl _) w)
theorem nm_of (c : CtxOk C sc E) : ∀ {tgs : List Expr} {is : List Nat}, nmOf C sc tgs = some is → Nms E tgs is
  | [], _, h => by cases h; exact .nil
  | e :: r, is, h => by
    cases e with
    | Name x p =>
      obtain ⟨i, is', h1, h2, h3⟩ := pair_some (show o2 (wrSlot C sc x) (nmOf C sc r) (fun i is => some (i :: is)) = some is from h)
      cases h3
      obtain ⟨g1, g2, g3⟩ := wr_of h1
      exact .cons (by rw [c.N]; exact g1) (by rw [c.sc]; exact g2) (by rw [c.sc]; exact g3.imp (c.fnc x) id) (nm_of c h2)
    | _ => cases h
theorem isLoc_of {sc : Scope} {x : Str} {p : Pos} (h : isLoc sc (.Name x p) = true) : sc.names.lookup x = some .local := by
  unfold isLoc at h
  dsimp only at h
  split at h <;> first | assumption | cases h
theorem filterMap_all {α β : Type} {f : α → Option β} : ∀ {l : List α}, (l.filterMap f).length = l.length → ∀ x ∈ l, (f x).isSome = true
  | [], _, _, h => by cases h
  | a :: l, hl, x, hx => by
    have hle : (l.filterMap f).length ≤ l.length := List.length_filterMap_le f l
    cases q : f a with
    | none =>
      rw [List.filterMap_cons_none q] at hl
      rw [List.length_cons] at hl
      omega
    | some b =>
      rw [List.filterMap_cons_some q] at hl
      rcases List.mem_cons.mp hx with rfl | hx
      · rw [q]; rfl
      · exact filterMap_all (by simpa using hl) x hx
theorem swap_none {tgs : List Expr} {k k2 : Nat} {pt pt2 : Pos} {env : Env} (hsc : env.scope = sc) (h : noSwap sc tgs es = true) : swappedStores [.Tuple tgs k pt] (.Tuple es k2 pt2) env = pure none := by
  have key : ∀ l : Nat, (tgs.filterMap fun
      | .Name id pos => if env.kindOf id == some .local && pos.line == l then some id else none
      | _ => none).length = tgs.length → ¬ (tgs.length == 2 || tgs.length == 3) = false → ¬ es.all (foldedForSure 8) = true → False := fun l hl h2 h3 => by
    unfold noSwap at h
    simp only [Bool.or_eq_true, Bool.not_eq_true'] at h
    rcases h with (h | h) | h
    · exact h2 h
    · have q := filterMap_all hl
      have : tgs.all (isLoc sc) = true := List.all_eq_true.mpr fun e he => by
        have q := q e he
        cases e with
        | Name x p =>
          dsimp only at q
          split at q
          · rename_i z
            rw [Bool.and_eq_true, beq_iff_eq] at z
            have z1 : sc.names.lookup x = some .local := by rw [← hsc]; exact z.1
            show (match sc.names.lookup x with | some .local => true | _ => false) = true
            rw [z1]
          · cases q
        | _ => cases q
      rw [this] at h; cases h
    · exact h3 h
  unfold swappedStores
  dsimp only
  split
  · rfl
  · rename_i a1
    split
    · rfl
    · split
      · rfl
      · rename_i a3
        split
        · rfl
        · rename_i a4
          exfalso
          simp only [Bool.or_eq_true, not_or, bne_iff_ne, ne_eq, Decidable.not_not] at a3
          refine key _ a3.1 (fun z => a1 ?_) a4
          rw [z]; rfl
theorem mem_lt {tgs : List Expr} {is : List Nat} (h : Nms E tgs is) : ∀ i ∈ is, i < E.X.N.length := by
  induction h with
  | nil => intro i hi; cases hi
  | cons h1 _ _ _ ih =>
    intro i hi
    rcases List.mem_cons.mp hi with rfl | hi
    · exact (List.getElem?_eq_some_iff.mp h1).1
    · exact ih i hi
theorem swap_par (c : CtxOk C sc E) {tgs : List Expr} {is : List Nat} {k k2 : Nat} {pt pt2 : Pos} (h : doSwap sc tgs es = true) (hn : Nms E tgs is) (hd : distinct is = true) (hs : allNot es = true) : ParOk E (.Assign [.Tuple tgs k pt] (.Tuple es k2 pt2) pos) is es := by
  unfold doSwap at h
  split at h
  · rename_i a b x y
    simp only [Bool.and_eq_true, Bool.not_eq_true'] at h
    obtain ⟨⟨⟨⟨l1, l2⟩, l3⟩, l4⟩, l5⟩ := h
    cases hn with
    | cons n1 _ _ hn => cases hn with
      | cons n2 _ _ hn => cases hn with
        | nil =>
          simp only [distinct, List.contains_cons, List.contains_nil, Bool.and_eq_true, Bool.not_eq_true', Bool.or_eq_false_iff, beq_eq_false_iff_ne, Bool.or_false] at hd
          exact par_two c.ok c.kind n1 n2 (by omega) (by rw [c.sc]; exact isLoc_of l1) (by rw [c.sc]; exact isLoc_of l2) l3 hs l4 l5
  · rename_i a b d x y z
    simp only [Bool.and_eq_true, Bool.not_eq_true'] at h
    obtain ⟨⟨⟨⟨⟨⟨l1, l2⟩, l3⟩, l4⟩, l5⟩, l6⟩, l7⟩ := h
    cases hn with
    | cons n1 _ _ hn => cases hn with
      | cons n2 _ _ hn => cases hn with
        | cons n3 _ _ hn => cases hn with
          | nil =>
            rename_i x1 p1 i1 x2 p2 i2 x3 p3 i3
            simp only [distinct, List.contains_cons, List.contains_nil, Bool.and_eq_true, Bool.not_eq_true', Bool.or_eq_false_iff, beq_eq_false_iff_ne, Bool.or_false] at hd
            exact par_three c.ok c.kind n1 n2 n3 (by omega) (by omega) (by omega) (by rw [c.sc]; exact isLoc_of l1) (by rw [c.sc]; exact isLoc_of l2) (by rw [c.sc]; exact isLoc_of l3) l4 l5 hs l6 l7
  · cases h
theorem cvG_sound (C : Cv) (sc : Scope) (E : En) (c : CtxOk C sc E) : ∀ n, (∀ e g, cvG C n sc e = some g → SG E e g) ∧ (∀ es gs, cvGs C n sc es = some gs → allNot es = true → SGs E es gs ∧ es.length = gs.length) := by
  intro n
  induction n with
  | zero => exact ⟨fun e g h => (by unfold cvG at h; cases h), fun es gs h => (by unfold cvGs at h; cases h)⟩
  | succ n ih =>
    refine ⟨fun e g h => ?_, fun es gs h hs => ?_⟩
    · unfold cvG at h
      split at h
      · obtain ⟨i, h1, rfl⟩ := map_some h
        obtain ⟨g1, g2, g3⟩ := wr_of h1
        exact SG_slot c.ok (by rw [c.N]; exact g1) (by rw [c.sc]; exact g2) (by rw [c.sc]; exact g3.imp (c.fnc _) id)
      · split at h
        case isFalse => cases h
        rename_i hs
        obtain ⟨gs, h1, rfl⟩ := map_some h
        obtain ⟨q1, q2⟩ := ih.2 _ _ h1 hs
        exact SG_tup c.ok hs q2 q1
      · cases h
    · cases es with
      | nil => unfold cvGs at h; cases h; exact ⟨SGs_nil, rfl⟩
      | cons e es =>
        unfold cvGs at h
        obtain ⟨t, ts, h1, h2, h3⟩ := pair_some h
        cases h3
        unfold allNot at hs
        rw [List.all_cons, Bool.and_eq_true] at hs
        obtain ⟨q1, q2⟩ := ih.2 _ _ h2 hs.2
        exact ⟨SGs_cons hs.1 (ih.1 _ _ h1) q1, by simp [q2]⟩
theorem fold_no {e : Expr} (h : isSetE e = false) (env : Env) (x : Value) : foldedSetIterable e env x = pure x := by
  cases e <;> first | rfl | cases h
theorem cvI_sound {n : Nat} (c : CtxOk C sc E) {tg e : Expr} {it : Iter} (h : cvI C n sc e = some it) : SI E tg e it ∧ isSetE e = false := by
  have cs := (cv_sound C n sc).1 E
  have rg : ∀ x, rng C sc x = true → x = ("range" : Str) ∧ Gl E.X "range" ∧ E.X.mg "range" = none := fun x h => by
    unfold rng at h
    simp only [Bool.and_eq_true, beq_iff_eq] at h
    obtain ⟨⟨⟨h1, h2⟩, h3⟩, _⟩ := h
    subst h1
    exact ⟨rfl, by show E.X.env.scope.names.lookup _ = _; rw [c.sc]; exact gl_of h2, c.blts _ h3⟩
  unfold cvI at h
  split at h
  · split at h
    · rename_i q
      obtain ⟨rfl, g1, g2⟩ := rg _ q
      split at h
      case isFalse => cases h
      rename_i hs
      obtain ⟨t, h1, rfl⟩ := map_some h
      exact ⟨SI_range1 c.ok g1 g2 hs (cs _ _ c h1).1, rfl⟩
    · obtain ⟨t, h1, rfl⟩ := map_some h
      exact ⟨SI_seq c.ok (cs _ _ c h1).1, rfl⟩
  · split at h
    · rename_i q
      obtain ⟨rfl, g1, g2⟩ := rg _ q
      split at h
      case isFalse => cases h
      rename_i hs
      rw [Bool.and_eq_true] at hs
      obtain ⟨t, t2, h1, h2, h3⟩ := pair_some h
      cases h3
      exact ⟨SI_range2 c.ok g1 g2 hs.1 hs.2 (cs _ _ c h1).1 (cs _ _ c h2).1, rfl⟩
    · obtain ⟨t, h1, rfl⟩ := map_some h
      exact ⟨SI_seq c.ok (cs _ _ c h1).1, rfl⟩
  · split at h
    · cases h
    · rename_i q
      obtain ⟨t, h1, rfl⟩ := map_some h
      exact ⟨SI_seq c.ok (cs _ _ c h1).1, by simpa using q⟩
theorem lst_of {m : Str} {i : Nat} (c : CtxOk C sc E) {n : Nat} {t : Tm} (h : lstMeth C sc e = some (m, i, a)) (ha : cvE C n sc a = some t) : SS E (.Expr e pos) (if m == ("append" : Str) then .append i t else .extend i t) := by
  have cs := (cv_sound C n sc).1 E
  unfold lstMeth at h
  split at h
  · split at h
    case isFalse => cases h
    rename_i q
    obtain ⟨j, h1, h2⟩ := map_some h
    cases h2
    simp only [Bool.and_eq_true, Bool.or_eq_true, beq_iff_eq] at q
    obtain ⟨⟨q1, q2⟩, q3⟩ := q
    obtain ⟨g1, g2, g3, g4⟩ := rd_of h1
    rcases q3 with rfl | rfl
    · exact SS_append c.ok (by rw [c.N]; exact g1) (by rw [c.sc]; exact g2) g3 g4 q2 (by simpa using q1) (cs _ _ c ha).1
    · have ne : (("extend" : Str) == ("append" : Str)) = false := by decide +kernel
      rw [ne]
      exact SS_extend c.ok (by rw [c.N]; exact g1) (by rw [c.sc]; exact g2) g3 g4 q2 (by simpa using q1) (cs _ _ c ha).1
  · cases h
end
theorem sole_no {a t : Expr} (h : notComp a = true) (n : Nat) (env : Env) : swapsWithSole [t] a n env = pure false := by
  cases a <;> first | rfl | cases h
theorem cvS_sound (C : Cv) (sc : Scope) (E : En) (cx : CtxS C sc E) : ∀ n, (∀ st t, cvS C n sc st = some t → SS E st t) ∧ (∀ sts ts, cvSs C n sc sts = some ts → SSs E sts ts) := by
  have c := cx.c
  intro n
  induction n with
  | zero => exact ⟨fun st t h => (by unfold cvS at h; cases h), fun sts ts h => (by unfold cvSs at h; cases h)⟩
  | succ n ih =>
    have cs := (cv_sound C n sc).1 E
    have css := (cv_sound C n sc).2.1 E
    refine ⟨fun st t h => ?_, fun sts ts h => ?_⟩
    · unfold cvS at h
      split at h
      · cases h; exact SS_doc
      · split at h
        · rename_i q
          obtain ⟨u, h1, rfl⟩ := map_some h
          exact lst_of c q h1
        · split at h
          case isFalse => cases h
          rename_i hs
          obtain ⟨u, h1, rfl⟩ := map_some h
          exact SS_expr (cs _ _ c h1).1 (swaps_no hs _ _ _)
      · -- name = e
        split at h
        case isFalse => cases h
        rename_i hs
        obtain ⟨i, u, h1, h2, h3⟩ := pair_some h
        cases h3
        obtain ⟨g1, g2, g3⟩ := wr_of h1
        exact SS_asgName c.ok (by rw [c.N]; exact g1) (by rw [c.sc]; exact g2) (by rw [c.sc]; exact g3.imp (c.fnc _) id) (swaps_no hs _ _ _) (cs _ _ c h2).1
      · -- several
        split at h
        case isFalse => cases h
        rename_i hs
        rw [Bool.and_eq_true, Bool.or_eq_true] at hs
        obtain ⟨is, us, h1, h2, h3⟩ := pair_some h
        split at h3
        case isFalse => cases h3
        rename_i hd
        rw [Bool.and_eq_true, decide_eq_true_eq] at hd
        cases h3
        have nm := nm_of c h1
        have ses := css _ _ c h2
        refine SS_par ?_ (mem_lt nm) ses
        rcases hs.1 with hs | hs
        · exact par_gen c.ok nm hd.2 (swap_none c.sc hs)
        · exact swap_par c hs nm hd.1 ses.notall
      · -- unpacking
        split at h
        case isFalse => cases h
        rename_i hs
        obtain ⟨g, u, h1, h2, h3⟩ := pair_some h
        cases h3
        have hg := (cvG_sound C sc E c n).1 _ _ h1
        have gt : ∃ gs, g = .tup gs := by
          cases n with
          | zero => unfold cvG at h1; cases h1
          | succ n =>
            unfold cvG at h1
            dsimp only at h1
            split at h1
            · obtain ⟨gs, _, e⟩ := map_some h1
              exact ⟨gs, e.symm⟩
            · cases h1
        obtain ⟨gs, rfl⟩ := gt
        refine SS_asgTup hg (sole_no hs _ _) ?_ rfl (cs _ _ c h2).1
        rename_i a _ hne
        cases a <;> first | rfl | exact absurd rfl (hne _ _ _)
      · -- o[k] = e
        split at h
        case isFalse => cases h
        rename_i hs
        obtain ⟨x, y, z, h1, h2, h3, h4⟩ := triple_some h
        cases h4
        exact SS_setk c.ok hs (cs _ _ c h3).1 (cs _ _ c h1).1 (cs _ _ c h2).1
      · obtain ⟨i, u, h1, h2, h3⟩ := pair_some h
        cases h3
        obtain ⟨g1, g2, g3⟩ := wr_of h1
        exact SS_aug c.ok (by rw [c.N]; exact g1) (by rw [c.sc]; exact g2) (by rw [c.sc]; exact g3.imp (c.fnc _) id) (cs _ _ c h2).1
      · obtain ⟨x, y, z, h1, h2, h3, h4⟩ := triple_some h
        cases h4
        exact SS_ite (cs _ _ c h1).2.1 (ih.2 _ _ h2) (ih.2 _ _ h3)
      · obtain ⟨x, y, h1, h2, h3⟩ := pair_some h
        cases h3
        exact SS_whil c.ok cx.pass (cs _ _ c h1).2.1 (ih.2 _ _ h2)
      · obtain ⟨x, y, z, h1, h2, h3, h4⟩ := triple_some h
        cases h4
        obtain ⟨q1, q2⟩ := cvI_sound (tg := _) c h2
        exact SS_for c.ok cx.pass q1 ((cvG_sound C sc E c n).1 _ _ h1) (ih.2 _ _ h3) (fun x => fold_no q2 _ x)
      · cases h; exact SS_retN
      · obtain ⟨u, h1, rfl⟩ := map_some h
        exact SS_ret (cs _ _ c h1).1
      · cases h; exact SS_pass
      · cases h; exact SS_brk
      · cases h; exact SS_cont
      · cases h
    · cases sts with
      | nil => unfold cvSs at h; cases h; exact SSs_nil
      | cons s ss =>
        unfold cvSs at h
        obtain ⟨t, ts', h1, h2, h3⟩ := pair_some h
        cases h3
        exact SSs_cons (ih.1 _ _ h1) (ih.2 _ _ h2)
end Ag
namespace Ag
open PySem PySem.Spec L2

def Fx.all (r : Fx) (P : Out → List Cell → Prop) (PX : Nat → List D → List Cell → Prop) : Prop :=
  match r with
  | .ret o s => P o s
  | .exc c fs s => PX c fs s
  | .bad => False
/-- what a def promises that does what phi tells, of n arguments -/
def spI (G : Glb) (n : Nat) (phi : Fn) : Sp := fun vs H Q Ex => ∃ ds sto F io, ds.length = n ∧ Reps G F io ds vs ∧ Wr G ⟨H, F⟩ io.length sto H F io ∧
  (phi ds sto).all (fun o sto' => ∀ v H' F' io', Same F F' → Pre io io' → Wr G ⟨H, F⟩ io.length sto' H' F' io' → RvOk G ⟨H, F⟩ H' F' io' [] [] (.out o) v → Q v H')
    (fun c fs sto' => ∀ d H' F' io', Same F F' → Pre io io' → Wr G ⟨H, F⟩ io.length sto' H' F' io' → ExOk G F' io' H' c fs d → Ex (.ref (G.cl c)) d H')
section
variable {E : En} {fr : Fr} {σ tp : St} {H F : Hp} {io : List Addr} {Q : VK}
/-- behind a call: the caller's slots stand as they stood -/
theorem Ws.after {sto' : List Cell} {H' F' : Hp} {io' : List Addr} (w : E.ws fr (σ ++ tp) H F io) (s : Same F F') (p : Pre io io') (w' : Wr E.G ⟨H, F⟩ io.length sto' H' F' io') : E.ws { fr with sto := sto' } (σ ++ tp) H' F' io' := by
  have cellN : ∀ (n : Nat) (a : Addr), io'[n]? = some a → n < io.length → io[n]? = some a := fun n a e h => by
    have e2 := p n _ (List.getElem?_eq_getElem h)
    rw [e] at e2; cases e2
    exact List.getElem?_eq_getElem h
  have nw : ∀ a, H a = none → E.H0 a = none := fun a h => (w.wr.fresh h).2.2
  refine ⟨⟨w'.sub, w'.len, w'.cel, w'.inj, fun a o e k => ?_, fun n a hn e => ?_, w'.frz, Nat.le_trans w.wr.nle ?_, fun a o u e1 e2 => ?_⟩, w.sl.len, fun i sl e => ?_, w.sl.dis⟩
  · have k2 : ∀ n : Nat, n < E.n0 → io[n]? ≠ some a := fun n hn z => k n hn (p n a z)
    have h1 := w.wr.keep a o e k2
    refine w'.keep a o h1 fun n hn z => ?_
    have z2 := cellN n a z hn
    by_cases q : n < E.n0
    · exact k2 n q z2
    · have := w.wr.new n a (Nat.le_of_not_lt q) z2
      rw [e] at this; cases this
  · by_cases q : n < io.length
    · exact w.wr.new n a hn (cellN n a e q)
    · exact nw a (w'.new n a (Nat.le_of_not_lt q) e)
  · have : ∀ n : Nat, n < io.length → n < io'.length := fun n h => (List.getElem?_eq_some_iff.mp (p n _ (List.getElem?_eq_getElem h))).1
    by_cases q : io.length = 0
    · omega
    · have := this (io.length - 1) (by omega)
      omega
  · by_cases q : ∃ n : Nat, n < E.n0 ∧ io[n]? = some a
    · obtain ⟨n, hn, en⟩ := q
      have hlt : n < fr.sto.length := by rw [← w.wr.len]; exact (List.getElem?_eq_some_iff.mp en).1
      obtain ⟨a', e3, _, e4⟩ := w.wr.cel n _ (List.getElem?_eq_getElem hlt)
      rw [en] at e3; cases e3
      have hx : ∃ x, H a = some x := by
        cases q : fr.sto[n] with
        | dict kvs => rw [q] at e4; obtain ⟨vs, h, _⟩ := e4; exact ⟨_, h⟩
        | inst c fs => rw [q] at e4; obtain ⟨dx, vs, h, _⟩ := e4; exact ⟨_, h⟩
      obtain ⟨x, hx⟩ := hx
      exact w.wr.old a o u e1 (w'.old a x u hx e2)
    · have h1 := w.wr.keep a o e1 fun n hn z => q ⟨n, hn, z⟩
      exact w.wr.old a o u e1 (w'.old a o u h1 e2)
  · have q := w.sl.at_ i sl e
    cases sl with
    | un => trivial
    | val d => obtain ⟨v, e1, r⟩ := q; exact ⟨v, e1, r.mono s p⟩
    | own xs =>
      obtain ⟨q, e1, vs, h1, h2, h3, h4, h5⟩ := q
      have nq : ∀ n : Nat, n < io.length → io'[n]? ≠ some q := fun n hn z => h3 n (cellN n q z hn)
      refine ⟨q, e1, vs, w'.keep q _ h1 nq, ?_, fun n z => ?_, h4, h5.mono s p⟩
      · cases z : F' q with
        | none => rfl
        | some u =>
          have : F q = some u := w'.old q _ u h1 z
          rw [h2] at this; cases this
      · by_cases hn : n < io.length
        · exact nq n hn z
        · have := w'.new n q (Nat.le_of_not_lt hn) z
          rw [show (⟨H, F⟩ : Ent) q = H q from rfl, h1] at this; cases this
/-- a new list of the callee is new for the caller -/
theorem RvOk.after {sto' : List Cell} {H' F' : Hp} {io' : List Addr} {o : Out} {v : V} (w : E.ws fr (σ ++ tp) H F io) (r : RvOk E.G ⟨H, F⟩ H' F' io' [] [] (.out o) v) : RvOk E.G E.H0 H' F' io' fr.env (σ ++ tp) (.out o) v := by
  cases o with
  | val d => exact r
  | fresh xs =>
    obtain ⟨p, rfl, ⟨vs, h1, h2, h3, h4, h5⟩, _⟩ := r
    have h4 : H p = none := h4
    refine ⟨p, rfl, ⟨vs, h1, h2, h3, (w.wr.fresh h4).2.2, h5⟩, fun i ys e z => ?_⟩
    obtain ⟨q, e1, own⟩ := w.sl.at_ i _ e
    rw [z] at e1; cases e1
    exact own.ne h4 rfl
theorem calls_of {k n : Nat} {f : Addr} {fd : FuncData} {ps : List Str} {phi : Fn} (ok : E.Ok) (FK : FnOk E.X.prog E.X.w E.X.K E.X.mg E.X.base (L2.CX E.X.prog E.X.w) k f fd ps (spI E.G n phi)) (hr : Room k E.X.A) (hb : Binds E.X.K fd ps [])
    (hn : ∀ ds sto, phi ds sto ≠ .bad → ds.length = n) : Calls E (.ref f) phi := by
  intro fr σ tp H F io Q ds vs us pins s w r rv I h
  have hnb : phi ds fr.sto ≠ .bad := fun z => by rw [z] at h; exact h
  have hsp : spI E.G n phi vs H Q (fun cls d H' => E.W cls d σ H') := by
    refine ⟨ds, fr.sto, F, io, hn _ _ hnb, r, ⟨w.wr.sub, w.wr.len, w.wr.cel, w.wr.inj, fun a o e _ => e, fun m a hm e => ?_, w.wr.frz, Nat.le_refl _, fun a o u _ e => e⟩, ?_⟩
    · have := (List.getElem?_eq_some_iff.mp e).1
      omega
    · cases q : phi ds fr.sto with
      | bad => exact absurd q hnb
      | ret o sto' =>
        rw [q] at h
        intro v H' F' io' s1 p1 w1 r1
        exact h v H' F' io' s1 p1 (w.after s1 p1 w1) (RvOk.after (sto' := sto') (fr := fr) w r1)
      | exc c fs sto' =>
        rw [q] at h
        intro d H' F' io' s1 p1 w1 x
        exact h d H' F' io' s1 p1 (w.after s1 p1 w1) x
  have hl : (us ++ []).length = ps.length := by
    rw [List.append_nil, ← rv.length]; exact FK.len _ _ _ _ hsp
  have hB := hb s us I.kIn hl
  rw [List.append_nil] at hB
  refine wpAny_call (codeAny_mono (FK.run E.X.A E.X.stack s H ⟨us, []⟩ us vs Q (fun cls d H' => E.W cls d σ H') hr I.env0 hB rv hsp) fun r s' hq => ?_)
  cases r with
  | error e => exact ok.tk e s' (XE.of_call I (fun _ _ _ h => h) hq)
  | ok fl =>
    cases fl with
    | ret u => exact I.after hq
    | next => exact False.elim hq
    | brk => exact False.elim hq
    | cont => exact False.elim hq
end

/-- a name of the module that can be called, at level k -/
def Good (P : Program) (w : World) (K : PySem.W.Frag) (mg : Str → Option Value) (base : Heap) (G : Glb) (k : Nat) (x : Str) (phi : Fn) : Prop :=
  ∃ u, mg x = some u ∧ PySem.W.keepIn K u = true ∧ ∀ E : En, E.X.prog = P → E.X.w = w → E.X.K = K → E.X.mg = mg → E.X.base = base → E.G = G → E.Ok → Room k E.X.A → Calls E u phi
def GoodM (P : Program) (w : World) (K : PySem.W.Frag) (mg : Str → Option Value) (base : Heap) (G : Glb) (k : Nat) (c m : Nat) (phi : Fn) : Prop :=
  Cls K (G.cl c) ∧ ∃ g, Meth K (G.cl c) (G.fn m) g ∧ ∀ E : En, E.X.prog = P → E.X.w = w → E.X.K = K → E.X.mg = mg → E.X.base = base → E.G = G → E.Ok → Room k E.X.A → Calls E (.ref g) phi
/-- what the whole program's terms lean on -/
structure Base (K : PySem.W.Frag) (mg : Str → Option Value) (G : Glb) (T : Tab) (C : Cv) : Prop where
  k : G.K = K
  inj : ∀ f g, G.fn f = G.fn g → f = g
  fld : ∀ c f, T.fld c f = true → Cls K (G.cl c) ∧ NoAttr K (G.cl c) (G.fn f)
  nms : ∀ x i, C.nms.lookup x = some i → G.fn i = x
  globs : ∀ x g, C.globs.lookup x = some g → ∃ d v u, T.glob g = some d ∧ mg x = some u ∧ RelV v u ∧ ∀ F io, Rep G F io d v
  blts : ∀ x, C.blts.contains x = true → mg x = none

section
variable {P : Program} {w : World} {K : PySem.W.Frag} {mg : Str → Option Value} {base : Heap} {G : Glb} {T : Tab} {C : Cv} {k : Nat}
theorem start_reps {N : List Str} {F : Hp} {io : List Addr} {ds : List Ag.D} {vs : List V} {H0 : Ent} {H : Hp} (r : Reps G F io ds vs) (hl : ds.length ≤ N.length) : Sl G H0 H F io (ds.map Slot.val ++ List.replicate (N.length - ds.length) .un) (L2.start N vs) := by
  have hd : ∀ (i : Nat) (s : Slot), (ds.map Slot.val ++ List.replicate (N.length - ds.length) Slot.un)[i]? = some s → s = .un ∨ ∃ d, ds[i]? = some d ∧ s = .val d := fun i s e => by
    by_cases q : i < (ds.map Slot.val).length
    · rw [List.getElem?_append_left q, List.getElem?_map] at e
      cases z : ds[i]? with
      | none => rw [z] at e; cases e
      | some d => rw [z] at e; cases e; exact .inr ⟨d, rfl, rfl⟩
    · rw [List.getElem?_append_right (Nat.le_of_not_lt q), List.getElem?_replicate] at e
      split at e <;> cases e
      exact .inl rfl
  refine ⟨?_, fun i s e => ?_, fun i j xs ys p e1 e2 _ _ => ?_⟩
  · unfold L2.start
    simp only [List.length_append, List.length_map, List.length_replicate]
    rw [r.length]
  · rcases hd i s e with rfl | ⟨d, e1, rfl⟩
    · trivial
    · obtain ⟨v, e2, rv⟩ := r.get e1
      refine ⟨v, ?_, rv⟩
      unfold L2.start
      have : i < (vs.map some).length := by rw [List.length_map]; exact (List.getElem?_eq_some_iff.mp e2).1
      rw [List.getElem?_append_left this, List.getElem?_map, e2]; rfl
  · rcases hd i _ e1 with z | ⟨d, _, z⟩ <;> cases z
/-- THE RULE for a def -/
theorem def_ok {x qual : Str} {st : Stmt} {f : Addr} {fd : FuncData} {ps : List Str} {body : List Stm} {phi : Fn} {n : Nat} (B : Base K mg G T C) (FF : Fun K x qual st f fd) (S : FnScope C.N ps (defScope st))
    (hfn : ∀ x i, C.fns.lookup x = some i → Good P w K mg base G k x (T.phi i)) (hme : ∀ m, C.meths.contains m = true → ∀ c i, T.psi c m = some i → GoodM P w K mg base G k c m (T.phi i))
    (hfc : C.fnc = fun _ => true) (hc : cvSs C n (defScope st) (defBody st) = some body) (hN : ps.length ≤ C.N.length)
    (hphi : ∀ ds sto, phi ds sto ≠ .bad → ds.length = ps.length ∧ run T ⟨C.N.length, body⟩ ds sto = phi ds sto) : FnOk P w K mg base (L2.CX P w) (k + 1) f fd ps (spI G ps.length phi) := by
  refine FF.okX S (fun vs H Q Ex h => ?_) fun cdv A outer s H vs Q Ex hr h => ?_
  · obtain ⟨ds, sto, F, io, h1, h2, _⟩ := h
    rw [← h2.length]; exact h1
  · obtain ⟨ds, sto, F, io, h1, h2, h3, h4⟩ := h
    have hnb : phi ds sto ≠ .bad := fun z => by rw [z] at h4; exact h4
    obtain ⟨_, hrun⟩ := hphi ds sto hnb
    let E : En := ⟨cxOf (L2.CX P w) P w K mg base C.N qual (defScope st) f cdv A outer s H Ex, G, ⟨H, F⟩, io.length, T, fun cls d _ H' => Ex cls d H'⟩
    have ok : E.Ok := ⟨B.k, S.nd, rfl, by have := hr.units; exact this, takes_of rfl rfl rfl rfl, B.inj, B.fld⟩
    have okA : ∀ h0, (E.at h0).Ok := fun h0 => ok.at h0
    have cx : CtxS C (defScope st) E := ⟨⟨ok, rfl, rfl, S.kind, fun x i e h0 => by
        obtain ⟨u, g1, g2, g3⟩ := hfn x i e
        exact ⟨u, g1, g2, g3 (E.at h0) rfl rfl rfl rfl rfl rfl (okA h0) hr⟩, B.nms, fun m hm c i e h0 => by
        obtain ⟨g1, g, g2, g3⟩ := hme m hm c i e
        exact ⟨g1, g, g2, g3 (E.at h0) rfl rfl rfl rfl rfl rfl (okA h0) hr⟩, B.globs, B.blts, fun x h => rfl⟩, passes_of rfl⟩
    refine ⟨_, pss_w, ?_⟩
    have hs := (cvS_sound C (defScope st) E cx n).2 _ _ hc
    have hlen : (L2.start C.N vs).length = C.N.length := by
      unfold L2.start
      simp only [List.length_append, List.length_map, List.length_replicate]
      have := h2.length
      omega
    refine hs ⟨ds.map Slot.val ++ List.replicate (C.N.length - ds.length) .un, sto⟩ (L2.start C.N vs) [] H F io _ hlen (by rw [List.append_nil]; exact ⟨h3, start_reps h2 (by omega)⟩) ?_
    have q : run T ⟨C.N.length, body⟩ ds sto = phi ds sto := hrun
    unfold run at q
    dsimp only at q
    cases z : exs T body ⟨ds.map Slot.val ++ List.replicate (C.N.length - ds.length) .un, sto⟩ with
    | next fr =>
      rw [z] at q
      rw [← q] at h4
      intro σ' H' F' io' _ s1 p1 w1
      exact h4 .non H' F' io' s1 p1 w1.wr .non
    | ret o fr =>
      rw [z] at q
      rw [← q] at h4
      intro v σ' H' F' io' _ s1 p1 w1 r1
      refine h4 v H' F' io' s1 p1 w1.wr ?_
      cases o with
      | val d => exact r1
      | fresh xs =>
        obtain ⟨p, e, own, _⟩ := r1
        exact ⟨p, e, own, fun i ys z => by simp at z⟩
    | exc c fs fr =>
      rw [z] at q
      rw [← q] at h4
      intro d σ' H' F' io' _ s1 p1 w1 x
      exact h4 d H' F' io' s1 p1 w1.wr x
    | brk fr => rw [z] at q; exact absurd q.symm hnb
    | cont fr => rw [z] at q; exact absurd q.symm hnb
    | bad => rw [z] at q; exact absurd q.symm hnb
theorem def_good {x qual : Str} {st : Stmt} {f : Addr} {fd : FuncData} {ps : List Str} {phi : Fn} (FF : Fun K x qual st f fd) (hm : mg x = some (.ref f)) (hb : Binds K fd ps []) (h : FnOk P w K mg base (L2.CX P w) k f fd ps (spI G ps.length phi))
    (hn : ∀ ds sto, phi ds sto ≠ .bad → ds.length = ps.length) : Good P w K mg base G k x phi :=
  ⟨.ref f, hm, FF.kp, fun E e1 e2 e3 e4 e5 e6 ok hr => calls_of ok (by rw [e1, e2, e3, e4, e5, e6]; exact h) hr (by rw [e3]; exact hb) hn⟩
theorem Good.mono {j : Nat} {x : Str} {phi : Fn} (h : Good P w K mg base G j x phi) (hj : j ≤ k) : Good P w K mg base G k x phi := by
  obtain ⟨u, h1, h2, h3⟩ := h
  exact ⟨u, h1, h2, fun E e1 e2 e3 e4 e5 e6 ok hr => h3 E e1 e2 e3 e4 e5 e6 ok (hr.mono hj)⟩
end
end Ag
namespace Ag
open PySem L2

/-! ### evaluation, step by step -/
theorem eqD_int (a b : Int) : eqD (.int a) (.int b) = some (decide (a = b)) := rfl
theorem eqD_str (a b : Str) : eqD (.str a) (.str b) = some (decide (a = b)) := rfl
theorem eqD_bl (a b : Bool) : eqD (.bl a) (.bl b) = some (decide (a = b)) := rfl
theorem eqD_nn : eqD .non .non = some true := rfl
theorem eqD_ni (a : Int) : eqD .non (.int a) = some false := rfl
theorem eqD_in (a : Int) : eqD (.int a) .non = some false := rfl
def Sm (x : Int) : Prop := x.natAbs < 2 ^ 1000
instance (x : Int) : Decidable (Sm x) := inferInstanceAs (Decidable (_ < _))
theorem log2_lt {n k : Nat} (h0 : 0 < k) (h : n < 2 ^ k) : n.log2 < k := PySem.Flt.log2_lt_of h0 h
theorem sm_mul {a b : Int} (ha : Sm a) (hb : Sm b) : mulOk a b = true := by
  unfold mulOk
  have h1 := log2_lt (by decide) ha
  have h2 := log2_lt (by decide) hb
  exact decide_eq_true (by omega)
theorem sm_div {b : Int} (h : 0 < b) (hb : Sm b) : divOk b = true := by
  unfold divOk
  have h2 := log2_lt (by decide) hb
  rw [decide_eq_true h, decide_eq_true (show b.natAbs.log2 < 9000 by omega)]; rfl
theorem sm_div2 {b : Int} (h : 0 < b) (hb : Sm b) : divOk (2 * b) = true := by
  unfold divOk
  have h2 : (2 * b).natAbs.log2 < 1001 := log2_lt (by decide) (by
    have : b.natAbs < 2 ^ 1000 := hb
    rw [show (2 : Nat) ^ 1001 = 2 ^ 1000 * 2 from rfl]
    generalize (2 : Nat) ^ 1000 = m at this ⊢
    omega)
  rw [decide_eq_true (show 0 < 2 * b by omega), decide_eq_true (show (2 * b).natAbs.log2 < 9000 by omega)]; rfl
theorem sm_lit {n : Int} (h : n.natAbs < 1000000000000000000000000000000000000000000) : Sm n := by
  unfold Sm
  have : (1000000000000000000000000000000000000000000 : Nat) < 2 ^ 1000 := by decide
  omega
end Ag
namespace Ag
open PySem L2

/-! ### what holds behind an evaluation -/
abbrev PXt := Nat → List D → Fr → Prop
def A (T : Tab) (t : Tm) (fr : Fr) (P : RV → Fr → Prop) (PX : PXt) : Prop := (ev T t fr).all P PX
def AD (T : Tab) (t : Tm) (fr : Fr) (P : D → Fr → Prop) (PX : PXt) : Prop := ((ev T t fr).fr fun d fr' => Rs.ok d fr').all P PX
def AS (T : Tab) (ts : List Tm) (fr : Fr) (P : List D → Fr → Prop) (PX : PXt) : Prop := (evs T ts fr).all P PX
def AP (T : Tab) (ts : List Tm) (fr : Fr) (P : List RV → Fr → Prop) (PX : PXt) : Prop := (evp T ts fr).all P PX
def AO (T : Tab) (t : Option Tm) (fr : Fr) (P : Option Int → Fr → Prop) (PX : PXt) : Prop := (evo T t fr).all P PX
def AI (T : Tab) (it : Iter) (fr : Fr) (P : List D → Fr → Prop) (PX : PXt) : Prop := (evi T it fr).all P PX
def AK (T : Tab) (ks : List (Key × Tm)) (fr : Fr) (P : List (Key × D) → Fr → Prop) (PX : PXt) : Prop := (evk T ks fr).all P PX
def X (T : Tab) (s : Stm) (fr : Fr) (K : SxP) : Prop := (ex T s fr).all K
def XS (T : Tab) (ss : List Stm) (fr : Fr) (K : SxP) : Prop := (exs T ss fr).all K

theorem all_bind {α β : Type} {m : Rs α} {k : α → Fr → Rs β} {P : β → Fr → Prop} {PX : PXt} (h : m.all (fun a fr => (k a fr).all P PX) PX) : (m.bind k).all P PX := by
  cases m <;> exact h
theorem all_fr {α : Type} {m : Rs RV} {k : D → Fr → Rs α} {P : α → Fr → Prop} {PX : PXt} (h : (m.fr fun d fr => Rs.ok d fr).all (fun d fr => (k d fr).all P PX) PX) : (m.fr k).all P PX := by
  cases m with
  | ok r fr =>
    show (match toD fr r with | some (d, fr') => k d fr' | none => .bad).all P PX
    have h : (match toD fr r with | some (d, fr') => Rs.ok d fr' | none => .bad).all _ PX := h
    cases q : toD fr r with
    | none => rw [q] at h; exact h.elim
    | some p => rw [q] at h; exact h
  | exc c fs fr => exact h
  | bad => exact h
theorem all_toS {α : Type} {m : Rs α} {k : α → Fr → Sx} {K : SxP} (h : m.all (fun a fr => (k a fr).all K) K.exc) : (m.toS k).all K := by
  cases m <;> exact h
theorem all_frS {m : Rs RV} {k : D → Fr → Sx} {K : SxP} (h : (m.fr fun d fr => Rs.ok d fr).all (fun d fr => (k d fr).all K) K.exc) : (m.frS k).all K := by
  cases m with
  | ok r fr =>
    show (match toD fr r with | some (d, fr') => k d fr' | none => .bad).all K
    have h : (match toD fr r with | some (d, fr') => Rs.ok d fr' | none => .bad).all _ K.exc := h
    cases q : toD fr r with
    | none => rw [q] at h; exact h.elim
    | some p => rw [q] at h; exact h
  | exc c fs fr => exact h
  | bad => exact h
/-- within a loop: n behind each turn, K behind the loop -/
def SxP.loop (K : SxP) (n : Fr → Prop) : SxP := { next := n, cont := n, brk := K.next, ret := K.ret, exc := K.exc }
def SxP.thn (K : SxP) (n : Fr → Prop) : SxP := { K with next := n }
theorem all_seq {r : Sx} {k : Fr → Sx} {K : SxP} (h : r.all (K.thn fun fr => (k fr).all K)) : (r.seq k).all K := by
  cases r <;> exact h

section
variable {T : Tab} {fr : Fr} {env : List Slot} {sto : List Cell} {P : RV → Fr → Prop} {PD : D → Fr → Prop} {PX : PXt} {K : SxP} {a b c : Tm} {i : Nat} {d : D} {xs : List D}
theorem AD_of (h : A T a fr (fun r fr1 => ∃ d fr2, toD fr1 r = some (d, fr2) ∧ PD d fr2) PX) : AD T a fr PD PX := by
  unfold A at h
  unfold AD
  cases q : ev T a fr with
  | ok r fr1 =>
    rw [q] at h
    obtain ⟨d, fr2, e, h⟩ := h
    show (match toD fr1 r with | some (d, fr') => Rs.ok d fr' | none => .bad).all PD PX
    rw [e]; exact h
  | exc c fs fr1 => rw [q] at h; exact h
  | bad => rw [q] at h; exact h
theorem A_slot (e : fr.env[i]? = some (.val d)) (h : P (.out (.val d)) fr) : A T (.slot i) fr P PX := by
  unfold A ev; rw [e]; exact h
theorem A_own (e : fr.env[i]? = some (.own xs)) (h : P (.var i) fr) : A T (.slot i) fr P PX := by
  unfold A ev; rw [e]; exact h
theorem A_non (h : P (.out (.val .non)) fr) : A T .non fr P PX := h
theorem A_bl {k : Bool} (h : P (.out (.val (.bl k))) fr) : A T (.bl k) fr P PX := h
theorem A_int {k : Int} (h : P (.out (.val (.int k))) fr) : A T (.int k) fr P PX := h
theorem A_str {k : Str} (h : P (.out (.val (.str k))) fr) : A T (.str k) fr P PX := h
theorem A_glob {g : Nat} (e : T.glob g = some d) (h : P (.out (.val d)) fr) : A T (.glob g) fr P PX := by
  unfold A ev; rw [e]; exact h
theorem A_bin {op : Op2} (h : A T a fr (fun x fr1 => A T b fr1 (fun y fr2 => ∃ d e o, look fr2.env (hold x) = some d ∧ look fr2.env (hold y) = some e ∧ opD op d e = some o ∧ P (.out o) fr2) PX) PX) : A T (.bin op a b) fr P PX := by
  unfold A ev
  refine all_bind (Rs.all_imp h (fun x fr1 h => all_bind (Rs.all_imp h (fun y fr2 h => ?_) fun _ _ _ z => z)) fun _ _ _ z => z)
  obtain ⟨d, e, o, h1, h2, h3, h4⟩ := h
  rw [h1, h2]
  show (match opD op d e with | some o => Rs.ok (RV.out o) fr2 | none => .bad).all P PX
  rw [h3]; exact h4
theorem A_cmp {op : Cm} (h : A T a fr (fun x fr1 => A T b fr1 (fun y fr2 => ∃ d e k, look fr2.env (hold x) = some d ∧ look fr2.env (hold y) = some e ∧ cmpD op d e = some k ∧ P (.out (.val (.bl k))) fr2) PX) PX) : A T (.cmp op a b) fr P PX := by
  unfold A ev
  refine all_bind (Rs.all_imp h (fun x fr1 h => all_bind (Rs.all_imp h (fun y fr2 h => ?_) fun _ _ _ z => z)) fun _ _ _ z => z)
  obtain ⟨d, e, o, h1, h2, h3, h4⟩ := h
  rw [h1, h2]
  show (match cmpD op d e with | some o => Rs.ok (RV.out (.val (.bl o))) fr2 | none => .bad).all P PX
  rw [h3]; exact h4
theorem A_neg (h : AD T a fr (fun d fr1 => ∃ n, d = .int n ∧ P (.out (.val (.int (-n)))) fr1) PX) : A T (.neg a) fr P PX := by
  unfold A ev
  refine all_fr (Rs.all_imp h (fun d fr1 h => ?_) fun _ _ _ z => z)
  obtain ⟨n, rfl, h⟩ := h
  exact h
theorem A_not (h : AD T a fr (fun d fr1 => ∃ k, d = .bl k ∧ P (.out (.val (.bl (!k)))) fr1) PX) : A T (.not_ a) fr P PX := by
  unfold A ev
  refine all_fr (Rs.all_imp h (fun d fr1 h => ?_) fun _ _ _ z => z)
  obtain ⟨n, rfl, h⟩ := h
  exact h
theorem A_and (h : AD T a fr (fun d fr1 => ∃ k, d = .bl k ∧ (k = true → A T b fr1 P PX) ∧ (k = false → P (.out (.val (.bl false))) fr1)) PX) : A T (.and_ a b) fr P PX := by
  unfold A ev
  refine all_fr (Rs.all_imp h (fun d fr1 h => ?_) fun _ _ _ z => z)
  obtain ⟨n, rfl, h1, h2⟩ := h
  cases n with
  | true => exact h1 rfl
  | false => exact h2 rfl
theorem A_or (h : AD T a fr (fun d fr1 => ∃ k, d = .bl k ∧ (k = false → A T b fr1 P PX) ∧ (k = true → P (.out (.val (.bl true))) fr1)) PX) : A T (.or_ a b) fr P PX := by
  unfold A ev
  refine all_fr (Rs.all_imp h (fun d fr1 h => ?_) fun _ _ _ z => z)
  obtain ⟨n, rfl, h1, h2⟩ := h
  cases n with
  | true => exact h2 rfl
  | false => exact h1 rfl
theorem A_ite (h : AD T c fr (fun d fr1 => ∃ k, d = .bl k ∧ (k = true → A T a fr1 P PX) ∧ (k = false → A T b fr1 P PX)) PX) : A T (.ite c a b) fr P PX := by
  unfold A ev
  refine all_fr (Rs.all_imp h (fun d fr1 h => ?_) fun _ _ _ z => z)
  obtain ⟨n, rfl, h1, h2⟩ := h
  cases n with
  | true => exact h1 rfl
  | false => exact h2 rfl
theorem AS_nil {P : List D → Fr → Prop} (h : P [] fr) : AS T [] fr P PX := h
theorem AS_cons {ts : List Tm} {P : List D → Fr → Prop} (h : AD T a fr (fun d fr1 => AS T ts fr1 (fun ds fr2 => P (d :: ds) fr2) PX) PX) : AS T (a :: ts) fr P PX := by
  unfold AS evs
  exact all_fr (Rs.all_imp h (fun d fr1 h => all_bind (Rs.all_imp h (fun ds fr2 h => h) fun _ _ _ z => z)) fun _ _ _ z => z)
theorem AP_nil {P : List RV → Fr → Prop} (h : P [] fr) : AP T [] fr P PX := h
theorem AP_cons {ts : List Tm} {P : List RV → Fr → Prop} (h : A T a fr (fun r fr1 => AP T ts fr1 (fun rs fr2 => P (hold r :: rs) fr2) PX) PX) : AP T (a :: ts) fr P PX := by
  unfold AP evp
  exact all_bind (Rs.all_imp h (fun d fr1 h => all_bind (Rs.all_imp h (fun ds fr2 h => h) fun _ _ _ z => z)) fun _ _ _ z => z)
theorem AK_nil {P : List (Key × D) → Fr → Prop} (h : P [] fr) : AK T [] fr P PX := h
theorem AK_cons {k : Key} {ts : List (Key × Tm)} {P : List (Key × D) → Fr → Prop} (h : AD T a fr (fun d fr1 => AK T ts fr1 (fun ds fr2 => P ((k, d) :: ds) fr2) PX) PX) : AK T ((k, a) :: ts) fr P PX := by
  unfold AK evk
  exact all_fr (Rs.all_imp h (fun d fr1 h => all_bind (Rs.all_imp h (fun ds fr2 h => h) fun _ _ _ z => z)) fun _ _ _ z => z)
theorem A_tup {ts : List Tm} (h : AS T ts fr (fun ds fr1 => ds.length ≤ sizeLine ∧ P (.out (.val (.tup ds))) fr1) PX) : A T (.tup ts) fr P PX := by
  unfold A ev
  refine all_bind (Rs.all_imp h (fun ds fr1 h => ?_) fun _ _ _ z => z)
  rw [if_pos h.1]; exact h.2
theorem A_lst {ts : List Tm} (h : AS T ts fr (fun ds fr1 => ds.length ≤ sizeLine ∧ P (.out (.fresh ds)) fr1) PX) : A T (.lst ts) fr P PX := by
  unfold A ev
  refine all_bind (Rs.all_imp h (fun ds fr1 h => ?_) fun _ _ _ z => z)
  rw [if_pos h.1]; exact h.2
theorem A_dict {ks : List (Key × Tm)} (h : AK T ks fr (fun ds fr1 => ds.length ≤ 15 ∧ P (.out (.val (.cell fr1.sto.length))) { fr1 with sto := fr1.sto ++ [.dict (kmerge [] ds)] }) PX) : A T (.dict ks) fr P PX := by
  unfold A ev
  refine all_bind (Rs.all_imp h (fun ds fr1 h => ?_) fun _ _ _ z => z)
  rw [if_pos h.1]; exact h.2
theorem A_bi {k : Bi} {ts : List Tm} (h : AP T ts fr (fun rs fr1 => ∃ ds o, looks fr1.env rs = some ds ∧ biD k ds = some o ∧ P (.out o) fr1) PX) : A T (.bi k ts) fr P PX := by
  unfold A ev
  refine all_bind (Rs.all_imp h (fun rs fr1 h => ?_) fun _ _ _ z => z)
  obtain ⟨ds, o, h1, h2, h3⟩ := h
  rw [h1]
  show (match biD k ds with | some o => Rs.ok (RV.out o) fr1 | none => .bad).all P PX
  rw [h2]; exact h3
theorem A_call {f : Nat} {ts : List Tm} (h : AS T ts fr (fun ds fr1 => (T.phi f ds fr1.sto).all (fun o s => P (.out o) { fr1 with sto := s }) (fun c fs s => PX c fs { fr1 with sto := s })) PX) : A T (.call f ts) fr P PX := by
  unfold A ev
  refine all_bind (Rs.all_imp h (fun ds fr1 h => ?_) fun _ _ _ z => z)
  cases q : T.phi f ds fr1.sto with
  | ret o s => rw [q] at h; exact h
  | exc c fs s => rw [q] at h; exact h
  | bad => rw [q] at h; exact h
theorem A_meth {m : Nat} {ts : List Tm} (h : AD T a fr (fun d fr1 => ∃ c fs f, insD fr1.sto d = some (c, fs) ∧ fget fs m = none ∧ T.psi c m = some f ∧
    AS T ts fr1 (fun ds fr2 => (T.phi f (d :: ds) fr2.sto).all (fun o s => P (.out o) { fr2 with sto := s }) (fun c fs s => PX c fs { fr2 with sto := s })) PX) PX) : A T (.meth m a ts) fr P PX := by
  unfold A ev
  refine all_fr (Rs.all_imp h (fun d fr1 h => ?_) fun _ _ _ z => z)
  obtain ⟨c, fs, f, h1, h2, h3, h4⟩ := h
  rw [h1]
  show (if (fget fs m).isNone = true then (match T.psi c m with | some f => (evs T ts fr1).bind fun ds fr2 => ofFx fr2 (T.phi f (d :: ds) fr2.sto) | none => .bad) else .bad : Rs RV).all P PX
  rw [if_pos (by rw [h2]; rfl), h3]
  refine all_bind (Rs.all_imp h4 (fun ds fr2 h => ?_) fun _ _ _ z => z)
  cases q : T.phi f (d :: ds) fr2.sto with
  | ret o s => rw [q] at h; exact h
  | exc c fs s => rw [q] at h; exact h
  | bad => rw [q] at h; exact h
theorem A_attr {f : Nat} (h : AD T a fr (fun d fr1 => ∃ c fs v, insD fr1.sto d = some (c, fs) ∧ T.fld c f = true ∧ fget fs f = some v ∧ P (.out (.val v)) fr1) PX) : A T (.attr a f) fr P PX := by
  unfold A ev
  refine all_fr (Rs.all_imp h (fun d fr1 h => ?_) fun _ _ _ z => z)
  obtain ⟨c, fs, v, h1, h2, h3, h4⟩ := h
  rw [h1]
  show (if T.fld c f = true then (match fget fs f with | some v => Rs.ok (RV.out (.val v)) fr1 | none => .bad) else .bad : Rs RV).all P PX
  rw [if_pos h2, h3]; exact h4
theorem A_ix (h : A T a fr (fun x fr1 => AD T b fr1 (fun k fr2 => ∃ d v, look fr2.env (hold x) = some d ∧ ixD fr2.sto d k = some v ∧ P (.out (.val v)) fr2) PX) PX) : A T (.ix a b) fr P PX := by
  unfold A ev
  refine all_bind (Rs.all_imp h (fun x fr1 h => all_fr (Rs.all_imp h (fun k fr2 h => ?_) fun _ _ _ z => z)) fun _ _ _ z => z)
  obtain ⟨d, v, h1, h2, h3⟩ := h
  rw [h1]
  show (match ixD fr2.sto d k with | some v => Rs.ok (RV.out (.val v)) fr2 | none => .bad).all P PX
  rw [h2]; exact h3
theorem AO_none {P : Option Int → Fr → Prop} (h : P none fr) : AO T none fr P PX := h
theorem AO_some {P : Option Int → Fr → Prop} (h : AD T a fr (fun d fr1 => ∃ n, d = .int n ∧ P (some n) fr1) PX) : AO T (some a) fr P PX := by
  unfold AO evo
  refine all_fr (Rs.all_imp h (fun d fr1 h => ?_) fun _ _ _ z => z)
  obtain ⟨n, rfl, h⟩ := h
  exact h
theorem A_slice {lo hi : Option Tm} (h : A T a fr (fun x fr1 => AO T lo fr1 (fun l fr2 => AO T hi fr2 (fun u fr3 => ∃ d, look fr3.env (hold x) = some d ∧
    ((∃ xs, d = .lst xs ∧ P (.out (.fresh (cutL xs l u))) fr3) ∨ (∃ xs, d = .rol xs ∧ P (.out (.fresh (cutL xs l u))) fr3) ∨ (∃ xs, d = .tup xs ∧ P (.out (.val (.tup (cutL xs l u)))) fr3))) PX) PX) PX) : A T (.slice a lo hi) fr P PX := by
  unfold A ev
  refine all_bind (Rs.all_imp h (fun x fr1 h => all_bind (Rs.all_imp h (fun l fr2 h => all_bind (Rs.all_imp h (fun u fr3 h => ?_) fun _ _ _ z => z)) fun _ _ _ z => z)) fun _ _ _ z => z)
  obtain ⟨d, h1, h⟩ := h
  rw [h1]
  rcases h with ⟨xs, rfl, h⟩ | ⟨xs, rfl, h⟩ | ⟨xs, rfl, h⟩ <;> exact h
theorem A_pop {d : D} (e : fr.env[i]? = some (.own xs)) (e2 : xs.getLast? = some d) (h : P (.out (.val d)) { fr with env := fr.env.set i (.own xs.dropLast) }) : A T (.pop i) fr P PX := by
  unfold A ev; rw [e]; dsimp only; rw [e2]; exact h

/-! iterators -/
theorem AI_seq {P : List D → Fr → Prop} (h : AD T a fr (fun d fr1 => ∃ xs, seqOf d = some xs ∧ P xs fr1) PX) : AI T (.seq a) fr P PX := by
  unfold AI evi
  refine all_fr (Rs.all_imp h (fun d fr1 h => ?_) fun _ _ _ z => z)
  obtain ⟨xs, e, h⟩ := h
  rw [e]; exact h
theorem AI_range1 {P : List D → Fr → Prop} (h : AD T a fr (fun d fr1 => ∃ n, d = .int n ∧ (n < 2 ^ 62 ∧ -(2 ^ 62) < n) ∧ P (rangeD 0 n.toNat) fr1) PX) : AI T (.range1 a) fr P PX := by
  unfold AI evi
  refine all_fr (Rs.all_imp h (fun d fr1 h => ?_) fun _ _ _ z => z)
  obtain ⟨n, rfl, h1, h⟩ := h
  dsimp only; rw [if_pos h1]; exact h
theorem AI_range2 {P : List D → Fr → Prop} (h : AD T a fr (fun d fr1 => AD T b fr1 (fun e fr2 => ∃ lo hi, d = .int lo ∧ e = .int hi ∧ (-(2 ^ 62) < lo ∧ lo < 2 ^ 62 ∧ -(2 ^ 62) < hi ∧ hi < 2 ^ 62) ∧ P (rangeD lo (hi - lo).toNat) fr2) PX) PX) : AI T (.range2 a b) fr P PX := by
  unfold AI evi
  refine all_fr (Rs.all_imp h (fun d fr1 h => all_fr (Rs.all_imp h (fun e fr2 h => ?_) fun _ _ _ z => z)) fun _ _ _ z => z)
  obtain ⟨lo, hi, rfl, rfl, h1, h⟩ := h
  dsimp only; rw [if_pos h1]; exact h

/-! statements -/
theorem XS_nil (h : K.next fr) : XS T [] fr K := h
theorem XS_cons {s : Stm} {ss : List Stm} (h : X T s fr (K.thn fun fr1 => XS T ss fr1 K)) : XS T (s :: ss) fr K := by
  unfold XS exs
  exact all_seq h
theorem N_thn {n : Fr → Prop} (h : n fr) : (K.thn n).next fr := h
theorem R_thn {n : Fr → Prop} {o : Out} (h : K.ret o fr) : (K.thn n).ret o fr := h
theorem B_thn {n : Fr → Prop} (h : K.brk fr) : (K.thn n).brk fr := h
theorem C_thn {n : Fr → Prop} (h : K.cont fr) : (K.thn n).cont fr := h
theorem E_thn {n : Fr → Prop} {c : Nat} {fs : List D} (h : K.exc c fs fr) : (K.thn n).exc c fs fr := h
theorem N_loop {n : Fr → Prop} (h : n fr) : (K.loop n).next fr := h
theorem C_loop {n : Fr → Prop} (h : n fr) : (K.loop n).cont fr := h
theorem B_loop {n : Fr → Prop} (h : K.next fr) : (K.loop n).brk fr := h
theorem R_loop {n : Fr → Prop} {o : Out} (h : K.ret o fr) : (K.loop n).ret o fr := h
theorem E_loop {n : Fr → Prop} {c : Nat} {fs : List D} (h : K.exc c fs fr) : (K.loop n).exc c fs fr := h
theorem X_skip (h : K.next fr) : X T .skip fr K := h
theorem X_expr (h : A T a fr (fun _ fr1 => K.next fr1) K.exc) : X T (.expr a) fr K := by
  unfold X ex
  exact all_toS h
theorem X_asg {tg : Tg} (h : A T a fr (fun r fr1 => (asgR tg r fr1).all K) K.exc) : X T (.asg tg a) fr K := by
  unfold X ex
  exact all_toS h
theorem X_setk {o k v : Tm} (h : AD T v fr (fun dv fr1 => AD T o fr1 (fun d fr2 => AD T k fr2 (fun dk fr3 => ∃ n kk kvs, d = .cell n ∧ keyOf dk = some kk ∧ fr3.sto[n]? = some (.dict kvs) ∧ kvs.length < 1000 ∧
    K.next { fr3 with sto := fr3.sto.set n (.dict (kput kvs kk dv)) }) K.exc) K.exc) K.exc) : X T (.setk o k v) fr K := by
  unfold X ex
  refine all_frS (Rs.all_imp h (fun dv fr1 h => all_frS (Rs.all_imp h (fun d fr2 h => all_frS (Rs.all_imp h (fun dk fr3 h => ?_) fun _ _ _ z => z)) fun _ _ _ z => z)) fun _ _ _ z => z)
  obtain ⟨n, kk, kvs, rfl, h1, h2, h3, h4⟩ := h
  rw [h1]
  dsimp only
  rw [h2]
  dsimp only
  rw [if_pos h3]; exact h4
theorem X_aug {x : Int} (e : fr.env[i]? = some (.val (.int x))) (h : AD T a fr (fun d fr1 => ∃ y, d = .int y ∧ K.next (setE fr1 i (.val (.int (x + y))))) K.exc) : X T (.aug i .add a) fr K := by
  unfold X ex
  rw [e]
  refine all_frS (Rs.all_imp h (fun d fr1 h => ?_) fun _ _ _ z => z)
  obtain ⟨y, rfl, h⟩ := h
  exact h
theorem X_append (e : fr.env[i]? = some (.own xs)) (h : AD T a fr (fun d fr1 => ∃ ys, fr1.env[i]? = some (.own ys) ∧ ys.length < sizeLine ∧ K.next (setE fr1 i (.own (ys ++ [d])))) K.exc) : X T (.append i a) fr K := by
  unfold X ex
  rw [e]
  refine all_frS (Rs.all_imp h (fun d fr1 h => ?_) fun _ _ _ z => z)
  obtain ⟨ys, h1, h2, h⟩ := h
  rw [h1]
  dsimp only
  rw [if_pos h2]; exact h
theorem X_extend (e : fr.env[i]? = some (.own xs)) (h : AD T a fr (fun d fr1 => ∃ ys zs, fr1.env[i]? = some (.own ys) ∧ d = .lst zs ∧ ys.length + zs.length ≤ sizeLine ∧ K.next (setE fr1 i (.own (ys ++ zs)))) K.exc) : X T (.extend i a) fr K := by
  unfold X ex
  rw [e]
  refine all_frS (Rs.all_imp h (fun d fr1 h => ?_) fun _ _ _ z => z)
  obtain ⟨ys, zs, h1, rfl, h2, h⟩ := h
  rw [h1]
  dsimp only
  rw [if_pos h2]; exact h
theorem X_ite {A' B' : List Stm} (h : AD T c fr (fun d fr1 => ∃ k, d = .bl k ∧ (k = true → XS T A' fr1 K) ∧ (k = false → XS T B' fr1 K)) K.exc) : X T (.ite c A' B') fr K := by
  unfold X ex
  refine all_frS (Rs.all_imp h (fun d fr1 h => ?_) fun _ _ _ z => z)
  obtain ⟨n, rfl, h1, h2⟩ := h
  cases n with
  | true => exact h1 rfl
  | false => exact h2 rfl
theorem X_ret (h : A T a fr (fun r fr1 => match r with
    | .out o => K.ret o fr1
    | .var i => ∃ xs, fr1.env[i]? = some (.own xs) ∧ K.ret (.fresh xs) (setE fr1 i .un)) K.exc) : X T (.ret a) fr K := by
  unfold X ex
  refine all_toS (Rs.all_imp h (fun r fr1 h => ?_) fun _ _ _ z => z)
  cases r with
  | out o => exact h
  | var i =>
    obtain ⟨xs, e, h⟩ := h
    dsimp only; rw [e]; exact h
theorem X_retN (h : K.ret (.val .non) fr) : X T .retN fr K := h
theorem X_brk (h : K.brk fr) : X T .brk fr K := h
theorem X_cont (h : K.cont fr) : X T .cont fr K := h
theorem X_for {tg : Tg} {it : Iter} {B : List Stm} (h : AI T it fr (fun xs fr1 => (forGo (bindT tg) (fun fr2 => exs T B fr2) xs fr1).all K) K.exc) : X T (.for_ tg it B) fr K := by
  unfold X ex
  exact all_toS h
theorem X_par {is : List Nat} {ts : List Tm} (h : (cutX fr.env.length (parGo T fr.env.length ts fr)).all (fun rs fr1 => ∃ fr2, parSet fr.env.length is rs fr1 = some fr2 ∧ K.next (cutE fr.env.length fr2)) K.exc) : X T (.par is ts) fr K := by
  unfold X ex
  refine all_toS (Rs.all_imp h (fun r fr1 h => ?_) fun _ _ _ z => z)
  obtain ⟨fr2, e, h⟩ := h
  rw [e]; exact h

/-- a for by what holds ahead of each turn -/
theorem for_inv {tg : D → Fr → Option Fr} {B : Fr → Sx} {xs : List D} (I : Nat → Fr → Prop) (h0 : I 0 fr)
    (hs : ∀ i x fr, xs[i]? = some x → I i fr → ∃ fr1, tg x fr = some fr1 ∧ (B fr1).all (K.loop (I (i + 1))))
    (hd : ∀ fr, I xs.length fr → K.next fr) : (forGo tg B xs fr).all K := by
  have key : ∀ (n i : Nat) (fr : Fr), n = xs.length - i → i ≤ xs.length → I i fr → (forGo tg B (xs.drop i) fr).all K := by
    intro n
    induction n with
    | zero =>
      intro i fr hn hi h
      have : i = xs.length := by omega
      subst this
      rw [List.drop_length]
      exact hd fr h
    | succ n ih =>
      intro i fr hn hi h
      have hlt : i < xs.length := by omega
      rw [List.drop_eq_getElem_cons hlt]
      obtain ⟨fr1, e, hb⟩ := hs i xs[i] fr (List.getElem?_eq_getElem hlt) h
      unfold forGo
      rw [e]
      dsimp only
      cases q : B fr1 with
      | next fr2 => rw [q] at hb; exact ih (i + 1) fr2 (by omega) (by omega) hb
      | cont fr2 => rw [q] at hb; exact ih (i + 1) fr2 (by omega) (by omega) hb
      | brk fr2 => rw [q] at hb; exact hb
      | ret o fr2 => rw [q] at hb; exact hb
      | exc c fs fr2 => rw [q] at hb; exact hb
      | bad => rw [q] at hb; exact hb
  have := key xs.length 0 fr rfl (Nat.zero_le _) h0
  simpa using this
/-- the rule for a for -/
theorem X_forI {tg : Tg} {it : Iter} {B : List Stm} (h : AI T it fr (fun xs fr1 => ∃ I : Nat → Fr → Prop, I 0 fr1 ∧
    (∀ i x fr, xs[i]? = some x → I i fr → ∃ fr2, bindT tg x fr = some fr2 ∧ XS T B fr2 (K.loop (I (i + 1)))) ∧ ∀ fr, I xs.length fr → K.next fr) K.exc) : X T (.for_ tg it B) fr K :=
  X_for (Rs.all_imp h (fun xs fr1 ⟨I, h0, hs, hd⟩ => for_inv I h0 hs hd) fun _ _ _ z => z)
end

/-- a def: how many parameters, how many slots, its body; the numbers of its slots at the start -/
noncomputable def fx (T : Tab) (np n : Nat) (body : List Stm) : Fn := fun ds sto => if ds.length = np then run T ⟨n, body⟩ ds sto else .bad
theorem fx_len {T : Tab} {np n : Nat} {body : List Stm} {ds : List D} {sto : List Cell} (h : fx T np n body ds sto ≠ .bad) : ds.length = np ∧ run T ⟨n, body⟩ ds sto = fx T np n body ds sto := by
  unfold fx at h ⊢
  by_cases q : ds.length = np
  · exact ⟨q, by rw [if_pos q]⟩
  · rw [if_neg q] at h; exact absurd rfl h
def fxK (P : Out → List Cell → Prop) (PX : Nat → List D → List Cell → Prop) : SxP where
  next := fun fr => P (.val .non) fr.sto
  ret := fun o fr => P o fr.sto
  brk := fun _ => False
  cont := fun _ => False
  exc := fun c fs fr => PX c fs fr.sto
theorem R_fx {P : Out → List Cell → Prop} {PX : Nat → List D → List Cell → Prop} {o : Out} {fr : Fr} (h : P o fr.sto) : (fxK P PX).ret o fr := h
theorem N_fx {P : Out → List Cell → Prop} {PX : Nat → List D → List Cell → Prop} {fr : Fr} (h : P (.val .non) fr.sto) : (fxK P PX).next fr := h
theorem E_fx {P : Out → List Cell → Prop} {PX : Nat → List D → List Cell → Prop} {c : Nat} {fs : List D} {fr : Fr} (h : PX c fs fr.sto) : (fxK P PX).exc c fs fr := h
/-- a def's run, its slots as they stand at the start -/
theorem fx_all {T : Tab} {np n : Nat} {body : List Stm} {ds : List D} {sto : List Cell} {env : List Slot} {P : Out → List Cell → Prop} {PX : Nat → List D → List Cell → Prop} (hl : ds.length = np) (he : ds.map Slot.val ++ List.replicate (n - ds.length) .un = env)
    (h : XS T body ⟨env, sto⟩ (fxK P PX)) : (fx T np n body ds sto).all P PX := by
  unfold fx
  rw [if_pos hl]
  unfold run
  dsimp only
  rw [he]
  unfold XS at h
  cases q : exs T body ⟨env, sto⟩ <;> (rw [q] at h; exact h)
theorem fx_eq {r : Fx} {o : Out} {s : List Cell} (h : r.all (fun o' s' => o' = o ∧ s' = s) (fun _ _ _ => False)) : r = .ret o s := by
  cases r with
  | ret o' s' => obtain ⟨rfl, rfl⟩ := h; rfl
  | exc c fs s' => exact h.elim
  | bad => exact h.elim
theorem all_of_eq {r : Fx} {o : Out} {s : List Cell} {P : Out → List Cell → Prop} {PX : Nat → List D → List Cell → Prop} (e : r = .ret o s) (h : P o s) : r.all P PX := by rw [e]; exact h
theorem fx_imp {r : Fx} {P P' : Out → List Cell → Prop} {PX PX' : Nat → List D → List Cell → Prop} (h : r.all P PX) (h1 : ∀ o s, P o s → P' o s) (h2 : ∀ c fs s, PX c fs s → PX' c fs s) : r.all P' PX' := by
  cases r with
  | ret o s => exact h1 _ _ h
  | exc c fs s => exact h2 _ _ _ h
  | bad => exact h
end Ag
namespace Ag
open PySem L2

/-! ### values that are no new list -/
def AV (T : Tab) (t : Tm) (fr : Fr) (P : D → Fr → Prop) (PX : PXt) : Prop := A T t fr (fun r fr1 => ∃ d, r = .out (.val d) ∧ P d fr1) PX
section
variable {T : Tab} {fr : Fr} {env : List Slot} {sto : List Cell} {P : RV → Fr → Prop} {PD : D → Fr → Prop} {PX : PXt} {K : SxP} {a b c : Tm} {i : Nat} {d : D} {xs : List D}
theorem A_imp {P P' : RV → Fr → Prop} (h : A T a fr P PX) (h1 : ∀ r fr, P r fr → P' r fr) : A T a fr P' PX := Rs.all_imp h (fun r fr h => h1 r fr h) fun _ _ _ z => z
theorem A_V (h : AV T a fr (fun d fr1 => P (.out (.val d)) fr1) PX) : A T a fr P PX := A_imp h fun r fr1 z => by
  obtain ⟨d, rfl, z⟩ := z; exact z
theorem AD_V (h : AV T a fr PD PX) : AD T a fr PD PX := AD_of (A_imp h fun r fr1 z => by
  obtain ⟨d, rfl, z⟩ := z; exact ⟨d, fr1, rfl, z⟩)
theorem V_A (h : A T a fr (fun r fr1 => ∃ d, r = .out (.val d) ∧ PD d fr1) PX) : AV T a fr PD PX := h
theorem V_slot (e : fr.env[i]? = some (.val d)) (h : PD d fr) : AV T (.slot i) fr PD PX := A_slot e ⟨_, rfl, h⟩
theorem V_int {k : Int} (h : PD (.int k) fr) : AV T (.int k) fr PD PX := A_int ⟨_, rfl, h⟩
theorem V_str {k : Str} (h : PD (.str k) fr) : AV T (.str k) fr PD PX := A_str ⟨_, rfl, h⟩
theorem V_bl {k : Bool} (h : PD (.bl k) fr) : AV T (.bl k) fr PD PX := A_bl ⟨_, rfl, h⟩
theorem V_non (h : PD .non fr) : AV T .non fr PD PX := A_non ⟨_, rfl, h⟩
theorem V_glob {g : Nat} (e : T.glob g = some d) (h : PD d fr) : AV T (.glob g) fr PD PX := A_glob e ⟨_, rfl, h⟩
theorem V_bin {op : Op2} (h : AV T a fr (fun x fr1 => AV T b fr1 (fun y fr2 => ∃ d, opD op x y = some (.val d) ∧ PD d fr2) PX) PX) : AV T (.bin op a b) fr PD PX :=
  A_bin (A_V (A_imp h fun r fr1 z => by
    obtain ⟨x, rfl, z⟩ := z
    refine ⟨x, rfl, ?_⟩
    refine A_V (A_imp z fun r fr2 z => ?_)
    obtain ⟨y, rfl, z⟩ := z
    obtain ⟨d, h1, h2⟩ := z
    exact ⟨y, rfl, x, y, _, rfl, rfl, h1, d, rfl, h2⟩))
theorem V_cmp {op : Cm} (h : AV T a fr (fun x fr1 => AV T b fr1 (fun y fr2 => ∃ k, cmpD op x y = some k ∧ PD (.bl k) fr2) PX) PX) : AV T (.cmp op a b) fr PD PX :=
  A_cmp (A_V (A_imp h fun r fr1 z => by
    obtain ⟨x, rfl, z⟩ := z
    refine ⟨x, rfl, ?_⟩
    refine A_V (A_imp z fun r fr2 z => ?_)
    obtain ⟨y, rfl, z⟩ := z
    obtain ⟨k, h1, h2⟩ := z
    exact ⟨y, rfl, x, y, k, rfl, rfl, h1, _, rfl, h2⟩))
theorem V_neg (h : AV T a fr (fun d fr1 => ∃ n, d = .int n ∧ PD (.int (-n)) fr1) PX) : AV T (.neg a) fr PD PX := A_neg (AD_V (A_imp h fun r fr1 z => by
  obtain ⟨_, rfl, n, rfl, z⟩ := z; exact ⟨_, rfl, n, rfl, _, rfl, z⟩))
theorem V_not (h : AV T a fr (fun d fr1 => ∃ n, d = .bl n ∧ PD (.bl (!n)) fr1) PX) : AV T (.not_ a) fr PD PX := A_not (AD_V (A_imp h fun r fr1 z => by
  obtain ⟨_, rfl, n, rfl, z⟩ := z; exact ⟨_, rfl, n, rfl, _, rfl, z⟩))
theorem V_and (h : AV T a fr (fun d fr1 => ∃ k, d = .bl k ∧ (k = true → AV T b fr1 PD PX) ∧ (k = false → PD (.bl false) fr1)) PX) : AV T (.and_ a b) fr PD PX := A_and (AD_V (A_imp h fun r fr1 z => by
  obtain ⟨_, rfl, n, rfl, z1, z2⟩ := z; exact ⟨_, rfl, n, rfl, z1, fun e => ⟨_, rfl, z2 e⟩⟩))
theorem V_or (h : AV T a fr (fun d fr1 => ∃ k, d = .bl k ∧ (k = false → AV T b fr1 PD PX) ∧ (k = true → PD (.bl true) fr1)) PX) : AV T (.or_ a b) fr PD PX := A_or (AD_V (A_imp h fun r fr1 z => by
  obtain ⟨_, rfl, n, rfl, z1, z2⟩ := z; exact ⟨_, rfl, n, rfl, z1, fun e => ⟨_, rfl, z2 e⟩⟩))
theorem V_ite (h : AV T c fr (fun d fr1 => ∃ k, d = .bl k ∧ (k = true → AV T a fr1 PD PX) ∧ (k = false → AV T b fr1 PD PX)) PX) : AV T (.ite c a b) fr PD PX := A_ite (AD_V (A_imp h fun r fr1 z => by
  obtain ⟨_, rfl, n, rfl, z1, z2⟩ := z; exact ⟨_, rfl, n, rfl, z1, z2⟩))
theorem A_iteV (h : AV T c fr (fun d fr1 => ∃ k, d = .bl k ∧ (k = true → A T a fr1 P PX) ∧ (k = false → A T b fr1 P PX)) PX) : A T (.ite c a b) fr P PX := A_ite (AD_V (A_imp h fun r fr1 z => by
  obtain ⟨_, rfl, n, rfl, z1, z2⟩ := z; exact ⟨_, rfl, n, rfl, z1, z2⟩))
theorem V_call {f : Nat} {ts : List Tm} (h : AS T ts fr (fun ds fr1 => (T.phi f ds fr1.sto).all (fun o s => ∃ d, o = .val d ∧ PD d { fr1 with sto := s }) (fun c fs s => PX c fs { fr1 with sto := s })) PX) : AV T (.call f ts) fr PD PX := A_call (Rs.all_imp h (fun ds fr1 z => fx_imp z (fun o s z => by
  obtain ⟨d, rfl, z⟩ := z; exact ⟨d, rfl, z⟩) fun _ _ _ z => z) fun _ _ _ z => z)
theorem V_ix (h : AV T a fr (fun x fr1 => AV T b fr1 (fun k fr2 => ∃ v, ixD fr2.sto x k = some v ∧ PD v fr2) PX) PX) : AV T (.ix a b) fr PD PX := A_ix (A_V (A_imp h fun r fr1 z => by
    obtain ⟨x, rfl, z⟩ := z
    refine ⟨x, rfl, ?_⟩
    refine AD_V (A_imp z fun r fr2 z => ?_)
    obtain ⟨y, rfl, v, h1, h2⟩ := z
    exact ⟨y, rfl, x, v, rfl, h1, v, rfl, h2⟩))
theorem V_attr {f : Nat} (h : AV T a fr (fun d fr1 => ∃ c fs v, insD fr1.sto d = some (c, fs) ∧ T.fld c f = true ∧ fget fs f = some v ∧ PD v fr1) PX) : AV T (.attr a f) fr PD PX := A_attr (AD_V (A_imp h fun r fr1 z => by
  obtain ⟨d, rfl, c, fs, v, h1, h2, h3, h4⟩ := z
  exact ⟨d, rfl, c, fs, v, h1, h2, h3, v, rfl, h4⟩))
theorem V_tup {ts : List Tm} (h : AS T ts fr (fun ds fr1 => ds.length ≤ sizeLine ∧ PD (.tup ds) fr1) PX) : AV T (.tup ts) fr PD PX := A_tup (Rs.all_imp h (fun ds fr1 z => ⟨z.1, _, rfl, z.2⟩) fun _ _ _ z => z)
theorem V_dict {ks : List (Key × Tm)} (h : AK T ks fr (fun ds fr1 => ds.length ≤ 15 ∧ PD (.cell fr1.sto.length) { fr1 with sto := fr1.sto ++ [.dict (kmerge [] ds)] }) PX) : AV T (.dict ks) fr PD PX := A_dict (Rs.all_imp h (fun ds fr1 z => ⟨z.1, _, rfl, z.2⟩) fun _ _ _ z => z)
theorem V_meth {m : Nat} {ts : List Tm} (h : AV T a fr (fun d fr1 => ∃ c fs f, insD fr1.sto d = some (c, fs) ∧ fget fs m = none ∧ T.psi c m = some f ∧
    AS T ts fr1 (fun ds fr2 => (T.phi f (d :: ds) fr2.sto).all (fun o s => ∃ d, o = .val d ∧ PD d { fr2 with sto := s }) (fun c fs s => PX c fs { fr2 with sto := s })) PX) PX) : AV T (.meth m a ts) fr PD PX := A_meth (AD_V (A_imp h fun r fr1 z => by
  obtain ⟨d, rfl, c, fs, f, h1, h2, h3, h4⟩ := z
  refine ⟨d, rfl, c, fs, f, h1, h2, h3, Rs.all_imp h4 (fun ds fr2 z => fx_imp z (fun o s z => ?_) fun _ _ _ z => z) fun _ _ _ z => z⟩
  obtain ⟨d, rfl, z⟩ := z
  exact ⟨d, rfl, z⟩))
/-- built-ins -/
theorem AP_consA {ts : List Tm} {P : List RV → Fr → Prop} (h : AV T a fr (fun d fr1 => AP T ts fr1 (fun rs fr2 => P (.out (.val d) :: rs) fr2) PX) PX) : AP T (a :: ts) fr P PX := AP_cons (A_V h)
theorem V_bi {k : Bi} {ts : List Tm} (h : AP T ts fr (fun rs fr1 => ∃ ds d, looks fr1.env rs = some ds ∧ biD k ds = some (.val d) ∧ PD d fr1) PX) : AV T (.bi k ts) fr PD PX := A_bi (Rs.all_imp h (fun rs fr1 z => by
  obtain ⟨ds, d, h1, h2, h3⟩ := z
  exact ⟨ds, _, h1, h2, d, rfl, h3⟩) fun _ _ _ z => z)
theorem AS_consV {ts : List Tm} {P : List D → Fr → Prop} (h : AV T a fr (fun d fr1 => AS T ts fr1 (fun ds fr2 => P (d :: ds) fr2) PX) PX) : AS T (a :: ts) fr P PX := AS_cons (AD_V h)
theorem AO_someV {P : Option Int → Fr → Prop} (h : AV T a fr (fun d fr1 => ∃ n, d = .int n ∧ P (some n) fr1) PX) : AO T (some a) fr P PX := AO_some (AD_V h)
theorem AK_consV {k : Key} {ts : List (Key × Tm)} {P : List (Key × D) → Fr → Prop} (h : AV T a fr (fun d fr1 => AK T ts fr1 (fun ds fr2 => P ((k, d) :: ds) fr2) PX) PX) : AK T ((k, a) :: ts) fr P PX := AK_cons (AD_V h)
/-- statements -/
theorem X_asgV (h : AV T a fr (fun d fr1 => K.next (setE fr1 i (.val d))) K.exc) : X T (.asg (.slot i) a) fr K := X_asg (A_imp h fun r fr1 z => by
  obtain ⟨d, rfl, z⟩ := z; exact z)
theorem X_asgF (h : A T a fr (fun r fr1 => ∃ xs, r = .out (.fresh xs) ∧ K.next (setE fr1 i (.own xs))) K.exc) : X T (.asg (.slot i) a) fr K := X_asg (A_imp h fun r fr1 z => by
  obtain ⟨d, rfl, z⟩ := z; exact z)
theorem X_iteV {A' B' : List Stm} (h : AV T c fr (fun d fr1 => ∃ k, d = .bl k ∧ (k = true → XS T A' fr1 K) ∧ (k = false → XS T B' fr1 K)) K.exc) : X T (.ite c A' B') fr K := X_ite (AD_V h)
theorem X_retV (h : AV T a fr (fun d fr1 => K.ret (.val d) fr1) K.exc) : X T (.ret a) fr K := X_ret (A_imp h fun r fr1 z => by
  obtain ⟨d, rfl, z⟩ := z; exact z)
theorem X_retF (h : A T a fr (fun r fr1 => ∃ xs, r = .out (.fresh xs) ∧ K.ret (.fresh xs) fr1) K.exc) : X T (.ret a) fr K := X_ret (A_imp h fun r fr1 z => by
  obtain ⟨d, rfl, z⟩ := z; exact z)
theorem X_setkV {o k v : Tm} (h : AV T v fr (fun dv fr1 => AV T o fr1 (fun d fr2 => AV T k fr2 (fun dk fr3 => ∃ n kk kvs, d = .cell n ∧ keyOf dk = some kk ∧ fr3.sto[n]? = some (.dict kvs) ∧ kvs.length < 1000 ∧
    K.next { fr3 with sto := fr3.sto.set n (.dict (kput kvs kk dv)) }) K.exc) K.exc) K.exc) : X T (.setk o k v) fr K := X_setk (AD_V (A_imp h fun r fr1 z => by
  obtain ⟨d, rfl, z⟩ := z
  refine ⟨d, rfl, AD_V (A_imp z fun r fr2 z => ?_)⟩
  obtain ⟨d2, rfl, z⟩ := z
  exact ⟨d2, rfl, AD_V z⟩))
theorem X_augV {x : Int} (e : fr.env[i]? = some (.val (.int x))) (h : AV T a fr (fun d fr1 => ∃ y, d = .int y ∧ K.next (setE fr1 i (.val (.int (x + y))))) K.exc) : X T (.aug i .add a) fr K := X_aug e (AD_V h)
theorem X_appendV (e : fr.env[i]? = some (.own xs)) (h : AV T a fr (fun d fr1 => ∃ ys, fr1.env[i]? = some (.own ys) ∧ ys.length < sizeLine ∧ K.next (setE fr1 i (.own (ys ++ [d])))) K.exc) : X T (.append i a) fr K := X_append e (AD_V h)
theorem AI_seqV {P : List D → Fr → Prop} (h : AV T a fr (fun d fr1 => ∃ xs, seqOf d = some xs ∧ P xs fr1) PX) : AI T (.seq a) fr P PX := AI_seq (AD_V h)
theorem AI_seqF {P : List D → Fr → Prop} (h : A T a fr (fun r fr1 => ∃ xs, r = .out (.fresh xs) ∧ P xs fr1) PX) : AI T (.seq a) fr P PX := AI_seq (AD_of (A_imp h fun r fr1 z => by
  obtain ⟨xs, rfl, z⟩ := z; exact ⟨_, fr1, rfl, xs, rfl, z⟩))
theorem AI_range1V {P : List D → Fr → Prop} (h : AV T a fr (fun d fr1 => ∃ n, d = .int n ∧ (n < 2 ^ 62 ∧ -(2 ^ 62) < n) ∧ P (rangeD 0 n.toNat) fr1) PX) : AI T (.range1 a) fr P PX := AI_range1 (AD_V h)
/-- operators by values -/
theorem O_add {x y : Int} {P : D → Prop} (h : P (.int (x + y))) : ∃ d, opD .add (.int x) (.int y) = some (.val d) ∧ P d := ⟨_, rfl, h⟩
theorem O_sub {x y : Int} {P : D → Prop} (h : P (.int (x - y))) : ∃ d, opD .sub (.int x) (.int y) = some (.val d) ∧ P d := ⟨_, rfl, h⟩
theorem O_mul {x y : Int} {P : D → Prop} (e : mulOk x y = true) (h : P (.int (x * y))) : ∃ d, opD .mul (.int x) (.int y) = some (.val d) ∧ P d := ⟨_, by show (if mulOk x y = true then _ else _) = _; rw [if_pos e], h⟩
theorem O_fdiv {x y : Int} {P : D → Prop} (e : divOk y = true) (h : P (.int (x / y))) : ∃ d, opD .fdiv (.int x) (.int y) = some (.val d) ∧ P d := ⟨_, by show (if divOk y = true then _ else _) = _; rw [if_pos e], h⟩
theorem O_mod {x y : Int} {P : D → Prop} (e : 0 < y) (h : P (.int (x % y))) : ∃ d, opD .mod (.int x) (.int y) = some (.val d) ∧ P d := ⟨_, by show (if 0 < y then _ else _) = _; rw [if_pos e], h⟩
theorem O_pow {x y : Int} {P : D → Prop} (e : powOk x y = true) (h : P (.int (x ^ y.toNat))) : ∃ d, opD .pow (.int x) (.int y) = some (.val d) ∧ P d := ⟨_, by show (if powOk x y = true then _ else _) = _; rw [if_pos e], h⟩
theorem C_eqI {x y : Int} {P : Bool → Prop} (h : P (decide (x = y))) : ∃ k, cmpD .eq (.int x) (.int y) = some k ∧ P k := ⟨_, rfl, h⟩
theorem C_neI {x y : Int} {P : Bool → Prop} (h : P (!decide (x = y))) : ∃ k, cmpD .ne (.int x) (.int y) = some k ∧ P k := ⟨_, rfl, h⟩
end
section
variable {T : Tab} {fr : Fr} {env : List Slot} {sto : List Cell} {P : RV → Fr → Prop} {PD : D → Fr → Prop} {PX : PXt} {K : SxP} {a b c : Tm} {i : Nat} {d : D} {xs : List D}
/-! ### a value handed on: a new list becomes one that does not change any more -/
inductive IsD : Out → D → Prop where
  | val (d : D) : IsD (.val d) d
  | fresh (xs : List D) : IsD (.fresh xs) (.lst xs)
inductive IsS : Out → Slot → Prop where
  | val (d : D) : IsS (.val d) (.val d)
  | fresh (xs : List D) : IsS (.fresh xs) (.own xs)
theorem isD_val {P : D → Prop} (h : P d) : ∃ e, IsD (.val d) e ∧ P e := ⟨d, .val d, h⟩
theorem isD_fresh {P : D → Prop} (h : P (.lst xs)) : ∃ e, IsD (.fresh xs) e ∧ P e := ⟨_, .fresh xs, h⟩
theorem isS_val {P : Slot → Prop} (h : P (.val d)) : ∃ e, IsS (.val d) e ∧ P e := ⟨_, .val d, h⟩
theorem isS_fresh {P : Slot → Prop} (h : P (.own xs)) : ∃ e, IsS (.fresh xs) e ∧ P e := ⟨_, .fresh xs, h⟩
theorem isV {P : D → Prop} (h : P d) : ∃ e, Out.val d = .val e ∧ P e := ⟨_, rfl, h⟩
theorem D_call {f : Nat} {ts : List Tm} (h : AS T ts fr (fun ds fr1 => (T.phi f ds fr1.sto).all (fun o s => ∃ d, IsD o d ∧ PD d { fr1 with sto := s }) (fun c fs s => PX c fs { fr1 with sto := s })) PX) : AD T (.call f ts) fr PD PX :=
  AD_of (A_call (Rs.all_imp h (fun ds fr1 z => fx_imp z (fun o s z => by
    obtain ⟨d, e, z⟩ := z
    cases e <;> exact ⟨_, _, rfl, z⟩) fun _ _ _ z => z) fun _ _ _ z => z))
theorem D_lst {ts : List Tm} (h : AS T ts fr (fun ds fr1 => ds.length ≤ sizeLine ∧ PD (.lst ds) fr1) PX) : AD T (.lst ts) fr PD PX :=
  AD_of (A_lst (Rs.all_imp h (fun ds fr1 z => ⟨z.1, _, _, rfl, z.2⟩) fun _ _ _ z => z))
theorem D_own (e : fr.env[i]? = some (.own xs)) (h : PD (.lst xs) { fr with env := fr.env.set i (.val (.lst xs)) }) : AD T (.slot i) fr PD PX :=
  AD_of (A_own e ⟨_, _, by show (match fr.env[i]? with | some (.own xs) => some (D.lst xs, { fr with env := fr.env.set i (.val (.lst xs)) }) | some (.val d) => some (d, fr) | _ => none) = _; rw [e], h⟩)
theorem D_F (h : A T a fr (fun r fr1 => ∃ xs, r = .out (.fresh xs) ∧ PD (.lst xs) fr1) PX) : AD T a fr PD PX := AD_of (A_imp h fun r fr1 z => by
  obtain ⟨xs, rfl, z⟩ := z; exact ⟨_, _, rfl, z⟩)
theorem A_lstF {ts : List Tm} {Q : List D → Fr → Prop} (h : AS T ts fr (fun ds fr1 => ds.length ≤ sizeLine ∧ Q ds fr1) PX) : A T (.lst ts) fr (fun r fr1 => ∃ xs, r = .out (.fresh xs) ∧ Q xs fr1) PX :=
  A_lst (Rs.all_imp h (fun ds fr1 z => ⟨z.1, _, rfl, z.2⟩) fun _ _ _ z => z)
theorem X_asgC {f : Nat} {ts : List Tm} (h : AS T ts fr (fun ds fr1 => (T.phi f ds fr1.sto).all (fun o s => ∃ e, IsS o e ∧ K.next (setE { fr1 with sto := s } i e)) (fun c fs s => K.exc c fs { fr1 with sto := s })) K.exc) : X T (.asg (.slot i) (.call f ts)) fr K :=
  X_asg (A_call (Rs.all_imp h (fun ds fr1 z => fx_imp z (fun o s z => by
    obtain ⟨d, e, z⟩ := z
    cases e <;> exact z) fun _ _ _ z => z) fun _ _ _ z => z))
theorem X_retC {f : Nat} {ts : List Tm} (h : AS T ts fr (fun ds fr1 => (T.phi f ds fr1.sto).all (fun o s => K.ret o { fr1 with sto := s }) (fun c fs s => K.exc c fs { fr1 with sto := s })) K.exc) : X T (.ret (.call f ts)) fr K :=
  X_ret (A_call (Rs.all_imp h (fun ds fr1 z => fx_imp z (fun o s z => z) fun _ _ _ z => z) fun _ _ _ z => z))
theorem X_retO (e : fr.env[i]? = some (.own xs)) (h : K.ret (.fresh xs) (setE fr i .un)) : X T (.ret (.slot i)) fr K := X_ret (A_own e ⟨xs, e, h⟩)
theorem V_ixO (e : fr.env[i]? = some (.own xs)) (h : AV T b fr (fun k fr2 => fr2.env[i]? = some (.own xs) ∧ ∃ v, ixD fr2.sto (.lst xs) k = some v ∧ PD v fr2) PX) : AV T (.ix (.slot i) b) fr PD PX := A_ix (A_own e (AD_V (A_imp h fun r fr1 z => by
  obtain ⟨d, rfl, h1, v, h2, h3⟩ := z
  refine ⟨d, rfl, .lst xs, v, ?_, h2, v, rfl, h3⟩
  show (match fr1.env[i]? with | some (.own xs) => some (D.lst xs) | some (.val d) => some d | _ => none) = _
  rw [h1])))
theorem AP_consO {ts : List Tm} {P : List RV → Fr → Prop} (e : fr.env[i]? = some (.own xs)) (h : AP T ts fr (fun rs fr2 => P (.var i :: rs) fr2) PX) : AP T (.slot i :: ts) fr P PX := AP_cons (A_own e h)
theorem L_lenO {P : D → Prop} (e : env[i]? = some (.own xs)) (h : P (.int xs.length)) : ∃ ds e, looks env [.var i] = some ds ∧ biD .len ds = some (.val e) ∧ P e := by
  refine ⟨[.lst xs], _, ?_, rfl, h⟩
  show (match (match env[i]? with | some (.own xs) => some (D.lst xs) | some (.val d) => some d | _ => none), looks env [] with | some d, some ds => some (d :: ds) | _, _ => none) = _
  rw [e]; rfl
/-! several values at once -/
def AG (T : Tab) (n : Nat) (ts : List Tm) (fr : Fr) (P : List RV → Fr → Prop) (PX : PXt) : Prop := (parGo T n ts fr).all P PX
theorem X_parG {is : List Nat} {ts : List Tm} (h : AG T fr.env.length ts fr (fun rs fr1 => ∃ fr2, parSet fr.env.length is rs fr1 = some fr2 ∧ K.next (cutE fr.env.length fr2)) (fun c fs fr1 => K.exc c fs (cutE fr.env.length fr1))) : X T (.par is ts) fr K := by
  refine X_par ?_
  unfold AG at h
  cases q : parGo T fr.env.length ts fr <;> (rw [q] at h; exact h)
variable {n : Nat} {ts : List Tm} {PR : List RV → Fr → Prop}
theorem AG_nil (h : PR [] fr) : AG T n [] fr PR PX := h
theorem AG_val (h : AV T a fr (fun d fr1 => AG T n ts fr1 (fun rs fr2 => PR (.out (.val d) :: rs) fr2) PX) PX) : AG T n (a :: ts) fr PR PX := by
  unfold AG parGo
  refine all_bind (Rs.all_imp h (fun r fr1 z => ?_) fun _ _ _ z => z)
  obtain ⟨d, rfl, z⟩ := z
  exact all_bind z
theorem AG_new (h : A T a fr (fun r fr1 => ∃ xs, r = .out (.fresh xs) ∧ AG T n ts { fr1 with env := fr1.env ++ [.own xs] } (fun rs fr2 => PR (.var fr1.env.length :: rs) fr2) PX) PX) : AG T n (a :: ts) fr PR PX := by
  unfold AG parGo
  refine all_bind (Rs.all_imp h (fun r fr1 z => ?_) fun _ _ _ z => z)
  obtain ⟨xs, rfl, z⟩ := z
  exact all_bind z
theorem AG_call {f : Nat} {us : List Tm} (h : AS T us fr (fun ds fr1 => (T.phi f ds fr1.sto).all (fun o s => ∃ e, IsS o e ∧ match e with
    | .val d => AG T n ts { fr1 with sto := s } (fun rs fr2 => PR (.out (.val d) :: rs) fr2) PX
    | .own xs => AG T n ts { fr1 with sto := s, env := fr1.env ++ [.own xs] } (fun rs fr2 => PR (.var fr1.env.length :: rs) fr2) PX
    | .un => False) (fun c fs s => PX c fs { fr1 with sto := s })) PX) : AG T n (.call f us :: ts) fr PR PX := by
  unfold AG parGo
  refine all_bind (A_call (Rs.all_imp h (fun ds fr1 z => fx_imp z (fun o s z => ?_) fun _ _ _ z => z) fun _ _ _ z => z))
  obtain ⟨e, ie, z⟩ := z
  cases ie <;> exact all_bind z
/-! a for over few things -/
def FG (T : Tab) (tg : Tg) (B : List Stm) (xs : List D) (fr : Fr) (K : SxP) : Prop := (forGo (bindT tg) (fun fr2 => exs T B fr2) xs fr).all K
theorem X_forF {tg : Tg} {it : Iter} {B : List Stm} (h : AI T it fr (fun xs fr1 => FG T tg B xs fr1 K) K.exc) : X T (.for_ tg it B) fr K := X_for h
theorem FG_nil {tg : Tg} {B : List Stm} (h : K.next fr) : FG T tg B [] fr K := h
theorem FG_cons {tg : Tg} {B : List Stm} {x : D} (h : ∃ fr1, bindT tg x fr = some fr1 ∧ XS T B fr1 (K.loop fun fr2 => FG T tg B xs fr2 K)) : FG T tg B (x :: xs) fr K := by
  obtain ⟨fr1, e, h⟩ := h
  unfold FG forGo
  rw [e]
  dsimp only
  unfold XS at h
  cases q : exs T B fr1 <;> (rw [q] at h; exact h)
theorem AI_lst {ts : List Tm} {P : List D → Fr → Prop} (h : AS T ts fr (fun ds fr1 => ds.length ≤ sizeLine ∧ P ds fr1) PX) : AI T (.seq (.lst ts)) fr P PX := AI_seqF (A_lstF h)
end
/-- branches by a decided test -/
theorem B_dec {p : Prop} [Decidable p] {R S : Prop} (h1 : p → R) (h2 : ¬ p → S) : ∃ k, D.bl (decide p) = D.bl k ∧ (k = true → R) ∧ (k = false → S) := ⟨_, rfl, fun e => h1 (of_decide_eq_true e), fun e => h2 (of_decide_eq_false e)⟩
theorem B_dec' {p : Prop} [Decidable p] {R S : Prop} (h1 : p → R) (h2 : ¬ p → S) : ∃ k, D.bl (decide p) = D.bl k ∧ (k = false → S) ∧ (k = true → R) := ⟨_, rfl, fun e => h2 (of_decide_eq_false e), fun e => h1 (of_decide_eq_true e)⟩
theorem B_not {p : Prop} [Decidable p] {R S : Prop} (h1 : ¬ p → R) (h2 : p → S) : ∃ k, D.bl (!decide p) = D.bl k ∧ (k = true → R) ∧ (k = false → S) := ⟨_, rfl, fun e => h1 (by simpa using e), fun e => h2 (by simpa using e)⟩
theorem B_not' {p : Prop} [Decidable p] {R S : Prop} (h1 : ¬ p → R) (h2 : p → S) : ∃ k, D.bl (!decide p) = D.bl k ∧ (k = false → S) ∧ (k = true → R) := ⟨_, rfl, fun e => h2 (by simpa using e), fun e => h1 (by simpa using e)⟩
theorem B_bl {q : Bool} {R S : Prop} (h1 : q = true → R) (h2 : q = false → S) : ∃ k, D.bl q = D.bl k ∧ (k = true → R) ∧ (k = false → S) := ⟨_, rfl, h1, h2⟩
theorem B_bl' {q : Bool} {R S : Prop} (h1 : q = true → R) (h2 : q = false → S) : ∃ k, D.bl q = D.bl k ∧ (k = false → S) ∧ (k = true → R) := ⟨_, rfl, h2, h1⟩
theorem B_t {R S : Prop} (h1 : R) : ∃ k, D.bl true = D.bl k ∧ (k = true → R) ∧ (k = false → S) := ⟨true, rfl, fun _ => h1, fun e => Bool.noConfusion e⟩
theorem B_f {R S : Prop} (h1 : S) : ∃ k, D.bl false = D.bl k ∧ (k = true → R) ∧ (k = false → S) := ⟨false, rfl, fun e => Bool.noConfusion e, fun _ => h1⟩
theorem B_t' {R S : Prop} (h1 : R) : ∃ k, D.bl true = D.bl k ∧ (k = false → S) ∧ (k = true → R) := ⟨true, rfl, fun e => Bool.noConfusion e, fun _ => h1⟩
theorem B_f' {R S : Prop} (h1 : S) : ∃ k, D.bl false = D.bl k ∧ (k = false → S) ∧ (k = true → R) := ⟨false, rfl, fun _ => h1, fun e => Bool.noConfusion e⟩
end Ag
namespace Ag
open PySem PySem.Spec PyProof.Rows L2

def spLaw (K : PySem.W.Frag) : Sp := fun vs H Q _ => ∃ (a : Addr) (ns : List Int), vs = [V.ref a] ∧ SqL K H a (ns.map V.int) ∧ ns.length ≤ 63 ∧ Only H ∧ ∀ H', Q (.bl true) H'
def Keeps (phi : Fn) : Prop := ∀ ns : List Int, ns.length ≤ 63 → (phi [.rol (ns.map D.int)] []).all (fun o _ => o = .val (.bl true)) (fun _ _ _ => False)
theorem reps_ints {G : Glb} {F : Hp} {io : List Addr} : ∀ ns : List Int, Reps G F io (ns.map D.int) (ns.map V.int)
  | [] => .nil
  | n :: ns => .cons (.int n) (reps_ints ns)
theorem law_sp {P : Program} {w : World} {K : PySem.W.Frag} {mg : Str → Option Value} {base : Heap} {CX : CXT} {k : Nat} {f : Addr} {fd : FuncData} {ps : List Str} {G : Glb} {phi : Fn} (F : FnOk P w K mg base CX k f fd ps (spI G 1 phi)) (hK : G.K = K)
    (h : Keeps phi) : FnOk P w K mg base CX k f fd ps (spLaw K) := F.imp fun vs H Q Ex ⟨a, ns, e, hS, hl, hO, hq⟩ => by
  subst e
  have hk := h ns hl
  refine ⟨[.rol (ns.map D.int)], [], H, [], rfl, .cons (.rol (by rw [hK]; exact hS) (reps_ints ns)) .nil, ⟨fun _ _ e => e, rfl, fun n c e => (by cases e), fun i j b e => (by cases e), fun b o e _ => e, fun n b _ e => (by cases e), fun b o e => ?_, Nat.le_refl _, fun b o u _ e => e⟩, ?_⟩
  · rcases hO b with z | ⟨o', xs, z⟩
    · rw [z] at e; cases e
    · rw [z] at e; cases e; trivial
  · cases q : phi [.rol (ns.map D.int)] [] with
    | ret o s =>
      rw [q] at hk
      have e : o = .val (.bl true) := hk
      subst e
      intro v H' F' io' _ _ _ r
      cases r
      exact hq H'
    | exc c fs s => rw [q] at hk; exact hk.elim
    | bad => rw [q] at hk; exact hk.elim
theorem law_walk {l : PySem.W.OpenLaw} {k : Nat} {q : Program} {loose : List Str} {XP : (Str → Option Value) → Heap → Prop} {YP : World → Heap → Prop} {d : DefRec} {K : Params → PySem.W.Frag} (hn : l.most = some 63) (hdf : d.params.defaults = []) (hr : Room k callerA)
    (hY : ∀ (w : World) (h : Heap), YP w h → (K w.params).In h)
    (F : ∀ (w : World) (mg : Str → Option Value) (fa : Addr) (h : Heap), (K w.params).In h → h.Ns mainGlobals mg → mg d.name = some (.ref fa) →
      ∃ fd : FuncData, (∀ (s : Shared) (u : Value), BindsTo s fd ⟨[u], []⟩ [("_law_script", u)]) ∧ ∀ base : Heap, (K w.params).In base → base.Ns mainGlobals mg → FnOk l.prog w (K w.params) mg base (L2.CX l.prog w) k fa fd ["_law_script"] (spLaw (K w.params))) :
    PySem.W.WalkO q loose XP YP l.row.toRowW d [] (fun f vs => PySem.call f vs) :=
  L2.walk_of (n := 63) (k := k) (x := "_law_script") (CX := fun w => L2.CX l.prog w) (sp := fun w => spLaw (K w.params)) hn (by decide) hdf hr hY F (fun _ _ a ns hl hO hS => ⟨a, ns, rfl, hS, hl, hO, fun _ => rfl⟩)
    fun w H s e s' z => by
      obtain ⟨a, B, H', cls, dd, _, _, _, _, _, _, _, z⟩ := z
      exact z

/-! ### tables -/
theorem fns_nil {Q : Str → Nat → Prop} : ∀ x i, ([] : List (Str × Nat)).lookup x = some i → Q x i := fun x i e => by cases e
theorem fns_cons {Q : Str → Nat → Prop} {n : Str} {j : Nat} {L : List (Str × Nat)} (h : Q n j) (t : ∀ x i, L.lookup x = some i → Q x i) : ∀ x i, ((n, j) :: L).lookup x = some i → Q x i := fun x i e => by
  have e' : (match x == n with | true => some j | false => L.lookup x) = some i := e
  cases q : x == n with
  | true =>
    rw [q] at e'
    cases e'
    rw [eq_of_beq q]; exact h
  | false => rw [q] at e'; exact t x i e'
theorem blts_nil {mg : Str → Option Value} : ∀ x, ([] : List Str).contains x = true → mg x = none := fun x e => by cases e
theorem blts_cons {mg : Str → Option Value} {b : Str} {L : List Str} (h : mg b = none) (t : ∀ x, L.contains x = true → mg x = none) : ∀ x, (b :: L).contains x = true → mg x = none := fun x e => by
  rw [List.contains_cons] at e
  cases q : x == b with
  | true => rw [eq_of_beq q]; exact h
  | false => rw [q] at e; exact t x e
/-- a name for each number -/
def unary (n : Nat) : Str := ⟨Array.replicate n 120⟩
theorem unary_inj {m n : Nat} (h : unary m = unary n) : m = n := by
  have := congrArg (fun s : Str => s.cps.size) h
  simpa [unary] using this
def glb (K : PySem.W.Frag) : Glb := ⟨K, fun _ => 0, unary, fun _ => []⟩
theorem base0 {K : PySem.W.Frag} {mg : Str → Option Value} {T : Tab} {C : Cv} (h1 : T.fld = fun _ _ => false) (h2 : C.nms = []) (h3 : C.globs = []) (h4 : C.meths = []) (hb : ∀ x, C.blts.contains x = true → mg x = none) : Base K mg (glb K) T C where
  k := rfl
  inj := fun f g e => unary_inj e
  fld := fun c f e => by rw [h1] at e; cases e
  nms := fun x i e => by rw [h2] at e; cases e
  globs := fun x g e => by rw [h3] at e; cases e
  blts := hb
end Ag
namespace Ag
open PySem L2

def Nf {α : Type} (a b : α) : Prop := a = b
theorem Nf.rfl {α : Type} {a : α} : Nf a a := Eq.refl a
theorem XS_norm {T : Tab} {ss : List Stm} {fr : Fr} {K : SxP} {env : List Slot} {sto : List Cell} (e1 : Nf fr.env env) (e2 : Nf fr.sto sto) (h : XS T ss ⟨env, sto⟩ K) : XS T ss fr K := by
  cases e1; cases e2; exact h
def T0 : Tab := ⟨fun _ _ _ => .bad, fun _ _ => false, fun _ _ => none, fun _ => none, fun _ _ => false⟩
def Tab.add (T : Tab) (i : Nat) (f : Fn) : Tab := { T with phi := fun j => if j = i then f else T.phi j }
/-- a small number -/
theorem sm_of {n : Int} (h1 : -1000000000000000000000000000000000000000000000000000000000000000000000000000000000000000000000000000000 < n) (h2 : n < 1000000000000000000000000000000000000000000000000000000000000000000000000000000000000000000000000000000) : Sm n := by
  unfold Sm
  have : (1000000000000000000000000000000000000000000000000000000000000000000000000000000000000000000000000000000 : Nat) < 2 ^ 1000 := by decide
  omega
theorem mul_ok {a b : Int} (h1 : -1000000000000000000000000000000000000000000000000000000000000000000000000000000000000000000000000000000 < a) (h2 : a < 1000000000000000000000000000000000000000000000000000000000000000000000000000000000000000000000000000000)
    (h3 : -1000000000000000000000000000000000000000000000000000000000000000000000000000000000000000000000000000000 < b) (h4 : b < 1000000000000000000000000000000000000000000000000000000000000000000000000000000000000000000000000000000) : mulOk a b = true := sm_mul (sm_of h1 h2) (sm_of h3 h4)
theorem div_ok {b : Int} (h3 : 0 < b) (h4 : b < 1000000000000000000000000000000000000000000000000000000000000000000000000000000000000000000000000000000) : divOk b = true := sm_div h3 (sm_of (by omega) h4)
section
variable {T : Tab} {fr : Fr} {P : RV → Fr → Prop} {PD : D → Fr → Prop} {PX : PXt} {K : SxP} {a b c : Tm} {i : Nat} {d : D} {xs : List D} {sto : List Cell} {env : List Slot}
theorem C_eqS {x y : Str} {P : Bool → Prop} (h : P (decide (x = y))) : ∃ k, cmpD .eq (.str x) (.str y) = some k ∧ P k := ⟨_, rfl, h⟩
theorem C_neS {x y : Str} {P : Bool → Prop} (h : P (!decide (x = y))) : ∃ k, cmpD .ne (.str x) (.str y) = some k ∧ P k := ⟨_, rfl, h⟩
theorem C_lt {x y : Int} {P : Bool → Prop} (h : P (decide (x < y))) : ∃ k, cmpD .lt (.int x) (.int y) = some k ∧ P k := ⟨_, rfl, h⟩
theorem C_le {x y : Int} {P : Bool → Prop} (h : P (decide (x ≤ y))) : ∃ k, cmpD .le (.int x) (.int y) = some k ∧ P k := ⟨_, rfl, h⟩
theorem C_gt {x y : Int} {P : Bool → Prop} (h : P (decide (y < x))) : ∃ k, cmpD .gt (.int x) (.int y) = some k ∧ P k := ⟨_, rfl, h⟩
theorem C_ge {x y : Int} {P : Bool → Prop} (h : P (decide (y ≤ x))) : ∃ k, cmpD .ge (.int x) (.int y) = some k ∧ P k := ⟨_, rfl, h⟩
theorem C_isnI {x : Int} {P : Bool → Prop} (h : P true) : ∃ k, cmpD .isn (.int x) .non = some k ∧ P k := ⟨_, rfl, h⟩
theorem C_isnN {P : Bool → Prop} (h : P false) : ∃ k, cmpD .isn .non .non = some k ∧ P k := ⟨_, rfl, h⟩
theorem C_isI {x : Int} {P : Bool → Prop} (h : P false) : ∃ k, cmpD .is_ (.int x) .non = some k ∧ P k := ⟨_, rfl, h⟩
theorem C_isN {P : Bool → Prop} (h : P true) : ∃ k, cmpD .is_ .non .non = some k ∧ P k := ⟨_, rfl, h⟩
theorem C_neNI {x : Int} {P : Bool → Prop} (h : P true) : ∃ k, cmpD .ne .non (.int x) = some k ∧ P k := ⟨_, rfl, h⟩
theorem C_neIN {x : Int} {P : Bool → Prop} (h : P true) : ∃ k, cmpD .ne (.int x) .non = some k ∧ P k := ⟨_, rfl, h⟩
theorem C_neNN {P : Bool → Prop} (h : P false) : ∃ k, cmpD .ne .non .non = some k ∧ P k := ⟨_, rfl, h⟩
theorem I_neg {n : Int} {P : Int → Prop} (h : P n) : ∃ m, D.int n = .int m ∧ P m := ⟨_, rfl, h⟩
theorem I_two {x y : Int} {Q : Int → Int → Prop} (h : Q x y) : ∃ lo hi, D.int x = .int lo ∧ D.int y = .int hi ∧ Q lo hi := ⟨_, _, rfl, rfl, h⟩
theorem L_val {P : D → Prop} (h : P d) : ∃ ds e, looks fr.env [.out (.val d)] = some ds ∧ biD .int_ ds = some (.val e) ∧ P e → True := ⟨[d], d, fun _ => trivial⟩
theorem L_int {n : Int} {P : D → Prop} (h : P (.int n)) : ∃ ds e, looks env [.out (.val (.int n))] = some ds ∧ biD .int_ ds = some (.val e) ∧ P e := ⟨_, _, rfl, rfl, h⟩
theorem L_min2 {x y : Int} {P : D → Prop} (h : P (.int (if y < x then y else x))) : ∃ ds e, looks env [.out (.val (.int x)), .out (.val (.int y))] = some ds ∧ biD .min2 ds = some (.val e) ∧ P e := ⟨_, _, rfl, rfl, h⟩
theorem L_max2 {x y : Int} {P : D → Prop} (h : P (.int (if y > x then y else x))) : ∃ ds e, looks env [.out (.val (.int x)), .out (.val (.int y))] = some ds ∧ biD .max2 ds = some (.val e) ∧ P e := ⟨_, _, rfl, rfl, h⟩
theorem L_lenL {P : D → Prop} (h : P (.int xs.length)) : ∃ ds e, looks env [.out (.val (.lst xs))] = some ds ∧ biD .len ds = some (.val e) ∧ P e := ⟨_, _, rfl, rfl, h⟩
theorem L_lenR {P : D → Prop} (h : P (.int xs.length)) : ∃ ds e, looks env [.out (.val (.rol xs))] = some ds ∧ biD .len ds = some (.val e) ∧ P e := ⟨_, _, rfl, rfl, h⟩
theorem L_lenT {P : D → Prop} (h : P (.int xs.length)) : ∃ ds e, looks env [.out (.val (.tup xs))] = some ds ∧ biD .len ds = some (.val e) ∧ P e := ⟨_, _, rfl, rfl, h⟩

theorem O_powN {x y z : Int} {P : D → Prop} (e : powOk x y = true) (e2 : Nf (x ^ y.toNat) z) (h : P (.int z)) : ∃ d, opD .pow (.int x) (.int y) = some (.val d) ∧ P d := by cases e2; exact O_pow e h
/-! ### the pen -/
def penC (cs : List Int) (a l : Int) : Cell := .dict [(.inr "cells", .lst (cs.map D.int)), (.inr "at", .int a), (.inr "left", .int l)]
theorem ix_cell {n : Nat} {kvs : List (Key × D)} {k : D} {kk : Key} {v : D} (h : sto[n]? = some (.dict kvs)) (hk : keyOf k = some kk) (hd : dget kvs kk = some v) : ixD sto (.cell n) k = some v := by
  have : ixD sto (.cell n) k = (match sto[n]?, keyOf k with | some (.dict kvs), some k => dget kvs k | _, _ => none) := rfl
  rw [this, h, hk]; exact hd
theorem ix_left {p : Nat} {cs : List Int} {a l : Int} (h : sto[p]? = some (penC cs a l)) {P : D → Prop} (k : P (.int l)) : ∃ v, ixD sto (.cell p) (.str "left") = some v ∧ P v := ⟨_, ix_cell h rfl (by kernel_rfl), k⟩
theorem ix_at {p : Nat} {cs : List Int} {a l : Int} (h : sto[p]? = some (penC cs a l)) {P : D → Prop} (k : P (.int a)) : ∃ v, ixD sto (.cell p) (.str "at") = some v ∧ P v := ⟨_, ix_cell h rfl (by kernel_rfl), k⟩
theorem ix_cells {p : Nat} {cs : List Int} {a l : Int} (h : sto[p]? = some (penC cs a l)) {P : D → Prop} (k : P (.lst (cs.map D.int))) : ∃ v, ixD sto (.cell p) (.str "cells") = some v ∧ P v := ⟨_, ix_cell h rfl (by kernel_rfl), k⟩
theorem X_left {o : Nat} {v : Tm} (h : AV T v fr (fun d fr1 => ∃ z p cs a l, d = .int z ∧ fr1.env[o]? = some (.val (.cell p)) ∧ fr1.sto[p]? = some (penC cs a l) ∧ K.next ⟨fr1.env, fr1.sto.set p (penC cs a z)⟩) K.exc) : X T (.setk (.slot o) (.str "left") v) fr K :=
  X_setkV (A_imp h fun r fr1 q => by
    obtain ⟨d, rfl, z, p, cs, a, l, rfl, h1, h2, h3⟩ := q
    refine ⟨_, rfl, V_slot h1 (V_str ⟨p, _, _, rfl, rfl, h2, (by decide : 3 < 1000), ?_⟩)⟩
    have e : Cell.dict (kput [(.inr "cells", .lst (cs.map D.int)), (.inr "at", .int a), (.inr "left", .int l)] (.inr "left") (.int z)) = penC cs a z := by kernel_rfl
    rw [e]; exact h3)
theorem X_at {o : Nat} {v : Tm} (h : AV T v fr (fun d fr1 => ∃ z p cs a l, d = .int z ∧ fr1.env[o]? = some (.val (.cell p)) ∧ fr1.sto[p]? = some (penC cs a l) ∧ K.next ⟨fr1.env, fr1.sto.set p (penC cs z l)⟩) K.exc) : X T (.setk (.slot o) (.str "at") v) fr K :=
  X_setkV (A_imp h fun r fr1 q => by
    obtain ⟨d, rfl, z, p, cs, a, l, rfl, h1, h2, h3⟩ := q
    refine ⟨_, rfl, V_slot h1 (V_str ⟨p, _, _, rfl, rfl, h2, (by decide : 3 < 1000), ?_⟩)⟩
    have e : Cell.dict (kput [(.inr "cells", .lst (cs.map D.int)), (.inr "at", .int a), (.inr "left", .int l)] (.inr "at") (.int z)) = penC cs z l := by kernel_rfl
    rw [e]; exact h3)
theorem set_get {α : Type} {xs : List α} {p : Nat} {x y : α} (h : xs[p]? = some x) : (xs.set p y)[p]? = some y := by
  have := (List.getElem?_eq_some_iff.mp h).1
  rw [List.getElem?_set_self this]
theorem set_set {α : Type} {xs : List α} {p : Nat} {x y : α} : (xs.set p x).set p y = xs.set p y := List.set_set ..
end
/-! ### a list beside [] -/
theorem toPys_ints : ∀ cs : List Int, toPys (cs.map D.int) = some (cs.map PyData.int)
  | [] => rfl
  | c :: cs => by
    show (match toPy (.int c), toPys (cs.map D.int) with | some x, some xs => some (x :: xs) | _, _ => none) = _
    rw [toPys_ints cs]; rfl
theorem depths_ints : ∀ cs : List Int, PyData.depthAll (cs.map PyData.int) = 0
  | [] => rfl
  | c :: cs => by
    show max (PyData.depth (.int c)) (PyData.depthAll (cs.map PyData.int)) = 0
    rw [depths_ints cs]; rfl
theorem canLay_ints : ∀ cs : List Int, PyData.canLayAll0 (cs.map PyData.int) = true
  | [] => rfl
  | c :: cs => by
    show (PyData.canLay0 (.int c) && PyData.canLayAll0 (cs.map PyData.int)) = true
    rw [canLay_ints cs]; rfl
theorem eqD_ints_nil (cs : List Int) : eqD (.lst (cs.map D.int)) (.lst []) = some cs.isEmpty := by
  have e1 : toPy (.lst (cs.map D.int)) = some (.list (cs.map PyData.int)) := by
    show (toPys (cs.map D.int)).map PyData.list = _
    rw [toPys_ints]; rfl
  have e2 : SeqAt.shaped (.list (cs.map PyData.int)) = true := by
    show (PyData.canLayAll0 (cs.map PyData.int) && decide (PyData.depthAll (cs.map PyData.int) + 1 ≤ 64)) = true
    rw [canLay_ints, depths_ints]; rfl
  have : eqD (.lst (cs.map D.int)) (.lst []) = eqP (.lst (cs.map D.int)) (.lst []) := rfl
  rw [this]
  unfold eqP
  rw [e1]
  show (if (SeqAt.shaped (.list (cs.map PyData.int)) && SeqAt.shaped (.list [])) = true then some (PyData.eqv (.list (cs.map PyData.int)) (.list [])) else none) = _
  rw [e2]
  cases cs with
  | nil => rfl
  | cons c cs => rfl
def b_pen : List Stm := [.ret (.dict [(.inr "cells", .bi .list_ [.slice (.slot 0) none (some (.int 63))]), (.inr "at", .int 0), (.inr "left", .int 0)])]
def b_draw : List Stm := [.ite (.cmp .ge (.ix (.slot 0) (.str "left")) (.slot 1)) [.asg (.slot 5) (.bin .mod (.bi .int_ [.ix (.slot 0) (.str "left")]) (.slot 1)), .setk (.slot 0) (.str "left") (.bin .fdiv (.ix (.slot 0) (.str "left")) (.slot 1)), .ret (.slot 5)] [], .asg (.slot 2) (.ix (.slot 0) (.str "at")), .setk (.slot 0) (.str "at") (.bin .add (.slot 2) (.int 1)), .asg (.slot 3) (.bin .add (.bin .mul (.int 41) (.slot 2)) (.int 23)), .ite (.cmp .ne (.ix (.slot 0) (.str "cells")) (.lst [])) [.asg (.slot 3) (.ix (.ix (.slot 0) (.str "cells")) (.bin .mod (.bi .int_ [.slot 2]) (.bi .len [.ix (.slot 0) (.str "cells")])))] [], .ite (.and_ (.cmp .lt (.slot 2) (.bi .len [.ix (.slot 0) (.str "cells")])) (.cmp .ge (.slot 3) (.bin .pow (.int 10) (.int 18)))) [.setk (.slot 0) (.str "left") (.bin .fdiv (.bin .sub (.slot 3) (.bin .pow (.int 10) (.int 18))) (.slot 1)), .ret (.bin .mod (.bi .int_ [.bin .sub (.slot 3) (.bin .pow (.int 10) (.int 18))]) (.slot 1))] [], .asg (.slot 4) (.bin .add (.bin .add (.bin .add (.bin .mul (.bin .mod (.bi .int_ [.slot 3]) (.int 2147483587)) (.int 48271)) (.bin .mul (.bin .mul (.int 40014) (.slot 2)) (.slot 2))) (.bin .mul (.int 59) (.slot 2))) (.int 17)), .asg (.slot 4) (.bin .mod (.bi .int_ [.slot 4]) (.int 2147483629)), .asg (.slot 4) (.bin .mod (.bi .int_ [.bin .mul (.slot 4) (.bin .add (.slot 4) (.int 69621))]) (.int 2147483549)), .ret (.bin .mod (.bi .int_ [.bin .fdiv (.bin .mod (.bi .int_ [.bin .mul (.slot 4) (.slot 4)]) (.int 2147483579)) (.int 32)]) (.slot 1))]
def b_pick : List Stm := [.ret (.ix (.slot 1) (.call 201 [.slot 0, .bi .len [.slot 1]]))]
def b_way : List Stm := [.ret (.call 202 [.slot 0, .lst [.str "down", .str "up", .str "near"]])]
noncomputable def p_pen : Fn := fx T0 1 1 b_pen
noncomputable def p_draw : Fn := fx T0 2 6 b_draw
noncomputable def T_pick : Tab := T0.add 201 p_draw
noncomputable def p_pick : Fn := fx T_pick 2 2 b_pick
noncomputable def T_way : Tab := T0.add 202 p_pick
noncomputable def p_way : Fn := fx T_way 1 1 b_way

section
variable {T : Tab} {fr : Fr} {P : RV → Fr → Prop} {PD : D → Fr → Prop} {PX : PXt} {K : SxP} {a b c : Tm} {i : Nat} {d : D} {xs : List D} {sto : List Cell} {env : List Slot}
theorem V_cmpNil {op : Cm} (h : AV T a fr (fun x fr1 => ∃ k, cmpD op x (.lst []) = some k ∧ PD (.bl k) fr1) PX) : AV T (.cmp op a (.lst [])) fr PD PX :=
  A_cmp (A_V (A_imp h fun r fr1 z => by
    obtain ⟨x, rfl, k, h1, h2⟩ := z
    exact ⟨x, rfl, A_lst (AS_nil ⟨by decide, x, .lst [], k, rfl, rfl, h1, _, rfl, h2⟩)⟩))
theorem C_neNil {cs : List Int} {P : Bool → Prop} (h : P (!cs.isEmpty)) : ∃ k, cmpD .ne (.lst (cs.map D.int)) (.lst []) = some k ∧ P k := ⟨_, by
  show (eqD (.lst (cs.map D.int)) (.lst [])).map (!·) = _
  rw [eqD_ints_nil]; rfl, h⟩
theorem atI_ok {α : Type} {xs : List α} {i : Int} (h0 : 0 ≤ i) (h1 : i < xs.length) : atI xs i = xs[i.toNat]? := by
  unfold atI ixN
  rw [if_pos h0, if_pos h1]; rfl
theorem ix_ints {cs : List Int} {i : Int} (h0 : 0 ≤ i) (h1 : i < cs.length) {P : D → Prop} (k : ∀ z, P (.int z)) : ∃ v, ixD sto (.lst (cs.map D.int)) (.int i) = some v ∧ P v := by
  have hlt : i.toNat < cs.length := by omega
  refine ⟨.int cs[i.toNat], ?_, k _⟩
  show atI (cs.map D.int) i = _
  rw [atI_ok h0 (by rw [List.length_map]; exact h1), List.getElem?_map, List.getElem?_eq_getElem hlt]; rfl
theorem ix_lst {i : Int} (h0 : 0 ≤ i) (h1 : i < xs.length) {P : D → Prop} (k : ∀ z, xs[i.toNat]? = some z → P z) : ∃ v, ixD sto (.lst xs) (.int i) = some v ∧ P v := by
  have hlt : i.toNat < xs.length := by omega
  refine ⟨xs[i.toNat], ?_, k _ (List.getElem?_eq_getElem hlt)⟩
  show atI xs i = _
  rw [atI_ok h0 h1, List.getElem?_eq_getElem hlt]
def PenC (B : Int) (c : Cell) : Prop := ∃ cs a l, c = penC cs a l ∧ 0 ≤ a ∧ a ≤ B ∧ 0 ≤ l
theorem PenC.mono {B B' : Int} {c : Cell} (h : PenC B c) (hb : B ≤ B') : PenC B' c := by
  obtain ⟨cs, a, l, e, h1, h2, h3⟩ := h
  exact ⟨cs, a, l, e, h1, by omega, h3⟩
end
section
variable {T : Tab} {fr : Fr} {PD : D → Fr → Prop} {PX : PXt} {K : SxP} {a : Tm} {sto : List Cell} {env : List Slot}
theorem V_id (h : AV T a fr PD PX) : AV T a fr PD PX := h
theorem O_id {op : Op2} {x y : D} {P : D → Prop} (h : ∃ d, opD op x y = some (.val d) ∧ P d) : ∃ d, opD op x y = some (.val d) ∧ P d := h
theorem C_id {op : Cm} {x y : D} {P : Bool → Prop} (h : ∃ k, cmpD op x y = some k ∧ P k) : ∃ k, cmpD op x y = some k ∧ P k := h
theorem L_id {b : Bi} {rs : List RV} {P : D → Prop} (h : ∃ ds e, looks env rs = some ds ∧ biD b ds = some (.val e) ∧ P e) : ∃ ds e, looks env rs = some ds ∧ biD b ds = some (.val e) ∧ P e := h
theorem I_id {x y : D} {P : D → Prop} (h : ∃ v, ixD sto x y = some v ∧ P v) : ∃ v, ixD sto x y = some v ∧ P v := h
theorem B_id {b : Bool} {P : Bool → Prop} (h : ∃ k, D.bl b = D.bl k ∧ P k) : ∃ k, D.bl b = D.bl k ∧ P k := h
theorem D_id {PD : D → Fr → Prop} (h : AD T a fr PD PX) : AD T a fr PD PX := h
theorem X_id {s : Stm} (h : X T s fr K) : X T s fr K := h
theorem XS_id {ss : List Stm} (h : XS T ss fr K) : XS T ss fr K := h
end
section
local macro_rules | `(tactic| walk_at "nrm") => `(tactic| with_reducible refine XS_norm (by with_unfolding_all ((try simp only [setE, cutE, List.set_cons_zero, List.set_cons_succ, List.cons_append, List.nil_append, List.length_cons, List.length_nil, Nat.reduceAdd, List.take_succ_cons, List.take_zero]); exact Nf.rfl)) (by with_unfolding_all ((try simp only [setE, cutE, set_set, List.set_cons_zero, List.set_cons_succ]); exact Nf.rfl)) ?_)
local macro_rules | `(tactic| walk_at "w") => `(tactic| repeat' first
  | (with_reducible refine V_id ?_; first
    | (with_reducible refine V_slot (by with_unfolding_all exact rfl) ?_) | (with_reducible refine V_int ?_) | (with_reducible refine V_bin ?_) | (with_reducible refine V_cmpNil ?_) | (with_reducible refine V_cmp ?_)
    | (with_reducible refine V_str ?_) | (with_reducible refine V_bi ?_) | (with_reducible refine V_ixO (by with_unfolding_all exact rfl) ?_) | (with_reducible refine V_ix ?_) | (with_reducible refine V_call ?_) | (with_reducible refine V_attr ?_)
    | (with_reducible refine V_and ?_) | (with_reducible refine V_or ?_) | (with_reducible refine V_not ?_) | (with_reducible refine V_ite ?_) | (with_reducible refine V_tup ?_) | (with_reducible refine V_neg ?_) | (with_reducible refine V_non ?_) | (with_reducible refine V_bl ?_) | (with_reducible refine V_dict ?_))
  | (with_reducible refine O_id ?_; first
    | (with_reducible refine O_add ?_) | (with_reducible refine O_sub ?_) | (with_reducible refine O_mul (mul_ok (by omega) (by omega) (by omega) (by omega)) ?_) | (with_reducible refine O_fdiv (div_ok (by omega) (by omega)) ?_) | (with_reducible refine O_mod (by omega) ?_)
    | (with_reducible refine O_powN (by decide) (by with_unfolding_all (simp only [Int.reduceToNat, Int.reducePow]; exact Nf.rfl)) ?_))
  | (with_reducible refine C_id ?_; first
    | (with_reducible refine C_eqI ?_) | (with_reducible refine C_neI ?_) | (with_reducible refine C_eqS ?_) | (with_reducible refine C_neS ?_) | (with_reducible refine C_lt ?_) | (with_reducible refine C_le ?_) | (with_reducible refine C_gt ?_) | (with_reducible refine C_ge ?_)
    | (with_reducible refine C_neNil ?_) | (with_reducible refine C_isN ?_) | (with_reducible refine C_isnN ?_) | (with_reducible refine C_isI ?_) | (with_reducible refine C_isnI ?_) | (with_reducible refine C_neNN ?_) | (with_reducible refine C_neNI ?_) | (with_reducible refine C_neIN ?_))
  | (with_reducible refine B_id ?_; first
    | (with_reducible refine B_t ?_) | (with_reducible refine B_f ?_) | (with_reducible refine B_t' ?_) | (with_reducible refine B_f' ?_)
    | (with_reducible refine B_dec (fun _ => ?_) (fun _ => ?_)) | (with_reducible refine B_dec' (fun _ => ?_) (fun _ => ?_)) | (with_reducible refine B_not (fun _ => ?_) (fun _ => ?_)) | (with_reducible refine B_not' (fun _ => ?_) (fun _ => ?_)) | (with_reducible refine B_bl (fun _ => ?_) (fun _ => ?_)) | (with_reducible refine B_bl' (fun _ => ?_) (fun _ => ?_)))
  | (with_reducible refine L_id ?_; first
    | (with_reducible refine L_int ?_) | (with_reducible refine L_lenL ?_) | (with_reducible refine L_lenR ?_) | (with_reducible refine L_lenT ?_) | (with_reducible refine L_lenO (by with_unfolding_all exact rfl) ?_) | (with_reducible refine L_min2 ?_) | (with_reducible refine L_max2 ?_))
  | (with_reducible refine I_id ?_; first
    | (with_reducible refine ix_left (by assumption) ?_) | (with_reducible refine ix_at (by assumption) ?_) | (with_reducible refine ix_cells (by assumption) ?_))
  | (with_reducible refine X_id ?_; first
    | (with_reducible refine X_iteV ?_) | (with_reducible refine X_asgC ?_) | (with_reducible refine X_retC ?_) | (with_reducible refine X_parG ?_) | (with_reducible refine X_asgF (A_lstF ?_)) | (with_reducible refine X_left ?_) | (with_reducible refine X_at ?_)
    | (with_reducible refine X_asgV (V_slot (by with_unfolding_all exact rfl) ?_)) | (with_reducible refine X_asgV (V_int ?_)) | (with_reducible refine X_asgV (V_bin ?_)) | (with_reducible refine X_asgV (V_ix ?_)) | (with_reducible refine X_asgV (V_bi ?_)) | (with_reducible refine X_asgV (V_ite ?_)) | (with_reducible refine X_asgV (V_non ?_)) | (with_reducible refine X_asgV (V_bl ?_)) | (with_reducible refine X_asgV (V_str ?_)) | (with_reducible refine X_asgV (V_tup ?_)) | (with_reducible refine X_asgV (V_attr ?_))
    | (with_reducible refine X_retV (V_slot (by with_unfolding_all exact rfl) ?_)) | (with_reducible refine X_retV (V_int ?_)) | (with_reducible refine X_retV (V_bin ?_)) | (with_reducible refine X_retV (V_ix ?_)) | (with_reducible refine X_retV (V_bi ?_)) | (with_reducible refine X_retV (V_ite ?_)) | (with_reducible refine X_retV (V_non ?_)) | (with_reducible refine X_retV (V_bl ?_)) | (with_reducible refine X_retV (V_tup ?_)) | (with_reducible refine X_retV (V_neg ?_)) | (with_reducible refine X_retV (V_cmp ?_)))
  | (with_reducible refine XS_id ?_; first | (with_reducible refine XS_nil ?_) | (with_reducible refine XS_norm (by with_unfolding_all ((try simp only [setE, cutE, List.set_cons_zero, List.set_cons_succ, List.cons_append, List.nil_append, List.length_cons, List.length_nil, Nat.reduceAdd, List.take_succ_cons, List.take_zero]); exact Nf.rfl)) (by with_unfolding_all ((try simp only [setE, cutE, set_set, List.set_cons_zero, List.set_cons_succ]); exact Nf.rfl)) ?_; with_reducible refine XS_cons ?_))
  | (with_reducible refine AS_nil ?_)
  | (with_reducible refine AS_cons ?_)
  | (with_reducible refine D_id ?_; first | (with_reducible refine D_call ?_) | (with_reducible refine D_lst ?_) | (with_reducible refine D_own (by with_unfolding_all exact rfl) ?_) | (with_reducible refine AD_V ?_))
  | (with_reducible refine AP_nil ?_)
  | (with_reducible refine AP_consO (by with_unfolding_all exact rfl) ?_)
  | (with_reducible refine AP_consA ?_)
  | (with_reducible refine AK_nil ?_)
  | (with_reducible refine AK_cons ?_)
  | (with_reducible refine AO_none ?_)
  | (with_reducible refine AO_someV ?_)
  | (with_reducible refine I_neg ?_)
  | (with_reducible refine isD_val ?_)
  | (with_reducible refine isD_fresh ?_)
  | (with_reducible refine isS_val ?_)
  | (with_reducible refine isS_fresh ?_)
  | (with_reducible refine isV ?_)
  | (with_reducible refine AG_nil ?_)
  | (with_reducible refine AG_call ?_)
  | (with_reducible refine AG_new (A_lstF ?_))
  | (with_reducible refine AG_val ?_)
  | (with_reducible refine FG_nil ?_)
  | (with_reducible refine AI_lst ?_)
  | (with_reducible refine N_thn ?_)
  | (with_reducible refine R_thn ?_)
  | (with_reducible refine N_loop ?_)
  | (with_reducible refine R_loop ?_)
  | (with_reducible refine E_loop ?_)
  | (with_reducible refine B_loop ?_)
  | (with_reducible refine C_loop ?_)
  | (with_reducible refine B_thn ?_)
  | (with_reducible refine C_thn ?_)
  | (with_reducible refine X_brk ?_)
  | (with_reducible refine X_cont ?_)
  | (with_reducible refine E_thn ?_)
  | (with_reducible refine R_fx ?_)
  | (with_reducible refine N_fx ?_))
theorem range_at {lo : Int} {n i : Nat} {x : D} (h : (rangeD lo n)[i]? = some x) : i < n ∧ x = .int (lo + i) := by
  unfold rangeD at h
  rw [List.getElem?_map] at h
  by_cases q : i < n
  · rw [List.getElem?_range q] at h
    cases h
    exact ⟨q, rfl⟩
  · rw [List.getElem?_eq_none (by rw [List.length_range]; omega)] at h
    cases h
theorem rangeD_len {lo : Int} {n : Nat} : (rangeD lo n).length = n := by unfold rangeD; rw [List.length_map, List.length_range]
theorem draw_is {p : Nat} {c : Cell} {B m : Int} {sto : List Cell} (hs : sto[p]? = some c) (hc : PenC B c) (hB : B < 1000000000000000000000000000000) (h0 : 0 < m) (h1 : m < 1000000000000000000000000000000000000000000000000000000000000000000000000000000000000000000) :
    (p_draw [.cell p, .int m] sto).all (fun o s => ∃ r c', o = .val (.int r) ∧ 0 ≤ r ∧ r < m ∧ s = sto.set p c' ∧ PenC (B + 1) c') (fun _ _ _ => False) := by
  obtain ⟨cs, a, l, rfl, ha, ha2, hl⟩ := hc
  refine fx_all rfl (env := [.val (.cell p), .val (.int m), .un, .un, .un, .un]) rfl ?_
  unfold b_draw
  have fin : ∀ (x l' : Int), 0 ≤ l' → ∃ r c', Out.val (D.int (x % m)) = .val (.int r) ∧ 0 ≤ r ∧ r < m ∧ sto.set p (penC cs (a + 1) l') = sto.set p c' ∧ PenC (B + 1) c' := fun x l' h =>
    ⟨_, _, rfl, Int.emod_nonneg _ (by omega), Int.emod_lt_of_pos _ h0, rfl, _, _, _, rfl, by omega, by omega, h⟩
  walk_at "w"
  · refine ⟨_, p, cs, a, l, rfl, rfl, hs, ?_⟩
    walk_at "w"
    exact ⟨_, _, rfl, Int.emod_nonneg _ (by omega), Int.emod_lt_of_pos _ h0, rfl, _, _, _, rfl, ha, by omega, Int.ediv_nonneg hl (by omega)⟩
  · refine ⟨_, p, cs, a, l, rfl, rfl, hs, ?_⟩
    have hs2 : (sto.set p (penC cs (a + 1) l))[p]? = some (penC cs (a + 1) l) := set_get hs
    walk_at "w"
    · have hlen : 0 < (((cs.map D.int).length : Nat) : Int) := by
        cases cs with
        | nil => contradiction
        | cons x xs => simp
      refine O_mod hlen (ix_ints (Int.emod_nonneg _ (by omega)) ?_ fun z => ?_)
      · have := Int.emod_lt_of_pos a hlen
        rw [List.length_map] at this ⊢; exact this
      walk_at "w"
      · refine ⟨_, p, cs, a + 1, l, rfl, rfl, hs2, ?_⟩
        walk_at "w"
        exact fin _ _ (Int.ediv_nonneg (by omega) (by omega))
      · exact fin _ _ hl
      · exact fin _ _ hl
    · refine ⟨_, p, cs, a + 1, l, rfl, rfl, hs2, ?_⟩
      walk_at "w"
      exact fin _ _ (Int.ediv_nonneg (by omega) (by omega))
    · exact fin _ _ hl
    · exact fin _ _ hl
/-- one of the items -/
theorem pick_is {p : Nat} {c : Cell} {B : Int} {xs : List D} {sto : List Cell} (hs : sto[p]? = some c) (hc : PenC B c) (hB : B < 1000000000000000000000000000000) (h0 : xs ≠ []) (h1 : xs.length < 1000000) :
    (p_pick [.cell p, .lst xs] sto).all (fun o s => ∃ x c', o = .val x ∧ x ∈ xs ∧ s = sto.set p c' ∧ PenC (B + 1) c') (fun _ _ _ => False) := by
  have hl : 0 < (xs.length : Int) := by
    cases xs with
    | nil => exact absurd rfl h0
    | cons x xs => simp
  refine fx_all rfl (env := [.val (.cell p), .val (.lst xs)]) rfl ?_
  unfold b_pick
  walk_at "w"
  refine fx_imp (draw_is (m := (xs.length : Int)) hs hc hB hl (by omega)) (fun o s h => ?_) fun _ _ _ z => z.elim
  obtain ⟨r, c', rfl, h2, h3, rfl, h5⟩ := h
  refine ⟨_, rfl, ix_lst h2 h3 fun z hz => ?_⟩
  walk_at "w"
  exact ⟨z, c', rfl, List.mem_of_getElem? hz, rfl, h5⟩
def Way (w : Str) : Prop := w = "down" ∨ w = "up" ∨ w = "near"
theorem way_is {p : Nat} {c : Cell} {B : Int} {sto : List Cell} (hs : sto[p]? = some c) (hc : PenC B c) (hB : B < 1000000000000000000000000000000) :
    (p_way [.cell p] sto).all (fun o s => ∃ w c', o = .val (.str w) ∧ Way w ∧ s = sto.set p c' ∧ PenC (B + 1) c') (fun _ _ _ => False) := by
  refine fx_all rfl (env := [.val (.cell p)]) rfl ?_
  unfold b_way
  walk_at "w"
  refine ⟨by decide, ?_⟩
  walk_at "w"
  refine fx_imp (pick_is hs hc hB (by simp) (by simp)) (fun o s h => ?_) fun _ _ _ z => z.elim
  obtain ⟨x, c', rfl, h2, rfl, h5⟩ := h
  walk_at "w"
  simp only [List.mem_cons, List.not_mem_nil, or_false] at h2
  rcases h2 with rfl | rfl | rfl
  · exact ⟨_, _, rfl, .inl rfl, rfl, h5⟩
  · exact ⟨_, _, rfl, .inr (.inl rfl), rfl, h5⟩
  · exact ⟨_, _, rfl, .inr (.inr rfl), rfl, h5⟩
/-- a new pen -/
theorem pen_is {ns : List Int} {sto : List Cell} : (p_pen [.rol (ns.map D.int)] sto).all (fun o s => ∃ c', o = .val (.cell sto.length) ∧ s = sto ++ [c'] ∧ PenC 0 c') (fun _ _ _ => False) := by
  refine fx_all rfl (env := [.val (.rol (ns.map D.int))]) rfl ?_
  unfold b_pen
  refine XS_cons (X_retV (V_dict (AK_cons (AD_of (A_bi (AP_cons (A_slice (A_slot rfl (AO_none (AO_someV (V_int ⟨63, rfl, _, rfl, .inr (.inl ⟨_, rfl, AP_nil ?_⟩)⟩)))))))))))
  have e : ∃ cs : List Int, cutL (ns.map D.int) none (some 63) = cs.map D.int := ⟨(ns.drop (HT.sIx (ns.map D.int).length 0 none)).take (HT.sIx (ns.map D.int).length (ns.map D.int).length (some 63) - HT.sIx (ns.map D.int).length 0 none), by
    unfold cutL
    rw [List.map_take, List.map_drop]⟩
  obtain ⟨cs, e⟩ := e
  refine ⟨_, _, rfl, rfl, _, _, rfl, ?_⟩
  walk_at "w"
  refine ⟨(by show 3 ≤ 15; decide), ?_⟩
  walk_at "w"
  refine ⟨_, rfl, rfl, cs, 0, 0, ?_, by decide, by decide, by decide⟩
  rw [e]
  kernel_rfl
end
end Ag
namespace Ag
open PySem L2
def topS (i : Nat) : Stmt := PySem.Challenge.pw_agewords_k47_whole_units_that_part.main.body.getD i (.Pass ⟨0, 0, 0, 0⟩)
abbrev s_count_of : Stmt := topS 1
def n_count_of : List Str := ["unit", "way", "age"]
def b_count_of : List Stm := [.ite (.cmp .eq (.slot 1) (.str "down")) [.ret (.bin .fdiv (.slot 2) (.slot 0))] [], .ret (.ite (.cmp .eq (.slot 1) (.str "up")) (.neg (.bin .fdiv (.neg (.slot 2)) (.slot 0))) (.bin .fdiv (.bin .add (.bin .mul (.int 2) (.slot 2)) (.slot 0)) (.bin .mul (.int 2) (.slot 0))))]
def c_count_of : Cv := { N := n_count_of, fns := [], nms := [], meths := [], globs := [], blts := [], fnc := fun _ => true }
theorem cv_count_of : cvSs c_count_of 60 (defScope s_count_of) (defBody s_count_of) = some b_count_of := by kernel_rfl
theorem sc_count_of : FnScope c_count_of.N ["unit", "way", "age"] (defScope s_count_of) := ⟨rfl, rfl, rfl, by decide +kernel, rfl, by decide +kernel, by decide +kernel⟩
noncomputable def T_count_of : Tab := T0
noncomputable def p_count_of : Fn := fx T_count_of 3 3 b_count_of
abbrev s_first_of_count : Stmt := topS 3
def n_first_of_count : List Str := ["unit", "way", "count"]
def b_first_of_count : List Stm := [.ite (.cmp .eq (.slot 1) (.str "down")) [.ret (.bin .mul (.slot 2) (.slot 0))] [], .ret (.ite (.cmp .eq (.slot 1) (.str "up")) (.bin .add (.bin .mul (.bin .sub (.slot 2) (.int 1)) (.slot 0)) (.int 1)) (.bin .sub (.bin .mul (.slot 2) (.slot 0)) (.bin .fdiv (.slot 0) (.int 2))))]
def c_first_of_count : Cv := { N := n_first_of_count, fns := [], nms := [], meths := [], globs := [], blts := [], fnc := fun _ => true }
theorem cv_first_of_count : cvSs c_first_of_count 60 (defScope s_first_of_count) (defBody s_first_of_count) = some b_first_of_count := by kernel_rfl
theorem sc_first_of_count : FnScope c_first_of_count.N ["unit", "way", "count"] (defScope s_first_of_count) := ⟨rfl, rfl, rfl, by decide +kernel, rfl, by decide +kernel, by decide +kernel⟩
noncomputable def T_first_of_count : Tab := T0
noncomputable def p_first_of_count : Fn := fx T_first_of_count 3 3 b_first_of_count
abbrev s_parting : Stmt := topS 5
def n_parting : List Str := ["way", "one", "other", "few", "age"]
def b_parting : List Stm := [.ite (.cmp .eq (.slot 1) (.slot 2)) [.ret .non] [], .asg (.slot 3) (.bi .min2 [.slot 1, .slot 2]), .asg (.slot 4) (.call 56 [.slot 3, .slot 0, .ite (.cmp .ne (.slot 0) (.str "up")) (.int 1) (.int 2)]), .ite (.cmp .ne (.call 25 [.slot 1, .slot 0, .slot 4]) (.call 25 [.slot 2, .slot 0, .slot 4])) [.ret (.slot 4)] [], .ret (.call 56 [.slot 3, .slot 0, .int 2])]
def c_parting : Cv := { N := n_parting, fns := [("count_of", 25), ("first_of_count", 56)], nms := [], meths := [], globs := [], blts := ["min"], fnc := fun _ => true }
theorem cv_parting : cvSs c_parting 60 (defScope s_parting) (defBody s_parting) = some b_parting := by kernel_rfl
theorem sc_parting : FnScope c_parting.N ["way", "one", "other"] (defScope s_parting) := ⟨rfl, rfl, rfl, by decide +kernel, rfl, by decide +kernel, by decide +kernel⟩
noncomputable def T_parting : Tab := ((T0.add 25 p_count_of).add 56 p_first_of_count)
noncomputable def p_parting : Fn := fx T_parting 3 5 b_parting
abbrev s_law_pen : Stmt := topS 7
def n_law_pen : List Str := ["_law_script"]
def b_law_pen : List Stm := [.ret (.dict [(.inr "cells", .bi .list_ [.slice (.slot 0) none (some (.int 63))]), (.inr "at", .int 0), (.inr "left", .int 0)])]
def c_law_pen : Cv := { N := n_law_pen, fns := [], nms := [], meths := [], globs := [], blts := ["list"], fnc := fun _ => true }
theorem cv_law_pen : cvSs c_law_pen 60 (defScope s_law_pen) (defBody s_law_pen) = some b_law_pen := by kernel_rfl
theorem sc_law_pen : FnScope c_law_pen.N ["_law_script"] (defScope s_law_pen) := ⟨rfl, rfl, rfl, by decide +kernel, rfl, by decide +kernel, by decide +kernel⟩
abbrev s_law_draw : Stmt := topS 8
def n_law_draw : List Str := ["_law_pen_here", "_law_many", "_law_at", "_law_cell", "_law_mixed", "_law_digit"]
def b_law_draw : List Stm := [.ite (.cmp .ge (.ix (.slot 0) (.str "left")) (.slot 1)) [.asg (.slot 5) (.bin .mod (.bi .int_ [.ix (.slot 0) (.str "left")]) (.slot 1)), .setk (.slot 0) (.str "left") (.bin .fdiv (.ix (.slot 0) (.str "left")) (.slot 1)), .ret (.slot 5)] [], .asg (.slot 2) (.ix (.slot 0) (.str "at")), .setk (.slot 0) (.str "at") (.bin .add (.slot 2) (.int 1)), .asg (.slot 3) (.bin .add (.bin .mul (.int 41) (.slot 2)) (.int 23)), .ite (.cmp .ne (.ix (.slot 0) (.str "cells")) (.lst [])) [.asg (.slot 3) (.ix (.ix (.slot 0) (.str "cells")) (.bin .mod (.bi .int_ [.slot 2]) (.bi .len [.ix (.slot 0) (.str "cells")])))] [], .ite (.and_ (.cmp .lt (.slot 2) (.bi .len [.ix (.slot 0) (.str "cells")])) (.cmp .ge (.slot 3) (.bin .pow (.int 10) (.int 18)))) [.setk (.slot 0) (.str "left") (.bin .fdiv (.bin .sub (.slot 3) (.bin .pow (.int 10) (.int 18))) (.slot 1)), .ret (.bin .mod (.bi .int_ [.bin .sub (.slot 3) (.bin .pow (.int 10) (.int 18))]) (.slot 1))] [], .asg (.slot 4) (.bin .add (.bin .add (.bin .add (.bin .mul (.bin .mod (.bi .int_ [.slot 3]) (.int 2147483587)) (.int 48271)) (.bin .mul (.bin .mul (.int 40014) (.slot 2)) (.slot 2))) (.bin .mul (.int 59) (.slot 2))) (.int 17)), .asg (.slot 4) (.bin .mod (.bi .int_ [.slot 4]) (.int 2147483629)), .asg (.slot 4) (.bin .mod (.bi .int_ [.bin .mul (.slot 4) (.bin .add (.slot 4) (.int 69621))]) (.int 2147483549)), .ret (.bin .mod (.bi .int_ [.bin .fdiv (.bin .mod (.bi .int_ [.bin .mul (.slot 4) (.slot 4)]) (.int 2147483579)) (.int 32)]) (.slot 1))]
def c_law_draw : Cv := { N := n_law_draw, fns := [], nms := [], meths := [], globs := [], blts := ["int", "len"], fnc := fun _ => true }
theorem cv_law_draw : cvSs c_law_draw 60 (defScope s_law_draw) (defBody s_law_draw) = some b_law_draw := by kernel_rfl
theorem sc_law_draw : FnScope c_law_draw.N ["_law_pen_here", "_law_many"] (defScope s_law_draw) := ⟨rfl, rfl, rfl, by decide +kernel, rfl, by decide +kernel, by decide +kernel⟩
abbrev s_law_pick : Stmt := topS 9
def n_law_pick : List Str := ["_law_pen_here", "_law_items"]
def b_law_pick : List Stm := [.ret (.ix (.slot 1) (.call 201 [.slot 0, .bi .len [.slot 1]]))]
def c_law_pick : Cv := { N := n_law_pick, fns := [("_law_draw", 201)], nms := [], meths := [], globs := [], blts := ["len"], fnc := fun _ => true }
theorem cv_law_pick : cvSs c_law_pick 60 (defScope s_law_pick) (defBody s_law_pick) = some b_law_pick := by kernel_rfl
theorem sc_law_pick : FnScope c_law_pick.N ["_law_pen_here", "_law_items"] (defScope s_law_pick) := ⟨rfl, rfl, rfl, by decide +kernel, rfl, by decide +kernel, by decide +kernel⟩
abbrev s_law_way : Stmt := topS 10
def n_law_way : List Str := ["_law_pen_here"]
def b_law_way : List Stm := [.ret (.call 202 [.slot 0, .lst [.str "down", .str "up", .str "near"]])]
def c_law_way : Cv := { N := n_law_way, fns := [("_law_pick", 202)], nms := [], meths := [], globs := [], blts := [], fnc := fun _ => true }
theorem cv_law_way : cvSs c_law_way 60 (defScope s_law_way) (defBody s_law_way) = some b_law_way := by kernel_rfl
theorem sc_law_way : FnScope c_law_way.N ["_law_pen_here"] (defScope s_law_way) := ⟨rfl, rfl, rfl, by decide +kernel, rfl, by decide +kernel, by decide +kernel⟩
abbrev s_law_count : Stmt := topS 11
def n_law_count : List Str := ["_law_unit", "_law_way_here", "_law_age"]
def b_law_count : List Stm := [.ite (.cmp .eq (.slot 1) (.str "down")) [.ret (.bin .fdiv (.slot 2) (.slot 0))] [], .ret (.ite (.cmp .eq (.slot 1) (.str "up")) (.bin .fdiv (.bin .sub (.bin .add (.slot 2) (.slot 0)) (.int 1)) (.slot 0)) (.bin .fdiv (.bin .add (.bin .mul (.int 2) (.slot 2)) (.slot 0)) (.bin .mul (.int 2) (.slot 0))))]
def c_law_count : Cv := { N := n_law_count, fns := [], nms := [], meths := [], globs := [], blts := [], fnc := fun _ => true }
theorem cv_law_count : cvSs c_law_count 60 (defScope s_law_count) (defBody s_law_count) = some b_law_count := by kernel_rfl
theorem sc_law_count : FnScope c_law_count.N ["_law_unit", "_law_way_here", "_law_age"] (defScope s_law_count) := ⟨rfl, rfl, rfl, by decide +kernel, rfl, by decide +kernel, by decide +kernel⟩
noncomputable def T_law_count : Tab := T0
noncomputable def p_law_count : Fn := fx T_law_count 3 3 b_law_count
abbrev s_law_first_unlike : Stmt := topS 12
def n_law_first_unlike : List Str := ["_law_way_here", "_law_one", "_law_other", "_law_age"]
def b_law_first_unlike : List Stm := [.for_ (.slot 3) (.range1 (.bin .add (.bin .mul (.int 3) (.bi .min2 [.slot 1, .slot 2])) (.int 3))) [.ite (.cmp .ne (.call 204 [.slot 1, .slot 0, .slot 3]) (.call 204 [.slot 2, .slot 0, .slot 3])) [.ret (.slot 3)] []], .ret .non]
def c_law_first_unlike : Cv := { N := n_law_first_unlike, fns := [("_law_count", 204)], nms := [], meths := [], globs := [], blts := ["min", "range"], fnc := fun _ => true }
theorem cv_law_first_unlike : cvSs c_law_first_unlike 60 (defScope s_law_first_unlike) (defBody s_law_first_unlike) = some b_law_first_unlike := by kernel_rfl
theorem sc_law_first_unlike : FnScope c_law_first_unlike.N ["_law_way_here", "_law_one", "_law_other"] (defScope s_law_first_unlike) := ⟨rfl, rfl, rfl, by decide +kernel, rfl, by decide +kernel, by decide +kernel⟩
noncomputable def T_law_first_unlike : Tab := (T0.add 204 p_law_count)
noncomputable def p_law_first_unlike : Fn := fx T_law_first_unlike 3 4 b_law_first_unlike
abbrev s_law : Stmt := topS 13
def n_law : List Str := ["_law_script", "_law_pen_here", "_law_turn", "_law_way_here", "_law_one", "_law_other", "_law_due", "_law_great", "_law_near", "_law_age", "_law_before"]
def b_law : List Stm := [.asg (.slot 1) (.call 200 [.slot 0]), .for_ (.slot 2) (.range1 (.bin .add (.int 6) (.bi .min2 [.int 8, .bi .len [.slot 0]]))) [.par [3, 4] [.call 203 [.slot 1], .bin .add (.int 1) (.call 201 [.slot 1, .int 40])], .asg (.slot 5) (.call 202 [.slot 1, .lst [.bin .add (.int 1) (.call 201 [.slot 1, .int 40]), .bin .add (.slot 4) (.int 1), .slot 4]]), .asg (.slot 6) (.ite (.cmp .eq (.slot 4) (.slot 5)) .non (.call 205 [.slot 3, .slot 4, .slot 5])), .ite (.or_ (.cmp .ne (.call 103 [.slot 3, .slot 4, .slot 5]) (.slot 6)) (.cmp .ne (.call 103 [.slot 3, .slot 5, .slot 4]) (.slot 6))) [.ret (.bl false)] [], .asg (.slot 7) (.bin .add (.int 1) (.call 201 [.slot 1, .bin .pow (.int 10) (.int 29)])), .asg (.slot 8) (.bin .add (.bin .add (.slot 7) (.int 1)) (.call 202 [.slot 1, .lst [.int 0, .int 1, .call 201 [.slot 1, .bin .pow (.int 10) (.int 6)], .call 201 [.slot 1, .bin .pow (.int 10) (.int 28)]]])), .asg (.slot 9) (.call 103 [.slot 3, .slot 7, .slot 8]), .ite (.or_ (.cmp .ne (.call 103 [.slot 3, .slot 8, .slot 7]) (.slot 9)) (.cmp .isn (.call 103 [.slot 3, .slot 7, .slot 7]) .non)) [.ret (.bl false)] [], .ite (.cmp .eq (.call 204 [.slot 7, .slot 3, .slot 9]) (.call 204 [.slot 8, .slot 3, .slot 9])) [.ret (.bl false)] [], .for_ (.slot 10) (.seq (.lst [.bin .sub (.slot 9) (.int 1), .call 201 [.slot 1, .slot 9], .int 0])) [.ite (.cmp .ne (.call 204 [.slot 7, .slot 3, .slot 10]) (.call 204 [.slot 8, .slot 3, .slot 10])) [.ret (.bl false)] []]], .ret (.bl true)]
def c_law : Cv := { N := n_law, fns := [("_law_count", 204), ("_law_draw", 201), ("_law_first_unlike", 205), ("_law_pen", 200), ("_law_pick", 202), ("_law_way", 203), ("parting", 103)], nms := [], meths := [], globs := [], blts := ["len", "min", "range"], fnc := fun _ => true }
theorem cv_law : cvSs c_law 60 (defScope s_law) (defBody s_law) = some b_law := by kernel_rfl
theorem sc_law : FnScope c_law.N ["_law_script"] (defScope s_law) := ⟨rfl, rfl, rfl, by decide +kernel, rfl, by decide +kernel, by decide +kernel⟩
noncomputable def T_law : Tab := (((((((T0.add 103 p_parting).add 200 p_pen).add 201 p_draw).add 202 p_pick).add 203 p_way).add 204 p_law_count).add 205 p_law_first_unlike)
noncomputable def p_law : Fn := fx T_law 1 11 b_law
end Ag
namespace Ag
open PySem L2
section
local macro_rules | `(tactic| walk_at "nrm") => `(tactic| with_reducible refine XS_norm (by with_unfolding_all ((try simp only [setE, cutE, List.set_cons_zero, List.set_cons_succ, List.cons_append, List.nil_append, List.length_cons, List.length_nil, Nat.reduceAdd, List.take_succ_cons, List.take_zero]); exact Nf.rfl)) (by with_unfolding_all ((try simp only [setE, cutE, set_set, List.set_cons_zero, List.set_cons_succ]); exact Nf.rfl)) ?_)
local macro_rules | `(tactic| walk_at "w") => `(tactic| repeat' first
  | (with_reducible refine V_id ?_; first
    | (with_reducible refine V_slot (by with_unfolding_all exact rfl) ?_) | (with_reducible refine V_int ?_) | (with_reducible refine V_bin ?_) | (with_reducible refine V_cmpNil ?_) | (with_reducible refine V_cmp ?_)
    | (with_reducible refine V_str ?_) | (with_reducible refine V_bi ?_) | (with_reducible refine V_ixO (by with_unfolding_all exact rfl) ?_) | (with_reducible refine V_ix ?_) | (with_reducible refine V_call ?_) | (with_reducible refine V_attr ?_)
    | (with_reducible refine V_and ?_) | (with_reducible refine V_or ?_) | (with_reducible refine V_not ?_) | (with_reducible refine V_ite ?_) | (with_reducible refine V_tup ?_) | (with_reducible refine V_neg ?_) | (with_reducible refine V_non ?_) | (with_reducible refine V_bl ?_) | (with_reducible refine V_dict ?_))
  | (with_reducible refine O_id ?_; first
    | (with_reducible refine O_add ?_) | (with_reducible refine O_sub ?_) | (with_reducible refine O_mul (mul_ok (by omega) (by omega) (by omega) (by omega)) ?_) | (with_reducible refine O_fdiv (div_ok (by omega) (by omega)) ?_) | (with_reducible refine O_mod (by omega) ?_)
    | (with_reducible refine O_powN (by decide) (by with_unfolding_all (simp only [Int.reduceToNat, Int.reducePow]; exact Nf.rfl)) ?_))
  | (with_reducible refine C_id ?_; first
    | (with_reducible refine C_eqI ?_) | (with_reducible refine C_neI ?_) | (with_reducible refine C_eqS ?_) | (with_reducible refine C_neS ?_) | (with_reducible refine C_lt ?_) | (with_reducible refine C_le ?_) | (with_reducible refine C_gt ?_) | (with_reducible refine C_ge ?_)
    | (with_reducible refine C_neNil ?_) | (with_reducible refine C_isN ?_) | (with_reducible refine C_isnN ?_) | (with_reducible refine C_isI ?_) | (with_reducible refine C_isnI ?_) | (with_reducible refine C_neNN ?_) | (with_reducible refine C_neNI ?_) | (with_reducible refine C_neIN ?_))
  | (with_reducible refine B_id ?_; first
    | (with_reducible refine B_t ?_) | (with_reducible refine B_f ?_) | (with_reducible refine B_t' ?_) | (with_reducible refine B_f' ?_)
    | (with_reducible refine B_dec (fun _ => ?_) (fun _ => ?_)) | (with_reducible refine B_dec' (fun _ => ?_) (fun _ => ?_)) | (with_reducible refine B_not (fun _ => ?_) (fun _ => ?_)) | (with_reducible refine B_not' (fun _ => ?_) (fun _ => ?_)) | (with_reducible refine B_bl (fun _ => ?_) (fun _ => ?_)) | (with_reducible refine B_bl' (fun _ => ?_) (fun _ => ?_)))
  | (with_reducible refine L_id ?_; first
    | (with_reducible refine L_int ?_) | (with_reducible refine L_lenL ?_) | (with_reducible refine L_lenR ?_) | (with_reducible refine L_lenT ?_) | (with_reducible refine L_lenO (by with_unfolding_all exact rfl) ?_) | (with_reducible refine L_min2 ?_) | (with_reducible refine L_max2 ?_))
  | (with_reducible refine I_id ?_; first
    | (with_reducible refine ix_left (by assumption) ?_) | (with_reducible refine ix_at (by assumption) ?_) | (with_reducible refine ix_cells (by assumption) ?_))
  | (with_reducible refine X_id ?_; first
    | (with_reducible refine X_iteV ?_) | (with_reducible refine X_asgC ?_) | (with_reducible refine X_retC ?_) | (with_reducible refine X_parG ?_) | (with_reducible refine X_asgF (A_lstF ?_)) | (with_reducible refine X_left ?_) | (with_reducible refine X_at ?_)
    | (with_reducible refine X_asgV (V_slot (by with_unfolding_all exact rfl) ?_)) | (with_reducible refine X_asgV (V_int ?_)) | (with_reducible refine X_asgV (V_bin ?_)) | (with_reducible refine X_asgV (V_ix ?_)) | (with_reducible refine X_asgV (V_bi ?_)) | (with_reducible refine X_asgV (V_ite ?_)) | (with_reducible refine X_asgV (V_non ?_)) | (with_reducible refine X_asgV (V_bl ?_)) | (with_reducible refine X_asgV (V_str ?_)) | (with_reducible refine X_asgV (V_tup ?_)) | (with_reducible refine X_asgV (V_attr ?_))
    | (with_reducible refine X_retV (V_slot (by with_unfolding_all exact rfl) ?_)) | (with_reducible refine X_retV (V_int ?_)) | (with_reducible refine X_retV (V_bin ?_)) | (with_reducible refine X_retV (V_ix ?_)) | (with_reducible refine X_retV (V_bi ?_)) | (with_reducible refine X_retV (V_ite ?_)) | (with_reducible refine X_retV (V_non ?_)) | (with_reducible refine X_retV (V_bl ?_)) | (with_reducible refine X_retV (V_tup ?_)) | (with_reducible refine X_retV (V_neg ?_)) | (with_reducible refine X_retV (V_cmp ?_)))
  | (with_reducible refine XS_id ?_; first | (with_reducible refine XS_nil ?_) | (with_reducible refine XS_norm (by with_unfolding_all ((try simp only [setE, cutE, List.set_cons_zero, List.set_cons_succ, List.cons_append, List.nil_append, List.length_cons, List.length_nil, Nat.reduceAdd, List.take_succ_cons, List.take_zero]); exact Nf.rfl)) (by with_unfolding_all ((try simp only [setE, cutE, set_set, List.set_cons_zero, List.set_cons_succ]); exact Nf.rfl)) ?_; with_reducible refine XS_cons ?_))
  | (with_reducible refine AS_nil ?_)
  | (with_reducible refine AS_cons ?_)
  | (with_reducible refine D_id ?_; first | (with_reducible refine D_call ?_) | (with_reducible refine D_lst ?_) | (with_reducible refine D_own (by with_unfolding_all exact rfl) ?_) | (with_reducible refine AD_V ?_))
  | (with_reducible refine AP_nil ?_)
  | (with_reducible refine AP_consO (by with_unfolding_all exact rfl) ?_)
  | (with_reducible refine AP_consA ?_)
  | (with_reducible refine AK_nil ?_)
  | (with_reducible refine AK_cons ?_)
  | (with_reducible refine AO_none ?_)
  | (with_reducible refine AO_someV ?_)
  | (with_reducible refine I_neg ?_)
  | (with_reducible refine isD_val ?_)
  | (with_reducible refine isD_fresh ?_)
  | (with_reducible refine isS_val ?_)
  | (with_reducible refine isS_fresh ?_)
  | (with_reducible refine isV ?_)
  | (with_reducible refine AG_nil ?_)
  | (with_reducible refine AG_call ?_)
  | (with_reducible refine AG_new (A_lstF ?_))
  | (with_reducible refine AG_val ?_)
  | (with_reducible refine FG_nil ?_)
  | (with_reducible refine AI_lst ?_)
  | (with_reducible refine N_thn ?_)
  | (with_reducible refine R_thn ?_)
  | (with_reducible refine N_loop ?_)
  | (with_reducible refine R_loop ?_)
  | (with_reducible refine E_loop ?_)
  | (with_reducible refine B_loop ?_)
  | (with_reducible refine C_loop ?_)
  | (with_reducible refine B_thn ?_)
  | (with_reducible refine C_thn ?_)
  | (with_reducible refine X_brk ?_)
  | (with_reducible refine X_cont ?_)
  | (with_reducible refine E_thn ?_)
  | (with_reducible refine R_fx ?_)
  | (with_reducible refine N_fx ?_))

/-! ### k47: the mathematics -/
def cnt (w : Str) (u a : Int) : Int := if w = "down" then a / u else if w = "up" then -(-a / u) else (2 * a + u) / (2 * u)
def lcnt (w : Str) (u a : Int) : Int := if w = "down" then a / u else if w = "up" then (a + u - 1) / u else (2 * a + u) / (2 * u)
def foc (w : Str) (u c : Int) : Int := if w = "down" then c * u else if w = "up" then (c - 1) * u + 1 else c * u - u / 2
theorem div_is {x u c : Int} (h : 0 < u) (h1 : c * u ≤ x) (h2 : x < (c + 1) * u) : x / u = c := by
  have h3 : c ≤ x / u := (Int.le_ediv_iff_mul_le h).mpr h1
  have h4 : x / u < c + 1 := (Int.ediv_lt_iff_lt_mul h).mpr h2
  omega
theorem cnt_l {w : Str} {u a : Int} (h : 0 < u) : cnt w u a = lcnt w u a := by
  unfold cnt lcnt
  split
  · rfl
  split
  · have h1 := Int.mul_ediv_add_emod (-a) u
    have h2 := Int.emod_nonneg (-a) (show u ≠ 0 by omega)
    have h3 := Int.emod_lt_of_pos (-a) h
    refine (div_is h ?_ ?_).symm
    · rw [Int.neg_mul, Int.mul_comm]; omega
    · rw [Int.add_mul, Int.neg_mul, Int.mul_comm]; omega
  · rfl
/-- where two units part -/
def pa (w : Str) (u v : Int) : Int := if w = "down" then u else if w = "up" then u + 1 else if u % 2 = 1 ∧ v = u + 1 then 2 * u - u / 2 else u - u / 2
theorem pa_pos {w : Str} {u v : Int} (h : 0 < u) : 0 < pa w u v ∧ pa w u v ≤ 2 * u := by
  unfold pa
  split
  · omega
  split
  · omega
  split <;> omega
theorem lc_d {u a : Int} : lcnt "down" u a = a / u := rfl
theorem lc_u {w : Str} {u a : Int} (h1 : w ≠ "down") (h2 : w = "up") : lcnt w u a = (a + u - 1) / u := by unfold lcnt; rw [if_neg h1, if_pos h2]
theorem lc_n {w : Str} {u a : Int} (h1 : w ≠ "down") (h2 : w ≠ "up") : lcnt w u a = (2 * a + u) / (2 * u) := by unfold lcnt; rw [if_neg h1, if_neg h2]
theorem d0 {x u : Int} (h : 0 < u) (h1 : 0 ≤ x) (h2 : x < u) : x / u = 0 := div_is h (by omega) (by omega)
theorem d1 {x u : Int} (h : 0 < u) (h1 : u ≤ x) (h2 : x < 2 * u) : x / u = 1 := div_is h (by omega) (by omega)
theorem d2 {x u : Int} (h : 0 < u) (h1 : 2 * u ≤ x) (h2 : x < 3 * u) : x / u = 2 := div_is h (by omega) (by omega)
theorem pa_alike {w : Str} {u v a : Int} (h : 0 < u) (hv : u < v) (h0 : 0 ≤ a) (h1 : a < pa w u v) : lcnt w u a = lcnt w v a := by
  unfold pa at h1
  by_cases e1 : w = "down"
  · subst e1
    rw [if_pos rfl] at h1
    rw [lc_d, lc_d, d0 h h0 h1, d0 (by omega) h0 (by omega)]
  rw [if_neg e1] at h1
  by_cases e2 : w = "up"
  · rw [if_pos e2] at h1
    rw [lc_u e1 e2, lc_u e1 e2]
    by_cases z : a = 0
    · rw [d0 h (by omega) (by omega), d0 (by omega) (by omega) (by omega)]
    · rw [d1 h (by omega) (by omega), d1 (by omega) (by omega) (by omega)]
  rw [if_neg e2] at h1
  rw [lc_n e1 e2, lc_n e1 e2]
  split at h1
  · by_cases z : 2 * a < u
    · rw [d0 (by omega) (by omega) (by omega), d0 (by omega) (by omega) (by omega)]
    · rw [d1 (by omega) (by omega) (by omega), d1 (by omega) (by omega) (by omega)]
  · rw [d0 (by omega) (by omega) (by omega), d0 (by omega) (by omega) (by omega)]
theorem pa_unlike {w : Str} {u v : Int} (h : 0 < u) (hv : u < v) : lcnt w u (pa w u v) ≠ lcnt w v (pa w u v) := by
  unfold pa
  by_cases e1 : w = "down"
  · subst e1
    rw [if_pos rfl, lc_d, lc_d, d1 h (by omega) (by omega), d0 (by omega) (by omega) (by omega)]; decide
  rw [if_neg e1]
  by_cases e2 : w = "up"
  · rw [if_pos e2, lc_u e1 e2, lc_u e1 e2, d1 (u := v) (by omega) (by omega) (by omega)]
    by_cases z : u = 1
    · subst z; decide
    · rw [d2 h (by omega) (by omega)]; decide
  rw [if_neg e2, lc_n e1 e2, lc_n e1 e2]
  split
  · rw [d2 (by omega) (by omega) (by omega), d1 (by omega) (by omega) (by omega)]; decide
  · rw [d1 (by omega) (by omega) (by omega), d0 (by omega) (by omega) (by omega)]; decide
/-- what parting tells of two units, the smaller one first -/
theorem foc_1 {w : Str} {u : Int} (h : 0 < u) : foc w u (if w = "up" then 2 else 1) = (if w = "down" then u else if w = "up" then u + 1 else u - u / 2) := by
  unfold foc
  split
  · next e => subst e; rw [if_neg (by decide)]; omega
  split <;> omega
theorem parting_lt {w : Str} {u v : Int} (h : 0 < u) (hv : u < v) :
    (if lcnt w u (foc w u (if w = "up" then 2 else 1)) ≠ lcnt w v (foc w u (if w = "up" then 2 else 1)) then foc w u (if w = "up" then 2 else 1) else foc w u 2) = pa w u v := by
  rw [foc_1 h]
  have hp := pa_unlike (w := w) h hv
  unfold pa at hp ⊢
  by_cases e1 : w = "down"
  · rw [if_pos e1] at hp ⊢
    rw [if_pos e1, if_pos hp]
  rw [if_neg e1] at hp ⊢
  by_cases e2 : w = "up"
  · rw [if_pos e2] at hp ⊢
    rw [if_neg e1, if_pos e2, if_pos hp]
  rw [if_neg e2] at hp ⊢
  rw [if_neg e1, if_neg e2]
  by_cases z : u % 2 = 1 ∧ v = u + 1
  · rw [if_pos z] at hp ⊢
    rw [if_neg, show foc w u 2 = 2 * u - u / 2 by unfold foc; rw [if_neg e1, if_neg e2]]
    rw [lc_n e1 e2, lc_n e1 e2, d1 (by omega) (by omega) (by omega), d1 (by omega) (by omega) (by omega)]
    exact fun q => q rfl
  · rw [if_neg z] at hp ⊢
    rw [if_pos hp]

/-! ### k47: the walk -/
theorem count_of_is {u a : Int} {w : Str} {sto : List Cell} (h0 : 0 < u) (h1 : u < 10000000000000000000000000000000000000000) (h2 : 0 ≤ a) (h3 : a < 10000000000000000000000000000000000000000) : p_count_of [.int u, .str w, .int a] sto = .ret (.val (.int (lcnt w u a))) sto := by
  rw [← cnt_l h0]
  refine fx_eq (fx_all rfl (env := [.val (.int u), .val (.str w), .val (.int a)]) rfl ?_)
  unfold b_count_of cnt
  walk_at "w"
  · rw [if_pos ‹_›]; exact ⟨rfl, rfl⟩
  · rw [if_neg ‹_›, if_pos ‹_›]; exact ⟨rfl, rfl⟩
  · rw [if_neg ‹_›, if_neg ‹_›]; exact ⟨rfl, rfl⟩
theorem lcount_is {u a : Int} {w : Str} {sto : List Cell} (h0 : 0 < u) (h1 : u < 10000000000000000000000000000000000000000) (h2 : 0 ≤ a) (h3 : a < 10000000000000000000000000000000000000000) : p_law_count [.int u, .str w, .int a] sto = .ret (.val (.int (lcnt w u a))) sto := by
  refine fx_eq (fx_all rfl (env := [.val (.int u), .val (.str w), .val (.int a)]) rfl ?_)
  unfold b_law_count lcnt
  walk_at "w"
  · rw [if_pos ‹_›]; exact ⟨rfl, rfl⟩
  · rw [if_neg ‹_›, if_pos ‹_›]; exact ⟨rfl, rfl⟩
  · rw [if_neg ‹_›, if_neg ‹_›]; exact ⟨rfl, rfl⟩
theorem first_is {u c : Int} {w : Str} {sto : List Cell} (h0 : 0 < u) (h1 : u < 10000000000000000000000000000000000000000) (h2 : 0 ≤ c) (h3 : c < 10000000000000000000000000000000000000000) : p_first_of_count [.int u, .str w, .int c] sto = .ret (.val (.int (foc w u c))) sto := by
  refine fx_eq (fx_all rfl (env := [.val (.int u), .val (.str w), .val (.int c)]) rfl ?_)
  unfold b_first_of_count foc
  walk_at "w"
  · rw [if_pos ‹_›]; exact ⟨rfl, rfl⟩
  · rw [if_neg ‹_›, if_pos ‹_›]; exact ⟨rfl, rfl⟩
  · rw [if_neg ‹_›, if_neg ‹_›]; exact ⟨rfl, rfl⟩
def partD (w : Str) (u v : Int) : D := if u = v then .non else if u < v then .int (pa w u v) else .int (pa w v u)
theorem pf_c {w : Str} {u v c : Int} (h : 0 < u) (hv : u < v) (hc : c = if w = "up" then 2 else 1) : (lcnt w u (foc w u c) ≠ lcnt w v (foc w u c) → foc w u c = pa w u v) ∧ (lcnt w u (foc w u c) = lcnt w v (foc w u c) → foc w u 2 = pa w u v) := by
  subst hc
  have := parting_lt (w := w) h hv
  constructor
  · intro q; rw [if_pos q] at this; exact this
  · intro q; rw [if_neg (fun z => z q)] at this; exact this
theorem foc_pos {w : Str} {u c : Int} (h : 0 < u) (hc : c = if w = "up" then 2 else 1) : 0 ≤ foc w u c ∧ foc w u c ≤ 2 * u := by
  subst hc
  rw [foc_1 h]
  split
  · omega
  split <;> omega
theorem parting_is {u v : Int} {w : Str} {sto : List Cell} (h0 : 0 < u) (h1 : u < 1000000000000000000000000000000000000000) (h2 : 0 < v) (h3 : v < 1000000000000000000000000000000000000000) : p_parting [.str w, .int u, .int v] sto = .ret (.val (partD w u v)) sto := by
  refine fx_eq (fx_all rfl (env := [.val (.str w), .val (.int u), .val (.int v), .un, .un]) rfl ?_)
  have key : ∀ few c : Int, 0 < few → few < 1000000000000000000000000000000000000000 → (c = if w = "up" then 2 else 1) →
      (lcnt w u (foc w few c) ≠ lcnt w v (foc w few c) → foc w few c = pa w (if u < v then u else v) (if u < v then v else u)) →
      (lcnt w u (foc w few c) = lcnt w v (foc w few c) → foc w few 2 = pa w (if u < v then u else v) (if u < v then v else u)) → 
      XS T_parting [.ite (.cmp .ne (.call 25 [.slot 1, .slot 0, .slot 4]) (.call 25 [.slot 2, .slot 0, .slot 4])) [.ret (.slot 4)] [], .ret (.call 56 [.slot 3, .slot 0, .int 2])]
        ⟨[.val (.str w), .val (.int u), .val (.int v), .val (.int few), .val (.int (foc w few c))], sto⟩ (fxK (fun o' s' => o' = .val (if u < v then .int (pa w u v) else .int (pa w v u)) ∧ s' = sto) fun _ _ _ => False) := by
    intro few c hf hf1 hc k1 k2
    have hp := foc_pos (w := w) hf hc
    have e : (if u < v then D.int (pa w u v) else .int (pa w v u)) = .int (pa w (if u < v then u else v) (if u < v then v else u)) := by split <;> rfl
    rw [e]
    walk_at "w"
    refine all_of_eq (count_of_is h0 (by omega) (by omega) (by omega)) ?_
    walk_at "w"
    refine all_of_eq (count_of_is h2 (by omega) (by omega) (by omega)) ?_
    walk_at "w"
    · rw [← k1 ‹_›]; exact ⟨rfl, rfl⟩
    refine all_of_eq (first_is hf (by omega) (by omega) (by omega)) ?_
    walk_at "w"
    rw [← k2 ‹_›]; exact ⟨rfl, rfl⟩
  unfold b_parting partD
  have mid : ∀ c : Int, (c = if w = "up" then 2 else 1) → ¬ u = v → p_first_of_count [.int (if v < u then v else u), .str w, .int c] sto = .ret (.val (.int (foc w (if v < u then v else u) c))) sto ∧
     XS T_parting [.ite (.cmp .ne (.call 25 [.slot 1, .slot 0, .slot 4]) (.call 25 [.slot 2, .slot 0, .slot 4])) [.ret (.slot 4)] [], .ret (.call 56 [.slot 3, .slot 0, .int 2])]
        ⟨[.val (.str w), .val (.int u), .val (.int v), .val (.int (if v < u then v else u)), .val (.int (foc w (if v < u then v else u) c))], sto⟩ (fxK (fun o' s' => o' = .val (if u < v then .int (pa w u v) else .int (pa w v u)) ∧ s' = sto) fun _ _ _ => False) := fun c hc ne => by
    have hcc : 0 ≤ c ∧ c ≤ 2 := by rw [hc]; split <;> omega
    by_cases lt : u < v
    · have q : (if v < u then v else u) = u := if_neg (by omega)
      rw [q]
      refine ⟨first_is h0 (by omega) (by omega) (by omega), key u c h0 h1 hc ?_ ?_⟩
      all_goals rw [if_pos lt, if_pos lt]
      · exact (pf_c h0 lt hc).1
      · exact (pf_c h0 lt hc).2
    · have q : (if v < u then v else u) = v := if_pos (by omega)
      have lt2 : v < u := by omega
      rw [q]
      refine ⟨first_is h2 (by omega) (by omega) (by omega), key v c h2 h3 hc ?_ ?_⟩
      all_goals rw [if_neg lt, if_neg lt]
      · exact fun z => (pf_c h2 lt2 hc).1 fun y => z y.symm
      · exact fun z => (pf_c h2 lt2 hc).2 z.symm
  walk_at "w"
  · rw [if_pos ‹_›]; exact ⟨rfl, rfl⟩
  · rename_i ne nu
    rw [if_neg ne]
    obtain ⟨m1, m2⟩ := mid 1 (if_neg nu).symm ne
    exact all_of_eq m1 ⟨_, .val _, m2⟩
  · rename_i ne nu
    rw [if_neg ne]
    obtain ⟨m1, m2⟩ := mid 2 (if_pos nu).symm ne
    exact all_of_eq m1 ⟨_, .val _, m2⟩
theorem partD_ne {w : Str} {u v : Int} (h : u ≠ v) : partD w u v = .int (pa w (if u < v then u else v) (if u < v then v else u)) := by
  unfold partD
  rw [if_neg h]
  split <;> rfl
theorem fu_is {u v : Int} {w : Str} {sto : List Cell} (h0 : 0 < u) (h1 : u < 1000000) (h2 : 0 < v) (h3 : v < 1000000) (hne : u ≠ v) : p_law_first_unlike [.str w, .int u, .int v] sto = .ret (.val (partD w u v)) sto := by
  rw [partD_ne hne]
  refine fx_eq (fx_all rfl (env := [.val (.str w), .val (.int u), .val (.int v), .un]) rfl ?_)
  unfold b_law_first_unlike
  have al : ∀ a : Int, 0 ≤ a → a < pa w (if u < v then u else v) (if u < v then v else u) → lcnt w u a = lcnt w v a := fun a ha hl => by
    by_cases q : u < v
    · rw [if_pos q, if_pos q] at hl; exact pa_alike h0 q ha hl
    · rw [if_neg q, if_neg q] at hl; exact (pa_alike h2 (by omega) ha hl).symm
  have un : lcnt w u (pa w (if u < v then u else v) (if u < v then v else u)) ≠ lcnt w v (pa w (if u < v then u else v) (if u < v then v else u)) := by
    by_cases q : u < v
    · rw [if_pos q, if_pos q]; exact pa_unlike h0 q
    · rw [if_neg q, if_neg q]; exact fun z => pa_unlike h2 (by omega) z.symm
  have mq : (if v < u then v else u) = (if u < v then u else v) := by split <;> split <;> omega
  have bd := pa_pos (w := w) (u := if u < v then u else v) (v := if u < v then v else u) (by split <;> omega)
  generalize pa w (if u < v then u else v) (if u < v then v else u) = p at al un bd ⊢
  generalize hm : (if u < v then u else v) = m at mq bd
  have hmm : 0 < m ∧ m < 1000000 := by rw [← hm]; split <;> omega
  walk_at "w"
  refine X_forI (AI_range1V ?_)
  walk_at "w"
  rw [mq]
  walk_at "w"
  refine ⟨⟨by omega, by omega⟩, fun i fr => (i : Int) ≤ p ∧ ∃ s, fr = ⟨[.val (.str w), .val (.int u), .val (.int v), s], sto⟩, ⟨by omega, _, rfl⟩, ?_, ?_⟩
  · rintro i x fr hx ⟨hi, s, rfl⟩
    obtain ⟨hi2, rfl⟩ := range_at hx
    refine ⟨_, rfl, ?_⟩
    rw [Int.zero_add]
    walk_at "w"
    refine all_of_eq (lcount_is h0 (by omega) (by omega) (by omega)) ?_
    walk_at "w"
    refine all_of_eq (lcount_is h2 (by omega) (by omega) (by omega)) ?_
    walk_at "w"
    · rename_i ne
      have : (i : Int) = p := by
        by_cases q : (i : Int) < p
        · exact absurd (al _ (by omega) q) ne
        · omega
      rw [this]
      exact ⟨rfl, rfl⟩
    · rename_i eq
      refine ⟨?_, _, rfl⟩
      by_cases q : (i : Int) = p
      · rw [q] at eq; exact absurd eq un
      · omega
  · rintro fr ⟨hi, s, rfl⟩
    rw [rangeD_len] at hi
    omega
theorem keeps : Keeps p_law := by
  intro ns hl
  refine fx_all rfl (env := [.val (.rol (ns.map D.int)), .un, .un, .un, .un, .un, .un, .un, .un, .un, .un]) rfl ?_
  unfold b_law
  walk_at "w"
  refine fx_imp pen_is (fun o s h => ?_) fun _ _ _ z => z.elim
  obtain ⟨c0, rfl, rfl, hc0⟩ := h
  walk_at "w"
  refine X_forI (AI_range1V ?_)
  walk_at "w"
  refine ⟨⟨by split <;> omega, by split <;> omega⟩, fun i fr => ∃ c s2 s3 s4 s5 s6 s7 s8 s9 s10, PenC (20 * i) c ∧ fr = ⟨[.val (.rol (ns.map D.int)), .val (.cell 0), s2, s3, s4, s5, s6, s7, s8, s9, s10], [c]⟩, ⟨c0, _, _, _, _, _, _, _, _, _, hc0.mono (by omega), rfl⟩, ?_, ?_⟩
  · rintro i x fr hx ⟨c, s2, s3, s4, s5, s6, s7, s8, s9, s10, hc, rfl⟩
    obtain ⟨hi, rfl⟩ := range_at hx
    have hi2 : i < 100 := by
      rw [List.length_map] at hi
      split at hi <;> omega
    refine ⟨_, rfl, ?_⟩
    walk_at "w"
    refine fx_imp (way_is (sto := [c]) (p := 0) rfl hc (by omega)) (fun o s h => ?_) fun _ _ _ z => z.elim
    obtain ⟨w, c1, rfl, hw, rfl, hc1⟩ := h
    walk_at "w"
    refine fx_imp (draw_is (p := 0) rfl hc1 (by omega) (by omega) (by omega)) (fun o s h => ?_) fun _ _ _ z => z.elim
    obtain ⟨r, c2, rfl, hr0, hr1, rfl, hc2⟩ := h
    walk_at "w"
    refine ⟨_, rfl, ?_⟩
    walk_at "w"
    refine fx_imp (draw_is (p := 0) rfl hc2 (by omega) (by omega) (by omega)) (fun o s h => ?_) fun _ _ _ z => z.elim
    obtain ⟨r2, c3, rfl, hr20, hr21, rfl, hc3⟩ := h
    walk_at "w"
    refine ⟨(by show 3 ≤ sizeLine; decide), ?_⟩
    walk_at "w"
    refine fx_imp (pick_is (p := 0) rfl hc3 (by omega) (by simp) (by simp)) (fun o s h => ?_) fun _ _ _ z => z.elim
    obtain ⟨x, c4, rfl, hx, rfl, hc4⟩ := h
    obtain ⟨v, rfl, hv0, hv1⟩ : ∃ v, x = .int v ∧ 1 ≤ v ∧ v ≤ 41 := by
      simp only [List.mem_cons, List.not_mem_nil, or_false] at hx
      rcases hx with rfl | rfl | rfl
      · exact ⟨_, rfl, by omega, by omega⟩
      · exact ⟨_, rfl, by omega, by omega⟩
      · exact ⟨_, rfl, by omega, by omega⟩
    clear hx
    generalize hu : 1 + r = u
    walk_at "w"
    · rename_i eq
      have hp : partD w u v = .non := if_pos eq
      have hp2 : partD w v u = .non := if_pos eq.symm
      refine all_of_eq (parting_is (by omega) (by omega) (by omega) (by omega)) ?_
      walk_at "w"
      rw [hp]
      walk_at "w"
      refine all_of_eq (parting_is (by omega) (by omega) (by omega) (by omega)) ?_
      walk_at "w"
      rw [hp2]
      walk_at "w"
      refine fx_imp (draw_is (p := 0) rfl hc4 (by omega) (by omega) (by omega)) (fun o s h => ?_) fun _ _ _ z => z.elim
      obtain ⟨g, c5, rfl, hg0, hg1, rfl, hc5⟩ := h
      walk_at "w"
      generalize hgg : 1 + g = G
      refine fx_imp (draw_is (p := 0) rfl hc5 (by omega) (by omega) (by omega)) (fun o s h => ?_) fun _ _ _ z => z.elim
      obtain ⟨x1, c6, rfl, hx10, hx11, rfl, hc6⟩ := h
      walk_at "w"
      refine fx_imp (draw_is (p := 0) rfl hc6 (by omega) (by omega) (by omega)) (fun o s h => ?_) fun _ _ _ z => z.elim
      obtain ⟨x2, c7, rfl, hx20, hx21, rfl, hc7⟩ := h
      walk_at "w"
      refine ⟨(by show 4 ≤ sizeLine; decide), ?_⟩
      walk_at "w"
      refine fx_imp (pick_is (p := 0) rfl hc7 (by omega) (by simp) (by simp)) (fun o s h => ?_) fun _ _ _ z => z.elim
      obtain ⟨x, c8, rfl, hx, rfl, hc8⟩ := h
      obtain ⟨y, rfl, hy0, hy1⟩ : ∃ v, x = .int v ∧ 0 ≤ v ∧ v < 10000000000000000000000000000 := by
        simp only [List.mem_cons, List.not_mem_nil, or_false] at hx
        rcases hx with rfl | rfl | rfl | rfl
        · exact ⟨_, rfl, by omega, by omega⟩
        · exact ⟨_, rfl, by omega, by omega⟩
        · exact ⟨_, rfl, by omega, by omega⟩
        · exact ⟨_, rfl, by omega, by omega⟩
      clear hx
      walk_at "w"
      generalize hn : G + 1 + y = N
      have hpa := pa_pos (w := w) (u := G) (v := N) (by omega)
      have hal : ∀ a : Int, 0 ≤ a → a < pa w G N → lcnt w G a = lcnt w N a := fun a => pa_alike (by omega) (by omega)
      have hun := pa_unlike (w := w) (u := G) (v := N) (by omega) (by omega)
      have q1 : partD w G N = .int (pa w G N) := by rw [partD_ne (by omega), if_pos (by omega), if_pos (by omega)]
      have q2 : partD w N G = .int (pa w G N) := by rw [partD_ne (by omega), if_neg (by omega), if_neg (by omega)]
      have q3 : partD w G G = .non := if_pos rfl
      generalize pa w G N = A at hpa hal hun q1 q2
      refine all_of_eq (parting_is (by omega) (by omega) (by omega) (by omega)) ?_
      rw [q1]
      walk_at "w"
      refine all_of_eq (parting_is (by omega) (by omega) (by omega) (by omega)) ?_
      rw [q2]
      walk_at "w"
      · exact absurd rfl ‹¬ A = A›
      refine all_of_eq (parting_is (by omega) (by omega) (by omega) (by omega)) ?_
      rw [q3]
      walk_at "w"
      refine all_of_eq (lcount_is (by omega) (by omega) (by omega) (by omega)) ?_
      walk_at "w"
      refine all_of_eq (lcount_is (by omega) (by omega) (by omega) (by omega)) ?_
      walk_at "w"
      · exact absurd ‹_› hun
      refine X_forF ?_
      walk_at "w"
      refine fx_imp (draw_is (p := 0) rfl hc8 (by omega) (by omega) (by omega)) (fun o s h => ?_) fun _ _ _ z => z.elim
      obtain ⟨b, c9, rfl, hb0, hb1, rfl, hc9⟩ := h
      walk_at "w"
      refine ⟨(by show 3 ≤ sizeLine; decide), FG_cons ⟨_, rfl, ?_⟩⟩
      walk_at "w"
      refine all_of_eq (lcount_is (by omega) (by omega) (by omega) (by omega)) ?_
      walk_at "w"
      refine all_of_eq (lcount_is (by omega) (by omega) (by omega) (by omega)) ?_
      walk_at "w"
      · rename_i z; exact absurd (hal _ (by omega) (by omega)) z
      refine FG_cons ⟨_, rfl, ?_⟩
      walk_at "w"
      refine all_of_eq (lcount_is (by omega) (by omega) (by omega) (by omega)) ?_
      walk_at "w"
      refine all_of_eq (lcount_is (by omega) (by omega) (by omega) (by omega)) ?_
      walk_at "w"
      · rename_i z; exact absurd (hal _ (by omega) (by omega)) z
      refine FG_cons ⟨_, rfl, ?_⟩
      walk_at "w"
      refine all_of_eq (lcount_is (by omega) (by omega) (by omega) (by omega)) ?_
      walk_at "w"
      refine all_of_eq (lcount_is (by omega) (by omega) (by omega) (by omega)) ?_
      walk_at "w"
      · rename_i z; exact absurd (hal _ (by omega) (by omega)) z
      refine ⟨c9, _, _, _, _, _, _, _, _, _, hc9.mono (by omega), rfl⟩
    · rename_i ne
      have hp : partD w v u = partD w u v := by
        rw [partD_ne ne, partD_ne (fun z => ne z.symm)]
        have a1 : (if v < u then v else u) = (if u < v then u else v) := by split <;> split <;> omega
        have a2 : (if v < u then u else v) = (if u < v then v else u) := by split <;> split <;> omega
        rw [a1, a2]
      obtain ⟨p, hq⟩ : ∃ p, partD w u v = .int p := ⟨_, partD_ne ne⟩
      refine all_of_eq (fu_is (by omega) (by omega) (by omega) (by omega) ne) ?_
      rw [hq]
      walk_at "w"
      refine all_of_eq (parting_is (by omega) (by omega) (by omega) (by omega)) ?_
      walk_at "w"
      rw [hq]
      walk_at "w"
      · exact absurd rfl ‹¬ p = p›
      · refine all_of_eq (parting_is (by omega) (by omega) (by omega) (by omega)) ?_
        walk_at "w"
        rw [hp, hq]
        walk_at "w"
        · exact absurd rfl ‹¬ p = p›
        refine fx_imp (draw_is (p := 0) rfl hc4 (by omega) (by omega) (by omega)) (fun o s h => ?_) fun _ _ _ z => z.elim
        obtain ⟨g, c5, rfl, hg0, hg1, rfl, hc5⟩ := h
        walk_at "w"
        generalize hgg : 1 + g = G
        refine fx_imp (draw_is (p := 0) rfl hc5 (by omega) (by omega) (by omega)) (fun o s h => ?_) fun _ _ _ z => z.elim
        obtain ⟨x1, c6, rfl, hx10, hx11, rfl, hc6⟩ := h
        walk_at "w"
        refine fx_imp (draw_is (p := 0) rfl hc6 (by omega) (by omega) (by omega)) (fun o s h => ?_) fun _ _ _ z => z.elim
        obtain ⟨x2, c7, rfl, hx20, hx21, rfl, hc7⟩ := h
        walk_at "w"
        refine ⟨(by show 4 ≤ sizeLine; decide), ?_⟩
        walk_at "w"
        refine fx_imp (pick_is (p := 0) rfl hc7 (by omega) (by simp) (by simp)) (fun o s h => ?_) fun _ _ _ z => z.elim
        obtain ⟨x, c8, rfl, hx, rfl, hc8⟩ := h
        obtain ⟨y, rfl, hy0, hy1⟩ : ∃ v, x = .int v ∧ 0 ≤ v ∧ v < 10000000000000000000000000000 := by
          simp only [List.mem_cons, List.not_mem_nil, or_false] at hx
          rcases hx with rfl | rfl | rfl | rfl
          · exact ⟨_, rfl, by omega, by omega⟩
          · exact ⟨_, rfl, by omega, by omega⟩
          · exact ⟨_, rfl, by omega, by omega⟩
          · exact ⟨_, rfl, by omega, by omega⟩
        clear hx
        walk_at "w"
        generalize hn : G + 1 + y = N
        have hpa := pa_pos (w := w) (u := G) (v := N) (by omega)
        have hal : ∀ a : Int, 0 ≤ a → a < pa w G N → lcnt w G a = lcnt w N a := fun a => pa_alike (by omega) (by omega)
        have hun := pa_unlike (w := w) (u := G) (v := N) (by omega) (by omega)
        have q1 : partD w G N = .int (pa w G N) := by rw [partD_ne (by omega), if_pos (by omega), if_pos (by omega)]
        have q2 : partD w N G = .int (pa w G N) := by rw [partD_ne (by omega), if_neg (by omega), if_neg (by omega)]
        have q3 : partD w G G = .non := if_pos rfl
        generalize pa w G N = A at hpa hal hun q1 q2
        refine all_of_eq (parting_is (by omega) (by omega) (by omega) (by omega)) ?_
        rw [q1]
        walk_at "w"
        refine all_of_eq (parting_is (by omega) (by omega) (by omega) (by omega)) ?_
        rw [q2]
        walk_at "w"
        · exact absurd rfl ‹¬ A = A›
        refine all_of_eq (parting_is (by omega) (by omega) (by omega) (by omega)) ?_
        rw [q3]
        walk_at "w"
        refine all_of_eq (lcount_is (by omega) (by omega) (by omega) (by omega)) ?_
        walk_at "w"
        refine all_of_eq (lcount_is (by omega) (by omega) (by omega) (by omega)) ?_
        walk_at "w"
        · exact absurd ‹_› hun
        refine X_forF ?_
        walk_at "w"
        refine fx_imp (draw_is (p := 0) rfl hc8 (by omega) (by omega) (by omega)) (fun o s h => ?_) fun _ _ _ z => z.elim
        obtain ⟨b, c9, rfl, hb0, hb1, rfl, hc9⟩ := h
        walk_at "w"
        refine ⟨(by show 3 ≤ sizeLine; decide), FG_cons ⟨_, rfl, ?_⟩⟩
        walk_at "w"
        refine all_of_eq (lcount_is (by omega) (by omega) (by omega) (by omega)) ?_
        walk_at "w"
        refine all_of_eq (lcount_is (by omega) (by omega) (by omega) (by omega)) ?_
        walk_at "w"
        · rename_i z; exact absurd (hal _ (by omega) (by omega)) z
        refine FG_cons ⟨_, rfl, ?_⟩
        walk_at "w"
        refine all_of_eq (lcount_is (by omega) (by omega) (by omega) (by omega)) ?_
        walk_at "w"
        refine all_of_eq (lcount_is (by omega) (by omega) (by omega) (by omega)) ?_
        walk_at "w"
        · rename_i z; exact absurd (hal _ (by omega) (by omega)) z
        refine FG_cons ⟨_, rfl, ?_⟩
        walk_at "w"
        refine all_of_eq (lcount_is (by omega) (by omega) (by omega) (by omega)) ?_
        walk_at "w"
        refine all_of_eq (lcount_is (by omega) (by omega) (by omega) (by omega)) ?_
        walk_at "w"
        · rename_i z; exact absurd (hal _ (by omega) (by omega)) z
        refine ⟨c9, _, _, _, _, _, _, _, _, _, hc9.mono (by omega), rfl⟩
  · rintro fr ⟨c, s2, s3, s4, s5, s6, s7, s8, s9, s10, hc, rfl⟩
    walk_at "w"
    rfl
end
end Ag
namespace Ag
open PySem PySem.Spec PyProof.Rows L2
theorem all_mk {l : PySem.W.OpenLaw} {w : World} {K : PySem.W.Frag} {h : Heap} {mg : Str → Option Value} {fa : Addr} {f1 f2 f3 f4 f5 f6 f7 f8 f9 f10 : Addr} {od1 an1 od2 an2 od3 an3 od4 an4 od5 an5 od6 an6 od7 an7 od8 an8 od9 an9 od10 an10 : Option Addr} {sl1 sl2 sl3 sl4 sl5 sl6 sl7 sl8 sl9 sl10 : Array (Option Value)} {oc1 kV1 dc1 pm1 cd1 ct1 oc2 kV2 dc2 pm2 cd2 ct2 oc3 kV3 dc3 pm3 cd3 ct3 oc4 kV4 dc4 pm4 cd4 ct4 oc5 kV5 dc5 pm5 cd5 ct5 oc6 kV6 dc6 pm6 cd6 ct6 oc7 kV7 dc7 pm7 cd7 ct7 oc8 kV8 dc8 pm8 cd8 ct8 oc9 kV9 dc9 pm9 cd9 ct9 oc10 kV10 dc10 pm10 cd10 ct10 : Value} (X : K.In h) (G : h.Ns mainGlobals mg) (hfa : mg "law" = some (.ref fa))
    (a1 : PySem.W.nsIn K mainGlobals "count_of" = some (some (.ref f1))) (l1 : K.lookup f1 = some ⟨oc1, od1, .func (PySem.W.fnOf "count_of" "count_of" (defArgs s_count_of) (defBody s_count_of) (defScope s_count_of) .none kV1 dc1 pm1 an1 cd1 ct1), sl1⟩) (c1 : PySem.W.codeIn K cd1 "count_of" = true) (k1 : PySem.W.keepIn K (.ref f1) = true)
    (a2 : PySem.W.nsIn K mainGlobals "first_of_count" = some (some (.ref f2))) (l2 : K.lookup f2 = some ⟨oc2, od2, .func (PySem.W.fnOf "first_of_count" "first_of_count" (defArgs s_first_of_count) (defBody s_first_of_count) (defScope s_first_of_count) .none kV2 dc2 pm2 an2 cd2 ct2), sl2⟩) (c2 : PySem.W.codeIn K cd2 "first_of_count" = true) (k2 : PySem.W.keepIn K (.ref f2) = true)
    (a3 : PySem.W.nsIn K mainGlobals "parting" = some (some (.ref f3))) (l3 : K.lookup f3 = some ⟨oc3, od3, .func (PySem.W.fnOf "parting" "parting" (defArgs s_parting) (defBody s_parting) (defScope s_parting) .none kV3 dc3 pm3 an3 cd3 ct3), sl3⟩) (c3 : PySem.W.codeIn K cd3 "parting" = true) (k3 : PySem.W.keepIn K (.ref f3) = true)
    (a4 : PySem.W.nsIn K mainGlobals "_law_pen" = some (some (.ref f4))) (l4 : K.lookup f4 = some ⟨oc4, od4, .func (PySem.W.fnOf "_law_pen" "_law_pen" (defArgs s_law_pen) (defBody s_law_pen) (defScope s_law_pen) .none kV4 dc4 pm4 an4 cd4 ct4), sl4⟩) (c4 : PySem.W.codeIn K cd4 "_law_pen" = true) (k4 : PySem.W.keepIn K (.ref f4) = true)
    (a5 : PySem.W.nsIn K mainGlobals "_law_draw" = some (some (.ref f5))) (l5 : K.lookup f5 = some ⟨oc5, od5, .func (PySem.W.fnOf "_law_draw" "_law_draw" (defArgs s_law_draw) (defBody s_law_draw) (defScope s_law_draw) .none kV5 dc5 pm5 an5 cd5 ct5), sl5⟩) (c5 : PySem.W.codeIn K cd5 "_law_draw" = true) (k5 : PySem.W.keepIn K (.ref f5) = true)
    (a6 : PySem.W.nsIn K mainGlobals "_law_pick" = some (some (.ref f6))) (l6 : K.lookup f6 = some ⟨oc6, od6, .func (PySem.W.fnOf "_law_pick" "_law_pick" (defArgs s_law_pick) (defBody s_law_pick) (defScope s_law_pick) .none kV6 dc6 pm6 an6 cd6 ct6), sl6⟩) (c6 : PySem.W.codeIn K cd6 "_law_pick" = true) (k6 : PySem.W.keepIn K (.ref f6) = true)
    (a7 : PySem.W.nsIn K mainGlobals "_law_way" = some (some (.ref f7))) (l7 : K.lookup f7 = some ⟨oc7, od7, .func (PySem.W.fnOf "_law_way" "_law_way" (defArgs s_law_way) (defBody s_law_way) (defScope s_law_way) .none kV7 dc7 pm7 an7 cd7 ct7), sl7⟩) (c7 : PySem.W.codeIn K cd7 "_law_way" = true) (k7 : PySem.W.keepIn K (.ref f7) = true)
    (a8 : PySem.W.nsIn K mainGlobals "_law_count" = some (some (.ref f8))) (l8 : K.lookup f8 = some ⟨oc8, od8, .func (PySem.W.fnOf "_law_count" "_law_count" (defArgs s_law_count) (defBody s_law_count) (defScope s_law_count) .none kV8 dc8 pm8 an8 cd8 ct8), sl8⟩) (c8 : PySem.W.codeIn K cd8 "_law_count" = true) (k8 : PySem.W.keepIn K (.ref f8) = true)
    (a9 : PySem.W.nsIn K mainGlobals "_law_first_unlike" = some (some (.ref f9))) (l9 : K.lookup f9 = some ⟨oc9, od9, .func (PySem.W.fnOf "_law_first_unlike" "_law_first_unlike" (defArgs s_law_first_unlike) (defBody s_law_first_unlike) (defScope s_law_first_unlike) .none kV9 dc9 pm9 an9 cd9 ct9), sl9⟩) (c9 : PySem.W.codeIn K cd9 "_law_first_unlike" = true) (k9 : PySem.W.keepIn K (.ref f9) = true)
    (a10 : PySem.W.nsIn K mainGlobals "law" = some (some (.ref f10))) (l10 : K.lookup f10 = some ⟨oc10, od10, .func (PySem.W.fnOf "law" "law" (defArgs s_law) (defBody s_law) (defScope s_law) .none kV10 dc10 pm10 an10 cd10 ct10), sl10⟩) (c10 : PySem.W.codeIn K cd10 "law" = true) (k10 : PySem.W.keepIn K (.ref f10) = true)
    (z_int : PySem.W.nsIn K mainGlobals "int" = some none)
    (z_len : PySem.W.nsIn K mainGlobals "len" = some none)
    (z_list : PySem.W.nsIn K mainGlobals "list" = some none)
    (z_min : PySem.W.nsIn K mainGlobals "min" = some none)
    (z_range : PySem.W.nsIn K mainGlobals "range" = some none) :
    ∃ fd : FuncData, (∀ (s : Shared) (v : Value), BindsTo s fd ⟨[v], []⟩ [("_law_script", v)]) ∧ ∀ base : Heap, K.In base → base.Ns mainGlobals mg → FnOk l.prog w K mg base (L2.CX l.prog w) 10 fa fd ["_law_script"] (spLaw K) := by
  have e := hfa.symm.trans (PySem.W.mg_of X G a10)
  cases e
  have F1 := fun_mk (st := s_count_of) l1 c1 k1
  have b1 := F1.binds (ps := ["unit", "way", "age"]) fun _ _ _ _ _ _ us hl => match us, hl with | [_, _, _], _ => rfl
  have F2 := fun_mk (st := s_first_of_count) l2 c2 k2
  have b2 := F2.binds (ps := ["unit", "way", "count"]) fun _ _ _ _ _ _ us hl => match us, hl with | [_, _, _], _ => rfl
  have F3 := fun_mk (st := s_parting) l3 c3 k3
  have b3 := F3.binds (ps := ["way", "one", "other"]) fun _ _ _ _ _ _ us hl => match us, hl with | [_, _, _], _ => rfl
  have F4 := fun_mk (st := s_law_pen) l4 c4 k4
  have b4 := F4.binds (ps := ["_law_script"]) fun _ _ _ _ _ _ us hl => match us, hl with | [_], _ => rfl
  have F5 := fun_mk (st := s_law_draw) l5 c5 k5
  have b5 := F5.binds (ps := ["_law_pen_here", "_law_many"]) fun _ _ _ _ _ _ us hl => match us, hl with | [_, _], _ => rfl
  have F6 := fun_mk (st := s_law_pick) l6 c6 k6
  have b6 := F6.binds (ps := ["_law_pen_here", "_law_items"]) fun _ _ _ _ _ _ us hl => match us, hl with | [_, _], _ => rfl
  have F7 := fun_mk (st := s_law_way) l7 c7 k7
  have b7 := F7.binds (ps := ["_law_pen_here"]) fun _ _ _ _ _ _ us hl => match us, hl with | [_], _ => rfl
  have F8 := fun_mk (st := s_law_count) l8 c8 k8
  have b8 := F8.binds (ps := ["_law_unit", "_law_way_here", "_law_age"]) fun _ _ _ _ _ _ us hl => match us, hl with | [_, _, _], _ => rfl
  have F9 := fun_mk (st := s_law_first_unlike) l9 c9 k9
  have b9 := F9.binds (ps := ["_law_way_here", "_law_one", "_law_other"]) fun _ _ _ _ _ _ us hl => match us, hl with | [_, _, _], _ => rfl
  have F10 := fun_mk (st := s_law) l10 c10 k10
  have b10 := F10.binds (ps := ["_law_script"]) fun _ _ _ _ _ _ us hl => match us, hl with | [_], _ => rfl
  have o1 : ∀ base : Heap, FnOk l.prog w K mg base (L2.CX l.prog w) 1 f1 _ ["unit", "way", "age"] (spI (glb K) 3 p_count_of) := fun base => def_ok (T := T_count_of) (C := c_count_of) (n := 60) (body := b_count_of) (phi := p_count_of) (base0 rfl rfl rfl rfl blts_nil) F1 sc_count_of fns_nil (fun m hm => nomatch hm) rfl cv_count_of (by decide) fun ds sto h => fx_len (T := T_count_of) (np := 3) (n := 3) (body := b_count_of) h
  have g1 : ∀ base : Heap, Good l.prog w K mg base (glb K) 1 "count_of" p_count_of := fun base => def_good F1 (PySem.W.mg_of X G a1) b1 (o1 base) fun ds sto h => (fx_len (T := T_count_of) (np := 3) (n := 3) (body := b_count_of) h).1
  have o2 : ∀ base : Heap, FnOk l.prog w K mg base (L2.CX l.prog w) 2 f2 _ ["unit", "way", "count"] (spI (glb K) 3 p_first_of_count) := fun base => def_ok (T := T_first_of_count) (C := c_first_of_count) (n := 60) (body := b_first_of_count) (phi := p_first_of_count) (base0 rfl rfl rfl rfl blts_nil) F2 sc_first_of_count fns_nil (fun m hm => nomatch hm) rfl cv_first_of_count (by decide) fun ds sto h => fx_len (T := T_first_of_count) (np := 3) (n := 3) (body := b_first_of_count) h
  have g2 : ∀ base : Heap, Good l.prog w K mg base (glb K) 2 "first_of_count" p_first_of_count := fun base => def_good F2 (PySem.W.mg_of X G a2) b2 (o2 base) fun ds sto h => (fx_len (T := T_first_of_count) (np := 3) (n := 3) (body := b_first_of_count) h).1
  have o3 : ∀ base : Heap, FnOk l.prog w K mg base (L2.CX l.prog w) 3 f3 _ ["way", "one", "other"] (spI (glb K) 3 p_parting) := fun base => def_ok (T := T_parting) (C := c_parting) (n := 60) (body := b_parting) (phi := p_parting) (base0 rfl rfl rfl rfl (blts_cons (PySem.W.mg_none_of X G z_min) blts_nil)) F3 sc_parting (fns_cons (Good.mono (phi := p_count_of) (g1 base) (by decide)) (fns_cons (Good.mono (phi := p_first_of_count) (g2 base) (by decide)) fns_nil)) (fun m hm => nomatch hm) rfl cv_parting (by decide) fun ds sto h => fx_len (T := T_parting) (np := 3) (n := 5) (body := b_parting) h
  have g3 : ∀ base : Heap, Good l.prog w K mg base (glb K) 3 "parting" p_parting := fun base => def_good F3 (PySem.W.mg_of X G a3) b3 (o3 base) fun ds sto h => (fx_len (T := T_parting) (np := 3) (n := 5) (body := b_parting) h).1
  have o4 : ∀ base : Heap, FnOk l.prog w K mg base (L2.CX l.prog w) 4 f4 _ ["_law_script"] (spI (glb K) 1 p_pen) := fun base => def_ok (T := T0) (C := c_law_pen) (n := 60) (body := b_law_pen) (phi := p_pen) (base0 rfl rfl rfl rfl (blts_cons (PySem.W.mg_none_of X G z_list) blts_nil)) F4 sc_law_pen fns_nil (fun m hm => nomatch hm) rfl cv_law_pen (by decide) fun ds sto h => fx_len (T := T0) (np := 1) (n := 1) (body := b_law_pen) h
  have g4 : ∀ base : Heap, Good l.prog w K mg base (glb K) 4 "_law_pen" p_pen := fun base => def_good F4 (PySem.W.mg_of X G a4) b4 (o4 base) fun ds sto h => (fx_len (T := T0) (np := 1) (n := 1) (body := b_law_pen) h).1
  have o5 : ∀ base : Heap, FnOk l.prog w K mg base (L2.CX l.prog w) 5 f5 _ ["_law_pen_here", "_law_many"] (spI (glb K) 2 p_draw) := fun base => def_ok (T := T0) (C := c_law_draw) (n := 60) (body := b_law_draw) (phi := p_draw) (base0 rfl rfl rfl rfl (blts_cons (PySem.W.mg_none_of X G z_int) (blts_cons (PySem.W.mg_none_of X G z_len) blts_nil))) F5 sc_law_draw fns_nil (fun m hm => nomatch hm) rfl cv_law_draw (by decide) fun ds sto h => fx_len (T := T0) (np := 2) (n := 6) (body := b_law_draw) h
  have g5 : ∀ base : Heap, Good l.prog w K mg base (glb K) 5 "_law_draw" p_draw := fun base => def_good F5 (PySem.W.mg_of X G a5) b5 (o5 base) fun ds sto h => (fx_len (T := T0) (np := 2) (n := 6) (body := b_law_draw) h).1
  have o6 : ∀ base : Heap, FnOk l.prog w K mg base (L2.CX l.prog w) 6 f6 _ ["_law_pen_here", "_law_items"] (spI (glb K) 2 p_pick) := fun base => def_ok (T := T_pick) (C := c_law_pick) (n := 60) (body := b_law_pick) (phi := p_pick) (base0 rfl rfl rfl rfl (blts_cons (PySem.W.mg_none_of X G z_len) blts_nil)) F6 sc_law_pick (fns_cons (Good.mono (phi := p_draw) (g5 base) (by decide)) fns_nil) (fun m hm => nomatch hm) rfl cv_law_pick (by decide) fun ds sto h => fx_len (T := T_pick) (np := 2) (n := 2) (body := b_law_pick) h
  have g6 : ∀ base : Heap, Good l.prog w K mg base (glb K) 6 "_law_pick" p_pick := fun base => def_good F6 (PySem.W.mg_of X G a6) b6 (o6 base) fun ds sto h => (fx_len (T := T_pick) (np := 2) (n := 2) (body := b_law_pick) h).1
  have o7 : ∀ base : Heap, FnOk l.prog w K mg base (L2.CX l.prog w) 7 f7 _ ["_law_pen_here"] (spI (glb K) 1 p_way) := fun base => def_ok (T := T_way) (C := c_law_way) (n := 60) (body := b_law_way) (phi := p_way) (base0 rfl rfl rfl rfl blts_nil) F7 sc_law_way (fns_cons (Good.mono (phi := p_pick) (g6 base) (by decide)) fns_nil) (fun m hm => nomatch hm) rfl cv_law_way (by decide) fun ds sto h => fx_len (T := T_way) (np := 1) (n := 1) (body := b_law_way) h
  have g7 : ∀ base : Heap, Good l.prog w K mg base (glb K) 7 "_law_way" p_way := fun base => def_good F7 (PySem.W.mg_of X G a7) b7 (o7 base) fun ds sto h => (fx_len (T := T_way) (np := 1) (n := 1) (body := b_law_way) h).1
  have o8 : ∀ base : Heap, FnOk l.prog w K mg base (L2.CX l.prog w) 8 f8 _ ["_law_unit", "_law_way_here", "_law_age"] (spI (glb K) 3 p_law_count) := fun base => def_ok (T := T_law_count) (C := c_law_count) (n := 60) (body := b_law_count) (phi := p_law_count) (base0 rfl rfl rfl rfl blts_nil) F8 sc_law_count fns_nil (fun m hm => nomatch hm) rfl cv_law_count (by decide) fun ds sto h => fx_len (T := T_law_count) (np := 3) (n := 3) (body := b_law_count) h
  have g8 : ∀ base : Heap, Good l.prog w K mg base (glb K) 8 "_law_count" p_law_count := fun base => def_good F8 (PySem.W.mg_of X G a8) b8 (o8 base) fun ds sto h => (fx_len (T := T_law_count) (np := 3) (n := 3) (body := b_law_count) h).1
  have o9 : ∀ base : Heap, FnOk l.prog w K mg base (L2.CX l.prog w) 9 f9 _ ["_law_way_here", "_law_one", "_law_other"] (spI (glb K) 3 p_law_first_unlike) := fun base => def_ok (T := T_law_first_unlike) (C := c_law_first_unlike) (n := 60) (body := b_law_first_unlike) (phi := p_law_first_unlike) (base0 rfl rfl rfl rfl (blts_cons (PySem.W.mg_none_of X G z_min) (blts_cons (PySem.W.mg_none_of X G z_range) blts_nil))) F9 sc_law_first_unlike (fns_cons (Good.mono (phi := p_law_count) (g8 base) (by decide)) fns_nil) (fun m hm => nomatch hm) rfl cv_law_first_unlike (by decide) fun ds sto h => fx_len (T := T_law_first_unlike) (np := 3) (n := 4) (body := b_law_first_unlike) h
  have g9 : ∀ base : Heap, Good l.prog w K mg base (glb K) 9 "_law_first_unlike" p_law_first_unlike := fun base => def_good F9 (PySem.W.mg_of X G a9) b9 (o9 base) fun ds sto h => (fx_len (T := T_law_first_unlike) (np := 3) (n := 4) (body := b_law_first_unlike) h).1
  have o10 : ∀ base : Heap, FnOk l.prog w K mg base (L2.CX l.prog w) 10 fa _ ["_law_script"] (spI (glb K) 1 p_law) := fun base => def_ok (T := T_law) (C := c_law) (n := 60) (body := b_law) (phi := p_law) (base0 rfl rfl rfl rfl (blts_cons (PySem.W.mg_none_of X G z_len) (blts_cons (PySem.W.mg_none_of X G z_min) (blts_cons (PySem.W.mg_none_of X G z_range) blts_nil)))) F10 sc_law (fns_cons (Good.mono (phi := p_law_count) (g8 base) (by decide)) (fns_cons (Good.mono (phi := p_draw) (g5 base) (by decide)) (fns_cons (Good.mono (phi := p_law_first_unlike) (g9 base) (by decide)) (fns_cons (Good.mono (phi := p_pen) (g4 base) (by decide)) (fns_cons (Good.mono (phi := p_pick) (g6 base) (by decide)) (fns_cons (Good.mono (phi := p_way) (g7 base) (by decide)) (fns_cons (Good.mono (phi := p_parting) (g3 base) (by decide)) fns_nil))))))) (fun m hm => nomatch hm) rfl cv_law (by decide) fun ds sto h => fx_len (T := T_law) (np := 1) (n := 11) (body := b_law) h
  exact ⟨_, fun s v => .of_eq rfl, fun base _ _ => law_sp (o10 base) rfl keeps⟩
end Ag

open PySem PySem.W PyProof.Rows in
set_option maxRecDepth 100000 in
set_option maxHeartbeats 0 in
theorem PySem.Challenge.cw_agewords_k47_whole_units_that_part_holds : PySem.Challenge.rw_agewords_k47_whole_units_that_part.Holds := by
  w_on; o_law; k_head; (case hw => w_witness2)
  k_fill
  refine Ag.law_walk (k := 10) (l := PySem.Challenge.rw_agewords_k47_whole_units_that_part) rfl rfl ⟨rfl, by decide, by decide⟩ (fun w h Y => PySem.W.kIn_of Y) ?F
  case F =>
    intro w mg fa h KX G hmg
    refine' Ag.all_mk KX G hmg ?a1 ?l1 ?c1 ?k1 ?a2 ?l2 ?c2 ?k2 ?a3 ?l3 ?c3 ?k3 ?a4 ?l4 ?c4 ?k4 ?a5 ?l5 ?c5 ?k5 ?a6 ?l6 ?c6 ?k6 ?a7 ?l7 ?c7 ?k7 ?a8 ?l8 ?c8 ?k8 ?a9 ?l9 ?c9 ?k9 ?a10 ?l10 ?c10 ?k10 ?z_int ?z_len ?z_list ?z_min ?z_range
    (case a1 => k_is)
    (case l1 => k_is)
    (case c1 => k_is)
    (case k1 => k_is)
    (case a2 => k_is)
    (case l2 => k_is)
    (case c2 => k_is)
    (case k2 => k_is)
    (case a3 => k_is)
    (case l3 => k_is)
    (case c3 => k_is)
    (case k3 => k_is)
    (case a4 => k_is)
    (case l4 => k_is)
    (case c4 => k_is)
    (case k4 => k_is)
    (case a5 => k_is)
    (case l5 => k_is)
    (case c5 => k_is)
    (case k5 => k_is)
    (case a6 => k_is)
    (case l6 => k_is)
    (case c6 => k_is)
    (case k6 => k_is)
    (case a7 => k_is)
    (case l7 => k_is)
    (case c7 => k_is)
    (case k7 => k_is)
    (case a8 => k_is)
    (case l8 => k_is)
    (case c8 => k_is)
    (case k8 => k_is)
    (case a9 => k_is)
    (case l9 => k_is)
    (case c9 => k_is)
    (case k9 => k_is)
    (case a10 => k_is)
    (case l10 => k_is)
    (case c10 => k_is)
    (case k10 => k_is)
    (case z_int => k_is)
    (case z_len => k_is)
    (case z_list => k_is)
    (case z_min => k_is)
    (case z_range => k_is)
