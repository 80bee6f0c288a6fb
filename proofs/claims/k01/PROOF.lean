import PyProof.Rows.All
import Wide.All
import OpenK.AllK
import Wide.FinOn
import HandS.ForMost
import HandS.Wide
import HandS.Exc
import HandS.ExcOwn
import HandS.TryOnly
import HandS.HotCalls
import HandS.IsInst
import HandS.Deep
import HandS.TupAny
import HandS.TupMul
import HandS.TupLe
import HandS.Lambda
import HandS.SortInts
import HandS.Strs
import HandS.Text
import PyProof.CollectStr
import PyProof.Rows.IntBool
import HandS.Style
import HandS.RaiseMore
import PyProof.StrBlock
import HandS.Flow
import HandS.ExcIs
import HandS.ExcInit
import HandS.Zip
import KE.KExcInit
import HandS.HeadHook4
import HandS.HeadWalk
import HandS.CallRecv
import HandS.Head2
import HandS.Head0
import HandS.Head1
import HandS.HeadEnd
import PyProof.StrBlockL
import PyProof.StrLawsChain
import PyProof.FitsInt
import PyProof.Rows.ReprOcc
import PySem.Challenge.RW_wagonlengths_k01_stands_facts_and_script
set_option Elab.async false
set_option linter.all false
set_option maxRecDepth 1000000
set_option maxHeartbeats 0
namespace Zt
open PySem
abbrev D := PyData
/-- a value: plain data, or a changeable thing by its place in the memory -/
inductive Z where
  | d (x : D)
  | r (n : Nat)
inductive MO where
  | lst (xs : List D)
  | frz (xs : List D)
  | dic (kvs : List (D × D))
  | ins (c : Nat) (fs : List (Str × Z))
abbrev Mem := List MO
structure Exn where
  c : Nat
  fs : List (Str × D)
inductive BOp where
  | add | sub | mul | fdiv | mod | pow
  deriving DecidableEq
inductive COp where
  | eq | ne | lt | le | gt | ge | inn | nin | is | isn
  deriving DecidableEq
inductive Bi where
  | len | tuple | list | sum | max | min | abs | int | str | bool | sorted | chars | sortedC
  deriving DecidableEq
inductive Mt where
  | lower | upper | swapcase | split | join | count | index | append | pop
  deriving DecidableEq
inductive Ty where
  | int | str | bool | tuple | list
  deriving DecidableEq
/-- a target: a name, names of a pair .. -/
inductive Tg where
  | nm (i : Nat)
  | tp (is : List Nat)
  deriving DecidableEq
def Tg.many : Tg → Bool
  | .nm _ => false
  | .tp _ => true
mutual
inductive E where
  | v (i : Nat)
  | g (i : Nat)
  | kn
  | kb (b : Bool)
  | ki (i : Int)
  | ks (s : Str)
  | neg (a : E)
  | never
  | bin (op : BOp) (a b : E)
  | madd (a b : E)
  | cmp (op : COp) (a b : E)
  | chain (o1 o2 : COp) (a b c : E)
  | and (es : Es)
  | or (es : Es)
  | not (a : E)
  | ite (c : T) (a b : E)
  | tup (es : Es)
  | lst (es : Es)
  | mls (es : Es)
  | call (f : Nat) (es : Es)
  | bi (b : Bi) (es : Es)
  | isi (a : E) (t : Ty)
  | isx (i : Nat) (c : Nat)
  | isv (i : Nat)
  | mth (m : Mt) (o : E) (es : Es)
  | sub (o i : E)
  | slc (o : E) (lo hi : Eo)
  | rev (o : E)
  | lc (elt : E) (tg : Tg) (it : Iz) (cond : To) (own : List Nat)
  | xat (i : Nat) (f : Str)
  | clo (i : Nat) (es : Es)
  | callL (f : Nat) (es : Es) (ps : List Nat) (body : E)
  | callW (f i : Nat) (es : Es)
  | callX (f i : Nat)
  | sln (i : Nat)
  | six (i : Nat) (e : E)
inductive Es where
  | nil
  | cons (e : E) (r : Es)
inductive T where
  | and (ts : Ts)
  | or (ts : Ts)
  | not (t : T)
  | cmp (op : COp) (a b : E)
  | chain (o1 o2 : COp) (a b c : E)
  | e (x : E)
inductive Ts where
  | nil
  | cons (t : T) (r : Ts)
inductive To where
  | no
  | so (t : T)
inductive Eo where
  | no
  | so (e : E)
inductive Iz where
  | it (e : E)
  | rng1 (e : E)
  | rng2 (a b : E)
  | zip (a b : E)
  | enum (a : E)
end
mutual
inductive S where
  | asg (t : Tg) (e : E)
  | never
  | par (is : List Nat) (es : Es)
  | setI (o i e : E)
  | parN (is : List Nat) (es : Es)
  | ex (e : E)
  | ret (e : E)
  | ifs (c : T) (a b : Ss)
  | for (t : Tg) (it : Iz) (body : Ss)
  | forR (t : Tg) (e : E) (body : Ss)
  | asgL (i : Nat) (e : E)
  | while (c : T) (body : Ss)
  | raise (c : Nat)
  | raiseI (c : Nat) (f : Str) (e : E)
  | try (body : Ss) (c : Nat) (nm : Option Nat) (suite : Ss)
  | pass
inductive Ss where
  | nil
  | cons (s : S) (r : Ss)
end
inductive Sl where
  | no
  | z (v : Z)
  | clo (ps : List Nat) (body : E) (cap : List (Option Z))
  | exc (e : Exn)
  | scr (ns : List Int)
abbrev Env := List Sl
inductive R (α : Type) where
  | ok (a : α) (M : Mem)
  | ex (e : Exn) (M : Mem)
  | bad
def R.bind {α β : Type} (x : R α) (f : α → Mem → R β) : R β := match x with
  | .ok a M => f a M
  | .ex e M => .ex e M
  | .bad => .bad
def R.of {α : Type} (o : Option α) (M : Mem) : R α := match o with
  | some a => .ok a M
  | none => .bad
inductive O where
  | nx (ρ : Env) (M : Mem)
  | rt (z : Z) (M : Mem)
  | ex (e : Exn) (ρ : Env) (M : Mem)
  | bad
def O.bind (x : O) (f : Env → Mem → O) : O := match x with
  | .nx ρ M => f ρ M
  | .rt z M => .rt z M
  | .ex e ρ M => .ex e ρ M
  | .bad => .bad
/-- an error's name is known in its clause alone -/
def dropx (ρ : Env) : Env := ρ.map fun s => match s with
  | .exc _ => .no
  | s => s
/-- an except suite's end: no error leaves; the name goes -/
def O.noex (x : O) (nm : Option Nat) : O := match x with
  | .nx ρ M => .nx (match nm with
    | some i => (dropx ρ).set i .no
    | none => dropx ρ) M
  | .rt z M => .rt z M
  | .ex _ _ _ => .bad
  | .bad => .bad
/-- an expression's end, for a statement -/
def R.st {α : Type} (x : R α) (ρ : Env) (f : α → Mem → O) : O := match x with
  | .ok a M => f a M
  | .ex e M => .ex e ρ M
  | .bad => .bad
/-- what the evaluator leans on: calls one level deeper; turns of a while; the classes -/
structure Cfg where
  hot : Bool
  lv : Nat
  wf : Nat
  sub : Nat → Nat → Bool
  gv : List D
  fn : Bool → Nat → List Z → Mem → R Z
  fnW : Bool → Nat → Sl → List Z → Mem → R Z
  clo : List Nat → E → List (Option Z) → List Z → Mem → R Z
  fnL : Nat → List Z → List Nat → E → List (Option Z) → Mem → R Z
/-- while an error is handled -/
def Cfg.heat (C : Cfg) : Cfg := { C with hot := true }
/-- these walk, so they want a calm place -/
def Bi.walks : Bi → Bool
  | .sum | .max | .min | .chars | .sortedC => true
  | _ => false
def slen : Nat := 1000000
/-- data that == can compare within the line -/
abbrev okD (d : D) : Bool := SeqAt.shaped d
def bop : BOp → D → D → Option D
  | .add, .bool b, .int j => some (.int ((if b = true then 1 else 0) + j))
  | .add, .int i, .int j => some (.int (i + j))
  | .add, .str x, .str y => if x.length + y.length ≤ slen then some (.str (x ++ y)) else none
  | .add, .list x, .list y => if x.length + y.length ≤ slen then some (.list (x ++ y)) else none
  | .add, .tuple x, .tuple y => if x.length + y.length ≤ slen then some (.tuple (x ++ y)) else none
  | .sub, .bool b, .int j => some (.int ((if b = true then 1 else 0) - j))
  | .sub, .int i, .int j => some (.int (i - j))
  | .mul, .int i, .bool b => some (.int (i * (if b = true then 1 else 0)))
  | .mul, .int i, .int j => if i.natAbs.log2 + j.natAbs.log2 < 100000000 then some (.int (i * j)) else none
  | .mul, .str x, .int j => if 2 ≤ j ∧ j ≤ 1000 ∧ x.length ≤ 100 then some (.str (Txt.mul x j)) else none
  | .mul, .list x, .int j => if 0 ≤ j ∧ j ≤ slen ∧ x.length * j.toNat ≤ slen then some (.list (List.replicate j.toNat x).flatten) else none
  | .mul, .tuple x, .int j => if x.isEmpty = false ∧ 2 ≤ j ∧ j ≤ 1000 ∧ x.length ≤ 1000 then some (.tuple (List.replicate j.toNat x).flatten) else none
  | .fdiv, .int i, .int j => if 0 < j ∧ j.natAbs.log2 < 9000 then some (.int (i / j)) else none
  | .mod, .int i, .int j => if 0 < j then some (.int (i % j)) else none
  | .pow, .int i, .int j => if 0 ≤ j ∧ j ≤ 1000000 ∧ i.natAbs < 2 ^ 64 then some (.int (i ^ j.toNat)) else none
  | _, _, _ => none
def flatD : D → Bool
  | .none | .bool _ | .int _ | .str _ => true
  | _ => false
/-- x in xs -/
def inD (x : D) (xs : List D) : Bool := xs.any fun y => PyData.eqv y x
def strLt (x y : Str) : Bool := decide (x.cps.toList < y.cps.toList)
def cop : COp → D → D → Option Bool
  | .eq, a, b => if okD a && okD b then some (PyData.eqv a b) else none
  | .ne, a, b => if okD a && okD b then some (!PyData.eqv a b) else none
  | .lt, .int i, .int j => some (decide (i < j))
  | .le, .int i, .int j => some (decide (i ≤ j))
  | .gt, .int i, .int j => some (decide (j < i))
  | .ge, .int i, .int j => some (decide (j ≤ i))
  | .lt, .str x, .str y => some (strLt x y)
  | .gt, .str x, .str y => some (strLt y x)
  | .inn, x, .list ys => if flatD x && ys.all flatD then some (inD x ys) else if okD x && okD (.list ys) then some (inD x ys) else none
  | .nin, x, .list ys => if flatD x && ys.all flatD then some (!inD x ys) else if okD x && okD (.list ys) then some (!inD x ys) else none
  | .inn, x, .tuple ys => if flatD x && ys.all flatD then some (inD x ys) else none
  | .nin, x, .tuple ys => if flatD x && ys.all flatD then some (!inD x ys) else none
  | .inn, .str x, .str y => some (Txt.contains y x)
  | .nin, .str x, .str y => some (!Txt.contains y x)
  | .is, .bool a, .bool b => some (decide (a = b))
  | .is, .none, .none => some true
  | .is, .none, _ => none
  | .is, _, .none => some false
  | .isn, .none, .none => some false
  | .isn, .none, _ => none
  | .isn, _, .none => some true
  | _, _, _ => none
def truth : D → Option Bool
  | .none => some false
  | .bool b => some b
  | .int i => some (i != 0)
  | .str x => if x.length ≤ slen then some (x.length != 0) else none
  | .list x => some (!x.isEmpty)
  | .tuple x => some (!x.isEmpty)
  | .dict _ => none
def itemD : D → Int → Option D
  | .list xs, i => L2.atI xs i
  | .tuple xs, i => L2.atI xs i
  | .str x, i => if x.length ≤ slen then (L2.atI x.cps.toList i).map fun c => .str ⟨#[c]⟩ else none
  | _, _ => none
def cut {α : Type} (xs : List α) (lo hi : Option Int) : List α :=
  (xs.drop (HT.sIx xs.length 0 lo)).take (HT.sIx xs.length xs.length hi - HT.sIx xs.length 0 lo)
def slcD : D → Option Int → Option Int → Option D
  | .list xs, lo, hi => some (.list (cut xs lo hi))
  | .tuple xs, lo, hi => some (.tuple (cut xs lo hi))
  | .str x, lo, hi => if x.length ≤ slen then some (.str (L2.cutS x lo hi)) else none
  | _, _, _ => none
def revD : D → Option D
  | .list xs => some (.list xs.reverse)
  | .tuple xs => some (.tuple xs.reverse)
  | .str x => if x.length ≤ slen then some (.str ⟨x.cps.toList.reverse.toArray⟩) else none
  | _ => none
def intsOf : List D → Option (List Int)
  | [] => some []
  | .int i :: r => (intsOf r).map (i :: ·)
  | _ :: _ => none
def strsOf : List D → Option (List Str)
  | [] => some []
  | .str i :: r => (strsOf r).map (i :: ·)
  | _ :: _ => none
def insI (x : Int) : List Int → List Int
  | [] => [x]
  | y :: r => if x ≤ y then x :: y :: r else y :: insI x r
def sortI (l : List Int) : List Int := l.foldr insI []
def insS (x : Str) : List Str → List Str
  | [] => [x]
  | y :: r => if strLt y x then y :: insS x r else x :: y :: r
def sortS (l : List Str) : List Str := l.foldr insS []
def seqOf : D → Option (List D)
  | .list xs => some xs
  | .tuple xs => some xs
  | _ => none
def signsOf (x : Str) : List D := x.cps.toList.map fun c => .str ⟨#[c]⟩
def tyOk : D → Ty → Bool
  | .bool _, .bool => true
  | .bool _, .int => true
  | .int _, .int => true
  | .str _, .str => true
  | .tuple _, .tuple => true
  | .list _, .list => true
  | _, _ => false
def tyKnown : D → Bool
  | .dict _ => false
  | _ => true
def maxI : List Int → Option Int
  | [] => none
  | x :: r => some (r.foldl max x)
def minI : List Int → Option Int
  | [] => none
  | x :: r => some (r.foldl min x)
def bid : Bi → List D → Option D
  | .len, [.list xs] => some (.int xs.length)
  | .len, [.tuple xs] => some (.int xs.length)
  | .len, [.str x] => if x.length ≤ slen then some (.int x.length) else none
  | .tuple, [.list xs] => some (.tuple xs)
  | .tuple, [.tuple xs] => some (.tuple xs)
  | .list, [.list xs] => some (.list xs)
  | .list, [.tuple xs] => some (.list xs)
  | .sum, [.list xs] => (intsOf xs).map fun ns => .int ns.sum
  | .max, [.list xs] => ((intsOf xs).bind maxI).map .int
  | .min, [.list xs] => ((intsOf xs).bind minI).map .int
  | .max, [.int i, .int j] => some (.int (if j > i then j else i))
  | .min, [.int i, .int j] => some (.int (if j < i then j else i))
  | .abs, [.int i] => some (.int (if i < 0 then -i else i))
  | .int, [.int i] => some (.int i)
  | .int, [.bool b] => some (.int (if b then 1 else 0))
  | .int, [.str x] => if x.length ≤ 640 then (intText? x).map .int else none
  | .str, [.int i] => if i.natAbs.log2 < 1920 then some (.str (toString i)) else none
  | .str, [.str x] => some (.str x)
  | .str, [.bool b] => some (.str (if b then "True" else "False"))
  | .bool, [.bool b] => some (.bool b)
  | .bool, [.int i] => some (.bool (i != 0))
  | .sorted, [.list xs] => match intsOf xs with
    | some ns => some (.list ((sortI ns).map .int))
    | none => match strsOf xs with
      | some ss => if ss.length < 64 then some (.list ((sortS ss).map .str)) else none
      | none => none
  | .chars, [.str x] => if x.length ≤ slen then some (.list (signsOf x)) else none
  | .sortedC, [.str x] => if x.length < 64 then some (.list ((sortS (x.cps.toList.map fun c => (⟨#[c]⟩ : Str))).map .str)) else none
  | _, _ => none
def mtd : Mt → D → List D → Option D
  | .lower, .str x, [] => if x.length ≤ slen then some (.str (Txt.lower x)) else none
  | .upper, .str x, [] => if x.length ≤ slen then some (.str (Txt.upper x)) else none
  | .swapcase, .str x, [] => if x.length ≤ slen then some (.str (Txt.swapcase x)) else none
  | .split, .str x, [.str y] => if (y.length == 0) = false ∧ x.length ≤ slen then some (.list ((Txt.split x y).map .str)) else none
  | .join, .str x, [.list ys] => (strsOf ys).bind fun ss => if (ss.map (·.length)).sum + ss.length * x.length ≤ slen then some (.str (Txt.join x ss)) else none
  | .count, .str x, [.str y] => some (.int (Txt.count x y))
  | .index, .tuple ys, [x] => if flatD x && ys.all flatD then (ys.findIdx? fun y => PyData.eqv y x).map fun j => .int j else none
  | _, _, _ => none
def getL (M : Mem) (n : Nat) : Option (List D) := match M[n]? with
  | some (.lst xs) => some xs
  | _ => none
def slZ : Sl → Option Z
  | .z v => some v
  | _ => none
def getZ (ρ : Env) (i : Nat) : Option Z := (ρ[i]?).bind slZ
def wipeE (ρ : Env) : List Nat → Env
  | [] => ρ
  | v :: vs => (wipeE ρ vs).set v .no
def setAll : Env → List Nat → List D → Option Env
  | ρ, [], [] => some ρ
  | ρ, i :: is, d :: ds => setAll (ρ.set i (.z (.d d))) is ds
  | _, _, _ => none
def setZ : Env → List Nat → List Z → Env
  | ρ, i :: is, z :: zs => setZ (ρ.set i (.z z)) is zs
  | ρ, _, _ => ρ
def bindT : Tg → Env → Z → Option Env
  | .nm i, ρ, z => some (ρ.set i (.z z))
  | .tp is, ρ, .d (.tuple ds) => if ds.length = is.length then setAll ρ is ds else none
  | _, _, _ => none
def dOf : Z → Option D
  | .d x => some x
  | .r _ => none
def dsOf : List Z → Option (List D)
  | [] => some []
  | .d x :: r => (dsOf r).map (x :: ·)
  | .r _ :: _ => none
def truthZ : Z → Mem → Option Bool
  | .d x, _ => truth x
  | .r n, M => match M[n]? with
    | some (.lst xs) => some (!xs.isEmpty)
    | _ => none
def itemsOf : Z → Option (List Z)
  | .d (.list xs) => some (xs.map .d)
  | .d (.tuple xs) => some (xs.map .d)
  | .d (.str x) => some ((signsOf x).map .d)
  | _ => none
/-- while an error is handled: no strings -/
def itH (h : Bool) (x : Z) : Option (List Z) := match h, x with
  | true, .d (.str _) => none
  | _, x => itemsOf x
def rngZ (lo hi : Int) : List Z := (List.range (hi - lo).toNat).map fun (k : Nat) => Z.d (.int (lo + (k : Int)))
def zipZ (xs ys : List D) : List Z := (xs.zip ys).map fun p => .d (.tuple [p.1, p.2])
def enumZ (k : Nat) : List D → List Z
  | [] => []
  | x :: r => .d (.tuple [.int k, x]) :: enumZ (k + 1) r
def capOf (ρ : Env) : List (Option Z) := ρ.map slZ
def lcL (cond : Env → Mem → R Bool) (elt : Env → Mem → R Z) (tg : Tg) (ρ : Env) : List Z → Mem → R (List D)
  | [], M => .ok [] M
  | z :: zs, M => match bindT tg ρ z with
    | none => .bad
    | some ρ1 => (cond ρ1 M).bind fun b M1 =>
      if b then (elt ρ1 M1).bind fun y M2 => match y with
        | .d d => (lcL cond elt tg ρ zs M2).bind fun ds M3 => .ok (d :: ds) M3
        | .r _ => .bad
      else lcL cond elt tg ρ zs M1
def forL (body : Env → Mem → O) (tg : Tg) : List Z → Env → Mem → O
  | [], ρ, M => .nx ρ M
  | z :: zs, ρ, M => match bindT tg ρ z with
    | none => .bad
    | some ρ1 => (body ρ1 M).bind fun ρ2 M2 => forL body tg zs ρ2 M2
/-- the items of a changeable list, as it stands at each turn -/
def forRL (body : Env → Mem → O) (t : Tg) (n : Nat) : Nat → Nat → Env → Mem → O
  | 0, _, _, _ => .bad
  | k + 1, i, ρ, M => match getL M n with
    | some ds => match ds[i]? with
      | some d => match bindT t ρ (.d d) with
        | some ρ1 => (body ρ1 M).bind fun ρ2 M2 => forRL body t n k (i + 1) ρ2 M2
        | none => .bad
      | none => .nx ρ M
    | none => .bad
def whL (c : Env → Mem → R Bool) (body : Env → Mem → O) : Nat → Env → Mem → O
  | 0, _, _ => .bad
  | n + 1, ρ, M => (c ρ M).st ρ fun b M1 => if b then (body ρ M1).bind fun ρ2 M2 => whL c body n ρ2 M2 else .nx ρ M1
/-- no exception leaves here -/
def R.calm {α : Type} (x : R α) : R α := match x with
  | .ex _ _ => .bad
  | y => y
/-- a list's items, changeable or not -/
def lsZ (M : Mem) : Z → Option (List D)
  | .d (.list xs) => some xs
  | .d _ => none
  | .r n => getL M n
def opz (op : BOp) (x y : Z) (M : Mem) : R Z := match x, y with
  | .d a, .d b => R.of ((bop op a b).map .d) M
  | x, y => if op = .add then match lsZ M x, lsZ M y with
      | some xs, some ys => if xs.length + ys.length ≤ slen then .ok (.d (.list (xs ++ ys))) M else .bad
      | _, _ => .bad
    else .bad
/-- .. whose sum is changeable -/
def adz (x y : Z) (M : Mem) : R Z := match lsZ M x, lsZ M y with
  | some xs, some ys => if xs.length + ys.length ≤ slen then .ok (.r M.length) (M ++ [.lst (xs ++ ys)]) else .bad
  | _, _ => .bad
def cpz (op : COp) (x y : Z) (M : Mem) : R Bool := match x, y with
  | .d a, .d b => R.of (cop op a b) M
  | _, _ => .bad
def biz (b : Bi) (zs : List Z) (M : Mem) : R Z := match zs with
  | [.r n] => match b, M[n]? with
    | .len, some (.lst xs) => .ok (.d (.int xs.length)) M
    | .len, some (.frz xs) => .ok (.d (.int xs.length)) M
    | .list, some (.lst xs) => .ok (.d (.list xs)) M
    | .tuple, some (.lst xs) => .ok (.d (.tuple xs)) M
    | .sorted, some (.lst xs) => R.of ((bid .sorted [.list xs]).map .d) M
    | _, _ => .bad
  | zs => R.of (((dsOf zs).bind (bid b)).map .d) M
def isz (t : Ty) (x : Z) (M : Mem) : R Z := match x with
  | .d d => if tyKnown d then .ok (.d (.bool (tyOk d t))) M else .bad
  | .r n => match M[n]? with
    | some (.lst _) => .ok (.d (.bool (decide (t = .list)))) M
    | _ => .bad
/-- what has such a method -/
def rcv (m : Mt) (x : Z) (M : Mem) : Bool := match m, x with
  | .append, .r n => match M[n]? with
    | some (.lst _) => true
    | _ => false
  | .lower, .d (.str _) | .upper, .d (.str _) | .swapcase, .d (.str _) | .split, .d (.str _) | .join, .d (.str _) | .count, .d (.str _) => true
  | _, _ => false
def mtz (m : Mt) (x : Z) (zs : List Z) (M : Mem) : R Z := match x with
  | .d d => match m, zs with
    | .join, [.r n] => R.of (((getL M n).bind fun xs => mtd .join d [.list xs]).map .d) M
    | _, _ => R.of (((dsOf zs).bind (mtd m d)).map .d) M
  | .r n => match m, zs with
    | .append, [.d y] => match getL M n with
      | some l => if l.length < slen then .ok (.d .none) (M.set n (.lst (l ++ [y]))) else .bad
      | none => .bad
    | _, _ => .bad
def subz (x y : Z) (M : Mem) : R Z := match x, y with
  | .d d, .d (.int j) => R.of ((itemD d j).map .d) M
  | .r n, .d (.int j) => match M[n]? with
    | some (.lst xs) => R.of ((itemD (.list xs) j).map .d) M
    | some (.frz xs) => R.of ((itemD (.list xs) j).map .d) M
    | _ => .bad
  | _, _ => .bad
def slz (x : Z) (a b : Option Int) (M : Mem) : R Z := match x with
  | .d d => R.of ((slcD d a b).map .d) M
  | .r _ => .bad
def boolZ (b : Bool) : Z := .d (.bool b)
def asB (z : Z) (M : Mem) : R Bool := match z with
  | .d (.bool b) => .ok b M
  | _ => .bad
def bindArgs0 (ps : List Nat) (ρ : Env) (zs : List Z) : Option Env := match ps, zs with
  | [], [] => some ρ
  | i :: is, z :: r => bindArgs0 is (ρ.set i (.z z)) r
  | _, _ => none
def ofCap (cap : List (Option Z)) : Env := cap.map fun o => match o with
  | some z => .z z
  | none => .no
mutual
def evE (C : Cfg) : E → Env → Mem → R Z
  | .v i, ρ, M => R.of (getZ ρ i) M
  | .g i, _, M => R.of ((C.gv[i]?).map .d) M
  | .kn, _, M => .ok (.d .none) M
  | .kb b, _, M => .ok (.d (.bool b)) M
  | .ki i, _, M => .ok (.d (.int i)) M
  | .ks s, _, M => .ok (.d (.str s)) M
  | .neg a, ρ, M => (evE C a ρ M).bind fun x M1 => match x with
    | .d (.int i) => .ok (.d (.int (-i))) M1
    | _ => .bad
  | .bin op a b, ρ, M => (evE C a ρ M).bind fun x M1 => (evE C b ρ M1).bind fun y M2 => opz op x y M2
  | .never, _, _ => .bad
  | .madd a b, ρ, M => (evE C a ρ M).bind fun x M1 => (evE C b ρ M1).bind fun y M2 => adz x y M2
  | .cmp op a b, ρ, M => (evE C a ρ M).bind fun x M1 => (evE C b ρ M1).bind fun y M2 => (cpz op x y M2).bind fun k M3 => .ok (boolZ k) M3
  | .chain o1 o2 a b c, ρ, M => (evE C a ρ M).bind fun x M1 => (evE C b ρ M1).bind fun y M2 => (cpz o1 x y M2).bind fun k M3 =>
      if k then (evE C c ρ M3).bind fun z M4 => (cpz o2 y z M4).bind fun k2 M5 => .ok (boolZ k2) M5 else .ok (boolZ false) M3
  | .and es, ρ, M => evAnd C es ρ M
  | .or es, ρ, M => evOr C es ρ M
  | .not a, ρ, M => (evE C a ρ M).bind fun x M1 => R.of ((truthZ x M1).map fun b => boolZ (!b)) M1
  | .ite c a b, ρ, M => (evT C c ρ M).bind fun k M1 => if k then evE C a ρ M1 else evE C b ρ M1
  | .tup es, ρ, M => (evEs C es ρ M).bind fun zs M1 => R.of ((dsOf zs).map fun ds => .d (.tuple ds)) M1
  | .lst es, ρ, M => (evEs C es ρ M).bind fun zs M1 => R.of ((dsOf zs).map fun ds => .d (.list ds)) M1
  | .mls es, ρ, M => (evEs C es ρ M).bind fun zs M1 => match dsOf zs with
    | some ds => .ok (.r M1.length) (M1 ++ [.lst ds])
    | none => .bad
  | .call f es, ρ, M => (evEs C es ρ M).bind fun zs M1 => C.fn C.hot f zs M1
  | .bi b es, ρ, M => if C.hot && b.walks then .bad else (evEs C es ρ M).bind fun zs M1 => biz b zs M1
  | .isi a t, ρ, M => (evE C a ρ M).bind fun x M1 => isz t x M1
  | .isx i c, ρ, M => match ρ[i]? with
    | some (.exc e) => if e.fs.isEmpty then .ok (boolZ (C.sub e.c c)) M else .bad
    | _ => .bad
  | .isv i, ρ, M => match ρ[i]? with
    | some (.exc e) => if e.fs.isEmpty then .ok (boolZ (C.sub e.c 1000)) M else .bad
    | _ => .bad
  | .mth m o es, ρ, M => (evE C o ρ M).bind fun x M1 => if rcv m x M1 then (evEs C es ρ M1).bind fun zs M2 => mtz m x zs M2 else .bad
  | .sub o i, ρ, M => (evE C o ρ M).bind fun x M1 => (evE C i ρ M1).bind fun y M2 => subz x y M2
  | .slc o lo hi, ρ, M => (evE C o ρ M).bind fun x M1 => (evO C lo ρ M1).bind fun a M2 => (evO C hi ρ M2).bind fun b M3 => slz x a b M3
  | .rev o, ρ, M => (evE C o ρ M).bind fun x M1 => match x with
    | .d d => R.of ((revD d).map .d) M1
    | .r _ => .bad
  | .lc elt tg it cond own, ρ, M => (evI C it ρ M).bind fun zs M1 => if zs.length ≤ slen then
      ((lcL (fun ρ' M' => evC C cond ρ' M') (fun ρ' M' => evE C elt ρ' M') tg (wipeE ρ own) zs M1).calm).bind fun ds M2 => .ok (.d (.list ds)) M2 else .bad
  | .xat i f, ρ, M => match ρ[i]? with
    | some (.exc e) => R.of ((e.fs.lookup f).map .d) M
    | _ => .bad
  | .clo i es, ρ, M => if C.hot then .bad else match ρ[i]? with
    | some (.clo ps body cap) => (evEs C es ρ M).bind fun zs M1 => C.clo ps body cap zs M1
    | _ => .bad
  | .callW f i es, ρ, M => match ρ[i]? with
    | some (.scr ns) => (evEs C es ρ M).bind fun zs M1 => C.fnW C.hot f (.scr ns) zs M1
    | _ => .bad
  | .callX f i, ρ, M => match ρ[i]? with
    | some (.exc e) => if C.hot then C.fnW true f (.exc e) [] M else .bad
    | _ => .bad
  | .sln i, ρ, M => match ρ[i]? with
    | some (.scr ns) => .ok (.d (.int ns.length)) M
    | _ => .bad
  | .six i e, ρ, M => match ρ[i]? with
    | some (.scr ns) => (evE C e ρ M).bind fun y M1 => match y with
      | .d (.int j) => R.of ((L2.atI ns j).map fun n => .d (.int n)) M1
      | _ => .bad
    | _ => .bad
  | .callL f es ps body, ρ, M => if C.hot then .bad else (evEs C es ρ M).bind fun zs M1 => C.fnL f zs ps body (capOf ρ) M1
def evEs (C : Cfg) : Es → Env → Mem → R (List Z)
  | .nil, _, M => .ok [] M
  | .cons e r, ρ, M => (evE C e ρ M).bind fun x M1 => (evEs C r ρ M1).bind fun xs M2 => .ok (x :: xs) M2
/-- and, or, as values: truths but for the last -/
def evAnd (C : Cfg) : Es → Env → Mem → R Z
  | .nil, _, _ => .bad
  | .cons e .nil, ρ, M => evE C e ρ M
  | .cons e r, ρ, M => (evE C e ρ M).bind fun x M1 => (asB x M1).bind fun b M2 => if b then evAnd C r ρ M2 else .ok (boolZ false) M2
def evOr (C : Cfg) : Es → Env → Mem → R Z
  | .nil, _, _ => .bad
  | .cons e .nil, ρ, M => evE C e ρ M
  | .cons e r, ρ, M => (evE C e ρ M).bind fun x M1 => (asB x M1).bind fun b M2 => if b then .ok (boolZ true) M2 else evOr C r ρ M2
/-- as a test -/
def evT (C : Cfg) : T → Env → Mem → R Bool
  | .and ts, ρ, M => evTA C ts ρ M
  | .or ts, ρ, M => evTO C ts ρ M
  | .not a, ρ, M => (evT C a ρ M).bind fun b M1 => .ok (!b) M1
  | .cmp op a b, ρ, M => (evE C a ρ M).bind fun x M1 => (evE C b ρ M1).bind fun y M2 => cpz op x y M2
  | .chain o1 o2 a b c, ρ, M => (evE C a ρ M).bind fun x M1 => (evE C b ρ M1).bind fun y M2 => (cpz o1 x y M2).bind fun k M3 =>
      if k then (evE C c ρ M3).bind fun z M4 => cpz o2 y z M4 else .ok false M3
  | .e e, ρ, M => (evE C e ρ M).bind fun x M1 => R.of (truthZ x M1) M1
def evTA (C : Cfg) : Ts → Env → Mem → R Bool
  | .nil, _, M => .ok true M
  | .cons e r, ρ, M => (evT C e ρ M).bind fun b M1 => if b then evTA C r ρ M1 else .ok false M1
def evTO (C : Cfg) : Ts → Env → Mem → R Bool
  | .nil, _, M => .ok false M
  | .cons e r, ρ, M => (evT C e ρ M).bind fun b M1 => if b then .ok true M1 else evTO C r ρ M1
def evC (C : Cfg) : To → Env → Mem → R Bool
  | .no, _, M => .ok true M
  | .so t, ρ, M => evT C t ρ M
def evO (C : Cfg) : Eo → Env → Mem → R (Option Int)
  | .no, _, M => .ok none M
  | .so e, ρ, M => (evE C e ρ M).bind fun x M1 => match x with
    | .d (.int i) => .ok (some i) M1
    | _ => .bad
def evI (C : Cfg) : Iz → Env → Mem → R (List Z)
  | .it e, ρ, M => (evE C e ρ M).bind fun x M1 => R.of (itH C.hot x) M1
  | .rng1 e, ρ, M => if C.hot then .bad else (evE C e ρ M).bind fun x M1 => match x with
    | .d (.int i) => if i < 2 ^ 62 ∧ -(2 ^ 62) ≤ i then .ok (rngZ 0 i) M1 else .bad
    | _ => .bad
  | .rng2 a b, ρ, M => if C.hot then .bad else (evE C a ρ M).bind fun x M1 => (evE C b ρ M1).bind fun y M2 => match x, y with
    | .d (.int i), .d (.int j) => if (i < 2 ^ 62 ∧ -(2 ^ 62) ≤ i) ∧ j < 2 ^ 62 ∧ -(2 ^ 62) ≤ j then .ok (rngZ i j) M2 else .bad
    | _, _ => .bad
  | .zip a b, ρ, M => (evE C a ρ M).bind fun x M1 => (evE C b ρ M1).bind fun y M2 => match x, y with
    | .d x, .d y => R.of ((seqOf x).bind fun xs => (seqOf y).map fun ys => zipZ xs ys) M2
    | _, _ => .bad
  | .enum a, ρ, M => if C.hot then .bad else (evE C a ρ M).bind fun x M1 => match x with
    | .d (.list xs) => .ok (enumZ 0 xs) M1
    | _ => .bad
end
mutual
def evS (C : Cfg) : S → Env → Mem → O
  | .asg t e, ρ, M => (evE C e ρ M).st ρ fun z M1 => match bindT t ρ z with
    | some ρ1 => .nx ρ1 M1
    | none => .bad
  | .never, _, _ => .bad
  | .par is es, ρ, M => (evEs C es ρ M).st ρ fun zs M1 => if zs.length = is.length then .nx (setZ ρ is.reverse zs.reverse) M1 else .bad
  | .parN is es, ρ, M => (evEs C es ρ M).st ρ fun zs M1 => if zs.length = is.length then .nx (setZ ρ is zs) M1 else .bad
  | .setI o i e, ρ, M => (evE C e ρ M).st ρ fun z M1 => (evE C o ρ M1).st ρ fun x M2 => (evE C i ρ M2).st ρ fun y M3 => match z, x, y with
    | .d d, .r n, .d (.int j) => match M3[n]? with
      | some (.lst xs) => match L2.ixN xs.length j with
        | some k => .nx ρ (M3.set n (.lst (xs.set k d)))
        | none => .bad
      | _ => .bad
    | _, _, _ => .bad
  | .ex e, ρ, M => (evE C e ρ M).st ρ fun _ M1 => .nx ρ M1
  | .ret e, ρ, M => (evE C e ρ M).st ρ fun z M1 => .rt z M1
  | .ifs c a b, ρ, M => (evT C c ρ M).st ρ fun k M1 => if k then evSs C a ρ M1 else evSs C b ρ M1
  | .for t it body, ρ, M => (evI C it ρ M).st ρ fun zs M1 => forL (fun ρ' M' => evSs C body ρ' M') t zs ρ M1
  | .forR t e body, ρ, M => (evE C e ρ M).st ρ fun z M1 => match z with
    | .r n => match getL M1 n with
      | some ds => forRL (fun ρ' M' => evSs C body ρ' M') t n (ds.length + 1) 0 ρ M1
      | none => .bad
    | .d _ => .bad
  | .asgL i e, ρ, M => if C.hot then .bad else (evE C e ρ M).st ρ fun z M1 => .nx (ρ.set i (.z z)) M1
  | .while c body, ρ, M => whL (fun ρ' M' => evT C c ρ' M') (fun ρ' M' => evSs C body ρ' M') C.wf ρ M
  | .raise c, ρ, M => if C.hot then .bad else .ex ⟨c, []⟩ ρ M
  | .raiseI c f e, ρ, M => if C.hot || decide (C.lv < 2) then .bad else (evE C e ρ M).st ρ fun z M1 => match z with
    | .d d => .ex ⟨c, [(f, d)]⟩ ρ M1
    | .r _ => .bad
  | .try body c nm suite, ρ, M => if C.hot then .bad else match evSs C body ρ M with
    | .ex e ρ1 M1 => if C.sub e.c c then match nm with
        | some i => (evSs C.heat suite (ρ1.set i (.exc e)) M1).noex (some i)
        | none => (evSs C.heat suite ρ1 M1).noex none
      else .ex e ρ1 M1
    | x => x
  | .pass, ρ, M => .nx ρ M
def evSs (C : Cfg) : Ss → Env → Mem → O
  | .nil, ρ, M => .nx ρ M
  | .cons s r, ρ, M => (evS C s ρ M).bind fun ρ1 M1 => evSs C r ρ1 M1
end
structure Def where
  np : Nat
  ns : Nat
  body : Ss
def finB (o : O) : R Z := match o with
  | .nx _ M => .ok (.d .none) M
  | .rt z M => .ok z M
  | .ex e _ M => .ex e M
  | .bad => .bad
def startE (d : Def) (ss : List Sl) : Env := ss ++ List.replicate (d.ns - ss.length) .no
def lev (T : List Def) (sub : Nat → Nat → Bool) (gv : List D) (wf : Nat) : Nat → Bool → Cfg
  | 0, h => ⟨h, 0, wf, sub, gv, fun _ _ _ _ => .bad, fun _ _ _ _ _ => .bad, fun _ _ _ _ _ => .bad, fun _ _ _ _ _ _ => .bad⟩
  | k + 1, h => ⟨h, k + 1, wf, sub, gv,
    fun h' i zs M => match T[i]? with
      | some d => if zs.length = d.np then finB (evSs (lev T sub gv wf k h') d.body (startE d (zs.map .z)) M) else .bad
      | none => .bad,
    fun h' i sl zs M => match T[i]? with
      | some d => if zs.length + 1 = d.np then finB (evSs (lev T sub gv wf k h') d.body (startE d (sl :: zs.map .z)) M) else .bad
      | none => .bad,
    fun ps body cap zs M => match bindArgs0 ps (ofCap cap) zs with
      | some ρ => evE (lev T sub gv wf k false) body ρ M
      | none => .bad,
    fun i zs ps body cap M => match T[i]? with
      | some d => if zs.length + 1 = d.np then finB (evSs (lev T sub gv wf k false) d.body (startE d (zs.map .z ++ [.clo ps body cap])) M) else .bad
      | none => .bad⟩
end Zt
namespace Zt
open PySem PySem.Spec PyProof.Rows L2
/-- no table of code objects -/
def NT (o : HO) : Prop := ∀ ps, o ≠ .tbl ps
theorem nt_lst {xs : List V} : NT (.lst xs) := fun _ z => nomatch z
theorem nt_tup {xs : List V} : NT (.tup xs) := fun _ z => nomatch z
theorem nt_frz {o : Obj} {u : HO} : NT (.frz o u) := fun _ z => nomatch z
theorem nt_xd {xs : List (Str × V)} : NT (.xd xs) := fun _ z => nomatch z
/-- what is no data: numbered places, and others (a list that grows) -/
structure Io where
  pl : List Addr
  ex : List Addr
instance : Membership Addr Io := ⟨fun ι a => a ∈ ι.pl ∨ a ∈ ι.ex⟩
def Io.add (ι : Io) (p : Addr) : Io := ⟨ι.pl ++ [p], ι.ex⟩
def Io.lock (ι : Io) (p : Addr) : Io := ⟨ι.pl, p :: ι.ex⟩
theorem Io.mem {ι : Io} {n : Nat} {a : Addr} (h : ι.pl[n]? = some a) : a ∈ ι := .inl (List.mem_of_getElem? h)
theorem Io.mem_add {ι : Io} {p a : Addr} (h : a ∈ ι.add p) : a ∈ ι ∨ a = p := by
  rcases h with h | h
  · rcases List.mem_append.mp h with h | h
    · exact .inl (.inl h)
    · exact .inr (by simpa using h)
  · exact .inl (.inr h)
structure Ext (ι : Io) (H : Hp) (ι' : Io) (H' : Hp) : Prop where
  suf : ∃ l, ι'.pl = ι.pl ++ l
  exs : ∀ a ∈ ι.ex, a ∈ ι'.ex
  nin : ∀ a o, H a = some o → NT o → a ∉ ι → a ∉ ι'
  keep : ∀ a o, H a = some o → NT o → a ∉ ι.pl → a ∉ ι'.pl ∧ H' a = some o
theorem Ext.refl (ι : Io) (H : Hp) : Ext ι H ι H := ⟨⟨[], by simp⟩, fun _ h => h, fun _ _ _ _ h => h, fun _ _ h _ n => ⟨n, h⟩⟩
theorem Ext.trans {ι ι1 ι2 : Io} {H H1 H2 : Hp} (a : Ext ι H ι1 H1) (b : Ext ι1 H1 ι2 H2) : Ext ι H ι2 H2 := by
  obtain ⟨⟨l, el⟩, sa, na, ka⟩ := a
  obtain ⟨⟨m, em⟩, sb, nb, kb⟩ := b
  refine ⟨⟨l ++ m, by rw [em, el, List.append_assoc]⟩, fun c hc => sb c (sa c hc), fun c o e t hc => ?_, fun c o e t hc => ?_⟩
  · obtain ⟨_, e1⟩ := ka c o e t fun z => hc (.inl z)
    exact nb c o e1 t (na c o e t hc)
  · obtain ⟨n1, e1⟩ := ka c o e t hc
    exact kb c o e1 t n1
theorem Ext.new {ι : Io} {H : Hp} {p : Addr} {o : HO} (h : H p = none) : Ext ι H ι (upd H p o) :=
  ⟨⟨[], by simp⟩, fun _ h => h, fun _ _ _ _ h => h, fun a u e _ n => ⟨n, by rw [upd_ne (ne_of_none e h)]; exact e⟩⟩
theorem Ext.newM {ι : Io} {H : Hp} {p : Addr} {o : HO} (h : H p = none) : Ext ι H (ι.add p) (upd H p o) := by
  refine ⟨⟨[p], rfl⟩, fun _ h => h, fun a u e _ n z => ?_, fun a u e t n => ⟨fun z => ?_, by rw [upd_ne (ne_of_none e h)]; exact e⟩⟩
  · rcases Io.mem_add z with z | z
    · exact n z
    · rw [z, h] at e
      cases e
  · rcases List.mem_append.mp (show a ∈ ι.pl ++ [p] from z) with z | z
    · exact n z
    · have : a = p := by simpa using z
      rw [this, h] at e
      cases e
theorem Ext.lock {ι : Io} {H : Hp} {p : Addr} {o : HO} (h : H p = none) : Ext ι H (ι.lock p) (upd H p o) := by
  refine ⟨⟨[], by simp [Io.lock]⟩, fun _ h => List.mem_cons_of_mem _ h, fun a u e _ n z => ?_, fun a u e t n => ⟨n, by rw [upd_ne (ne_of_none e h)]; exact e⟩⟩
  rcases z with z | z
  · exact n (.inl z)
  · rcases List.mem_cons.mp z with z | z
    · rw [z, h] at e
      cases e
    · exact n (.inr z)
theorem Ext.wr {ι : Io} {H : Hp} {p : Addr} {o u : HO} (hp : p ∈ ι.pl) (hu : H p = some u) : Ext ι H ι (upd H p o) :=
  ⟨⟨[], by simp⟩, fun _ h => h, fun _ _ _ _ h => h, fun a w e _ ha => ⟨ha, by rw [upd_ne (fun z => ha (by rw [z]; exact hp))]; exact e⟩⟩
/-- the object at p may be read as o, and nobody changes it -/
def Still (ι : Io) (H : Hp) (p : Addr) (o : HO) : Prop := p ∉ ι ∧ Rd H p o
def KL (K : PySem.W.Frag) (a : Addr) (xs : List V) : Prop := ∃ (o : Obj) (its : Array Value) (n : Nat), K.lookup a = some o ∧ o.cls = .type "list" ∧ o.dict = none ∧ o.data = .seq its n ∧ its.size ≤ sizeLine ∧ Vals xs its.toList
def KT (K : PySem.W.Frag) (a : Addr) (xs : List V) : Prop := ∃ (o : Obj) (its : Array Value) (n : Nat), K.lookup a = some o ∧ o.cls = .type "tuple" ∧ o.data = .seq its n ∧ its.size ≤ sizeLine ∧ Vals xs its.toList
mutual
inductive Den (K : PySem.W.Frag) (ι : Io) (H : Hp) : V → D → Prop
  | non : Den K ι H .non .none
  | bl (b : Bool) : Den K ι H (.bl b) (.bool b)
  | int (i : Int) : Den K ι H (.int i) (.int i)
  | str (x : Str) : Den K ι H (.str x) (.str x)
  | lst {a : Addr} {xs : List V} {ds : List D} : (a ∉ ι ∧ H a = some (.lst xs)) → DenL K ι H xs ds → Den K ι H (.ref a) (.list ds)
  | tup {a : Addr} {xs : List V} {ds : List D} : (Still ι H a (.tup xs) ∨ KT K a xs) → DenL K ι H xs ds → Den K ι H (.ref a) (.tuple ds)
inductive DenL (K : PySem.W.Frag) (ι : Io) (H : Hp) : List V → List D → Prop
  | nil : DenL K ι H [] []
  | cons {v : V} {vs : List V} {d : D} {ds : List D} : Den K ι H v d → DenL K ι H vs ds → DenL K ι H (v :: vs) (d :: ds)
end
section
variable {K : PySem.W.Frag} {ι ι' : Io} {H H' : Hp}
theorem Still.mono {p : Addr} {o : HO} (h : Still ι H p o) (e : Ext ι H ι' H') (nt : ∀ ps, o ≠ .tbl ps) : Still ι' H' p o := by
  obtain ⟨hp, hr⟩ := h
  have hp' : p ∉ ι.pl := fun z => hp (.inl z)
  rcases hr with h | ⟨u, h⟩
  · exact ⟨e.nin p _ h nt hp, .inl (e.keep p _ h nt hp').2⟩
  · exact ⟨e.nin p _ h nt_frz hp, .inr ⟨u, (e.keep p _ h nt_frz hp').2⟩⟩
theorem stillL {a : Addr} {xs : List V} (h : a ∉ ι ∧ H a = some (.lst xs)) (e : Ext ι H ι' H') : a ∉ ι' ∧ H' a = some (.lst xs) :=
  ⟨e.nin a _ h.2 nt_lst h.1, (e.keep a _ h.2 nt_lst fun z => h.1 (.inl z)).2⟩
mutual
theorem Den.mono (e : Ext ι H ι' H') : ∀ {v : V} {d : D}, Den K ι H v d → Den K ι' H' v d
  | _, _, .non => .non
  | _, _, .bl b => .bl b
  | _, _, .int i => .int i
  | _, _, .str x => .str x
  | _, _, .lst h l => .lst (stillL h e) (DenL.mono e l)
  | _, _, .tup h l => .tup (h.imp (fun z => z.mono e fun _ q => nomatch q) id) (DenL.mono e l)
theorem DenL.mono (e : Ext ι H ι' H') : ∀ {vs : List V} {ds : List D}, DenL K ι H vs ds → DenL K ι' H' vs ds
  | _, _, .nil => .nil
  | _, _, .cons h l => .cons (Den.mono e h) (DenL.mono e l)
end
mutual
theorem Den.dp : ∀ {v : V} {d : D}, Den K ι H v d → Dp K H v d
  | _, _, .non => .non
  | _, _, .bl b => .bl b
  | _, _, .int i => .int i
  | _, _, .str x => .str x
  | _, _, .lst h l => .lst (.inl (.inl h.2)) (DenL.dp l)
  | _, _, .tup h l => .tup (h.imp (fun z => z.2) id) (DenL.dp l)
theorem DenL.dp : ∀ {vs : List V} {ds : List D}, DenL K ι H vs ds → DpAll K H vs ds
  | _, _, .nil => .nil
  | _, _, .cons h l => .cons (Den.dp h) (DenL.dp l)
end
theorem DenL.length : ∀ {vs : List V} {ds : List D}, DenL K ι H vs ds → vs.length = ds.length
  | _, _, .nil => rfl
  | _, _, .cons _ l => congrArg (· + 1) (DenL.length l)
theorem DenL.append : ∀ {vs ws : List V} {ds es : List D}, DenL K ι H vs ds → DenL K ι H ws es → DenL K ι H (vs ++ ws) (ds ++ es)
  | _, _, _, _, .nil, b => b
  | _, _, _, _, .cons h l, b => .cons h (DenL.append l b)
theorem DenL.take : ∀ (n : Nat) {vs : List V} {ds : List D}, DenL K ι H vs ds → DenL K ι H (vs.take n) (ds.take n)
  | 0, _, _, _ => .nil
  | _ + 1, _, _, .nil => .nil
  | n + 1, _, _, .cons h l => .cons h (DenL.take n l)
theorem DenL.drop : ∀ (n : Nat) {vs : List V} {ds : List D}, DenL K ι H vs ds → DenL K ι H (vs.drop n) (ds.drop n)
  | 0, _, _, h => h
  | _ + 1, _, _, .nil => .nil
  | n + 1, _, _, .cons _ l => DenL.drop n l
theorem DenL.reverse : ∀ {vs : List V} {ds : List D}, DenL K ι H vs ds → DenL K ι H vs.reverse ds.reverse
  | _, _, .nil => .nil
  | _, _, .cons h l => by
    rw [List.reverse_cons, List.reverse_cons]
    exact DenL.append (DenL.reverse l) (.cons h .nil)
theorem DenL.get : ∀ {vs : List V} {ds : List D} {i : Nat} {d : D}, DenL K ι H vs ds → ds[i]? = some d → ∃ v, vs[i]? = some v ∧ Den K ι H v d
  | _, _, 0, _, .cons h _, e => by
    have e := Option.some.inj e
    rw [← e]
    exact ⟨_, rfl, h⟩
  | _, _, i + 1, d, .cons _ l, e => DenL.get (i := i) l e
  | _, _, _, _, .nil, e => by simp at e
theorem DenL.get' : ∀ {vs : List V} {ds : List D} {i : Nat} {v : V}, DenL K ι H vs ds → vs[i]? = some v → ∃ d, ds[i]? = some d ∧ Den K ι H v d
  | _, _, 0, _, .cons h _, e => by
    have e := Option.some.inj e
    rw [← e]
    exact ⟨_, rfl, h⟩
  | _, _, i + 1, d, .cons _ l, e => DenL.get' (i := i) l e
  | _, _, _, _, .nil, e => by simp at e
theorem DenL.set : ∀ {vs : List V} {ds : List D} (i : Nat) {v : V} {d : D}, DenL K ι H vs ds → Den K ι H v d → DenL K ι H (vs.set i v) (ds.set i d)
  | _, _, _, _, _, .nil, _ => .nil
  | _, _, 0, _, _, .cons _ l, h => .cons h l
  | _, _, i + 1, _, _, .cons a l, h => .cons a (DenL.set i l h)
theorem DenL.rep : ∀ (n : Nat) {vs : List V} {ds : List D}, DenL K ι H vs ds → DenL K ι H (List.replicate n vs).flatten (List.replicate n ds).flatten
  | 0, _, _, _ => .nil
  | n + 1, _, _, h => by
    rw [List.replicate_succ, List.replicate_succ, List.flatten_cons, List.flatten_cons]
    exact DenL.append h (DenL.rep n h)
theorem DenL.strs : ∀ (xs : List Str), DenL K ι H (xs.map V.str) (xs.map PyData.str)
  | [] => .nil
  | _ :: r => .cons (.str _) (DenL.strs r)
theorem DenL.ints : ∀ (xs : List Int), DenL K ι H (xs.map V.int) (xs.map PyData.int)
  | [] => .nil
  | _ :: r => .cons (.int _) (DenL.ints r)
theorem DenL.ofInts : ∀ {vs : List V} {ds : List D} {ns : List Int}, DenL K ι H vs ds → intsOf ds = some ns → vs = ns.map V.int ∧ ds = ns.map PyData.int
  | _, _, _, .nil, e => by cases Option.some.inj e; exact ⟨rfl, rfl⟩
  | _, _, _, .cons (.int i) l, e => by
    cases q : intsOf _ with
    | none => rw [intsOf, q] at e; cases e
    | some m =>
      rw [intsOf, q] at e
      cases e
      obtain ⟨a, b⟩ := DenL.ofInts l q
      rw [a, b]
      exact ⟨rfl, rfl⟩
  | _, _, _, .cons .non _, e => nomatch e
  | _, _, _, .cons (.bl _) _, e => nomatch e
  | _, _, _, .cons (.str _) _, e => nomatch e
  | _, _, _, .cons (.lst _ _) _, e => nomatch e
  | _, _, _, .cons (.tup _ _) _, e => nomatch e
theorem DenL.ofStrs : ∀ {vs : List V} {ds : List D} {ns : List Str}, DenL K ι H vs ds → strsOf ds = some ns → vs = ns.map V.str ∧ ds = ns.map PyData.str
  | _, _, _, .nil, e => by cases Option.some.inj e; exact ⟨rfl, rfl⟩
  | _, _, _, .cons (.str i) l, e => by
    cases q : strsOf _ with
    | none => rw [strsOf, q] at e; cases e
    | some m =>
      rw [strsOf, q] at e
      cases e
      obtain ⟨a, b⟩ := DenL.ofStrs l q
      rw [a, b]
      exact ⟨rfl, rfl⟩
  | _, _, _, .cons .non _, e => nomatch e
  | _, _, _, .cons (.bl _) _, e => nomatch e
  | _, _, _, .cons (.int _) _, e => nomatch e
  | _, _, _, .cons (.lst _ _) _, e => nomatch e
  | _, _, _, .cons (.tup _ _) _, e => nomatch e
theorem Den.flat {v : V} {d : D} (h : Den K ι H v d) (f : flatD d = true) : flatV v = true := by
  cases h <;> first | rfl | cases f
theorem DenL.flat : ∀ {vs : List V} {ds : List D}, DenL K ι H vs ds → ds.all flatD = true → vs.all flatV = true
  | _, _, .nil, _ => rfl
  | _, _, .cons h l, f => by
    rw [List.all_cons, Bool.and_eq_true] at f
    rw [List.all_cons, h.flat f.1, DenL.flat l f.2]
    rfl
theorem Den.eqV {v u : V} {d e : D} (h : Den K ι H v d) (k : Den K ι H u e) (f : flatD d = true) (g : flatD e = true) : eqV v u = PyData.eqv d e := by
  cases h <;> cases k <;> first | rfl | cases f | cases g
theorem DenL.inV : ∀ {vs : List V} {ds : List D} {x : V} {d : D}, DenL K ι H vs ds → Den K ι H x d → ds.all flatD = true → flatD d = true → inV x vs = inD d ds
  | _, _, _, _, .nil, _, _, _ => rfl
  | _, _, _, _, .cons h l, k, f, g => by
    rw [List.all_cons, Bool.and_eq_true] at f
    have ih := DenL.inV l k f.2 g
    unfold L2.inV inD at ih ⊢
    rw [List.any_cons, List.any_cons, ih, h.eqV k f.1 g]
theorem Den.list_inv {v : V} {ds : List D} (h : Den K ι H v (.list ds)) : ∃ a xs, v = .ref a ∧ (a ∉ ι ∧ H a = some (.lst xs)) ∧ SqL K H a xs ∧ DenL K ι H xs ds := by
  cases h with
  | lst h l => exact ⟨_, _, rfl, h, .inl (.inl h.2), l⟩
theorem Den.tup_inv {v : V} {ds : List D} (h : Den K ι H v (.tuple ds)) : ∃ a xs, v = .ref a ∧ (Still ι H a (.tup xs) ∨ KT K a xs) ∧ SqT K H a xs ∧ DenL K ι H xs ds := by
  cases h with
  | tup h l => exact ⟨_, _, rfl, h, h.imp (fun z => z.2) id, l⟩
/-- a new list, a new tuple -/
theorem Den.newL {p : Addr} {xs : List V} {ds : List D} (nm : ∀ a ∈ ι, H a ≠ none) (h : H p = none) (l : DenL K ι H xs ds) : Den K ι (upd H p (.lst xs)) (.ref p) (.list ds) :=
  .lst ⟨fun z => nm p z h, upd_same⟩ (l.mono (Ext.new h))
theorem Den.newT {p : Addr} {xs : List V} {ds : List D} (nm : ∀ a ∈ ι, H a ≠ none) (h : H p = none) (l : DenL K ι H xs ds) : Den K ι (upd H p (.tup xs)) (.ref p) (.tuple ds) :=
  .tup (.inl ⟨fun z => nm p z h, .inl upd_same⟩) (l.mono (Ext.new h))
end
inductive DenZ (K : PySem.W.Frag) (ι : Io) (H : Hp) : V → Z → Prop
  | d {v : V} {x : D} : Den K ι H v x → DenZ K ι H v (.d x)
  | r {n : Nat} {a : Addr} : ι.pl[n]? = some a → DenZ K ι H (.ref a) (.r n)
inductive DenZL (K : PySem.W.Frag) (ι : Io) (H : Hp) : List V → List Z → Prop
  | nil : DenZL K ι H [] []
  | cons {v : V} {vs : List V} {d : Z} {ds : List Z} : DenZ K ι H v d → DenZL K ι H vs ds → DenZL K ι H (v :: vs) (d :: ds)
def MOk (K : PySem.W.Frag) (ι : Io) (H : Hp) (a : Addr) : MO → Prop
  | .lst ds => ∃ xs, H a = some (.lst xs) ∧ DenL K ι H xs ds
  | .frz ds => ∃ o xs, H a = some (.frz o (.lst xs)) ∧ DenL K ι H xs ds
  | .dic _ => ∃ o, H a = some (.xd o)
  | .ins _ _ => ∃ o, H a = some (.xd o)
structure MRel (K : PySem.W.Frag) (ι : Io) (H : Hp) (M : Mem) : Prop where
  len : ι.pl.length = M.length
  nd : ι.pl.Nodup
  exl : ∀ a ∈ ι.ex, ∃ o, H a = some o ∧ NT o
  ok : ∀ (n : Nat) (o : MO) (a : Addr), M[n]? = some o → ι.pl[n]? = some a → MOk K ι H a o
section
variable {K : PySem.W.Frag} {ι ι' : Io} {H H' : Hp} {M : Mem}
theorem Ext.at {n : Nat} {a : Addr} (e : Ext ι H ι' H') (h : ι.pl[n]? = some a) : ι'.pl[n]? = some a := by
  obtain ⟨l, el⟩ := e.suf
  rw [el, List.getElem?_append_left (List.getElem?_eq_some_iff.mp h).1]
  exact h
theorem DenZ.mono (e : Ext ι H ι' H') {v : V} {z : Z} (h : DenZ K ι H v z) : DenZ K ι' H' v z := by
  cases h with
  | d h => exact .d (h.mono e)
  | r h => exact .r (e.at h)
theorem DenZL.mono (e : Ext ι H ι' H') : ∀ {vs : List V} {zs : List Z}, DenZL K ι H vs zs → DenZL K ι' H' vs zs
  | _, _, .nil => .nil
  | _, _, .cons h l => .cons (h.mono e) (DenZL.mono e l)
theorem DenZL.length : ∀ {vs : List V} {ds : List Z}, DenZL K ι H vs ds → vs.length = ds.length
  | _, _, .nil => rfl
  | _, _, .cons _ l => congrArg (· + 1) (DenZL.length l)
theorem DenZL.data : ∀ {vs : List V} {zs : List Z} {ds : List D}, DenZL K ι H vs zs → dsOf zs = some ds → DenL K ι H vs ds
  | _, _, _, .nil, e => by cases Option.some.inj e; exact .nil
  | _, _, _, .cons (.d h) l, e => by
    cases q : dsOf _ with
    | none => rw [dsOf, q] at e; cases e
    | some m =>
      rw [dsOf, q] at e
      cases e
      exact .cons h (DenZL.data l q)
  | _, _, _, .cons (.r _) _, e => nomatch e
theorem DenZL.get : ∀ {vs : List V} {ds : List Z} {i : Nat} {d : Z}, DenZL K ι H vs ds → ds[i]? = some d → ∃ v, vs[i]? = some v ∧ DenZ K ι H v d
  | _, _, 0, _, .cons h _, e => by
    have e := Option.some.inj e
    rw [← e]
    exact ⟨_, rfl, h⟩
  | _, _, i + 1, d, .cons _ l, e => DenZL.get (i := i) l e
  | _, _, _, _, .nil, e => by simp at e
theorem MRel.has (m : MRel K ι H M) : ∀ a ∈ ι, H a ≠ none := fun a ha => by
  rcases ha with ha | ha
  case inr =>
    obtain ⟨o, e, _⟩ := m.exl a ha
    rw [e]
    exact fun z => nomatch z
  obtain ⟨n, hn, e⟩ := List.mem_iff_getElem.mp ha
  have h1 : ι.pl[n]? = some a := by rw [List.getElem?_eq_getElem hn, e]
  have h2 : n < M.length := by rw [← m.len]; exact hn
  have h3 := m.ok n M[n] a (List.getElem?_eq_getElem h2) h1
  cases q : M[n] with
  | lst ds => rw [q] at h3; obtain ⟨xs, e, _⟩ := h3; rw [e]; exact fun z => nomatch z
  | frz ds => rw [q] at h3; obtain ⟨_, xs, e, _⟩ := h3; rw [e]; exact fun z => nomatch z
  | dic ds => rw [q] at h3; obtain ⟨xs, e⟩ := h3; rw [e]; exact fun z => nomatch z
  | ins c ds => rw [q] at h3; obtain ⟨xs, e⟩ := h3; rw [e]; exact fun z => nomatch z
theorem MRel.at (m : MRel K ι H M) {n : Nat} {ds : List D} {a : Addr} (e : M[n]? = some (.lst ds)) (h : ι.pl[n]? = some a) : ∃ xs, H a = some (.lst xs) ∧ DenL K ι H xs ds := m.ok n _ a e h
theorem MOk.mono {a : Addr} {o : MO} (h : MOk K ι H a o) (e : Ext ι H ι' H') (k : H' a = H a) : MOk K ι' H' a o := by
  cases o with
  | lst ds =>
    obtain ⟨xs, q, l⟩ := h
    exact ⟨xs, by rw [k]; exact q, l.mono e⟩
  | frz ds =>
    obtain ⟨o, xs, q, l⟩ := h
    exact ⟨o, xs, by rw [k]; exact q, l.mono e⟩
  | dic ds =>
    obtain ⟨xs, q⟩ := h
    exact ⟨xs, by rw [k]; exact q⟩
  | ins c ds =>
    obtain ⟨xs, q⟩ := h
    exact ⟨xs, by rw [k]; exact q⟩
theorem upd_none {p a : Addr} {o : HO} (h : upd H p o a = none) : H a = none := by
  by_cases z : a = p
  · rw [z, upd_same] at h; cases h
  · rw [upd_ne z] at h; exact h
theorem exl_new {p : Addr} {o : HO} (m : MRel K ι H M) (h : H p = none) : ∀ a ∈ ι.ex, ∃ u, upd H p o a = some u ∧ NT u := fun a ha => by
  obtain ⟨u, e, t⟩ := m.exl a ha
  exact ⟨u, by rw [upd_ne (ne_of_none e h)]; exact e, t⟩
theorem exl_wr {p : Addr} {o : HO} (m : MRel K ι H M) (ho : NT o) : ∀ a ∈ ι.ex, ∃ u, upd H p o a = some u ∧ NT u := fun a ha => by
  by_cases z : a = p
  · exact ⟨o, by rw [z, upd_same], ho⟩
  · obtain ⟨u, e, t⟩ := m.exl a ha
    exact ⟨u, by rw [upd_ne z]; exact e, t⟩
/-- a new thing that the memory doesn't hold -/
theorem MRel.new {p : Addr} {o : HO} (m : MRel K ι H M) (h : H p = none) : MRel K ι (upd H p o) M :=
  ⟨m.len, m.nd, exl_new m h, fun n u a e1 e2 => (m.ok n u a e1 e2).mono (Ext.new h) (upd_ne fun z => m.has a (Io.mem e2) (by rw [z]; exact h))⟩
/-- a new changeable list -/
theorem MRel.newM {p : Addr} {xs : List V} {ds : List D} (m : MRel K ι H M) (h : H p = none) (l : DenL K ι H xs ds) : MRel K (ι.add p) (upd H p (.lst xs)) (M ++ [.lst ds]) := by
  refine ⟨by simp [m.len, Io.add], ?_, fun a ha => exl_new m h a ha, fun n u a e1 e2 => ?_⟩
  · refine List.nodup_append.mpr ⟨m.nd, by simp, fun a ha b hb => ?_⟩
    have : b = p := by simpa using hb
    rw [this]
    exact fun z => m.has a (.inl ha) (by rw [z]; exact h)
  · have e2 : (ι.pl ++ [p])[n]? = some a := e2
    by_cases hn : n < ι.pl.length
    · rw [List.getElem?_append_left hn] at e2
      rw [List.getElem?_append_left (by rw [← m.len]; exact hn)] at e1
      exact (m.ok n u a e1 e2).mono (Ext.newM h) (upd_ne fun z => m.has a (Io.mem e2) (by rw [z]; exact h))
    · have hn : ι.pl.length ≤ n := Nat.le_of_not_lt hn
      rw [List.getElem?_append_right hn] at e2
      rw [List.getElem?_append_right (by rw [← m.len]; exact hn)] at e1
      have h0 : n - ι.pl.length = 0 := by
        have := (List.getElem?_eq_some_iff.mp e2).1
        simp at this
        omega
      rw [h0] at e2
      rw [show n - M.length = 0 by rw [← m.len]; exact h0] at e1
      cases Option.some.inj e1
      have ea : p = a := Option.some.inj e2
      rw [← ea]
      exact ⟨xs, upd_same, l.mono (Ext.newM h)⟩
/-- a changeable list changed -/
theorem MRel.wr {n : Nat} {a : Addr} {u : HO} {xs : List V} {ds : List D} (m : MRel K ι H M) (ha : ι.pl[n]? = some a) (hu : H a = some u) (l : DenL K ι H xs ds) : MRel K ι (upd H a (.lst xs)) (M.set n (.lst ds)) := by
  have ex : Ext ι H ι (upd H a (.lst xs)) := Ext.wr (List.mem_of_getElem? ha) hu
  refine ⟨by simp [m.len], m.nd, exl_wr m nt_lst, fun k o b e1 e2 => ?_⟩
  by_cases hk : n = k
  · subst hk
    rw [ha] at e2
    have eb : a = b := Option.some.inj e2
    have hl : n < M.length := by rw [← m.len]; exact (List.getElem?_eq_some_iff.mp ha).1
    rw [List.getElem?_set_self hl] at e1
    cases Option.some.inj e1
    rw [← eb]
    exact ⟨xs, upd_same, l.mono ex⟩
  · rw [List.getElem?_set_ne hk] at e1
    refine (m.ok k o b e1 e2).mono ex (upd_ne fun z => hk ?_)
    obtain ⟨h1, q1⟩ := List.getElem?_eq_some_iff.mp ha
    obtain ⟨h2, q2⟩ := List.getElem?_eq_some_iff.mp e2
    exact (List.getElem_inj m.nd).mp (q1.trans (z.symm.trans q2.symm))
theorem Still.touch {D a : Addr} {o : HO} {u : HO} (hD : D ∈ ι) (z : Still ι H a u) : Still ι (upd H D o) a u := by
  obtain ⟨h1, h2⟩ := z
  have e : upd H D o a = H a := upd_ne (fun e => h1 (by rw [e]; exact hD))
  exact ⟨h1, h2.imp (fun q => by rw [e]; exact q) fun ⟨u, q⟩ => ⟨u, by rw [e]; exact q⟩⟩
mutual
/-- what no data speaks of may change -/
theorem Den.touch {D : Addr} {o : HO} (hD : D ∈ ι) : ∀ {v : V} {d : PyData}, Den K ι H v d → Den K ι (upd H D o) v d
  | _, _, .non => .non
  | _, _, .bl b => .bl b
  | _, _, .int i => .int i
  | _, _, .str x => .str x
  | _, _, .lst h l => .lst ⟨h.1, by rw [upd_ne (fun z => h.1 (by rw [z]; exact hD))]; exact h.2⟩ (DenL.touch hD l)
  | _, _, .tup h l => .tup (h.imp (fun z => z.touch hD) id) (DenL.touch hD l)
theorem DenL.touch {D : Addr} {o : HO} (hD : D ∈ ι) : ∀ {vs : List V} {ds : List PyData}, DenL K ι H vs ds → DenL K ι (upd H D o) vs ds
  | _, _, .nil => .nil
  | _, _, .cons h l => .cons (Den.touch hD h) (DenL.touch hD l)
end
mutual
/-- fewer places that are no data -/
theorem Den.anti (hs : ∀ a, a ∈ ι' → a ∈ ι) : ∀ {v : V} {d : PyData}, Den K ι H v d → Den K ι' H v d
  | _, _, .non => .non
  | _, _, .bl b => .bl b
  | _, _, .int i => .int i
  | _, _, .str x => .str x
  | _, _, .lst h l => .lst ⟨fun z => h.1 (hs _ z), h.2⟩ (DenL.anti hs l)
  | _, _, .tup h l => .tup (h.imp (fun z => ⟨fun q => z.1 (hs _ q), z.2⟩) id) (DenL.anti hs l)
theorem DenL.anti (hs : ∀ a, a ∈ ι' → a ∈ ι) : ∀ {vs : List V} {ds : List PyData}, DenL K ι H vs ds → DenL K ι' H vs ds
  | _, _, .nil => .nil
  | _, _, .cons h l => .cons (Den.anti hs h) (DenL.anti hs l)
end
theorem MOk.touch {D a : Addr} {o : HO} {u : MO} (hD : D ∈ ι) (hn : a ≠ D) (h : MOk K ι H a u) : MOk K ι (upd H D o) a u := by
  cases u with
  | lst ds =>
    obtain ⟨xs, q, l⟩ := h
    exact ⟨xs, by rw [upd_ne hn]; exact q, l.touch hD⟩
  | frz ds =>
    obtain ⟨o, xs, q, l⟩ := h
    exact ⟨o, xs, by rw [upd_ne hn]; exact q, l.touch hD⟩
  | dic ds =>
    obtain ⟨xs, q⟩ := h
    exact ⟨xs, by rw [upd_ne hn]; exact q⟩
  | ins c ds =>
    obtain ⟨xs, q⟩ := h
    exact ⟨xs, by rw [upd_ne hn]; exact q⟩
theorem MOk.anti {a : Addr} {u : MO} (hs : ∀ a, a ∈ ι' → a ∈ ι) (h : MOk K ι H a u) : MOk K ι' H a u := by
  cases u with
  | lst ds =>
    obtain ⟨xs, q, l⟩ := h
    exact ⟨xs, q, l.anti hs⟩
  | frz ds =>
    obtain ⟨o, xs, q, l⟩ := h
    exact ⟨o, xs, q, l.anti hs⟩
  | dic ds => exact h
  | ins c ds => exact h
theorem MRel.touch {D : Addr} {o : HO} (m : MRel K ι H M) (ho : NT o) (hD : D ∈ ι.ex) (hn : D ∉ ι.pl) : MRel K ι (upd H D o) M :=
  ⟨m.len, m.nd, exl_wr m ho, fun n u a e1 e2 => (m.ok n u a e1 e2).touch (.inr hD) fun e => hn (by rw [← e]; exact List.mem_of_getElem? e2)⟩
theorem MRel.anti (m : MRel K ι H M) (hp : ι'.pl = ι.pl) (hs : ∀ a ∈ ι'.ex, a ∈ ι.ex) : MRel K ι' H M :=
  ⟨by rw [hp]; exact m.len, by rw [hp]; exact m.nd, fun a ha => m.exl a (hs a ha), fun n u a e1 e2 => (m.ok n u a e1 (by rw [← hp]; exact e2)).anti fun a ha => by
    rcases ha with z | z
    · exact .inl (by rw [← hp]; exact z)
    · exact .inr (hs a z)⟩
theorem MRel.lock {D : Addr} {o : HO} (m : MRel K ι H M) (ho : NT o) (h : H D = none) : MRel K (ι.lock D) (upd H D o) M := by
  refine ⟨m.len, m.nd, fun a ha => ?_, fun n u a e1 e2 => (m.ok n u a e1 e2).mono (Ext.lock h) (upd_ne fun z => m.has a (Io.mem e2) (by rw [z]; exact h))⟩
  rcases List.mem_cons.mp ha with e | e
  · exact ⟨o, by rw [e, upd_same], ho⟩
  · exact exl_new m h a e
/-- all but tables stay -/
theorem MRel.extN (m : MRel K ι H M) (e : ∀ b o, H b = some o → NT o → H' b = some o) : MRel K ι H' M := by
  have x : Ext ι H ι H' := ⟨⟨[], by simp⟩, fun _ h => h, fun _ _ _ _ h => h, fun a o q t n => ⟨n, e a o q t⟩⟩
  refine ⟨m.len, m.nd, fun a ha => ?_, fun n u a e1 e2 => ?_⟩
  · obtain ⟨o, q, t⟩ := m.exl a ha
    exact ⟨o, e a o q t, t⟩
  · have h := m.ok n u a e1 e2
    refine h.mono x ?_
    cases u with
    | lst ds => obtain ⟨xs, q, _⟩ := h; rw [q, e a _ q nt_lst]
    | frz ds => obtain ⟨o, xs, q, _⟩ := h; rw [q, e a _ q nt_frz]
    | dic ds => obtain ⟨xs, q⟩ := h; rw [q, e a _ q nt_xd]
    | ins c ds => obtain ⟨xs, q⟩ := h; rw [q, e a _ q nt_xd]
end
end Zt
namespace Zt
open PySem PySem.Spec PyProof.Rows L2
abbrev St := L2.St
/-- the world of one law's text -/
structure Wd where
  P : Program
  w : World
  K : PySem.W.Frag
  mg : Str → Option Value
  base : Heap
  /-- the defs: bodies, names, where they stand, parameters -/
  T : List Def
  nm : Nat → Str
  fa : Nat → Addr
  fd : Nat → FuncData
  ps : Nat → List Str
  /-- the classes of errors: names, values; which is below which -/
  cn : Nat → Str
  cv : Nat → Value
  sub : Nat → Nat → Bool
  wf : Nat
  /-- constants of the module -/
  gn : Nat → Str
  gv : List D
  /-- tables of code objects -/
  tb : List (Addr × Str)
structure MI (W : Wd) (ι : Io) (H : Hp) (M : Mem) : Prop where
  m : MRel W.K ι H M
  t : LamX.Tabs W.tb H
  o : ∀ p ∈ W.tb, p.1 ∉ ι
section
variable {W : Wd} {ι ι' : Io} {H H' : Hp} {M : Mem}
theorem tabs_upd {T : List (Addr × Str)} {p : Addr} {o : HO} (t : LamX.Tabs T H) (hp : ∀ q ∈ T, q.1 ≠ p) (hc : ∀ c q, H c = some (LamX.CodeO c q) → c ≠ p) : LamX.Tabs T (upd H p o) := fun q hq => by
  obtain ⟨ps, h1, h2, h3⟩ := t q hq
  refine ⟨ps, by rw [upd_ne (hp q hq)]; exact h1, h2, fun pos cv hcv => ?_⟩
  obtain ⟨c, e1, e2⟩ := h3 pos cv hcv
  exact ⟨c, e1, by rw [upd_ne (hc c q.2 e2)]; exact e2⟩
theorem MI.has (m : MI W ι H M) : ∀ a ∈ ι, H a ≠ none := m.m.has
theorem MI.new {p : Addr} {o : HO} (m : MI W ι H M) (h : H p = none) : MI W ι (upd H p o) M :=
  ⟨m.m.new h, m.t.ext fun b u e => by rw [upd_ne (ne_of_none e h)]; exact e, m.o⟩
theorem MI.newM {p : Addr} {xs : List V} {ds : List D} (m : MI W ι H M) (h : H p = none) (l : DenL W.K ι H xs ds) : MI W (ι.add p) (upd H p (.lst xs)) (M ++ [.lst ds]) :=
  ⟨m.m.newM h l, m.t.ext fun b u e => by rw [upd_ne (ne_of_none e h)]; exact e, fun q hq z => by
    rcases Io.mem_add z with z | z
    · exact m.o q hq z
    · obtain ⟨ps, e, _⟩ := m.t q hq
      have : q.1 = p := z
      rw [this, h] at e
      cases e⟩
theorem MI.wr {n : Nat} {a : Addr} {ys xs : List V} {ds : List D} (m : MI W ι H M) (ha : ι.pl[n]? = some a) (hu : H a = some (.lst ys)) (l : DenL W.K ι H xs ds) : MI W ι (upd H a (.lst xs)) (M.set n (.lst ds)) :=
  ⟨m.m.wr ha hu l, tabs_upd m.t (fun q hq z => m.o q hq (by rw [z]; exact Io.mem ha)) (fun c q e z => by
    rw [z, hu] at e
    cases e), m.o⟩
end
/-- the fields of an error -/
def ExF (K : PySem.W.Frag) (ι : Io) (H : Hp) (dx : Option Addr) (fs : List (Str × D)) : Prop := (fs = [] → dx = none) ∧
  ∀ f d, fs.lookup f = some d → ∃ dd xs v, dx = some dd ∧ dd ∉ ι ∧ H dd = some (.xd xs) ∧ xs.lookup f = some v ∧ Den K ι H v d
theorem ExF.nil {K : PySem.W.Frag} {ι : Io} {H : Hp} : ExF K ι H none [] := ⟨fun _ => rfl, fun _ _ h => nomatch h⟩
theorem ExF.mono {K : PySem.W.Frag} {ι ι' : Io} {H H' : Hp} {dx : Option Addr} {fs : List (Str × D)} (e : Ext ι H ι' H') (h : ExF K ι H dx fs) : ExF K ι' H' dx fs := ⟨h.1, fun f d q => by
  obtain ⟨dd, xs, v, h1, h2, h3, h4, h5⟩ := h.2 f d q
  exact ⟨dd, xs, v, h1, e.nin dd _ h3 nt_xd h2, (e.keep dd _ h3 nt_xd fun z => h2 (.inl z)).2, h4, h5.mono e⟩⟩
/-- what a frame knows of slots that hold no data: closures, the error that is handled -/
structure Sc where
  CL : Addr → List Nat → E → St → Io → Hp → Prop
  mono : ∀ {f ps b σ ι H ι' H'}, CL f ps b σ ι H → Ext ι H ι' H' → CL f ps b σ ι' H'
  XA : Addr → Nat → Option Addr → Prop
def Sc.none : Sc := ⟨fun _ _ _ _ _ _ => False, fun h _ => h.elim, fun _ _ _ => False⟩
def CapOk (K : PySem.W.Frag) (ι : Io) (H : Hp) (σ : St) (cap : List (Option Z)) : Prop := ∀ (i : Nat) (z : Z), cap[i]? = some (some z) → ∃ x, σ[i]? = some (some x) ∧ DenZ K ι H x z
theorem CapOk.mono {K : PySem.W.Frag} {ι ι' : Io} {H H' : Hp} {σ : St} {cap : List (Option Z)} (e : Ext ι H ι' H') (h : CapOk K ι H σ cap) : CapOk K ι' H' σ cap := fun i z q => by
  obtain ⟨x, h1, h2⟩ := h i z q
  exact ⟨x, h1, h2.mono e⟩
def SlD (K : PySem.W.Frag) (S : Sc) (ι : Io) (H : Hp) (o : Option (Option V)) : Sl → Prop
  | .no => True
  | .z v => ∃ x, o = some (some x) ∧ DenZ K ι H x v
  | .clo ps b cap => ∃ f σ, o = some (some (.ref f)) ∧ σ.length = cap.length ∧ S.CL f ps b σ ι H ∧ CapOk K ι H σ cap
  | .exc e => ∃ a dx, o = some (some (.ref a)) ∧ S.XA a e.c dx ∧ ExF K ι H dx e.fs
  | .scr ns => ∃ a, o = some (some (.ref a)) ∧ (Still ι H a (.lst (ns.map V.int)) ∨ KL K a (ns.map V.int))
theorem SlD.mono {K : PySem.W.Frag} {S : Sc} {ι ι' : Io} {H H' : Hp} {o : Option (Option V)} (e : Ext ι H ι' H') : ∀ {s : Sl}, SlD K S ι H o s → SlD K S ι' H' o s
  | .no, _ => trivial
  | .z _, ⟨x, h1, h2⟩ => ⟨x, h1, h2.mono e⟩
  | .clo _ _ _, ⟨f, σ, h1, h0, h2, h3⟩ => ⟨f, σ, h1, h0, S.mono h2 e, h3.mono e⟩
  | .exc _, ⟨a, dx, h1, h2, h3⟩ => ⟨a, dx, h1, h2, h3.mono e⟩
  | .scr _, ⟨a, h1, h2⟩ => ⟨a, h1, h2.imp (fun z => z.mono e nt_lst) id⟩
structure SR (K : PySem.W.Frag) (S : Sc) (ι : Io) (H : Hp) (σ : St) (ρ : Env) : Prop where
  len : σ.length = ρ.length
  ix : ∀ (i : Nat) (s : Sl), ρ[i]? = some s → SlD K S ι H σ[i]? s
section
variable {K : PySem.W.Frag} {S : Sc} {ι ι' : Io} {H H' : Hp} {σ : St} {ρ : Env}
theorem SR.mono (e : Ext ι H ι' H') (h : SR K S ι H σ ρ) : SR K S ι' H' σ ρ := ⟨h.len, fun i s q => (h.ix i s q).mono e⟩
theorem SR.get (h : SR K S ι H σ ρ) {i : Nat} {z : Z} (e : getZ ρ i = some z) : ∃ x, σ[i]? = some (some x) ∧ DenZ K ι H x z := by
  unfold getZ at e
  cases q : ρ[i]? with
  | none => rw [q] at e; cases e
  | some s =>
    rw [q] at e
    have e : slZ s = some z := e
    have := h.ix i s q
    cases s with
    | z v => cases Option.some.inj e; exact this
    | no => cases e
    | clo a b c => cases e
    | exc a => cases e
    | scr a => cases e
theorem SR.set (h : SR K S ι H σ ρ) (i : Nat) {x : V} {z : Z} (d : DenZ K ι H x z) : SR K S ι H (σ.set i (some x)) (ρ.set i (.z z)) := by
  refine ⟨by simp [h.len], fun j s q => ?_⟩
  by_cases hj : i = j
  · subst hj
    have hl : i < ρ.length := by
      have := (List.getElem?_eq_some_iff.mp q).1
      simpa using this
    rw [List.getElem?_set_self hl] at q
    cases Option.some.inj q
    exact ⟨x, List.getElem?_set_self (by rw [h.len]; exact hl), d⟩
  · rw [List.getElem?_set_ne hj] at q ⊢
    exact h.ix j s q
theorem SR.no (h : SR K S ι H σ ρ) (i : Nat) : SR K S ι H (σ.set i none) (ρ.set i .no) := by
  refine ⟨by simp [h.len], fun j s q => ?_⟩
  by_cases hj : i = j
  · subst hj
    have hl : i < ρ.length := by
      have := (List.getElem?_eq_some_iff.mp q).1
      simpa using this
    rw [List.getElem?_set_self hl] at q
    cases Option.some.inj q
    trivial
  · rw [List.getElem?_set_ne hj] at q ⊢
    exact h.ix j s q
theorem SR.wipe (h : SR K S ι H σ ρ) : ∀ vs : List Nat, SR K S ι H (wipe σ vs) (wipeE ρ vs)
  | [] => h
  | v :: vs => (SR.wipe h vs).no v
end
/-- an evaluation's end -/
def End (W : Wd) (wx : WX) (σ : St) (ι : Io) (H : Hp) {α : Type} (rel : Io → Hp → V → α → Prop) (Q : VK) : R α → Prop
  | .ok z M => ∀ ι' v H', Ext ι H ι' H' → MI W ι' H' M → rel ι' H' v z → Q v H'
  | .ex e M => ∀ ι' dx H', Ext ι H ι' H' → MI W ι' H' M → ExF W.K ι' H' dx e.fs → wx (W.cv e.c) dx σ H'
  | .bad => False
/-- .. whose answer is of any type β of the layer -/
def EndG (W : Wd) (wx : WX) (σ : St) (ι : Io) (H : Hp) {α β : Type} (rel : Io → Hp → β → α → Prop) (Q : β → Hp → Prop) : R α → Prop
  | .ok z M => ∀ ι' v H', Ext ι H ι' H' → MI W ι' H' M → rel ι' H' v z → Q v H'
  | .ex e M => ∀ ι' dx H', Ext ι H ι' H' → MI W ι' H' M → ExF W.K ι' H' dx e.fs → wx (W.cv e.c) dx σ H'
  | .bad => False
theorem EndG.mono {W : Wd} {wx : WX} {σ : St} {ι ι1 : Io} {H H1 : Hp} {α β : Type} {rel : Io → Hp → β → α → Prop} {Q : β → Hp → Prop} {r : R α} (e : Ext ι H ι1 H1) (h : EndG W wx σ ι H rel Q r) : EndG W wx σ ι1 H1 rel Q r := by
  cases r with
  | ok z M => exact fun ι' v H' ex => h ι' v H' (e.trans ex)
  | ex x M => exact fun ι' dx H' ex => h ι' dx H' (e.trans ex)
  | bad => exact h
/-- first r, then what f makes of it -/
theorem EndG.step {W : Wd} {wx : WX} {σ : St} {ι : Io} {H : Hp} {α β γ δ : Type} {rel : Io → Hp → β → α → Prop} {rel2 : Io → Hp → δ → γ → Prop} {Q : δ → Hp → Prop} {G : β → Hp → Prop} {r : R α} {f : α → Mem → R γ}
    (h : EndG W wx σ ι H rel2 Q (r.bind f)) (g : ∀ z M1 ι1 v1 H1, Ext ι H ι1 H1 → MI W ι1 H1 M1 → rel ι1 H1 v1 z → EndG W wx σ ι1 H1 rel2 Q (f z M1) → G v1 H1) : EndG W wx σ ι H rel G r := by
  cases r with
  | ok z M => exact fun ι1 v1 H1 ex m d => g z M ι1 v1 H1 ex m d (EndG.mono ex h)
  | ex x M => exact h
  | bad => exact h
/-- the last step: an answer at once -/
theorem EndG.now {W : Wd} {wx : WX} {σ : St} {ι : Io} {H : Hp} {α β : Type} {rel : Io → Hp → β → α → Prop} {Q : β → Hp → Prop} {z : α} {M : Mem} {v : β} (h : EndG W wx σ ι H rel Q (.ok z M)) (m : MI W ι H M) (d : rel ι H v z) : Q v H :=
  h ι v H (Ext.refl ι H) m d
/-- where one stands: slots and memory as told -/
structure Rl (W : Wd) (S : Sc) (ι : Io) (σ : St) (H : Hp) (ρ : Env) (M : Mem) : Prop where
  s : SR W.K S ι H σ ρ
  m : MI W ι H M
theorem Rl.go {W : Wd} {S : Sc} {ι ι1 : Io} {σ : St} {H H1 : Hp} {ρ : Env} {M M1 : Mem} (h : Rl W S ι σ H ρ M) (e : Ext ι H ι1 H1) (m : MI W ι1 H1 M1) : Rl W S ι1 σ H1 ρ M1 := ⟨h.s.mono e, m⟩
/-- the reading of what the evaluator makes -/
def tG (W : Wd) (S : Sc) (wx : WX) {α β : Type} (rel : Io → Hp → β → α → Prop) (f : Env → Mem → R α) : St → Hp → (β → Hp → Prop) → Prop := fun σ H Q =>
  ∃ ι ρ M, Rl W S ι σ H ρ M ∧ EndG W wx σ ι H rel Q (f ρ M)
abbrev tD (W : Wd) (S : Sc) (wx : WX) (f : Env → Mem → R Z) : TE := tG W S wx (DenZ W.K) f
def relB : Io → Hp → Bool → Bool → Prop := fun _ _ a b => a = b
abbrev tDT (W : Wd) (S : Sc) (wx : WX) (f : Env → Mem → R Bool) : TT := tG W S wx relB f
abbrev tDs (W : Wd) (S : Sc) (wx : WX) (f : Env → Mem → R (List Z)) : TA := tG W S wx (DenZL W.K) f
def relO : Io → Hp → Option Int → Option Int → Prop := fun _ _ a b => a = b
abbrev tDO (W : Wd) (S : Sc) (wx : WX) (f : Env → Mem → R (Option Int)) : TO := tG W S wx relO f
theorem _root_.L2.PE.imp {X : Cx} {e : Expr} {t u : TE} (h : PE X e t) (i : ∀ σ H Q, u σ H Q → t σ H Q) : PE X e u := ⟨fun pins s σ H Q I q => h.run pins s σ H Q I (i σ H Q q)⟩
theorem _root_.L2.PT.imp {X : Cx} {e : Expr} {t u : TT} (h : PT X e t) (i : ∀ σ H Q, u σ H Q → t σ H Q) : PT X e u := ⟨fun pins s σ H Q I q => h.run pins s σ H Q I (i σ H Q q)⟩
theorem _root_.L2.PA.imp {X : Cx} {e : List Expr} {t u : TA} (h : PA X e t) (i : ∀ σ H Q, u σ H Q → t σ H Q) : PA X e u := ⟨fun pos pins s σ H Q I q => h.run pos pins s σ H Q I (i σ H Q q)⟩
theorem _root_.L2.PS.imp {X : Cx} {e : Stmt} {t u : TS} (h : PS X e t) (i : ∀ D σ H, u D σ H → t D σ H) : PS X e u := ⟨fun pins s σ H D I q => h.run pins s σ H D I (i D σ H q)⟩
theorem _root_.L2.PSs.imp {X : Cx} {e : List Stmt} {t u : TS} (h : PSs X e t) (i : ∀ D σ H, u D σ H → t D σ H) : PSs X e u := ⟨fun pins s σ H D I q => h.run pins s σ H D I (i D σ H q)⟩
/-- an operation on values that the evaluator knows: no error, the memory as it was -/
def rZ (W : Wd) (g : D → D → Option D) : R2 := fun x y H Q => ∃ ι M a b z, MI W ι H M ∧ Den W.K ι H x a ∧ Den W.K ι H y b ∧ g a b = some z ∧ ∀ v H', Ext ι H ι H' → MI W ι H' M → Den W.K ι H' v z → Q v H'
end Zt
namespace Zt
open PySem PySem.Spec PyProof.Rows L2
section
variable {prog : Program} {w : World} {A : Around} {E : Value → Shared → Prop} {s : Shared}
theorem strsAre_signs : ∀ (l : List Nat) (vs : List Value), vs.length = l.length → (∀ (j : Nat) (v : Value), vs[j]? = some v → ∃ (c : Nat) (u : Tok), l[j]? = some c ∧ v = Value.str ⟨#[c]⟩ u) → StrsAre vs (l.map fun c => (⟨#[c]⟩ : Str))
  | [], [], _, _ => .nil
  | [], _ :: _, h, _ => nomatch h
  | _ :: _, [], h, _ => nomatch h
  | c :: l, v :: vs, h, k => by
    obtain ⟨c', u, h1, h2⟩ := k 0 v rfl
    cases h1
    subst h2
    exact .cons _ u (strsAre_signs l vs (by simpa using h) fun j w hw => k (j + 1) w hw)
theorem collect_text {x : Str} {t : Tok} {Q : List Value → Shared → Prop} (hh : A.handled = none) (hz : x.cps.size ≤ sizeLine)
    (hQ : ∀ s' acc, (∀ b o, s.heap.get? b = some o → s'.heap.get? b = some o) → s.heap.objs.size ≤ s'.heap.objs.size → s'.gens = s.gens → s'.os = s.os → ItemsOf (SignAt x) acc x.cps.size → Q acc.toList s') : wpAny (model prog w) A (collect (.str x t)) Q E s := by
  unfold collect
  refine wpAny_bind (wpAny_runValue (codeAny_builtin F.entry_proto_collect ?_))
  rw [Around.under_plainId F.plain_proto_collect _]
  refine wpAny_bind (m := newList []) (wpAny_newObj_type (wpAny_pure ⟨plainId_quiet F.plain_list_iadd _, codeAny_builtin F.entry_list_iadd ?_⟩))
  rw [Around.under_plainId F.plain_list_iadd _]
  refine wpAny_mono (wpAny_extend_str (R := fun r s' => ∃ h' tk acc c', r = .ok (.ret (.ref s.heap.objs.size)) ∧ (∀ b o, s.heap.get? b = some o → h'.get? b = some o) ∧ h'.get? s.heap.objs.size = some { cls := .type "list", dict := none, data := .seq acc c', slots := #[] } ∧ ItemsOf (SignAt x) acc x.cps.size ∧ s' = { s with heap := h', toks := tk }) (A := A) (hn := hz) hh x t s.heap.objs.size _ 0 (Heap.get?_push_size _ rfl) fun h' tk acc c k hS' hacc => ⟨h', tk, acc, c, rfl, fun b o e => k b o (Nat.ne_of_lt (Heap.lt_size e)) (Heap.get?_push_of_some _ e), hS', hacc, rfl⟩) ?_ ?_
  · intro fin s' q
    cases fin with
    | done f =>
      obtain ⟨h', tk, acc, c, e1, k, hS', hacc, e2⟩ := q
      cases e1
      subst e2
      exact wpAny_bind (wpAny_load hS' (wpAny_pure (hQ _ acc k (Nat.le_of_lt (Heap.lt_size hS')) rfl rfl hacc)))
    | again c =>
      refine ⟨q.1, codeAny_mono q.2 fun r s2 z => ?_⟩
      obtain ⟨h', tk, acc, c, e1, k, hS', hacc, e2⟩ := z
      subst e1
      subst e2
      exact wpAny_bind (wpAny_load hS' (wpAny_pure (hQ _ acc k (Nat.le_of_lt (Heap.lt_size hS')) rfl rfl hacc)))
  · intro e s' q
    obtain ⟨h', tk, acc, c, e1, _⟩ := q
    cases e1
theorem sorted_text {x : Str} {t : Tok} {Q : Value → Shared → Prop} (hh : A.handled = none) (h64 : x.cps.size < 64)
    (hQ : ∀ s' p (out : Array Value) (c : Nat) (ss' : List Str), (∀ b o, s.heap.get? b = some o → s'.heap.get? b = some o) → s'.gens = s.gens → s'.os = s.os → s.heap.objs.size ≤ p →
      s'.heap.get? p = some (seqObj "list" out c) → StrsAre out.toList ss' → ss'.Perm (x.cps.toList.map fun c => (⟨#[c]⟩ : Str)) → sortedS ss' = true → Q (.ref p) s') :
    wpAny (model prog w) A (call (.builtin "sorted") [.str x t]) Q E s := by
  have hz : x.cps.size ≤ sizeLine := Nat.le_trans (Nat.le_of_lt h64) (by decide +kernel)
  refine Calls.call_function_entry kind_sorted plain_sorted entry_sorted (args_sorted1 _) ?_
  unfold Builtin.«sorted»
  refine wpAny_bind (m := checkCount "sorted" 1 1 _) (wpAny_pure ?_)
  refine wpAny_bind (collect_text (A := A.in1) hh hz fun s1 acc k1 hsz g1 o1 hacc => ?_)
  have hS : StrsAre acc.toList (x.cps.toList.map fun c => (⟨#[c]⟩ : Str)) := strsAre_signs _ _ (by simpa using hacc.1) fun j v hv => by
    obtain ⟨c, u, h1, h2⟩ := hacc.2 j v (by simpa using hv)
    exact ⟨c, u, by simpa using h1, h2⟩
  have hl : acc.toList.length = x.cps.size := by simpa using hacc.1
  refine wpAny_bind (wpAny_newList ?_ (by rw [hl]; exact hz))
  have hoL : (s1.heap.push (seqObj "list" acc.toList.toArray 0)).get? s1.heap.objs.size = some (seqObj "list" acc.toList.toArray 0) := Heap.get?_push_size _ rfl
  refine wpAny_bind (wpAny_holding (wpAny_call_entry slot_list_sort ⟨_, hoL, rfl⟩ entry_list_sort (list_sort_treeK strKind_oneLt hoL hS.keysOf (fun v₁ v₂ rest e => keyKind_strs (by rw [← e]; exact hS)) (by rw [hl]; exact h64) fun st' a1 a2 => ⟨_, rfl, ?_⟩) (args_list_sort _)))
  obtain ⟨ss', h1, h2, h3⟩ := sorted_out_str hS a1 a2
  obtain ⟨c, hc⟩ := sortedHeap_at (vs := acc.toList) (out := (arrOf st').map (·.2)) hoL
  refine wpAny_pure ⟨_, rfl, hQ _ s1.heap.objs.size _ c ss' (fun b u e => ?_) g1 o1 hsz hc h1 h2 h3⟩
  have q := k1 b u e
  have hlt := Heap.lt_size q
  show (sortedHeap (s1.heap.push (seqObj "list" acc.toList.toArray 0)) s1.heap.objs.size acc.toList _).get? b = some u
  rw [sortedHeap_old (Nat.ne_of_lt hlt) (by rw [size_push']; exact Nat.lt_succ_of_lt hlt)]
  exact Heap.get?_push_of_some _ q
end
section
variable {X : Cx}
theorem cr_sortedC (hc : X.calm = true) : CallR X (.builtin "sorted") (fun xs H Q => ∃ x : Str, xs = [.str x] ∧ x.length < 64 ∧ ∀ (ys : List Str) p, ys.Perm (x.cps.toList.map fun c => (⟨#[c]⟩ : Str)) → sortedS ys = true → H p = none → Q (.ref p) (upd H p (.lst (ys.map V.str)))) := by
  intro pins s σ H vs us Q I r h
  obtain ⟨x, rfl, h64, q⟩ := h
  obtain ⟨u, rfl, t, rfl⟩ := vals1 r
  refine sorted_text (I.ok.hd hc) h64 fun s' p out c ns k g o hp hg hi hm hs => ?_
  have hlen : (ns.map V.str).length ≤ sizeLine := by rw [List.length_map, hm.length_eq, List.length_map]; exact small64 (by rw [Array.length_toList]; exact h64)
  have hn : H p = none := I.hok.fresh hp
  have J : Inv X pins σ (upd H p (.lst (ns.map V.str))) { s with heap := s'.heap, gens := s'.gens, drawn := s'.drawn, toks := s'.toks } :=
    I.call (ch := []) (Un.laid k hp hn) (I.hok.laid k hp ⟨hlen, out.toList, c, vals_of_strs hi, hg⟩) (by rw [g]; exact I.bare) (fun _ z => nomatch z)
  have e : s' = { s with heap := s'.heap, gens := s'.gens, drawn := s'.drawn, toks := s'.toks } := by
    cases s'
    cases s
    cases o
    rfl
  rw [e]
  exact ⟨.ref p, _, J, rfl, q ns p hm hs hn⟩
theorem op_add_bi : OpR X (binaryOp .Add) (fun x y H Q => ∃ (k : Bool) (i : Int), x = .bl k ∧ y = .int i ∧ Q (.int ((if k = true then 1 else 0) + i)) H) := by
  intro pins s σ H x y v u Q I rx ry h
  obtain ⟨k, i, rfl, rfl, q⟩ := h
  cases rx
  obtain ⟨t, rfl⟩ := ry
  exact IntBool.add_bool_int ⟨.int _, H, I.tok _, ⟨_, rfl⟩, q⟩
theorem op_sub_bi : OpR X (binaryOp .Sub) (fun x y H Q => ∃ (k : Bool) (i : Int), x = .bl k ∧ y = .int i ∧ Q (.int ((if k = true then 1 else 0) - i)) H) := by
  intro pins s σ H x y v u Q I rx ry h
  obtain ⟨k, i, rfl, rfl, q⟩ := h
  cases rx
  obtain ⟨t, rfl⟩ := ry
  exact IntBool.sub_bool_int ⟨.int _, H, I.tok _, ⟨_, rfl⟩, q⟩
theorem op_mul_ib : OpR X (binaryOp .Mult) (fun x y H Q => ∃ (i : Int) (k : Bool), x = .int i ∧ y = .bl k ∧ Q (.int (i * (if k = true then 1 else 0))) H) := by
  intro pins s σ H x y v u Q I rx ry h
  obtain ⟨i, k, rfl, rfl, q⟩ := h
  cases ry
  obtain ⟨t, rfl⟩ := rx
  exact IntBool.mul_int_bool ⟨.int _, H, I.tok _, ⟨_, rfl⟩, q⟩
theorem call_str_bl : CallR X (.type "str") (fun xs H Q => ∃ b, xs = [.bl b] ∧ Q (.str (if b then "True" else "False")) H) := by
  intro pins s σ H xs us Q I r h
  obtain ⟨b, rfl, q⟩ := h
  obtain ⟨u, rfl, r1⟩ := vals1 r
  cases r1
  exact PySem.P.str_of_bool ⟨.str _, H, I.tok _, ⟨_, rfl⟩, q⟩
end
end Zt
namespace Zt
open PySem PySem.Spec PyProof.Rows L2
section
variable {W : Wd} {X : Cx}
def BOp.x : BOp → Operator
  | .add => .Add
  | .sub => .Sub
  | .mul => .Mult
  | .fdiv => .FloorDiv
  | .mod => .Mod
  | .pow => .Pow
theorem sl_of {n : Nat} (h : n ≤ slen) : n ≤ sizeLine := Nat.le_trans h (by decide +kernel)
theorem sl_lt {n : Nat} (h : n < slen) : n < sizeLine := Nat.lt_of_lt_of_le h (by decide +kernel)
theorem no_some {α : Type} {z : α} (h : (none : Option α) = some z) : False := by cases h
/-- a product of two factors of together less than a hundred million bits -/
theorem mulB {i j : Int} (h : i.natAbs.log2 + j.natAbs.log2 < 100000000) : IntMulOk i j := by
  have few : ∀ x : Int, Builtin.Int.intBits x ≤ x.natAbs.log2 + 1 := fun x => by
    unfold Builtin.Int.intBits
    split <;> omega
  have f1 := few i
  have f2 := few j
  have line : bitsLine = 134217728 := by decide
  unfold IntMulOk
  intro z
  rw [Bool.and_eq_true] at z
  have big := z.2
  unfold Builtin.Int.intTooBig at big
  have big2 := of_decide_eq_true big
  rw [line] at big2
  omega
theorem op_mulB : OpR X (binaryOp .Mult) (rI (fun i j => i.natAbs.log2 + j.natAbs.log2 < 100000000) fun i j => .int (i * j)) := opI fun _ _ _ _ _ _ _ hc q => mul_int q (mulB hc)
theorem mulOkS {x : Str} {n : Int} (h : 2 ≤ n ∧ n ≤ 1000 ∧ x.length ≤ 100) : MulOk x n := by
  obtain ⟨h1, h2, h3⟩ := h
  refine ⟨?_, fun _ _ => ?_, fun _ _ => ?_⟩
  · simp
    omega
  · have : (100 : Int) ≤ (2 ^ 63 - 1) / n := (Int.le_ediv_iff_mul_le (by omega)).mpr (by omega)
    omega
  · have : x.length * n.toNat ≤ 100 * 1000 := Nat.mul_le_mul h3 (by omega)
    have h4 : (100000 : Nat) ≤ sizeLine := by decide +kernel
    simp only [Builtin.Str.tooLong, decide_eq_false_iff_not]
    omega
theorem op_mulS : OpR X (binaryOp .Mult) (fun x y H Q => ∃ i j, x = .str i ∧ y = .int j ∧ MulOk i j ∧ Q (.str (Txt.mul i j)) H) := by
  rintro pins s σ H _ _ v u Q I rx ry ⟨i, j, rfl, rfl, ok, q⟩
  obtain ⟨t, rfl⟩ := rx
  obtain ⟨t2, rfl⟩ := ry
  exact SB.mul ok fun t k => ⟨V.str (Txt.mul i j), H, ⟨I.ok, I.os, I.bare, I.base, I.loc, I.cell, I.free, I.freeC, I.pin, I.hok, I.len⟩, ⟨t, rfl⟩, q⟩
theorem op_bin (hK : X.K = W.K) (op : BOp) : OpR X (binaryOp op.x) (rZ W (bop op)) := by
  intro pins s σ H x y v u Q I rx ry h
  obtain ⟨ι, M, a, b, z, m, dx, dy, e, q⟩ := h
  have now : ∀ w : V, Den W.K ι H w z → Q w H := fun w d => q w H (Ext.refl ι H) m d
  cases op <;> cases a <;> cases b <;> try (exact (no_some (show (none : Option D) = some z from e)).elim)
  -- a sum of numbers
  · cases dx; cases dy; cases Option.some.inj e
    exact op_add_bi pins s σ H _ _ v u Q I rx ry ⟨_, _, rfl, rfl, now _ (.int _)⟩
  · cases dx; cases dy; cases Option.some.inj e
    exact op_add pins s σ H _ _ v u Q I rx ry ⟨_, _, rfl, rfl, now _ (.int _)⟩
  · cases dx; cases dy
    simp only [bop] at e
    split at e
    · cases Option.some.inj e
      rename_i hl
      exact op_add_str pins s σ H _ _ v u Q I rx ry ⟨_, _, rfl, rfl, sl_of hl, now _ (.str _)⟩
    · cases e
  · simp only [bop] at e
    split at e
    · cases Option.some.inj e
      rename_i hl
      obtain ⟨p, xs, rfl, h1, _, l1⟩ := dx.list_inv
      obtain ⟨p2, ys, rfl, h2, _, l2⟩ := dy.list_inv
      exact op_cat pins s σ H _ _ v u Q I rx ry ⟨p, p2, xs, ys, rfl, rfl, h1.2, h2.2, sl_of (by rw [l1.length, l2.length]; exact hl), fun p3 h3 => q _ _ (Ext.new h3) (m.new h3) (.newL m.has h3 (l1.append l2))⟩
    · cases e
  · simp only [bop] at e
    split at e
    · cases Option.some.inj e
      rename_i hl
      obtain ⟨p, xs, rfl, h1, s1, l1⟩ := id dx.tup_inv
      obtain ⟨p2, ys, rfl, h2, s2, l2⟩ := id dy.tup_inv
      refine op_catA pins s σ H _ _ v u Q I rx ry ⟨p, p2, xs, ys, rfl, rfl, by rw [hK]; exact s1, by rw [hK]; exact s2, sl_of (by rw [l1.length, l2.length]; exact hl), ?_, ?_, ?_⟩
      · intro e1
        subst e1
        cases l1
        exact now _ dy
      · intro e0 e1
        subst e1
        cases l2
        rw [List.append_nil] at now
        exact now _ dx
      · intro _ _ p3 h3
        exact q _ _ (Ext.new h3) (m.new h3) (.newT m.has h3 (l1.append l2))
    · cases e
  · cases dx; cases dy; cases Option.some.inj e
    exact op_sub_bi pins s σ H _ _ v u Q I rx ry ⟨_, _, rfl, rfl, now _ (.int _)⟩
  · cases dx; cases dy; cases Option.some.inj e
    exact op_sub pins s σ H _ _ v u Q I rx ry ⟨_, _, rfl, rfl, now _ (.int _)⟩
  · cases dx; cases dy; cases Option.some.inj e
    exact op_mul_ib pins s σ H _ _ v u Q I rx ry ⟨_, _, rfl, rfl, now _ (.int _)⟩
  · cases dx; cases dy
    simp only [bop] at e
    split at e
    · cases Option.some.inj e
      rename_i hl
      exact op_mulB pins s σ H _ _ v u Q I rx ry ⟨_, _, rfl, rfl, hl, now _ (.int _)⟩
    · cases e
  · cases dx; cases dy
    simp only [bop] at e
    split at e
    · cases Option.some.inj e
      rename_i hl
      exact op_mulS pins s σ H _ _ v u Q I rx ry ⟨_, _, rfl, rfl, mulOkS hl, now _ (.str _)⟩
    · cases e
  · cases dy
    simp only [bop] at e
    split at e
    · cases Option.some.inj e
      rename_i i hl
      obtain ⟨p, xs, rfl, h1, _, l1⟩ := dx.list_inv
      have hs : (slen : Int) < 2 ^ 62 := by decide +kernel
      exact op_rep pins s σ H _ _ v u Q I rx ry ⟨p, i, xs, rfl, rfl, h1.2, by omega, by omega, sl_of (by rw [l1.length]; exact hl.2.2), fun p3 h3 => q _ _ (Ext.new h3) (m.new h3) (.newL m.has h3 (l1.rep _))⟩
    · cases e
  · cases dy
    simp only [bop] at e
    split at e
    · cases Option.some.inj e
      rename_i i hl
      obtain ⟨p, xs, rfl, h1, s1, l1⟩ := dx.tup_inv
      refine op_repT pins s σ H _ _ v u Q I rx ry ⟨p, i, xs, rfl, rfl, by rw [hK]; exact s1, ?_, hl.2.1, hl.2.2.1, by rw [l1.length]; exact hl.2.2.2, fun p3 h3 => q _ _ (Ext.new h3) (m.new h3) (.newT m.has h3 (l1.rep _))⟩
      intro e1
      subst e1
      cases l1
      exact absurd hl.1 (fun z => nomatch z)
    · cases e
  · cases dx; cases dy
    simp only [bop] at e
    split at e
    · cases Option.some.inj e
      rename_i hl
      exact op_fdivW pins s σ H _ _ v u Q I rx ry ⟨_, _, rfl, rfl, hl, now _ (.int _)⟩
    · cases e
  · cases dx; cases dy
    simp only [bop] at e
    split at e
    · cases Option.some.inj e
      rename_i i j hl
      refine op_modN pins s σ H _ _ v u Q I rx ry ⟨_, _, rfl, rfl, by omega, ?_⟩
      show Q (.int (i.fmod j)) H
      rw [Int.fmod_eq_emod_of_nonneg i (by omega)]
      exact now _ (.int _)
    · cases e
  · cases dx; cases dy
    simp only [bop] at e
    split at e
    · cases Option.some.inj e
      rename_i hl
      exact op_pow pins s σ H _ _ v u Q I rx ry ⟨_, _, rfl, rfl, hl, now _ (.int _)⟩
    · cases e
def COp.x : COp → CmpOp
  | .eq => .Eq
  | .ne => .NotEq
  | .lt => .Lt
  | .le => .LtE
  | .gt => .Gt
  | .ge => .GtE
  | .inn => .In
  | .nin => .NotIn
  | .is => .Is
  | .isn => .IsNot
def rB (W : Wd) (g : D → D → Option Bool) : R2 := fun x y H Q => ∃ ι M a b k, MI W ι H M ∧ Den W.K ι H x a ∧ Den W.K ι H y b ∧ g a b = some k ∧ Q (.bl k) H
theorem nope {z : Bool} {o : Option Bool} (h : o = some z) (e : o = none) : False := by rw [e] at h; cases h
theorem den_non {K : PySem.W.Frag} {ι : Io} {H : Hp} {v : V} {d : D} (h : Den K ι H v d) : decide (v = .non) = (match d with | .none => true | _ => false) := by
  cases h <;> first | rfl | exact decide_eq_false (fun z => nomatch z)
theorem op_cmp (hK : X.K = W.K) (hu : X.A.units + 65 < cLine) (op : COp) : OpR X (compareOp op.x) (rB W (cop op)) := by
  intro pins s σ H x y v u Q I rx ry h
  obtain ⟨ι, M, a, b, k, m, dx, dy, e, q⟩ := h
  have hu' : X.A.units + 64 < cLine := by omega
  cases op with
  | eq =>
    simp only [cop] at e
    split at e
    · rename_i hs
      rw [Bool.and_eq_true] at hs
      cases Option.some.inj e
      exact op_eqD hu' pins s σ H x y v u Q I rx ry ⟨a, b, by rw [hK]; exact dx.dp, by rw [hK]; exact dy.dp, hs.1, hs.2, q⟩
    · cases e
  | ne =>
    simp only [cop] at e
    split at e
    · rename_i hs
      rw [Bool.and_eq_true] at hs
      cases Option.some.inj e
      exact op_neD hu' pins s σ H x y v u Q I rx ry ⟨a, b, by rw [hK]; exact dx.dp, by rw [hK]; exact dy.dp, hs.1, hs.2, q⟩
    · cases e
  | lt =>
    cases a <;> cases b <;> try (exact (no_some (show (none : Option Bool) = some k from e)).elim)
    · cases dx; cases dy; cases Option.some.inj e
      exact op_lt pins s σ H _ _ v u Q I rx ry ⟨_, _, rfl, rfl, q⟩
    · cases dx; cases dy; cases Option.some.inj e
      exact op_lt_str pins s σ H _ _ v u Q I rx ry ⟨_, _, rfl, rfl, q⟩
  | le =>
    cases a <;> cases b <;> try (exact (no_some (show (none : Option Bool) = some k from e)).elim)
    · cases dx; cases dy; cases Option.some.inj e
      exact op_le pins s σ H _ _ v u Q I rx ry ⟨_, _, rfl, rfl, q⟩
  | gt =>
    cases a <;> cases b <;> try (exact (no_some (show (none : Option Bool) = some k from e)).elim)
    · cases dx; cases dy; cases Option.some.inj e
      exact op_gt pins s σ H _ _ v u Q I rx ry ⟨_, _, rfl, rfl, q⟩
    · cases dx; cases dy; cases Option.some.inj e
      exact op_gt_str pins s σ H _ _ v u Q I rx ry ⟨_, _, rfl, rfl, q⟩
  | ge =>
    cases a <;> cases b <;> try (exact (no_some (show (none : Option Bool) = some k from e)).elim)
    · cases dx; cases dy; cases Option.some.inj e
      exact op_ge pins s σ H _ _ v u Q I rx ry ⟨_, _, rfl, rfl, q⟩
  | inn =>
    cases b with
    | list ys =>
      simp only [cop] at e
      obtain ⟨p, xs, rfl, h1, s1, l1⟩ := id dy.list_inv
      split at e
      · rename_i hf
        rw [Bool.and_eq_true] at hf
        cases Option.some.inj e
        exact op_in_seq pins s σ H x _ v u Q I rx ry ⟨p, xs, rfl, .inl (by rw [hK]; exact s1), dx.flat hf.1, l1.flat hf.2, by rw [l1.inV dx hf.2 hf.1]; exact q⟩
      · split at e
        · rename_i hs
          rw [Bool.and_eq_true] at hs
          cases Option.some.inj e
          exact op_inD hu pins s σ H x _ v u Q I rx ry ⟨a, ys, by rw [hK]; exact dx.dp, by rw [hK]; exact dy.dp, hs.1, hs.2, q⟩
        · cases e
    | tuple ys =>
      simp only [cop] at e
      obtain ⟨p, xs, rfl, h1, s1, l1⟩ := id dy.tup_inv
      split at e
      · rename_i hf
        rw [Bool.and_eq_true] at hf
        cases Option.some.inj e
        exact op_in_seq pins s σ H x _ v u Q I rx ry ⟨p, xs, rfl, .inr (by rw [hK]; exact s1), dx.flat hf.1, l1.flat hf.2, by rw [l1.inV dx hf.2 hf.1]; exact q⟩
      · cases e
    | str ys =>
      cases a <;> try (exact (no_some (show (none : Option Bool) = some k from e)).elim)
      cases dx; cases dy; cases Option.some.inj e
      exact op_in_str pins s σ H _ _ v u Q I rx ry ⟨_, _, rfl, rfl, q⟩
    | _ => cases a <;> exact (no_some (show (none : Option Bool) = some k from e)).elim
  | nin =>
    cases b with
    | list ys =>
      simp only [cop] at e
      obtain ⟨p, xs, rfl, h1, s1, l1⟩ := id dy.list_inv
      split at e
      · rename_i hf
        rw [Bool.and_eq_true] at hf
        cases Option.some.inj e
        exact op_notIn_seq pins s σ H x _ v u Q I rx ry ⟨p, xs, rfl, .inl (by rw [hK]; exact s1), dx.flat hf.1, l1.flat hf.2, by rw [l1.inV dx hf.2 hf.1]; exact q⟩
      · split at e
        · rename_i hs
          rw [Bool.and_eq_true] at hs
          cases Option.some.inj e
          exact op_notInD hu pins s σ H x _ v u Q I rx ry ⟨a, ys, by rw [hK]; exact dx.dp, by rw [hK]; exact dy.dp, hs.1, hs.2, q⟩
        · cases e
    | tuple ys =>
      simp only [cop] at e
      obtain ⟨p, xs, rfl, h1, s1, l1⟩ := id dy.tup_inv
      split at e
      · rename_i hf
        rw [Bool.and_eq_true] at hf
        cases Option.some.inj e
        exact op_notIn_seq pins s σ H x _ v u Q I rx ry ⟨p, xs, rfl, .inr (by rw [hK]; exact s1), dx.flat hf.1, l1.flat hf.2, by rw [l1.inV dx hf.2 hf.1]; exact q⟩
      · cases e
    | str ys =>
      cases a <;> try (exact (no_some (show (none : Option Bool) = some k from e)).elim)
      cases dx; cases dy; cases Option.some.inj e
      exact op_notin_str pins s σ H _ _ v u Q I rx ry ⟨_, _, rfl, rfl, q⟩
    | _ => cases a <;> exact (no_some (show (none : Option Bool) = some k from e)).elim
  | is =>
    cases b with
    | none =>
      cases dy
      refine op_isN pins s σ H x _ v u Q I rx ry ⟨rfl, ?_⟩
      rw [den_non dx]
      cases a <;> (cases Option.some.inj e; exact q)
    | bool b =>
      cases a <;> try (exact (no_some (show (none : Option Bool) = some k from e)).elim)
      cases dx; cases dy; cases Option.some.inj e
      exact op_is_bl pins s σ H _ _ v u Q I rx ry ⟨_, _, rfl, rfl, q⟩
    | _ => cases a <;> exact (no_some (show (none : Option Bool) = some k from e)).elim
  | isn =>
    cases b with
    | none =>
      cases dy
      refine op_notN pins s σ H x _ v u Q I rx ry ⟨rfl, ?_⟩
      rw [den_non dx]
      cases a <;> (cases Option.some.inj e; exact q)
    | _ => cases a <;> exact (no_some (show (none : Option Bool) = some k from e)).elim
end
end Zt
namespace Zt
open PySem PySem.Spec PyProof.Rows L2
section
variable {W : Wd} {X : Cx}
theorem EndG.of {wx : WX} {σ : St} {ι : Io} {H : Hp} {Q : VK} {o : Option D} {M : Mem} (h : EndG W wx σ ι H (DenZ W.K) Q (R.of (o.map .d) M)) : ∃ z, o = some z ∧ ∀ v H', Ext ι H ι H' → MI W ι H' M → Den W.K ι H' v z → Q v H' := by
  cases o with
  | none => exact h.elim
  | some z => exact ⟨z, rfl, fun v H' e m d => h ι v H' e m (.d d)⟩
/-- what a step of the evaluator wants, by values -/
def rQ (W : Wd) (σ : St) (ι : Io) (H : Hp) (Q : VK) (r : R Z) : Prop := ∃ wx, EndG W wx σ ι H (DenZ W.K) Q r
def rB2 (W : Wd) (f : Z → Z → Mem → R Z) : R2 := fun x y H Q => ∃ ι M a b wx σ, MI W ι H M ∧ DenZ W.K ι H x a ∧ DenZ W.K ι H y b ∧ EndG W wx σ ι H (DenZ W.K) Q (f a b M)
def rBn (W : Wd) (f : List Z → Mem → R Z) : List V → Hp → VK → Prop := fun xs H Q => ∃ ι M zs wx σ, MI W ι H M ∧ DenZL W.K ι H xs zs ∧ EndG W wx σ ι H (DenZ W.K) Q (f zs M)
theorem lsZ_rd {ι : Io} {H : Hp} {M : Mem} {v : V} {z : Z} {ds : List D} (m : MI W ι H M) (d : DenZ W.K ι H v z) (e : lsZ M z = some ds) : ∃ a us, v = .ref a ∧ H a = some (.lst us) ∧ DenL W.K ι H us ds := by
  cases d with
  | @r n a ha =>
    have e : getL M n = some ds := e
    unfold getL at e
    split at e
    · rename_i xs q
      cases e
      obtain ⟨us, h1, l⟩ := m.m.ok n _ a q ha
      exact ⟨a, us, rfl, h1, l⟩
    · cases e
  | d d =>
    cases d with
    | lst h l =>
      cases e
      exact ⟨_, _, rfl, h.2, l⟩
    | _ => cases e
theorem op_binZ (hK : X.K = W.K) (op : BOp) : OpR X (binaryOp op.x) (rB2 W (opz op)) := by
  intro pins s σ H x y v u Q I rx ry h
  obtain ⟨ι, M, a, b, wx, σ', m, dx, dy, e⟩ := h
  have mixed : EndG W wx σ' ι H (DenZ W.K) Q (if op = .add then match lsZ M a, lsZ M b with
      | some xs, some ys => if xs.length + ys.length ≤ slen then .ok (.d (.list (xs ++ ys))) M else .bad
      | _, _ => .bad
    else .bad) → wpAny (model X.prog X.w) X.A (binaryOp op.x v u) (EP X pins σ Q) X.xe s := fun hh => by
    split at hh
    · rename_i hop
      subst hop
      split at hh
      · rename_i xs ys q1 q2
        split at hh
        · rename_i hl
          obtain ⟨p, us, rfl, h1, l1⟩ := lsZ_rd m dx q1
          obtain ⟨p2, ws, rfl, h2, l2⟩ := lsZ_rd m dy q2
          exact op_cat pins s σ H _ _ v u Q I rx ry ⟨p, p2, us, ws, rfl, rfl, h1, h2, sl_of (by rw [l1.length, l2.length]; exact hl), fun p3 h3 => hh _ _ _ (Ext.new h3) (m.new h3) (.d (.newL m.has h3 (l1.append l2)))⟩
        · exact hh.elim
      · exact hh.elim
    · exact hh.elim
  cases a with
  | r _ => exact mixed e
  | d a =>
    cases b with
    | r _ => exact mixed e
    | d b =>
      cases dx with
      | d dx =>
      cases dy with
      | d dy =>
      obtain ⟨z, ez, q⟩ := EndG.of e
      exact op_bin hK op pins s σ H x y v u Q I rx ry ⟨ι, M, _, _, z, m, dx, dy, ez, q⟩
theorem op_addM : OpR X (binaryOp .Add) (rB2 W adz) := by
  intro pins s σ H x y v u Q I rx ry h
  obtain ⟨ι, M, a, b, wx, σ', m, dx, dy, e⟩ := h
  unfold adz at e
  split at e
  · rename_i xs ys q1 q2
    split at e
    · rename_i hl
      obtain ⟨p, us, rfl, h1, l1⟩ := lsZ_rd m dx q1
      obtain ⟨p2, ws, rfl, h2, l2⟩ := lsZ_rd m dy q2
      refine op_cat pins s σ H _ _ v u Q I rx ry ⟨p, p2, us, ws, rfl, rfl, h1, h2, sl_of (by rw [l1.length, l2.length]; exact hl), fun p3 h3 => e _ _ _ (Ext.newM h3) (m.newM h3 (l1.append l2)) (.r ?_)⟩
      rw [← m.m.len]
      show (ι.pl ++ [p3])[ι.pl.length]? = some p3
      rw [List.getElem?_append_right (Nat.le_refl _)]
      simp
    · exact e.elim
  · exact e.elim
def cmpZ (op : COp) (x y : Z) (M : Mem) : R Z := (cpz op x y M).bind fun k M1 => .ok (boolZ k) M1
theorem op_cmpZ (hK : X.K = W.K) (hu : X.A.units + 65 < cLine) (op : COp) : OpR X (compareOp op.x) (rB2 W (cmpZ op)) := by
  intro pins s σ H x y v u Q I rx ry h
  obtain ⟨ι, M, a, b, wx, σ', m, dx, dy, e⟩ := h
  cases dx with
  | r _ => exact e.elim
  | d dx =>
    cases dy with
    | r _ => exact e.elim
    | d dy =>
      rename_i a b
      have e : EndG W wx σ' ι H (DenZ W.K) Q ((R.of (cop op a b) M).bind fun k M1 => .ok (boolZ k) M1) := e
      cases q : cop op a b with
      | none => rw [q] at e; exact e.elim
      | some k =>
        rw [q] at e
        exact op_cmp hK hu op pins s σ H x y v u Q I rx ry ⟨ι, M, _, _, k, m, dx, dy, q, e ι (.bl k) H (Ext.refl ι H) m (.d (.bl k))⟩
theorem atI_den {K : PySem.W.Frag} {ι : Io} {H : Hp} {xs : List V} {ds : List D} {i : Int} {z : D} (l : DenL K ι H xs ds) (e : atI ds i = some z) : ∃ v, atI xs i = some v ∧ Den K ι H v z := by
  unfold atI at e ⊢
  rw [l.length]
  cases q : ixN ds.length i with
  | none => rw [q] at e; cases e
  | some j =>
    rw [q] at e
    exact l.get e
theorem MI.cell {ι : Io} {H : Hp} {M : Mem} (m : MI W ι H M) {n : Nat} {o : MO} {a : Addr} (e : M[n]? = some o) (h : ι.pl[n]? = some a) : MOk W.K ι H a o := m.m.ok n o a e h
theorem ix_Z (hK : X.K = W.K) : IxR X (rB2 W subz) := by
  intro value slice pins s σ H x y v u Q I rx ry h hs
  obtain ⟨ι, M, a, b, wx, σ', m, dx, dy, e⟩ := h
  have li : ∀ (p : Addr) (xs : List V) (ds : List D) (i : Int) (M1 : Mem), x = .ref p → y = .int i → SqL X.K H p xs → DenL W.K ι H xs ds → EndG W wx σ' ι H (DenZ W.K) Q (R.of ((itemD (.list ds) i).map .d) M) →
      wpAny (model X.prog X.w) X.A (subscriptTail value slice v u) (EP X pins σ Q) X.xe s := fun p xs ds i M1 e1 e2 hq l hE => by
    obtain ⟨z, ez, q⟩ := EndG.of hE
    obtain ⟨w, e3, d3⟩ := atI_den l ez
    exact ix_list value slice pins s σ H x y v u Q I rx ry ⟨p, xs, i, w, e1, e2, hq, e3, q w H (Ext.refl ι H) m d3⟩ hs
  cases dx with
  | d dx =>
    cases dy with
    | r _ => cases dx <;> exact e.elim
    | d dy =>
      cases dy with
      | int i =>
        rename_i d
        have e : EndG W wx σ' ι H (DenZ W.K) Q (R.of ((itemD d i).map .d) M) := e
        obtain ⟨z, ez, q⟩ := EndG.of e
        cases dx with
        | lst h1 l1 => exact li _ _ _ i M rfl rfl (.inl (.inl h1.2)) l1 e
        | tup h1 l1 =>
          obtain ⟨w, e3, d3⟩ := atI_den l1 ez
          exact ix_tup value slice pins s σ H _ _ v u Q I rx ry ⟨_, _, i, w, rfl, rfl, by rw [hK]; exact h1.imp (fun z => z.2) id, e3, q w H (Ext.refl ι H) m d3⟩ hs
        | str t =>
          simp only [itemD] at ez
          split at ez
          · rename_i hl
            cases q3 : atI t.cps.toList i with
            | none => rw [q3] at ez; cases ez
            | some c =>
              rw [q3] at ez
              cases ez
              exact ix_str value slice pins s σ H _ _ v u Q I rx ry ⟨t, i, c, rfl, rfl, sl_of hl, q3, q _ H (Ext.refl ι H) m (.str _)⟩ hs
          · cases ez
        | _ => cases ez
      | _ => cases dx <;> exact e.elim
  | r hx =>
    rename_i n p
    cases dy with
    | r _ => exact e.elim
    | d dy =>
      cases dy with
      | int i =>
        have e : EndG W wx σ' ι H (DenZ W.K) Q (match M[n]? with
          | some (.lst xs) => R.of ((itemD (.list xs) i).map .d) M
          | some (.frz xs) => R.of ((itemD (.list xs) i).map .d) M
          | _ => .bad) := e
        cases q : M[n]? with
        | none => rw [q] at e; exact e.elim
        | some o =>
          rw [q] at e
          have c := m.cell q hx
          cases o with
          | lst ds =>
            obtain ⟨xs, h1, l1⟩ := c
            exact li p xs ds i M rfl rfl (.inl (.inl h1)) l1 e
          | frz ds =>
            obtain ⟨o, xs, h1, l1⟩ := c
            exact li p xs ds i M rfl rfl (.inl (.inr ⟨o, h1⟩)) l1 e
          | dic _ => exact e.elim
          | ins _ _ => exact e.elim
      | _ => exact e.elim
theorem cut_den {K : PySem.W.Frag} {ι : Io} {H : Hp} {xs : List V} {ds : List D} (l : DenL K ι H xs ds) (lo hi : Option Int) : DenL K ι H (cutV xs lo hi) (cut ds lo hi) := by
  unfold cutV cut
  rw [l.length]
  exact (l.drop _).take _
theorem cut_all {α : Type} {xs : List α} {lo hi : Option Int} (h : HT.sIx xs.length 0 lo = 0 ∧ HT.sIx xs.length xs.length hi = xs.length) : cut xs lo hi = xs := by
  unfold cut
  rw [h.1, h.2]
  simp
def rSlZ (W : Wd) : V → Option Int → Option Int → Hp → VK → Prop := fun x lo hi H Q => ∃ ι M a wx σ, MI W ι H M ∧ DenZ W.K ι H x a ∧ EndG W wx σ ι H (DenZ W.K) Q (slz a lo hi M)
theorem sl_Z (hK : X.K = W.K) : SlR X (rSlZ W) := by
  intro pins s σ H x v vl vu lo hi sl Q I rx hs pl pu h
  obtain ⟨ι, M, a, wx, σ', m, dx, e⟩ := h
  cases dx with
  | r _ => exact e.elim
  | d dx =>
    rename_i d
    have e : EndG W wx σ' ι H (DenZ W.K) Q (R.of ((slcD d lo hi).map .d) M) := e
    obtain ⟨z, ez, q⟩ := EndG.of e
    cases dx with
    | lst h1 l1 =>
      cases ez
      exact sl_list pins s σ H _ v vl vu lo hi sl Q I rx hs pl pu ⟨_, _, rfl, .inl (.inl h1.2), fun p hp => q _ _ (Ext.new hp) (m.new hp) (.newL m.has hp (cut_den l1 lo hi))⟩
    | tup h1 l1 =>
      cases ez
      refine sl_tupA pins s σ H _ v vl vu lo hi sl Q I rx hs pl pu ⟨_, _, rfl, by rw [hK]; exact h1.imp (fun z => z.2) id, fun hw => ?_, fun _ p hp => q _ _ (Ext.new hp) (m.new hp) (.newT m.has hp (cut_den l1 lo hi))⟩
      have hw' := hw
      rw [l1.length] at hw'
      rw [cut_all hw'] at q
      exact q _ H (Ext.refl ι H) m (.tup h1 l1)
    | str t =>
      simp only [slcD] at ez
      split at ez
      · rename_i hl
        cases ez
        exact sl_str pins s σ H _ v vl vu lo hi sl Q I rx hs pl pu ⟨t, rfl, sl_of hl, q _ H (Ext.refl ι H) m (.str _)⟩
      · cases ez
    | _ => cases ez
/-- truth -/
theorem tru_Z {ι : Io} {H : Hp} {M : Mem} {x : V} {z : Z} {k : Bool} (hK : X.K = W.K) (m : MI W ι H M) (d : DenZ W.K ι H x z) (e : truthZ z M = some k) : TruV X.K x H k := by
  rw [hK]
  cases d with
  | d d =>
    cases d with
    | non => cases e; rfl
    | bl b => cases e; rfl
    | int i => cases e; rfl
    | str y =>
      simp only [truthZ, truth] at e
      split at e
      · rename_i hl
        cases e
        refine ⟨sl_of hl, ?_⟩
        show (y.length != 0) = ((y.length : Int) != 0)
        rw [Bool.eq_iff_iff]
        simp
      · cases e
    | lst h l =>
      cases e
      refine .inl ⟨_, .inl (.inl h.2), ?_⟩
      have := l.length
      cases l <;> rfl
    | tup h l =>
      cases e
      refine .inr (.inl ⟨_, h.imp (fun z => z.2) id, ?_⟩)
      cases l <;> rfl
  | r h =>
    rename_i n a
    have e : (match M[n]? with
      | some (.lst xs) => some (!xs.isEmpty)
      | _ => none) = some k := e
    cases q : M[n]? with
    | none => rw [q] at e; cases e
    | some o =>
      rw [q] at e
      have c := m.cell q h
      cases o with
      | lst ds =>
        cases e
        obtain ⟨xs, h1, l⟩ := c
        refine .inl ⟨_, .inl (.inl h1), ?_⟩
        cases l <;> rfl
      | _ => cases e
end
end Zt
namespace Zt
open PySem PySem.Spec PyProof.Rows L2
section
variable {W : Wd} {X : Cx}
theorem insI_perm (x : Int) : ∀ l : List Int, (insI x l).Perm (x :: l)
  | [] => .refl _
  | y :: r => by
    unfold insI
    split
    · exact .refl _
    · exact ((insI_perm x r).cons y).trans (.swap x y r)
theorem sortI_perm : ∀ l : List Int, (sortI l).Perm l
  | [] => .refl _
  | x :: r => (insI_perm x (sortI r)).trans ((sortI_perm r).cons x)
theorem insI_rise (x : Int) : ∀ {l : List Int}, l.Pairwise (· ≤ ·) → (insI x l).Pairwise (· ≤ ·)
  | [], _ => by simp [insI]
  | y :: r, h => by
    unfold insI
    rw [List.pairwise_cons] at h
    split
    · rename_i hx
      rw [List.pairwise_cons]
      refine ⟨fun z hz => ?_, by rw [List.pairwise_cons]; exact h⟩
      rcases List.mem_cons.mp hz with e | e
      · rw [e]; exact hx
      · exact Int.le_trans hx (h.1 z e)
    · rename_i hx
      rw [List.pairwise_cons]
      refine ⟨fun z hz => ?_, insI_rise x h.2⟩
      rcases List.mem_cons.mp ((insI_perm x r).mem_iff.mp hz) with e | e
      · rw [e]; omega
      · exact h.1 z e
theorem sortI_rise : ∀ l : List Int, (sortI l).Pairwise (· ≤ ·)
  | [] => .nil
  | x :: r => insI_rise x (sortI_rise r)
theorem rise_eq {l m : List Int} (p : l.Perm m) (a : l.Pairwise (· ≤ ·)) (b : m.Pairwise (· ≤ ·)) : l = m :=
  p.eq_of_pairwise (fun x y _ _ h k => Int.le_antisymm h k) a b
theorem lt_irr (a : List Nat) : ¬ a < a := List.lt_irrefl a
theorem lt_asym {a b : List Nat} (h : a < b) : ¬ b < a := fun k => List.lt_irrefl a (List.lt_trans h k)
theorem le_anti {a b : List Nat} (h : ¬ b < a) (k : ¬ a < b) : a = b := List.le_antisymm (List.not_lt.mp h) (List.not_lt.mp k)
theorem strLt_no {x y : Str} : strLt x y = false ↔ ¬ x.cps.toList < y.cps.toList := by
  unfold strLt
  exact decide_eq_false_iff_not
def RiseS (l : List Str) : Prop := l.Pairwise fun a b => ¬ b.cps.toList < a.cps.toList
theorem insS_perm (x : Str) : ∀ l : List Str, (insS x l).Perm (x :: l)
  | [] => .refl _
  | y :: r => by
    unfold insS
    split
    · exact ((insS_perm x r).cons y).trans (.swap x y r)
    · exact .refl _
theorem sortS_perm : ∀ l : List Str, (sortS l).Perm l
  | [] => .refl _
  | x :: r => (insS_perm x (sortS r)).trans ((sortS_perm r).cons x)
theorem nlt_trans {a b c : List Nat} (h : ¬ b < a) (k : ¬ c < b) : ¬ c < a := by
  have h1 : a ≤ b := List.not_lt.mp h
  have h2 : b ≤ c := List.not_lt.mp k
  exact List.not_lt.mpr (List.le_trans h1 h2)
theorem insS_rise (x : Str) : ∀ {l : List Str}, RiseS l → RiseS (insS x l)
  | [], _ => by simp [insS, RiseS]
  | y :: r, h => by
    unfold insS
    unfold RiseS at h
    rw [List.pairwise_cons] at h
    split
    · rename_i hx
      have hx : y.cps.toList < x.cps.toList := of_decide_eq_true hx
      unfold RiseS
      rw [List.pairwise_cons]
      refine ⟨fun z hz => ?_, insS_rise x h.2⟩
      rcases List.mem_cons.mp ((insS_perm x r).mem_iff.mp hz) with e | e
      · rw [e]; exact lt_asym hx
      · exact h.1 z e
    · rename_i hx
      have hx : ¬ y.cps.toList < x.cps.toList := fun z => hx (decide_eq_true z)
      unfold RiseS
      rw [List.pairwise_cons]
      refine ⟨fun z hz => ?_, by rw [List.pairwise_cons]; exact h⟩
      rcases List.mem_cons.mp hz with e | e
      · rw [e]; exact hx
      · exact nlt_trans hx (h.1 z e)
theorem sortS_rise : ∀ l : List Str, RiseS (sortS l)
  | [] => .nil
  | x :: r => insS_rise x (sortS_rise r)
theorem riseS_eq {l m : List Str} (p : l.Perm m) (a : RiseS l) (b : RiseS m) : l = m :=
  p.eq_of_pairwise (fun x y _ _ h k => by
    have e := le_anti h k
    obtain ⟨⟨x⟩⟩ := x
    obtain ⟨⟨y⟩⟩ := y
    have e : x = y := e
    rw [e]) a b
theorem ltC : ∀ (a b : List Nat), ltCps a b = true ↔ a < b
  | [], [] => by simp [ltCps]
  | [], _ :: _ => by simp [ltCps]
  | _ :: _, [] => by simp [ltCps]
  | x :: a, y :: b => by
    unfold ltCps
    rw [Bool.or_eq_true, Bool.and_eq_true, ltC a b, List.cons_lt_cons_iff]
    simp
theorem cut1 {x y : Str} {r : List Str} (h : sortedS (x :: y :: r) = true) : ¬ y.cps.toList < x.cps.toList ∧ sortedS (y :: r) = true := by
  have h : (!ltCps y.cps.toList x.cps.toList && risingS y r) = true := h
  rw [Bool.and_eq_true] at h
  refine ⟨fun z => ?_, h.2⟩
  have h1 := h.1
  rw [(ltC _ _).mpr z] at h1
  cases h1
theorem riseS_of : ∀ {l : List Str}, sortedS l = true → RiseS l
  | [], _ => .nil
  | [x], _ => by simp [RiseS]
  | x :: y :: r, h => by
    obtain ⟨h1, h2⟩ := cut1 h
    have ih := riseS_of h2
    unfold RiseS at ih ⊢
    rw [List.pairwise_cons]
    refine ⟨fun z hz => ?_, ih⟩
    rcases List.mem_cons.mp hz with e | e
    · rw [e]; exact h1
    · exact nlt_trans h1 ((List.pairwise_cons.mp ih).1 z e)
def Bi.v : Bi → Value
  | .len => .builtin "len"
  | .tuple => .type "tuple"
  | .list => .type "list"
  | .sum => .builtin "sum"
  | .max => .builtin "max"
  | .min => .builtin "min"
  | .abs => .builtin "abs"
  | .int => .type "int"
  | .str => .type "str"
  | .bool => .type "bool"
  | .sorted => .builtin "sorted"
  | .chars => .type "list"
  | .sortedC => .builtin "sorted"
theorem foldl_max : ∀ (r : List Int) (x : Int), (r.foldl max x = x ∨ r.foldl max x ∈ r) ∧ x ≤ r.foldl max x ∧ ∀ y ∈ r, y ≤ r.foldl max x
  | [], x => ⟨.inl rfl, Int.le_refl _, fun y h => nomatch h⟩
  | z :: r, x => by
    obtain ⟨h1, h2, h3⟩ := foldl_max r (max x z)
    have hm : max x z = x ∨ max x z = z := by omega
    have hx : x ≤ max x z := by omega
    have hz : z ≤ max x z := by omega
    refine ⟨?_, Int.le_trans hx h2, fun y hy => ?_⟩
    · rcases h1 with h1 | h1
      · rcases hm with e | e
        · exact .inl (by show r.foldl max (max x z) = x; rw [h1, e])
        · exact .inr (by show r.foldl max (max x z) ∈ z :: r; rw [h1, e]; exact List.mem_cons_self)
      · exact .inr (List.mem_cons_of_mem _ h1)
    · rcases List.mem_cons.mp hy with e | e
      · rw [e]; exact Int.le_trans hz h2
      · exact h3 y e
theorem foldl_min : ∀ (r : List Int) (x : Int), (r.foldl min x = x ∨ r.foldl min x ∈ r) ∧ r.foldl min x ≤ x ∧ ∀ y ∈ r, r.foldl min x ≤ y
  | [], x => ⟨.inl rfl, Int.le_refl _, fun y h => nomatch h⟩
  | z :: r, x => by
    obtain ⟨h1, h2, h3⟩ := foldl_min r (min x z)
    have hm : min x z = x ∨ min x z = z := by omega
    have hx : min x z ≤ x := by omega
    have hz : min x z ≤ z := by omega
    refine ⟨?_, Int.le_trans h2 hx, fun y hy => ?_⟩
    · rcases h1 with h1 | h1
      · rcases hm with e | e
        · exact .inl (by show r.foldl min (min x z) = x; rw [h1, e])
        · exact .inr (by show r.foldl min (min x z) ∈ z :: r; rw [h1, e]; exact List.mem_cons_self)
      · exact .inr (List.mem_cons_of_mem _ h1)
    · rcases List.mem_cons.mp hy with e | e
      · rw [e]; exact Int.le_trans h2 hz
      · exact h3 y e
theorem max_is {x m : Int} {r : List Int} (h : m ∈ x :: r) (g : ∀ y, y ∈ x :: r → y ≤ m) : r.foldl max x = m := by
  obtain ⟨h1, h2, h3⟩ := foldl_max r x
  refine Int.le_antisymm ?_ ?_
  · rcases h1 with e | e
    · rw [e]; exact g x List.mem_cons_self
    · exact g _ (List.mem_cons_of_mem _ e)
  · rcases List.mem_cons.mp h with e | e
    · rw [e]; exact h2
    · exact h3 m e
theorem min_is {x m : Int} {r : List Int} (h : m ∈ x :: r) (g : ∀ y, y ∈ x :: r → m ≤ y) : r.foldl min x = m := by
  obtain ⟨h1, h2, h3⟩ := foldl_min r x
  refine Int.le_antisymm ?_ ?_
  · rcases List.mem_cons.mp h with e | e
    · rw [e]; exact h2
    · exact h3 m e
  · rcases h1 with e | e
    · rw [e]; exact g x List.mem_cons_self
    · exact g _ (List.mem_cons_of_mem _ e)
theorem no_none {σ : St} {ι : Io} {H : Hp} {M : Mem} {wx : WX} {Q : VK} {P : Prop} (e : EndG W wx σ ι H (DenZ W.K) Q (R.of (none : Option Z) M)) : P := e.elim
theorem DenL.one {K : PySem.W.Frag} {ι : Io} {H : Hp} {vs : List V} {d : D} (l : DenL K ι H vs [d]) : ∃ v, vs = [v] ∧ Den K ι H v d := by
  cases l with
  | cons h l =>
    cases l
    exact ⟨_, rfl, h⟩
theorem DenL.two {K : PySem.W.Frag} {ι : Io} {H : Hp} {vs : List V} {d e : D} (l : DenL K ι H vs [d, e]) : ∃ v w, vs = [v, w] ∧ Den K ι H v d ∧ Den K ι H w e := by
  cases l with
  | cons h l =>
    obtain ⟨w, rfl, k⟩ := l.one
    exact ⟨_, w, rfl, h, k⟩
theorem vals_signs : ∀ (l : List Nat) (vs : List Value), vs.length = l.length → (∀ (j : Nat) (v : Value), vs[j]? = some v → ∃ (c : Nat) (u : Tok), l[j]? = some c ∧ v = Value.str ⟨#[c]⟩ u) → Vals (l.map fun c => V.str ⟨#[c]⟩) vs
  | [], [], _, _ => .nil
  | [], _ :: _, h, _ => nomatch h
  | _ :: _, [], h, _ => nomatch h
  | c :: l, v :: vs, h, k => by
    obtain ⟨c', u, h1, h2⟩ := k 0 v rfl
    cases h1
    subst h2
    exact .cons ⟨u, rfl⟩ (vals_signs l vs (by simpa using h) fun j w hw => k (j + 1) w hw)
theorem DenL.signs {K : PySem.W.Frag} {ι : Io} {H : Hp} (x : Str) : DenL K ι H (x.cps.toList.map fun c => V.str ⟨#[c]⟩) (signsOf x) := by
  unfold signsOf
  generalize x.cps.toList = l
  induction l with
  | nil => exact .nil
  | cons c l ih => exact .cons (.str _) ih
theorem cr_chars {X : Cx} (hc : X.calm = true) : CallR X (.type "list") (fun xs H Q => ∃ x : Str, xs = [.str x] ∧ x.length ≤ slen ∧ ∀ p, H p = none → Q (.ref p) (upd H p (.lst (x.cps.toList.map fun c => V.str ⟨#[c]⟩)))) := by
  intro pins s σ H xs us Q I r h
  obtain ⟨x, rfl, hl, q⟩ := h
  cases r with
  | cons r1 rr =>
    cases rr
    obtain ⟨t, rfl⟩ := r1
    have hz : x.cps.size ≤ sizeLine := Nat.le_trans hl (by decide +kernel)
    refine call_list_str (I.ok.hd hc) x t (fun h' tk acc c' hk hS hacc => ?_) hz
    have hp := I.hok.fresh (Nat.le_refl s.heap.objs.size)
    refine ⟨.ref s.heap.objs.size, upd H s.heap.objs.size (.lst (x.cps.toList.map fun c => V.str ⟨#[c]⟩)), I.laid (t' := tk) hk (Nat.le_refl _) ⟨by rw [List.length_map]; simpa using hz, acc.toList, c', vals_signs _ _ (by simpa using hacc.1) fun j v hv => ?_, by simpa using hS⟩, rfl, q _ hp⟩
    obtain ⟨c, u, h1, h2⟩ := hacc.2 j v (by simpa using hv)
    exact ⟨c, u, by simpa using h1, h2⟩
theorem call_bi (hK : X.K = W.K) (b : Bi) (hc : X.calm = true ∨ b.walks = false) : CallR X b.v (rBn W (biz b)) := by
  intro pins s σ H xs us Q I r h
  obtain ⟨ι, M, zs, wx, σ', m, dz, e⟩ := h
  -- one changeable list
  have one : ∀ (n : Nat) (p : Addr), zs = [.r n] → xs = [.ref p] → ι.pl[n]? = some p → wpAny (model X.prog X.w) X.A (call b.v us) (EP X pins σ Q) X.xe s := fun n p ez ex hp => by
    subst ez
    subst ex
    have e : EndG W wx σ' ι H (DenZ W.K) Q (match (generalizing := false) b, M[n]? with
      | .len, some (.lst xs) => .ok (.d (.int xs.length)) M
      | .len, some (.frz xs) => .ok (.d (.int xs.length)) M
      | .list, some (.lst xs) => .ok (.d (.list xs)) M
      | .tuple, some (.lst xs) => .ok (.d (.tuple xs)) M
      | .sorted, some (.lst xs) => R.of ((bid .sorted [.list xs]).map .d) M
      | _, _ => .bad) := e
    cases q : M[n]? with
    | none => rw [q] at e; cases b <;> exact e.elim
    | some o =>
      rw [q] at e
      have c := m.cell q hp
      cases o with
      | lst ds =>
        obtain ⟨ys, h1, l1⟩ := c
        cases b <;> try exact e.elim
        · refine call_len pins s σ H _ us Q I r ⟨_, ys.length, rfl, .inl ⟨ys, .inl (.inl h1), rfl⟩, ?_⟩
          rw [l1.length]
          exact e ι _ H (Ext.refl ι H) m (.d (.int _))
        · exact call_tuple_of pins s σ H _ us Q I r ⟨p, ys, rfl, .inl ⟨.inl (.inl h1), fun l hl => e ι _ _ (Ext.new hl) (m.new hl) (.d (.newT m.has hl l1))⟩⟩
        · exact call_list_of pins s σ H _ us Q I r ⟨p, ys, rfl, .inl (.inl (.inl h1)), fun l hl => e ι _ _ (Ext.new hl) (m.new hl) (.d (.newL m.has hl l1))⟩
        · obtain ⟨z, ez, q⟩ := EndG.of (show EndG W wx σ' ι H (DenZ W.K) Q (R.of ((bid .sorted [.list ds]).map .d) M) from e)
          simp only [bid] at ez
          split at ez
          · rename_i ns q3
            cases ez
            obtain ⟨e1, e2⟩ := l1.ofInts q3
            subst e1
            exact cr_sortedI pins s σ H _ us Q I r ⟨_, ns, rfl, .inl (.inl h1), fun ns' p hp hr hn => by
              have e3 : sortI ns = ns' := rise_eq ((sortI_perm ns).trans hp.symm) (sortI_rise ns) hr
              rw [e3] at q
              exact q _ _ (Ext.new hn) (m.new hn) (.newL m.has hn (DenL.ints ns'))⟩
          · split at ez
            · rename_i ss q4
              split at ez
              · rename_i hl
                cases ez
                obtain ⟨e1, e2⟩ := l1.ofStrs q4
                subst e1
                exact cr_sortedS pins s σ H _ us Q I r ⟨_, ss, rfl, .inl (.inl h1), hl, fun ns' p hp hr hn => by
                  have e3 : sortS ss = ns' := riseS_eq ((sortS_perm ss).trans hp.symm) (sortS_rise ss) (riseS_of hr)
                  rw [e3] at q
                  exact q _ _ (Ext.new hn) (m.new hn) (.newL m.has hn (DenL.strs ns'))⟩
              · cases ez
            · cases ez
      | frz ds =>
        obtain ⟨o, ys, h1, l1⟩ := c
        cases b <;> try exact e.elim
        refine call_len pins s σ H _ us Q I r ⟨_, ys.length, rfl, .inl ⟨ys, .inl (.inr ⟨o, h1⟩), rfl⟩, ?_⟩
        rw [l1.length]
        exact e ι _ H (Ext.refl ι H) m (.d (.int _))
      | dic _ => cases b <;> exact e.elim
      | ins _ _ => cases b <;> exact e.elim
  by_cases hz : ∃ n, zs = [.r n]
  · obtain ⟨n, ez⟩ := hz
    subst ez
    cases dz with
    | cons d l =>
      cases l
      cases d with
      | r hp => exact one n _ rfl rfl hp
  · have e : EndG W wx σ' ι H (DenZ W.K) Q (R.of (((dsOf zs).bind (bid b)).map .d) M) := by
      have : biz b zs M = R.of (((dsOf zs).bind (bid b)).map .d) M := by
        unfold biz
        split
        · rename_i n
          exact absurd ⟨n, rfl⟩ hz
        · rfl
      rw [← this]
      exact e
    cases qs : dsOf zs with
    | none => rw [qs] at e; exact e.elim
    | some ds =>
      rw [qs] at e
      have l := dz.data qs
      obtain ⟨z, ez, q⟩ := EndG.of e
      have ez : bid b ds = some z := ez
      have now : ∀ w : V, Den W.K ι H w z → Q w H := fun w d => q w H (Ext.refl ι H) m d
      unfold bid at ez
      split at ez
      · cases ez
        obtain ⟨w, rfl, d⟩ := l.one
        obtain ⟨_, _, rfl, h1, _, l1⟩ := d.list_inv
        refine call_len pins s σ H _ us Q I r ⟨_, _, rfl, .inl ⟨_, .inl (.inl h1.2), rfl⟩, ?_⟩
        rw [l1.length]
        exact now _ (.int _)
      · cases ez
        obtain ⟨w, rfl, d⟩ := l.one
        obtain ⟨_, _, rfl, h1, _, l1⟩ := id d.tup_inv
        refine call_len pins s σ H _ us Q I r ⟨_, _, rfl, .inr ⟨_, by rw [hK]; exact h1.imp (fun z => z.2) id, rfl⟩, ?_⟩
        rw [l1.length]
        exact now _ (.int _)
      · split at ez
        · rename_i hl
          cases ez
          obtain ⟨w, rfl, d⟩ := l.one
          cases d with | str y =>
          exact call_len pins s σ H _ us Q I r ⟨_, _, rfl, ⟨sl_of hl, rfl⟩, now _ (.int _)⟩
        · cases ez
      · cases ez
        obtain ⟨w, rfl, d⟩ := l.one
        obtain ⟨_, _, rfl, h1, _, l1⟩ := d.list_inv
        exact call_tuple_of pins s σ H _ us Q I r ⟨_, _, rfl, .inl ⟨.inl (.inl h1.2), fun p hp => q _ _ (Ext.new hp) (m.new hp) (.newT m.has hp l1)⟩⟩
      · cases ez
        obtain ⟨w, rfl, d⟩ := l.one
        obtain ⟨_, _, rfl, h1, _, l1⟩ := id d.tup_inv
        exact call_tuple_of pins s σ H _ us Q I r ⟨_, _, rfl, .inr ⟨by rw [hK]; exact h1.imp (fun z => z.2) id, now _ d⟩⟩
      · cases ez
        obtain ⟨w, rfl, d⟩ := l.one
        obtain ⟨_, _, rfl, h1, _, l1⟩ := d.list_inv
        exact call_list_of pins s σ H _ us Q I r ⟨_, _, rfl, .inl (.inl (.inl h1.2)), fun p hp => q _ _ (Ext.new hp) (m.new hp) (.newL m.has hp l1)⟩
      · cases ez
        obtain ⟨w, rfl, d⟩ := l.one
        obtain ⟨_, _, rfl, h1, _, l1⟩ := id d.tup_inv
        exact call_list_of pins s σ H _ us Q I r ⟨_, _, rfl, .inr (by rw [hK]; exact h1.imp (fun z => z.2) id), fun p hp => q _ _ (Ext.new hp) (m.new hp) (.newL m.has hp l1)⟩
      · obtain ⟨w, rfl, d⟩ := l.one
        obtain ⟨_, _, rfl, h1, _, l1⟩ := d.list_inv
        obtain ⟨ns, q3, e3⟩ := Option.map_eq_some_iff.mp (show Option.map (fun ns => PyData.int ns.sum) (intsOf _) = some z from ez)
        subst e3
        obtain ⟨e1, e2⟩ := l1.ofInts q3
        subst e1
        exact cr_sum (hc.resolve_right (fun z => nomatch z)) pins s σ H _ us Q I r ⟨_, ns, rfl, .inl (.inl h1.2), now _ (.int _)⟩
      · obtain ⟨w, rfl, d⟩ := l.one
        obtain ⟨_, _, rfl, h1, _, l1⟩ := d.list_inv
        obtain ⟨m1, e4, e3⟩ := Option.map_eq_some_iff.mp (show Option.map PyData.int ((intsOf _).bind maxI) = some z from ez)
        obtain ⟨ns, q3, e5⟩ := Option.bind_eq_some_iff.mp e4
        subst e3
        obtain ⟨e1, e2⟩ := l1.ofInts q3
        subst e1
        cases ns with
        | nil => cases e5
        | cons x0 r0 =>
          cases e5
          exact cr_max (hc.resolve_right (fun z => nomatch z)) pins s σ H _ us Q I r ⟨_, x0 :: r0, rfl, .inl (.inl h1.2), Nat.succ_pos _, fun m0 h3 h4 => by
            rw [max_is h3 h4] at now
            exact now _ (.int _)⟩
      · obtain ⟨w, rfl, d⟩ := l.one
        obtain ⟨_, _, rfl, h1, _, l1⟩ := d.list_inv
        obtain ⟨m1, e4, e3⟩ := Option.map_eq_some_iff.mp (show Option.map PyData.int ((intsOf _).bind minI) = some z from ez)
        obtain ⟨ns, q3, e5⟩ := Option.bind_eq_some_iff.mp e4
        subst e3
        obtain ⟨e1, e2⟩ := l1.ofInts q3
        subst e1
        cases ns with
        | nil => cases e5
        | cons x0 r0 =>
          cases e5
          exact cr_min (hc.resolve_right (fun z => nomatch z)) pins s σ H _ us Q I r ⟨_, x0 :: r0, rfl, .inl (.inl h1.2), Nat.succ_pos _, fun m0 h3 h4 => by
            rw [min_is h3 h4] at now
            exact now _ (.int _)⟩
      · cases ez
        obtain ⟨w1, w2, rfl, d, d2⟩ := l.two
        cases d
        cases d2
        exact call_max2 (hc.resolve_right (fun z => nomatch z)) pins s σ H _ us Q I r ⟨_, _, rfl, now _ (.int _)⟩
      · cases ez
        obtain ⟨w1, w2, rfl, d, d2⟩ := l.two
        cases d
        cases d2
        exact call_min2 (hc.resolve_right (fun z => nomatch z)) pins s σ H _ us Q I r ⟨_, _, rfl, now _ (.int _)⟩
      · cases ez
        obtain ⟨w, rfl, d⟩ := l.one
        cases d
        exact call_abs pins s σ H _ us Q I r ⟨_, rfl, now _ (.int _)⟩
      · cases ez
        obtain ⟨w, rfl, d⟩ := l.one
        cases d
        exact call_int1 pins s σ H _ us Q I r (.inl ⟨_, rfl, now _ (.int _)⟩)
      · cases ez
        obtain ⟨w, rfl, d⟩ := l.one
        cases d
        exact call_int1 pins s σ H _ us Q I r (.inr ⟨_, rfl, now _ (.int _)⟩)
      · split at ez
        · rename_i hl
          obtain ⟨w, rfl, d⟩ := l.one
          cases d
          obtain ⟨i, q3, e3⟩ := Option.map_eq_some_iff.mp ez
          subst e3
          exact call_int_str pins s σ H _ us Q I r ⟨_, i, rfl, q3, hl, now _ (.int _)⟩
        · cases ez
      · split at ez
        · rename_i hl
          cases ez
          obtain ⟨w, rfl, d⟩ := l.one
          cases d
          exact call_str_int pins s σ H _ us Q I r ⟨_, rfl, hl, now _ (.str _)⟩
        · cases ez
      · cases ez
        obtain ⟨w, rfl, d⟩ := l.one
        cases d
        exact SkE.call_str_str pins s σ H _ us Q I r ⟨_, rfl, now _ (.str _)⟩
      · cases ez
        obtain ⟨w, rfl, d⟩ := l.one
        cases d
        exact call_str_bl pins s σ H _ us Q I r ⟨_, rfl, now _ (.str _)⟩
      · cases ez
        obtain ⟨w, rfl, d⟩ := l.one
        cases d
        exact call_bool1 pins s σ H _ us Q I r (.inr ⟨_, rfl, now _ (.bl _)⟩)
      · cases ez
        obtain ⟨w, rfl, d⟩ := l.one
        cases d
        exact call_bool1 pins s σ H _ us Q I r (.inl ⟨_, rfl, now _ (.bl _)⟩)
      · obtain ⟨w, rfl, d⟩ := l.one
        obtain ⟨_, _, rfl, h1, _, l1⟩ := d.list_inv
        split at ez
        · rename_i ns q3
          cases ez
          obtain ⟨e1, e2⟩ := l1.ofInts q3
          subst e1
          exact cr_sortedI pins s σ H _ us Q I r ⟨_, ns, rfl, .inl (.inl h1.2), fun ns' p hp hr hn => by
            have e3 : sortI ns = ns' := rise_eq ((sortI_perm ns).trans hp.symm) (sortI_rise ns) hr
            rw [e3] at q
            exact q _ _ (Ext.new hn) (m.new hn) (.newL m.has hn (DenL.ints ns'))⟩
        · split at ez
          · rename_i ss q4
            split at ez
            · rename_i hl
              cases ez
              obtain ⟨e1, e2⟩ := l1.ofStrs q4
              subst e1
              exact cr_sortedS pins s σ H _ us Q I r ⟨_, ss, rfl, .inl (.inl h1.2), hl, fun ns' p hp hr hn => by
                have e3 : sortS ss = ns' := riseS_eq ((sortS_perm ss).trans hp.symm) (sortS_rise ss) (riseS_of hr)
                rw [e3] at q
                exact q _ _ (Ext.new hn) (m.new hn) (.newL m.has hn (DenL.strs ns'))⟩
            · cases ez
          · cases ez
      · split at ez
        · rename_i hl
          cases ez
          obtain ⟨w0, rfl, h1⟩ := l.one
          cases h1
          exact cr_chars (hc.resolve_right fun z => nomatch z) pins s σ H _ us Q I r ⟨_, rfl, hl, fun p hn => q _ _ (Ext.new hn) (m.new hn) (.newL m.has hn (DenL.signs _))⟩
        · cases ez
      · split at ez
        · rename_i hl
          cases ez
          obtain ⟨w0, rfl, h1⟩ := l.one
          cases h1
          exact cr_sortedC (hc.resolve_right fun z => nomatch z) pins s σ H _ us Q I r ⟨_, rfl, hl, fun ns' p hp hr hn => by
            have e3 := riseS_eq ((sortS_perm _).trans hp.symm) (sortS_rise _) (riseS_of hr)
            rw [e3] at q
            exact q _ _ (Ext.new hn) (m.new hn) (.newL m.has hn (DenL.strs ns'))⟩
        · cases ez
      · cases ez
end
end Zt
namespace Zt
open PySem PySem.Spec PyProof.Rows L2
/-- names by slot, the scope, whether all cells are the frame's own -/
structure CC where
  N : List Str
  sc : Scope
  all : Bool
  cl : Bool
  lam : Bool
/-- the text's own names -/
structure Stat where
  nm : List Str
  gn : List Str
  cn : List Str
  /-- the classes without an own __init__ -/
  pl : List Bool
  /-- the field that a class's own __init__ makes -/
  fl : List (Option Str)
def isGlob (C : CC) (x : Str) : Bool := decide (C.sc.names.lookup x = some .globalImplicit)
def isVis (C : CC) (x : Str) : Bool := match C.sc.names.lookup x with
  | some .local | some .cell | some .free => true
  | _ => false
def isLoc (C : CC) (x : Str) : Bool := match C.sc.names.lookup x with
  | some .local => true
  | some .cell => C.all
  | _ => false
def plainName (x : Str) : Bool := !(x == ("__debug__" : Str)) && !(x == ("__classdict__" : Str)) && !(x == ("__name__" : Str))
def Bi.n : Bi → Str
  | .len => "len"
  | .tuple => "tuple"
  | .list => "list"
  | .sum => "sum"
  | .max => "max"
  | .min => "min"
  | .abs => "abs"
  | .int => "int"
  | .str => "str"
  | .bool => "bool"
  | .sorted => "sorted"
  | .chars => "list"
  | .sortedC => "sorted"
def Ty.n : Ty → Str
  | .int => "int"
  | .str => "str"
  | .bool => "bool"
  | .tuple => "tuple"
  | .list => "list"
def Ty.s : Ty → String
  | .int => "int"
  | .str => "str"
  | .bool => "bool"
  | .tuple => "tuple"
  | .list => "list"
def Mt.ok : Mt → Nat → Bool
  | .lower, 0 | .upper, 0 | .swapcase, 0 => true
  | .split, 1 | .join, 1 | .count, 1 | .append, 1 => true
  | _, _ => false
def Mt.n : Mt → Str
  | .lower => "lower"
  | .upper => "upper"
  | .swapcase => "swapcase"
  | .split => "split"
  | .join => "join"
  | .count => "count"
  | .index => "index"
  | .append => "append"
  | .pop => "pop"
def blts : List Str := ["len", "tuple", "list", "sum", "max", "min", "abs", "int", "str", "bool", "sorted", "isinstance", "range", "zip", "enumerate", "ValueError"]
def plainRecv : Expr → Bool
  | .Call (.Name _ _) [] [] _ => false
  | _ => true
def notStar : Expr → Bool
  | .Starred _ _ => false
  | _ => true
def notSet : Expr → Bool
  | .Set _ _ _ => false
  | _ => true
def plainTest : Expr → Bool
  | .UnaryOp .Not _ _ => false
  | .BoolOp _ _ _ => false
  | .IfExp _ _ _ _ => false
  | .Compare _ _ _ _ => false
  | _ => true
def notSlice : Expr → Bool
  | .Slice _ _ _ _ => false
  | _ => true
def notTup : Expr → Bool
  | .Tuple _ _ _ => false
  | _ => true
def chkTg (C : CC) : Tg → Expr → Bool
  | .nm i, .Name x _ => decide (C.N[i]? = some x) && isLoc C x
  | .tp is, .Tuple es _ _ => decide (is.length = es.length) && (is.zip es).all fun p => match p.2 with
    | .Name x _ => decide (C.N[p.1]? = some x) && isLoc C x
    | _ => false
  | _, _ => false
/-- the block of a comprehension -/
def blkCC (C : CC) (scope : Scope) : CC := ⟨C.N, relS scope C.sc, false, false, false⟩
/-- a lambda without parameters -/
def noPars (p : Arguments) : Bool := p.posonlyargs.isEmpty && p.args.isEmpty && p.vararg.isNone && p.kwonlyargs.isEmpty && p.kw_defaults.isEmpty && p.kwarg.isNone && p.defaults.isEmpty
mutual
def chkE (G : Stat) (C : CC) : E → Expr → Bool
  | .v i, x => match x with
    | .Name x _ => decide (C.N[i]? = some x) && isVis C x && plainName x
    | _ => false
  | .g i, x => match x with
    | .Name x _ => decide (G.gn[i]? = some x) && isGlob C x && plainName x
    | _ => false
  | .kn, x => match x with
    | .Constant .none _ _ => true
    | _ => false
  | .kb b, x => match x with
    | .Constant (.bool c) _ _ => decide (b = c)
    | _ => false
  | .ki i, x => match x with
    | .Constant (.int j) _ _ => decide (i = j)
    | _ => false
  | .ks s, x => match x with
    | .Constant (.str t) _ _ => decide (s = t)
    | _ => false
  | .neg a, x => match x with
    | .UnaryOp .USub y _ => chkE G C a y
    | _ => false
  | .bin op a b, x => match x with
    | .BinOp l o r _ => decide (op.x = o) && chkE G C a l && chkE G C b r
    | _ => false
  | .never, _ => true
  | .madd a b, x => match x with
    | .BinOp l .Add r _ => chkE G C a l && chkE G C b r
    | _ => false
  | .cmp op a b, x => match x with
    | .Compare l [o] [r] _ => decide (op.x = o) && notSet r && chkE G C a l && chkE G C b r
    | _ => false
  | .chain o1 o2 a b c, x => match x with
    | .Compare l [o, o'] [r, r'] _ => decide (o1.x = o) && decide (o2.x = o') && notSet r' && chkE G C a l && chkE G C b r && chkE G C c r'
    | _ => false
  | .and es, x => match x with
    | .BoolOp .And ys _ => chkEs G C es ys
    | _ => false
  | .or es, x => match x with
    | .BoolOp .Or ys _ => chkEs G C es ys
    | _ => false
  | .not a, x => match x with
    | .UnaryOp .Not y _ => chkE G C a y
    | _ => false
  | .ite c a b, x => match x with
    | .IfExp t y z _ => chkT G C c t && chkE G C a y && chkE G C b z
    | _ => false
  | .tup es, x => match x with
    | .Tuple ys _ _ => chkEs G C es ys && ys.all notStar && decide (ys.length ≤ slen)
    | _ => false
  | .lst es, x => match x with
    | .List ys _ => chkEs G C es ys && ys.all notStar && decide (ys.length ≤ slen)
    | _ => false
  | .mls es, x => match x with
    | .List ys _ => chkEs G C es ys && ys.all notStar && decide (ys.length ≤ slen)
    | _ => false
  | .call f es, x => match x with
    | .Call (.Name y _) ys [] _ => decide (G.nm[f]? = some y) && isGlob C y && plainName y && chkEs G C es ys && ys.all notStar
    | _ => false
  | .bi b es, x => match x with
    | .Call (.Name y _) (z :: ys) [] _ => decide (b.n = y) && isGlob C y && chkEs G C es (z :: ys) && (z :: ys).all notStar
    | _ => false
  | .isi a t, x => match x with
    | .Call (.Name y _) [z, .Name u _] [] _ => decide (y = ("isinstance" : Str)) && isGlob C y && decide (t.n = u) && isGlob C u && chkE G C a z && notStar z
    | _ => false
  | .isx i c, x => match x with
    | .Call (.Name y _) [.Name u _, .Name d _] [] _ => C.cl && decide (y = ("isinstance" : Str)) && isGlob C y && decide (C.N[i]? = some u) && isVis C u && plainName u && decide (G.cn[c]? = some d) && isGlob C d && plainName d
    | _ => false
  | .isv i, x => match x with
    | .Call (.Name y _) [.Name u _, .Name d _] [] _ => C.cl && decide (y = ("isinstance" : Str)) && isGlob C y && decide (C.N[i]? = some u) && isVis C u && plainName u && decide (d = ("ValueError" : Str)) && isGlob C d
    | _ => false
  | .mth m o es, x => match x with
    | .Call (.Attribute y n ap) zs [] p => decide (m.n = n) && m.ok zs.length && plainRecv y && (ap.endLine == p.line) && chkE G C o y && chkEs G C es zs && zs.all notStar && decide (zs.length < 20)
    | _ => false
  | .sub o i, x => match x with
    | .Subscript y z _ => notSlice z && chkE G C o y && chkE G C i z
    | _ => false
  | .slc o lo hi, x => match x with
    | .Subscript y (.Slice l h none _) _ => chkE G C o y && chkO G C lo l && chkO G C hi h
    | _ => false
  | .rev o, x => match x with
    | .Subscript y (.Slice none none (some (.UnaryOp .USub (.Constant (.int 1) _ _) _)) _) _ => chkE G C o y
    | _ => false
  | .lc elt tg it cond own, x => match x with
    | .ListComp y [⟨t, i, cs, 0⟩] scope _ => chkI G C it t i && notSet i && blkC C.N C.sc scope (own.filterMap fun j => (C.N[j]?).map fun n => (n, j)) && own.all (fun j => decide (j < C.N.length)) &&
        (match tg with
          | .nm j => own.contains j
          | .tp js => js.all fun j => own.contains j) &&
        chkTg (blkCC C scope) tg t && chkC G (blkCC C scope) cond cs && chkE G (blkCC C scope) elt y
    | _ => false
  | .xat i f, x => match x with
    | .Attribute (.Name y _) z _ => C.cl && decide (C.N[i]? = some y) && isVis C y && plainName y && decide (f = z) && decide (some f ∈ G.fl)
    | _ => false
  | .clo i es, x => match x with
    | .Call (.Name y _) [] [] _ => C.cl && (match es with
      | .nil => true
      | _ => false) && decide (C.N[i]? = some y) && isVis C y && plainName y
    | _ => false
  | .callL f es ps b, x => match x with
    | .Call (.Name y _) [.Lambda params body scope _] [] _ => C.lam && (match es with
      | .nil => true
      | _ => false) && (match ps with
      | [] => true
      | _ => false) && decide (G.nm[f]? = some y) && isGlob C y && plainName y && noPars params && LamX.lamSB C.sc scope && chkE G ⟨C.N, scope, false, false, false⟩ b body
    | _ => false
  | .callW f i es, x => match x with
    | .Call (.Name y _) (.Name u _ :: ys) [] _ => decide (G.nm[f]? = some y) && isGlob C y && plainName y && decide (C.N[i]? = some u) && isVis C u && plainName u && chkEs G C es ys && ys.all notStar
    | _ => false
  | .callX f i, x => match x with
    | .Call (.Name y _) [.Name u _] [] _ => C.cl && decide (G.nm[f]? = some y) && isGlob C y && plainName y && decide (C.N[i]? = some u) && isVis C u && plainName u
    | _ => false
  | .sln i, x => match x with
    | .Call (.Name y _) [.Name u _] [] _ => decide (y = ("len" : Str)) && isGlob C y && decide (C.N[i]? = some u) && isVis C u && plainName u
    | _ => false
  | .six i e, x => match x with
    | .Subscript (.Name u _) z _ => decide (C.N[i]? = some u) && isVis C u && plainName u && notSlice z && chkE G C e z
    | _ => false
def chkEs (G : Stat) (C : CC) : Es → List Expr → Bool
  | .nil, ys => match ys with
    | [] => true
    | _ => false
  | .cons e r, ys => match ys with
    | y :: ys => chkE G C e y && chkEs G C r ys
    | _ => false
def chkO (G : Stat) (C : CC) : Eo → Option Expr → Bool
  | .no, y => match y with
    | none => true
    | _ => false
  | .so e, y => match y with
    | some y => chkE G C e y
    | _ => false
def chkT (G : Stat) (C : CC) : T → Expr → Bool
  | .and ts, x => match x with
    | .BoolOp .And ys _ => chkTs G C ts ys
    | _ => false
  | .or ts, x => match x with
    | .BoolOp .Or ys _ => chkTs G C ts ys
    | _ => false
  | .not t, x => match x with
    | .UnaryOp .Not y _ => chkT G C t y
    | _ => false
  | .cmp op a b, x => match x with
    | .Compare l [o] [r] _ => decide (op.x = o) && notSet r && chkE G C a l && chkE G C b r
    | _ => false
  | .chain o1 o2 a b c, x => match x with
    | .Compare l [o, o'] [r, r'] _ => decide (o1.x = o) && decide (o2.x = o') && notSet r' && chkE G C a l && chkE G C b r && chkE G C c r'
    | _ => false
  | .e e, x => plainTest x && chkE G C e x
def chkTs (G : Stat) (C : CC) : Ts → List Expr → Bool
  | .nil, _ => false
  | .cons t .nil, ys => match ys with
    | [y] => chkT G C t y
    | _ => false
  | .cons t r, ys => match ys with
    | y :: ys => chkT G C t y && chkTs G C r ys
    | _ => false
def chkC (G : Stat) (C : CC) : To → List Expr → Bool
  | .no, ys => match ys with
    | [] => true
    | _ => false
  | .so t, ys => match ys with
    | [y] => chkT G C t y
    | _ => false
def chkI (G : Stat) (C : CC) : Iz → Expr → Expr → Bool
  | .it e, _, x => chkE G C e x
  | .rng1 e, _, x => match x with
    | .Call (.Name y _) [z] [] _ => decide (y = ("range" : Str)) && isGlob C y && chkE G C e z && notStar z
    | _ => false
  | .rng2 a b, _, x => match x with
    | .Call (.Name y _) [z, u] [] _ => decide (y = ("range" : Str)) && isGlob C y && chkE G C a z && chkE G C b u && notStar z && notStar u
    | _ => false
  | .zip a b, t, x => match x with
    | .Call (.Name y _) [z, u] [] _ => !(notTup t) && decide (y = ("zip" : Str)) && isGlob C y && chkE G C a z && chkE G C b u && notStar z && notStar u
    | _ => false
  | .enum a, t, x => match x with
    | .Call (.Name y _) [z] [] _ => !(notTup t) && decide (y = ("enumerate" : Str)) && isGlob C y && chkE G C a z && notStar z
    | _ => false
end
/-- a, b = x, y with plain local names on one line, not all of them constants -/
def nameOf : Expr → Str
  | .Name x _ => x
  | _ => ""
def parName (C : CC) (line : Nat) (p : Nat × Expr) : Bool := match p.2 with
  | .Name x q => decide (C.N[p.1]? = some x) && decide (C.sc.names.lookup x = some .local) && (q.line == line)
  | _ => false
def parOk (C : CC) (is : List Nat) (ts vs : List Expr) : Bool :=
  (ts.length == 2 || ts.length == 3) && (vs.length == ts.length) && (is.length == ts.length) && vs.all notStar && !(vs.all (foldedForSure 8)) && !(vs.all (constantsAlone 8)) &&
  (is.zip ts).all (parName C ((ts.head?.map (·.pos.line)).getD 0)) && ((ts.map nameOf).eraseDups.length == (ts.map nameOf).length)
/-- a comprehension that is stored at once -/
def chkL (C : CC) (y : Str) (py : Pos) : E → Expr → Bool
  | .lc _ _ _ _ _, .ListComp _ [⟨_, _, _, 0⟩] scope pos => decide (C.sc.names.lookup y = some .local) && decide (C.sc.kind = .function) && (py.line == pos.line) && !(scope.names.any fun p => p.1 == y && (p.2 == .local || p.2 == .cell))
  | _, _ => false
def chkS0 (x : Expr) : Bool := match x with
  | .ListComp _ _ _ _ => false
  | .SetComp _ _ _ _ => false
  | .DictComp _ _ _ _ _ => false
  | _ => true
mutual
def chkS (G : Stat) (C : CC) : S → Stmt → Bool
  | .asg t e, x => match x with
    | .Assign [y] z _ => chkTg C t y && chkE G C e z && chkS0 z && (notTup y || notTup z)
    | _ => false
  | .never, _ => true
  | .par is es, x => match x with
    | .Assign [.Tuple ts _ _] (.Tuple vs _ _) _ => chkEs G C es vs && parOk C is ts vs
    | _ => false
  | .parN is es, x => match x with
    | .Assign [.Tuple ts _ _] (.Tuple vs _ _) _ => chkEs G C es vs && vs.all notStar && (decide (4 ≤ ts.length) || vs.all (foldedForSure 8)) && decide (ts.length ≤ 20) && decide (is.length = ts.length) && (is.zip ts).all fun p => match p.2 with
      | .Name y _ => decide (C.N[p.1]? = some y) && isLoc C y
      | _ => false
    | _ => false
  | .setI o i e, x => match x with
    | .Assign [.Subscript y z _] u _ => chkE G C o y && chkE G C i z && notSlice z && chkE G C e u && chkS0 u
    | _ => false
  | .ex e, x => match x with
    | .Expr y _ => chkE G C e y && chkS0 y
    | _ => false
  | .ret e, x => match x with
    | .Return (some y) _ => chkE G C e y
    | .Return none _ => match e with
      | .kn => true
      | _ => false
    | _ => false
  | .ifs c a b, x => match x with
    | .If t y z _ => chkT G C c t && chkSs G C a y && chkSs G C b z
    | _ => false
  | .for t it body, x => match x with
    | .For y z b [] _ => chkI G C it y z && notSet z && chkTg C t y && chkSs G C body b
    | _ => false
  | .forR t e body, x => match x with
    | .For y z b [] _ => chkI G C (.it e) y z && chkE G C e z && notSet z && chkTg C t y && chkSs G C body b
    | _ => false
  | .asgL i e, x => match x with
    | .Assign [.Name y py] z pos => decide (C.N[i]? = some y) && chkE G C e z && chkL C y py e z
    | _ => false
  | .while c body, x => match x with
    | .While t b [] _ => chkT G C c t && chkSs G C body b
    | _ => false
  | .raise c, x => match x with
    | .Raise (some (.Call (.Name y _) [.Constant (.str _) _ _] [] _)) none _ => decide (G.pl[c]? = some true) && decide (G.cn[c]? = some y) && isGlob C y && plainName y
    | _ => false
  | .raiseI c f e, x => match x with
    | .Raise (some (.Call (.Name y _) [z] [] _)) none _ => decide (some (some f) = G.fl[c]?) && decide (G.cn[c]? = some y) && isGlob C y && plainName y && notStar z && chkE G C e z
    | _ => false
  | .try body c nm suite, x => match x with
    | .Try b [.ExceptHandler (some (.Name y _)) n (s0 :: ss) _] [] [] _ => C.all && decide (G.cn[c]? = some y) && isGlob C y && plainName y && chkSs G C body b && chkSs G C suite (s0 :: ss) && (match nm, n with
      | none, none => true
      | some i, some nn => decide (C.N[i]? = some nn) && decide (C.sc.names.lookup nn = some .local)
      | _, _ => false)
    | _ => false
  | .pass, x => match x with
    | .Pass _ => true
    | _ => false
def chkSs (G : Stat) (C : CC) : Ss → List Stmt → Bool
  | .nil, ys => match ys with
    | [] => true
    | _ => false
  | .cons s r, ys => match ys with
    | y :: ys => chkS G C s y && chkSs G C r ys
    | _ => false
end
end Zt
namespace Zt
open PySem PySem.Spec PyProof.Rows L2
abbrev Wd.cfg (W : Wd) (k : Nat) (h : Bool) : Cfg := lev W.T W.sub W.gv W.wf k h
/-- a def's promise at level k -/
def EndF (W : Wd) (ι : Io) (H : Hp) (Q : VK) (E : XK) : R Z → Prop
  | .ok z M => ∀ ι' v H', Ext ι H ι' H' → MI W ι' H' M → DenZ W.K ι' H' v z → Q v H'
  | .ex e M => ∀ ι' dx H', Ext ι H ι' H' → MI W ι' H' M → ExF W.K ι' H' dx e.fs → E (W.cv e.c) dx H'
  | .bad => False
def spF (W : Wd) (k : Nat) (h : Bool) (i : Nat) : Sp := fun vs H Q E => vs.length = (W.ps i).length ∧ ∃ ι M zs, MI W ι H M ∧ DenZL W.K ι H vs zs ∧ EndF W ι H Q E ((W.cfg k h).fn h i zs M)
/-- .. the first argument of which is the script -/
def spW (W : Wd) (k : Nat) (h : Bool) (f : Nat) : Sp := fun vs H Q E => vs.length = (W.ps f).length ∧ ∃ ι M v vs' ns zs, vs = v :: vs' ∧ MI W ι H M ∧ SlD W.K Sc.none ι H (some (some v)) (.scr ns) ∧ DenZL W.K ι H vs' zs ∧ EndF W ι H Q E ((W.cfg k h).fnW h f (.scr ns) zs M)
/-- such an __init__: one field -/
def spInit (C : Addr) (f : Str) : Sp := fun vs H Q _ => ∃ (a : Addr) (v : V), vs = [.ref a, v] ∧ H a = some (exo a C none) ∧ ∀ dx, H dx = none → dx ≠ a → Q .non (upd (upd H dx (exd dx [(f, v)])) a (exo a C (some dx)))
/-- what the text's top has left -/
structure WOk (W : Wd) (G : Stat) : Prop where
  exm : ∀ (c d : Nat) (y : Str), G.cn[d]? = some y → PySem.W.exmOne W.K (W.cv c) (W.cv d) = some (W.sub c d)
  kit : ∀ (c d : Nat) (y : Str), G.cn[d]? = some y → PySem.W.kitOne W.K (W.cv c) (W.cv d) = some (W.sub c d)
  exc : ∀ c, ∃ C, W.cv c = .ref C ∧ ExcC W.K C
  nof : ∀ f ∈ G.fl, ∀ y, f = some y → ∀ c, ∃ C, W.cv c = .ref C ∧ PySem.W.findIn W.K (.ref C) y = some none
  own : ∀ (c : Nat) (f : Str), G.fl[c]? = some (some f) → ∃ (C fI : Addr) (fd : FuncData) (ps : List Str), W.cv c = .ref C ∧ OexC W.K C ∧ PySem.W.findIn W.K (.ref C) "__init__" = some (some (.ref fI)) ∧ PySem.W.typeIn W.K (.ref fI) = some (.type "function") ∧
    FnOk W.P W.w W.K W.mg W.base (L2N.CX W.P W.w) 1 fI fd ps (spInit C f) ∧ L2.Binds W.K fd ps []
  kitV : ∀ c, PySem.W.kitOne W.K (W.cv c) (.type "ValueError") = some (W.sub c 1000)
  tbu : ∀ p ∈ W.tb, ∀ q ∈ W.tb, p.1 = q.1 → p.2 = q.2
  blt : ∀ x ∈ blts, W.mg x = none
  glob : ∀ (i : Nat) (x : Str), G.nm[i]? = some x → W.mg x = some (.ref (W.fa i)) ∧ PySem.W.keepIn W.K (.ref (W.fa i)) = true ∧ L2.Binds W.K (W.fd i) (W.ps i) []
  np : ∀ (i : Nat) (x : Str) (d : Def), G.nm[i]? = some x → W.T[i]? = some d → d.np = (W.ps i).length
  cons : ∀ (i : Nat) (x : Str), G.gn[i]? = some x → ∃ u v d, W.mg x = some u ∧ RelV v u ∧ W.gv[i]? = some d ∧ ∀ ι H, Den W.K ι H v d
  cls : ∀ (c : Nat) (x : Str), G.cn[c]? = some x → ∃ C, W.mg x = some (.ref C) ∧ W.cv c = .ref C ∧ PySem.W.keepIn W.K (.ref C) = true ∧ (G.pl[c]? = some true → PySem.W.excIn W.K C [.type "ValueError", .type "Exception", .type "BaseException", .type "object"] "ValueError.__new__" = true) ∧
    PySem.W.subIn W.K (.ref C) (.type "BaseException") = some true ∧ PySem.W.typeIn W.K (.ref C) = some (.type "type")
/-- an error that is handled, as an object -/
structure ErrAt (W : Wd) (A : Around) (a : Addr) (c : Nat) (dx : Option Addr) (oe : Obj) : Prop where
  hot : L2H.Hot1 A (a, oe)
  zc : Zc (W.cv c) dx oe
  fld : ∃ vs, oe.data = .fields vs
/-- what a frame entered at s may do with the closures that Sl tells of -/
def XL (W : Wd) (Sl : Sc) (k : Nat) (A : Around) (outer : List PySem.Env) (s : Shared) (H : Hp) : Prop :=
  ∀ (N : List Str) (qual : Str) (scope : Scope) (f : Addr) (cdv : Value) (E : XK), Room k (A.deeper (envOfC qual scope s.heap.objs.size f cdv)) → ∀ (pn : List (Addr × Obj)) (xe : Value → Shared → Prop) (wx : WX),
    L2N.Takes ((cxOf (L2N.CX W.P W.w) W.P W.w W.K W.mg W.base N qual scope f cdv A outer s H E).tr pn xe) wx → ∀ (i : Nat) (y : Str), N[i]? = some y → Vis scope y → plainName y = true → ∀ p1 p2 : Pos,
    PE ((cxOf (L2N.CX W.P W.w) W.P W.w W.K W.mg W.base N qual scope f cdv A outer s H E).tr pn xe) (.Call (.Name y p1) [] [] p2) (fun σ H Q => ∃ f ps b σc cap ι M, σ[i]? = some (some (.ref f)) ∧ Sl.CL f ps b σc ι H ∧ CapOk W.K ι H σc cap ∧ σc.length = cap.length ∧ MI W ι H M ∧
      EndG W wx σ ι H (DenZ W.K) Q ((W.cfg k false).clo ps b cap [] M))
/-- calls of this level keep their promises -/
structure Calls (W : Wd) (G : Stat) (k : Nat) : Prop where
  calm : ∀ (i : Nat) (x : Str), G.nm[i]? = some x → FnOk W.P W.w W.K W.mg W.base (L2N.CX W.P W.w) k (W.fa i) (W.fd i) (W.ps i) (spF W k false i)
  hot : ∀ (i : Nat) (x : Str), G.nm[i]? = some x → L2H.FnH W.P W.w W.K W.mg W.base (L2N.CX W.P W.w) k (W.fa i) (W.fd i) (W.ps i) (spF W k true i)
  calmW : ∀ (i : Nat) (x : Str), G.nm[i]? = some x → FnOk W.P W.w W.K W.mg W.base (L2N.CX W.P W.w) k (W.fa i) (W.fd i) (W.ps i) (spW W k false i)
  hotW : ∀ (i : Nat) (x : Str), G.nm[i]? = some x → L2H.FnH W.P W.w W.K W.mg W.base (L2N.CX W.P W.w) k (W.fa i) (W.fd i) (W.ps i) (spW W k true i)
  calmL : ∀ (i : Nat) (x : Str), G.nm[i]? = some x → ∀ (Sl : Sc) (A : Around) (outer : List PySem.Env) (s : Shared) (H : Hp) (f0 : Addr) (ps : List Nat) (b : E) (σc : St) (cap : List (Option Z)) (ι : Io) (M : Mem) (Q : VK) (E : XK), (∀ a c dx, ¬ Sl.XA a c dx) → Room k A → Env0 W.P W.w W.K W.mg W.base A outer s H →
    (∀ j, j + 1 = k → XL W Sl j A outer s H) → Sl.CL f0 ps b σc ι H → CapOk W.K ι H σc cap → σc.length = cap.length → MI W ι H M → EndF W ι H Q E ((W.cfg k false).fnL i [] ps b cap M) →
    codeAny (model W.P W.w) A (.call (.ref (W.fa i)) ⟨[.ref f0], []⟩) (CR (L2N.CX W.P W.w) outer W.P W.w H s Q E) s
  hotX : ∀ (i : Nat) (x : Str), G.nm[i]? = some x → ∀ (A : Around) (outer : List PySem.Env) (s : Shared) (H : Hp) (a : Addr) (c : Nat) (dx : Option Addr) (fs : List (Str × D)) (oe : Obj) (ι : Io) (M : Mem) (Q : VK) (E : XK), ErrAt W A a c dx oe → L2H.PinOk outer H s (a, oe) → L2H.RoomH k A → Env0 W.P W.w W.K W.mg W.base A outer s H →
    MI W ι H M → ExF W.K ι H dx fs → EndF W ι H Q E ((W.cfg k true).fnW true i (.exc ⟨c, fs⟩) [] M) → codeAny (model W.P W.w) A (.call (.ref (W.fa i)) ⟨[.ref a], []⟩) (CR (L2N.CX W.P W.w) outer W.P W.w H s Q E) s
/-- a context of ours -/
structure GX (W : Wd) (G : Stat) (S : Sc) (k : Nat) (h : Bool) (cc : CC) (X : Cx) (wx : WX) : Prop where
  eP : X.prog = W.P
  eW : X.w = W.w
  eK : X.K = W.K
  eM : X.mg = W.mg
  eB : X.base = W.base
  eN : X.N = cc.N
  nd : X.N.Nodup
  eS : X.env.scope = cc.sc
  room : L2H.RoomH k X.A
  calm : h = false → X.calm = true ∧ Room k X.A
  hot : h = true → L2H.HotC X
  takes : L2N.Takes X wx
  pass : PassesOwn (model X.prog X.w) X.A X.env X.xe
  st : cc.all = true → ∀ x, X.fn x = true
  fr : cc.all = true → X.stack = X.env :: X.outer ∧ X.env.frame = some X.env.locals
  ok : WOk W G
  calls : ∀ j, j ≤ k → Calls W G j
  lam : cc.lam = true → ∃ c P, LamX.TabB X.base X.mg c P ∧ X.env.code = .ref c ∧ (P, X.env.qual ++ "<lambda>") ∈ W.tb
  /-- the handled error may be handed on, asked for its class -/
  xc : cc.cl = true → h = true → ∀ (f : Nat) (x : Str) (a : Addr) (c : Nat) (dx : Option Addr) (fs : List (Str × D)), G.nm[f]? = some x → S.XA a c dx → ∀ (pins : List (Addr × Obj)) (s : Shared) (σ : St) (H : Hp) (Q : VK) (ι : Io) (M : Mem), Inv X pins σ H s → MI W ι H M → ExF W.K ι H dx fs →
    EndG W wx σ ι H (DenZ W.K) Q ((W.cfg k true).fnW true f (.exc ⟨c, fs⟩) [] M) → wpAny (model X.prog X.w) X.A (call (.ref (W.fa f)) [.ref a]) (EP X pins σ Q) X.xe s
  /-- where it stands -/
  xp : cc.cl = true → ∀ (a : Addr) (c : Nat) (dx : Option Addr), S.XA a c dx → ∃ oe, (a, oe) ∈ X.pn ∧ Zc (W.cv c) dx oe ∧ ∃ vs, oe.data = .fields vs
  /-- a lambda may be called -/
  nx : h = false → ∀ a c dx, ¬ S.XA a c dx
  xl : cc.cl = true → h = false → ∀ (pn : List (Addr × Obj)) (xe : Value → Shared → Prop) (wx' : WX), L2N.Takes (X.tr pn xe) wx' → ∀ (i : Nat) (y : Str), cc.N[i]? = some y → isVis cc y = true → plainName y = true → ∀ p1 p2 : Pos,
    PE (X.tr pn xe) (.Call (.Name y p1) [] [] p2) (fun σ H Q => ∃ f ps b σc cap ι M, σ[i]? = some (some (.ref f)) ∧ S.CL f ps b σc ι H ∧ CapOk W.K ι H σc cap ∧ σc.length = cap.length ∧ MI W ι H M ∧
    EndG W wx' σ ι H (DenZ W.K) Q ((W.cfg k false).clo ps b cap [] M))
section
variable {W : Wd} {G : Stat} {S : Sc} {k : Nat} {h : Bool} {cc : CC} {X : Cx} {wx : WX}
theorem GX.vis (g : GX W G S k h cc X wx) {x : Str} (hv : isVis cc x = true) : Vis X.env.scope x := by
  unfold Vis
  rw [g.eS]
  unfold isVis at hv
  split at hv <;> first | exact .inl (by assumption) | exact .inr (.inl (by assumption)) | exact .inr (.inr (by assumption)) | cases hv
theorem GX.loc (g : GX W G S k h cc X wx) {x : Str} (hv : isLoc cc x = true) : L2.Loc X.env.scope x ∧ (X.fn x = true ∨ X.env.scope.names.lookup x = some .local) := by
  unfold L2.Loc
  rw [g.eS]
  unfold isLoc at hv
  split at hv
  · exact ⟨.inl (by assumption), .inr (by assumption)⟩
  · exact ⟨.inr (by assumption), .inl (g.st hv x)⟩
  · cases hv
theorem GX.gl (g : GX W G S k h cc X wx) {x : Str} (hv : isGlob cc x = true) : Gl X x := by
  show X.env.scope.names.lookup x = _
  rw [g.eS]
  exact of_decide_eq_true hv
theorem plain_dbg {x : Str} (h : plainName x = true) : (x == ("__debug__" : Str)) = false ∧ (x == ("__classdict__" : Str)) = false ∧ x ≠ "__name__" := by
  unfold plainName at h
  rw [Bool.and_eq_true, Bool.and_eq_true] at h
  obtain ⟨⟨h1, h2⟩, h3⟩ := h
  refine ⟨?_, ?_, ?_⟩
  · cases q : x == ("__debug__" : Str)
    · rfl
    · rw [q] at h1; cases h1
  · cases q : x == ("__classdict__" : Str)
    · rfl
    · rw [q] at h2; cases h2
  · intro e
    rw [e] at h3
    revert h3
    decide +kernel
theorem GX.blt (g : GX W G S k h cc X wx) {x : Str} (hx : x ∈ blts) : X.mg x = none := by
  rw [g.eM]
  exact g.ok.blt x hx
theorem star_of {e : Expr} {es : List Expr} {env : PySem.Env} (h : notStar e = true) : starEach (e :: es) env = (false, eval e env) :: starEach es env := by
  cases e <;> first | rfl | cases h
theorem plain_of {pos : Pos} : ∀ {es : List Expr} {env : PySem.Env}, es.all notStar = true → (backTo pos (starEach es env)).any (·.1) = false
  | [], _, _ => rfl
  | e :: es, env, h => by
    rw [List.all_cons, Bool.and_eq_true] at h
    rw [star_of h.1]
    show (false || (backTo pos (starEach es env)).any (·.1)) = false
    rw [plain_of h.2]
    rfl
theorem j_v (g : GX W G S k h cc X wx) {i : Nat} {x : Str} {pos : Pos} (hN : cc.N[i]? = some x) (hv : isVis cc x = true) (hp : plainName x = true) : PE X (.Name x pos) (tD W S wx fun ρ M => R.of (getZ ρ i) M) := by
  obtain ⟨h1, h2, _⟩ := plain_dbg hp
  refine (pe_var (i := i) (by rw [g.eN]; exact hN) (g.vis hv) h1 h2).imp fun σ H Q hq => ?_
  obtain ⟨ι, ρ, M, rl, e⟩ := hq
  dsimp only at e
  cases q : getZ ρ i with
  | none => rw [q] at e; exact e.elim
  | some z =>
    rw [q] at e
    obtain ⟨v, h3, h4⟩ := rl.s.get q
    exact ⟨v, h3, EndG.now e rl.m h4⟩
theorem j_g (g : GX W G S k h cc X wx) {i : Nat} {x : Str} {pos : Pos} (hN : G.gn[i]? = some x) (hv : isGlob cc x = true) (hp : plainName x = true) : PE X (.Name x pos) (tD W S wx fun ρ M => R.of ((W.gv[i]?).map .d) M) := by
  obtain ⟨h1, h2, _⟩ := plain_dbg hp
  obtain ⟨u, v, d, hm, r, hd, den⟩ := g.ok.cons i x hN
  refine (pe_glob (v := v) (g.gl hv) (by rw [g.eM]; exact hm) r h1).imp fun σ H Q hq => ?_
  obtain ⟨ι, ρ, M, rl, e⟩ := hq
  dsimp only at e
  rw [hd] at e
  exact EndG.now e rl.m (.d (den ι H))
theorem j_c {e : Expr} {v : V} {d : D} (hc : PE X e (tC v)) (hd : ∀ ι H, Den W.K ι H v d) : PE X e (tD W S wx fun _ M => .ok (.d d) M) :=
  hc.imp fun σ H Q hq => by
    obtain ⟨ι, ρ, M, rl, e⟩ := hq
    dsimp only at e
    exact EndG.now e rl.m (.d (hd ι H))
theorem j_neg {a : Expr} {f : Env → Mem → R Z} {pos : Pos} (ha : PE X a (tD W S wx f)) : PE X (.UnaryOp .USub a pos) (tD W S wx fun ρ M => (f ρ M).bind fun x M1 => match x with
    | .d (.int i) => .ok (.d (.int (-i))) M1
    | _ => .bad) := by
  refine (pe_un un_neg ha).imp fun σ H Q hq => ?_
  obtain ⟨ι, ρ, M, rl, e⟩ := hq
  dsimp only at e
  refine ⟨ι, ρ, M, rl, e.step fun z M1 ι1 v1 H1 ex m d e1 => ?_⟩
  cases d with
  | r _ => exact e1.elim
  | d d =>
    cases d with
    | int i => exact ⟨i, rfl, EndG.now e1 m (.d (.int _))⟩
    | _ => exact e1.elim
theorem j_op2 {f : Operator} {r : Z → Z → Mem → R Z} {a b : Expr} {fa fb : Env → Mem → R Z} {pos : Pos} (ho : OpR X (binaryOp f) (rB2 W r)) (ha : PE X a (tD W S wx fa)) (hb : PE X b (tD W S wx fb)) :
    PE X (.BinOp a f b pos) (tD W S wx fun ρ M => (fa ρ M).bind fun x M1 => (fb ρ M1).bind fun y M2 => r x y M2) := by
  refine (pe_op ho ha hb).imp fun σ H Q hq => ?_
  obtain ⟨ι, ρ, M, rl, e⟩ := hq
  dsimp only at e
  refine ⟨ι, ρ, M, rl, e.step fun z M1 ι1 v1 H1 ex m d e1 => ⟨ι1, ρ, M1, rl.go ex m, e1.step fun z2 M2 ι2 v2 H2 ex2 m2 d2 e2 => ?_⟩⟩
  exact ⟨ι2, M2, z, z2, wx, σ, m2, d.mono ex2, d2, e2⟩
theorem j_cmp {f : CmpOp} {r : Z → Z → Mem → R Z} {a b : Expr} {fa fb : Env → Mem → R Z} {pos : Pos} (ho : OpR X (compareOp f) (rB2 W r)) (ha : PE X a (tD W S wx fa)) (hb : PE X b (tD W S wx fb)) (hm : behindInMarks f b = false) :
    PE X (.Compare a [f] [b] pos) (tD W S wx fun ρ M => (fa ρ M).bind fun x M1 => (fb ρ M1).bind fun y M2 => r x y M2) := by
  refine (pe_cmpR ho ha hb hm).imp fun σ H Q hq => ?_
  obtain ⟨ι, ρ, M, rl, e⟩ := hq
  dsimp only at e
  refine ⟨ι, ρ, M, rl, e.step fun z M1 ι1 v1 H1 ex m d e1 => ⟨ι1, ρ, M1, rl.go ex m, e1.step fun z2 M2 ι2 v2 H2 ex2 m2 d2 e2 => ?_⟩⟩
  exact ⟨ι2, M2, z, z2, wx, σ, m2, d.mono ex2, d2, e2⟩
theorem cpz_ok {op : COp} {x y : Z} {M M' : Mem} {c : Bool} (e : cpz op x y M = .ok c M') : M' = M := by
  unfold cpz at e
  split at e
  · rename_i a b
    cases q : cop op a b with
    | none => rw [q] at e; cases e
    | some c => rw [q] at e; cases e; rfl
  · cases e
theorem cpz_ex {op : COp} {x y : Z} {M M' : Mem} {c : Exn} (e : cpz op x y M = .ex c M') : False := by
  unfold cpz at e
  split at e
  · rename_i a b
    cases q : cop op a b with
    | none => rw [q] at e; cases e
    | some c => rw [q] at e; cases e
  · cases e
/-- a comparison's truth, for a test -/
theorem cmp_bool {op : COp} {σ : St} {ι : Io} {H : Hp} {Q : Bool → Hp → Prop} {x y : Z} {M : Mem} (m : MI W ι H M) (e : EndG W wx σ ι H relB Q (cpz op x y M)) : EndG W wx σ ι H (DenZ W.K) (fun v H' => ∃ c, v = .bl c ∧ Q c H') (cmpZ op x y M) := by
  unfold cmpZ
  cases q : cpz op x y M with
  | ok c M1 =>
    rw [q] at e
    exact fun ι' v H' ex m' d => by
      cases d with
      | d d => cases d; exact ⟨_, rfl, e ι' _ H' ex m' rfl⟩
  | ex x1 M1 => exact (cpz_ex q).elim
  | bad => rw [q] at e; exact e.elim
theorem jt_cmp {f : CmpOp} {op : COp} {a b : Expr} {fa fb : Env → Mem → R Z} {pos : Pos} (ho : OpR X (compareOp f) (rB2 W (cmpZ op))) (ha : PE X a (tD W S wx fa)) (hb : PE X b (tD W S wx fb)) (hm : behindInMarks f b = false) :
    PT X (.Compare a [f] [b] pos) (tDT W S wx fun ρ M => (fa ρ M).bind fun x M1 => (fb ρ M1).bind fun y M2 => cpz op x y M2) := by
  refine (pt_cmpR ho ha hb hm).imp fun σ H Q hq => ?_
  obtain ⟨ι, ρ, M, rl, e⟩ := hq
  dsimp only at e
  refine ⟨ι, ρ, M, rl, e.step fun z M1 ι1 v1 H1 ex m d e1 => ⟨ι1, ρ, M1, rl.go ex m, e1.step fun z2 M2 ι2 v2 H2 ex2 m2 d2 e2 => ?_⟩⟩
  exact ⟨ι2, M2, z, z2, wx, σ, m2, d.mono ex2, d2, cmp_bool m2 e2⟩
theorem chain_fold {op op' : COp} {f f' : CmpOp} {σ : St} {ι : Io} {H : Hp} {Q : VK} {x y : Z} {vx vy : V} {M : Mem} {fc : Env → Mem → R Z} {ρ : Env} (rl : Rl W S ι σ H ρ M) (dx : DenZ W.K ι H vx x) (dy : DenZ W.K ι H vy y)
    (e : EndG W wx σ ι H (DenZ W.K) Q ((cpz op x y M).bind fun k M3 => if k then (fc ρ M3).bind fun z M4 => (cpz op' y z M4).bind fun k2 M5 => .ok (boolZ k2) M5 else .ok (boolZ false) M3)) :
    rB2 W (cmpZ op) vx vy H fun z H3 => ∃ k, z = .bl k ∧ (if k = true then tD W S wx fc σ H3 fun w' H4 => rB2 W (cmpZ op') vy w' H4 Q else Q (.bl false) H3) := by
  refine ⟨ι, M, x, y, wx, σ, rl.m, dx, dy, ?_⟩
  unfold cmpZ
  cases q : cpz op x y M with
  | ex x1 M1 => exact (cpz_ex q).elim
  | bad => rw [q] at e; exact e.elim
  | ok c M1 =>
    rw [q] at e
    obtain rfl := cpz_ok q
    intro ι' v H' ex m' d
    cases d with
    | d d =>
      cases d
      refine ⟨_, rfl, ?_⟩
      have e := EndG.mono ex e
      dsimp only [R.bind] at e
      cases c with
      | false => exact EndG.now e m' (.d (.bl false))
      | true =>
        rw [if_pos rfl] at e ⊢
        exact ⟨ι', ρ, M1, rl.go ex m', e.step fun z M4 ι4 v4 H4 ex4 m4 d4 e4 => ⟨ι4, M4, y, z, wx, σ, m4, (dy.mono ex).mono ex4, d4, e4⟩⟩
theorem j_chain {f f' : CmpOp} {op op' : COp} {a b c : Expr} {fa fb fc : Env → Mem → R Z} {pos : Pos} (ho : OpR X (compareOp f) (rB2 W (cmpZ op))) (ho' : OpR X (compareOp f') (rB2 W (cmpZ op'))) (ha : PE X a (tD W S wx fa)) (hb : PE X b (tD W S wx fb))
    (hc : PE X c (tD W S wx fc)) (hm : lastMarks [f, f'] [b, c] = false) :
    PE X (.Compare a [f, f'] [b, c] pos) (tD W S wx fun ρ M => (fa ρ M).bind fun x M1 => (fb ρ M1).bind fun y M2 => (cpz op x y M2).bind fun k M3 =>
      if k then (fc ρ M3).bind fun z M4 => (cpz op' y z M4).bind fun k2 M5 => .ok (boolZ k2) M5 else .ok (boolZ false) M3) := by
  refine (pe_chain ho ho' ha hb hc hm).imp fun σ H Q hq => ?_
  obtain ⟨ι, ρ, M, rl, e⟩ := hq
  dsimp only at e
  refine ⟨ι, ρ, M, rl, e.step fun z M1 ι1 v1 H1 ex m d e1 => ⟨ι1, ρ, M1, rl.go ex m, e1.step fun z2 M2 ι2 v2 H2 ex2 m2 d2 e2 => ?_⟩⟩
  exact chain_fold (f := f) (f' := f') ((rl.go ex m).go ex2 m2) (d.mono ex2) d2 e2
theorem chain_foldT {op op' : COp} {σ : St} {ι : Io} {H : Hp} {Q : Bool → Hp → Prop} {x y : Z} {vx vy : V} {M : Mem} {fc : Env → Mem → R Z} {ρ : Env} (rl : Rl W S ι σ H ρ M) (dx : DenZ W.K ι H vx x) (dy : DenZ W.K ι H vy y)
    (e : EndG W wx σ ι H relB Q ((cpz op x y M).bind fun k M3 => if k then (fc ρ M3).bind fun z M4 => cpz op' y z M4 else .ok false M3)) :
    rB2 W (cmpZ op) vx vy H fun z H3 => ∃ k, z = .bl k ∧ (if k = true then tD W S wx fc σ H3 fun w' H4 => rB2 W (cmpZ op') vy w' H4 (fun v H' => ∃ c, v = .bl c ∧ Q c H') else (∃ c, V.bl false = .bl c ∧ Q c H3)) := by
  refine ⟨ι, M, x, y, wx, σ, rl.m, dx, dy, ?_⟩
  unfold cmpZ
  cases q : cpz op x y M with
  | ex x1 M1 => exact (cpz_ex q).elim
  | bad => rw [q] at e; exact e.elim
  | ok c M1 =>
    rw [q] at e
    obtain rfl := cpz_ok q
    intro ι' v H' ex m' d
    cases d with
    | d d =>
      cases d
      refine ⟨_, rfl, ?_⟩
      have e := EndG.mono ex e
      dsimp only [R.bind] at e
      cases c with
      | false => exact ⟨false, rfl, e ι' _ H' (Ext.refl ι' H') m' rfl⟩
      | true =>
        rw [if_pos rfl] at e ⊢
        exact ⟨ι', ρ, M1, rl.go ex m', e.step fun z M4 ι4 v4 H4 ex4 m4 d4 e4 => ⟨ι4, M4, y, z, wx, σ, m4, (dy.mono ex).mono ex4, d4, cmp_bool m4 e4⟩⟩
theorem jt_chain {f f' : CmpOp} {op op' : COp} {a b c : Expr} {fa fb fc : Env → Mem → R Z} {pos : Pos} (ho : OpR X (compareOp f) (rB2 W (cmpZ op))) (ho' : OpR X (compareOp f') (rB2 W (cmpZ op'))) (ha : PE X a (tD W S wx fa)) (hb : PE X b (tD W S wx fb))
    (hc : PE X c (tD W S wx fc)) (hm : lastMarks [f, f'] [b, c] = false) :
    PT X (.Compare a [f, f'] [b, c] pos) (tDT W S wx fun ρ M => (fa ρ M).bind fun x M1 => (fb ρ M1).bind fun y M2 => (cpz op x y M2).bind fun k M3 =>
      if k then (fc ρ M3).bind fun z M4 => cpz op' y z M4 else .ok false M3) := by
  refine (pt_chain ho ho' ha hb hc hm).imp fun σ H Q hq => ?_
  obtain ⟨ι, ρ, M, rl, e⟩ := hq
  dsimp only at e
  refine ⟨ι, ρ, M, rl, e.step fun z M1 ι1 v1 H1 ex m d e1 => ⟨ι1, ρ, M1, rl.go ex m, e1.step fun z2 M2 ι2 v2 H2 ex2 m2 d2 e2 => ?_⟩⟩
  exact chain_foldT ((rl.go ex m).go ex2 m2) (d.mono ex2) d2 e2
theorem asB_step {σ : St} {ι : Io} {H : Hp} {α β : Type} {rel : Io → Hp → β → α → Prop} {Q : β → Hp → Prop} {z : Z} {v : V} {M : Mem} {f : Bool → Mem → R α} (d : DenZ W.K ι H v z) (e : EndG W wx σ ι H rel Q ((asB z M).bind f)) :
    ∃ b, v = .bl b ∧ EndG W wx σ ι H rel Q (f b M) := by
  cases d with
  | r _ => exact e.elim
  | d d =>
    cases d with
    | bl b => exact ⟨b, rfl, e⟩
    | _ => exact e.elim
theorem j_not (g : GX W G S k h cc X wx) {a : Expr} {f : Env → Mem → R Z} {pos : Pos} (ha : PE X a (tD W S wx f)) : PE X (.UnaryOp .Not a pos) (tD W S wx fun ρ M => (f ρ M).bind fun x M1 => R.of ((truthZ x M1).map fun b => boolZ (!b)) M1) := by
  refine (pe_notT ha).imp fun σ H Q hq => ?_
  obtain ⟨ι, ρ, M, rl, e⟩ := hq
  dsimp only at e
  refine ⟨ι, ρ, M, rl, e.step fun z M1 ι1 v1 H1 ex m d e1 => ?_⟩
  cases q : truthZ z M1 with
  | none => rw [q] at e1; exact e1.elim
  | some b =>
    rw [q] at e1
    exact ⟨b, tru_Z g.eK m d q, EndG.now e1 m (.d (.bl _))⟩
theorem j_and {a b : Expr} {rest : List Expr} {f r : Env → Mem → R Z} {pos : Pos} (ha : PE X a (tD W S wx f)) (hr : PE X (.BoolOp .And (b :: rest) pos) (tD W S wx r)) :
    PE X (.BoolOp .And (a :: b :: rest) pos) (tD W S wx fun ρ M => (f ρ M).bind fun x M1 => (asB x M1).bind fun c M2 => if c then r ρ M2 else .ok (boolZ false) M2) := by
  refine (pe_and ha hr).imp fun σ H Q hq => ?_
  obtain ⟨ι, ρ, M, rl, e⟩ := hq
  dsimp only at e
  refine ⟨ι, ρ, M, rl, e.step fun z M1 ι1 v1 H1 ex m d e1 => ?_⟩
  obtain ⟨c, rfl, e2⟩ := asB_step d e1
  refine ⟨c, rfl, ?_⟩
  cases c with
  | true => exact ⟨ι1, ρ, M1, rl.go ex m, e2⟩
  | false => exact EndG.now e2 m (.d (.bl _))
theorem j_or {a b : Expr} {rest : List Expr} {f r : Env → Mem → R Z} {pos : Pos} (ha : PE X a (tD W S wx f)) (hr : PE X (.BoolOp .Or (b :: rest) pos) (tD W S wx r)) :
    PE X (.BoolOp .Or (a :: b :: rest) pos) (tD W S wx fun ρ M => (f ρ M).bind fun x M1 => (asB x M1).bind fun c M2 => if c then .ok (boolZ true) M2 else r ρ M2) := by
  refine (pe_or ha hr).imp fun σ H Q hq => ?_
  obtain ⟨ι, ρ, M, rl, e⟩ := hq
  dsimp only at e
  refine ⟨ι, ρ, M, rl, e.step fun z M1 ι1 v1 H1 ex m d e1 => ?_⟩
  obtain ⟨c, rfl, e2⟩ := asB_step d e1
  refine ⟨c, rfl, ?_⟩
  cases c with
  | true => exact EndG.now e2 m (.d (.bl _))
  | false => exact ⟨ι1, ρ, M1, rl.go ex m, e2⟩
theorem j_ite {c a b : Expr} {fc : Env → Mem → R Bool} {fa fb : Env → Mem → R Z} {pos : Pos} (hc : PT X c (tDT W S wx fc)) (ha : PE X a (tD W S wx fa)) (hb : PE X b (tD W S wx fb)) :
    PE X (.IfExp c a b pos) (tD W S wx fun ρ M => (fc ρ M).bind fun k M1 => if k then fa ρ M1 else fb ρ M1) := by
  refine (pe_ifExp hc ha hb).imp fun σ H Q hq => ?_
  obtain ⟨ι, ρ, M, rl, e⟩ := hq
  dsimp only at e
  refine ⟨ι, ρ, M, rl, e.step fun z M1 ι1 v1 H1 ex m d e1 => ?_⟩
  cases (show v1 = z from d)
  cases z with
  | true => exact ⟨ι1, ρ, M1, rl.go ex m, e1⟩
  | false => exact ⟨ι1, ρ, M1, rl.go ex m, e1⟩
theorem jt_not {a : Expr} {f : Env → Mem → R Bool} {pos : Pos} (ha : PT X a (tDT W S wx f)) : PT X (.UnaryOp .Not a pos) (tDT W S wx fun ρ M => (f ρ M).bind fun b M1 => .ok (!b) M1) := by
  refine (pt_not ha).imp fun σ H Q hq => ?_
  obtain ⟨ι, ρ, M, rl, e⟩ := hq
  dsimp only at e
  refine ⟨ι, ρ, M, rl, e.step fun z M1 ι1 v1 H1 ex m d e1 => ?_⟩
  cases (show v1 = z from d)
  exact EndG.now e1 m rfl
theorem _root_.L2.PW.imp {X : Cx} {e : Expr} {t u : TT} (h : PW X e t) (i : ∀ σ H Q, u σ H Q → t σ H Q) : PW X e u := ⟨fun wh pins s σ H Q I q => h.run wh pins s σ H Q I (i σ H Q q)⟩
theorem jt_and1 {a : Expr} {f : Env → Mem → R Bool} {pos : Pos} (ha : PT X a (tDT W S wx f)) : PW X (.BoolOp .And [a] pos) (tDT W S wx fun ρ M => (f ρ M).bind fun b M1 => if b then .ok true M1 else .ok false M1) := by
  refine (pw_and1 ha).imp fun σ H Q hq => ?_
  obtain ⟨ι, ρ, M, rl, e⟩ := hq
  dsimp only at e
  refine ⟨ι, ρ, M, rl, e.step fun z M1 ι1 v1 H1 ex m d e1 => ?_⟩
  cases (show v1 = z from d)
  cases z <;> exact EndG.now e1 m rfl
theorem jt_and {a b : Expr} {rest : List Expr} {f r : Env → Mem → R Bool} {pos : Pos} (ha : PT X a (tDT W S wx f)) (hr : PW X (.BoolOp .And (b :: rest) pos) (tDT W S wx r)) :
    PW X (.BoolOp .And (a :: b :: rest) pos) (tDT W S wx fun ρ M => (f ρ M).bind fun c M1 => if c then r ρ M1 else .ok false M1) := by
  refine (pw_and ha hr).imp fun σ H Q hq => ?_
  obtain ⟨ι, ρ, M, rl, e⟩ := hq
  dsimp only at e
  refine ⟨ι, ρ, M, rl, e.step fun z M1 ι1 v1 H1 ex m d e1 => ?_⟩
  cases (show v1 = z from d)
  cases z with
  | true => exact ⟨ι1, ρ, M1, rl.go ex m, e1⟩
  | false => exact EndG.now e1 m rfl
theorem jt_or1 {a : Expr} {f : Env → Mem → R Bool} {pos : Pos} (ha : PT X a (tDT W S wx f)) : PW X (.BoolOp .Or [a] pos) (tDT W S wx fun ρ M => (f ρ M).bind fun b M1 => if b then .ok true M1 else .ok false M1) := by
  refine (pw_or1 ha).imp fun σ H Q hq => ?_
  obtain ⟨ι, ρ, M, rl, e⟩ := hq
  dsimp only at e
  refine ⟨ι, ρ, M, rl, e.step fun z M1 ι1 v1 H1 ex m d e1 => ?_⟩
  cases (show v1 = z from d)
  cases z <;> exact EndG.now e1 m rfl
theorem jt_or {a b : Expr} {rest : List Expr} {f r : Env → Mem → R Bool} {pos : Pos} (ha : PT X a (tDT W S wx f)) (hr : PW X (.BoolOp .Or (b :: rest) pos) (tDT W S wx r)) :
    PW X (.BoolOp .Or (a :: b :: rest) pos) (tDT W S wx fun ρ M => (f ρ M).bind fun c M1 => if c then .ok true M1 else r ρ M1) := by
  refine (pw_or ha hr).imp fun σ H Q hq => ?_
  obtain ⟨ι, ρ, M, rl, e⟩ := hq
  dsimp only at e
  refine ⟨ι, ρ, M, rl, e.step fun z M1 ι1 v1 H1 ex m d e1 => ?_⟩
  cases (show v1 = z from d)
  cases z with
  | false => exact ⟨ι1, ρ, M1, rl.go ex m, e1⟩
  | true => exact EndG.now e1 m rfl
theorem plain_test {a : Expr} {env : PySem.Env} (h : plainTest a = true) : ∀ whole, isTrue a env whole = (do let v ← whole; standAt a.pos; holding [v] (truthy v)) := by
  intro whole
  cases a <;> first | rfl | cases h | skip
  rename_i op x p
  cases op <;> first | rfl | cases h
theorem jt_e (g : GX W G S k h cc X wx) {a : Expr} {f : Env → Mem → R Z} (ha : PE X a (tD W S wx f)) (hp : plainTest a = true) : PT X a (tDT W S wx fun ρ M => (f ρ M).bind fun x M1 => R.of (truthZ x M1) M1) := by
  refine (pt_truth ha (plain_test hp)).imp fun σ H Q hq => ?_
  obtain ⟨ι, ρ, M, rl, e⟩ := hq
  dsimp only at e
  refine ⟨ι, ρ, M, rl, e.step fun z M1 ι1 v1 H1 ex m d e1 => ?_⟩
  cases q : truthZ z M1 with
  | none => rw [q] at e1; exact e1.elim
  | some c =>
    rw [q] at e1
    exact ⟨c, tru_Z g.eK m d q, EndG.now e1 m rfl⟩
theorem j_nil : PA X [] (tDs W S wx fun _ M => .ok [] M) := pa_nil.imp fun σ H Q hq => by
  obtain ⟨ι, ρ, M, rl, e⟩ := hq
  dsimp only at e
  exact EndG.now e rl.m .nil
theorem j_cons {a : Expr} {es : List Expr} {f : Env → Mem → R Z} {r : Env → Mem → R (List Z)} (ha : PE X a (tD W S wx f)) (hr : PA X es (tDs W S wx r)) (hn : notStar a = true) :
    PA X (a :: es) (tDs W S wx fun ρ M => (f ρ M).bind fun x M1 => (r ρ M1).bind fun xs M2 => .ok (x :: xs) M2) := by
  refine (pa_cons ha hr (star_of hn)).imp fun σ H Q hq => ?_
  obtain ⟨ι, ρ, M, rl, e⟩ := hq
  dsimp only at e
  refine ⟨ι, ρ, M, rl, e.step fun z M1 ι1 v1 H1 ex m d e1 => ⟨ι1, ρ, M1, rl.go ex m, e1.step fun zs M2 ι2 vs H2 ex2 m2 d2 e2 => ?_⟩⟩
  exact EndG.now e2 m2 (.cons (d.mono ex2) d2)
theorem R.of_map {o : Option (List D)} {g : List D → Z} {σ : St} {ι : Io} {H : Hp} {Q : VK} {M : Mem} (e : EndG W wx σ ι H (DenZ W.K) Q (R.of (o.map g) M)) : ∃ ds, o = some ds ∧ EndG W wx σ ι H (DenZ W.K) Q (.ok (g ds) M) := by
  cases o with
  | none => exact e.elim
  | some ds => exact ⟨ds, rfl, e⟩
theorem stepE {σ : St} {ι : Io} {H : Hp} {α β γ δ : Type} {rel : Io → Hp → β → α → Prop} {rel2 : Io → Hp → δ → γ → Prop} {Q : δ → Hp → Prop} {G : β → Hp → Prop} {r : R α} {f : α → Mem → R γ}
    (h : EndG W wx σ ι H rel2 Q (r.bind f)) (g : ∀ z M1 ι1 v1 H1, r = .ok z M1 → Ext ι H ι1 H1 → MI W ι1 H1 M1 → rel ι1 H1 v1 z → EndG W wx σ ι1 H1 rel2 Q (f z M1) → G v1 H1) : EndG W wx σ ι H rel G r := by
  cases r with
  | ok z M => exact fun ι1 v1 H1 ex m d => g z M ι1 v1 H1 rfl ex m d (EndG.mono ex h)
  | ex x M => exact h
  | bad => exact h
theorem j_tup {es : List Expr} {r : Env → Mem → R (List Z)} {x1 : Nat} {pos : Pos} (hr : PA X es (tDs W S wx r)) (hl : ∀ ρ M zs M', r ρ M = .ok zs M' → zs.length ≤ slen) :
    PE X (.Tuple es x1 pos) (tD W S wx fun ρ M => (r ρ M).bind fun zs M1 => R.of ((dsOf zs).map fun ds => .d (.tuple ds)) M1) := by
  refine (pe_tup hr).imp fun σ H Q hq => ?_
  obtain ⟨ι, ρ, M, rl, e⟩ := hq
  dsimp only at e
  refine ⟨ι, ρ, M, rl, stepE e fun zs M2 ι1 vs H1 q ex m d e1 => ?_⟩
  obtain ⟨ds, q2, e2⟩ := R.of_map e1
  exact ⟨sl_of (by rw [d.length]; exact hl _ _ _ _ q), fun p hp => e2 ι1 _ _ (Ext.new hp) (m.new hp) (.d (.newT m.has hp (d.data q2)))⟩
theorem j_lst {es : List Expr} {r : Env → Mem → R (List Z)} {pos : Pos} (hr : PA X es (tDs W S wx r)) (hl : ∀ ρ M zs M', r ρ M = .ok zs M' → zs.length ≤ slen) :
    PE X (.List es pos) (tD W S wx fun ρ M => (r ρ M).bind fun zs M1 => R.of ((dsOf zs).map fun ds => .d (.list ds)) M1) := by
  refine (pe_lst hr).imp fun σ H Q hq => ?_
  obtain ⟨ι, ρ, M, rl, e⟩ := hq
  dsimp only at e
  refine ⟨ι, ρ, M, rl, stepE e fun zs M2 ι1 vs H1 q ex m d e1 => ?_⟩
  obtain ⟨ds, q2, e2⟩ := R.of_map e1
  exact ⟨sl_of (by rw [d.length]; exact hl _ _ _ _ q), fun p hp => e2 ι1 _ _ (Ext.new hp) (m.new hp) (.d (.newL m.has hp (d.data q2)))⟩
theorem j_mls {es : List Expr} {r : Env → Mem → R (List Z)} {pos : Pos} (hr : PA X es (tDs W S wx r)) (hl : ∀ ρ M zs M', r ρ M = .ok zs M' → zs.length ≤ slen) :
    PE X (.List es pos) (tD W S wx fun ρ M => (r ρ M).bind fun zs M1 => match dsOf zs with
      | some ds => .ok (.r M1.length) (M1 ++ [.lst ds])
      | none => .bad) := by
  refine (pe_lst hr).imp fun σ H Q hq => ?_
  obtain ⟨ι, ρ, M, rl, e⟩ := hq
  dsimp only at e
  refine ⟨ι, ρ, M, rl, stepE e fun zs M2 ι1 vs H1 q ex m d e1 => ?_⟩
  cases q2 : dsOf zs with
  | none => rw [q2] at e1; exact e1.elim
  | some ds =>
    rw [q2] at e1
    refine ⟨sl_of (by rw [d.length]; exact hl _ _ _ _ q), fun p hp => e1 _ _ _ (Ext.newM hp) (m.newM hp (d.data q2)) (.r ?_)⟩
    rw [← m.m.len]; show (ι1.pl ++ [p])[ι1.pl.length]? = some p; rw [List.getElem?_append_right (Nat.le_refl _)]
    simp
/-- a built-in by its name -/
theorem boot_bi (b : Bi) : bootBuiltins b.n = some b.v := by cases b <;> decide +kernel
theorem bi_in (b : Bi) : b.n ∈ blts := by cases b <;> decide +kernel
theorem bi_plain (b : Bi) : (b.n == ("__debug__" : Str)) = false ∧ b.n ≠ "__name__" := by cases b <;> decide +kernel
theorem j_bad {e : Expr} {f : Env → Mem → R Z} (hf : ∀ ρ M, f ρ M = .bad) : PE X e (tD W S wx f) := ⟨fun pins s σ H Q I hq => by
  obtain ⟨ι, ρ, M, rl, e⟩ := hq
  rw [hf] at e
  exact e.elim⟩
theorem j_bi (g : GX W G S k h cc X wx) {b : Bi} {y : Expr} {ys : List Expr} {r : Env → Mem → R (List Z)} {p pos : Pos} (hw : (h && b.walks) = false) (hr : PA X (y :: ys) (tDs W S wx r)) (hn : (y :: ys).all notStar = true) (hg : isGlob cc b.n = true) :
    PE X (.Call (.Name b.n p) (y :: ys) [] pos) (tD W S wx fun ρ M => (r ρ M).bind fun zs M1 => biz b zs M1) := by
  have hc : X.calm = true ∨ b.walks = false := by
    cases h with
    | false => exact .inl (g.calm rfl).1
    | true => exact .inr hw
  have hn' := hn
  rw [List.all_cons, Bool.and_eq_true] at hn'
  have hv := boot_bi b
  have main : PE X (.Call (.Name b.n p) (y :: ys) [] pos) (tCB (rBn W (biz b)) (tDs W S wx r)) := by
    have hcall := call_bi (W := W) g.eK b hc
    cases b <;> first
      | exact pe_callB hcall (g.gl hg) (g.blt (bi_in _)) hv hr (bi_plain _).2 (bi_plain _).1 (star_of hn'.1) (plain_of hn'.2)
      | exact pe_callTy hcall (g.gl hg) (g.blt (bi_in _)) hv hr (bi_plain _).2 (bi_plain _).1 (star_of hn'.1) (plain_of hn'.2)
  refine main.imp fun σ H Q hq => ?_
  obtain ⟨ι, ρ, M, rl, e⟩ := hq
  dsimp only at e
  exact ⟨ι, ρ, M, rl, e.step fun zs M2 ι1 vs H1 ex m d e1 => ⟨ι1, M2, zs, wx, σ, m, d, e1⟩⟩
/-- isinstance -/
theorem ty_plain (t : Ty) : (t.n == ("__debug__" : Str)) = false ∧ t.n ≠ "__name__" ∧ t.n ∈ blts ∧ bootBuiltins t.n = some (.type t.s) := by cases t <;> decide +kernel
theorem kit_b (t : Ty) : kitB "bool" t.s = some (match t with | .bool | .int => true | _ => false) := by cases t <;> decide +kernel
theorem kit_i (t : Ty) : kitB "int" t.s = some (match t with | .int => true | _ => false) := by cases t <;> decide +kernel
theorem kit_s (t : Ty) : kitB "str" t.s = some (match t with | .str => true | _ => false) := by cases t <;> decide +kernel
theorem kit_l (t : Ty) : kitB "list" t.s = some (match t with | .list => true | _ => false) := by cases t <;> decide +kernel
theorem kit_t (t : Ty) : kitB "tuple" t.s = some (match t with | .tuple => true | _ => false) := by cases t <;> decide +kernel
theorem kit_n (t : Ty) : kitB "NoneType" t.s = some false := by cases t <;> decide +kernel
theorem ty_kit {K : PySem.W.Frag} {ι : Io} {H : Hp} {v : V} {d : D} (t : Ty) (h : Den K ι H v d) : ∃ u, TyX K H v u ∧ PySem.W.kitOne K u (.type t.s) = some (tyOk d t) := by
  cases h with
  | non => exact ⟨.type "NoneType", .base .non, (kit_ty (kit_n t)).trans (by cases t <;> rfl)⟩
  | bl b => exact ⟨.type "bool", .base (.bl b), (kit_ty (kit_b t)).trans (by cases t <;> rfl)⟩
  | int b => exact ⟨.type "int", .base (.int b), (kit_ty (kit_i t)).trans (by cases t <;> rfl)⟩
  | str b => exact ⟨.type "str", .base (.str b), (kit_ty (kit_s t)).trans (by cases t <;> rfl)⟩
  | lst h1 _ => exact ⟨.type "list", .base (.lst h1.2), (kit_ty (kit_l t)).trans (by cases t <;> rfl)⟩
  | tup h1 _ =>
    refine ⟨.type "tuple", ?_, (kit_ty (kit_t t)).trans (by cases t <;> rfl)⟩
    rcases h1 with ⟨_, h1 | ⟨o, h1⟩⟩ | ⟨o, its, n, h1, h2, _⟩
    · exact .base (.tup h1)
    · exact .fTuple h1
    · exact .kTuple h1 h2
theorem boot_isi : bootBuiltins ("isinstance" : Str) = some (.builtin "isinstance") := by decide +kernel
theorem j_isi (g : GX W G S k h cc X wx) {t : Ty} {y : Expr} {f : Env → Mem → R Z} {p p2 pos : Pos} (hy : PE X y (tD W S wx f)) (hn : notStar y = true) (hg : isGlob cc ("isinstance" : Str) = true) (hg2 : isGlob cc t.n = true) :
    PE X (.Call (.Name ("isinstance" : Str) p) [y, .Name t.n p2] [] pos) (tD W S wx fun ρ M => (f ρ M).bind fun x M1 => isz t x M1) := by
  obtain ⟨t1, t2, t3, t4⟩ := ty_plain t
  have hb : PE X (.Name t.n p2) (tC (.ty t.s)) := pe_bltn (g.gl hg2) (g.blt t3) t4 rfl t2 t1
  refine (pe_callB call_isi (g.gl hg) (g.blt (by decide +kernel)) boot_isi (pa_cons hy (pa_cons hb pa_nil) (star_of hn)) (by decide +kernel) (by decide +kernel) (star_of hn)).imp fun σ H Q hq => ?_
  obtain ⟨ι, ρ, M, rl, e⟩ := hq
  dsimp only at e
  refine ⟨ι, ρ, M, rl, e.step fun z M1 ι1 v1 H1 ex m d e1 => ?_⟩
  show rIsi X.K [v1, V.ty t.s] H1 Q
  cases d with
  | d d =>
    obtain ⟨u, h1, h2⟩ := ty_kit t d
    rename_i dd
    have e1 : EndG W wx σ ι1 H1 (DenZ W.K) Q (if tyKnown dd then .ok (.d (.bool (tyOk dd t))) M1 else .bad) := e1
    split at e1
    · exact ⟨v1, .ty t.s, u, .type t.s, _, rfl, .ty _, by rw [g.eK]; exact h1, by rw [g.eK]; exact h2, EndG.now e1 m (.d (.bl _))⟩
    · exact e1.elim
  | r hx =>
    rename_i n a
    have e1 : EndG W wx σ ι1 H1 (DenZ W.K) Q (match M1[n]? with
      | some (.lst _) => .ok (.d (.bool (decide (t = .list)))) M1
      | _ => .bad) := e1
    cases q : M1[n]? with
    | none => rw [q] at e1; exact e1.elim
    | some o =>
      rw [q] at e1
      have c := m.cell q hx
      cases o with
      | lst ds =>
        obtain ⟨xs, h1, _⟩ := c
        refine ⟨_, .ty t.s, .type "list", .type t.s, _, rfl, .ty _, .base (.lst h1), (kit_ty (kit_l t)).trans ?_, EndG.now e1 m (.d (.bl _))⟩
        cases t <;> rfl
      | _ => exact e1.elim
end
end Zt
namespace Zt
open PySem PySem.Spec PyProof.Rows L2
section
variable {W : Wd} {G : Stat} {S : Sc} {k : Nat} {h : Bool} {cc : CC} {X : Cx} {wx : WX}
theorem base_of {o : Expr} {n : Str} {env : PySem.Env} (hp : plainRecv o = true) (w : Sem Value) : attributeBase o n env w = w := by
  unfold attributeBase
  split
  · cases hp
  · rfl
theorem mt_swap : MtR X "str.swapcase" (fun x xs H Q => ∃ a, x = .str a ∧ xs = [] ∧ a.length ≤ 5592405 ∧ Q (.str (Txt.swapcase a)) H) :=
  mt0 (C := fun a => a.length ≤ 5592405) (g := fun a => .str (Txt.swapcase a)) fun a _ s _ hc hq =>
    PySem.SC.swapcase (PyProof.Rows.short24 (by have h1 : a.length ≤ 5592405 := hc; have := PyProof.Rows.len_swapcase a; omega)) (hq _ (s.toks + 1) ⟨_, rfl⟩)
theorem rcv_str {m : Mt} {z : Z} {v : V} {ι : Io} {H : Hp} {M : Mem} (hm : m ≠ .append) (d : DenZ W.K ι H v z) (e : rcv m z M = true) : ∃ a, z = .d (.str a) ∧ v = .str a := by
  cases d with
  | r _ => cases m <;> first | cases e | exact absurd rfl hm
  | d d =>
    cases d with
    | str a => exact ⟨a, rfl, rfl⟩
    | _ => cases m <;> cases e
theorem ite_step {σ : St} {ι : Io} {H : Hp} {Q : VK} {c : Bool} {r : R Z} (e : EndG W wx σ ι H (DenZ W.K) Q (if c then r else .bad)) : c = true ∧ EndG W wx σ ι H (DenZ W.K) Q r := by
  cases c with
  | true => exact ⟨rfl, e⟩
  | false => exact e.elim
/-- the strings' methods without arguments -/
theorem j_m0 (g : GX W G S k h cc X wx) {m : Mt} {o : Expr} {f : Env → Mem → R Z} {ap p : Pos} (hm : m = .lower ∨ m = .upper ∨ m = .swapcase) (ho : PE X o (tD W S wx f)) (hp : plainRecv o = true) (hl : (ap.endLine == p.line) = true) :
    PE X (.Call (.Attribute o m.n ap) [] [] p) (tD W S wx fun ρ M => (f ρ M).bind fun x M1 => if rcv m x M1 then (R.ok [] M1).bind fun zs M2 => mtz m x zs M2 else .bad) := by
  have h5 : slen ≤ 5592405 := by decide +kernel
  have main : ∀ (fn : Str → Str), (∀ a, mtd m (.str a) [] = if a.length ≤ slen then some (.str (fn a)) else none) → m ≠ .append →
      PE X (.Call (.Attribute o m.n ap) [] [] p) (tM0 (fun x xs H Q => ∃ a, x = .str a ∧ xs = [] ∧ a.length ≤ 5592405 ∧ Q (.str (fn a)) H) (tD W S wx f)) →
      PE X (.Call (.Attribute o m.n ap) [] [] p) (tD W S wx fun ρ M => (f ρ M).bind fun x M1 => if rcv m x M1 then (R.ok [] M1).bind fun zs M2 => mtz m x zs M2 else .bad) := fun fn em hna hpe => by
    refine hpe.imp fun σ H Q hq => ?_
    obtain ⟨ι, ρ, M, rl, e⟩ := hq
    dsimp only at e
    refine ⟨ι, ρ, M, rl, e.step fun z M1 ι1 v1 H1 ex mm d e1 => ?_⟩
    obtain ⟨hc, e1⟩ := ite_step e1
    obtain ⟨a, rfl, rfl⟩ := rcv_str hna d hc
    have hz : mtz m (.d (.str a)) [] M1 = R.of ((mtd m (.str a) []).map .d) M1 := by cases m <;> rfl
    have e1 : EndG W wx σ ι1 H1 (DenZ W.K) Q (mtz m (.d (.str a)) [] M1) := e1
    rw [hz] at e1
    obtain ⟨z2, ez, q⟩ := EndG.of e1
    rw [em] at ez
    split at ez
    · rename_i hl2
      cases ez
      exact ⟨⟨_, rfl⟩, a, rfl, rfl, Nat.le_trans hl2 h5, q _ H1 (Ext.refl ι1 H1) mm (.str _)⟩
    · cases ez
  rcases hm with rfl | rfl | rfl
  · exact main Txt.lower (fun _ => rfl) (fun z => nomatch z) (pe_m0 F.slot_str_lower F.type_str_lower mt_lower ho (base_of hp _) hl)
  · exact main Txt.upper (fun _ => rfl) (fun z => nomatch z) (pe_m0 F.slot_str_upper F.type_str_upper mt_upper ho (base_of hp _) hl)
  · exact main Txt.swapcase (fun _ => rfl) (fun z => nomatch z) (pe_m0 F.slot_str_swapcase F.type_str_swapcase mt_swap ho (base_of hp _) hl)
theorem star1 {e : Expr} {env : PySem.Env} (hn : notStar e = true) : starEach [e] env = [(false, eval e env)] := star_of hn
/-- .. with one argument -/
theorem j_m1 (g : GX W G S k h cc X wx) {m : Mt} {o y : Expr} {f fy : Env → Mem → R Z} {ap p : Pos} (hm : m = .split ∨ m = .join ∨ m = .count) (ho : PE X o (tD W S wx f)) (hy : PE X y (tD W S wx fy)) (hn : notStar y = true) (hp : plainRecv o = true) (hl : (ap.endLine == p.line) = true) :
    PE X (.Call (.Attribute o m.n ap) [y] [] p) (tD W S wx fun ρ M => (f ρ M).bind fun x M1 => if rcv m x M1 then ((fy ρ M1).bind fun u M2 => (R.ok [] M2).bind fun us M3 => R.ok (u :: us) M3).bind fun zs M4 => mtz m x zs M4 else .bad) := by
  have main : ∀ (r : V → List V → Hp → VK → Prop), m ≠ .append → PE X (.Call (.Attribute o m.n ap) [y] [] p) (tM1 r (tD W S wx f) (tD W S wx fy)) →
      (∀ (ι : Io) (M : Mem) (a : Str) (b : Z) (w : V) (H : Hp) (σ : St) (Q : VK), MI W ι H M → DenZ W.K ι H w b → EndG W wx σ ι H (DenZ W.K) Q (mtz m (.d (.str a)) [b] M) → r (.str a) [w] H Q) →
      PE X (.Call (.Attribute o m.n ap) [y] [] p) (tD W S wx fun ρ M => (f ρ M).bind fun x M1 => if rcv m x M1 then ((fy ρ M1).bind fun u M2 => (R.ok [] M2).bind fun us M3 => R.ok (u :: us) M3).bind fun zs M4 => mtz m x zs M4 else .bad) := fun r hna hpe hr => by
    refine hpe.imp fun σ H Q hq => ?_
    obtain ⟨ι, ρ, M, rl, e⟩ := hq
    dsimp only at e
    refine ⟨ι, ρ, M, rl, e.step fun z M1 ι1 v1 H1 ex mm d e1 => ?_⟩
    obtain ⟨hc, e1⟩ := ite_step e1
    obtain ⟨a, rfl, rfl⟩ := rcv_str hna d hc
    refine ⟨⟨a, rfl⟩, ι1, ρ, M1, rl.go ex mm, ?_⟩
    have e2 : EndG W wx σ ι1 H1 (DenZ W.K) Q ((fy ρ M1).bind fun u M2 => mtz m (.d (.str a)) [u] M2) := by
      cases q : fy ρ M1 <;> (rw [q] at e1; exact e1)
    refine e2.step fun u M2 ι2 v2 H2 ex2 m2 d2 e3 => ?_
    exact hr ι2 M2 a u v2 H2 σ Q m2 d2 e3
  rcases hm with rfl | rfl | rfl
  · refine main _ (fun z => nomatch z) (pe_m1 F.slot_str_split F.type_str_split mt_split ho hy (star1 hn) (base_of hp _) hl) fun ι M a b w H σ Q m d e => ?_
    cases d with
    | r _ => exact e.elim
    | d d =>
    obtain ⟨z2, ez, q⟩ := EndG.of (show EndG W wx σ ι H (DenZ W.K) Q (R.of ((mtd .split (.str a) [_]).map .d) M) from e)
    cases d with
    | str y =>
      simp only [mtd] at ez
      split at ez
      · rename_i hl2
        cases ez
        have h3 : slen + 2 ≤ sizeLine := by decide +kernel
        exact ⟨a, y, rfl, rfl, hl2.1, by omega, fun p hp => q _ _ (Ext.new hp) (m.new hp) (.newL m.has hp (DenL.strs _))⟩
      · cases ez
    | _ => cases ez
  · refine main _ (fun z => nomatch z) (pe_m1 F.slot_str_join F.type_str_join mt_join ho hy (star1 hn) (base_of hp _) hl) fun ι M a b w H σ Q m d e => ?_
    have e : EndG W wx σ ι H (DenZ W.K) Q (R.of (((lsZ M b).bind fun xs => mtd .join (.str a) [.list xs]).map .d) M) := by
      cases b with
      | r n => exact e
      | d x =>
        cases x with
        | list xs => exact e
        | _ => exact False.elim e
    obtain ⟨z2, ez, q⟩ := EndG.of e
    obtain ⟨xs, q2, ez⟩ := Option.bind_eq_some_iff.mp ez
    obtain ⟨p, us, rfl, h1, l1⟩ := lsZ_rd m d q2
    obtain ⟨ss, q3, e3⟩ := Option.bind_eq_some_iff.mp (show (strsOf _).bind (fun ss => if (ss.map (·.length)).sum + ss.length * a.length ≤ slen then some (PyData.str (Txt.join a ss)) else none) = some z2 from ez)
    split at e3
    · rename_i hl2
      cases e3
      obtain ⟨e4, e5⟩ := l1.ofStrs q3
      subst e4
      have h3 : slen ≤ 16777216 := by decide +kernel
      exact ⟨a, _, ss, rfl, rfl, .inl (.inl (.inl h1)), by omega, q _ H (Ext.refl ι H) m (.str _)⟩
    · cases e3
  · refine main _ (fun z => nomatch z) (pe_m1 F.slot_str_count F.type_str_count mt_count ho hy (star1 hn) (base_of hp _) hl) fun ι M a b w H σ Q m d e => ?_
    cases d with
    | r _ => exact e.elim
    | d d =>
    obtain ⟨z2, ez, q⟩ := EndG.of (show EndG W wx σ ι H (DenZ W.K) Q (R.of ((mtd .count (.str a) [_]).map .d) M) from e)
    cases d with
    | str y =>
      cases ez
      exact ⟨a, y, rfl, rfl, q _ H (Ext.refl ι H) m (.int _)⟩
    | _ => cases ez
/-- l.append(y) -/
theorem few_of {es : List Expr} {env : PySem.Env} {cpos : Pos} (hn : es.all notStar = true) (hl : es.length < 20) :
    ((backTo cpos (starEach es env)).all (fun x => !x.1) && (backToKw cpos (keywordEach [] env)).all (fun x => x.1.isSome) && decide (es.length + ([] : List Keyword).length + (if ([] : List Keyword).isEmpty then 0 else 1) < 30)) = true := by
  have h1 : ∀ (es : List Expr), es.all notStar = true → (backTo cpos (starEach es env)).all (fun x => !x.1) = true := fun es => by
    induction es with
    | nil => intro _; rfl
    | cons e r ih =>
      intro h
      rw [List.all_cons, Bool.and_eq_true] at h
      rw [star_of h.1]
      show ((!false) && (backTo cpos (starEach r env)).all (fun x => !x.1)) = true
      rw [ih h.2]
      rfl
  rw [h1 es hn]
  simp [backToKw, keywordEach]
  omega
theorem getL_some {M : Mem} {n : Nat} {l : List D} (h : getL M n = some l) : M[n]? = some (.lst l) := by
  unfold getL at h
  split at h
  · rename_i q
    cases Option.some.inj h
    exact q
  · cases h
theorem rcv_app {z : Z} {v : V} {ι : Io} {H : Hp} {M : Mem} (m : MI W ι H M) (d : DenZ W.K ι H v z) (e : rcv .append z M = true) : ∃ n a xs, z = .r n ∧ v = .ref a ∧ ι.pl[n]? = some a ∧ H a = some (.lst xs) := by
  cases d with
  | d d => cases d <;> cases e
  | @r n a hx =>
    have e : (match M[n]? with
      | some (.lst _) => true
      | _ => false) = true := e
    cases q : M[n]? with
    | none => rw [q] at e; cases e
    | some o1 =>
      rw [q] at e
      have c := m.cell q hx
      cases o1 with
      | lst ds =>
        obtain ⟨xs, h1, _⟩ := c
        exact ⟨n, a, xs, rfl, rfl, hx, h1⟩
      | _ => cases e
theorem j_app (g : GX W G S k h cc X wx) {o y : Expr} {f fy : Env → Mem → R Z} {ap p : Pos} (ho : PE X o (tD W S wx f)) (hy : PE X y (tD W S wx fy)) (hn : notStar y = true) (hp : plainRecv o = true) (hl : (ap.endLine == p.line) = true) :
    PE X (.Call (.Attribute o Mt.append.n ap) [y] [] p) (tD W S wx fun ρ M => (f ρ M).bind fun x M1 => if rcv .append x M1 then ((fy ρ M1).bind fun u M2 => (R.ok [] M2).bind fun us M3 => R.ok (u :: us) M3).bind fun zs M4 => mtz .append x zs M4 else .bad) := by
  refine (pe_bm (id := "list.append") PySem.F.plainAttrs_list PySem.F.slot_list_append PySem.F.type_list_append mt_append ho (pa_cons hy pa_nil (star_of hn)) (base_of hp _) (few_of (es := [y]) (by simp [hn]) (by simp)) hl (star_of hn) rfl).imp fun σ H Q hq => ?_
  obtain ⟨ι, ρ, M, rl, e⟩ := hq
  dsimp only at e
  refine ⟨ι, ρ, M, rl, e.step fun z M1 ι1 v1 H1 ex mm d e1 => ?_⟩
  obtain ⟨hc, e1⟩ := ite_step e1
  obtain ⟨n, a, xs, rfl, rfl, hx, h1⟩ := rcv_app mm d hc
  refine ⟨.inl ⟨rfl, xs, .inl (.inl h1)⟩, ι1, ρ, M1, rl.go ex mm, ?_⟩
  have e2 : EndG W wx σ ι1 H1 (DenZ W.K) Q ((fy ρ M1).bind fun u M2 => mtz .append (.r n) [u] M2) := by
    cases q : fy ρ M1 <;> (rw [q] at e1; exact e1)
  refine e2.step fun u M2 ι2 v2 H2 ex2 m2 d2 e3 => ?_
  cases d2 with
  | r _ => exact e3.elim
  | @d _ y d2 =>
    have e3 : EndG W wx σ ι2 H2 (DenZ W.K) Q (match getL M2 n with
      | some l => if l.length < slen then .ok (.d .none) (M2.set n (.lst (l ++ [y]))) else .bad
      | none => .bad) := e3
    cases q2 : getL M2 n with
    | none => rw [q2] at e3; exact e3.elim
    | some l =>
      rw [q2] at e3
      obtain ⟨ys, h3, l3⟩ := m2.cell (getL_some q2) (ex2.at hx)
      dsimp only at e3
      split at e3
      · rename_i hlen
        exact ⟨a, ys, v2, rfl, rfl, h3, sl_lt (by rw [l3.length]; exact hlen), e3 ι2 _ _ (Ext.wr (List.mem_of_getElem? (ex2.at hx)) h3) (m2.wr (ex2.at hx) h3 (l3.append (.cons d2 .nil))) (.d .non)⟩
      · exact e3.elim
theorem plain_ix {b : Expr} (h : notSlice b = true) : PlainIx b := fun o i => by
  cases b <;> first | rfl | cases h
theorem j_sub (g : GX W G S k h cc X wx) {a b : Expr} {fa fb : Env → Mem → R Z} {pos : Pos} (ha : PE X a (tD W S wx fa)) (hb : PE X b (tD W S wx fb)) (hs : notSlice b = true) :
    PE X (.Subscript a b pos) (tD W S wx fun ρ M => (fa ρ M).bind fun x M1 => (fb ρ M1).bind fun y M2 => subz x y M2) := by
  refine (pe_ix (ix_Z g.eK) ha hb (plain_ix hs)).imp fun σ H Q hq => ?_
  obtain ⟨ι, ρ, M, rl, e⟩ := hq
  dsimp only at e
  refine ⟨ι, ρ, M, rl, e.step fun z M1 ι1 v1 H1 ex m d e1 => ⟨ι1, ρ, M1, rl.go ex m, e1.step fun z2 M2 ι2 v2 H2 ex2 m2 d2 e2 => ?_⟩⟩
  exact ⟨ι2, M2, z, z2, wx, σ, m2, d.mono ex2, d2, e2⟩
theorem _root_.L2.PO.imp {X : Cx} {e : Option Expr} {t u : TO} (h : PO X e t) (i : ∀ σ H Q, u σ H Q → t σ H Q) : PO X e u := ⟨fun pins s σ H Q I q => h.run pins s σ H Q I (i σ H Q q)⟩
theorem jo_no : PO X none (tDO W S wx fun _ M => .ok none M) := po_none.imp fun σ H Q hq => by
  obtain ⟨ι, ρ, M, rl, e⟩ := hq
  exact e ι none H (Ext.refl ι H) rl.m rfl
theorem jo_so {a : Expr} {f : Env → Mem → R Z} (ha : PE X a (tD W S wx f)) : PO X (some a) (tDO W S wx fun ρ M => (f ρ M).bind fun x M1 => match x with
    | .d (.int i) => .ok (some i) M1
    | _ => .bad) := (po_some ha).imp fun σ H Q hq => by
  obtain ⟨ι, ρ, M, rl, e⟩ := hq
  dsimp only at e
  refine ⟨ι, ρ, M, rl, e.step fun z M1 ι1 v1 H1 ex m d e1 => ?_⟩
  cases d with
  | r _ => exact e1.elim
  | d d =>
    cases d with
    | int i => exact ⟨i, rfl, e1 ι1 _ H1 (Ext.refl ι1 H1) m rfl⟩
    | _ => exact e1.elim
theorem j_slc (g : GX W G S k h cc X wx) {a : Expr} {l u : Option Expr} {fa : Env → Mem → R Z} {fl fu : Env → Mem → R (Option Int)} {pos p2 : Pos} (ha : PE X a (tD W S wx fa)) (hl : PO X l (tDO W S wx fl)) (hu : PO X u (tDO W S wx fu)) :
    PE X (.Subscript a (.Slice l u none p2) pos) (tD W S wx fun ρ M => (fa ρ M).bind fun x M1 => (fl ρ M1).bind fun a M2 => (fu ρ M2).bind fun b M3 => slz x a b M3) := by
  refine (pe_slice (sl_Z g.eK) ha hl hu).imp fun σ H Q hq => ?_
  obtain ⟨ι, ρ, M, rl, e⟩ := hq
  dsimp only at e
  refine ⟨ι, ρ, M, rl, e.step fun z M1 ι1 v1 H1 ex m d e1 => ⟨ι1, ρ, M1, rl.go ex m, e1.step fun o M2 ι2 v2 H2 ex2 m2 d2 e2 => ⟨ι2, ρ, M2, (rl.go ex m).go ex2 m2, e2.step fun o3 M3 ι3 v3 H3 ex3 m3 d3 e3 => ?_⟩⟩⟩
  cases (show v2 = o from d2)
  cases (show v3 = o3 from d3)
  exact ⟨ι3, M3, z, wx, σ, m3, (d.mono ex2).mono ex3, e3⟩
end
end Zt
namespace Zt
open PySem PySem.Spec PyProof.Rows L2
section
variable {W : Wd} {X : Cx}
def RvR (X : Cx) (r : V → Hp → VK → Prop) : Prop :=
  ∀ (pins : List (Addr × Obj)) (s : Shared) (σ : L2.St) (H : Hp) (x : V) (v vl vu vs : Value) (sl : Addr) (Q : VK),
    L2.Inv X pins σ H s → L2.RelV x v → s.heap.IsSliceOf sl vl vu vs → IsPart vl none → IsPart vu none → IsPart vs (some (-1)) → r x H Q →
      ∃ T id, typeLookup (Value.type T) (Str.ofString "__getitem__") = pure (some (Value.builtin id)) ∧ s.TypeIs v T ∧ wpAny (model X.prog X.w) X.A (getItem v (Value.ref sl)) (EP X pins σ Q) X.xe s
theorem pe_rev {r : V → Hp → VK → Prop} (hr : RvR X r) {e : Expr} {te : TE} {k : Nat} {p1 p2 p3 pos : Pos} (he : PE X e te) : PE X (.Subscript e (.Slice none none (some (.UnaryOp .USub (.Constant (.int 1) k p1) p2)) p3) pos) (fun σ H Q => te σ H fun x H1 => r x H1 Q) := by
  refine ⟨fun pins s σ H Q I h => ?_⟩
  refine Subscript_ (thn (he.run pins s σ H _ I h) fun v s1 ⟨x, H1, I1, r1, q1⟩ => ?_)
  have hst : PO X (some (.UnaryOp .USub (.Constant (.int 1) k p1) p2)) (tPart (tUn (rU fun i => .int (-i)) (tC (.int 1)))) := po_some (pe_un un_neg pe_int)
  refine wpAny_Slice (thn (po_none.run pins s1 σ H1 (fun o H2 => o = none ∧ H2 = H1) I1 ⟨rfl, rfl⟩) fun vl s2 ⟨l, H2, I2, pl, el, e2⟩ => ?_)
  subst el e2
  refine thn (po_none.run pins s2 σ H2 (fun o H3 => o = none ∧ H3 = H2) I2 ⟨rfl, rfl⟩) fun vu s3 ⟨u, H3, I3, pu, eu, e3⟩ => ?_
  subst eu e3
  refine thn (hst.run pins s3 σ H3 (fun o H4 => o = some (-1) ∧ H4 = H3) I3 ⟨1, rfl, -1, rfl, rfl, rfl⟩) fun vs s4 ⟨o, H4, I4, ps, eo, e4⟩ => ?_
  subst eo e4
  have I5 : Inv X pins σ H4 { s4 with heap := s4.heap.push { cls := .type "slice", data := .fields #[vl, vu, vs] } } := I4.kept (t' := s4.toks) fun b ob q => Heap.get?_push_of_some _ q
  obtain ⟨T, id, hT, ht, hg⟩ := hr pins _ σ H4 x v vl vu vs s4.heap.objs.size Q I5 r1 (Heap.IsSliceOf.new ..) pl pu ps q1
  show wpAny (model X.prog X.w) X.A (subscriptTail e (.Slice none none (some (.UnaryOp .USub (.Constant (.int 1) k p1) p2)) p3) v (.ref s4.heap.objs.size)) (EP X pins σ Q) X.xe { s4 with heap := s4.heap.push { cls := .type "slice", data := .fields #[vl, vu, vs] } }
  exact tail_any (ops := [v, .ref s4.heap.objs.size]) ht hT hg (by with_unfolding_all rfl)
def rRvL (K : PySem.W.Frag) : V → Hp → VK → Prop := fun x H Q => ∃ a xs, x = .ref a ∧ SqL K H a xs ∧ ∀ p, H p = none → Q (.ref p) (upd H p (.lst xs.reverse))
theorem rv_list : RvR X (rRvL X.K) := by
  intro pins s σ H x v vl vu vs sl Q I rx hs pl pu ps h
  obtain ⟨a, xs, rfl, hx, q⟩ := h
  cases rx
  obtain ⟨its, r, ht, hz⟩ := I.list hx
  have hlen := r.length
  refine ⟨"list", _, slot_list_getitem.lookup, ht.isList.typeIs, ?_⟩
  refine wpAny_getItem_list_slice ht.isList hs pl pu ps (by decide) ?_ (by rw [List.size_toArray]; omega)
  rw [PySem.W.krv_pick]
  refine ⟨.ref _, _, I.laid (t' := s.toks) (o := .lst xs.reverse) (fun b ob q => Heap.get?_push_of_some _ q) (Nat.le_refl _) ?_, rfl, q _ (I.hok.fresh (Nat.le_refl _))⟩
  exact ⟨by rw [List.length_reverse]; exact hz, _, 0, r.reverse, Heap.get?_push_size _ rfl⟩
/-- a text from its end -/
def revS (x : Str) : Str := ⟨x.cps.toList.reverse.toArray⟩
theorem rev_pick (x : Str) : ((Builtin.Str.strSliceIndices none none (-1) x.length).filterMap (x.cps[·]?)).toArray = x.cps.toList.reverse.toArray := by
  have e : Builtin.Str.strSliceIndices none none (-1) x.length = (List.range x.length).reverse := by
    show sliceRange ((x.length : Int) - 1) (-1) (-1) = _
    rw [PySem.W.krv_sliceRange, PySem.W.krv_range]
  rw [e, List.filterMap_reverse]
  have := PySem.W.krv_all x.cps
  rw [show x.length = x.cps.size from rfl, this]
theorem rev_len (x : Str) : (revS x).length = x.length := by simp [revS, Str.length]
def rRvS : V → Hp → VK → Prop := fun x H Q => ∃ t, x = .str t ∧ t.length ≤ sizeLine ∧ Q (.str (revS t)) H
theorem rv_str : RvR X rRvS := by
  intro pins s σ H x v vl vu vs sl Q I rx hs pl pu ps h
  obtain ⟨z, rfl, hz, q⟩ := h
  obtain ⟨t, rfl⟩ := rx
  obtain ⟨os, hos, hcs, hds⟩ := hs
  cases pl
  cases pu
  cases ps with
  | int _ tk =>
    refine ⟨"str", _, F.slot_str_getitem.lookup, typeIs_str _ _ _, ?_⟩
    refine wpAny_getItem_str_slice (l := none) (u := none) (st := some (-1, tk)) ⟨os, hos, hcs, hds⟩ rfl ?_
    show Made.post (Made.str ⟨((Builtin.Str.strSliceIndices none none (-1) z.length).filterMap (z.cps[·]?)).toArray⟩) _ s
    rw [rev_pick]
    refine ⟨by rw [show (⟨z.cps.toList.reverse.toArray⟩ : Str) = revS z from rfl, rev_len]; exact hz, V.str (revS z), H, ?_, ⟨_, rfl⟩, q⟩
    exact ⟨I.ok, I.os, I.bare, I.base, I.loc, I.cell, I.free, I.freeC, I.pin, I.hok, I.len⟩
end
end Zt
namespace Zt
open PySem PySem.Spec PyProof.Rows L2 HT
section
variable {prog : Program} {w : World} {A : Around} {E : Value → Shared → Prop} {s : Shared}
theorem adjust_rev (n : Nat) : Builtin.Slice.sliceAdjust none none (-1) (n : Int) = ((n : Int) - 1, -1) := by
  unfold Builtin.Slice.sliceAdjust
  simp
theorem places_rev (n : Nat) : Builtin.Slice.slicePlaces ((n : Int) - 1) (-1) (-1) = n := by
  unfold Builtin.Slice.slicePlaces
  have h1 : ¬ ((-1 : Int) > 0) := by omega
  by_cases h : (n : Int) - 1 > -1
  · simp only [h1, if_false, h, if_true]
    rw [show (-(-1) : Int) = 1 by decide, Int.ediv_one]
    omega
  · have e : n = 0 := by omega
    subst e
    simp
theorem applied_rev {sl : Addr} {vl vu vs : Value} {n : Nat} {Q : Int × Int × Nat → Shared → Prop} (hs : s.heap.IsSliceOf sl vl vu vs) (pl : IsPart vl none) (pu : IsPart vu none) (ps : IsPart vs (some (-1)))
    (h : Q ((n : Int) - 1, -1, n) s) : wpAny (model prog w) A (Builtin.Slice.sliceApplied (.ref sl) (pure (n : Int))) Q E s := by
  obtain ⟨os, hos, hcs, hds⟩ := id hs
  unfold Builtin.Slice.sliceApplied Builtin.Slice.sliceFields
  refine wpAny_bind (wpAny_bind (wpAny_field hos hds (x := vl) rfl (wpAny_bind (wpAny_field hos hds (x := vu) rfl (wpAny_bind (wpAny_field hos hds (x := vs) rfl (wpAny_pure ?_)))))))
  refine wpAny_bind (slicePart_ ps ?_)
  show wpAny _ _ (if ((-1 : Int) == 0) = true then _ else _) _ _ s
  rw [if_neg (by decide)]
  refine wpAny_bind (slicePart_ pl (wpAny_bind (slicePart_ pu (wpAny_bind (wpAny_pure ?_)))))
  show wpAny _ _ (match Builtin.Slice.sliceAdjust none none (-1) (n : Int) with | (lo, hi) => pure (lo, (-1 : Int), Builtin.Slice.slicePlaces lo hi (-1))) _ _ s
  rw [adjust_rev n]
  show wpAny _ _ (pure ((n : Int) - 1, (-1 : Int), Builtin.Slice.slicePlaces ((n : Int) - 1) (-1) (-1))) _ _ s
  rw [places_rev]
  exact wpAny_pure h
theorem fm_congr {α β : Type} {f g : α → Option β} : ∀ {l : List α}, (∀ x ∈ l, f x = g x) → l.filterMap f = l.filterMap g
  | [], _ => rfl
  | x :: l, h => by
    rw [List.filterMap_cons, List.filterMap_cons, h x (List.mem_cons_self ..), fm_congr fun y hy => h y (List.mem_cons_of_mem _ hy)]
theorem pick_rev (xs : Array Value) : ((List.range xs.size).filterMap fun (m : Nat) => xs[(((xs.size : Int) - 1) + (m : Int) * (-1)).toNat]?).toArray = xs.toList.reverse.toArray := by
  have e : ((List.range xs.size).filterMap fun (m : Nat) => xs[(((xs.size : Int) - 1) + (m : Int) * (-1)).toNat]?) = ((List.range xs.size).map fun k => xs.size - 1 - k).filterMap (xs[·]?) := by
    rw [List.filterMap_map]
    refine fm_congr fun m hm => ?_
    have := List.mem_range.mp hm
    have e2 : (((xs.size : Int) - 1) + (m : Int) * (-1)).toNat = xs.size - 1 - m := by omega
    rw [e2]
    rfl
  rw [e, PySem.W.krv_range, List.filterMap_reverse, PySem.W.krv_all]
theorem getItem_tuple_rev {t sl : Addr} {items : Array Value} {vl vu vs : Value} {Q : Value → Shared → Prop} (ht : IsTup s.heap t items) (hs : s.heap.IsSliceOf sl vl vu vs) (pl : IsPart vl none) (pu : IsPart vu none) (ps : IsPart vs (some (-1)))
    (h : Q (.ref s.heap.objs.size) { s with heap := s.heap.push { cls := .type "tuple", data := .seq items.toList.reverse.toArray } })
    (hsz : items.size ≤ sizeLine) : wpAny (model prog w) A (getItem (.ref t) (.ref sl)) Q E s := by
  have htake : sizeOk (.seq items.toList.reverse.toArray) := by
    show items.toList.reverse.toArray.size ≤ sizeLine
    rw [List.size_toArray, List.length_reverse, Array.length_toList]
    exact hsz
  obtain ⟨os, hos, hcs, hds⟩ := id hs
  have hTs : s.TypeIs (.ref sl) "slice" := ⟨os, hos, hcs⟩
  unfold getItem
  try with_reducible refine wpAny_holding ?_
  first | refine wpAny_bind (wpAny_pure ?_) | skip
  refine wpAny_bind (wpAny_sequenceKey ht.typeIs (by decide) ?_)
  refine wpAny_bind (wpAny_callSpecial?_slot (name := Str.ofString "__getitem__") ht.typeIs PyProof.Rows.slot_tuple_getitem
    (wpAny_call_entry PyProof.Rows.slot_tuple_getitem ht.typeIs entry_tuple_getitem ?_ (args_tuple_getitem _ _)))
  show wpAny _ _ (Builtin.Tuple.tupleItemsOf (.ref t) >>= _) _ _ s
  refine wpAny_bind (tupleItemsOf_ ht ?_)
  refine wpAny_bind (wpAny_typeOf hTs ?_)
  rw [if_pos (by decide)]
  refine wpAny_bind (applied_rev hs pl pu ps ?_)
  have hno : ¬ ((((items.size : Int) - 1) == 0 && (-1 : Int) == 1 && items.size == items.size) = true) := by
    intro q
    rw [Bool.and_eq_true, Bool.and_eq_true] at q
    exact absurd q.1.2 (by decide)
  show wpAny _ _ (if (((items.size : Int) - 1) == 0 && (-1 : Int) == 1 && items.size == items.size) = true then _ else _) _ _ s
  rw [if_neg hno, pick_rev]
  first
    | exact wpAny_bind (m := Builtin.Tuple.tupleExact _) (wpAny_newObj_type (wpAny_pure ⟨_, rfl, wpAny_pure h⟩) htake)
    | exact wpAny_bind (m := Builtin.Tuple.tupleExact _) (wpAny_newObj_type (wpAny_bind (wpAny_pure (wpAny_pure ⟨_, rfl, wpAny_pure h⟩))) htake)
    | exact wpAny_bind (wpAny_bind (m := Builtin.Tuple.tupleExact _) (wpAny_newObj_type (wpAny_pure (wpAny_pure ⟨_, rfl, wpAny_pure h⟩)) htake))
    | exact wpAny_bind (wpAny_bind (m := Builtin.Tuple.tupleExact _) (wpAny_newObj_type (wpAny_pure ⟨_, rfl, wpAny_pure h⟩) htake))
end
section
variable {X : Cx}
def rRvT (K : PySem.W.Frag) : V → Hp → VK → Prop := fun x H Q => ∃ a xs, x = .ref a ∧ SqT K H a xs ∧ ∀ p, H p = none → Q (.ref p) (upd H p (.tup xs.reverse))
theorem rv_tup : RvR X (rRvT X.K) := by
  intro pins s σ H x v vl vu vs sl Q I rx hs pl pu ps h
  obtain ⟨a, xs, rfl, hx, q⟩ := h
  cases rx
  obtain ⟨its, r, ht, hz⟩ := I.tuple hx
  have hlen := r.length
  refine ⟨"tuple", _, PyProof.Rows.slot_tuple_getitem.lookup, ht.typeIs, ?_⟩
  refine getItem_tuple_rev ht hs pl pu ps ?_ (by rw [List.size_toArray]; omega)
  refine ⟨.ref s.heap.objs.size, _, I.laid (t' := s.toks) (o := .tup xs.reverse) (fun b ob q => Heap.get?_push_of_some _ q) (Nat.le_refl _) ?_, rfl, q _ (I.hok.fresh (Nat.le_refl _))⟩
  exact ⟨by rw [List.length_reverse]; exact hz, _, r.reverse, IsTup.new _ _⟩
end
end Zt
namespace Zt
open PySem PySem.Spec PyProof.Rows L2
section
variable {W : Wd} {X : Cx}
def rvz (x : Z) (M : Mem) : R Z := match x with
  | .d d => R.of ((revD d).map .d) M
  | .r _ => .bad
def rRvZ (W : Wd) : V → Hp → VK → Prop := fun x H Q => ∃ ι M a wx σ, MI W ι H M ∧ DenZ W.K ι H x a ∧ EndG W wx σ ι H (DenZ W.K) Q (rvz a M)
theorem rv_Z (hK : X.K = W.K) : RvR X (rRvZ W) := by
  intro pins s σ H x v vl vu vs sl Q I rx hs pl pu ps h
  obtain ⟨ι, M, a, wx, σ', m, dx, e⟩ := h
  cases dx with
  | r _ => exact e.elim
  | d dx =>
    rename_i d
    have e : EndG W wx σ' ι H (DenZ W.K) Q (R.of ((revD d).map .d) M) := e
    obtain ⟨z, ez, q⟩ := EndG.of e
    cases dx with
    | lst h1 l1 =>
      cases ez
      exact rv_list pins s σ H _ v vl vu vs sl Q I rx hs pl pu ps ⟨_, _, rfl, .inl (.inl h1.2), fun p hp => q _ _ (Ext.new hp) (m.new hp) (.newL m.has hp l1.reverse)⟩
    | tup h1 l1 =>
      cases ez
      exact rv_tup pins s σ H _ v vl vu vs sl Q I rx hs pl pu ps ⟨_, _, rfl, by rw [hK]; exact h1.imp (fun z => z.2) id, fun p hp => q _ _ (Ext.new hp) (m.new hp) (.newT m.has hp l1.reverse)⟩
    | str t =>
      simp only [revD] at ez
      split at ez
      · rename_i hl
        cases ez
        exact rv_str pins s σ H _ v vl vu vs sl Q I rx hs pl pu ps ⟨t, rfl, sl_of hl, q _ H (Ext.refl ι H) m (.str _)⟩
      · cases ez
    | _ => cases ez
end
section
variable {W : Wd} {G : Stat} {S : Sc} {k : Nat} {h : Bool} {cc : CC} {X : Cx} {wx : WX}
theorem j_rev (g : GX W G S k h cc X wx) {a : Expr} {fa : Env → Mem → R Z} {kk : Nat} {p1 p2 p3 pos : Pos} (ha : PE X a (tD W S wx fa)) :
    PE X (.Subscript a (.Slice none none (some (.UnaryOp .USub (.Constant (.int 1) kk p1) p2)) p3) pos) (tD W S wx fun ρ M => (fa ρ M).bind fun x M1 => rvz x M1) := by
  refine (pe_rev (rv_Z g.eK) ha).imp fun σ H Q hq => ?_
  obtain ⟨ι, ρ, M, rl, e⟩ := hq
  dsimp only at e
  exact ⟨ι, ρ, M, rl, e.step fun z M1 ι1 v1 H1 ex m d e1 => ⟨ι1, M1, z, wx, σ, m, d, e1⟩⟩
end
end Zt
namespace Hh
open PySem PySem.Spec PyProof.Rows L2 HotX
section
variable {prog : Program} {w : World} {A : Around} {E : Value → Shared → Prop} {s : Shared}
/-- the end of an iteration, raised in a hot place -/
theorem stopped {α : Type} {x1 : Addr} {Q : α → Shared → Prop} (hot : HotAt A x1 s.heap)
    (hE : ∀ (g : Heap) (e : Addr), (∀ b o, s.heap.get? b = some o → g.get? b = some o) → (∃ o, g.get? e = some o ∧ o.cls = .type "StopIteration") → E (.ref e) { s with heap := g }) :
    wpAny (model prog w) A (newExc (.type "StopIteration") [] >>= fun e => (raiseNew e : Sem α)) Q E s := by
  obtain ⟨hh, o1, vs1, h1, d1, c1⟩ := hot
  refine wpAny_bind ?_
  simp only [newExc, newTuple]
  refine wpAny_bind (wpAny_newObj_type ?_ (by size_fits))
  refine wpAny_bind (m := firstArgMember _ _) (wpAny_of_eq (a := Value.none) (by first | rfl | (simp only [firstArgMember]; rfl)) ?_)
  refine wpAny_newObj_type ?_ (by size_fits)
  have q1 := Heap.get?_push_of_some { cls := .type "tuple", data := .seq ([] : List Value).toArray } h1
  refine raiseNew_hot (vs := _) ⟨hh, o1, vs1, Heap.get?_push_of_some _ q1, d1, c1⟩ (Nat.ne_of_lt (Heap.lt_size q1)) (Heap.get?_push_size _ rfl) rfl (by first | (simp; done) | (simp; omega)) ?_
  refine hE _ _ (fun b o e => ?_) ⟨_, Heap.get?_update_self _ (Heap.get?_push_size _ rfl) rfl, rfl⟩
  have q2 := Heap.get?_push_of_some { cls := .type "tuple", data := .seq ([] : List Value).toArray } e
  rw [Heap.get?_update_other _ _ (Nat.ne_of_gt (Heap.lt_size q2))]
  exact Heap.get?_push_of_some _ q2
theorem hot_keep {x1 : Addr} {h h' : Heap} {it : Addr} (hot : HotAt A x1 h) (hx : x1 ≠ it) (k : ∀ b o, b ≠ it → h.get? b = some o → h'.get? b = some o) : HotAt A x1 h' := by
  obtain ⟨hh, o1, vs1, h1, d1, c1⟩ := hot
  exact ⟨hh, o1, vs1, k x1 o1 hx h1, d1, c1⟩
theorem list_stop {it l x1 : Addr} {i : Nat} {items : Array Value} {Q : Option Value → Shared → Prop} (hot : HotAt A x1 s.heap) (hx : x1 ≠ it) (hit : s.heap.IsListIter it l i) (hl : s.heap.IsList l items) (hn : items[i]? = none)
    (hQ : ∀ g, (∀ b o, b ≠ it → s.heap.get? b = some o → g.get? b = some o) → Q none { s with heap := g }) : wpAny (model prog w) A (pyNext (.ref it)) Q E s := by
  obtain ⟨ob, hob, hcl, hda⟩ := id hit
  obtain ⟨ol, hol, _, nn, hdl⟩ := hl
  unfold pyNext
  refine wpAny_bind (wpAny_attempt (wpAny_callSpecial?_slot (name := Str.ofString "__next__") hit.typeIs slot_listiter_next (wpAny_call_entry slot_listiter_next hit.typeIs entry_listiter_next ?_ (args_listiter_next _))))
  show wpAny _ _ (field (.ref it) 0 >>= _) _ _ s
  refine wpAny_bind (wpAny_field hob hda (x := .ref l) rfl ?_)
  show wpAny _ _ (if (Value.ref l == Value.none) = true then _ else _) _ _ s
  rw [if_neg (show ¬ ((Value.ref l == Value.none) = true) from Bool.false_ne_true)]
  show wpAny _ _ (field (.ref it) 1 >>= _) _ _ s
  refine wpAny_bind (wpAny_field hob hda (x := .int i 0) rfl ?_)
  show wpAny _ _ (seqItems? (.ref l) >>= _) _ _ s
  refine wpAny_bind (wpAny_seqItems hol hdl ?_)
  simp only [Int.toNat_natCast, hn]
  refine wpAny_bind (wpAny_rule (wpAny_bind (wpAny_setField hob hda (by simp) ?_)))
  refine stopped (x1 := x1) (hot_keep (A := A) hot hx (Heap.SameBut.update ..).extBut) fun g e kp he => ?_
  obtain ⟨o, ho, hc⟩ := he
  refine wpAny_bind (wpAny_isInstance (T := "StopIteration") (b := true) ⟨o, ho, hc⟩ isSubtype_stop ?_)
  exact wpAny_pure (hQ g fun b o hb q => kp b o ((Heap.SameBut.update ..).extBut b o hb q))
theorem tuple_stop {it l x1 : Addr} {i : Nat} {items : Array Value} {Q : Option Value → Shared → Prop} (hot : HotAt A x1 s.heap) (hx : x1 ≠ it) (hit : s.heap.IsTupleIter it l i) (hl : s.heap.IsTuple l items) (hn : items[i]? = none)
    (hQ : ∀ g, (∀ b o, b ≠ it → s.heap.get? b = some o → g.get? b = some o) → Q none { s with heap := g }) : wpAny (model prog w) A (pyNext (.ref it)) Q E s := by
  obtain ⟨ob, hob, hcl, hda⟩ := id hit
  obtain ⟨ol, hol, _, nn, hdl⟩ := hl
  unfold pyNext
  refine wpAny_bind (wpAny_attempt (wpAny_callSpecial?_slot (name := Str.ofString "__next__") hit.typeIs F.slot_tuple_iterator_next (wpAny_call_entry F.slot_tuple_iterator_next hit.typeIs F.entry_tuple_iterator_next ?_ (F.args_tuple_iterator_next_1 _))))
  show wpAny _ _ (field (.ref it) 0 >>= _) _ _ s
  refine wpAny_bind (wpAny_field hob hda (x := .ref l) rfl ?_)
  show wpAny _ _ (if (Value.ref l == Value.none) = true then _ else _) _ _ s
  rw [if_neg (show ¬ ((Value.ref l == Value.none) = true) from Bool.false_ne_true)]
  show wpAny _ _ (field (.ref it) 1 >>= _) _ _ s
  refine wpAny_bind (wpAny_field hob hda (x := .int i 0) rfl ?_)
  show wpAny _ _ (seqItems? (.ref l) >>= _) _ _ s
  refine wpAny_bind (wpAny_seqItems hol hdl ?_)
  simp only [Int.toNat_natCast, hn]
  refine wpAny_bind (wpAny_rule (wpAny_bind (wpAny_setField hob hda (by simp) ?_)))
  refine stopped (x1 := x1) (hot_keep (A := A) hot hx (Heap.SameBut.update ..).extBut) fun g e kp he => ?_
  obtain ⟨o, ho, hc⟩ := he
  refine wpAny_bind (wpAny_isInstance (T := "StopIteration") (b := true) ⟨o, ho, hc⟩ isSubtype_stop ?_)
  exact wpAny_pure (hQ g fun b o hb q => kp b o ((Heap.SameBut.update ..).extBut b o hb q))
/-- a tuple's parts, in a hot place -/
theorem parts_hot {t x1 : Addr} {items : Array Value} {Q : List Value → Shared → Prop} (hot : HotAt A x1 s.heap) (ht : IsTup s.heap t items)
    (hQ : ∀ g, (∀ b o, b ≠ s.heap.objs.size → s.heap.get? b = some o → g.get? b = some o) → Q items.toList { s with heap := g }) : wpAny (model prog w) A (unpackItems (.ref t) items.size none) Q E s := by
  have hlt : t ≠ s.heap.objs.size := by obtain ⟨o, ho, _⟩ := ht; exact Nat.ne_of_lt (Heap.lt_size ho)
  have hx : x1 ≠ s.heap.objs.size := by obtain ⟨_, o, vs, ho, _⟩ := hot; exact Nat.ne_of_lt (Heap.lt_size ho)
  unfold unpackItems
  refine wpAny_bind ?_
  unfold notIterableAtAll
  refine wpAny_bind (wpAny_specialOf ht.typeIs slot_tuple_iter.lookup ?_)
  refine wpAny_pure ?_
  simp only [Bool.false_eq_true, if_false]
  refine wpAny_bind (wpAny_holding (iter_tuple ht ?_))
  refine wpAny_bind (wpAny_holding (draw_tuple hlt items.size 0 _ _ ⟨_, Heap.get?_push_size _ rfl, rfl, rfl⟩ (ht.push _) (by omega) fun g1 hi1 sb1 => ?_))
  rw [show List.take items.size (List.drop 0 items.toList) = items.toList by rw [List.drop_zero]; exact List.take_of_length_le (by simp)]
  rw [if_neg (by simp)]
  have k1 : ∀ b o, b ≠ s.heap.objs.size → s.heap.get? b = some o → g1.get? b = some o := fun b o hb q => sb1.extBut b o hb (Heap.get?_push_of_some _ q)
  have ht1 : IsTup g1 t items := (ht.push _).extBut sb1.extBut hlt
  refine wpAny_bind (wpAny_holding (tuple_stop (x1 := x1) (hot_keep hot hx k1) hx hi1 ht1 (by simp) fun g2 k2 => ?_))
  simp only [Option.isSome_none, Bool.false_eq_true, if_false]
  exact wpAny_pure (hQ g2 fun b o hb q => k2 b o hb (k1 b o hb q))
theorem assign_hot {env : PySem.Env} {elts : List Expr} {k : Nat} {pos : Pos} {t x1 : Addr} {items : Array Value} {Q : Unit → Shared → Prop} (hot : HotAt A x1 s.heap) (ht : IsTup s.heap t items)
    (hn : (assignEach elts env).length = items.size) (hs : (assignEach elts env).findIdx? (·.1) = none)
    (hq : ∀ g, (∀ b o, b ≠ s.heap.objs.size → s.heap.get? b = some o → g.get? b = some o) → wpAny (model prog w) A (assignInOrder ((assignEach elts env).map (·.2)) items.toList) Q E { s with heap := g }) :
    wpAny (model prog w) A (assign (.Tuple elts k pos) env (.ref t)) Q E s := by
  rw [PyProof.Rows.assign_Tuple]
  refine wpAny_bind (wpAny_standAt ?_)
  unfold unpack
  rw [hn, hs]
  exact wpAny_bind (wpAny_holding (parts_hot hot ht hq))
end
end Hh
namespace Hh
open PySem PySem.Spec PyProof.Rows L2 HotX
/-- a walk over a list (false) or a tuple (true) -/
def Wk (c : Bool) (h : Heap) (it l : Addr) (i : Nat) : Prop := if c then h.IsTupleIter it l i else h.IsListIter it l i
def Sq (c : Bool) (h : Heap) (l : Addr) (xs : Array Value) : Prop := if c then h.IsTuple l xs else h.IsList l xs
theorem Wk.keep {c : Bool} {h h' : Heap} {it l : Addr} {i : Nat} (x : Wk c h it l i) (k : ∀ o, h.get? it = some o → h'.get? it = some o) : Wk c h' it l i := by
  cases c with
  | true => exact Heap.IsTupleIter.at (show h.IsTupleIter it l i from x) k
  | false => exact Heap.IsListIter.at (show h.IsListIter it l i from x) k
theorem Sq.keep {c : Bool} {h h' : Heap} {l : Addr} {xs : Array Value} (x : Sq c h l xs) (k : ∀ o, h.get? l = some o → h'.get? l = some o) : Sq c h' l xs := by
  cases c with
  | true =>
    obtain ⟨o, e, r⟩ := (show h.IsTuple l xs from x)
    exact ⟨o, k o e, r⟩
  | false =>
    obtain ⟨o, e, r⟩ := (show h.IsList l xs from x)
    exact ⟨o, k o e, r⟩
theorem Wk.lt {c : Bool} {h : Heap} {it l : Addr} {i : Nat} (x : Wk c h it l i) : it < h.objs.size := by
  cases c with
  | true => obtain ⟨o, e, _⟩ := (show h.IsTupleIter it l i from x); exact Heap.lt_size e
  | false => obtain ⟨o, e, _⟩ := (show h.IsListIter it l i from x); exact Heap.lt_size e
/-- nothing is handled, or an error without a context of its own, which stands apart from these -/
def Plc (A : Around) (h : Heap) (off : List Addr) : Prop := A.handled = none ∨ ∃ x1, HotAt A x1 h ∧ x1 ∉ off
theorem Plc.keep {A : Around} {h h' : Heap} {off : List Addr} (p : Plc A h off) (k : ∀ b o, b ∉ off → h.get? b = some o → h'.get? b = some o) : Plc A h' off := by
  rcases p with p | ⟨x1, ⟨a, o, vs, b, c⟩, n⟩
  · exact .inl p
  · exact .inr ⟨x1, ⟨a, o, vs, k x1 o n b, c⟩, n⟩
section
variable {prog : Program} {w : World} {A : Around} {E : Value → Shared → Prop} {s : Shared}
theorem nx_item {c : Bool} {it l : Addr} {i : Nat} {xs : Array Value} {x : Value} {Q : Value → Shared → Prop} (a : Wk c s.heap it l i) (b : Sq c s.heap l xs) (e : xs[i]? = some x) (hQ : ∀ g, Wk c g it l (i + 1) → Heap.SameBut it s.heap g → Q x { s with heap := g }) :
    wpAny (model prog w) A (Builtin.SmallTypes.nextOf (.ref it)) Q E s := by
  cases c with
  | true => exact RZ.nextOf_tuple_item (show s.heap.IsTupleIter it l i from a) (show s.heap.IsTuple l xs from b) e fun g h1 h2 => hQ g h1 h2
  | false => exact wpAny_nextOf_list_item (show s.heap.IsListIter it l i from a) (show s.heap.IsList l xs from b) e fun g h1 h2 => hQ g h1 h2
theorem nx_stop {c : Bool} {it l : Addr} {i : Nat} {xs : Array Value} {Q : Value → Shared → Prop} {off : List Addr} (p : Plc A s.heap off) (ho : it ∈ off) (a : Wk c s.heap it l i) (b : Sq c s.heap l xs) (e : xs[i]? = none)
    (hE : ∀ g x, (∀ b o, b ≠ it → s.heap.get? b = some o → g.get? b = some o) → (∃ o, g.get? x = some o ∧ o.cls = .type "StopIteration") → E (.ref x) { s with heap := g }) : wpAny (model prog w) A (Builtin.SmallTypes.nextOf (.ref it)) Q E s := by
  rcases p with p | ⟨x1, hot, nx⟩
  · cases c with
    | true => exact RZ.nextOf_tuple_end p (show s.heap.IsTupleIter it l i from a) (show s.heap.IsTuple l xs from b) e fun g x h1 h2 => hE g x h1 h2
    | false => exact wpAny_nextOf_list_end p (show s.heap.IsListIter it l i from a) (show s.heap.IsList l xs from b) e fun g x h1 h2 => hE g x h1 h2
  · have hx : x1 ≠ it := fun z => nx (by rw [z]; exact ho)
    cases c with
    | true =>
      obtain ⟨ob, hob, hcl, hda⟩ := id (show s.heap.IsTupleIter it l i from a)
      obtain ⟨ol, hol, _, nn, hdl⟩ := (show s.heap.IsTuple l xs from b)
      have ty := Heap.IsTupleIter.typeIs (show s.heap.IsTupleIter it l i from a)
      unfold Builtin.SmallTypes.nextOf
      refine wpAny_bind (wpAny_callSpecial?_slot (name := Str.ofString "__next__") ty F.slot_tuple_iterator_next (wpAny_call_entry F.slot_tuple_iterator_next ty F.entry_tuple_iterator_next ?_ (F.args_tuple_iterator_next_1 _)))
      show wpAny _ _ (field (.ref it) 0 >>= _) _ _ s
      refine wpAny_bind (wpAny_field hob hda (x := .ref l) rfl ?_)
      show wpAny _ _ (if (Value.ref l == Value.none) = true then _ else _) _ _ s
      rw [if_neg (show ¬ ((Value.ref l == Value.none) = true) from Bool.false_ne_true)]
      show wpAny _ _ (field (.ref it) 1 >>= _) _ _ s
      refine wpAny_bind (wpAny_field hob hda (x := .int i 0) rfl ?_)
      show wpAny _ _ (seqItems? (.ref l) >>= _) _ _ s
      refine wpAny_bind (wpAny_seqItems hol hdl ?_)
      simp only [Int.toNat_natCast, e]
      refine wpAny_bind (wpAny_rule (wpAny_bind (wpAny_setField hob hda (by simp) ?_)))
      exact stopped (x1 := x1) (hot_keep (A := A) hot hx (Heap.SameBut.update ..).extBut) fun g y kp he => hE g y (fun b o hb q => kp b o ((Heap.SameBut.update ..).extBut b o hb q)) he
    | false =>
      obtain ⟨ob, hob, hcl, hda⟩ := id (show s.heap.IsListIter it l i from a)
      obtain ⟨ol, hol, _, nn, hdl⟩ := (show s.heap.IsList l xs from b)
      have ty := Heap.IsListIter.typeIs (show s.heap.IsListIter it l i from a)
      unfold Builtin.SmallTypes.nextOf
      refine wpAny_bind (wpAny_callSpecial?_slot (name := Str.ofString "__next__") ty slot_listiter_next (wpAny_call_entry slot_listiter_next ty entry_listiter_next ?_ (args_listiter_next _)))
      show wpAny _ _ (field (.ref it) 0 >>= _) _ _ s
      refine wpAny_bind (wpAny_field hob hda (x := .ref l) rfl ?_)
      show wpAny _ _ (if (Value.ref l == Value.none) = true then _ else _) _ _ s
      rw [if_neg (show ¬ ((Value.ref l == Value.none) = true) from Bool.false_ne_true)]
      show wpAny _ _ (field (.ref it) 1 >>= _) _ _ s
      refine wpAny_bind (wpAny_field hob hda (x := .int i 0) rfl ?_)
      show wpAny _ _ (seqItems? (.ref l) >>= _) _ _ s
      refine wpAny_bind (wpAny_seqItems hol hdl ?_)
      simp only [Int.toNat_natCast, e]
      refine wpAny_bind (wpAny_rule (wpAny_bind (wpAny_setField hob hda (by simp) ?_)))
      exact stopped (x1 := x1) (hot_keep (A := A) hot hx (Heap.SameBut.update ..).extBut) fun g y kp he => hE g y (fun b o hb q => kp b o ((Heap.SameBut.update ..).extBut b o hb q)) he
end
end Hh
namespace Hh
open PySem PySem.Spec PyProof.Rows L2 HotX
section
variable {prog : Program} {w : World} {A : Around} {E : Value → Shared → Prop} {s : Shared}
/-- zip's own things stand at z, TI, TO, i1, i2; the walked ones at l1, l2 -/
structure Zs (c d : Bool) (h : Heap) (z TI TO i1 i2 l1 l2 : Addr) (k1 k2 : Nat) (xs ys : Array Value) : Prop where
  hz : IsZip h z TI TO .none
  hI : IsPair h TI (.ref i1) (.ref i2)
  hO : ∃ a b, IsPair h TO a b
  w1 : Wk c h i1 l1 k1
  w2 : Wk d h i2 l2 k2
  q1 : Sq c h l1 xs
  q2 : Sq d h l2 ys
theorem kp {it : Addr} {h h' : Heap} (x : Heap.SameBut it h h') {b : Addr} {o : Obj} (n : b ≠ it) (e : h.get? b = some o) : h'.get? b = some o := x.extBut b o n e
theorem zip_item {c d : Bool} {z TI TO i1 i2 l1 l2 : Addr} {k1 k2 : Nat} {xs ys : Array Value} {x y : Value} {Q : Option Value → Shared → Prop} (D : ZipApart z TI TO i1 i2 l1 l2) (Z : Zs c d s.heap z TI TO i1 i2 l1 l2 k1 k2 xs ys) (ex : xs[k1]? = some x) (ey : ys[k2]? = some y)
    (hQ : ∀ g, IsZip g z TI TO (rawInt s.heap.objs.size) → (∃ a b, IsPair g TO a b) → Wk c g i1 l1 (k1 + 1) → Wk d g i2 l2 (k2 + 1) → IsPair g s.heap.objs.size x y →
      (∀ b o, b ≠ z → b ≠ TO → b ≠ i1 → b ≠ i2 → s.heap.get? b = some o → g.get? b = some o) → Q (some (.ref s.heap.objs.size)) { s with heap := g }) : wpAny (model prog w) A (pyNext (.ref z)) Q E s := by
  obtain ⟨hz, hI, ⟨a, b, hO⟩, w1, w2, q1, q2⟩ := Z
  have ty : s.TypeIs (.ref z) "zip" := ⟨_, hz, rfl⟩
  unfold pyNext
  refine wpAny_bind (wpAny_attempt (wpAny_callSpecial?_slot (name := Str.ofString "__next__") ty F.slot_zip_next (wpAny_call_entry F.slot_zip_next ty F.entry_zip_next ?_ (F.args_zip_next_1 _))))
  show wpAny _ _ (field (.ref z) 2 >>= _) _ _ _
  refine wpAny_bind (wpAny_field hz rfl (x := .bool false) rfl ?_)
  show wpAny _ _ (field (.ref z) 3 >>= _) _ _ _
  refine wpAny_bind (wpAny_field hz rfl (x := .ref TI) rfl (wpAny_bind (wpAny_seqItems hI rfl ?_)))
  show wpAny _ _ (Builtin.SmallTypes.ownedTupleIsFree (.ref z) >>= _) _ _ _
  refine wpAny_bind ?_
  unfold Builtin.SmallTypes.ownedTupleIsFree
  refine wpAny_bind (wpAny_field hz rfl (x := .none) rfl (wpAny_pure ?_))
  simp only [if_true]
  refine wpAny_bind (wpAny_rule (wpAny_bind (wpAny_field hz rfl (x := .ref TO) rfl (wpAny_bind (wpAny_setField_rec hz (by simp) fun g1 z1 s1 => ?_)))))
  replace z1 : IsZip g1 z TI TO .ellipsis := z1
  refine wpAny_bind ?_
  simp only [List.zipIdx_cons, List.zipIdx_nil, List.forIn_cons, List.forIn_nil]
  -- the first one's item
  refine wpAny_bind (wpAny_bind (wpAny_onRaise ?_))
  show wpAny _ _ (Builtin.SmallTypes.nextOf (.ref i1) >>= _) _ _ _
  refine wpAny_bind (nx_item (c := c) (w1.keep fun o q => kp s1 D.i1z q) (q1.keep fun o q => kp s1 D.l1z q) ex fun g2 w12 s2 => wpAny_pure ?_)
  have o2 : IsPair g2 TO a b := kp s2 D.TOi1 (kp s1 D.TOz hO)
  refine wpAny_bind (wpAny_seqItems o2 rfl (wpAny_bind (wpAny_updateSeq_pair o2 fun g3 o3 s3 => ?_)))
  replace o3 : IsPair g3 TO x b := o3
  refine wpAny_bind (wpAny_letGo (wpAny_pure ?_))
  -- the second one's
  refine wpAny_bind (wpAny_bind (wpAny_onRaise ?_))
  show wpAny _ _ (Builtin.SmallTypes.nextOf (.ref i2) >>= _) _ _ _
  refine wpAny_bind (nx_item (c := d) (w2.keep fun o q => kp s3 D.TOi2.symm (kp s2 D.i12.symm (kp s1 D.i2z q))) (q2.keep fun o q => kp s3 D.l2TO (kp s2 D.l2i1 (kp s1 D.l2z q))) ey fun g4 w24 s4 => wpAny_pure ?_)
  have o4 : IsPair g4 TO x b := kp s4 D.TOi2 o3
  refine wpAny_bind (wpAny_seqItems o4 rfl (wpAny_bind (wpAny_updateSeq_pair o4 fun g5 o5 s5 => ?_)))
  replace o5 : IsPair g5 TO x y := o5
  refine wpAny_bind (wpAny_letGo (wpAny_pure (wpAny_pure ?_)))
  refine wpAny_bind (wpAny_seqItems o5 rfl (wpAny_bind (wpAny_newTuple ?_)))
  have n5 : g5.objs.size = s.heap.objs.size := by rw [s5.1, s4.1, s3.1, s2.1, s1.1]
  have k5 : ∀ b o, b ≠ z → b ≠ TO → b ≠ i1 → b ≠ i2 → s.heap.get? b = some o → g5.get? b = some o := fun b o h1 h2 h3 h4 q => kp s5 h2 (kp s4 h4 (kp s3 h2 (kp s2 h3 (kp s1 h1 q))))
  have z5 : IsZip g5 z TI TO .ellipsis := kp s5 D.TOz.symm (kp s4 D.i2z.symm (kp s3 D.TOz.symm (kp s2 D.i1z.symm z1)))
  have w15 : Wk c g5 i1 l1 (k1 + 1) := w12.keep fun o q => kp s5 D.TOi1.symm (kp s4 D.i12 (kp s3 D.TOi1.symm q))
  have w25 : Wk d g5 i2 l2 (k2 + 1) := w24.keep fun o q => kp s5 D.TOi2.symm q
  have zl : z < g5.objs.size := Heap.lt_size z5
  show wpAny _ _ (Builtin.SmallTypes.ownedTupleHandOut (.ref z) (.ref g5.objs.size) >>= _) _ _ _
  refine wpAny_bind ?_
  unfold Builtin.SmallTypes.ownedTupleHandOut
  have z6 : IsZip (g5.push { cls := .type "tuple", data := .seq #[x, y] }) z TI TO .ellipsis := Heap.get?_push_of_some _ z5
  refine wpAny_bind (wpAny_setField_rec z6 (by simp) fun g7 z7 s7 => ?_)
  replace z7 : IsZip g7 z TI TO (rawInt g5.objs.size) := z7
  refine wpAny_setField_rec z7 (by simp) fun g8 z8 s8 => ?_
  replace z8 : IsZip g8 z TI TO (rawInt g5.objs.size) := z8
  have up : ∀ {b o}, b ≠ z → g5.get? b = some o → g8.get? b = some o := fun n q => kp s8 n (kp s7 n (Heap.get?_push_of_some _ q))
  have t8 : IsPair g8 g5.objs.size x y := kp s8 (Nat.ne_of_gt zl) (kp s7 (Nat.ne_of_gt zl) (Heap.get?_push_size _ rfl))
  rw [n5] at z8 t8
  refine wpAny_pure ⟨_, rfl, wpAny_pure ?_⟩
  show Q (some (.ref g5.objs.size)) _
  rw [n5]
  exact hQ g8 z8 ⟨x, y, up D.TOz o5⟩ (w15.keep fun o q => up D.i1z q) (w25.keep fun o q => up D.i2z q) t8 fun b o h1 h2 h3 h4 q => up h1 (k5 b o h1 h2 h3 h4 q)
theorem zip_stop {c d : Bool} {z TI TO i1 i2 l1 l2 : Addr} {k1 k2 : Nat} {xs ys : Array Value} {Q : Option Value → Shared → Prop} (p : Plc A s.heap [z, TI, TO, i1, i2]) (D : ZipApart z TI TO i1 i2 l1 l2) (Z : Zs c d s.heap z TI TO i1 i2 l1 l2 k1 k2 xs ys) (ee : xs[k1]? = none ∨ ys[k2]? = none)
    (hQ : ∀ g, (∀ b o, b ≠ z → b ≠ TO → b ≠ i1 → b ≠ i2 → s.heap.get? b = some o → g.get? b = some o) → Q none { s with heap := g }) : wpAny (model prog w) A (pyNext (.ref z)) Q E s := by
  obtain ⟨hz, hI, ⟨a, b, hO⟩, w1, w2, q1, q2⟩ := Z
  have ty : s.TypeIs (.ref z) "zip" := ⟨_, hz, rfl⟩
  have p : Plc A.in1 s.heap [z, TI, TO, i1, i2] := p
  unfold pyNext
  refine wpAny_bind (wpAny_attempt (wpAny_callSpecial?_slot (name := Str.ofString "__next__") ty F.slot_zip_next (wpAny_call_entry F.slot_zip_next ty F.entry_zip_next ?_ (F.args_zip_next_1 _))))
  -- behind the end
  have fin : ∀ g x, (∀ b o, b ≠ z → b ≠ TO → b ≠ i1 → b ≠ i2 → s.heap.get? b = some o → g.get? b = some o) → (∃ o, g.get? x = some o ∧ o.cls = .type "StopIteration") →
      wpAny (model prog w) A (do if ← isInstance (.ref x) (.type "StopIteration") then pure none else throw (.ref x)) Q E { s with heap := g } := fun g x k ⟨o, ho, hc⟩ =>
    wpAny_bind (wpAny_isInstance (T := "StopIteration") (b := true) ⟨o, ho, hc⟩ isSubtype_stop (wpAny_pure (hQ g k)))
  show wpAny _ _ (field (.ref z) 2 >>= _) _ _ _
  refine wpAny_bind (wpAny_field hz rfl (x := .bool false) rfl ?_)
  show wpAny _ _ (field (.ref z) 3 >>= _) _ _ _
  refine wpAny_bind (wpAny_field hz rfl (x := .ref TI) rfl (wpAny_bind (wpAny_seqItems hI rfl ?_)))
  show wpAny _ _ (Builtin.SmallTypes.ownedTupleIsFree (.ref z) >>= _) _ _ _
  refine wpAny_bind ?_
  unfold Builtin.SmallTypes.ownedTupleIsFree
  refine wpAny_bind (wpAny_field hz rfl (x := .none) rfl (wpAny_pure ?_))
  simp only [if_true]
  refine wpAny_bind (wpAny_rule (wpAny_bind (wpAny_field hz rfl (x := .ref TO) rfl (wpAny_bind (wpAny_setField_rec hz (by simp) fun g1 z1 s1 => ?_)))))
  replace z1 : IsZip g1 z TI TO .ellipsis := z1
  have p1 : Plc A.in1 g1 [z, TI, TO, i1, i2] := p.keep fun b o n q => kp s1 (fun e => n (by simp [e])) q
  refine wpAny_bind ?_
  simp only [List.zipIdx_cons, List.zipIdx_nil, List.forIn_cons, List.forIn_nil]
  refine wpAny_bind (wpAny_bind (wpAny_onRaise ?_))
  show wpAny _ _ (Builtin.SmallTypes.nextOf (.ref i1) >>= _) _ _ _
  cases ex : xs[k1]? with
  | none =>
    refine wpAny_bind (nx_stop (c := c) p1 (by simp) (w1.keep fun o q => kp s1 D.i1z q) (q1.keep fun o q => kp s1 D.l1z q) ex fun g2 x s2 he => ?_)
    obtain ⟨oe, ho, hc⟩ := he
    have z2 : IsZip g2 z TI TO .ellipsis := s2 _ _ D.i1z.symm z1
    have nz : x ≠ z := fun e => by
      rw [e, z2] at ho
      cases ho
      exact absurd hc (by simp)
    exact wpAny_setField_rec z2 (by simp) fun g3 _ s3 => fin g3 x (fun b o h1 _ h3 _ q => kp s3 h1 (s2 _ _ h3 (kp s1 h1 q))) ⟨oe, kp s3 nz ho, hc⟩
  | some x0 =>
    have ey : ys[k2]? = none := by
      rcases ee with e | e
      · rw [ex] at e; cases e
      · exact e
    refine wpAny_bind (nx_item (c := c) (w1.keep fun o q => kp s1 D.i1z q) (q1.keep fun o q => kp s1 D.l1z q) ex fun g2 w12 s2 => wpAny_pure ?_)
    have o2 : IsPair g2 TO a b := kp s2 D.TOi1 (kp s1 D.TOz hO)
    refine wpAny_bind (wpAny_seqItems o2 rfl (wpAny_bind (wpAny_updateSeq_pair o2 fun g3 o3 s3 => ?_)))
    have p3 : Plc A.in1 g3 [z, TI, TO, i1, i2] := (p1.keep fun b o n q => kp s2 (fun e => n (by simp [e])) q).keep fun b o n q => kp s3 (fun e => n (by simp [e])) q
    refine wpAny_bind (wpAny_letGo (wpAny_pure ?_))
    refine wpAny_bind (wpAny_bind (wpAny_onRaise ?_))
    show wpAny _ _ (Builtin.SmallTypes.nextOf (.ref i2) >>= _) _ _ _
    refine wpAny_bind (nx_stop (c := d) p3 (by simp) (w2.keep fun o q => kp s3 D.TOi2.symm (kp s2 D.i12.symm (kp s1 D.i2z q))) (q2.keep fun o q => kp s3 D.l2TO (kp s2 D.l2i1 (kp s1 D.l2z q))) ey fun g4 x s4 he => ?_)
    obtain ⟨oe, ho, hc⟩ := he
    have z4 : IsZip g4 z TI TO .ellipsis := s4 _ _ D.i2z.symm (kp s3 D.TOz.symm (kp s2 D.i1z.symm z1))
    have nz : x ≠ z := fun e => by
      rw [e, z4] at ho
      cases ho
      exact absurd hc (by simp)
    exact wpAny_setField_rec z4 (by simp) fun g5 _ s5 => fin g5 x (fun b o h1 h2 h3 h4 q => kp s5 h1 (s4 _ _ h4 (kp s3 h2 (kp s2 h3 (kp s1 h1 q))))) ⟨oe, kp s5 nz ho, hc⟩
end
end Hh
namespace Hh
open PySem PySem.Spec PyProof.Rows L2 HotX
def itn (c : Bool) : String := if c then "tuple_iterator" else "list_iterator"
abbrev zA (c : Bool) (h : Heap) (l1 : Addr) : Heap := h.push { cls := .type (itn c), data := .fields #[.ref l1, .int 0 0] }
abbrev zB (c d : Bool) (h : Heap) (l1 l2 : Addr) : Heap := zA d (zA c h l1) l2
abbrev zC (c d : Bool) (h : Heap) (l1 l2 : Addr) : Heap := (zB c d h l1 l2).push { cls := .type "tuple", data := .seq #[.ref h.objs.size, .ref (zA c h l1).objs.size] }
abbrev zD (c d : Bool) (h : Heap) (l1 l2 : Addr) : Heap := (zC c d h l1 l2).push { cls := .type "tuple", data := .seq #[.none, .none] }
abbrev zE (c d : Bool) (h : Heap) (l1 l2 : Addr) : Heap := (zD c d h l1 l2).push { cls := .type "zip", data := .fields #[.none, .bool false, .bool false, .ref (zB c d h l1 l2).objs.size, .ref (zC c d h l1 l2).objs.size] }
set_option maxHeartbeats 4000000
theorem meets_lt (l1 l2 : Addr) (xs ys : Array Value) :
    Meets (Builtin.«zip.__new__» ⟨[.type "zip", .ref l1, .ref l2], []⟩) (fun _ R s => s.heap.IsList l1 xs ∧ s.heap.IsTuple l2 ys ∧
      R (.ok (.ret (.ref (zD false true s.heap l1 l2).objs.size))) { s with heap := zE false true s.heap l1 l2 }) :=
  .of_wp fun prog w A R s h => by
    obtain ⟨hp, g, dr, tk, os⟩ := s
    obtain ⟨h1, h2, h⟩ := h
    have hs := sub_zip
    have a1 : Heap.IsList (Shared.heap ⟨hp, g, dr, tk, os⟩) l1 xs := h1
    have a2 : Heap.IsTuple (Shared.heap ⟨hp.push { cls := .type "list_iterator", data := .fields #[.ref l1, .int 0 0] }, g, dr, tk, os⟩) l2 ys := Heap.IsTuple.push h2 _
    wp_walk using wpAny_pyIter_list a1, wpAny_pyIter_tuple a2
    exact ⟨_, rfl, h⟩
theorem meets_tl (l1 l2 : Addr) (xs ys : Array Value) :
    Meets (Builtin.«zip.__new__» ⟨[.type "zip", .ref l1, .ref l2], []⟩) (fun _ R s => s.heap.IsTuple l1 xs ∧ s.heap.IsList l2 ys ∧
      R (.ok (.ret (.ref (zD true false s.heap l1 l2).objs.size))) { s with heap := zE true false s.heap l1 l2 }) :=
  .of_wp fun prog w A R s h => by
    obtain ⟨hp, g, dr, tk, os⟩ := s
    obtain ⟨h1, h2, h⟩ := h
    have hs := sub_zip
    have a1 : Heap.IsTuple (Shared.heap ⟨hp, g, dr, tk, os⟩) l1 xs := h1
    have a2 : Heap.IsList (Shared.heap ⟨hp.push { cls := .type "tuple_iterator", data := .fields #[.ref l1, .int 0 0] }, g, dr, tk, os⟩) l2 ys := Heap.IsList.push h2 _
    wp_walk using wpAny_pyIter_tuple a1, wpAny_pyIter_list a2
    exact ⟨_, rfl, h⟩
theorem meets_new (c d : Bool) (l1 l2 : Addr) (xs ys : Array Value) :
    Meets (Builtin.«zip.__new__» ⟨[.type "zip", .ref l1, .ref l2], []⟩) (fun _ R s => Sq c s.heap l1 xs ∧ Sq d s.heap l2 ys ∧ R (.ok (.ret (.ref (zD c d s.heap l1 l2).objs.size))) { s with heap := zE c d s.heap l1 l2 }) := by
  cases c <;> cases d
  · exact meets_zip_new l1 l2 xs ys
  · exact meets_lt l1 l2 xs ys
  · exact meets_tl l1 l2 xs ys
  · exact RZ.meets_zipT_new l1 l2 xs ys
theorem wk_new {c : Bool} {h : Heap} {it l : Addr} (e : h.get? it = some { cls := .type (itn c), data := .fields #[.ref l, .int 0 0] }) : Wk c h it l 0 := by
  cases c with
  | true => exact ⟨_, e, rfl, rfl⟩
  | false => exact ⟨_, e, rfl, rfl⟩
section
variable {prog : Program} {w : World} {A : Around} {E : Value → Shared → Prop} {s : Shared}
theorem zip_made {c d : Bool} {l1 l2 : Addr} {xs ys : Array Value} {Q : Value → Shared → Prop} (h1 : Sq c s.heap l1 xs) (h2 : Sq d s.heap l2 ys)
    (hq : ∀ g, IsZip g (s.heap.objs.size + 4) (s.heap.objs.size + 2) (s.heap.objs.size + 3) .none → IsPair g (s.heap.objs.size + 2) (.ref s.heap.objs.size) (.ref (s.heap.objs.size + 1)) → IsPair g (s.heap.objs.size + 3) .none .none →
      Wk c g s.heap.objs.size l1 0 → Wk d g (s.heap.objs.size + 1) l2 0 → (∀ b o, s.heap.get? b = some o → g.get? b = some o) → Q (.ref (s.heap.objs.size + 4)) { s with heap := g }) :
    wpAny (model prog w) A (call (.type "zip") [.ref l1, .ref l2]) Q E s := by
  refine callType_new F.called_zip (by decide) (F.typeCall_zip_2 _ _) (F.newCall_zip_2 _ _) (fun obj => F.args_object_init_3 obj _ _) F.entry_zip_new (meets_new c d l1 l2 xs ys) ⟨h1, h2, ?_⟩
  have n1 : (zA c s.heap l1).objs.size = s.heap.objs.size + 1 := Heap.size_push ..
  have n2 : (zB c d s.heap l1 l2).objs.size = s.heap.objs.size + 2 := by rw [Heap.size_push, n1]
  have n3 : (zC c d s.heap l1 l2).objs.size = s.heap.objs.size + 3 := by rw [Heap.size_push, n2]
  have n4 : (zD c d s.heap l1 l2).objs.size = s.heap.objs.size + 4 := by rw [Heap.size_push, n3]
  have e5 : (zE c d s.heap l1 l2).get? (zD c d s.heap l1 l2).objs.size = some _ := Heap.get?_push_size _ rfl
  have e4 : (zE c d s.heap l1 l2).get? (zC c d s.heap l1 l2).objs.size = some _ := Heap.get?_push_of_some _ (Heap.get?_push_size _ rfl)
  have e3 : (zE c d s.heap l1 l2).get? (zB c d s.heap l1 l2).objs.size = some _ := Heap.get?_push_of_some _ (Heap.get?_push_of_some _ (Heap.get?_push_size _ rfl))
  have e2 : (zE c d s.heap l1 l2).get? (zA c s.heap l1).objs.size = some _ := Heap.get?_push_of_some _ (Heap.get?_push_of_some _ (Heap.get?_push_of_some _ (Heap.get?_push_size _ rfl)))
  have e1 : (zE c d s.heap l1 l2).get? s.heap.objs.size = some _ := Heap.get?_push_of_some _ (Heap.get?_push_of_some _ (Heap.get?_push_of_some _ (Heap.get?_push_of_some _ (Heap.get?_push_size _ rfl))))
  show _ ∧ _
  rw [n2, n3, n4] at e5
  rw [n1, n2] at e3
  rw [n3] at e4
  rw [n1] at e2
  rw [n4]
  exact ⟨⟨_, e5, rfl⟩, hq _ e5 e3 e4 (wk_new e1) (wk_new e2) fun b o q => Heap.get?_push_of_some _ (Heap.get?_push_of_some _ (Heap.get?_push_of_some _ (Heap.get?_push_of_some _ (Heap.get?_push_of_some _ q))))⟩
end
end Hh
namespace Hh
open PySem PySem.Spec PyProof.Rows L2 HotX
abbrev St := L2.St
/-- a place where walks go well -/
def Md (X : Cx) : Prop := X.calm = true ∨ L2H.HotC X
def Cm (X : Cx) : Prop := X.calm = true
structure TurnM (md : Cx → Prop) (P : Program) (w : World) (K : PySem.W.Frag) (tg : Expr) (J : L2.It) (fp : List Addr) (it : Addr) (tn : Nat → Heap → Prop) : Prop where
  mem : it ∈ fp
  obj : ∀ i h, tn i h → ∀ b ∈ fp, ∃ o, h.get? b = some o ∧ ∀ v, o.data ≠ .cell v
  keep : ∀ i h h', tn i h → (∀ b ∈ fp, ∀ o, h.get? b = some o → h'.get? b = some o) → tn i h'
  item : ∀ (X : Cx), X.prog = P → X.w = w → X.K = K → md X → ∀ (i : Nat) (pins : List (Addr × Obj)) (s : Shared) (σ : St) (H : Hp) (E : Value → Shared → Prop), Inv X pins σ H s → (∀ b ∈ fp, FpOk X pins H b) → tn i s.heap → J.go i H →
    wpAny (model P w) X.A (pyNext (.ref it)) (fun r s1 => ∃ u, r = some u ∧
      wpAny (model P w) X.A (letOwnedTupleGo tg (.ref it) u) (fun _ s2 => ∃ x H', Inv X pins σ H' s2 ∧ RelV x u ∧ J.yld i H x H' ∧ tn (i + 1) s2.heap ∧ ∀ b ∈ fp, H' b = none) E s1) E s
  done : ∀ (X : Cx), X.prog = P → X.w = w → X.K = K → md X → ∀ (i : Nat) (pins : List (Addr × Obj)) (s : Shared) (σ : St) (H : Hp) (E : Value → Shared → Prop), Inv X pins σ H s → (∀ b ∈ fp, FpOk X pins H b) → tn i s.heap → J.stop i H →
    wpAny (model P w) X.A (pyNext (.ref it)) (fun r s1 => r = none ∧ Inv X pins σ H s1) E s
  self : ∀ (A : Around) (i : Nat) (s : Shared) (Q : Value → Shared → Prop) (E : Value → Shared → Prop), tn i s.heap → Q (.ref it) s → wpAny (model P w) A (pyIter (.ref it)) Q E s
theorem TurnM.of {P : Program} {w : World} {K : PySem.W.Frag} {tg : Expr} {J : L2.It} {fp : List Addr} {it : Addr} {tn : Nat → Heap → Prop} (T : Turn P w K tg J fp it tn) : TurnM Cm P w K tg J fp it tn :=
  ⟨T.mem, T.obj, T.keep, fun X a b c d => T.item X a b c d, fun X a b c d => T.done X a b c d, T.self⟩
theorem TurnM.weak {md md' : Cx → Prop} {P : Program} {w : World} {K : PySem.W.Frag} {tg : Expr} {J : L2.It} {fp : List Addr} {it : Addr} {tn : Nat → Heap → Prop} (T : TurnM md P w K tg J fp it tn) (h : ∀ X, md' X → md X) : TurnM md' P w K tg J fp it tn :=
  ⟨T.mem, T.obj, T.keep, fun X a b c d => T.item X a b c (h X d), fun X a b c d => T.done X a b c (h X d), T.self⟩
theorem Md.plc {X : Cx} {pins : List (Addr × Obj)} {σ : St} {H : Hp} {s : Shared} {fp : List Addr} (m : Md X) (I : Inv X pins σ H s) (hf : ∀ b ∈ fp, FpOk X pins H b) : Plc X.A s.heap fp := by
  rcases m with m | ⟨p, ⟨hh, vs, e1, c1⟩, hp⟩
  · exact .inl (I.ok.hd m)
  · have hp' : p ∈ X.pn ++ pins := List.mem_append_left _ hp
    refine .inr ⟨p.1, ⟨hh, p.2, vs, (I.pin p hp').1, e1, c1⟩, fun z => ?_⟩
    exact (hf _ z).2.2.2.2.2 p hp' rfl
def PIEM (md : Cx → Prop) (X : Cx) (pins : List (Addr × Obj)) (σ : St) (tg : Expr) (R : L2.It → Hp → Prop) (itv : Value) (s2 : Shared) : Prop :=
  ∃ (it : Addr) (fp : List Addr) (tn : Nat → Heap → Prop) (J : L2.It) (H' : Hp), itv = .ref it ∧ Inv X pins σ H' s2 ∧ TurnM md X.prog X.w X.K tg J fp it tn ∧ tn 0 s2.heap ∧ (∀ b ∈ fp, FpOk X pins H' b) ∧ R J H'
structure PIM (md : Cx → Prop) (X : Cx) (tg iter : Expr) (wi : TI) : Prop where
  run : ∀ (pins : List (Addr × Obj)) (s : Shared) (σ : St) (H : Hp) (R : L2.It → Hp → Prop), Inv X pins σ H s → wi σ H R →
    wpAny (model X.prog X.w) X.A (eval iter X.env) (fun v s1 => wpAny (model X.prog X.w) X.A (pyIter v) (PIEM md X pins σ tg R) X.xe s1) X.xe s
theorem PIM.of {X : Cx} {tg iter : Expr} {wi : TI} (h : PI X tg iter wi) : PIM Cm X tg iter wi := ⟨fun pins s σ H R I q => thn (h.run pins s σ H R I q) fun v s1 h1 => thn h1 fun itv s2 ⟨it, fp, tn, J, H', e, I', T, t0, hf, r⟩ => ⟨it, fp, tn, J, H', e, I', .of T, t0, hf, r⟩⟩
theorem PIM.weak {md md' : Cx → Prop} {X : Cx} {tg iter : Expr} {wi : TI} (h : PIM md X tg iter wi) (k : ∀ X, md' X → md X) : PIM md' X tg iter wi := ⟨fun pins s σ H R I q => thn (h.run pins s σ H R I q) fun v s1 h1 => thn h1 fun itv s2 ⟨it, fp, tn, J, H', e, I', T, t0, hf, r⟩ => ⟨it, fp, tn, J, H', e, I', T.weak k, t0, hf, r⟩⟩
theorem PIM.imp {md : Cx → Prop} {X : Cx} {tg iter : Expr} {t u : TI} (h : PIM md X tg iter t) (i : ∀ σ H R, u σ H R → t σ H R) : PIM md X tg iter u := ⟨fun pins s σ H R I q => h.run pins s σ H R I (i σ H R q)⟩
theorem turn_L {P : Program} {w : World} {K : PySem.W.Frag} {tg : Expr} (a it : Addr) : TurnM Md P w K tg (Itl K a) [it] it (fun i h => h.IsListIter it a i) where
  mem := (turn_list (P := P) (w := w) (K := K) (tg := tg) a it).mem
  obj := (turn_list (P := P) (w := w) (K := K) (tg := tg) a it).obj
  keep := (turn_list (P := P) (w := w) (K := K) (tg := tg) a it).keep
  self := (turn_list (P := P) (w := w) (K := K) (tg := tg) a it).self
  item := by
    intro X hP hw hK hm i pins s σ H E I hf st hg
    subst hP hw hK
    obtain ⟨xs, x, hq, hx⟩ := hg
    obtain ⟨its, rv, p, hz⟩ := I.list hq
    obtain ⟨u, hu, ru⟩ := rv.get hx
    obtain ⟨f0, f1, f2, f3, f4, f5⟩ := hf it (by simp)
    refine wpAny_pyNext_list_item st p.isList (x := u) (by simpa using hu) fun g st' sb => ?_
    have I1 : Inv X pins σ H { s with heap := g } := I.turned (t' := s.toks) (fun b o hb e => (sb.2 b hb).trans e) f0 f1 f3 f4 f5
    obtain ⟨o, e, c, d⟩ := id st'
    exact ⟨u, rfl, go_of (s := { s with heap := g }) e c d (by decide) ⟨x, H, I1, ru, ⟨rfl, fun ys hy => by rw [I.list_inj hy hq]; exact hx⟩, st', fun b hb => (hf b hb).1⟩⟩
  done := by
    intro X hP hw hK hm i pins s σ H E I hf st hg
    subst hP hw hK
    rcases hm.plc I hf with hc | ⟨x1, hot, nx⟩
    · obtain ⟨xs, hq, hx⟩ := hg
      obtain ⟨its, rv, p, hz⟩ := I.list hq
      obtain ⟨f0, f1, f2, f3, f4, f5⟩ := hf it (by simp)
      have hl := rv.length
      exact wpAny_pyNext_list_end hc st p.isList (by simp; omega) fun g eb => ⟨rfl, I.turned (t' := s.toks) (fun b o hb e => eb b o hb e) f0 f1 f3 f4 f5⟩
    · obtain ⟨xs, hq, hx⟩ := hg
      obtain ⟨its, rv, p, hz⟩ := I.list hq
      obtain ⟨f0, f1, f2, f3, f4, f5⟩ := hf it (by simp)
      have hl := rv.length
      exact list_stop hot (fun z => nx (by simp [z])) st p.isList (by simp; omega) fun g eb => ⟨rfl, I.turned (t' := s.toks) (fun b o hb e => eb b o hb e) f0 f1 f3 f4 f5⟩
theorem turn_T {P : Program} {w : World} {K : PySem.W.Frag} {tg : Expr} (a it : Addr) : TurnM Md P w K tg (Itt K a) [it] it (fun i h => h.IsTupleIter it a i) where
  mem := (turn_tuple (P := P) (w := w) (K := K) (tg := tg) a it).mem
  obj := (turn_tuple (P := P) (w := w) (K := K) (tg := tg) a it).obj
  keep := (turn_tuple (P := P) (w := w) (K := K) (tg := tg) a it).keep
  self := (turn_tuple (P := P) (w := w) (K := K) (tg := tg) a it).self
  item := by
    intro X hP hw hK hm i pins s σ H E I hf st hg
    subst hP hw hK
    obtain ⟨xs, x, hq, hx⟩ := hg
    obtain ⟨its, rv, p, hz⟩ := I.tuple hq
    obtain ⟨u, hu, ru⟩ := rv.get hx
    obtain ⟨f0, f1, f2, f3, f4, f5⟩ := hf it (by simp)
    refine wpAny_pyNext_tuple_item st (show s.heap.IsTuple a its.toArray from p) (x := u) (by simpa using hu) fun g st' sb => ?_
    have I1 : Inv X pins σ H { s with heap := g } := I.turned (t' := s.toks) (fun b o hb e => (sb.2 b hb).trans e) f0 f1 f3 f4 f5
    obtain ⟨o, e, c, d⟩ := id st'
    exact ⟨u, rfl, go_of (s := { s with heap := g }) e c d (by decide) ⟨x, H, I1, ru, ⟨rfl, fun ys hy => by rw [I.tuple_inj hy hq]; exact hx⟩, st', fun b hb => (hf b hb).1⟩⟩
  done := by
    intro X hP hw hK hm i pins s σ H E I hf st hg
    subst hP hw hK
    obtain ⟨xs, hq, hx⟩ := hg
    obtain ⟨its, rv, p, hz⟩ := I.tuple hq
    obtain ⟨f0, f1, f2, f3, f4, f5⟩ := hf it (by simp)
    have hl := rv.length
    rcases hm.plc I hf with hc | ⟨x1, hot, nx⟩
    · exact wpAny_pyNext_tuple_end hc st (show s.heap.IsTuple a its.toArray from p) (by simp; omega) fun g eb => ⟨rfl, I.turned (t' := s.toks) (fun b o hb e => eb b o hb e) f0 f1 f3 f4 f5⟩
    · exact tuple_stop hot (fun z => nx (by simp [z])) st (show s.heap.IsTuple a its.toArray from p) (by simp; omega) fun g eb => ⟨rfl, I.turned (t' := s.toks) (fun b o hb e => eb b o hb e) f0 f1 f3 f4 f5⟩
section
variable {X : Cx} {tg : Expr}
theorem pim_list {l : Expr} {tl : TE} (hl : PE X l tl) : PIM Md X tg l (iList X.K tl) := by
  refine ⟨fun pins s σ H R I q => ?_⟩
  refine thn (hl.run pins s σ H _ I q) fun v s1 ⟨x, H1, I1, r1, a, ex, ⟨xs, hq⟩, hr⟩ => ?_
  subst ex
  cases r1
  obtain ⟨its, rv, p, hz⟩ := I1.list hq
  refine wpAny_pyIter_list p.isList ?_
  have hn : H1 s1.heap.objs.size = none := I1.hok.fresh (Nat.le_refl _)
  have I2 : Inv X pins σ H1 { s1 with heap := s1.heap.push { cls := .type "list_iterator", data := .fields #[.ref a, .int 0 0] } } := I1.kept (t' := s1.toks) fun b o e => Heap.get?_push_of_some _ e
  exact ⟨_, [s1.heap.objs.size], _, _, H1, rfl, I2, turn_L a _, ⟨_, Heap.get?_push_size _ rfl, rfl, rfl⟩, fun b hb => by
    have e : b = s1.heap.objs.size := by simpa using hb
    rw [e]
    exact I1.fpOk (Nat.le_refl _) hn, hr⟩
theorem pim_tup {l : Expr} {tl : TE} (hl : PE X l tl) : PIM Md X tg l (iTup X.K tl) := by
  refine ⟨fun pins s σ H R I q => ?_⟩
  refine thn (hl.run pins s σ H _ I q) fun v s1 ⟨x, H1, I1, r1, a, ex, ⟨xs, hq⟩, hr⟩ => ?_
  subst ex
  cases r1
  obtain ⟨its, rv, p, hz⟩ := I1.tuple hq
  refine wpAny_pyIter_tuple (show s1.heap.IsTuple a its.toArray from p) ?_
  have hn : H1 s1.heap.objs.size = none := I1.hok.fresh (Nat.le_refl _)
  have I2 : Inv X pins σ H1 { s1 with heap := s1.heap.push { cls := .type "tuple_iterator", data := .fields #[.ref a, .int 0 0] } } := I1.kept (t' := s1.toks) fun b o e => Heap.get?_push_of_some _ e
  exact ⟨_, [s1.heap.objs.size], _, _, H1, rfl, I2, turn_T a _, ⟨_, Heap.get?_push_size _ rfl, rfl, rfl⟩, fun b hb => by
    have e : b = s1.heap.objs.size := by simpa using hb
    rw [e]
    exact I1.fpOk (Nat.le_refl _) hn, hr⟩
end
end Hh
namespace Hh
open PySem PySem.Spec PyProof.Rows L2 HotX
def SqX (c : Bool) (K : PySem.W.Frag) (H : Hp) (a : Addr) (xs : List V) : Prop := if c then SqT K H a xs else SqL K H a xs
theorem SqX.get {c : Bool} {X : Cx} {pins : List (Addr × Obj)} {σ : St} {H : Hp} {s : Shared} {a : Addr} {xs : List V} (I : Inv X pins σ H s) (h : SqX c X.K H a xs) : ∃ its : List Value, Vals xs its ∧ Sq c s.heap a its.toArray ∧ a < s.heap.objs.size := by
  cases c with
  | true =>
    obtain ⟨its, rv, p, _⟩ := I.tuple (show SqT X.K H a xs from h)
    exact ⟨its, rv, p, p.lt⟩
  | false =>
    obtain ⟨its, rv, p, _⟩ := I.list (show SqL X.K H a xs from h)
    exact ⟨its, rv, p.isList, p.lt⟩
theorem SqX.inj {c : Bool} {X : Cx} {pins : List (Addr × Obj)} {σ : St} {H : Hp} {s : Shared} {a : Addr} {xs ys : List V} (I : Inv X pins σ H s) (h : SqX c X.K H a xs) (k : SqX c X.K H a ys) : xs = ys := by
  cases c with
  | true => exact I.tuple_inj (show SqT X.K H a xs from h) (show SqT X.K H a ys from k)
  | false => exact I.list_inj (show SqL X.K H a xs from h) (show SqL X.K H a ys from k)
/-- what zip's walk gives: the items of both, in new pairs -/
def Itz2 (K : PySem.W.Frag) (c d : Bool) (a b : Addr) : L2.It :=
  ⟨fun i H => ∃ (xs ys : List V) (x y : V), SqX c K H a xs ∧ SqX d K H b ys ∧ xs[i]? = some x ∧ ys[i]? = some y,
    fun i H v H' => ∃ T x y, v = .ref T ∧ H T = none ∧ H' = upd H T (.tup [x, y]) ∧ (∀ xs, SqX c K H a xs → xs[i]? = some x) ∧ ∀ ys, SqX d K H b ys → ys[i]? = some y,
    fun i H => ∃ xs ys : List V, SqX c K H a xs ∧ SqX d K H b ys ∧ (xs.length ≤ i ∨ ys.length ≤ i)⟩
def Zt (c d : Bool) (z TI TO i1 i2 a b : Addr) (i : Nat) (h : Heap) : Prop := IsZip h z TI TO .none ∧ IsPair h TI (.ref i1) (.ref i2) ∧ (∃ x y, IsPair h TO x y) ∧ Wk c h i1 a i ∧ Wk d h i2 b i
theorem wk_obj {c : Bool} {h : Heap} {it l : Addr} {i : Nat} (x : Wk c h it l i) : ∃ o, h.get? it = some o ∧ ∀ v, o.data ≠ .cell v := by
  cases c with
  | true =>
    obtain ⟨o, e, _, d⟩ := (show h.IsTupleIter it l i from x)
    exact ⟨o, e, fun v q => by rw [d] at q; cases q⟩
  | false =>
    obtain ⟨o, e, _, d⟩ := (show h.IsListIter it l i from x)
    exact ⟨o, e, fun v q => by rw [d] at q; cases q⟩
theorem five {b z TI TO i1 i2 : Addr} (h : b ∈ [z, TI, TO, i1, i2]) : b = z ∨ b = TI ∨ b = TO ∨ b = i1 ∨ b = i2 := by simpa using h
theorem turn_Z {P : Program} {w : World} {K : PySem.W.Frag} {elts : List Expr} {kk : Nat} {tpos : Pos} {c d : Bool} {a b z TI TO i1 i2 : Addr} (D : ZipApart z TI TO i1 i2 a b) :
    TurnM Md P w K (.Tuple elts kk tpos) (Itz2 K c d a b) [z, TI, TO, i1, i2] z (fun i h => Zt c d z TI TO i1 i2 a b i h) where
  mem := by simp
  obj := fun i h st x hx => by
    obtain ⟨hz, hI, ⟨u, v, hO⟩, w1, w2⟩ := st
    rcases five hx with q | q | q | q | q <;> rw [q]
    · exact ⟨_, hz, fun v q => nomatch q⟩
    · exact ⟨_, hI, fun v q => nomatch q⟩
    · exact ⟨_, hO, fun v q => nomatch q⟩
    · exact wk_obj w1
    · exact wk_obj w2
  keep := fun i h h' st k => by
    obtain ⟨hz, hI, ⟨u, v, hO⟩, w1, w2⟩ := st
    exact ⟨k z (by simp) _ hz, k TI (by simp) _ hI, ⟨u, v, k TO (by simp) _ hO⟩, w1.keep fun o q => k i1 (by simp) o q, w2.keep fun o q => k i2 (by simp) o q⟩
  self := fun A i s Q E st h => wpAny_pyIter_zip st.1 h
  item := by
    intro X hP hw hK hm i pins s σ H E I hf st hg
    subst hP hw hK
    obtain ⟨hz, hI, hO, w1, w2⟩ := id st
    obtain ⟨xs, ys, x, y, qx, qy, ex, ey⟩ := hg
    obtain ⟨its, rv, p, _⟩ := SqX.get I qx
    obtain ⟨its2, rv2, p2, _⟩ := SqX.get I qy
    obtain ⟨u, hu, ru⟩ := rv.get ex
    obtain ⟨u2, hu2, ru2⟩ := rv2.get ey
    have zl : z < s.heap.objs.size := Heap.lt_size hz
    refine zip_item D ⟨hz, hI, hO, w1, w2, p, p2⟩ (x := u) (y := u2) (by simpa using hu) (by simpa using hu2) fun g zg og w1g w2g tg hk => ?_
    refine ⟨_, rfl, wpAny_letOwnedTupleGo_zip (s := { s with heap := g }) zg fun g2 z2 sb => ?_⟩
    have t2 : g2.get? s.heap.objs.size = some { cls := .type "tuple", data := .seq #[u, u2] } := (sb.2 _ (Nat.ne_of_gt zl)).trans tg
    have new : ObjOk X.prog X.w (upd H s.heap.objs.size (.tup [x, y])) g2 s.heap.objs.size (.tup [x, y]) := ⟨by show 2 ≤ sizeLine; decide, [u, u2], .cons ru (.cons ru2 .nil), ⟨_, t2, rfl, _, rfl⟩⟩
    have I1 : Inv X pins σ (upd H s.heap.objs.size (.tup [x, y])) { s with heap := g2 } :=
      I.turnedNew (t' := s.toks) (ch := [z, TI, TO, i1, i2]) (fun b o hb q => (sb.2 b (fun e => hb (by simp [e]))).trans (hk b o (fun e => hb (by simp [e])) (fun e => hb (by simp [e])) (fun e => hb (by simp [e])) (fun e => hb (by simp [e])) q)) hf (Nat.le_refl _) new
    obtain ⟨a1, b1, og⟩ := og
    refine ⟨.ref s.heap.objs.size, _, I1, rfl, ⟨_, x, y, rfl, I.hok.fresh (Nat.le_refl _), rfl, fun l hl => by rw [SqX.inj I hl qx]; exact ex, fun l hl => by rw [SqX.inj I hl qy]; exact ey⟩, ⟨z2, ?_, ⟨a1, b1, ?_⟩, ?_, ?_⟩, fun b hb => ?_⟩
    · exact (sb.2 _ D.TIz).trans (hk _ _ D.TIz D.TITO D.TIi1 D.TIi2 hI)
    · exact (sb.2 _ D.TOz).trans og
    · exact w1g.keep fun o q => (sb.2 _ D.i1z).trans q
    · exact w2g.keep fun o q => (sb.2 _ D.i2z).trans q
    · have hlt : b < s.heap.objs.size := by
        obtain ⟨_, _, hO⟩ := hO
        rcases five hb with q | q | q | q | q <;> rw [q]
        · exact zl
        · exact Heap.lt_size hI
        · exact Heap.lt_size hO
        · exact w1.lt
        · exact w2.lt
      rw [upd_ne (Nat.ne_of_lt hlt)]
      exact (hf b hb).1
  done := by
    intro X hP hw hK hm i pins s σ H E I hf st hg
    subst hP hw hK
    obtain ⟨hz, hI, hO, w1, w2⟩ := id st
    obtain ⟨xs, ys, qx, qy, hend⟩ := hg
    obtain ⟨its, rv, p, _⟩ := SqX.get I qx
    obtain ⟨its2, rv2, p2, _⟩ := SqX.get I qy
    have n1 := rv.length
    have n2 := rv2.length
    have he : its.toArray[i]? = none ∨ its2.toArray[i]? = none := by
      rcases hend with q | q
      · exact .inl (by simp; omega)
      · exact .inr (by simp; omega)
    exact zip_stop (hm.plc I hf) D ⟨hz, hI, hO, w1, w2, p, p2⟩ he fun g hk => ⟨rfl, I.turnedL (t' := s.toks) (ch := [z, TI, TO, i1, i2]) (fun b o hb q =>
      hk b o (fun e => hb (by simp [e])) (fun e => hb (by simp [e])) (fun e => hb (by simp [e])) (fun e => hb (by simp [e])) q) hf⟩
section
variable {X : Cx} {tg : Expr}
def iZip2 (K : PySem.W.Frag) (ta : TA) : TI := fun σ H R => ta σ H fun vs H1 => ∃ c d a b xs ys, vs = [.ref a, .ref b] ∧ SqX c K H1 a xs ∧ SqX d K H1 b ys ∧ R (Itz2 K c d a b) H1
theorem pim_zip {e e2 : Expr} {ta : TA} {p pos tpos : Pos} {elts : List Expr} {kk : Nat} (hg : Gl X "zip") (hm : X.mg "zip" = none) (ha : PA X [e, e2] ta)
    (hs : starEach [e, e2] X.env = (false, eval e X.env) :: starEach [e2] X.env) (hpl : (backTo pos (starEach [e2] X.env)).any (·.1) = false) :
    PIM Md X (.Tuple elts kk tpos) (.Call (.Name "zip" p) [e, e2] [] pos) (iZip2 X.K ta) := by
  refine ⟨fun pins s σ H R I h => ?_⟩
  refine Call_ (ld_blt I hg hm PyProof.Rows.boot_zip (PyProof.Rows.callWith_type1 (thn (ha.run pos pins s σ H _ I h) fun us s1 ⟨vs, H1, I1, r1, q1⟩ => ?_) hs hpl))
  obtain ⟨c, d, a, b, xs, ys, ex, qx, qy, q⟩ := q1
  subst ex
  cases r1 with
  | cons r rr =>
    cases rr with
    | cons r' rr =>
      cases rr
      cases r
      cases r'
      obtain ⟨its, rv, p1, la⟩ := SqX.get I1 qx
      obtain ⟨its2, rv2, p2, lb⟩ := SqX.get I1 qy
      refine zip_made p1 p2 fun g hz hI hO w1 w2 hk => wpAny_pyIter_zip hz ?_
      have I2 : Inv X pins σ H1 { s1 with heap := g } := I1.kept (t' := s1.toks) hk
      refine ⟨s1.heap.objs.size + 4, [s1.heap.objs.size + 4, s1.heap.objs.size + 2, s1.heap.objs.size + 3, s1.heap.objs.size, s1.heap.objs.size + 1], _, _, H1, rfl, I2, turn_Z (PySem.W.ktu_apart s1.heap.objs.size a b la lb), ⟨hz, hI, ⟨_, _, hO⟩, w1, w2⟩, fun x hx => ?_, q⟩
      have hle : s1.heap.objs.size ≤ x := by
        rcases five hx with z | z | z | z | z <;> rw [z] <;> first | exact Nat.le_refl _ | exact Nat.le_add_right _ _
      exact I1.fpOk hle (I1.hok.fresh hle)
/-- for, in any place -/
theorem ps_forM {md : Cx → Prop} {iter : Expr} {body : List Stmt} {wi : TI} {g : TG} {tb : TS} {pos : Pos} (hp : PassesOwn (model X.prog X.w) X.A X.env X.xe) (hm : md X) (hi : PIM md X tg iter wi) (hg : PG X tg g) (hb : PSs X body tb)
    (hs : ∀ x, foldedSetIterable iter X.env x = pure x) : PS X (.For tg iter body [] pos) (tFor wi g tb) := by
  refine ⟨fun pins s σ H D I h => ?_⟩
  refine wpAny_For (thn (hi.run pins s σ H _ I h) fun v s1 h1 => thn h1 fun itv s2 h2 => ?_) hs
  obtain ⟨it, fp, tn, J, H2, e, I2, T, st2, f2, Wi, ⟨m0, w0⟩, turn⟩ := h2
  subst e
  have fpk : ∀ {H' : Hp}, (∀ b ∈ fp, H' b = none) → ∀ b ∈ fp, FpOk X pins H' b := fun hn b hb => ⟨hn b hb, (f2 b hb).2⟩
  refine codeAny_forLoop_any (fun n s' => ∃ i σ' H', Inv X pins σ' H' s' ∧ tn i s'.heap ∧ (∀ b ∈ fp, H' b = none) ∧ Wi i n σ' H') ?_ m0 ⟨0, σ, H2, I2, st2, fun b hb => (f2 b hb).1, w0⟩
  intro n s3 h3
  obtain ⟨i, σ3, H3, I3, st3, fr3, w3⟩ := h3
  rcases turn i n σ3 H3 w3 with ⟨stop, qn⟩ | ⟨go, N, hN, step⟩
  · refine wpAny_passesOwn hp (thn (T.done X rfl rfl rfl hm i pins s3 σ3 H3 X.xe I3 (fpk fr3) st3 stop) fun r s4 h4 => ?_)
    obtain ⟨hr, I4⟩ := h4
    subst hr
    exact wpAny_execs_nil ⟨σ3, H3, I4, qn⟩
  · refine wpAny_passesOwn hp (thn (T.item X rfl rfl rfl hm i pins s3 σ3 H3 X.xe I3 (fpk fr3) st3 go) fun r s4 h4 => ?_)
    obtain ⟨u, hr, h4⟩ := h4
    subst hr
    refine wpAny_passesOwn hp (thn h4 fun _ s5 h5 => ?_)
    obtain ⟨x, H5, I5, r5, y5, st5, fr5⟩ := h5
    have I5' := I5.pinned (fpk fr5) (T.obj _ _ st5)
    refine wpAny_passesOwn hp (thn (hg.run _ s5 σ3 H5 x u _ I5' r5 (step x H5 y5)) fun _ s6 h6 => ?_)
    obtain ⟨σ6, H6, I6, q6⟩ := h6
    refine wpAny_passesOwn hp (thn (hb.run _ s6 σ6 H6 _ I6 q6) fun f s7 q7 => ?_)
    have again : ∀ {σ7 : St} {H7 : Hp}, Inv X (pins ++ pinsAt fp s5.heap) σ7 H7 s7 → N σ7 H7 → ∃ m, m < n ∧ ∃ i σ' H', Inv X pins σ' H' s7 ∧ tn i s7.heap ∧ (∀ b ∈ fp, H' b = none) ∧ Wi i m σ' H' := fun {σ7 H7} I7 n7 => by
      obtain ⟨m', hm', w7⟩ := hN σ7 H7 n7
      have pk : ∀ b ∈ fp, ∀ o, s5.heap.get? b = some o → s7.heap.get? b = some o ∧ H7 b = none := fun b hb o e => by
        have z := I7.pin (b, o) (List.mem_append_right _ (List.mem_append_right _ (mem_pinsAt hb e)))
        exact ⟨z.1, z.2.1⟩
      refine ⟨m', hm', i + 1, σ7, H7, I7.unpinned, T.keep _ _ _ st5 fun b hb o e => (pk b hb o e).1, fun b hb => ?_, w7⟩
      obtain ⟨o, e, _⟩ := T.obj _ _ st5 b hb
      exact (pk b hb o e).2
    cases f with
    | next => obtain ⟨σ7, H7, I7, n7⟩ := q7; exact again I7 n7
    | cont => obtain ⟨σ7, H7, I7, n7⟩ := q7; exact again I7 n7
    | brk => obtain ⟨σ7, H7, I7, q7⟩ := q7; exact ⟨σ7, H7, I7.unpinned, q7⟩
    | ret v => obtain ⟨x7, σ7, H7, I7, r7, q7⟩ := q7; exact ⟨x7, σ7, H7, I7.unpinned, r7, q7⟩
end
end Hh
set_option maxHeartbeats 4000000
namespace Hh
open PySem PySem.Spec PyProof.Rows L2 HotX
/-- a comprehension's block, its maker's pins known -/
abbrev blkM (X : Cx) (s : Shared) (H : Hp) (scope : Scope) (cenv : PySem.Env) (fp : List Addr) (pins : List (Addr × Obj)) : Cx := { X.blk s H scope cenv fp with pn := X.pn ++ pins }
section
variable {X : Cx} {pins : List (Addr × Obj)} {σ : St} {H : Hp} {s : Shared}
theorem blk_in {s3 s4 : Shared} {H3 H4 : Hp} {σ4 : St} {scope : Scope} {ce : PySem.Env} {fp : List Addr} {ps : List (Addr × Obj)} (I3 : Inv X pins σ H3 s3) (I4 : Inv (X.blk s3 H3 scope ce fp) ps σ4 H4 s4) (hc : ce.locals = s3.heap.objs.size) (hk : ∀ b o, s3.heap.get? b = some o → s4.heap.get? b = some o) (hH : H4 = H3) :
    Inv (blkM X s3 H3 scope ce fp pins) ps σ4 H4 s4 := by
  have ok := I4.ok
  refine ⟨⟨ok.mod, ok.kind, ok.glob, ok.blt, ok.above, ok.inj, ok.has, ok.cab, ok.hd, ok.frames, ok.stk, ok.exf, ok.bs, ok.bsz, ok.noex, ok.exfs, ok.funs, ok.frf⟩, I4.os, I4.bare, I4.base, I4.loc, I4.cell, I4.free, I4.freeC, fun p hp => ?_, I4.hok, I4.len⟩
  rcases List.mem_append.mp hp with hp | hp
  · obtain ⟨h1, h2, h3, h4, h5⟩ := I3.pin p hp
    refine ⟨hk _ _ h1, by rw [hH]; exact h2, ?_, fun z => ?_, h5⟩
    · show p.1 ≠ ce.locals
      rw [hc]
      exact Nat.ne_of_lt (Heap.lt_size h1)
    · rcases List.mem_cons.mp (I3.stkSub p.1 z) with e | e
      · exact h3 e
      · exact h4 e
  · exact I4.pin p (List.mem_append_right _ hp)
theorem lcM {md : Cx → Prop} {elt tg iter : Expr} {ifs : List Expr} {scope : Scope} {own : List (Str × Nat)} {pos : Pos} {wi : TI} {g : TG} {tt : TT} {te : TE}
    (hm : ∀ (s : Shared) (H : Hp) (ce : PySem.Env) (fp : List Addr) (pins : List (Addr × Obj)), md (blkM X s H scope ce fp pins)) (hN : X.N.Nodup) (hi : PIM md X tg iter wi) (ok : BlkOk X.N X.env.scope scope own)
    (hg : ∀ (s : Shared) (H : Hp) (C : Addr) (cl : List (Str × Addr)) (fp : List Addr) (pins : List (Addr × Obj)), PG (blkM X s H scope (compEnvC scope cl C X.env) fp pins) tg g)
    (ht : ∀ (s : Shared) (H : Hp) (C : Addr) (cl : List (Str × Addr)) (fp : List Addr) (pins : List (Addr × Obj)), PTs (blkM X s H scope (compEnvC scope cl C X.env) fp pins) ifs tt)
    (he : ∀ (s : Shared) (H : Hp) (C : Addr) (cl : List (Str × Addr)) (fp : List Addr) (pins : List (Addr × Obj)), PE (blkM X s H scope (compEnvC scope cl C X.env) fp pins) elt te)
    (hs : ∀ x, foldedSetIterable iter X.env x = pure x) : PE X (.ListComp elt [⟨tg, iter, ifs, 0⟩] scope pos) (tLc wi g tt te (own.map (·.2))) := by
  refine ⟨fun pins s σ H Q I h => ?_⟩
  rw [eval_ListComp]
  have hfree : ∀ y ∈ scope.names, y.2 = .free → ∃ c, X.env.cells.lookup y.1 = some c := fun y hy e => (ok.free y hy e).elim (fun k => I.ok.has _ (.inl k)) fun k => I.ok.has _ (.inr k)
  refine wpAny_comprehension_free (use := none) rfl hs (closure_ok hfree) ok.kind (fun y hy e => by rw [ok.uniq y hy, e]) (thn (hi.run pins s σ H _ I h) fun xv s1 hx => thn hx fun itv s2 h2 => ?_)
  obtain ⟨it, fp, tn, J, H2, e, I2, T, st2, f2, q⟩ := h2
  subst e
  refine wpAny_newObj_type (newEnv_comp ?_) (by show 0 ≤ sizeLine; decide)
  generalize hD : s2.heap.objs.size = D
  obtain ⟨Wi, ⟨m0, w0⟩, turn⟩ := q D (I2.hok.fresh (Nat.le_of_eq hD))
  generalize hs3 : ({ s2 with heap := s2.heap.push { cls := .type "list", data := .seq ([] : List Value).toArray } } : Shared) = s3
  have e3 : s3.heap = s2.heap.push { cls := .type "list", data := .seq ([] : List Value).toArray } := by rw [← hs3]
  have k3 : ∀ b o, s2.heap.get? b = some o → s3.heap.get? b = some o := fun b o e => by rw [e3]; exact Heap.get?_push_of_some _ e
  have I3 : Inv X pins σ (upd H2 D (.lst [])) s3 := by
    rw [← hs3]
    refine I2.laid (t' := s2.toks) (fun b o e => Heap.get?_push_of_some _ e) (Nat.le_of_eq hD) ⟨Nat.zero_le _, [], 0, .nil, ?_⟩
    rw [← hD]
    exact Heap.get?_push_size _ rfl
  have f3 : ∀ b ∈ fp, FpOk X pins (upd H2 D (.lst [])) b ∧ b < s3.heap.objs.size := fun b hb => by
    obtain ⟨o, e, _⟩ := T.obj _ _ st2 b hb
    have hlt := Heap.lt_size e
    exact ⟨⟨by rw [upd_ne (by rw [← hD]; exact Nat.ne_of_lt hlt)]; exact (f2 b hb).1, (f2 b hb).2⟩, by rw [e3, Heap.size_push]; exact Nat.lt_succ_of_lt hlt⟩
  have st3 : tn 0 s3.heap := T.keep _ _ _ st2 fun b _ o e => k3 b o e
  have I4 := block_start I3 ok hN f3
  show codeAny _ _ (.compStart (.ListComp elt [⟨tg, iter, ifs, 0⟩] scope pos) 0 (.ref it) (.ref D) (compEnvC scope (cellsFrom (s3.heap.objs.size + 1) scope.names (cloFrom X.env.cells scope.names [])) s3.heap.objs.size X.env)) (compPost (model X.prog X.w) X.A X.xe none (EP X pins σ Q) (.ref D) s3.heap.objs.size) { s3 with heap := pushCells (s3.heap.push { cls := .type "dict", data := .dict #[] }) scope.names }
  have pg := hg s3 (upd H2 D (.lst [])) s3.heap.objs.size (cellsFrom (s3.heap.objs.size + 1) scope.names (cloFrom X.env.cells scope.names [])) fp pins
  have pt := ht s3 (upd H2 D (.lst [])) s3.heap.objs.size (cellsFrom (s3.heap.objs.size + 1) scope.names (cloFrom X.env.cells scope.names [])) fp pins
  have pe := he s3 (upd H2 D (.lst [])) s3.heap.objs.size (cellsFrom (s3.heap.objs.size + 1) scope.names (cloFrom X.env.cells scope.names [])) fp pins
  have nfp : ∀ b ∈ fp, (upd H2 D (.lst [])) b = none := fun b hb => (f3 b hb).1.1
  generalize hce : compEnvC scope (cellsFrom (s3.heap.objs.size + 1) scope.names (cloFrom X.env.cells scope.names [])) s3.heap.objs.size X.env = ce at I4 pg pt pe ⊢
  have cL : ce.locals = s3.heap.objs.size := by subst hce; rfl
  generalize hH3 : upd H2 D (.lst []) = H3 at I3 I4 pg pt pe w0 nfp f3
  generalize hs4 : ({ s3 with heap := pushCells (s3.heap.push { cls := .type "dict", data := .dict #[] }) scope.names } : Shared) = s4 at I4 ⊢
  have k4 : ∀ b o, s3.heap.get? b = some o → s4.heap.get? b = some o := fun b o e => by rw [← hs4]; exact pushCells_keeps _ _ _ _ (Heap.get?_push_of_some _ e)
  have st4 : tn 0 s4.heap := T.keep _ _ _ st3 fun b _ o e => k4 b o e
  have J4 := blk_in I3 I4 cL k4 rfl
  have mdB : md (blkM X s3 H3 scope ce fp pins) := hm s3 H3 ce fp pins
  generalize hXb : blkM X s3 H3 scope ce fp pins = Xb at J4 mdB pg pt pe
  have bP : Xb.prog = X.prog := by rw [← hXb]
  have bW : Xb.w = X.w := by rw [← hXb]
  have bK : Xb.K = X.K := by rw [← hXb]
  have bA : Xb.A = X.A := by rw [← hXb]
  have bx : Xb.xe = fun _ _ => False := by rw [← hXb]
  have bE : Xb.env = ce := by rw [← hXb]
  have bp : Xb.pn = X.pn ++ pins := by rw [← hXb]
  have bex : Xb.ex = fp := by rw [← hXb]
  -- the walked thing's objects keep apart
  have stat : ∀ {ps : List (Addr × Obj)} {σ' : St} {H' : Hp} {s' : Shared}, Inv Xb ps σ' H' s' → ps = [] → (∀ b ∈ fp, H' b = none) → ∀ b ∈ fp, FpOk Xb ps H' b := fun {ps σ' H' s'} I' hps hn b hb => by
    have h5 := I'.ok.exf b (by rw [bex]; exact hb)
    refine ⟨hn b hb, h5.1, I'.ok.exfs b (by rw [bex]; exact hb), .inl (by rw [bex]; exact hb), fun x c e => h5.2 x c e, fun p hp => ?_⟩
    rw [hps, List.append_nil, bp] at hp
    exact (f3 b hb).1.2.2.2.2.2 p hp
  have loop : codeAny (model X.prog X.w) X.A (.compLoop (.ListComp elt [⟨tg, iter, ifs, 0⟩] scope pos) 0 (.ref it) (.ref D) ce) (compPost (model X.prog X.w) X.A X.xe none (EP X pins σ Q) (.ref D) s3.heap.objs.size) s4 := by
    rw [← bP, ← bW, ← bA]
    refine compLoop_any (fun n s' => ∃ i H', Inv Xb [] (wipe σ (own.map (·.2))) H' s' ∧ tn i s'.heap ∧ (∀ b ∈ fp, H' b = none) ∧ Wi i n H') ?_ m0 ⟨0, H3, J4, st4, nfp, w0⟩
    intro n s5 h5
    obtain ⟨i, H5, I5, st5, n5, w5⟩ := h5
    rcases turn i n H5 w5 with ⟨stop, qq⟩ | ⟨go, Nx, hNx, step⟩
    · have td := T.done Xb bP bW bK mdB i [] s5 _ H5 (fun _ _ => False) I5 (stat I5 rfl n5) st5 stop
      rw [← bP, ← bW] at td
      refine thnF td fun r s6 h6 => ?_
      obtain ⟨hr, I6⟩ := h6
      subst hr
      subst hXb
      have I7 : Inv X pins σ H5 s6 := I3.call' (ch := fp) I6.os I6.base I6.hok I6.bare fun b hb => ⟨(f3 b hb).1.2.2.2.1, (f3 b hb).1.2.1, (f3 b hb).1.2.2.2.2.1, (f3 b hb).1.2.2.2.2.2⟩
      have nC : H5 s3.heap.objs.size = none := by
        have z : H5 ce.locals = none := I6.free
        rw [cL] at z
        exact z
      obtain ⟨m, hn, _⟩ := I6.loc
      have hn : s6.heap.Ns ce.locals m := hn
      rw [cL] at hn
      obtain ⟨t0, t1, t2, t3, t4, t5⟩ := I3.fpOk (Nat.le_refl _) nC
      exact ⟨m, hn, fun h'' sb => ⟨.ref D, H5, I7.turned (t' := s6.toks) (fun b o hb e => (sb.2 b hb).trans e) t0 t1 t3 t4 t5, rfl, qq⟩⟩
    · have ti := T.item Xb bP bW bK mdB i [] s5 _ H5 (fun _ _ => False) I5 (stat I5 rfl n5) st5 go
      rw [← bP, ← bW] at ti
      refine thnF ti fun r s6 h6 => ?_
      obtain ⟨u, hr, h6⟩ := h6
      subst hr
      refine thnF h6 fun _ s7 h7 => ?_
      obtain ⟨x, H7, I7, r7, y7, st7, n7⟩ := h7
      have I7' := I7.pinned (stat I7 rfl n7) (T.obj _ _ st7)
      have pgr := pg.run _ s7 _ H7 x u _ I7' r7 (step x H7 y7)
      rw [bx, bE] at pgr
      refine thnF pgr fun _ s8 h8 => ?_
      obtain ⟨σ8, H8, I8, hw8, q8⟩ := h8
      have ptr := pt.run _ s8 σ8 H8 _ I8 q8
      rw [bx, bE] at ptr
      refine thnF ptr fun b s9 h9 => ?_
      obtain ⟨H9, I9, q9⟩ := h9
      have fin : ∀ {s' : Shared} {H' : Hp}, Inv Xb ([] ++ pinsAt fp s7.heap) σ8 H' s' → Nx H' → ∃ m, m < n ∧ ∃ i H', Inv Xb [] (wipe σ (own.map (·.2))) H' s' ∧ tn i s'.heap ∧ (∀ b ∈ fp, H' b = none) ∧ Wi i m H' := fun {s' H'} I' nx => by
        obtain ⟨m', hm', w'⟩ := hNx H' nx
        have pk : ∀ b ∈ fp, ∀ o, s7.heap.get? b = some o → s'.heap.get? b = some o ∧ H' b = none := fun b hb o e => by
          have z := I'.pin (b, o) (List.mem_append_right _ (List.mem_append_right _ (mem_pinsAt hb e)))
          exact ⟨z.1, z.2.1⟩
        have hl : (wipe σ (own.map (·.2))).length = σ8.length := by rw [← hw8, wipe_length]
        refine ⟨m', hm', i + 1, H', (I'.unpinned (pins := [])).weak hl (fun j v e => ?_), T.keep _ _ _ st7 fun b hb o e => (pk b hb o e).1, fun b hb => ?_, w'⟩
        · rw [← hw8] at e
          exact (wipe_some e).1
        · obtain ⟨o, e, _⟩ := T.obj _ _ st7 b hb
          exact (pk b hb o e).2
      cases b with
      | false =>
        simp only [Bool.false_eq_true, if_false] at q9 ⊢
        exact fin I9 q9
      | true =>
        simp only [if_true] at q9 ⊢
        have per := pe.run _ s9 σ8 H9 _ I9 q9
        rw [bx, bE] at per
        refine thnF per fun z s10 h10 => ?_
        obtain ⟨yv, H10, I10, r10, acc, hD10, hz10, nx⟩ := h10
        refine app_ok (X := Xb) (Q := fun _ s' => ∃ m, m < n ∧ ∃ i H', Inv Xb [] (wipe σ (own.map (·.2))) H' s' ∧ tn i s'.heap ∧ (∀ b ∈ fp, H' b = none) ∧ Wi i m H') I10 hD10 hz10 r10 fun s11 I11 => fin I11 nx
  exact codeAny_compStart_list loop (T.self X.A 0 _ _ _ st4 loop)
end
end Hh
namespace Zt
open PySem PySem.Spec PyProof.Rows L2
/-- a tuple taken apart, in any place -/
theorem pg_tupM {X : Cx} {pos : Pos} {es : List Expr} {k : Nat} {t : TGs} {n : Nat} (hm : Hh.Md X) (h : PGs X es t)
    (hn : (assignEach es X.env).length = n) (hst : (assignEach es X.env).findIdx? (·.1) = none) : PG X (.Tuple es k pos) (gTup X.K n t) := by
  rcases hm with hc | hot
  · exact pg_tup hc h hn hst
  · refine ⟨fun pins s σ H v u Q I r hw => ?_⟩
    obtain ⟨a, xs, e1, hq, hl, hw⟩ := hw
    subst e1
    cases r
    obtain ⟨its, rv, ht, hz⟩ := I.tuple hq
    obtain ⟨p, ⟨hh, vs, e2, c1⟩, hp⟩ := hot
    have hp' : p ∈ X.pn ++ pins := List.mem_append_left _ hp
    refine Hh.assign_hot (x1 := p.1) ⟨hh, p.2, vs, (I.pin p hp').1, e2, c1⟩ ht (by simp [hn, ← hl, rv.length]) hst fun h' hx => ?_
    have I1 : Inv X pins σ H { s with heap := h' } := I.kept (t' := s.toks) fun b o e => hx b o (Nat.ne_of_lt (Heap.lt_size e)) e
    exact h.run pins _ σ H xs _ Q I1 (by simpa using rv) hw
def setσ : St → List Nat → List V → St
  | σ, i :: is, v :: vs => setσ (σ.set i (some v)) is vs
  | σ, _, _ => σ
def gNames (is : List Nat) : TGs := fun vs σ H Q => vs.length = is.length ∧ Q (setσ σ is vs) H
section
variable {W : Wd} {G : Stat} {S : Sc} {k : Nat} {h : Bool} {cc : CC} {X : Cx} {wx : WX}
theorem asEach_names : ∀ {is : List Nat} {es : List Expr} {env : PySem.Env}, is.length = es.length → ((is.zip es).all fun p => match p.2 with
    | .Name x _ => decide (cc.N[p.1]? = some x) && isLoc cc x
    | _ => false) = true → (assignEach es env).length = is.length ∧ (assignEach es env).findIdx? (·.1) = none
  | [], [], _, _, _ => ⟨rfl, rfl⟩
  | i :: is, e :: es, env, hl, hc => by
    rw [List.zip_cons_cons, List.all_cons, Bool.and_eq_true] at hc
    obtain ⟨h1, h2⟩ := hc
    obtain ⟨h3, h4⟩ := asEach_names (env := env) (Nat.succ.inj hl) h2
    cases e with
    | Name x p =>
      have e1 : assignEach (.Name x p :: es) env = (false, assign (.Name x p) env) :: assignEach es env := rfl
      rw [e1]
      refine ⟨by simp [h3], ?_⟩
      rw [List.findIdx?_cons]
      simp [h4]
    | _ => cases h1
  | [], _ :: _, _, hl, _ => nomatch hl
  | _ :: _, [], _, hl, _ => nomatch hl
theorem pgs_names (hN : X.N.Nodup) (eN : X.N = cc.N) (hloc : ∀ x, isLoc cc x = true → L2.Loc X.env.scope x ∧ (X.fn x = true ∨ X.env.scope.names.lookup x = some .local)) : ∀ {is : List Nat} {es : List Expr}, is.length = es.length → ((is.zip es).all fun p => match p.2 with
    | .Name x _ => decide (cc.N[p.1]? = some x) && isLoc cc x
    | _ => false) = true → PGs X es (gNames is)
  | [], [], _, _ => ⟨fun pins s σ H vs us Q I r h => (pgs_nil (X := X)).run pins s σ H vs us Q I r ⟨List.length_eq_zero_iff.mp h.1, by
      obtain ⟨h1, h2⟩ := h
      cases vs with
      | nil => exact h2
      | cons _ _ => cases h1⟩⟩
  | i :: is, e :: es, hl, hc => by
    rw [List.zip_cons_cons, List.all_cons, Bool.and_eq_true] at hc
    obtain ⟨h1, h2⟩ := hc
    have ih := pgs_names hN eN hloc (Nat.succ.inj hl) h2
    cases e with
    | Name x p =>
      have h1 : (decide (cc.N[i]? = some x) && isLoc cc x) = true := h1
      rw [Bool.and_eq_true] at h1
      obtain ⟨q1, q2⟩ := hloc x h1.2
      have p1 : PG X (.Name x p) (gName i) := pg_name hN (by rw [eN]; exact of_decide_eq_true h1.1) q1 q2
      refine ⟨fun pins s σ H vs us Q I r h => (pgs_cons p1 ih rfl).run pins s σ H vs us Q I r ?_⟩
      obtain ⟨hl2, hq⟩ := h
      cases vs with
      | nil => cases hl2
      | cons v vs => exact ⟨v, vs, rfl, Nat.succ.inj hl2, hq⟩
    | _ => cases h1
  | [], _ :: _, hl, _ => nomatch hl
  | _ :: _, [], hl, _ => nomatch hl
/-- what a target's binding leaves -/
def gT (W : Wd) (S : Sc) (tg : Tg) (ns : List Nat) : TG := fun v σ H Q => ∃ ι ρ M z ρ', Rl W S ι σ H ρ M ∧ DenZ W.K ι H v z ∧ bindT tg ρ z = some ρ' ∧ ∀ σ', SR W.K S ι H σ' ρ' → wipe σ' ns = wipe σ ns → Q σ' H
def Tg.ids : Tg → List Nat
  | .nm i => [i]
  | .tp is => is
theorem wipe_set {σ : St} {i : Nat} {v : Option V} : ∀ {ns : List Nat}, i ∈ ns → wipe (σ.set i v) ns = wipe σ ns
  | [], h => nomatch h
  | n :: ns, h => by
    show (wipe (σ.set i v) ns).set n none = (wipe σ ns).set n none
    by_cases hi : i ∈ ns
    · rw [wipe_set hi]
    · have hn : i = n := by simpa [hi] using h
      subst hn
      have key : ∀ (ns : List Nat) (τ : St), i ∉ ns → (wipe (τ.set i v) ns) = (wipe τ ns).set i v := fun ns => by
        induction ns with
        | nil => intro _ _; rfl
        | cons m ms ih =>
          intro τ hm
          have hm1 : i ≠ m := fun e => hm (by rw [e]; exact List.mem_cons_self)
          have hm2 : i ∉ ms := fun e => hm (List.mem_cons_of_mem _ e)
          show (wipe (τ.set i v) ms).set m none = ((wipe τ ms).set m none).set i v
          rw [ih τ hm2, List.set_comm _ _ hm1]
      rw [key ns σ hi]
      simp
theorem wipe_setσ : ∀ {is : List Nat} {vs : List V} {σ : St} {ns : List Nat}, (∀ i ∈ is, i ∈ ns) → wipe (setσ σ is vs) ns = wipe σ ns
  | [], vs, σ, ns, _ => by cases vs <;> rfl
  | i :: is, [], σ, ns, _ => rfl
  | i :: is, v :: vs, σ, ns, h => by
    show wipe (setσ (σ.set i (some v)) is vs) ns = _
    rw [wipe_setσ fun j hj => h j (List.mem_cons_of_mem _ hj)]
    exact wipe_set (h i List.mem_cons_self)
theorem sr_setAll {K : PySem.W.Frag} {ι : Io} {H : Hp} : ∀ {is : List Nat} {vs : List V} {ds : List D} {σ : St} {ρ ρ' : Env}, SR K S ι H σ ρ → DenL K ι H vs ds → setAll ρ is ds = some ρ' → SR K S ι H (setσ σ is vs) ρ'
  | [], _, [], σ, ρ, ρ', s, l, e => by
    cases l
    cases e
    exact s
  | [], _, _ :: _, σ, ρ, ρ', s, l, e => nomatch e
  | i :: is, _, [], σ, ρ, ρ', s, l, e => nomatch e
  | i :: is, _, d :: ds, σ, ρ, ρ', s, l, e => by
    cases l with
    | @cons v vs _ _ d1 l1 =>
      show SR K S ι H (setσ (σ.set i (some v)) is vs) ρ'
      exact sr_setAll (ρ := ρ.set i (.z (.d d))) (s.set i (.d d1)) l1 e
theorem j_tg (hm : Hh.Md X) (eK : X.K = W.K) (hN : X.N.Nodup) (eN : X.N = cc.N) (hloc : ∀ x, isLoc cc x = true → L2.Loc X.env.scope x ∧ (X.fn x = true ∨ X.env.scope.names.lookup x = some .local)) {tg : Tg} {e : Expr} {ns : List Nat} (hc : chkTg cc tg e = true) (hns : ∀ i ∈ tg.ids, i ∈ ns) : PG X e (gT W S tg ns) := by
  cases tg with
  | nm i =>
    cases e with
    | Name x p =>
      have hc : (decide (cc.N[i]? = some x) && isLoc cc x) = true := hc
      rw [Bool.and_eq_true] at hc
      obtain ⟨q1, q2⟩ := hloc x hc.2
      have p1 : PG X (.Name x p) (gName i) := pg_name hN (by rw [eN]; exact of_decide_eq_true hc.1) q1 q2
      refine ⟨fun pins s σ H v u Q I r hq => p1.run pins s σ H v u Q I r ?_⟩
      obtain ⟨ι, ρ, M, z, ρ', rl, d, e, q⟩ := hq
      cases e
      exact q _ (rl.s.set i d) (wipe_set (hns i (by simp [Tg.ids])))
    | _ => cases hc
  | tp is =>
    cases e with
    | Tuple es kx p =>
      have hc : (decide (is.length = es.length) && (is.zip es).all fun p => match p.2 with
        | .Name x _ => decide (cc.N[p.1]? = some x) && isLoc cc x
        | _ => false) = true := hc
      rw [Bool.and_eq_true] at hc
      have hl := of_decide_eq_true hc.1
      obtain ⟨a1, a2⟩ := asEach_names (env := X.env) hl hc.2
      have p1 := pg_tupM (pos := p) (k := kx) hm (pgs_names hN eN hloc hl hc.2) a1 a2
      refine ⟨fun pins s σ H v u Q I r hq => p1.run pins s σ H v u Q I r ?_⟩
      obtain ⟨ι, ρ, M, z, ρ', rl, d, e, q⟩ := hq
      cases d with
      | r _ => cases e
      | d d =>
        cases d with
        | @tup a xs ds h1 l1 =>
          have e : (if ds.length = is.length then setAll ρ is ds else none) = some ρ' := e
          split at e
          · rename_i hlen
            obtain ⟨a', xs', e1, _, sq, l2⟩ := (Den.tup h1 l1).tup_inv
            cases e1
            exact ⟨a, xs', rfl, by rw [eK]; exact sq, by rw [l2.length]; exact hlen, by rw [l2.length]; exact hlen, q _ (sr_setAll rl.s l2 e) (wipe_setσ hns)⟩
          · cases e
        | _ => cases e
    | _ => cases hc
end
end Zt
namespace Zt
open PySem PySem.Spec PyProof.Rows L2
/-- a walk gives these, whatever else goes on -/
structure Sv (W : Wd) (J : L2.It) (ι0 : Io) (H0 : Hp) (zs : List Z) : Prop where
  go : ∀ i ι H, Ext ι0 H0 ι H → i < zs.length → J.go i H
  stop : ∀ i ι H, Ext ι0 H0 ι H → zs.length ≤ i → J.stop i H
  yld : ∀ i ι H x H', Ext ι0 H0 ι H → (∀ a ∈ ι, H a ≠ none) → i < zs.length → J.yld i H x H' → ∃ z, zs[i]? = some z ∧ DenZ W.K ι H' x z ∧ Ext ι H ι H' ∧ ∀ M, MI W ι H M → MI W ι H' M
def relI (W : Wd) : Io → Hp → L2.It → List Z → Prop := fun ι H J zs => Sv W J ι H zs
abbrev iZ (W : Wd) (S : Sc) (wx : WX) (f : Env → Mem → R (List Z)) : TI := tG W S wx (relI W) f
theorem Sv.mono {W : Wd} {J : L2.It} {ι0 ι1 : Io} {H0 H1 : Hp} {zs : List Z} (s : Sv W J ι0 H0 zs) (e : Ext ι0 H0 ι1 H1) : Sv W J ι1 H1 zs :=
  ⟨fun i ι H x => s.go i ι H (e.trans x), fun i ι H x => s.stop i ι H (e.trans x), fun i ι H v H' x => s.yld i ι H v H' (e.trans x)⟩
section
variable {W : Wd} {ι0 : Io} {H0 : Hp}
theorem map_get {α β : Type} {f : α → β} {xs : List α} {i : Nat} {x : α} (h : xs[i]? = some x) : (xs.map f)[i]? = some (f x) := by rw [List.getElem?_map, h]; rfl
theorem get_of_lt {α : Type} {xs : List α} {i : Nat} (h : i < xs.length) : ∃ x, xs[i]? = some x := ⟨xs[i], List.getElem?_eq_getElem h⟩
theorem sv_list {a : Addr} {ds : List D} (d : Den W.K ι0 H0 (.ref a) (.list ds)) : Sv W (Itl W.K a) ι0 H0 (ds.map .d) := by
  refine ⟨fun i ι H e hi => ?_, fun i ι H e hi => ?_, fun i ι H x H' e hl hi hy => ?_⟩
  · obtain ⟨b, xs, e1, _, sq, l⟩ := (d.mono e).list_inv
    cases e1
    obtain ⟨x, hx⟩ := get_of_lt (show i < xs.length by rw [l.length]; simpa using hi)
    exact ⟨xs, x, sq, hx⟩
  · obtain ⟨b, xs, e1, _, sq, l⟩ := (d.mono e).list_inv
    cases e1
    exact ⟨xs, sq, by rw [l.length]; simpa using hi⟩
  · obtain ⟨b, xs, e1, _, sq, l⟩ := (d.mono e).list_inv
    cases e1
    obtain ⟨e2, hx⟩ := hy
    subst e2
    obtain ⟨y, h1, h2⟩ := l.get' (hx xs sq)
    exact ⟨_, map_get h1, .d h2, Ext.refl _ _, fun _ m => m⟩
theorem sv_tup {a : Addr} {ds : List D} (d : Den W.K ι0 H0 (.ref a) (.tuple ds)) : Sv W (Itt W.K a) ι0 H0 (ds.map .d) := by
  refine ⟨fun i ι H e hi => ?_, fun i ι H e hi => ?_, fun i ι H x H' e hl hi hy => ?_⟩
  · obtain ⟨b, xs, e1, _, sq, l⟩ := (d.mono e).tup_inv
    cases e1
    obtain ⟨x, hx⟩ := get_of_lt (show i < xs.length by rw [l.length]; simpa using hi)
    exact ⟨xs, x, sq, hx⟩
  · obtain ⟨b, xs, e1, _, sq, l⟩ := (d.mono e).tup_inv
    cases e1
    exact ⟨xs, sq, by rw [l.length]; simpa using hi⟩
  · obtain ⟨b, xs, e1, _, sq, l⟩ := (d.mono e).tup_inv
    cases e1
    obtain ⟨e2, hx⟩ := hy
    subst e2
    obtain ⟨y, h1, h2⟩ := l.get' (hx xs sq)
    exact ⟨_, map_get h1, .d h2, Ext.refl _ _, fun _ m => m⟩
theorem sv_str {x : Str} : Sv W (Its x) ι0 H0 ((signsOf x).map .d) := by
  have hl : ((signsOf x).map Z.d).length = x.cps.size := by simp [signsOf]
  refine ⟨fun i ι H e hi => (by rw [hl] at hi; exact hi), fun i ι H e hi => (by rw [hl] at hi; exact hi), fun i ι H v H' e hl hi hy => ?_⟩
  obtain ⟨e2, c, hc, hv⟩ := hy
  subst e2 hv
  exact ⟨_, map_get (f := Z.d) (x := .str ⟨#[c]⟩) (by simp only [signsOf, List.getElem?_map, Array.getElem?_toList, hc]; rfl), .d (.str _), Ext.refl _ _, fun _ m => m⟩
theorem sv_rng {lo hi : Int} : Sv W (Itr lo (hi - lo).toNat) ι0 H0 (rngZ lo hi) := by
  have hl : (rngZ lo hi).length = (hi - lo).toNat := by simp [rngZ]
  refine ⟨fun i ι H e hi => (by rw [hl] at hi; exact hi), fun i ι H e hi => (by rw [hl] at hi; exact hi), fun i ι H v H' e hl2 hi2 hy => ?_⟩
  obtain ⟨e2, hv⟩ := hy
  subst e2 hv
  refine ⟨.d (.int (lo + i)), ?_, .d (.int _), Ext.refl _ _, fun _ m => m⟩
  rw [hl] at hi2
  simp [rngZ, hi2]
theorem zip_get {α β : Type} {xs : List α} {ys : List β} {i : Nat} {x : α} {y : β} (h1 : xs[i]? = some x) (h2 : ys[i]? = some y) : (xs.zip ys)[i]? = some (x, y) := by
  simp [List.getElem?_zip_eq_some, h1, h2]
def seqD : Bool → List D → D
  | true, ds => .tuple ds
  | false, ds => .list ds
theorem den_seq {c : Bool} {ι : Io} {H : Hp} {v : V} {ds : List D} (d : Den W.K ι H v (seqD c ds)) : ∃ a xs, v = .ref a ∧ Hh.SqX c W.K H a xs ∧ DenL W.K ι H xs ds := by
  cases c with
  | true =>
    obtain ⟨b, xs, e1, _, sq, l⟩ := Den.tup_inv d
    exact ⟨b, xs, e1, sq, l⟩
  | false =>
    obtain ⟨b, xs, e1, _, sq, l⟩ := Den.list_inv d
    exact ⟨b, xs, e1, sq, l⟩
theorem sv_zip {c d : Bool} {a b : Addr} {ds es : List D} (h1 : Den W.K ι0 H0 (.ref a) (seqD c ds)) (h2 : Den W.K ι0 H0 (.ref b) (seqD d es)) : Sv W (Hh.Itz2 W.K c d a b) ι0 H0 (zipZ ds es) := by
  have hlen : (zipZ ds es).length = min ds.length es.length := by simp [zipZ]
  refine ⟨fun i ι H e hi => ?_, fun i ι H e hi => ?_, fun i ι H x H' e hl hi hy => ?_⟩
  · obtain ⟨_, xs, e1, sq, l⟩ := den_seq (h1.mono e)
    obtain ⟨_, ys, e2, sq2, l2⟩ := den_seq (h2.mono e)
    cases e1
    cases e2
    rw [hlen] at hi
    obtain ⟨x, hx⟩ := get_of_lt (show i < xs.length by rw [l.length]; omega)
    obtain ⟨y, hy⟩ := get_of_lt (show i < ys.length by rw [l2.length]; omega)
    exact ⟨xs, ys, x, y, sq, sq2, hx, hy⟩
  · obtain ⟨_, xs, e1, sq, l⟩ := den_seq (h1.mono e)
    obtain ⟨_, ys, e2, sq2, l2⟩ := den_seq (h2.mono e)
    cases e1
    cases e2
    rw [hlen] at hi
    refine ⟨xs, ys, sq, sq2, ?_⟩
    rw [l.length, l2.length]
    omega
  · obtain ⟨_, xs, e1, sq, l⟩ := den_seq (h1.mono e)
    obtain ⟨_, ys, e2, sq2, l2⟩ := den_seq (h2.mono e)
    cases e1
    cases e2
    obtain ⟨T, u, v, hx, hT, hH, k1, k2⟩ := hy
    subst hx hH
    obtain ⟨p, p1, p2⟩ := l.get' (k1 xs sq)
    obtain ⟨q, q1, q2⟩ := l2.get' (k2 ys sq2)
    exact ⟨_, map_get (f := fun p : D × D => Z.d (.tuple [p.1, p.2])) (zip_get p1 q1), .d (.newT hl hT (.cons p2 (.cons q2 .nil))), Ext.new hT, fun _ m => m.new hT⟩
theorem enum_get : ∀ {xs : List D} {k i : Nat} {x : D}, xs[i]? = some x → (enumZ k xs)[i]? = some (.d (.tuple [.int ((k + i : Nat) : Int), x]))
  | [], _, _, _, h => nomatch h
  | y :: xs, k, 0, x, h => by
    cases h
    rfl
  | y :: xs, k, i + 1, x, h => by
    show (enumZ (k + 1) xs)[i]? = _
    rw [enum_get (k := k + 1) (i := i) h]
    have : k + 1 + i = k + (i + 1) := by omega
    rw [this]
theorem enum_len : ∀ {xs : List D} {k : Nat}, (enumZ k xs).length = xs.length
  | [], _ => rfl
  | y :: xs, k => by
    show (enumZ (k + 1) xs).length + 1 = xs.length + 1
    rw [enum_len]
theorem sv_enum {a : Addr} {ds : List D} (d : Den W.K ι0 H0 (.ref a) (.list ds)) : Sv W (Ite W.K a) ι0 H0 (enumZ 0 ds) := by
  refine ⟨fun i ι H e hi => ?_, fun i ι H e hi => ?_, fun i ι H x H' e hl hi hy => ?_⟩
  · obtain ⟨b, xs, e1, _, sq, l⟩ := (d.mono e).list_inv
    cases e1
    obtain ⟨x, hx⟩ := get_of_lt (show i < xs.length by rw [l.length]; rw [enum_len] at hi; exact hi)
    exact ⟨xs, x, sq, hx⟩
  · obtain ⟨b, xs, e1, _, sq, l⟩ := (d.mono e).list_inv
    cases e1
    exact ⟨xs, sq, by rw [l.length]; rw [enum_len] at hi; exact hi⟩
  · obtain ⟨b, xs, e1, _, sq, l⟩ := (d.mono e).list_inv
    cases e1
    obtain ⟨T, u, hx, hT, hH, k1⟩ := hy
    subst hx hH
    obtain ⟨p, p1, p2⟩ := l.get' (k1 xs sq)
    refine ⟨_, enum_get p1, .d ?_, Ext.new hT, fun _ m => m.new hT⟩
    rw [Nat.zero_add]
    exact .newT hl hT (.cons (.int _) (.cons p2 .nil))
end
end Zt
namespace Zt
open PySem PySem.Spec PyProof.Rows L2
def MdH (h : Bool) (X : Cx) : Prop := (h = false → X.calm = true) ∧ (h = true → L2H.HotC X)
theorem MdH.md {h : Bool} {X : Cx} (m : MdH h X) : Hh.Md X := by
  cases h with
  | false => exact .inl (m.1 rfl)
  | true => exact .inr (m.2 rfl)
theorem MdH.cm {h : Bool} {X : Cx} (m : MdH h X) (e : h = false) : Hh.Cm X := m.1 e
theorem pit_list {X : Cx} {tg : Expr} {pins : List (Addr × Obj)} {σ : St} {H : Hp} {s : Shared} {a : Addr} {xs : List V} {R : L2.It → Hp → Prop} (I : Inv X pins σ H s) (hq : SqL X.K H a xs) (hr : R (Itl X.K a) H) :
    wpAny (model X.prog X.w) X.A (pyIter (.ref a)) (Hh.PIEM Hh.Md X pins σ tg R) X.xe s := by
  obtain ⟨its, rv, p, hz⟩ := I.list hq
  refine wpAny_pyIter_list p.isList ?_
  have hn : H s.heap.objs.size = none := I.hok.fresh (Nat.le_refl _)
  have I2 : Inv X pins σ H { s with heap := s.heap.push { cls := .type "list_iterator", data := .fields #[.ref a, .int 0 0] } } := I.kept (t' := s.toks) fun b o e => Heap.get?_push_of_some _ e
  exact ⟨_, [s.heap.objs.size], _, _, H, rfl, I2, Hh.turn_L a _, ⟨_, Heap.get?_push_size _ rfl, rfl, rfl⟩, fun b hb => by
    have e : b = s.heap.objs.size := by simpa using hb
    rw [e]
    exact I.fpOk (Nat.le_refl _) hn, hr⟩
theorem pit_tup {X : Cx} {tg : Expr} {pins : List (Addr × Obj)} {σ : St} {H : Hp} {s : Shared} {a : Addr} {xs : List V} {R : L2.It → Hp → Prop} (I : Inv X pins σ H s) (hq : SqT X.K H a xs) (hr : R (Itt X.K a) H) :
    wpAny (model X.prog X.w) X.A (pyIter (.ref a)) (Hh.PIEM Hh.Md X pins σ tg R) X.xe s := by
  obtain ⟨its, rv, p, hz⟩ := I.tuple hq
  refine wpAny_pyIter_tuple (show s.heap.IsTuple a its.toArray from p) ?_
  have hn : H s.heap.objs.size = none := I.hok.fresh (Nat.le_refl _)
  have I2 : Inv X pins σ H { s with heap := s.heap.push { cls := .type "tuple_iterator", data := .fields #[.ref a, .int 0 0] } } := I.kept (t' := s.toks) fun b o e => Heap.get?_push_of_some _ e
  exact ⟨_, [s.heap.objs.size], _, _, H, rfl, I2, Hh.turn_T a _, ⟨_, Heap.get?_push_size _ rfl, rfl, rfl⟩, fun b hb => by
    have e : b = s.heap.objs.size := by simpa using hb
    rw [e]
    exact I.fpOk (Nat.le_refl _) hn, hr⟩
theorem piem_of {X : Cx} {tg : Expr} {pins : List (Addr × Obj)} {σ : St} {R : L2.It → Hp → Prop} {v : Value} {s : Shared} (h : PIE X pins σ tg R v s) : Hh.PIEM Hh.Cm X pins σ tg R v s := by
  obtain ⟨it, fp, tn, J, H', e, I', T, t0, hf, r⟩ := h
  exact ⟨it, fp, tn, J, H', e, I', .of T, t0, hf, r⟩
theorem piem_weak {md md' : Cx → Prop} {X : Cx} {tg : Expr} {pins : List (Addr × Obj)} {σ : St} {R : L2.It → Hp → Prop} {v : Value} {s : Shared} (h : Hh.PIEM md X pins σ tg R v s) (k : ∀ X, md' X → md X) : Hh.PIEM md' X pins σ tg R v s := by
  obtain ⟨it, fp, tn, J, H', e, I', T, t0, hf, r⟩ := h
  exact ⟨it, fp, tn, J, H', e, I', T.weak k, t0, hf, r⟩
theorem pit_str {X : Cx} {tg : Expr} {pins : List (Addr × Obj)} {σ : St} {H : Hp} {s : Shared} {x : Str} {u : Value} {R : L2.It → Hp → Prop} (I : Inv X pins σ H s) (hu : L2.RelV (.str x) u) (q : R (Its x) H) :
    wpAny (model X.prog X.w) X.A (pyIter u) (Hh.PIEM Hh.Cm X pins σ tg R) X.xe s := by
  obtain ⟨t, rfl⟩ := hu
  cases ha : x.cps.all (· < 128)
  · exact wpAny_pyIter_wide ha (piem_of (pi_one (tk := s.toks) I _ (turn_str _ x t "str_iterator" (.inr rfl)) ⟨_, Heap.get?_push_size _ rfl, rfl, rfl⟩ q))
  · exact wpAny_pyIter_ascii ha (piem_of (pi_one (tk := s.toks) I _ (turn_str _ x t "str_ascii_iterator" (.inl rfl)) ⟨_, Heap.get?_push_size _ rfl, rfl, rfl⟩ q))
section
variable {W : Wd} {G : Stat} {S : Sc} {k : Nat} {h : Bool} {cc : CC} {X : Cx} {wx : WX}
theorem EndG.ofo {σ : St} {ι : Io} {H : Hp} {α β : Type} {rel : Io → Hp → β → α → Prop} {Q : β → Hp → Prop} {M : Mem} {o : Option α} (e : EndG W wx σ ι H rel Q (R.of o M)) : ∃ z, o = some z ∧ EndG W wx σ ι H rel Q (.ok z M) := by
  cases o with
  | none => exact e.elim
  | some z => exact ⟨z, rfl, e⟩
theorem pj_it (g : GX W G S k h cc X wx) {tg e : Expr} {f : Env → Mem → R Z} (he : PE X e (tD W S wx f)) :
    Hh.PIM (MdH h) X tg e (iZ W S wx fun ρ M => (f ρ M).bind fun x M1 => R.of (itH h x) M1) := by
  refine ⟨fun pins s σ H RR I q => ?_⟩
  obtain ⟨ι, ρ, M, rl, q⟩ := q
  dsimp only at q
  refine thn (he.run pins s σ H _ I ⟨ι, ρ, M, rl, q.step fun z M1 ι1 v1 H1 ex m d e1 => show ∃ ι1 z M1, MI W ι1 H1 M1 ∧ DenZ W.K ι1 H1 v1 z ∧ EndG W wx σ ι1 H1 (relI W) RR (R.of (itH h z) M1) from ⟨ι1, z, M1, m, d, e1⟩⟩) fun v s1 ⟨x, H1, I1, r1, ι1, z, M1, m, d, e1⟩ => ?_
  obtain ⟨zs, ez, e1⟩ := EndG.ofo e1
  cases d with
  | r _ => cases h <;> cases ez
  | @d _ y d =>
    cases d with
    | @lst a xs ds h1 l =>
      have ez : some (ds.map Z.d) = some zs := by cases h <;> exact ez
      cases ez
      obtain ⟨_, _, e2, _, sq, _⟩ := (Den.lst h1 l).list_inv
      cases e2
      cases r1
      exact thn (pit_list I1 (by rw [g.eK]; exact sq) (EndG.now e1 m (by rw [g.eK]; exact sv_list (.lst h1 l)))) fun v s2 z => piem_weak z fun _ => MdH.md
    | @tup a xs ds h1 l =>
      have ez : some (ds.map Z.d) = some zs := by cases h <;> exact ez
      cases ez
      obtain ⟨_, _, e2, _, sq, _⟩ := (Den.tup h1 l).tup_inv
      cases e2
      cases r1
      exact thn (pit_tup I1 (by rw [g.eK]; exact sq) (EndG.now e1 m (by rw [g.eK]; exact sv_tup (.tup h1 l)))) fun v s2 z => piem_weak z fun _ => MdH.md
    | str x =>
      cases h with
      | true => cases ez
      | false =>
        cases ez
        exact thn (pit_str I1 r1 (EndG.now e1 m sv_str)) fun v s2 z => piem_weak z fun _ z => z.cm rfl
    | _ => cases h <;> cases ez
theorem pj_rng1 (g : GX W G S k h cc X wx) {tg e : Expr} {f : Env → Mem → R Z} {p pos : Pos} (he : PE X e (tD W S wx f)) (hn : notStar e = true) (hg : isGlob cc ("range" : Str) = true) :
    Hh.PIM (MdH h) X tg (.Call (.Name ("range" : Str) p) [e] [] pos) (iZ W S wx fun ρ M => if h then .bad else (f ρ M).bind fun x M1 => match x with
    | .d (.int i) => if i < 2 ^ 62 ∧ -(2 ^ 62) ≤ i then .ok (rngZ 0 i) M1 else .bad
    | _ => .bad) := by
  cases h with
  | true => exact ⟨fun pins s σ H RR I ⟨ι, ρ, M, rl, q⟩ => q.elim⟩
  | false =>
    refine ((Hh.PIM.of (pi_range1 (g.gl hg) (g.blt (by decide +kernel)) (pa_cons he pa_nil (star1 hn)) (star1 hn))).imp fun σ H RR hq => ?_).weak fun _ z => z.cm rfl
    obtain ⟨ι, ρ, M, rl, e⟩ := hq
    dsimp only at e
    rw [if_neg Bool.false_ne_true] at e
    refine ⟨ι, ρ, M, rl, e.step fun z M1 ι1 v1 H1 ex m d e1 => ?_⟩
    split at e1
    · rename_i i
      cases d with
      | d d =>
        cases d
        split at e1
        · rename_i hc
          refine ⟨i, rfl, hc.2, hc.1, EndG.now e1 m ?_⟩
          have := sv_rng (W := W) (ι0 := ι1) (H0 := H1) (lo := 0) (hi := i)
          rw [Int.sub_zero] at this
          exact this
        · exact e1.elim
    · exact e1.elim
theorem pj_rng2 (g : GX W G S k h cc X wx) {tg e1 e2 : Expr} {f f2 : Env → Mem → R Z} {p pos : Pos} (he : PE X e1 (tD W S wx f)) (he2 : PE X e2 (tD W S wx f2)) (hn : notStar e1 = true) (hn2 : notStar e2 = true) (hg : isGlob cc ("range" : Str) = true) :
    Hh.PIM (MdH h) X tg (.Call (.Name ("range" : Str) p) [e1, e2] [] pos) (iZ W S wx fun ρ M => if h then .bad else (f ρ M).bind fun x M1 => (f2 ρ M1).bind fun y M2 => match x, y with
    | .d (.int i), .d (.int j) => if (i < 2 ^ 62 ∧ -(2 ^ 62) ≤ i) ∧ j < 2 ^ 62 ∧ -(2 ^ 62) ≤ j then .ok (rngZ i j) M2 else .bad
    | _, _ => .bad) := by
  cases h with
  | true => exact ⟨fun pins s σ H RR I ⟨ι, ρ, M, rl, q⟩ => q.elim⟩
  | false =>
    refine ((Hh.PIM.of (pi_range2 (g.gl hg) (g.blt (by decide +kernel)) (pa_cons he (pa_cons he2 pa_nil (star1 hn2)) ((star_of hn))) ((star_of hn).trans (by rw [star1 hn2])) (star1 hn2))).imp fun σ H RR hq => ?_).weak fun _ z => z.cm rfl
    obtain ⟨ι, ρ, M, rl, e⟩ := hq
    dsimp only at e
    rw [if_neg Bool.false_ne_true] at e
    refine ⟨ι, ρ, M, rl, e.step fun z M1 ι1 v1 H1 ex m d e1 => ⟨ι1, ρ, M1, rl.go ex m, e1.step fun z2 M2 ι2 v2 H2 ex2 m2 d2 e2 => ?_⟩⟩
    have dd := d.mono ex2
    split at e2
    · rename_i i j
      cases dd with
      | d d' =>
        cases d'
        cases d2 with
        | d d2 =>
          cases d2
          split at e2
          · rename_i hc
            exact ⟨i, j, rfl, ⟨hc.1.2, hc.1.1, hc.2.2, hc.2.1⟩, EndG.now e2 m2 sv_rng⟩
          · exact e2.elim
    · exact e2.elim
theorem seq_of {x : D} {xs : List D} (e : seqOf x = some xs) : ∃ c, x = seqD c xs := by
  cases x with
  | list l => cases e; exact ⟨false, rfl⟩
  | tuple l => cases e; exact ⟨true, rfl⟩
  | _ => cases e
theorem pj_zip (g : GX W G S k h cc X wx) {t e1 e2 : Expr} {f f2 : Env → Mem → R Z} {p pos : Pos} (ht : (!(notTup t)) = true) (he : PE X e1 (tD W S wx f)) (he2 : PE X e2 (tD W S wx f2)) (hn : notStar e1 = true) (hn2 : notStar e2 = true) (hg : isGlob cc ("zip" : Str) = true) :
    Hh.PIM (MdH h) X t (.Call (.Name ("zip" : Str) p) [e1, e2] [] pos) (iZ W S wx fun ρ M => (f ρ M).bind fun x M1 => (f2 ρ M1).bind fun y M2 => match x, y with
    | .d x, .d y => R.of ((seqOf x).bind fun xs => (seqOf y).map fun ys => zipZ xs ys) M2
    | _, _ => .bad) := by
  cases t with
  | Tuple es kk tp =>
    refine ((Hh.pim_zip (g.gl hg) (g.blt (by decide +kernel)) (pa_cons he (pa_cons he2 pa_nil (star1 hn2)) (star_of hn)) (star_of hn) (by
      rw [star1 hn2] <;> rfl)).imp fun σ H RR hq => ?_).weak fun _ z => z.md
    obtain ⟨ι, ρ, M, rl, e⟩ := hq
    dsimp only at e
    refine ⟨ι, ρ, M, rl, e.step fun z M1 ι1 v1 H1 ex m d e1 => ⟨ι1, ρ, M1, rl.go ex m, e1.step fun z2 M2 ι2 v2 H2 ex2 m2 d2 e2 => ?_⟩⟩
    have dd := d.mono ex2
    cases dd with
    | r _ => exact e2.elim
    | @d _ x d' =>
      cases d2 with
      | r _ => exact e2.elim
      | @d _ y d2 =>
        obtain ⟨zs, ez, e2⟩ := EndG.ofo e2
        obtain ⟨xs, q1, q2⟩ := Option.bind_eq_some_iff.mp ez
        obtain ⟨ys, q3, q4⟩ := Option.map_eq_some_iff.mp q2
        obtain ⟨c, rfl⟩ := seq_of q1
        obtain ⟨c2, rfl⟩ := seq_of q3
        subst q4
        obtain ⟨a, us, rfl, sq, _⟩ := den_seq d'
        obtain ⟨b, ws, rfl, sq2, _⟩ := den_seq d2
        exact ⟨c, c2, a, b, us, ws, rfl, by rw [g.eK]; exact sq, by rw [g.eK]; exact sq2, EndG.now e2 m2 (by rw [g.eK]; exact sv_zip d' d2)⟩
  | _ => cases ht
theorem pj_enum (g : GX W G S k h cc X wx) {t e : Expr} {f : Env → Mem → R Z} {p pos : Pos} (ht : (!(notTup t)) = true) (he : PE X e (tD W S wx f)) (hn : notStar e = true) (hg : isGlob cc ("enumerate" : Str) = true) :
    Hh.PIM (MdH h) X t (.Call (.Name ("enumerate" : Str) p) [e] [] pos) (iZ W S wx fun ρ M => if h then .bad else (f ρ M).bind fun x M1 => match x with
    | .d (.list xs) => .ok (enumZ 0 xs) M1
    | _ => .bad) := by
  cases h with
  | true => exact ⟨fun pins s σ H RR I ⟨ι, ρ, M, rl, q⟩ => q.elim⟩
  | false =>
    cases t with
    | Tuple es kk tp =>
      refine ((Hh.PIM.of (pi_enum (g.gl hg) (g.blt (by decide +kernel)) (pa_cons he pa_nil (star1 hn)) (star1 hn))).imp fun σ H RR hq => ?_).weak fun _ z => z.cm rfl
      obtain ⟨ι, ρ, M, rl, e⟩ := hq
      dsimp only at e
      rw [if_neg Bool.false_ne_true] at e
      refine ⟨ι, ρ, M, rl, e.step fun z M1 ι1 v1 H1 ex m d e1 => ?_⟩
      cases d with
      | r _ => exact e1.elim
      | d d =>
        cases d with
        | @lst a xs ds h1 l =>
          obtain ⟨_, _, e2, _, sq, _⟩ := (Den.lst h1 l).list_inv
          cases e2
          exact ⟨_, _, rfl, by rw [g.eK]; exact sq, EndG.now e1 m (by rw [g.eK]; exact sv_enum (.lst h1 l))⟩
        | _ => exact e1.elim
    | _ => cases ht
end
end Zt
namespace Zt
open PySem PySem.Spec PyProof.Rows L2
def wx0 : WX := fun _ _ _ _ => False
theorem wipe_in {ns : List Nat} : ∀ {ms : List Nat} {σ : St}, (∀ i ∈ ms, i ∈ ns) → wipe (wipe σ ms) ns = wipe σ ns
  | [], σ, _ => rfl
  | m :: ms, σ, h => by
    show wipe ((wipe σ ms).set m none) ns = _
    rw [wipe_set (h m List.mem_cons_self)]
    exact wipe_in fun i hi => h i (List.mem_cons_of_mem _ hi)
section
variable {K : PySem.W.Frag} {ι ι' : Io} {H H' : Hp}
theorem Ext.touch {D : Addr} {o : HO} (e : Ext ι H ι' H') (h : H D = none) : Ext ι H ι' (upd H' D o) :=
  ⟨e.suf, e.exs, e.nin, fun a u q t ha => ⟨(e.keep a u q t ha).1, by
    rw [upd_ne (ne_of_none q h)]
    exact (e.keep a u q t ha).2⟩⟩
/-- .. where a list grows that is apart -/
theorem Ext.apart {D : Addr} (e : Ext ι H ι' H') (h1 : D ∈ ι.ex) (h2 : D ∉ ι.pl) {acc : List V} (h3 : H D = some (.lst acc)) : D ∈ ι'.ex ∧ D ∉ ι'.pl ∧ H' D = some (.lst acc) :=
  ⟨e.exs D h1, (e.keep D _ h3 nt_lst h2).1, (e.keep D _ h3 nt_lst h2).2⟩
variable {W : Wd} {M : Mem}
theorem MI.touch {D : Addr} {acc ac2 : List V} (m : MI W ι H M) (h1 : D ∈ ι.ex) (h2 : D ∉ ι.pl) (h3 : H D = some (.lst acc)) : MI W ι (upd H D (.lst ac2)) M :=
  ⟨m.m.touch nt_lst h1 h2, tabs_upd m.t (fun q hq z => m.o q hq (by rw [z]; exact .inr h1)) (fun c q e z => by
    rw [z, h3] at e
    cases e), m.o⟩
theorem MI.lock {D : Addr} {o : HO} (m : MI W ι H M) (ho : NT o) (h : H D = none) : MI W (ι.lock D) (upd H D o) M :=
  ⟨m.m.lock ho h, m.t.ext fun b u e => by rw [upd_ne (ne_of_none e h)]; exact e, fun q hq z => by
    rcases z with z | z
    · exact m.o q hq (.inl z)
    · rcases List.mem_cons.mp z with z | z
      · obtain ⟨ps, e, _⟩ := m.t q hq
        rw [z, h] at e
        cases e
      · exact m.o q hq (.inr z)⟩
theorem MI.anti (m : MI W ι H M) (hp : ι'.pl = ι.pl) (hs : ∀ a ∈ ι'.ex, a ∈ ι.ex) : MI W ι' H M :=
  ⟨m.m.anti hp hs, m.t, fun q hq z => m.o q hq (by
    rcases z with z | z
    · exact .inl (by rw [← hp]; exact z)
    · exact .inr (hs _ z))⟩
end
section
variable {W : Wd} {G : Stat} {S : Sc} {k : Nat} {h : Bool} {cc : CC} {X : Cx} {wx : WX}
theorem MdH.blk (m : MdH h X) (s : Shared) (H : Hp) (scope : Scope) (ce : PySem.Env) (fp : List Addr) (pins : List (Addr × Obj)) : MdH h (Hh.blkM X s H scope ce fp pins) :=
  ⟨m.1, fun e => by
    obtain ⟨p, a, b⟩ := m.2 e
    exact ⟨p, a, List.mem_append_left _ b⟩⟩
theorem GX.mdh (g : GX W G S k h cc X wx) : MdH h X := ⟨fun e => (g.calm e).1, g.hot⟩
theorem GX.blk (g : GX W G S k h cc X wx) (s : Shared) (H : Hp) (scope : Scope) (C : Addr) (cl : List (Str × Addr)) (fp : List Addr) (pins : List (Addr × Obj)) :
    GX W G S k h (blkCC cc scope) (Hh.blkM X s H scope (compEnvC scope cl C X.env) fp pins) wx0 where
  eP := g.eP
  eW := g.eW
  eK := g.eK
  eM := g.eM
  eB := g.eB
  eN := g.eN
  nd := g.nd
  eS := by
    show relS scope X.env.scope = relS scope cc.sc
    rw [g.eS]
  room := g.room
  calm := g.calm
  hot := (g.mdh.blk s H scope _ fp pins).2
  takes := fun _ _ x => by
    obtain ⟨_, _, _, _, _, _, _, _, _, _, _, _, _, _, _, _, z⟩ := x
    exact z.elim
  pass := PassesOwn.never
  st := fun e => nomatch e
  ok := g.ok
  calls := g.calls
  lam := fun e => nomatch e
  nx := g.nx
  fr := fun e => nomatch e
  xc := fun e => nomatch e
  xp := fun e => nomatch e
  xl := fun e => nomatch e
theorem GX.locs (g : GX W G S k h cc X wx) : ∀ x, isLoc cc x = true → L2.Loc X.env.scope x ∧ (X.fn x = true ∨ X.env.scope.names.lookup x = some .local) := fun x hx => g.loc hx
theorem g_tg (g : GX W G S k h cc X wx) {tg : Tg} {e : Expr} {ns : List Nat} (hc : chkTg cc tg e = true) (hns : ∀ i ∈ tg.ids, i ∈ ns) : PG X e (gT W S tg ns) :=
  j_tg g.mdh.md g.eK g.nd g.eN g.locs hc hns
/-- the turns of a comprehension -/
theorem lc_rd {tg : Tg} {own : List Nat} {fI : Env → Mem → R (List Z)} {fc : Env → Mem → R Bool} {fe : Env → Mem → R Z} {σ : St} {H : Hp} {Q : VK} (hq : tD W S wx (fun ρ M => (fI ρ M).bind fun zs M1 => if zs.length ≤ slen then ((lcL fc fe tg (wipeE ρ own) zs M1).calm).bind fun ds M2 => .ok (.d (.list ds)) M2 else .bad) σ H Q) :
    tLc (iZ W S wx fI) (gT W S tg own) (tDT W S wx0 fc) (tD W S wx0 fe) own σ H Q := by
  obtain ⟨ι, ρ, M, rl, e⟩ := hq
  dsimp only at e
  refine ⟨ι, ρ, M, rl, e.step fun zs M1 ι1 J H1 ex m sv e1 => ?_⟩
  have sv : Sv W J ι1 H1 zs := sv
  have rl1 := rl.go ex m
  split at e1
  case isFalse => exact e1.elim
  rename_i hlen
  intro Dd hD
  generalize hr0 : ((lcL fc fe tg (wipeE ρ own) zs M1).calm.bind fun ds M2 => R.ok (Z.d (.list ds)) M2) = r0 at e1
  refine ⟨fun i m H2 => m = zs.length - i ∧ i ≤ zs.length ∧ ∃ ι2 M2 acc ds, Ext ι1 H1 ι2 H2 ∧ Dd ∈ ι2.ex ∧ Dd ∉ ι2.pl ∧ MI W ι2 H2 M2 ∧ H2 Dd = some (.lst acc) ∧ DenL W.K ι2 H2 acc ds ∧ ds.length ≤ i ∧
    ((lcL fc fe tg (wipeE ρ own) (zs.drop i) M2).calm.bind fun ds' M3 => R.ok (Z.d (.list (ds ++ ds'))) M3) = r0, ⟨zs.length, by simp, Nat.zero_le _, ι1.lock Dd, M1, [], [], Ext.lock hD, List.mem_cons_self, fun z => m.has Dd (.inl z) hD, m.lock nt_lst hD, upd_same, .nil, Nat.le_refl _, by simpa using hr0⟩, ?_⟩
  rintro i mm H2 ⟨rfl, hi2, ι2, M2, acc, ds, x2, d1, d2, m2, d3, l2, hl2, heq⟩
  by_cases hlt : i < zs.length
  case neg =>
    have e0 : i = zs.length := by omega
    refine .inl ⟨sv.stop i ι2 H2 x2 (by omega), ?_⟩
    rw [e0, List.drop_length] at heq
    have heq : R.ok (Z.d (.list (ds ++ []))) M2 = r0 := heq
    rw [← heq] at e1
    have hex : ∀ a ∈ ι1.ex, a ∈ ι2.ex := x2.exs
    refine e1 ⟨ι2.pl, ι1.ex⟩ _ H2 ⟨x2.suf, fun _ z => z, fun a o q t n z => by
      rcases z with z | z
      · exact (x2.keep a o q t fun w => n (.inl w)).1 z
      · exact n (.inr z), x2.keep⟩ (m2.anti rfl hex) (.d ?_)
    rw [List.append_nil]
    refine .lst ⟨fun z => ?_, d3⟩ (l2.anti fun a z => ?_)
    · rcases z with z | z
      · exact d2 z
      · exact m.has Dd (.inr z) hD
    · rcases z with z | z
      · exact .inl z
      · exact .inr (hex a z)
  case pos =>
    refine .inr ⟨sv.go i ι2 H2 x2 hlt, _, fun H' hH' => ⟨zs.length - (i + 1), by omega, hH'⟩, fun x H3 hy => ?_⟩
    obtain ⟨z, hz, dz, x3, hm3⟩ := sv.yld i ι2 H2 x H3 x2 m2.has hlt hy
    obtain ⟨d1', d2', d3'⟩ := x3.apart d1 d2 d3
    have m3 := hm3 _ m2
    have l3 := l2.mono x3
    have hdrop : zs.drop i = z :: zs.drop (i + 1) := by
      rw [List.drop_eq_getElem_cons hlt]
      congr 1
      have := List.getElem?_eq_getElem hlt
      rw [this] at hz
      exact Option.some.inj hz
    rw [hdrop] at heq
    have x13 := x2.trans x3
    have sr : SR W.K S ι2 H3 (wipe σ own) (wipeE ρ own) := (rl1.s.mono x13).wipe own
    cases hbt : bindT tg (wipeE ρ own) z with
    | none =>
      simp only [lcL, hbt, R.calm, R.bind] at heq
      rw [← heq] at e1
      exact e1.elim
    | some ρ1 =>
      refine ⟨ι2, wipeE ρ own, M2, z, ρ1, ⟨sr, m3⟩, dz, hbt, fun σ' sr' hw => ⟨by rw [hw, wipe_in fun _ h => h], ι2, ρ1, M2, ⟨sr', m3⟩, ?_⟩⟩
      simp only [lcL, hbt] at heq
      cases hcv : fc ρ1 M2 with
      | bad =>
        simp only [hcv, R.calm, R.bind] at heq
        rw [← heq] at e1
        exact e1.elim
      | ex x1 M4 =>
        simp only [hcv, R.calm, R.bind] at heq
        rw [← heq] at e1
        exact e1.elim
      | ok b M4 =>
        intro ι4 b' H4 x4 m4 hb'
        cases (show b' = b from hb')
        obtain ⟨e1', e2', e3'⟩ := x4.apart d1' d2' d3'
        have l4 := l3.mono x4
        have x14 := x13.trans x4
        simp only [hcv, R.bind] at heq
        cases b with
        | false =>
          rw [if_neg Bool.false_ne_true] at heq ⊢
          exact ⟨rfl, hlt, ι4, M4, acc, ds, x14, e1', e2', m4, e3', l4, by omega, heq⟩
        | true =>
          rw [if_pos rfl] at heq ⊢
          refine ⟨ι4, ρ1, M4, ⟨sr'.mono x4, m4⟩, ?_⟩
          cases hev : fe ρ1 M4 with
          | bad =>
            simp only [hev, R.calm, R.bind] at heq
            rw [← heq] at e1
            exact e1.elim
          | ex x1 M5 =>
            simp only [hev, R.calm, R.bind] at heq
            rw [← heq] at e1
            exact e1.elim
          | ok y M5 =>
            intro ι5 v5 H5 x5 m5 hv
            obtain ⟨f1, f2, f3⟩ := x5.apart e1' e2' e3'
            have l5 := l4.mono x5
            have x15 := x14.trans x5
            simp only [hev] at heq
            cases hv with
            | r _ =>
              simp only [R.calm, R.bind] at heq
              rw [← heq] at e1
              exact e1.elim
            | @d _ yd hv =>
              have hacc : acc.length < sizeLine := sl_lt (by rw [l5.length]; omega)
              refine ⟨acc, f3, hacc, rfl, hlt, ι5, M5, acc ++ [v5], ds ++ [yd], x15.touch hD, f1, f2, m5.touch f1 f2 f3, upd_same, (l5.append (.cons hv .nil)).touch (.inr f1), by simp; omega, ?_⟩
              rw [← heq]
              cases lcL fc fe tg (wipeE ρ own) (zs.drop (i + 1)) M5 <;> simp [R.calm, R.bind]
theorem j_lc (g : GX W G S k h cc X wx) {elt t it : Expr} {cs : List Expr} {scope : Scope} {pos : Pos} {own : List Nat} {tg : Tg} {fI : Env → Mem → R (List Z)} {fc : Env → Mem → R Bool} {fe : Env → Mem → R Z}
    (hi : Hh.PIM (MdH h) X t it (iZ W S wx fI)) (hb : blkC cc.N cc.sc scope (own.filterMap fun j => (cc.N[j]?).map fun n => (n, j)) = true) (ho : own.all (fun j => decide (j < cc.N.length)) = true) (htg : ∀ i ∈ tg.ids, i ∈ own) (hct : chkTg (blkCC cc scope) tg t = true)
    (hc : ∀ X', GX W G S k h (blkCC cc scope) X' wx0 → PTs X' cs (tDT W S wx0 fc)) (he : ∀ X', GX W G S k h (blkCC cc scope) X' wx0 → PE X' elt (tD W S wx0 fe)) (hs : ∀ x, foldedSetIterable it X.env x = pure x) :
    PE X (.ListComp elt [⟨t, it, cs, 0⟩] scope pos) (tD W S wx fun ρ M => (fI ρ M).bind fun zs M1 => if zs.length ≤ slen then ((lcL fc fe tg (wipeE ρ own) zs M1).calm).bind fun ds M2 => .ok (.d (.list ds)) M2 else .bad) := by
  have hown : (own.filterMap fun j => (cc.N[j]?).map fun n => (n, j)).map (·.2) = own := by
    clear hb htg
    induction own with
    | nil => rfl
    | cons j r ih =>
      rw [List.all_cons, Bool.and_eq_true] at ho
      have hj : j < cc.N.length := of_decide_eq_true ho.1
      rw [List.filterMap_cons, List.getElem?_eq_getElem hj]
      show j :: _ = _
      rw [ih ho.2]
  have hok : BlkOk X.N X.env.scope scope (own.filterMap fun j => (cc.N[j]?).map fun n => (n, j)) := by
    rw [g.eN, g.eS]
    exact blkOk_by hb
  have pe := Hh.lcM (md := MdH h) (pos := pos) (fun s H ce fp pins => g.mdh.blk s H scope ce fp pins) g.nd hi hok (fun s H C cl fp pins => g_tg (g.blk s H scope C cl fp pins) hct htg) (fun s H C cl fp pins => hc _ (g.blk s H scope C cl fp pins)) (fun s H C cl fp pins => he _ (g.blk s H scope C cl fp pins)) hs
  rw [hown] at pe
  exact pe.imp fun σ H Q hq => lc_rd hq
theorem pi_of {X : Cx} {tg iter : Expr} {wi : TI} (h : Hh.PIM (MdH false) X tg iter wi) : PI X tg iter wi :=
  ⟨fun pins s σ H RR I q => thn (h.run pins s σ H RR I q) fun v s1 h1 => thn h1 fun itv s2 hh => by
    obtain ⟨it, fp, tn, J, H', e, I', T, t0, hf, r⟩ := hh
    have md : ∀ Y : Cx, Y.calm = true → MdH false Y := fun Y c => ⟨fun _ => c, fun z => nomatch z⟩
    exact ⟨it, fp, tn, J, H', e, I', ⟨T.mem, T.obj, T.keep, fun Y a b c d => T.item Y a b c (md Y d), fun Y a b c d => T.done Y a b c (md Y d), T.self⟩, t0, hf, r⟩⟩
theorem GX.blk0 (g : GX W G S k false cc X wx) (s : Shared) (H : Hp) (scope : Scope) (C : Addr) (cl : List (Str × Addr)) (fp : List Addr) :
    GX W G S k false (blkCC cc scope) (X.blk s H scope (compEnvC scope cl C X.env) fp) wx0 where
  eP := g.eP
  eW := g.eW
  eK := g.eK
  eM := g.eM
  eB := g.eB
  eN := g.eN
  nd := g.nd
  eS := by
    show relS scope X.env.scope = relS scope cc.sc
    rw [g.eS]
  room := g.room
  calm := g.calm
  hot := fun e => nomatch e
  takes := fun _ _ x => by
    obtain ⟨_, _, _, _, _, _, _, _, _, _, _, _, _, _, _, _, z⟩ := x
    exact z.elim
  pass := PassesOwn.never
  st := fun e => nomatch e
  ok := g.ok
  calls := g.calls
  lam := fun e => nomatch e
  nx := g.nx
  fr := fun e => nomatch e
  xc := fun e => nomatch e
  xp := fun e => nomatch e
  xl := fun e => nomatch e
/-- x = [.. for ..], stored at once -/
theorem js_lc (g : GX W G S k false cc X wx) {elt t it : Expr} {cs : List Expr} {scope : Scope} {pos py spos : Pos} {own : List Nat} {tg : Tg} {i : Nat} {y : Str} {fI : Env → Mem → R (List Z)} {fc : Env → Mem → R Bool} {fe : Env → Mem → R Z}
    (hi : Hh.PIM (MdH false) X t it (iZ W S wx fI)) (hb : blkC cc.N cc.sc scope (own.filterMap fun j => (cc.N[j]?).map fun n => (n, j)) = true) (ho : own.all (fun j => decide (j < cc.N.length)) = true) (htg : ∀ i ∈ tg.ids, i ∈ own) (hct : chkTg (blkCC cc scope) tg t = true)
    (hc : ∀ X', GX W G S k false (blkCC cc scope) X' wx0 → PTs X' cs (tDT W S wx0 fc)) (he : ∀ X', GX W G S k false (blkCC cc scope) X' wx0 → PE X' elt (tD W S wx0 fe)) (hs : ∀ x, foldedSetIterable it X.env x = pure x)
    (hN : cc.N[i]? = some y) (hy : cc.sc.names.lookup y = some .local) (hk : cc.sc.kind = .function) (hl : (py.line == pos.line) = true) (hn : (scope.names.any fun p => p.1 == y && (p.2 == .local || p.2 == .cell)) = false) :
    PS X (.Assign [.Name y py] (.ListComp elt [⟨t, it, cs, 0⟩] scope pos) spos) (tAsg (tLc (iZ W S wx fI) (gT W S tg own) (tDT W S wx0 fc) (tD W S wx0 fe) own) (gName i)) := by
  have hown : (own.filterMap fun j => (cc.N[j]?).map fun n => (n, j)).map (·.2) = own := by
    clear hb htg
    induction own with
    | nil => rfl
    | cons j r ih =>
      rw [List.all_cons, Bool.and_eq_true] at ho
      have hj : j < cc.N.length := of_decide_eq_true ho.1
      rw [List.filterMap_cons, List.getElem?_eq_getElem hj]
      show j :: _ = _
      rw [ih ho.2]
  have hok : BlkOk X.N X.env.scope scope (own.filterMap fun j => (cc.N[j]?).map fun n => (n, j)) := by
    rw [g.eN, g.eS]
    exact blkOk_by hb
  have hys : X.env.scope.names.lookup y = some .local := by rw [g.eS]; exact hy
  have ps := ps_setLc (spos := spos) (pos := pos) (py := py) (g.calm rfl).1 g.nd (show X.N[i]? = some y by rw [g.eN]; exact hN) hys (sw_true (by rw [g.eS]; exact hk) hys hl hn) (pi_of hi) hok (fun s H C cl fp => g_tg (g.blk0 s H scope C cl fp) hct htg) (fun s H C cl fp => hc _ (g.blk0 s H scope C cl fp)) (fun s H C cl fp => he _ (g.blk0 s H scope C cl fp)) hs
  rw [hown] at ps
  exact ps
end
end Zt
namespace Zt
open PySem PySem.Spec PyProof.Rows L2
def EndS (W : Wd) (S : Sc) (wx : WX) (D : Ends) (ι : Io) (H : Hp) : O → Prop
  | .nx ρ' M' => ∀ ι' σ' H', Ext ι H ι' H' → Rl W S ι' σ' H' ρ' M' → D.nx σ' H'
  | .rt z M' => ∀ ι' v H', Ext ι H ι' H' → MI W ι' H' M' → DenZ W.K ι' H' v z → D.rt v H'
  | .ex e ρ' M' => ∀ ι' dx σ' H', Ext ι H ι' H' → Rl W S ι' σ' H' ρ' M' → ExF W.K ι' H' dx e.fs → wx (W.cv e.c) dx σ' H'
  | .bad => False
def tS (W : Wd) (S : Sc) (wx : WX) (f : Env → Mem → O) : TS := fun D σ H => ∃ ι ρ M, Rl W S ι σ H ρ M ∧ EndS W S wx D ι H (f ρ M)
section
variable {W : Wd} {S : Sc} {wx : WX} {D : Ends} {ι ι1 : Io} {H H1 : Hp} {o : O}
theorem EndS.mono (e : Ext ι H ι1 H1) (h : EndS W S wx D ι H o) : EndS W S wx D ι1 H1 o := by
  cases o with
  | nx ρ M => exact fun ι' σ' H' x => h ι' σ' H' (e.trans x)
  | rt z M => exact fun ι' v H' x => h ι' v H' (e.trans x)
  | ex x ρ M => exact fun ι' dx σ' H' x => h ι' dx σ' H' (e.trans x)
  | bad => exact h
/-- an expression first -/
theorem EndS.step {σ : St} {ρ : Env} {α β : Type} {rel : Io → Hp → β → α → Prop} {Gk : β → Hp → Prop} {r : R α} {f : α → Mem → O} (s : SR W.K S ι H σ ρ)
    (h : EndS W S wx D ι H (r.st ρ f)) (g : ∀ z M1 ι1 v1 H1, Ext ι H ι1 H1 → MI W ι1 H1 M1 → rel ι1 H1 v1 z → EndS W S wx D ι1 H1 (f z M1) → Gk v1 H1) : EndG W wx σ ι H rel Gk r := by
  cases r with
  | ok z M => exact fun ι1 v1 H1 ex m d => g z M ι1 v1 H1 ex m d (EndS.mono ex h)
  | ex x M => exact fun ι' dx H' ex m xf => h ι' dx σ H' ex ⟨s.mono ex, m⟩ xf
  | bad => exact h
/-- one statement, then what f makes of it -/
theorem EndS.bind {f : Env → Mem → O} (h : EndS W S wx D ι H (o.bind f)) {N : St → Hp → Prop} (g : ∀ ρ' M' ι' σ' H', o = .nx ρ' M' → Ext ι H ι' H' → Rl W S ι' σ' H' ρ' M' → EndS W S wx D ι' H' (f ρ' M') → N σ' H') {bk ct : St → Hp → Prop} :
    EndS W S wx { D with nx := N, bk := bk, ct := ct } ι H o := by
  cases o with
  | nx ρ M => exact fun ι' σ' H' x rl => g ρ M ι' σ' H' rfl x rl (EndS.mono x h)
  | rt z M => exact h
  | ex x ρ M => exact h
  | bad => exact h
end
section
variable {W : Wd} {G : Stat} {S : Sc} {k : Nat} {h : Bool} {cc : CC} {X : Cx} {wx : WX}
theorem js_asg (g : GX W G S k h cc X wx) {t : Tg} {y z : Expr} {f : Env → Mem → R Z} {pos : Pos} (hz : PE X z (tD W S wx f)) (hc : chkTg cc t y = true) (hs : swapsWithSole [y] z pos.line X.env = pure false) (hw : swappedStores [y] z X.env = pure none) :
    PS X (.Assign [y] z pos) (tS W S wx fun ρ M => (f ρ M).st ρ fun z M1 => match bindT t ρ z with
    | some ρ1 => .nx ρ1 M1
    | none => .bad) := by
  have h1 : (assignEach [y] X.env).map (·.2) = [assign y X.env] := by
    cases t with
    | nm i =>
      cases y <;> first | rfl | cases hc
    | tp is =>
      cases y <;> first | rfl | cases hc
  refine (ps_asg hz (g_tg g hc (ns := t.ids) fun _ h => h) hs hw h1).imp fun D σ H hq => ?_
  obtain ⟨ι, ρ, M, rl, e⟩ := hq
  dsimp only at e
  refine ⟨ι, ρ, M, rl, EndS.step rl.s e fun z M1 ι1 v1 H1 ex m d e1 => ?_⟩
  cases hb : bindT t ρ z with
  | none => rw [hb] at e1; exact e1.elim
  | some ρ1 =>
    rw [hb] at e1
    exact ⟨ι1, ρ, M1, z, ρ1, rl.go ex m, d, hb, fun σ' sr _ => e1 ι1 σ' H1 (Ext.refl _ _) ⟨sr, m⟩⟩
theorem js_ex {y : Expr} {f : Env → Mem → R Z} {pos : Pos} (hy : PE X y (tD W S wx f)) (hs : swapsWith y none pos.line X.env = pure false) : PS X (.Expr y pos) (tS W S wx fun ρ M => (f ρ M).st ρ fun _ M1 => .nx ρ M1) := by
  refine (ps_expr hy hs).imp fun D σ H hq => ?_
  obtain ⟨ι, ρ, M, rl, e⟩ := hq
  dsimp only at e
  exact ⟨ι, ρ, M, rl, EndS.step rl.s e fun z M1 ι1 v1 H1 ex m d e1 => e1 ι1 σ H1 (Ext.refl _ _) (rl.go ex m)⟩
theorem js_ret {y : Expr} {f : Env → Mem → R Z} {pos : Pos} (hy : PE X y (tD W S wx f)) : PS X (.Return (some y) pos) (tS W S wx fun ρ M => (f ρ M).st ρ fun z M1 => .rt z M1) := by
  refine (ps_ret hy).imp fun D σ H hq => ?_
  obtain ⟨ι, ρ, M, rl, e⟩ := hq
  dsimp only at e
  exact ⟨ι, ρ, M, rl, EndS.step rl.s e fun z M1 ι1 v1 H1 ex m d e1 => e1 ι1 v1 H1 (Ext.refl _ _) m d⟩
theorem js_retN {pos : Pos} : PS X (.Return none pos) (tS W S wx fun ρ M => (R.ok (Z.d .none) M).st ρ fun z M1 => .rt z M1) := by
  refine (ps_retN (X := X) (pos := pos)).imp fun D σ H hq => ?_
  obtain ⟨ι, ρ, M, rl, e⟩ := hq
  exact e ι .non H (Ext.refl _ _) rl.m (.d .non)
theorem js_if {c : Expr} {a b : List Stmt} {fc : Env → Mem → R Bool} {fa fb : Env → Mem → O} {pos : Pos} (hc : PT X c (tDT W S wx fc)) (ha : PSs X a (tS W S wx fa)) (hb : PSs X b (tS W S wx fb)) :
    PS X (.If c a b pos) (tS W S wx fun ρ M => (fc ρ M).st ρ fun k M1 => if k then fa ρ M1 else fb ρ M1) := by
  refine (ps_if hc ha hb).imp fun D σ H hq => ?_
  obtain ⟨ι, ρ, M, rl, e⟩ := hq
  dsimp only at e
  refine ⟨ι, ρ, M, rl, EndS.step rl.s e fun z M1 ι1 v1 H1 ex m d e1 => ?_⟩
  cases (show v1 = z from d)
  cases z with
  | true => exact ⟨ι1, ρ, M1, rl.go ex m, e1⟩
  | false => exact ⟨ι1, ρ, M1, rl.go ex m, e1⟩
theorem js_nil : PSs X [] (tS W S wx fun ρ M => .nx ρ M) := pss_nil.imp fun D σ H hq => by
  obtain ⟨ι, ρ, M, rl, e⟩ := hq
  exact e ι σ H (Ext.refl _ _) rl
theorem js_cons {s : Stmt} {r : List Stmt} {f u : Env → Mem → O} (hs : PS X s (tS W S wx f)) (hr : PSs X r (tS W S wx u)) : PSs X (s :: r) (tS W S wx fun ρ M => (f ρ M).bind fun ρ1 M1 => u ρ1 M1) := by
  refine (pss_cons hs hr).imp fun D σ H hq => ?_
  obtain ⟨ι, ρ, M, rl, e⟩ := hq
  exact ⟨ι, ρ, M, rl, EndS.bind e fun ρ' M' ι' σ' H' _ x rl' e' => ⟨ι', ρ', M', rl', e'⟩⟩
theorem js_pass {pos : Pos} : PS X (.Pass pos) (tS W S wx fun ρ M => .nx ρ M) := (ps_pass (X := X) (pos := pos)).imp fun D σ H hq => by
  obtain ⟨ι, ρ, M, rl, e⟩ := hq
  exact e ι σ H (Ext.refl _ _) rl
theorem js_while (g : GX W G S k h cc X wx) {c : Expr} {b : List Stmt} {fc : Env → Mem → R Bool} {fb : Env → Mem → O} {pos : Pos} {n : Nat} (hc : PT X c (tDT W S wx fc)) (hb : PSs X b (tS W S wx fb)) :
    PS X (.While c b [] pos) (tS W S wx fun ρ M => whL fc fb n ρ M) := by
  refine (ps_while g.pass hc hb).imp fun D σ H hq => ?_
  obtain ⟨ι, ρ, M, rl, e⟩ := hq
  refine ⟨fun m σ H => ∃ ι ρ M, Rl W S ι σ H ρ M ∧ EndS W S wx D ι H (whL fc fb m ρ M), ⟨n, ι, ρ, M, rl, e⟩, ?_⟩
  rintro m σ H ⟨ι, ρ, M, rl, e⟩
  cases m with
  | zero => exact e.elim
  | succ m =>
    refine ⟨ι, ρ, M, rl, EndS.step rl.s e fun z M1 ι1 v1 H1 ex m1 d e1 => ?_⟩
    cases (show v1 = z from d)
    cases z with
    | true =>
      rw [if_pos rfl]
      exact ⟨_, fun σ' H' h' => ⟨m, Nat.lt_succ_self m, h'⟩, ι1, ρ, M1, rl.go ex m1, EndS.bind (bk := D.nx) e1 fun ρ' M' ι' σ' H' _ x rl' e' => ⟨ι', ρ', M', rl', e'⟩⟩
    | false => exact e1 ι1 σ H1 (Ext.refl _ _) (rl.go ex m1)
theorem js_for (g : GX W G S k h cc X wx) {t : Tg} {y it : Expr} {b : List Stmt} {fI : Env → Mem → R (List Z)} {fb : Env → Mem → O} {pos : Pos} (hi : Hh.PIM (MdH h) X y it (iZ W S wx fI)) (hc : chkTg cc t y = true) (hb : PSs X b (tS W S wx fb))
    (hs : ∀ x, foldedSetIterable it X.env x = pure x) : PS X (.For y it b [] pos) (tS W S wx fun ρ M => (fI ρ M).st ρ fun zs M1 => forL fb t zs ρ M1) := by
  refine (Hh.ps_forM g.pass g.mdh hi (g_tg g hc (ns := t.ids) fun _ h => h) hb hs).imp fun D σ H hq => ?_
  obtain ⟨ι, ρ, M, rl, e⟩ := hq
  dsimp only at e
  refine ⟨ι, ρ, M, rl, EndS.step rl.s e fun zs M1 ι1 J H1 ex m sv e1 => ?_⟩
  have sv : Sv W J ι1 H1 zs := sv
  refine ⟨fun i m σ H => m = zs.length - i ∧ i ≤ zs.length ∧ ∃ ι ρ M, Ext ι1 H1 ι H ∧ Rl W S ι σ H ρ M ∧ EndS W S wx D ι H (forL fb t (zs.drop i) ρ M), ⟨zs.length, by simp, Nat.zero_le _, ι1, ρ, M1, Ext.refl _ _, rl.go ex m, by simpa using e1⟩, ?_⟩
  rintro i mm σ2 H2 ⟨rfl, hi2, ι2, ρ2, M2, x2, rl2, e2⟩
  by_cases hlt : i < zs.length
  case neg =>
    have e0 : i = zs.length := by omega
    refine .inl ⟨sv.stop i ι2 H2 x2 (by omega), ?_⟩
    rw [e0, List.drop_length] at e2
    exact e2 ι2 σ2 H2 (Ext.refl _ _) rl2
  case pos =>
    refine .inr ⟨sv.go i ι2 H2 x2 hlt, _, fun σ' H' hH' => ⟨zs.length - (i + 1), by omega, hH'⟩, fun x H3 hy => ?_⟩
    obtain ⟨z, hz, dz, x3, hm3⟩ := sv.yld i ι2 H2 x H3 x2 rl2.m.has hlt hy
    have hdrop : zs.drop i = z :: zs.drop (i + 1) := by
      rw [List.drop_eq_getElem_cons hlt]
      congr 1
      have := List.getElem?_eq_getElem hlt
      rw [this] at hz
      exact Option.some.inj hz
    rw [hdrop] at e2
    have e2 := EndS.mono x3 e2
    have rl3 := rl2.go x3 (hm3 _ rl2.m)
    cases hbt : bindT t ρ2 z with
    | none =>
      simp only [forL, hbt] at e2
      exact e2.elim
    | some ρ3 =>
      simp only [forL, hbt] at e2
      exact ⟨ι2, ρ2, M2, z, ρ3, rl3, dz, hbt, fun σ' sr _ => ⟨ι2, ρ3, M2, ⟨sr, rl3.m⟩, EndS.bind (bk := D.nx) e2 fun ρ' M' ι' σ' H' _ x rl' e' => ⟨rfl, hlt, ι', ρ', M', (x2.trans x3).trans x, rl', e'⟩⟩⟩
/-- a walk over a changeable list -/
theorem js_forR (g : GX W G S k h cc X wx) {t : Tg} {y it : Expr} {b : List Stmt} {fo : Env → Mem → R Z} {fb : Env → Mem → O} {pos : Pos} (he : PE X it (tD W S wx fo)) (hc : chkTg cc t y = true) (hb : PSs X b (tS W S wx fb))
    (hs : ∀ x, foldedSetIterable it X.env x = pure x) : PS X (.For y it b [] pos) (tS W S wx fun ρ M => (fo ρ M).st ρ fun z M1 => match z with
      | .r n => match getL M1 n with
        | some ds => forRL fb t n (ds.length + 1) 0 ρ M1
        | none => .bad
      | .d _ => .bad) := by
  have hi : Hh.PIM (MdH h) X y it (fun σ H RR => tD W S wx fo σ H fun v H1 => ∃ a xs, v = .ref a ∧ H1 a = some (.lst xs) ∧ RR (Itl X.K a) H1) := ⟨fun pins s σ H RR I q => by
    refine thn (he.run pins s σ H _ I q) fun v s1 hh => ?_
    obtain ⟨x, H1, I1, r1, a, xs, ex, ha, rr⟩ := hh
    subst ex
    cases r1
    exact thn (pit_list I1 (.inl (.inl ha)) rr) fun v s2 z => piem_weak z fun _ => MdH.md⟩
  refine (Hh.ps_forM g.pass g.mdh hi (g_tg g hc (ns := t.ids) fun _ h => h) hb hs).imp fun D σ H hq => ?_
  obtain ⟨ι, ρ, M, rl, e⟩ := hq
  dsimp only at e
  refine ⟨ι, ρ, M, rl, EndS.step rl.s e fun z M1 ι1 v H1 ex m dz e1 => ?_⟩
  cases dz with
  | d _ => exact e1.elim
  | @r n a hp =>
    dsimp only at e1
    cases gl : getL M1 n with
    | none => rw [gl] at e1; exact e1.elim
    | some ds =>
      rw [gl] at e1
      dsimp only at e1
      have cell : ∀ {M2 : Mem} {es : List Zt.D}, getL M2 n = some es → M2[n]? = some (.lst es) := fun {M2 es} q => by
        unfold getL at q
        split at q
        · cases q; assumption
        · cases q
      obtain ⟨xs0, hx0, _⟩ := m.m.at (cell gl) hp
      refine ⟨a, xs0, rfl, hx0, ?_⟩
      rw [g.eK]
      refine ⟨fun i m σ H => ∃ ι ρ M, Ext ι1 H1 ι H ∧ Rl W S ι σ H ρ M ∧ EndS W S wx D ι H (forRL fb t n m i ρ M), ⟨ds.length + 1, ι1, ρ, M1, Ext.refl _ _, rl.go ex m, e1⟩, ?_⟩
      rintro i mm σ2 H2 ⟨ι2, ρ2, M2, x2, rl2, e2⟩
      cases mm with
      | zero => exact e2.elim
      | succ mm =>
        simp only [forRL] at e2
        cases gl2 : getL M2 n with
        | none => rw [gl2] at e2; exact e2.elim
        | some es =>
          rw [gl2] at e2
          dsimp only at e2
          obtain ⟨xs, hx, lx⟩ := rl2.m.m.at (cell gl2) (x2.at hp)
          have sq : SqL W.K H2 a xs := .inl (.inl hx)
          cases ge : es[i]? with
          | none =>
            rw [ge] at e2
            refine .inl ⟨⟨xs, sq, ?_⟩, e2 ι2 σ2 H2 (Ext.refl _ _) rl2⟩
            rw [lx.length]
            exact List.getElem?_eq_none_iff.mp ge
          | some d =>
            rw [ge] at e2
            dsimp only at e2
            have hlt : i < xs.length := by
              rw [lx.length]
              exact (List.getElem?_eq_some_iff.mp ge).1
            refine .inr ⟨⟨xs, xs[i], sq, List.getElem?_eq_getElem hlt⟩, _, fun σ' H' hH' => ⟨mm, Nat.lt_succ_self _, hH'⟩, fun x H3 hy => ?_⟩
            obtain ⟨eH, hxi⟩ := hy
            subst eH
            obtain ⟨d', hd', dx⟩ := lx.get' (hxi xs sq)
            rw [ge] at hd'
            cases hd'
            cases hbt : bindT t ρ2 (.d d) with
            | none => rw [hbt] at e2; exact e2.elim
            | some ρ3 =>
              rw [hbt] at e2
              dsimp only at e2
              exact ⟨ι2, ρ2, M2, .d d, ρ3, rl2, .d dx, hbt, fun σ' sr _ => ⟨ι2, ρ3, M2, ⟨sr, rl2.m⟩, EndS.bind (bk := D.nx) e2 fun ρ' M' ι' σ' H' _ x rl' e' => ⟨ι', ρ', M', x2.trans x, rl', e'⟩⟩⟩
/-- .. a comprehension -/
theorem js_asgL (g : GX W G S k false cc X wx) {i : Nat} {st : Stmt} {f : Env → Mem → R Z} {t : TE} (hps : PS X st (tAsg t (gName i))) (ht : ∀ σ H Q, tD W S wx f σ H Q → t σ H Q) :
    PS X st (tS W S wx fun ρ M => (f ρ M).st ρ fun z M1 => .nx (ρ.set i (.z z)) M1) := by
  refine hps.imp fun D σ H hq => ?_
  obtain ⟨ι, ρ, M, rl, e⟩ := hq
  dsimp only at e
  exact ht σ H _ ⟨ι, ρ, M, rl, EndS.step rl.s e fun z M1 ι1 v H1 ex m dz e1 => e1 ι1 _ H1 (Ext.refl _ _) ⟨((rl.go ex m).s).set i dz, m⟩⟩
theorem js_setI (g : GX W G S k h cc X wx) {o i u : Expr} {fo fi fu : Env → Mem → R Z} {p pos : Pos} (ho : PE X o (tD W S wx fo)) (hi : PE X i (tD W S wx fi)) (hu : PE X u (tD W S wx fu)) (hsl : notSlice i = true) (hs : swapsWithSole [.Subscript o i p] u pos.line X.env = pure false) (hw : swappedStores [.Subscript o i p] u X.env = pure none) :
    PS X (.Assign [.Subscript o i p] u pos) (tS W S wx fun ρ M => (fu ρ M).st ρ fun z M1 => (fo ρ M1).st ρ fun x M2 => (fi ρ M2).st ρ fun y M3 => match z, x, y with
    | .d d, .r n, .d (.int j) => match M3[n]? with
      | some (.lst xs) => match L2.ixN xs.length j with
        | some k => .nx ρ (M3.set n (.lst (xs.set k d)))
        | none => .bad
      | _ => .bad
    | _, _, _ => .bad) := by
  refine (ps_asg hu (pg_sub ho hi set_list (by intro v; cases i <;> first | rfl | cases hsl)) hs hw rfl).imp fun D σ H hq => ?_
  obtain ⟨ι, ρ, M, rl, e⟩ := hq
  dsimp only at e
  refine ⟨ι, ρ, M, rl, EndS.step rl.s e fun z M1 ι1 v1 H1 ex m d e1 => ?_⟩
  have rl1 := rl.go ex m
  refine ⟨ι1, ρ, M1, rl1, EndS.step rl1.s e1 fun x M2 ι2 v2 H2 ex2 m2 d2 e2 => ?_⟩
  have rl2 := rl1.go ex2 m2
  refine ⟨ι2, ρ, M2, rl2, EndS.step rl2.s e2 fun y M3 ι3 v3 H3 ex3 m3 d3 e3 => ?_⟩
  have rl3 := rl2.go ex3 m3
  have d' := (d.mono ex2).mono ex3
  have d2' := d2.mono ex3
  split at e3
  case h_2 => exact e3.elim
  rename_i dv n j
  cases d' with
  | d d' =>
  cases d2' with
  | @r _ a ha =>
  cases d3 with
  | d d3 =>
  cases d3
  split at e3
  case h_2 => exact e3.elim
  rename_i xs hM
  split at e3
  case h_2 => exact e3.elim
  rename_i kx hk
  obtain ⟨ys, q1, l⟩ := m3.cell hM ha
  exact ⟨a, ys, j, kx, rfl, rfl, q1, by rw [l.length]; exact hk, e3 ι3 σ _ (Ext.wr (List.mem_of_getElem? ha) q1) ⟨rl3.s.mono (Ext.wr (List.mem_of_getElem? ha) q1), m3.wr ha q1 (l.set kx d')⟩⟩
end
end Zt
namespace Zt
open PySem PySem.Spec PyProof.Rows L2
section
variable {W : Wd} {G : Stat} {S : Sc} {k : Nat} {h : Bool} {cc : CC} {X : Cx} {wx : WX}
theorem parName_inv {line i : Nat} {e : Expr} (h : parName cc line (i, e) = true) : ∃ x q, e = .Name x q ∧ cc.N[i]? = some x ∧ cc.sc.names.lookup x = some .local ∧ (q.line == line) = true := by
  cases e with
  | Name x q =>
    have h : (decide (cc.N[i]? = some x) && decide (cc.sc.names.lookup x = some .local) && (q.line == line)) = true := h
    rw [Bool.and_eq_true, Bool.and_eq_true] at h
    exact ⟨x, q, rfl, of_decide_eq_true h.1.1, of_decide_eq_true h.1.2, h.2⟩
  | _ => cases h
theorem len2 {α : Type} : ∀ {xs : List α}, xs.length = 2 → ∃ a b, xs = [a, b]
  | [a, b], _ => ⟨a, b, rfl⟩
  | [], h => nomatch h
  | [_], h => nomatch h
  | _ :: _ :: _ :: _, h => by simp at h
theorem len3 {α : Type} : ∀ {xs : List α}, xs.length = 3 → ∃ a b c, xs = [a, b, c]
  | [a, b, c], _ => ⟨a, b, c, rfl⟩
  | [], h => nomatch h
  | [_], h => nomatch h
  | [_, _], h => nomatch h
  | _ :: _ :: _ :: _ :: _, h => by simp at h
theorem kind_x {env : PySem.Env} (hs : env.scope = cc.sc) {x : Str} (h : cc.sc.names.lookup x = some .local) : (env.kindOf x == some .local) = true := by
  have hk : env.kindOf x = some .local := by
    show env.scope.names.lookup x = _
    rw [hs]
    exact h
  rw [hk]
  rfl
theorem sw_par {env : PySem.Env} (hs : env.scope = cc.sc) (hk : env.scope.kind = .function) {is : List Nat} {ts vs : List Expr} {kt k2 : Nat} {pt p2 : Pos} (hc : parOk cc is ts vs = true) :
    swappedStores [.Tuple ts kt pt] (.Tuple vs k2 p2) env = pure (some (ts.map nameOf)) := by
  unfold parOk at hc
  simp only [Bool.and_eq_true, Bool.not_eq_true'] at hc
  obtain ⟨⟨⟨⟨⟨⟨⟨h1, h2⟩, h3⟩, h4⟩, h5⟩, h6⟩, h7⟩, h8⟩ := hc
  have hb : env.blockKind = .function := by unfold Env.blockKind; rw [hk] <;> rfl
  have hv : ∀ (b : Bool), (vs.any fun | .Starred .. => true | _ => false) = b → b = false := fun b e => by
    rw [← e, List.any_eq_false]
    intro y hy
    have q := List.all_eq_true.mp h4 y hy
    cases y <;> first | exact Bool.false_ne_true | cases q
  have hl : is.length = ts.length := by simpa using h3
  have h2' : vs.length = ts.length := by simpa using h2
  rw [Bool.or_eq_true] at h1
  unfold swappedStores
  dsimp only
  rcases h1 with h1 | h1
  · have e2 : ts.length = 2 := by simpa using h1
    obtain ⟨a, b, rfl⟩ := len2 e2
    obtain ⟨i, j, rfl⟩ := len2 (hl.trans e2)
    · simp only [List.zip_cons_cons, List.zip_nil_right, List.all_cons, List.all_nil, Bool.and_eq_true] at h7
      obtain ⟨x, q, rfl, g1, g2, g3⟩ := parName_inv h7.1
      obtain ⟨y, r, rfl, g4, g5, g6⟩ := parName_inv h7.2.1
      simp only [List.head?_cons, Option.map_some, Option.getD_some] at g3 g6
      have h8 : ([x, y].eraseDups.length == 2) = true := h8
      have h8 : [x, y].eraseDups.length = 2 := by simpa using h8
      rw [if_neg (by simp [hb, h2'])]
      split
      · rename_i z
        exact absurd (hv true z) (fun z => nomatch z)
      simp only [List.filterMap_cons, List.filterMap_nil, kind_x hs g2, kind_x hs g5, g3, g6, Bool.and_self, if_true, List.head?_cons, Option.map_some, Option.getD_some, h5, h6, pure_bind, List.length_cons, List.length_nil, h8]
      rfl
  · have e2 : ts.length = 3 := by simpa using h1
    obtain ⟨a, b, c, rfl⟩ := len3 e2
    obtain ⟨i, j, l, rfl⟩ := len3 (hl.trans e2)
    · simp only [List.zip_cons_cons, List.zip_nil_right, List.all_cons, List.all_nil, Bool.and_eq_true] at h7
      obtain ⟨x, q, rfl, g1, g2, g3⟩ := parName_inv h7.1
      obtain ⟨y, r, rfl, g4, g5, g6⟩ := parName_inv h7.2.1
      obtain ⟨w, t, rfl, g7, g8, g9⟩ := parName_inv h7.2.2.1
      simp only [List.head?_cons, Option.map_some, Option.getD_some] at g3 g6 g9
      have h8 : ([x, y, w].eraseDups.length == 3) = true := h8
      have h8 : [x, y, w].eraseDups.length = 3 := by simpa using h8
      rw [if_neg (by simp [hb, h2'])]
      split
      · rename_i z
        exact absurd (hv true z) (fun z => nomatch z)
      simp only [List.filterMap_cons, List.filterMap_nil, kind_x hs g2, kind_x hs g5, kind_x hs g8, g3, g6, g9, Bool.and_self, if_true, List.head?_cons, Option.map_some, Option.getD_some, h5, h6, pure_bind, List.length_cons, List.length_nil, h8]
      rfl
theorem unpackM (hm : Hh.Md X) {pins : List (Addr × Obj)} {σ : St} {H : Hp} {s : Shared} {t : Addr} {items : Array Value} {Q : List Value → Shared → Prop} {E : Value → Shared → Prop} (I : Inv X pins σ H s) (ht : IsTup s.heap t items)
    (hQ : ∀ g, Inv X pins σ H { s with heap := g } → Q items.toList { s with heap := g }) : wpAny (model X.prog X.w) X.A (unpackItems (.ref t) items.size none) Q E s := by
  rcases hm with hc | ⟨p, ⟨hh, vs, e2, c1⟩, hp⟩
  · exact unpackItems_tuple (items := items) (I.ok.hd hc) ht fun h' hx' => hQ h' (I.kept (t' := s.toks) fun b o e => hx' b o (Nat.ne_of_lt (Heap.lt_size e)) e)
  · have hp' : p ∈ X.pn ++ pins := List.mem_append_left _ hp
    exact Hh.parts_hot (x1 := p.1) ⟨hh, p.2, vs, (I.pin p hp').1, e2, c1⟩ ht fun h' hx' => hQ h' (I.kept (t' := s.toks) fun b o e => hx' b o (Nat.ne_of_lt (Heap.lt_size e)) e)
theorem assign_names (hN : X.N.Nodup) : ∀ {is : List Nat} {ns : List Str} {us : List Value} {vs : List V} {pins : List (Addr × Obj)} {σ : St} {H : Hp} {s : Shared} {Q : Unit → Shared → Prop}, is.length = ns.length → vs.length = is.length →
    (∀ p ∈ is.zip ns, X.N[p.1]? = some p.2 ∧ X.env.scope.names.lookup p.2 = some .local) → Inv X pins σ H s → Vals vs us → (∀ s', Inv X pins (setσ σ is vs) H s' → Q () s') →
    wpAny (model X.prog X.w) X.A (assignInOrder (ns.map fun n => fun v => bindName X.env n v) us) Q X.xe s
  | [], [], us, vs, pins, σ, H, s, Q, _, hl, _, I, r, hQ => by
    have : vs = [] := List.length_eq_zero_iff.mp hl
    subst this
    cases r
    exact assignInOrder_nil (hQ s I)
  | i :: is, n :: ns, us, vs, pins, σ, H, s, Q, h1, h2, h3, I, r, hQ => by
    cases r with
    | nil => cases h2
    | cons rv rr =>
      obtain ⟨g1, g2⟩ := h3 (i, n) (by simp)
      exact assignInOrder_cons (wpAny_bindName (store_ok I hN g1 (.inl g2) rv (fun s2 I2 => assign_names hN (Nat.succ.inj h1) (Nat.succ.inj h2) (fun p hp => h3 p (by
        rw [List.zip_cons_cons]
        exact List.mem_cons_of_mem _ hp)) I2 rr hQ) (.inr g2)))
  | [], _ :: _, _, _, _, _, _, _, _, h1, _, _, _, _, _ => nomatch h1
  | _ :: _, [], _, _, _, _, _, _, _, h1, _, _, _, _, _ => nomatch h1
theorem sr_setZ {K : PySem.W.Frag} {ι : Io} {H : Hp} : ∀ {is : List Nat} {vs : List V} {zs : List Z} {σ : St} {ρ : Env}, SR K S ι H σ ρ → DenZL K ι H vs zs → SR K S ι H (setσ σ is vs) (setZ ρ is zs)
  | [], _, [], σ, ρ, s, .nil => s
  | [], _, _, σ, ρ, s, .cons _ _ => s
  | i :: is, _, [], σ, ρ, s, .nil => s
  | i :: is, _, _, σ, ρ, s, .cons (v := v) (d := z) d l => by
    show SR K S ι H (setσ (σ.set i (some v)) is _) (setZ (ρ.set i (.z z)) is _)
    exact sr_setZ (s.set i d) l
theorem DenZL.append {K : PySem.W.Frag} {ι : Io} {H : Hp} : ∀ {vs ws : List V} {zs ys : List Z}, DenZL K ι H vs zs → DenZL K ι H ws ys → DenZL K ι H (vs ++ ws) (zs ++ ys)
  | _, _, _, _, .nil, l => l
  | _, _, _, _, .cons h r, l => .cons h (DenZL.append r l)
theorem DenZL.reverse {K : PySem.W.Frag} {ι : Io} {H : Hp} : ∀ {vs : List V} {zs : List Z}, DenZL K ι H vs zs → DenZL K ι H vs.reverse zs.reverse
  | _, _, .nil => .nil
  | _, _, .cons h r => by
    rw [List.reverse_cons, List.reverse_cons]
    exact DenZL.append (DenZL.reverse r) (.cons h .nil)
theorem zip_par {line : Nat} : ∀ {is : List Nat} {ts : List Expr}, (is.zip ts).all (parName cc line) = true → ∀ p ∈ is.zip (ts.map nameOf), cc.N[p.1]? = some p.2 ∧ cc.sc.names.lookup p.2 = some .local
  | [], _, _, p, hp => by simp at hp
  | _ :: _, [], _, p, hp => by simp at hp
  | i :: is, t :: ts, h, p, hp => by
    rw [List.zip_cons_cons, List.all_cons, Bool.and_eq_true] at h
    rw [List.map_cons, List.zip_cons_cons] at hp
    rcases List.mem_cons.mp hp with e | e
    · obtain ⟨x, q, rfl, h1, h2, _⟩ := parName_inv h.1
      rw [e]
      exact ⟨h1, h2⟩
    · exact zip_par h.2 p e
theorem zip_rev {α β : Type} {xs : List α} {ys : List β} (h : xs.length = ys.length) : xs.reverse.zip ys.reverse = (xs.zip ys).reverse := by
  rw [List.zip_eq_zipWith, List.zip_eq_zipWith, List.reverse_zipWith h]
theorem js_par (g : GX W G S k h cc X wx) {is : List Nat} {ts vs : List Expr} {r : Env → Mem → R (List Z)} {kt k2 : Nat} {pt p2 pos : Pos} (hr : PA X vs (tDs W S wx r)) (hc : parOk cc is ts vs = true) :
    PS X (.Assign [.Tuple ts kt pt] (.Tuple vs k2 p2) pos) (tS W S wx fun ρ M => (r ρ M).st ρ fun zs M1 => if zs.length = is.length then .nx (setZ ρ is.reverse zs.reverse) M1 else .bad) := by
  refine ⟨fun pins s σ H D I hq => ?_⟩
  obtain ⟨ι, ρ, M, rl, e⟩ := hq
  dsimp only at e
  have hw : swappedStores [.Tuple ts kt pt] (.Tuple vs k2 p2) X.env = pure (some (ts.map nameOf)) := sw_par g.eS I.ok.kind hc
  rw [exec_Assign_arm]
  refine wpAny_bind (wpAny_standAt ?_)
  rw [show swapsWithSole [.Tuple ts kt pt] (.Tuple vs k2 p2) pos.line X.env = pure false from rfl]
  refine wpAny_bind (wpAny_pure ?_)
  rw [if_neg (by decide)]
  refine wpAny_bind (Tuple_ (thn (hr.run _ pins s σ H _ I ⟨ι, ρ, M, rl, EndS.step rl.s e fun z M1 ι1 v1 H1 ex m d e1 => show ∃ ι1 zs M1, Rl W S ι1 σ H1 ρ M1 ∧ DenZL W.K ι1 H1 v1 zs ∧ EndS W S wx D ι1 H1 (if zs.length = is.length then .nx (setZ ρ is.reverse zs.reverse) M1 else .bad) from ⟨ι1, z, M1, rl.go ex m, d, e1⟩⟩) fun us s1 ⟨vs', H1, I1, r1, q1⟩ => ?_))
  obtain ⟨ι1, zs, M1, rl1, d, e1⟩ := q1
  split at e1
  case isFalse => exact e1.elim
  rename_i hlen
  unfold parOk at hc
  simp only [Bool.and_eq_true, Bool.not_eq_true'] at hc
  obtain ⟨⟨⟨⟨⟨⟨⟨h1, h2⟩, h3⟩, h4⟩, h5⟩, h6⟩, h7⟩, h8⟩ := hc
  have hl : is.length = ts.length := by simpa using h3
  have hus : us.length = (ts.map nameOf).length := by rw [← r1.length, d.length, hlen, hl, List.length_map]
  have hsz : us.length ≤ sizeLine := by
    rw [hus, List.length_map]
    rw [Bool.or_eq_true] at h1
    rcases h1 with z | z
    · rw [show ts.length = 2 by simpa using z]; decide
    · rw [show ts.length = 3 by simpa using z]; decide
  refine wpAny_newObj_type ?_ (by show us.toArray.size ≤ sizeLine; simpa using hsz)
  have I2 : Inv X pins σ H1 { s1 with heap := s1.heap.push { cls := .type "tuple", data := .seq us.toArray } } := I1.kept (t' := s1.toks) fun b o e => Heap.get?_push_of_some _ e
  rw [hw]
  refine wpAny_bind (wpAny_pure ?_)
  show wpAny (model X.prog X.w) X.A (do rule "assign.swapped-stores"; let items ← unpackItems (.ref s1.heap.objs.size) (ts.map nameOf).length none; assignInOrder ((ts.map nameOf).reverse.map fun n => bindName X.env n) items.reverse; pure Flow.next) _ _ _
  rw [show (ts.map nameOf).length = us.toArray.size by simpa using hus.symm]
  refine wpAny_bind (wpAny_rule (wpAny_bind (unpackM g.mdh.md I2 (IsTup.new s1.heap _) fun h' I3 => ?_)))
  refine wpAny_bind (assign_names g.nd (is := is.reverse) (vs := vs'.reverse) (by simp [hl]) (by simp [d.length, hlen]) (fun p hp => ?_) I3 (by simpa using r1.reverse) fun s4 I4 => wpAny_pure ?_)
  · rw [zip_rev (by simp [hl])] at hp
    obtain ⟨a1, a2⟩ := zip_par h7 p (List.mem_reverse.mp hp)
    exact ⟨by rw [g.eN]; exact a1, by rw [g.eS]; exact a2⟩
  · exact ⟨_, H1, I4, e1 ι1 _ H1 (Ext.refl _ _) ⟨sr_setZ rl1.s d.reverse, rl1.m⟩⟩
theorem sw_none {ts vs : List Expr} {kt k2 : Nat} {pt p2 : Pos} {env : PySem.Env} (h : 4 ≤ ts.length) : swappedStores [.Tuple ts kt pt] (.Tuple vs k2 p2) env = pure none := by
  have h2 : (ts.length == 2) = false := by simp; omega
  have h3 : (ts.length == 3) = false := by simp; omega
  unfold swappedStores
  dsimp only
  rw [if_pos (by rw [h2, h3]; rfl)]
theorem sw_fold {ts vs : List Expr} {kt k2 : Nat} {pt p2 : Pos} {env : PySem.Env} (h : vs.all (foldedForSure 8) = true) : swappedStores [.Tuple ts kt pt] (.Tuple vs k2 p2) env = pure none := by
  unfold swappedStores
  dsimp only
  refine ite_eq_left_iff.mpr fun _ => ?_
  refine ite_eq_left_iff.mpr fun _ => ?_
  refine ite_eq_left_iff.mpr fun _ => ?_
  rw [if_pos h]
theorem sw_or {ts vs : List Expr} {kt k2 : Nat} {pt p2 : Pos} {env : PySem.Env} (h : (decide (4 ≤ ts.length) || vs.all (foldedForSure 8)) = true) : swappedStores [.Tuple ts kt pt] (.Tuple vs k2 p2) env = pure none := by
  rcases (Bool.or_eq_true _ _).mp h with h | h
  · exact sw_none (of_decide_eq_true h)
  · exact sw_fold h
/-- four names and more at once, or constants -/
theorem js_parN (g : GX W G S k h cc X wx) {is : List Nat} {ts vs : List Expr} {r : Env → Mem → R (List Z)} {kt k2 : Nat} {pt p2 pos : Pos} (hr : PA X vs (tDs W S wx r)) (h4 : (decide (4 ≤ ts.length) || vs.all (foldedForSure 8)) = true) (h20 : ts.length ≤ 20) (hl : is.length = ts.length) (hn : ((is.zip ts).all fun p => match p.2 with
      | .Name y _ => decide (cc.N[p.1]? = some y) && isLoc cc y
      | _ => false) = true) :
    PS X (.Assign [.Tuple ts kt pt] (.Tuple vs k2 p2) pos) (tS W S wx fun ρ M => (r ρ M).st ρ fun zs M1 => if zs.length = is.length then .nx (setZ ρ is zs) M1 else .bad) := by
  obtain ⟨a1, a2⟩ := asEach_names (env := X.env) hl hn
  refine (ps_asg (pe_tup hr) (pg_tupM (pos := pt) (k := kt) g.mdh.md (pgs_names g.nd g.eN g.locs hl hn) a1 a2) rfl (sw_or h4) rfl).imp fun D σ H hq => ?_
  obtain ⟨ι, ρ, M, rl, e⟩ := hq
  dsimp only at e
  refine ⟨ι, ρ, M, rl, EndS.step rl.s e fun zs M1 ι1 vs1 H1 ex m d e1 => ?_⟩
  split at e1
  case isFalse => exact e1.elim
  rename_i hz
  have lv : vs1.length = is.length := d.length.trans hz
  have big : (20 : Nat) ≤ sizeLine := by decide
  refine ⟨by rw [lv, hl]; omega, fun p hp => ⟨p, vs1, rfl, .inl (.inl upd_same), by rw [lv], by rw [lv], ?_⟩⟩
  have x2 : Ext ι1 H1 ι1 (upd H1 p (.tup vs1)) := Ext.new hp
  exact e1 ι1 _ _ x2 ⟨sr_setZ (rl.s.mono (ex.trans x2)) (d.mono x2), m.new hp⟩
end
end Zt
namespace Zt
open PySem PySem.Spec PyProof.Rows L2
section
variable {W : Wd} {G : Stat} {S : Sc} {k : Nat} {h : Bool} {cc : CC} {X : Cx} {wx : WX}
theorem cfg_lv (W : Wd) (k : Nat) (h : Bool) : (W.cfg k h).lv = k := by cases k <;> rfl
theorem cfg_hot (W : Wd) (k : Nat) (h : Bool) : (W.cfg k h).hot = h := by cases k <;> rfl
theorem endF_of {σ : St} {ι : Io} {H : Hp} {Q : VK} {r : R Z} (e : EndG W wx σ ι H (DenZ W.K) Q r) : EndF W ι H Q (WE wx σ) r := by
  cases r with
  | ok z M => exact e
  | ex x M => exact e
  | bad => exact e
theorem fn_len (ok : WOk W G) {f : Nat} {y : Str} (hy : G.nm[f]? = some y) {h' : Bool} {zs : List Z} {M : Mem} (hb : (W.cfg k h).fn h' f zs M ≠ .bad) : zs.length = (W.ps f).length := by
  cases k with
  | zero => exact absurd rfl hb
  | succ k =>
    have hb : (match W.T[f]? with
      | some d => if zs.length = d.np then finB (evSs (lev W.T W.sub W.gv W.wf k h') d.body (startE d (zs.map .z)) M) else .bad
      | none => .bad) ≠ .bad := hb
    cases q : W.T[f]? with
    | none => rw [q] at hb; exact absurd rfl hb
    | some d =>
      rw [q] at hb
      dsimp only at hb
      split at hb
      · rename_i e
        rw [e]
        exact ok.np f y d hy q
      · exact absurd rfl hb
theorem nb_of {σ : St} {ι : Io} {H : Hp} {Q : VK} {r : R Z} (e : EndG W wx σ ι H (DenZ W.K) Q r) : r ≠ .bad := fun z => by rw [z] at e; exact e
theorem sp_of (ok : WOk W G) {f : Nat} {y : Str} (hy : G.nm[f]? = some y) {σ : St} {ι : Io} {H : Hp} {Q : VK} {vs : List V} {zs : List Z} {M : Mem} (m : MI W ι H M) (d : DenZL W.K ι H vs zs) (e : EndG W wx σ ι H (DenZ W.K) Q ((W.cfg k h).fn h f zs M)) :
    spF W k h f vs H Q (WE wx σ) := ⟨by rw [d.length]; exact fn_len ok hy (nb_of e), ι, M, zs, m, d, endF_of e⟩
theorem j_call (g : GX W G S k h cc X wx) {f : Nat} {x : Str} {y : Expr} {ys : List Expr} {r : Env → Mem → R (List Z)} {p pos : Pos} (hy : G.nm[f]? = some x) (hg : isGlob cc x = true) (hp : plainName x = true) (hr : PA X (y :: ys) (tDs W S wx r)) (hn : (y :: ys).all notStar = true) :
    PE X (.Call (.Name x p) (y :: ys) [] pos) (tD W S wx fun ρ M => (r ρ M).bind fun zs M1 => (W.cfg k h).fn h f zs M1) := by
  rw [List.all_cons, Bool.and_eq_true] at hn
  obtain ⟨h1, h2, _⟩ := plain_dbg hp
  obtain ⟨gm, gk, gb⟩ := g.ok.glob f x hy
  have main : PE X (.Call (.Name x p) (y :: ys) [] pos) (tCallS (spF W k h f) (WE wx) (tDs W S wx r)) := by
    cases h with
    | false =>
      have F := (g.calls k (Nat.le_refl k)).calm f x hy
      rw [← g.eP, ← g.eW, ← g.eK, ← g.eM, ← g.eB] at F
      exact pe_callS F (g.calm rfl).2 (g.gl hg) (by rw [g.eM]; exact gm) (by rw [g.eK]; exact gk) (by rw [g.eK]; exact gb) (fun σ => L2N.passAt g.takes σ) hr h1 (star_of hn.1) (plain_of hn.2)
    | true =>
      have F := (g.calls k (Nat.le_refl k)).hot f x hy
      rw [← g.eP, ← g.eW, ← g.eK, ← g.eM, ← g.eB] at F
      exact L2H.pe_callH F g.room (g.hot rfl) (g.gl hg) (by rw [g.eM]; exact gm) (by rw [g.eK]; exact gk) (by rw [g.eK]; exact gb) (fun σ => L2N.passAt g.takes σ) hr h1 (star_of hn.1) (plain_of hn.2)
  refine main.imp fun σ H Q hq => ?_
  obtain ⟨ι, ρ, M, rl, e⟩ := hq
  dsimp only at e
  exact ⟨ι, ρ, M, rl, e.step fun z M1 ι1 v1 H1 ex m d e1 => sp_of g.ok hy m d e1⟩
theorem j_call0 (g : GX W G S k h cc X wx) {f : Nat} {x : Str} {p pos : Pos} (hy : G.nm[f]? = some x) (hg : isGlob cc x = true) (hp : plainName x = true) :
    PE X (.Call (.Name x p) [] [] pos) (tD W S wx fun ρ M => (R.ok ([] : List Z) M).bind fun zs M1 => (W.cfg k h).fn h f zs M1) := by
  obtain ⟨h1, h2, _⟩ := plain_dbg hp
  obtain ⟨gm, gk, gb⟩ := g.ok.glob f x hy
  refine ⟨fun pins s σ H Q I hq => ?_⟩
  obtain ⟨ι, ρ, M, rl, e⟩ := hq
  have sp := sp_of g.ok hy rl.m .nil e
  refine wpAny_Call_Name_kw (ld_glob I (g.gl hg) (by rw [g.eM]; exact gm) ?_ h1)
  refine PySem.W.callWith_K0 I.kIn (by rw [g.eK]; exact gk) ?_
  cases h with
  | false =>
    have F := (g.calls k (Nat.le_refl k)).calm f x hy
    rw [← g.eP, ← g.eW, ← g.eK, ← g.eM, ← g.eB] at F
    exact run_fnS (us := []) F (g.calm rfl).2 (by rw [g.eK]; exact gb) (L2N.passAt g.takes σ) I .nil sp
  | true =>
    have F := (g.calls k (Nat.le_refl k)).hot f x hy
    rw [← g.eP, ← g.eW, ← g.eK, ← g.eM, ← g.eB] at F
    exact L2H.run_fnH (us := []) F g.room (g.hot rfl) (by rw [g.eK]; exact gb) (L2N.passAt g.takes σ) I .nil sp
theorem scr_sq {K : PySem.W.Frag} {ι : Io} {H : Hp} {a : Addr} {xs : List V} (h : Still ι H a (.lst xs) ∨ KL K a xs) : SqL K H a xs := h.imp (fun z => z.2) id
theorem SR.slot {K : PySem.W.Frag} {ι : Io} {H : Hp} {σ : St} {ρ : Env} (s : SR K S ι H σ ρ) {i : Nat} {sl : Sl} (e : ρ[i]? = some sl) : SlD K S ι H σ[i]? sl := s.ix i sl e
theorem j_sln (g : GX W G S k h cc X wx) {i : Nat} {u : Str} {p q pos : Pos} (hg : isGlob cc ("len" : Str) = true) (hN : cc.N[i]? = some u) (hv : isVis cc u = true) (hp : plainName u = true) :
    PE X (.Call (.Name ("len" : Str) p) [.Name u q] [] pos) (tD W S wx fun ρ M => match ρ[i]? with
      | some (.scr ns) => .ok (.d (.int ns.length)) M
      | _ => .bad) := by
  obtain ⟨h1, h2, _⟩ := plain_dbg hp
  refine (pe_callB call_len (g.gl hg) (g.blt (by decide +kernel)) boot_len (pa_cons (pe_var (i := i) (pos := q) (by rw [g.eN]; exact hN) (g.vis hv) h1 h2) pa_nil)).imp fun σ H Q hq => ?_
  obtain ⟨ι, ρ, M, rl, e⟩ := hq
  dsimp only at e
  split at e
  · rename_i ns hs
    obtain ⟨a, ha, hs⟩ := rl.s.slot hs
    refine ⟨.ref a, ha, ?_⟩
    refine ⟨_, (ns.map V.int).length, rfl, .inl ⟨_, by rw [g.eK]; exact scr_sq hs, rfl⟩, ?_⟩
    rw [List.length_map]
    exact EndG.now e rl.m (.d (.int _))
  · exact e.elim
theorem j_six (g : GX W G S k h cc X wx) {i : Nat} {u : Str} {y : Expr} {f : Env → Mem → R Z} {q pos : Pos} (hN : cc.N[i]? = some u) (hv : isVis cc u = true) (hp : plainName u = true) (hy : PE X y (tD W S wx f)) (hs : notSlice y = true) :
    PE X (.Subscript (.Name u q) y pos) (tD W S wx fun ρ M => match ρ[i]? with
      | some (.scr ns) => (f ρ M).bind fun y M1 => match y with
        | .d (.int j) => R.of ((L2.atI ns j).map fun n => .d (.int n)) M1
        | _ => .bad
      | _ => .bad) := by
  obtain ⟨h1, h2, _⟩ := plain_dbg hp
  refine (pe_ix ix_list (pe_var (i := i) (pos := q) (by rw [g.eN]; exact hN) (g.vis hv) h1 h2) hy (plain_ix hs)).imp fun σ H Q hq => ?_
  obtain ⟨ι, ρ, M, rl, e⟩ := hq
  dsimp only at e
  split at e
  · rename_i ns hsl
    obtain ⟨a, ha, hh⟩ := rl.s.slot hsl
    refine ⟨.ref a, ha, ι, ρ, M, rl, e.step fun z M1 ι1 v1 H1 ex m d e1 => ?_⟩
    split at e1
    · rename_i j
      obtain ⟨n, hn, e1⟩ := EndG.ofo e1
      obtain ⟨n0, hn0, e0⟩ := Option.map_eq_some_iff.mp hn
      subst e0
      cases d with
      | d d =>
        cases d
        have hh : Still ι1 H1 a (.lst (ns.map V.int)) ∨ KL W.K a (ns.map V.int) := hh.imp (fun z => z.mono ex nt_lst) id
        refine ⟨a, ns.map V.int, j, .int n0, rfl, rfl, by rw [g.eK]; exact scr_sq hh, ?_, EndG.now e1 m (.d (.int _))⟩
        unfold atI at hn0 ⊢
        rw [List.length_map]
        cases q : ixN ns.length j with
        | none => rw [q] at hn0; cases hn0
        | some t =>
          rw [q] at hn0
          exact map_get hn0
    · exact e1.elim
  · exact e.elim
theorem fnW_len (ok : WOk W G) {f : Nat} {y : Str} (hy : G.nm[f]? = some y) {h' : Bool} {sl : Sl} {zs : List Z} {M : Mem} (hb : (W.cfg k h).fnW h' f sl zs M ≠ .bad) : zs.length + 1 = (W.ps f).length := by
  cases k with
  | zero => exact absurd rfl hb
  | succ k =>
    have hb : (match W.T[f]? with
      | some d => if zs.length + 1 = d.np then finB (evSs (lev W.T W.sub W.gv W.wf k h') d.body (startE d (sl :: zs.map .z)) M) else .bad
      | none => .bad) ≠ .bad := hb
    cases q : W.T[f]? with
    | none => rw [q] at hb; exact absurd rfl hb
    | some d =>
      rw [q] at hb
      dsimp only at hb
      split at hb
      · rename_i e
        rw [e]
        exact ok.np f y d hy q
      · exact absurd rfl hb
theorem j_callW (g : GX W G S k h cc X wx) {f i : Nat} {x u : Str} {ys : List Expr} {r : Env → Mem → R (List Z)} {p q pos : Pos} (hy : G.nm[f]? = some x) (hg : isGlob cc x = true) (hp : plainName x = true) (hN : cc.N[i]? = some u) (hv : isVis cc u = true) (hu : plainName u = true)
    (hr : PA X ys (tDs W S wx r)) (hn : ys.all notStar = true) :
    PE X (.Call (.Name x p) (.Name u q :: ys) [] pos) (tD W S wx fun ρ M => match ρ[i]? with
      | some (.scr ns) => (r ρ M).bind fun zs M1 => (W.cfg k h).fnW h f (.scr ns) zs M1
      | _ => .bad) := by
  obtain ⟨h1, h2, _⟩ := plain_dbg hp
  obtain ⟨u1, u2, _⟩ := plain_dbg hu
  obtain ⟨gm, gk, gb⟩ := g.ok.glob f x hy
  have hx : PA X (.Name u q :: ys) (tCons (tVar i) (tDs W S wx r)) := pa_cons (pe_var (i := i) (pos := q) (by rw [g.eN]; exact hN) (g.vis hv) u1 u2) hr rfl
  have main : PE X (.Call (.Name x p) (.Name u q :: ys) [] pos) (tCallS (spW W k h f) (WE wx) (tCons (tVar i) (tDs W S wx r))) := by
    cases h with
    | false =>
      have F := (g.calls k (Nat.le_refl k)).calmW f x hy
      rw [← g.eP, ← g.eW, ← g.eK, ← g.eM, ← g.eB] at F
      exact pe_callS F (g.calm rfl).2 (g.gl hg) (by rw [g.eM]; exact gm) (by rw [g.eK]; exact gk) (by rw [g.eK]; exact gb) (fun σ => L2N.passAt g.takes σ) hx h1 rfl (plain_of hn)
    | true =>
      have F := (g.calls k (Nat.le_refl k)).hotW f x hy
      rw [← g.eP, ← g.eW, ← g.eK, ← g.eM, ← g.eB] at F
      exact L2H.pe_callH F g.room (g.hot rfl) (g.gl hg) (by rw [g.eM]; exact gm) (by rw [g.eK]; exact gk) (by rw [g.eK]; exact gb) (fun σ => L2N.passAt g.takes σ) hx h1 rfl (plain_of hn)
  refine main.imp fun σ H Q hq => ?_
  obtain ⟨ι, ρ, M, rl, e⟩ := hq
  dsimp only at e
  split at e
  · rename_i ns hs
    obtain ⟨a, ha, hh⟩ := rl.s.slot hs
    refine ⟨.ref a, ha, ι, ρ, M, rl, e.step fun zs M1 ι1 vs H1 ex m d e1 => ?_⟩
    have hh : Still ι1 H1 a (.lst (ns.map V.int)) ∨ KL W.K a (ns.map V.int) := hh.imp (fun z => z.mono ex nt_lst) id
    exact ⟨by rw [List.length_cons, d.length]; exact fnW_len g.ok hy (nb_of e1), ι1, M1, .ref a, vs, ns, zs, rfl, m, ⟨a, rfl, hh⟩, d, endF_of e1⟩
  · exact e.elim
theorem j_callX (g : GX W G S k h cc X wx) {f i : Nat} {x u : Str} {p q pos : Pos} (hc : cc.cl = true) (hy : G.nm[f]? = some x) (hg : isGlob cc x = true) (hp : plainName x = true) (hN : cc.N[i]? = some u) (hv : isVis cc u = true) (hu : plainName u = true) :
    PE X (.Call (.Name x p) [.Name u q] [] pos) (tD W S wx fun ρ M => match ρ[i]? with
      | some (.exc e) => if h then (W.cfg k h).fnW true f (.exc e) [] M else .bad
      | _ => .bad) := by
  obtain ⟨h1, h2, _⟩ := plain_dbg hp
  obtain ⟨u1, u2, _⟩ := plain_dbg hu
  obtain ⟨gm, gk, gb⟩ := g.ok.glob f x hy
  have hx : PA X [.Name u q] (tCons (tVar i) tNil) := pa_cons (pe_var (i := i) (pos := q) (by rw [g.eN]; exact hN) (g.vis hv) u1 u2) pa_nil rfl
  refine ⟨fun pins s σ H Q I hq => ?_⟩
  obtain ⟨ι, ρ, M, rl, e⟩ := hq
  dsimp only at e
  split at e
  · rename_i ex hs
    cases h with
    | false =>
      rw [if_neg Bool.false_ne_true] at e
      exact e.elim
    | true =>
      obtain ⟨a, dx, ha, hXA, hF⟩ := rl.s.slot hs
      obtain ⟨c, fs⟩ := ex
      rw [if_pos rfl] at e
      refine wpAny_Call_Name_kw (ld_glob I (g.gl hg) (by rw [g.eM]; exact gm) ?_ h1)
      refine PySem.W.callWith_K (h₀ := X.base) I.ok.mod.kin (by rw [g.eK]; exact gk) (thn (hx.run pos pins s σ H (fun vs H1 => vs = [V.ref a] ∧ H1 = H) I ⟨.ref a, ha, rfl, rfl⟩) fun us s1 hh => ?_) rfl rfl
      obtain ⟨vs, H1, I1, r1, ev, eH⟩ := hh
      subst ev
      rw [eH] at I1
      refine ⟨I1.kIn, ?_⟩
      cases r1 with
      | cons ru rn =>
        cases rn
        cases ru
        exact g.xc hc rfl f x a c dx fs hy hXA pins s1 σ H Q ι M I1 rl.m hF e
  · exact e.elim
end
end Zt
set_option maxHeartbeats 4000000
namespace Zt
open PySem PySem.Spec PyProof.Rows L2
section
variable {W : Wd} {G : Stat} {S : Sc} {k : Nat} {h : Bool} {cc : CC} {X : Cx} {wx : WX}
theorem j_clo (g : GX W G S k h cc X wx) {i : Nat} {y : Str} {p1 p2 : Pos} (hc : cc.cl = true) (hN : cc.N[i]? = some y) (hv : isVis cc y = true) (hp : plainName y = true) :
    PE X (.Call (.Name y p1) [] [] p2) (tD W S wx fun ρ M => if h then .bad else match ρ[i]? with
      | some (.clo ps body cap) => (R.ok ([] : List Z) M).bind fun zs M1 => (W.cfg k h).clo ps body cap zs M1
      | _ => .bad) := by
  cases h with
  | true => exact j_bad fun ρ M => if_pos rfl
  | false =>
    have pe : PE X (.Call (.Name y p1) [] [] p2) _ := g.xl hc rfl X.pn X.xe wx g.takes i y hN hv hp p1 p2
    refine pe.imp fun σ H Q hq => ?_
    obtain ⟨ι, ρ, M, rl, e⟩ := hq
    dsimp only at e
    rw [if_neg Bool.false_ne_true] at e
    split at e
    · rename_i ps body cap hs
      obtain ⟨f, σc, e1, e2, e3, e4⟩ := rl.s.slot hs
      exact ⟨f, ps, body, σc, cap, ι, M, e1, e3, e4, e2, rl.m, e⟩
    · exact e.elim
/-- isinstance of a handled error without fields -/
theorem isi_err {X : Cx} (eK : X.K = W.K) (ok : WOk W G) {a : Addr} {c : Nat} {oe : Obj} {cv : Value} {t : Bool} (hz : Zc (W.cv c) none oe) (hf : ∃ vs, oe.data = .fields vs) (hp : (a, oe) ∈ X.pn) (hk : PySem.W.kitOne W.K (W.cv c) cv = some t) {pins : List (Addr × Obj)} {s : Shared} {σ : L2.St} {H : Hp} {Q : VK} (I : Inv X pins σ H s) (q : Q (.bl t) H) :
    wpAny (model X.prog X.w) X.A (call (.builtin "isinstance") [.ref a, cv]) (EP X pins σ Q) X.xe s := by
  obtain ⟨D, hD, C⟩ := ok.exc c
  rw [hD] at hk hz
  obtain ⟨vs, hv⟩ := hf
  obtain ⟨hget, _⟩ := I.pin (a, oe) (List.mem_append_left _ hp)
  have J : PySem.W.InstAt s.heap a oe D none := by
    obtain ⟨oc, od, oda, osl⟩ := oe
    obtain ⟨z1, z2⟩ := hz
    dsimp only at z1 z2 hv
    subst z1 z2 hv
    exact ⟨hget, rfl, rfl, trivial⟩
  rw [← eK] at hk C
  exact PySem.W.kia_one (PySem.W.handS_kitx_exc C.hg C.hk C.hs C.hd C.ha C.hn C.ht C.hm) I.kIn J hk (fun z => nomatch z) fun tk => ⟨.bl t, H, I.kept (t' := tk) fun _ _ z => z, rfl, q⟩
theorem j_isx (g : GX W G S k h cc X wx) {i c : Nat} {u d : Str} {p q r pos : Pos} (hc : cc.cl = true) (hg : isGlob cc ("isinstance" : Str) = true) (hN : cc.N[i]? = some u) (hv : isVis cc u = true) (hu : plainName u = true) (hd : G.cn[c]? = some d) (hgd : isGlob cc d = true) (hpd : plainName d = true) :
    PE X (.Call (.Name ("isinstance" : Str) p) [.Name u q, .Name d r] [] pos) (tD W S wx fun ρ M => match ρ[i]? with
      | some (.exc e) => if e.fs.isEmpty then .ok (boolZ (W.sub e.c c)) M else .bad
      | _ => .bad) := by
  obtain ⟨u1, u2, _⟩ := plain_dbg hu
  obtain ⟨d1, d2, _⟩ := plain_dbg hpd
  obtain ⟨C, c1, c2, _⟩ := g.ok.cls c d hd
  have pd : PE X (.Name d r) (tC (.ref C)) := pe_glob (g.gl hgd) (by rw [g.eM]; exact c1) rfl d1
  refine (pe_callB (r := fun xs H Q => ∃ (a : Addr) (c0 : Nat) (dx : Option Addr), xs = [.ref a, .ref C] ∧ S.XA a c0 dx ∧ dx = none ∧ Q (.bl (W.sub c0 c)) H) (fun pins s σ H xs us Q I rv hh => ?_) (g.gl hg) (g.blt (by decide +kernel)) boot_isi (pa_cons (pe_var (i := i) (pos := q) (by rw [g.eN]; exact hN) (g.vis hv) u1 u2) (pa_cons pd pa_nil))).imp fun σ H Q hq => ?_
  · obtain ⟨a, c0, dx, rfl, hx, rfl, hQ⟩ := hh
    obtain ⟨oe, pn, hz, hf⟩ := g.xp hc a c0 none hx
    cases rv with
    | cons r1 rr =>
      cases rr with
      | cons r2 rr =>
        cases rr
        cases r1
        cases r2
        have := isi_err g.eK g.ok hz hf pn (g.ok.kit c0 c d hd) I hQ
        rw [c2] at this
        exact this
  · obtain ⟨ι, ρ, M, rl, e⟩ := hq
    dsimp only at e
    split at e
    · rename_i ex hs
      obtain ⟨a, dx, ha, hXA, hF⟩ := rl.s.slot hs
      split at e
      case isFalse => exact e.elim
      rename_i hfs
      exact ⟨.ref a, ha, a, ex.c, dx, rfl, hXA, hF.1 (by simpa using hfs), EndG.now e rl.m (.d (.bl _))⟩
    · exact e.elim
theorem j_isv (g : GX W G S k h cc X wx) {i : Nat} {u : Str} {p q r pos : Pos} (hc : cc.cl = true) (hg : isGlob cc ("isinstance" : Str) = true) (hN : cc.N[i]? = some u) (hv : isVis cc u = true) (hu : plainName u = true) (hgd : isGlob cc ("ValueError" : Str) = true) :
    PE X (.Call (.Name ("isinstance" : Str) p) [.Name u q, .Name ("ValueError" : Str) r] [] pos) (tD W S wx fun ρ M => match ρ[i]? with
      | some (.exc e) => if e.fs.isEmpty then .ok (boolZ (W.sub e.c 1000)) M else .bad
      | _ => .bad) := by
  obtain ⟨u1, u2, _⟩ := plain_dbg hu
  have pd : PE X (.Name ("ValueError" : Str) r) (tC (.ty "ValueError")) := pe_bltn (g.gl hgd) (g.blt (by decide +kernel)) (by decide +kernel) rfl (by decide +kernel) (by decide +kernel)
  refine (pe_callB (r := fun xs H Q => ∃ (a : Addr) (c0 : Nat) (dx : Option Addr), xs = [.ref a, .ty "ValueError"] ∧ S.XA a c0 dx ∧ dx = none ∧ Q (.bl (W.sub c0 1000)) H) (fun pins s σ H xs us Q I rv hh => ?_) (g.gl hg) (g.blt (by decide +kernel)) boot_isi (pa_cons (pe_var (i := i) (pos := q) (by rw [g.eN]; exact hN) (g.vis hv) u1 u2) (pa_cons pd pa_nil))).imp fun σ H Q hq => ?_
  · obtain ⟨a, c0, dx, rfl, hx, rfl, hQ⟩ := hh
    obtain ⟨oe, pn, hz, hf⟩ := g.xp hc a c0 none hx
    cases rv with
    | cons r1 rr =>
      cases rr with
      | cons r2 rr =>
        cases rr
        cases r1
        cases r2
        exact isi_err g.eK g.ok hz hf pn (g.ok.kitV c0) I hQ
  · obtain ⟨ι, ρ, M, rl, e⟩ := hq
    dsimp only at e
    split at e
    · rename_i ex hs
      obtain ⟨a, dx, ha, hXA, hF⟩ := rl.s.slot hs
      split at e
      case isFalse => exact e.elim
      rename_i hfs
      exact ⟨.ref a, ha, a, ex.c, dx, rfl, hXA, hF.1 (by simpa using hfs), EndG.now e rl.m (.d (.bl _))⟩
    · exact e.elim
/-- a field of the handled error -/
theorem j_xat (g : GX W G S k h cc X wx) {i : Nat} {u f : Str} {q pos : Pos} (hc : cc.cl = true) (hN : cc.N[i]? = some u) (hv : isVis cc u = true) (hu : plainName u = true) (hf : some f ∈ G.fl) :
    PE X (.Attribute (.Name u q) f pos) (tD W S wx fun ρ M => match ρ[i]? with
      | some (.exc e) => R.of ((e.fs.lookup f).map .d) M
      | _ => .bad) := by
  obtain ⟨u1, u2, _⟩ := plain_dbg hu
  have pu : PE X (.Name u q) (tVar i) := pe_var (i := i) (pos := q) (by rw [g.eN]; exact hN) (g.vis hv) u1 u2
  refine ⟨fun pins s σ H Q I hq => ?_⟩
  obtain ⟨ι, ρ, M, rl, e⟩ := hq
  dsimp only at e
  split at e
  case h_2 => exact e.elim
  rename_i ex hs
  obtain ⟨a, dx, ha, hXA, hF⟩ := rl.s.slot hs
  cases hl : ex.fs.lookup f with
  | none =>
    rw [hl] at e
    exact e.elim
  | some d =>
    rw [hl] at e
    obtain ⟨dd, xs, v, rfl, h2, h3, h4, h5⟩ := hF.2 f d hl
    obtain ⟨oe, pn, hz, hfv⟩ := g.xp hc a ex.c (some dd) hXA
    obtain ⟨C, hD, hno⟩ := g.ok.nof _ hf f rfl ex.c
    obtain ⟨D, hD2, EC⟩ := g.ok.exc ex.c
    rw [hD] at hD2 hz
    cases hD2
    obtain ⟨vs, hvs⟩ := hfv
    refine attr_of rfl (thn (pu.run pins s σ H (fun x H1 => x = V.ref a ∧ H1 = H) I ⟨.ref a, ha, rfl, rfl⟩) fun w s1 hh => ?_)
    obtain ⟨x, H1, I1, rx, ex1, eH⟩ := hh
    subst ex1 eH
    obtain rfl : w = Value.ref a := rx
    obtain ⟨hget, _⟩ := I1.pin (a, oe) (List.mem_append_left _ pn)
    have hx : ObjOk X.prog X.w H1 s1.heap dd (.xd xs) := I1.hok dd _ h3
    obtain ⟨mA, hns, hr⟩ := hx
    obtain ⟨od, ho, hlk⟩ := lookIn_ns hns
    obtain ⟨z, hz2, rz⟩ := RelO.some_of (v := v) (o := mA f) (by rw [← h4]; exact hr f)
    have J : PySem.W.InstAt s1.heap a oe C (some od) := ⟨hget, hz.1, by unfold PySem.W.notCls; rw [hvs] <;> rfl, by rw [hz.2]; exact ho⟩
    rw [← g.eK] at EC hno
    exact HandSPX.exc_get I1.kIn J EC.hg EC.hk EC.hs (PySem.W.findObj_own EC.hd hno rfl (by rw [hlk, hz2])) (handed_of rz) ⟨v, H1, I1.tok _, rz, EndG.now e rl.m (.d h5)⟩
theorem nopar_def {p : Arguments} {env : PySem.Env} (hp : noPars p = true) : defaultsOf p env = ([], []) := by
  obtain ⟨a, b, c, d, e, f, g⟩ := p
  unfold noPars at hp
  simp only [Bool.and_eq_true, List.isEmpty_iff] at hp
  obtain ⟨⟨⟨⟨⟨⟨h1, h2⟩, h3⟩, h4⟩, h5⟩, h6⟩, h7⟩ := hp
  subst h5 h7
  rfl
theorem nopar_bind {p : Arguments} (hp : noPars p = true) {q : Str} {body : Expr} {scope : Scope} {cl : List (Str × Addr)} {pm cv ctv : Value} : bindArgs (PySem.W.kla_fn "<lambda>" q p body scope cl pm cv ctv) ⟨[], []⟩ = pure [] := by
  obtain ⟨a, b, c, d, e, f, g⟩ := p
  unfold noPars at hp
  simp only [Bool.and_eq_true, List.isEmpty_iff, Option.isNone_iff_eq_none] at hp
  obtain ⟨⟨⟨⟨⟨⟨h1, h2⟩, h3⟩, h4⟩, h5⟩, h6⟩, h7⟩ := hp
  subst h1 h2 h3 h4 h5 h6 h7
  rfl
theorem MI.extN {ι : Io} {H H1 : Hp} {M : Mem} (m : MI W ι H M) (e : LamX.ExtN H H1) (t : LamX.Tabs W.tb H1) : MI W ι H1 M := ⟨m.m.extN fun b o q n => e b o q n, t, m.o⟩
theorem ext_extN {ι : Io} {H H1 : Hp} (e : LamX.ExtN H H1) : Ext ι H ι H1 := ⟨⟨[], by simp⟩, fun _ h => h, fun _ _ _ _ h => h, fun a o q t n => ⟨n, e a o q t⟩⟩
/-- the lambda's body's context -/
def lamN (X : Cx) (A : Around) (outer : List PySem.Env) (s : Shared) (H : Hp) (E : XK) (scope : Scope) (f c' : Addr) : Cx :=
  (LamX.lamCx X A outer s H E scope f c').tr ([] ++ []) (fun e s' => wpAny (model X.prog X.w) (A.deeper (LamX.lamEnv X scope s.heap.objs.size f c')) (leaving (LamX.lamEnv X scope s.heap.objs.size f c') e) (fun _ s'' => L2N.CX X.prog X.w outer H s E e s'') (fun e' s'' => L2N.CX X.prog X.w outer H s E e' s'') s')
theorem gx_lam (g : GX W G S k h cc X wx) {A : Around} {outer : List PySem.Env} {s : Shared} {H : Hp} {E : XK} {scope : Scope} {f c' : Addr} {j : Nat} (hj : j ≤ k) (hr : Room j (A.deeper (LamX.lamEnv X scope s.heap.objs.size f c'))) :
    GX W G Sc.none j false ⟨cc.N, scope, false, false, false⟩ (lamN X A outer s H E scope f c') (fun cls dx _ H' => E cls dx H') :=
  { eP := g.eP, eW := g.eW, eK := g.eK, eM := g.eM, eB := g.eB, eN := g.eN, nd := g.nd, eS := rfl, room := L2H.roomH_of hr, calm := fun _ => ⟨rfl, hr⟩, hot := (fun z => nomatch z), takes := L2N.takes_of rfl rfl rfl rfl, pass := passes_of rfl, st := (fun z => nomatch z), ok := g.ok,
    calls := fun i hi => g.calls i (Nat.le_trans hi hj), lam := (fun z => nomatch z), xc := (fun z => nomatch z), xp := (fun z => nomatch z), nx := (fun _ _ _ _ z => z), fr := (fun z => nomatch z), xl := (fun z => nomatch z) }
theorem sr_cap {K : PySem.W.Frag} {ι : Io} {H : Hp} {σ : St} {cap : List (Option Z)} (hl : σ.length = cap.length) (c : CapOk K ι H σ cap) : SR K Sc.none ι H σ (ofCap cap) := by
  refine ⟨by simp [ofCap, hl], fun i s hs => ?_⟩
  unfold ofCap at hs
  rw [List.getElem?_map] at hs
  cases q : cap[i]? with
  | none => rw [q] at hs; cases hs
  | some o =>
    rw [q] at hs
    cases o with
    | none => cases hs; trivial
    | some z =>
      cases hs
      exact c i z q
theorem cap_of {K : PySem.W.Frag} {ι : Io} {H : Hp} {σ : St} {ρ : Env} (s : SR K S ι H σ ρ) : CapOk K ι H σ (capOf ρ) ∧ σ.length = (capOf ρ).length := by
  refine ⟨fun i z hz => ?_, by simp [capOf, s.len]⟩
  unfold capOf at hz
  rw [List.getElem?_map] at hz
  cases q : ρ[i]? with
  | none => rw [q] at hz; cases hz
  | some sl =>
    rw [q] at hz
    refine s.get (i := i) ?_
    unfold getZ
    rw [q]
    exact Option.some.inj hz
/-- the closures that this frame's lambda makes -/
def scL (f c' : Addr) (q : Str) (b : E) (σ0 : St) : Sc where
  CL := fun f' ps' b' σc ι H => f' = f ∧ ps' = [] ∧ b' = b ∧ σc = σ0 ∧ H c' = some (LamX.CodeO c' q) ∧ c' ∉ ι.pl
  mono := fun ⟨h1, h2, h3, h4, h5, h6⟩ e => ⟨h1, h2, h3, h4, (e.keep c' _ h5 LamX.codeO_ne h6).2, (e.keep c' _ h5 LamX.codeO_ne h6).1⟩
  XA := fun _ _ _ => False
theorem act_lam (g : GX W G S (k + 1) false cc X wx) {pins : List (Addr × Obj)} {σ : St} {H : Hp} {s : Shared} {f c' : Addr} {pm ctv : Value} {params : Arguments} {body : Expr} {scope : Scope} {b : E} (I : Inv X pins σ H s) (L : LamX.LamS X.env.scope scope) (hp : noPars params = true)
    (hf : s.heap.get? f = some (PySem.W.kla_obj "<lambda>" (X.env.qual ++ "<lambda>") params body scope (cloFrom X.env.cells scope.names []) pm c' ctv)) (hfn : H f = none) (hfr : f ∉ frs X.stack)
    (hb : ∀ {j : Nat} {X' : Cx} {wx' : WX}, GX W G Sc.none j false ⟨cc.N, scope, false, false, false⟩ X' wx' → PE X' body (tD W Sc.none wx' (evE (W.cfg j false) b))) :
    XL W (scL f c' (X.env.qual ++ "<lambda>") b σ) k X.A X.stack s H := by
  intro N qual sg fg cdg E hr pn xe wx' tk i y hN hv hpy p1 p2
  obtain ⟨y1, y2, _⟩ := plain_dbg hpy
  refine ⟨fun pinsZ sZ σZ HZ Q IZ hq => ?_⟩
  obtain ⟨f', ps', b', σc, cap, ι, M, hs, ⟨e1, e2, e3, e4, hcO, hcn⟩, hcap, hlen, m, e⟩ := hq
  subst e1 e2 e3 e4
  cases k with
  | zero => exact e.elim
  | succ j =>
    have e : EndG W wx' σZ ι HZ (DenZ W.K) Q (evE (W.cfg j false) b' (ofCap cap) M) := e
    refine wpAny_Call_Name_kw (thn ((pe_var (pos := p1) (i := i) hN hv y1 y2).run pinsZ sZ σZ HZ (fun v H1 => v = .ref f' ∧ H1 = HZ) IZ ⟨.ref f', hs, rfl, rfl⟩) fun u s1 hu => ?_)
    obtain ⟨v, H1, I1, r1, ev, eH⟩ := hu
    subst ev
    subst eH
    cases r1
    have fAt := I1.base.keep f' _ hf hfn hfr (fun z => nomatch (show f' ∈ ([] : List Addr) from z))
    refine PySem.W.callWith_F0 ⟨_, _, _, _, fAt⟩ ?_
    obtain ⟨⟨oc, vs, t, o1, o2, o3⟩, _, _⟩ := I1.hok c' _ hcO
    have eP : X.prog = W.P := g.eP
    have eW : X.w = W.w := g.eW
    have eK : X.K = W.K := g.eK
    have eM : X.mg = W.mg := g.eM
    have eB : X.base = W.base := g.eB
    have done : codeAny (model W.P W.w) (X.A.deeper (envOfC qual sg s.heap.objs.size fg cdg)) (.call (.ref f') ⟨[], []⟩) (CR (L2N.CX W.P W.w) (envOfC qual sg s.heap.objs.size fg cdg :: X.stack) W.P W.w H1 s1 Q (WE wx' σZ)) s1 := by
      refine PySem.W.kla_callFunE hr.depth fAt rfl L.co L.gen rfl ⟨c', oc, vs, t, rfl, o1, o2, o3⟩ ?_
      rw [nopar_bind hp]
      refine wpAny_pure (wpAny_newFunctionEnv (fun z hz => (L.own z hz).2) (fun z hz => absurd hz (by simp)) (fun h1 hns hsb => ⟨I1.nolimit.fresh _ hsb, ?_⟩) L.kind)
      show codeAny _ _ (.expr body (LamX.lamEnv X scope s1.heap.objs.size f' c')) _ _
      have stay : ∀ a o, s1.heap.get? a = some o → h1.get? a = some o := fun a o q => hsb.extBut a o (Nat.ne_of_lt (Heap.lt_size q)) (Heap.get?_push_of_some _ q)
      have e0 : Env0 X.prog X.w X.K X.mg X.base (X.A.deeper (envOfC qual sg s.heap.objs.size fg cdg)) (envOfC qual sg s.heap.objs.size fg cdg :: X.stack) s1 H1 := by
        rw [eP, eW, eK, eM, eB]
        exact I1.env0
      have J := LamX.lam_start2 (E := WE wx' σZ) (c' := c') (f := f') (tk := s1.toks + ([] : List (Str × Value)).length) I L e0 hr.hd I1.base hns stay
      have J2 := J.toTry (fun e s' => wpAny (model X.prog X.w) ((X.A.deeper (envOfC qual sg s.heap.objs.size fg cdg)).deeper (LamX.lamEnv X scope s1.heap.objs.size f' c')) (leaving (LamX.lamEnv X scope s1.heap.objs.size f' c') e) (fun _ s'' => L2N.CX X.prog X.w (envOfC qual sg s.heap.objs.size fg cdg :: X.stack) H1 s1 (WE wx' σZ) e s'') (fun e' s'' => L2N.CX X.prog X.w (envOfC qual sg s.heap.objs.size fg cdg :: X.stack) H1 s1 (WE wx' σZ) e' s'') s')
      have gl := gx_lam g (outer := envOfC qual sg s.heap.objs.size fg cdg :: X.stack) (s := s1) (H := H1) (E := WE wx' σZ) (scope := scope) (f := f') (c' := c') (j := j) (by omega) (hr.deeper _)
      have run := (hb gl).run [] _ σc H1 Q J2 ⟨ι, ofCap cap, M, ⟨sr_cap hlen hcap, m⟩, e⟩
      rw [← eP, ← eW]
      refine PySem.W.kla_codeExpr (wpAny_mono run (fun v s' hv => ?_) fun x s' hx => hx)
      obtain ⟨w', H', K', rv, q⟩ := hv
      exact ⟨w', H', K'.os, K'.bare, K'.base, K'.hok, rv, q⟩
    refine wpAny_call (codeAny_mono done fun r s' hr' => ?_)
    cases r with
    | error x => exact L2N.passAt tk σZ pinsZ H1 s1 x s' I1 hr'
    | ok fl =>
      cases fl with
      | ret u => exact I1.after hr'
      | next => exact False.elim hr'
      | brk => exact False.elim hr'
      | cont => exact False.elim hr'
theorem j_callL (g : GX W G S k h cc X wx) {f : Nat} {x : Str} {b : E} {p lpos pos : Pos} {params : Arguments} {body : Expr} {scope : Scope} (hl : cc.lam = true) (hy : G.nm[f]? = some x) (hgl : isGlob cc x = true) (hpx : plainName x = true) (hp : noPars params = true) (hL : LamX.lamSB cc.sc scope = true)
    (hb : ∀ {j : Nat} {X' : Cx} {wx' : WX}, GX W G Sc.none j false ⟨cc.N, scope, false, false, false⟩ X' wx' → PE X' body (tD W Sc.none wx' (evE (W.cfg j false) b))) :
    PE X (.Call (.Name x p) [.Lambda params body scope lpos] [] pos) (tD W S wx fun ρ M => if h then .bad else (R.ok ([] : List Z) M).bind fun zs M1 => (W.cfg k h).fnL f zs [] b (capOf ρ) M1) := by
  cases h with
  | true => exact j_bad fun ρ M => if_pos rfl
  | false =>
    refine ⟨fun pins s σ H Q I hq => ?_⟩
    obtain ⟨ι, ρ, M, rl, e⟩ := hq
    dsimp only at e
    rw [if_neg Bool.false_ne_true] at e
    cases k with
    | zero => exact e.elim
    | succ k =>
      have e : EndG W wx σ ι H (DenZ W.K) Q ((W.cfg (k + 1) false).fnL f [] [] b (capOf ρ) M) := e
      obtain ⟨x1, x2, _⟩ := plain_dbg hpx
      obtain ⟨gm, gk, gb⟩ := g.ok.glob f x hy
      obtain ⟨c, P, TB, hcode, hT⟩ := g.lam hl
      have L : LamX.LamS X.env.scope scope := by
        rw [g.eS]
        exact LamX.lamS_by hL
      refine wpAny_Call_Name_kw (ld_glob I (g.gl hgl) (by rw [g.eM]; exact gm) ?_ x1)
      refine PySem.W.callWith_K (h₀ := X.base) I.ok.mod.kin (by rw [g.eK]; exact gk) ?_ rfl rfl
      show wpAny _ _ (spliced ((false, eval (.Lambda params body scope lpos) X.env) :: backTo pos (starEach [] X.env))) _ _ s
      refine Calls.spliced_cons (LamX.lam_make2 I TB hcode hT (fun q hq e2 => g.ok.tbu q hq _ hT e2) rl.m.t (nopar_def hp) (L.has I.ok) fun f0 c' pm' ctv H1 s1 I1 eN T1 hf hfn hfr hco => ?_)
      refine Calls.spliced_nil ⟨I1.kIn, ?_⟩
      have m1 := rl.m.extN eN T1
      have ex : Ext ι H ι H1 := ext_extN eN
      obtain ⟨cp, cl⟩ := cap_of (rl.s.mono ex)
      have cn : c' ∉ ι.pl := fun z => by
        obtain ⟨n, hn⟩ := List.getElem?_of_mem z
        have hlt : n < M.length := by
          rw [← m1.m.len]
          exact (List.getElem?_eq_some_iff.mp hn).1
        have ok := m1.m.ok n M[n] c' (List.getElem?_eq_getElem hlt) hn
        cases q : M[n] with
        | lst ds => rw [q] at ok; obtain ⟨xs, q2, _⟩ := ok; rw [hco] at q2; cases q2
        | frz ds => rw [q] at ok; obtain ⟨o, xs, q2, _⟩ := ok; rw [hco] at q2; cases q2
        | dic ds => rw [q] at ok; obtain ⟨xs, q2⟩ := ok; rw [hco] at q2; cases q2
        | ins c0 ds => rw [q] at ok; obtain ⟨xs, q2⟩ := ok; rw [hco] at q2; cases q2
      have e0 : Env0 W.P W.w W.K W.mg W.base X.A X.stack s1 H1 := by
        rw [← g.eP, ← g.eW, ← g.eK, ← g.eM, ← g.eB]
        exact I1.env0
      have rc := (g.calls (k + 1) (Nat.le_refl _)).calmL f x hy (scL f0 c' (X.env.qual ++ "<lambda>") b σ) X.A X.stack s1 H1 f0 [] b σ (capOf ρ) ι M Q (WE wx σ) (fun _ _ _ z => z) (g.calm rfl).2 e0
        (fun j hj => by
          cases Nat.succ.inj hj
          exact act_lam g I1 L hp hf hfn hfr hb) ⟨rfl, rfl, rfl, rfl, hco, cn⟩ cp cl m1 (endF_of (EndG.mono ex e))
      rw [← g.eP, ← g.eW] at rc
      refine wpAny_call (codeAny_mono rc fun r s2 hr' => ?_)
      cases r with
      | error y => exact L2N.passAt g.takes σ pins H1 s1 y s2 I1 hr'
      | ok fl =>
        cases fl with
        | ret u => exact I1.after hr'
        | next => exact False.elim hr'
        | brk => exact False.elim hr'
        | cont => exact False.elim hr'
end
end Zt
set_option maxHeartbeats 4000000
namespace Zt
open PySem PySem.Spec PyProof.Rows L2
theorem _root_.L2.PE.to {W : Wd} {S : Sc} {wx : WX} {X : Cx} {x : Expr} {f g : Env → Mem → R Z} (h : PE X x (tD W S wx f)) (e : ∀ ρ M, g ρ M = f ρ M) : PE X x (tD W S wx g) := by
  have : g = f := funext fun ρ => funext fun M => e ρ M
  rw [this]
  exact h
theorem _root_.L2.PA.to {W : Wd} {S : Sc} {wx : WX} {X : Cx} {x : List Expr} {f g : Env → Mem → R (List Z)} (h : PA X x (tDs W S wx f)) (e : ∀ ρ M, g ρ M = f ρ M) : PA X x (tDs W S wx g) := by
  have : g = f := funext fun ρ => funext fun M => e ρ M
  rw [this]
  exact h
theorem _root_.L2.PT.to {W : Wd} {S : Sc} {wx : WX} {X : Cx} {x : Expr} {f g : Env → Mem → R Bool} (h : PT X x (tDT W S wx f)) (e : ∀ ρ M, g ρ M = f ρ M) : PT X x (tDT W S wx g) := by
  have : g = f := funext fun ρ => funext fun M => e ρ M
  rw [this]
  exact h
theorem _root_.L2.PW.to {W : Wd} {S : Sc} {wx : WX} {X : Cx} {x : Expr} {f g : Env → Mem → R Bool} (h : PW X x (tDT W S wx f)) (e : ∀ ρ M, g ρ M = f ρ M) : PW X x (tDT W S wx g) := by
  have : g = f := funext fun ρ => funext fun M => e ρ M
  rw [this]
  exact h
theorem _root_.L2.PTs.to {W : Wd} {S : Sc} {wx : WX} {X : Cx} {x : List Expr} {f g : Env → Mem → R Bool} (h : PTs X x (tDT W S wx f)) (e : ∀ ρ M, g ρ M = f ρ M) : PTs X x (tDT W S wx g) := by
  have : g = f := funext fun ρ => funext fun M => e ρ M
  rw [this]
  exact h
theorem _root_.L2.PO.to {W : Wd} {S : Sc} {wx : WX} {X : Cx} {x : Option Expr} {f g : Env → Mem → R (Option Int)} (h : PO X x (tDO W S wx f)) (e : ∀ ρ M, g ρ M = f ρ M) : PO X x (tDO W S wx g) := by
  have : g = f := funext fun ρ => funext fun M => e ρ M
  rw [this]
  exact h
theorem _root_.Hh.PIM.to {W : Wd} {S : Sc} {wx : WX} {X : Cx} {md : Cx → Prop} {t x : Expr} {f g : Env → Mem → R (List Z)} (h : Hh.PIM md X t x (iZ W S wx f)) (e : ∀ ρ M, g ρ M = f ρ M) : Hh.PIM md X t x (iZ W S wx g) := by
  have : g = f := funext fun ρ => funext fun M => e ρ M
  rw [this]
  exact h
theorem _root_.L2.PS.to {W : Wd} {S : Sc} {wx : WX} {X : Cx} {x : Stmt} {f g : Env → Mem → O} (h : PS X x (tS W S wx f)) (e : ∀ ρ M, g ρ M = f ρ M) : PS X x (tS W S wx g) := by
  have : g = f := funext fun ρ => funext fun M => e ρ M
  rw [this]
  exact h
theorem _root_.L2.PSs.to {W : Wd} {S : Sc} {wx : WX} {X : Cx} {x : List Stmt} {f g : Env → Mem → O} (h : PSs X x (tS W S wx f)) (e : ∀ ρ M, g ρ M = f ρ M) : PSs X x (tS W S wx g) := by
  have : g = f := funext fun ρ => funext fun M => e ρ M
  rw [this]
  exact h
theorem bad_s {W : Wd} {S : Sc} {wx : WX} {X : Cx} {x : Stmt} {f : Env → Mem → O} (hf : ∀ ρ M, f ρ M = .bad) : PS X x (tS W S wx f) := ⟨fun pins s σ H D I hq => by
  obtain ⟨ι, ρ, M, rl, e⟩ := hq
  rw [hf] at e
  exact e.elim⟩
theorem notSet_m {r : Expr} {o : CmpOp} (h : notSet r = true) : behindInMarks o r = false := by
  cases r <;> first | (cases o <;> rfl) | cases h
theorem notSet_f {r : Expr} (h : notSet r = true) (env : PySem.Env) : ∀ x, foldedSetIterable r env x = pure x := by
  intro x
  cases r <;> first | rfl | cases h
theorem notSet_l {r b : Expr} {o o' : CmpOp} (h : notSet r = true) : lastMarks [o, o'] [b, r] = false := by
  cases r <;> first | (cases o' <;> rfl) | cases h
theorem pts_no {W : Wd} {S : Sc} {wx : WX} {X : Cx} : PTs X [] (tDT W S wx fun _ M => .ok true M) := ⟨fun pins s σ H Q I hq => pts_nil.run pins s σ H Q I (by
  obtain ⟨ι, ρ, M, rl, e⟩ := hq
  exact EndG.now e rl.m rfl)⟩
theorem cfg_sub (W : Wd) (k : Nat) (h : Bool) : (W.cfg k h).sub = W.sub := by cases k <;> rfl
theorem star_len {es : List Expr} : es.length = es.length := rfl
theorem evEs_len {C : Cfg} : ∀ {es : Es} {ys : List Expr} {G : Stat} {cc : CC}, chkEs G cc es ys = true → ∀ ρ M zs M', evEs C es ρ M = .ok zs M' → zs.length = ys.length
  | .nil, ys, G, cc, h, ρ, M, zs, M', e => by
    rw [evEs] at e
    cases e
    unfold chkEs at h
    cases ys with
    | nil => rfl
    | cons _ _ => cases h
  | .cons a r, ys, G, cc, h, ρ, M, zs, M', e => by
    unfold chkEs at h
    cases ys with
    | nil => cases h
    | cons y ys =>
      simp only [Bool.and_eq_true] at h
      rw [evEs] at e
      cases q : evE C a ρ M with
      | bad => rw [q] at e; cases e
      | ex _ _ => rw [q] at e; cases e
      | ok x M1 =>
        rw [q] at e
        dsimp only [R.bind] at e
        cases q2 : evEs C r ρ M1 with
        | bad => rw [q2] at e; cases e
        | ex _ _ => rw [q2] at e; cases e
        | ok xs M2 =>
          rw [q2] at e
          cases e
          have := evEs_len h.2 ρ M1 xs M' q2
          simp [this]
section
variable {W : Wd} {G : Stat}
theorem GX.units {S : Sc} {k : Nat} {h : Bool} {cc : CC} {X : Cx} {wx : WX} (g : GX W G S k h cc X wx) : X.A.units + 65 < cLine := by
  have := g.room.un
  omega
/-- .. with one operand -/
theorem pe_and1 {X : Cx} {a : Expr} {ta : TE} {pos : Pos} (ha : PE X a ta) : PE X (.BoolOp .And [a] pos) ta := ⟨fun pins s σ H Q I hq => ha.run pins s σ H Q I hq⟩
theorem pe_or1 {X : Cx} {a : Expr} {ta : TE} {pos : Pos} (ha : PE X a ta) : PE X (.BoolOp .Or [a] pos) ta := ⟨fun pins s σ H Q I hq => ha.run pins s σ H Q I hq⟩
theorem chkEs_len : ∀ {es : Es} {ys : List Expr} {cc : CC}, chkEs G cc es ys = true → (match es with | .nil => ys = [] | .cons _ _ => ys ≠ [])
  | .nil, ys, cc, h => by
    unfold chkEs at h
    cases ys with
    | nil => rfl
    | cons _ _ => cases h
  | .cons a r, ys, cc, h => by
    unfold chkEs at h
    cases ys with
    | nil => cases h
    | cons y ys => exact fun z => nomatch z
mutual
theorem sE : ∀ (e : E) {S : Sc} {k : Nat} {h : Bool} {cc : CC} {X : Cx} {wx : WX} (_ : GX W G S k h cc X wx) {x : Expr}, chkE G cc e x = true → PE X x (tD W S wx (evE (W.cfg k h) e))
  | .v i, S, k, h, cc, X, wx, g, x, hc => by
    unfold chkE at hc
    split at hc
    · simp only [Bool.and_eq_true, decide_eq_true_eq] at hc
      exact (j_v g hc.1.1 hc.1.2 hc.2).to fun ρ M => by rw [evE]
    · cases hc
  | .g i, S, k, h, cc, X, wx, g, x, hc => by
    unfold chkE at hc
    split at hc
    · simp only [Bool.and_eq_true, decide_eq_true_eq] at hc
      exact (j_g g hc.1.1 hc.1.2 hc.2).to fun ρ M => by
        rw [evE]
        cases k <;> rfl
    · cases hc
  | .kn, S, k, h, cc, X, wx, g, x, hc => by
    unfold chkE at hc
    split at hc
    · exact (j_c pe_non fun _ _ => .non).to fun ρ M => by rw [evE]
    · cases hc
  | .kb b, S, k, h, cc, X, wx, g, x, hc => by
    unfold chkE at hc
    split at hc
    · rw [of_decide_eq_true hc]
      exact (j_c pe_bl fun _ _ => .bl _).to fun ρ M => by rw [evE]
    · cases hc
  | .ki i, S, k, h, cc, X, wx, g, x, hc => by
    unfold chkE at hc
    split at hc
    · rw [of_decide_eq_true hc]
      exact (j_c pe_int fun _ _ => .int _).to fun ρ M => by rw [evE]
    · cases hc
  | .ks s, S, k, h, cc, X, wx, g, x, hc => by
    unfold chkE at hc
    split at hc
    · rw [of_decide_eq_true hc]
      exact (j_c pe_str fun _ _ => .str _).to fun ρ M => by rw [evE]
    · cases hc
  | .neg a, S, k, h, cc, X, wx, g, x, hc => by
    unfold chkE at hc
    split at hc
    · exact (j_neg (sE a g hc)).to fun ρ M => by rw [evE] <;> rfl
    · cases hc
  | .never, S, k, h, cc, X, wx, g, x, hc => j_bad fun ρ M => by rw [evE]
  | .bin op a b, S, k, h, cc, X, wx, g, x, hc => by
    unfold chkE at hc
    split at hc
    · simp only [Bool.and_eq_true, decide_eq_true_eq] at hc
      obtain ⟨⟨rfl, h1⟩, h2⟩ := hc
      exact (j_op2 (op_binZ g.eK op) (sE a g h1) (sE b g h2)).to fun ρ M => by rw [evE]
    · cases hc
  | .madd a b, S, k, h, cc, X, wx, g, x, hc => by
    unfold chkE at hc
    split at hc
    · simp only [Bool.and_eq_true] at hc
      exact (j_op2 op_addM (sE a g hc.1) (sE b g hc.2)).to fun ρ M => by rw [evE]
    · cases hc
  | .cmp op a b, S, k, h, cc, X, wx, g, x, hc => by
    unfold chkE at hc
    split at hc
    · simp only [Bool.and_eq_true, decide_eq_true_eq] at hc
      obtain ⟨⟨⟨rfl, h0⟩, h1⟩, h2⟩ := hc
      exact (j_cmp (op_cmpZ g.eK g.units op) (sE a g h1) (sE b g h2) (notSet_m h0)).to fun ρ M => by rw [evE] <;> rfl
    · cases hc
  | .chain o1 o2 a b c, S, k, h, cc, X, wx, g, x, hc => by
    unfold chkE at hc
    split at hc
    · simp only [Bool.and_eq_true, decide_eq_true_eq] at hc
      obtain ⟨⟨⟨⟨⟨rfl, rfl⟩, h0⟩, h1⟩, h2⟩, h3⟩ := hc
      exact (j_chain (op_cmpZ g.eK g.units o1) (op_cmpZ g.eK g.units o2) (sE a g h1) (sE b g h2) (sE c g h3) (notSet_l h0)).to fun ρ M => by rw [evE]
    · cases hc
  | .and es, S, k, h, cc, X, wx, g, x, hc => by
    unfold chkE at hc
    split at hc
    · exact (sAnd es g hc).to fun ρ M => by rw [evE]
    · cases hc
  | .or es, S, k, h, cc, X, wx, g, x, hc => by
    unfold chkE at hc
    split at hc
    · exact (sOr es g hc).to fun ρ M => by rw [evE]
    · cases hc
  | .not a, S, k, h, cc, X, wx, g, x, hc => by
    unfold chkE at hc
    split at hc
    · exact (j_not g (sE a g hc)).to fun ρ M => by rw [evE]
    · cases hc
  | .ite c a b, S, k, h, cc, X, wx, g, x, hc => by
    unfold chkE at hc
    split at hc
    · simp only [Bool.and_eq_true] at hc
      exact (j_ite (sT c g hc.1.1) (sE a g hc.1.2) (sE b g hc.2)).to fun ρ M => by rw [evE]
    · cases hc
  | .tup es, S, k, h, cc, X, wx, g, x, hc => by
    unfold chkE at hc
    split at hc
    · simp only [Bool.and_eq_true, decide_eq_true_eq] at hc
      exact (j_tup (sEs es g hc.1.1 hc.1.2) fun ρ M zs M' e => by rw [evEs_len hc.1.1 ρ M zs M' e]; exact hc.2).to fun ρ M => by rw [evE]
    · cases hc
  | .lst es, S, k, h, cc, X, wx, g, x, hc => by
    unfold chkE at hc
    split at hc
    · simp only [Bool.and_eq_true, decide_eq_true_eq] at hc
      exact (j_lst (sEs es g hc.1.1 hc.1.2) fun ρ M zs M' e => by rw [evEs_len hc.1.1 ρ M zs M' e]; exact hc.2).to fun ρ M => by rw [evE]
    · cases hc
  | .mls es, S, k, h, cc, X, wx, g, x, hc => by
    unfold chkE at hc
    split at hc
    · simp only [Bool.and_eq_true, decide_eq_true_eq] at hc
      exact (j_mls (sEs es g hc.1.1 hc.1.2) fun ρ M zs M' e => by rw [evEs_len hc.1.1 ρ M zs M' e]; exact hc.2).to fun ρ M => by rw [evE] <;> rfl
    · cases hc
  | .call f es, S, k, h, cc, X, wx, g, x, hc => by
    unfold chkE at hc
    split at hc
    · rename_i y p ys pos
      simp only [Bool.and_eq_true, decide_eq_true_eq] at hc
      obtain ⟨⟨⟨⟨h1, h2⟩, h3⟩, h4⟩, h5⟩ := hc
      cases ys with
      | nil =>
        cases es with
        | nil => exact (j_call0 g h1 h2 h3).to fun ρ M => by rw [evE, evEs, cfg_hot]
        | cons _ _ => exact absurd rfl (chkEs_len h4)
      | cons y ys => exact (j_call g h1 h2 h3 (sEs es g h4 h5) h5).to fun ρ M => by rw [evE, cfg_hot]
    · cases hc
  | .bi b es, S, k, h, cc, X, wx, g, x, hc => by
    unfold chkE at hc
    split at hc
    · simp only [Bool.and_eq_true, decide_eq_true_eq] at hc
      obtain ⟨⟨⟨rfl, h1⟩, h2⟩, h3⟩ := hc
      cases hw : h && b.walks with
      | true => exact j_bad fun ρ M => by rw [evE, cfg_hot, if_pos hw]
      | false => exact (j_bi g hw (sEs es g h2 h3) h3 h1).to fun ρ M => by rw [evE, cfg_hot, if_neg (by rw [hw]; exact Bool.false_ne_true)]
    · cases hc
  | .isi a t, S, k, h, cc, X, wx, g, x, hc => by
    unfold chkE at hc
    split at hc
    · simp only [Bool.and_eq_true, decide_eq_true_eq] at hc
      obtain ⟨⟨⟨⟨⟨rfl, h1⟩, rfl⟩, h2⟩, h3⟩, h4⟩ := hc
      exact (j_isi g (sE a g h3) h4 h1 h2).to fun ρ M => by rw [evE]
    · cases hc
  | .isx i c, S, k, h, cc, X, wx, g, x, hc => by
    unfold chkE at hc
    split at hc
    · simp only [Bool.and_eq_true, decide_eq_true_eq] at hc
      obtain ⟨⟨⟨⟨⟨⟨⟨⟨h0, rfl⟩, h2⟩, h3⟩, h4⟩, h5⟩, h6⟩, h7⟩, h8⟩ := hc
      exact (j_isx g h0 h2 h3 h4 h5 h6 h7 h8).to fun ρ M => by rw [evE, cfg_sub] <;> rfl
    · cases hc
  | .isv i, S, k, h, cc, X, wx, g, x, hc => by
    unfold chkE at hc
    split at hc
    · simp only [Bool.and_eq_true, decide_eq_true_eq] at hc
      obtain ⟨⟨⟨⟨⟨⟨⟨h0, rfl⟩, h2⟩, h3⟩, h4⟩, h5⟩, rfl⟩, h7⟩ := hc
      exact (j_isv g h0 h2 h3 h4 h5 h7).to fun ρ M => by rw [evE, cfg_sub] <;> rfl
    · cases hc
  | .mth m o es, S, k, h, cc, X, wx, g, x, hc => by
    unfold chkE at hc
    split at hc
    · rename_i y n ap zs p
      simp only [Bool.and_eq_true, decide_eq_true_eq] at hc
      obtain ⟨⟨⟨⟨⟨⟨⟨rfl, hk⟩, h1⟩, h2⟩, h3⟩, h4⟩, h5⟩, h6⟩ := hc
      cases es with
      | nil =>
        have hz : zs = [] := chkEs_len h4
        subst hz
        have hm : m = .lower ∨ m = .upper ∨ m = .swapcase := by cases m <;> first | exact .inl rfl | exact .inr (.inl rfl) | exact .inr (.inr rfl) | cases hk
        exact (j_m0 g hm (sE o g h3) h1 h2).to fun ρ M => by rw [evE]; simp only [evEs]
      | cons e r =>
        cases r with
        | nil =>
          unfold chkEs at h4
          split at h4
          · rename_i z zs
            simp only [Bool.and_eq_true] at h4
            have hz : zs = [] := chkEs_len h4.2
            subst hz
            have hn : notStar z = true := by simpa using h5
            have hm : (m = .split ∨ m = .join ∨ m = .count) ∨ m = .append := by cases m <;> first | exact .inl (.inl rfl) | exact .inl (.inr (.inl rfl)) | exact .inl (.inr (.inr rfl)) | exact .inr rfl | cases hk
            rcases hm with hm | rfl
            · exact (j_m1 g hm (sE o g h3) (sE e g h4.1) hn h1 h2).to fun ρ M => by rw [evE]; simp only [evEs]
            · exact (j_app g (sE o g h3) (sE e g h4.1) hn h1 h2).to fun ρ M => by rw [evE]; simp only [evEs]
          · cases h4
        | cons e2 r2 =>
          unfold chkEs at h4
          split at h4
          · rename_i z zs
            simp only [Bool.and_eq_true] at h4
            have hz := chkEs_len h4.2
            cases zs with
            | nil => exact absurd rfl hz
            | cons a zs => cases m <;> cases hk
          · cases h4
    · cases hc
  | .sub o i, S, k, h, cc, X, wx, g, x, hc => by
    unfold chkE at hc
    split at hc
    · simp only [Bool.and_eq_true] at hc
      exact (j_sub g (sE o g hc.1.2) (sE i g hc.2) hc.1.1).to fun ρ M => by rw [evE]
    · cases hc
  | .slc o lo hi, S, k, h, cc, X, wx, g, x, hc => by
    unfold chkE at hc
    split at hc
    · simp only [Bool.and_eq_true] at hc
      exact (j_slc g (sE o g hc.1.1) (sO lo g hc.1.2) (sO hi g hc.2)).to fun ρ M => by rw [evE]
    · cases hc
  | .rev o, S, k, h, cc, X, wx, g, x, hc => by
    unfold chkE at hc
    split at hc
    · exact (j_rev g (sE o g hc)).to fun ρ M => by
        rw [evE]
        rfl
    · cases hc
  | .lc elt tg it cond own, S, k, h, cc, X, wx, g, x, hc => by
    unfold chkE at hc
    split at hc
    · simp only [Bool.and_eq_true] at hc
      obtain ⟨⟨⟨⟨⟨⟨⟨h1, h2⟩, h3⟩, h4⟩, h5⟩, h6⟩, h7⟩, h8⟩ := hc
      refine (j_lc g (sI it g h1) h3 h4 (fun i hi => ?_) h6 (fun X' g' => sC cond g' h7) (fun X' g' => sE elt g' h8) (notSet_f h2 _)).to fun ρ M => by rw [evE]
      cases tg with
      | nm j =>
        have : i = j := by simpa [Tg.ids] using hi
        rw [this]
        simpa using h5
      | tp js =>
        have := List.all_eq_true.mp h5 i hi
        simpa using this
    · cases hc
  | .xat i f, S, k, h, cc, X, wx, g, x, hc => by
    unfold chkE at hc
    split at hc
    · simp only [Bool.and_eq_true, decide_eq_true_eq] at hc
      obtain ⟨⟨⟨⟨⟨h0, h1⟩, h2⟩, h3⟩, h4⟩, h5⟩ := hc
      subst h4
      exact (j_xat g h0 h1 h2 h3 h5).to fun ρ M => by rw [evE] <;> rfl
    · cases hc
  | .clo i es, S, k, h, cc, X, wx, g, x, hc => by
    unfold chkE at hc
    split at hc
    · simp only [Bool.and_eq_true, decide_eq_true_eq] at hc
      obtain ⟨⟨⟨⟨h0, h1⟩, h2⟩, h3⟩, h4⟩ := hc
      cases es with
      | nil => exact (j_clo g h0 h2 h3 h4).to fun ρ M => by rw [evE, cfg_hot] <;> simp only [evEs] <;> rfl
      | cons _ _ => cases h1
    · cases hc
  | .callL f es ps b, S, k, h, cc, X, wx, g, x, hc => by
    unfold chkE at hc
    split at hc
    · simp only [Bool.and_eq_true, decide_eq_true_eq] at hc
      obtain ⟨⟨⟨⟨⟨⟨⟨⟨h0, h1⟩, h2⟩, h3⟩, h4⟩, h5⟩, h6⟩, h7⟩, h8⟩ := hc
      cases es with
      | nil =>
        cases ps with
        | nil => exact (j_callL g h0 h3 h4 h5 h6 h7 fun g' => sE b g' h8).to fun ρ M => by rw [evE, cfg_hot] <;> simp only [evEs]
        | cons _ _ => cases h2
      | cons _ _ => cases h1
    · cases hc
  | .callW f i es, S, k, h, cc, X, wx, g, x, hc => by
    unfold chkE at hc
    split at hc
    · simp only [Bool.and_eq_true, decide_eq_true_eq] at hc
      obtain ⟨⟨⟨⟨⟨⟨⟨h1, h2⟩, h3⟩, h4⟩, h5⟩, h6⟩, h7⟩, h8⟩ := hc
      exact (j_callW g h1 h2 h3 h4 h5 h6 (sEs es g h7 h8) h8).to fun ρ M => by rw [evE, cfg_hot] <;> rfl
    · cases hc
  | .callX f i, S, k, h, cc, X, wx, g, x, hc => by
    unfold chkE at hc
    split at hc
    · simp only [Bool.and_eq_true, decide_eq_true_eq] at hc
      obtain ⟨⟨⟨⟨⟨⟨h0, h1⟩, h2⟩, h3⟩, h4⟩, h5⟩, h6⟩ := hc
      exact (j_callX g h0 h1 h2 h3 h4 h5 h6).to fun ρ M => by rw [evE, cfg_hot] <;> cases h <;> rfl
    · cases hc
  | .sln i, S, k, h, cc, X, wx, g, x, hc => by
    unfold chkE at hc
    split at hc
    · simp only [Bool.and_eq_true, decide_eq_true_eq] at hc
      obtain ⟨⟨⟨⟨rfl, h2⟩, h3⟩, h4⟩, h5⟩ := hc
      exact (j_sln g h2 h3 h4 h5).to fun ρ M => by rw [evE] <;> rfl
    · cases hc
  | .six i e, S, k, h, cc, X, wx, g, x, hc => by
    unfold chkE at hc
    split at hc
    · simp only [Bool.and_eq_true, decide_eq_true_eq] at hc
      obtain ⟨⟨⟨⟨h1, h2⟩, h3⟩, h4⟩, h5⟩ := hc
      exact (j_six g h1 h2 h3 (sE e g h5) h4).to fun ρ M => by rw [evE] <;> rfl
    · cases hc
theorem sEs : ∀ (es : Es) {S : Sc} {k : Nat} {h : Bool} {cc : CC} {X : Cx} {wx : WX} (_ : GX W G S k h cc X wx) {ys : List Expr}, chkEs G cc es ys = true → ys.all notStar = true → PA X ys (tDs W S wx (evEs (W.cfg k h) es))
  | .nil, S, k, h, cc, X, wx, g, ys, hc, hn => by
    unfold chkEs at hc
    split at hc
    · exact j_nil.to fun ρ M => by rw [evEs]
    · cases hc
  | .cons e r, S, k, h, cc, X, wx, g, ys, hc, hn => by
    unfold chkEs at hc
    split at hc
    · simp only [Bool.and_eq_true] at hc
      rw [List.all_cons, Bool.and_eq_true] at hn
      exact (j_cons (sE e g hc.1) (sEs r g hc.2 hn.2) hn.1).to fun ρ M => by rw [evEs]
    · cases hc
theorem sAnd : ∀ (es : Es) {S : Sc} {k : Nat} {h : Bool} {cc : CC} {X : Cx} {wx : WX} (_ : GX W G S k h cc X wx) {ys : List Expr} {pos : Pos}, chkEs G cc es ys = true → PE X (.BoolOp .And ys pos) (tD W S wx (evAnd (W.cfg k h) es))
  | .nil, S, k, h, cc, X, wx, g, ys, pos, hc => j_bad fun ρ M => by rw [evAnd]
  | .cons e .nil, S, k, h, cc, X, wx, g, ys, pos, hc => by
    unfold chkEs at hc
    split at hc
    · simp only [Bool.and_eq_true] at hc
      have hz := chkEs_len hc.2
      dsimp only at hz
      subst hz
      exact (pe_and1 (sE e g hc.1)).to fun ρ M => by rw [evAnd]
    · cases hc
  | .cons e (.cons e2 r), S, k, h, cc, X, wx, g, ys, pos, hc => by
    unfold chkEs at hc
    split at hc
    · rename_i y ys
      simp only [Bool.and_eq_true] at hc
      have hz := chkEs_len hc.2
      cases ys with
      | nil => exact absurd rfl hz
      | cons b ys => exact (j_and (sE e g hc.1) (sAnd (.cons e2 r) g hc.2)).to fun ρ M => by rw [evAnd]; intro z; cases z
    · cases hc
theorem sOr : ∀ (es : Es) {S : Sc} {k : Nat} {h : Bool} {cc : CC} {X : Cx} {wx : WX} (_ : GX W G S k h cc X wx) {ys : List Expr} {pos : Pos}, chkEs G cc es ys = true → PE X (.BoolOp .Or ys pos) (tD W S wx (evOr (W.cfg k h) es))
  | .nil, S, k, h, cc, X, wx, g, ys, pos, hc => j_bad fun ρ M => by rw [evOr]
  | .cons e .nil, S, k, h, cc, X, wx, g, ys, pos, hc => by
    unfold chkEs at hc
    split at hc
    · simp only [Bool.and_eq_true] at hc
      have hz := chkEs_len hc.2
      dsimp only at hz
      subst hz
      exact (pe_or1 (sE e g hc.1)).to fun ρ M => by rw [evOr]
    · cases hc
  | .cons e (.cons e2 r), S, k, h, cc, X, wx, g, ys, pos, hc => by
    unfold chkEs at hc
    split at hc
    · rename_i y ys
      simp only [Bool.and_eq_true] at hc
      have hz := chkEs_len hc.2
      cases ys with
      | nil => exact absurd rfl hz
      | cons b ys => exact (j_or (sE e g hc.1) (sOr (.cons e2 r) g hc.2)).to fun ρ M => by rw [evOr]; intro z; cases z
    · cases hc
theorem sO : ∀ (o : Eo) {S : Sc} {k : Nat} {h : Bool} {cc : CC} {X : Cx} {wx : WX} (_ : GX W G S k h cc X wx) {y : Option Expr}, chkO G cc o y = true → PO X y (tDO W S wx (evO (W.cfg k h) o))
  | .no, S, k, h, cc, X, wx, g, y, hc => by
    unfold chkO at hc
    split at hc
    · exact jo_no.to fun ρ M => by rw [evO]
    · cases hc
  | .so e, S, k, h, cc, X, wx, g, y, hc => by
    unfold chkO at hc
    split at hc
    · exact (jo_so (sE e g hc)).to fun ρ M => by rw [evO] <;> rfl
    · cases hc
theorem sT : ∀ (t : T) {S : Sc} {k : Nat} {h : Bool} {cc : CC} {X : Cx} {wx : WX} (_ : GX W G S k h cc X wx) {x : Expr}, chkT G cc t x = true → PT X x (tDT W S wx (evT (W.cfg k h) t))
  | .and ts, S, k, h, cc, X, wx, g, x, hc => by
    unfold chkT at hc
    split at hc
    · exact (sTA ts g hc).pt.to fun ρ M => by rw [evT]
    · cases hc
  | .or ts, S, k, h, cc, X, wx, g, x, hc => by
    unfold chkT at hc
    split at hc
    · exact (sTO ts g hc).pt.to fun ρ M => by rw [evT]
    · cases hc
  | .not t, S, k, h, cc, X, wx, g, x, hc => by
    unfold chkT at hc
    split at hc
    · exact (jt_not (sT t g hc)).to fun ρ M => by rw [evT]
    · cases hc
  | .cmp op a b, S, k, h, cc, X, wx, g, x, hc => by
    unfold chkT at hc
    split at hc
    · simp only [Bool.and_eq_true, decide_eq_true_eq] at hc
      obtain ⟨⟨⟨rfl, h0⟩, h1⟩, h2⟩ := hc
      exact (jt_cmp (op_cmpZ g.eK g.units op) (sE a g h1) (sE b g h2) (notSet_m h0)).to fun ρ M => by rw [evT]
    · cases hc
  | .chain o1 o2 a b c, S, k, h, cc, X, wx, g, x, hc => by
    unfold chkT at hc
    split at hc
    · simp only [Bool.and_eq_true, decide_eq_true_eq] at hc
      obtain ⟨⟨⟨⟨⟨rfl, rfl⟩, h0⟩, h1⟩, h2⟩, h3⟩ := hc
      exact (jt_chain (op_cmpZ g.eK g.units o1) (op_cmpZ g.eK g.units o2) (sE a g h1) (sE b g h2) (sE c g h3) (notSet_l h0)).to fun ρ M => by rw [evT]
    · cases hc
  | .e e, S, k, h, cc, X, wx, g, x, hc => by
    unfold chkT at hc
    rw [Bool.and_eq_true] at hc
    exact (jt_e g (sE e g hc.2) hc.1).to fun ρ M => by rw [evT]
theorem sTA : ∀ (ts : Ts) {S : Sc} {k : Nat} {h : Bool} {cc : CC} {X : Cx} {wx : WX} (_ : GX W G S k h cc X wx) {ys : List Expr} {pos : Pos}, chkTs G cc ts ys = true → PW X (.BoolOp .And ys pos) (tDT W S wx (evTA (W.cfg k h) ts))
  | .nil, S, k, h, cc, X, wx, g, ys, pos, hc => by
    unfold chkTs at hc
    cases hc
  | .cons t .nil, S, k, h, cc, X, wx, g, ys, pos, hc => by
    unfold chkTs at hc
    split at hc
    · exact (jt_and1 (sT t g hc)).to fun ρ M => by simp only [evTA]
    · cases hc
  | .cons t (.cons t2 r), S, k, h, cc, X, wx, g, ys, pos, hc => by
    unfold chkTs at hc
    · split at hc
      · rename_i y ys
        simp only [Bool.and_eq_true] at hc
        have ih := fun p => sTA (.cons t2 r) g (ys := ys) (pos := p) hc.2
        cases ys with
        | nil =>
          exfalso
          have := hc.2
          cases r <;> unfold chkTs at this <;> first | cases this | (intro z; cases z)
        | cons b ys => exact (jt_and (sT t g hc.1) (ih pos)).to fun ρ M => by rw [evTA]
      · cases hc
theorem sTO : ∀ (ts : Ts) {S : Sc} {k : Nat} {h : Bool} {cc : CC} {X : Cx} {wx : WX} (_ : GX W G S k h cc X wx) {ys : List Expr} {pos : Pos}, chkTs G cc ts ys = true → PW X (.BoolOp .Or ys pos) (tDT W S wx (evTO (W.cfg k h) ts))
  | .nil, S, k, h, cc, X, wx, g, ys, pos, hc => by
    unfold chkTs at hc
    cases hc
  | .cons t .nil, S, k, h, cc, X, wx, g, ys, pos, hc => by
    unfold chkTs at hc
    split at hc
    · exact (jt_or1 (sT t g hc)).to fun ρ M => by simp only [evTO]
    · cases hc
  | .cons t (.cons t2 r), S, k, h, cc, X, wx, g, ys, pos, hc => by
    unfold chkTs at hc
    · split at hc
      · rename_i y ys
        simp only [Bool.and_eq_true] at hc
        have ih := fun p => sTO (.cons t2 r) g (ys := ys) (pos := p) hc.2
        cases ys with
        | nil =>
          exfalso
          have := hc.2
          cases r <;> unfold chkTs at this <;> first | cases this | (intro z; cases z)
        | cons b ys => exact (jt_or (sT t g hc.1) (ih pos)).to fun ρ M => by rw [evTO]
      · cases hc
theorem sC : ∀ (t : To) {S : Sc} {k : Nat} {h : Bool} {cc : CC} {X : Cx} {wx : WX} (_ : GX W G S k h cc X wx) {ys : List Expr}, chkC G cc t ys = true → PTs X ys (tDT W S wx (evC (W.cfg k h) t))
  | .no, S, k, h, cc, X, wx, g, ys, hc => by
    unfold chkC at hc
    split at hc
    · exact pts_no.to fun ρ M => by rw [evC]
    · cases hc
  | .so t, S, k, h, cc, X, wx, g, ys, hc => by
    unfold chkC at hc
    split at hc
    · exact (pts_one (sT t g hc)).to fun ρ M => by rw [evC]
    · cases hc
theorem sI : ∀ (i : Iz) {S : Sc} {k : Nat} {h : Bool} {cc : CC} {X : Cx} {wx : WX} (_ : GX W G S k h cc X wx) {t x : Expr}, chkI G cc i t x = true → Hh.PIM (MdH h) X t x (iZ W S wx (evI (W.cfg k h) i))
  | .it e, S, k, h, cc, X, wx, g, t, x, hc => by
    unfold chkI at hc
    exact (pj_it g (sE e g hc)).to fun ρ M => by rw [evI, cfg_hot]
  | .rng1 e, S, k, h, cc, X, wx, g, t, x, hc => by
    unfold chkI at hc
    split at hc
    · simp only [Bool.and_eq_true, decide_eq_true_eq] at hc
      obtain ⟨⟨⟨rfl, h1⟩, h2⟩, h3⟩ := hc
      exact (pj_rng1 g (sE e g h2) h3 h1).to fun ρ M => by rw [evI, cfg_hot] <;> rfl
    · cases hc
  | .rng2 a b, S, k, h, cc, X, wx, g, t, x, hc => by
    unfold chkI at hc
    split at hc
    · simp only [Bool.and_eq_true, decide_eq_true_eq] at hc
      obtain ⟨⟨⟨⟨⟨rfl, h1⟩, h2⟩, h3⟩, h4⟩, h5⟩ := hc
      exact (pj_rng2 g (sE a g h2) (sE b g h3) h4 h5 h1).to fun ρ M => by rw [evI, cfg_hot] <;> rfl
    · cases hc
  | .zip a b, S, k, h, cc, X, wx, g, t, x, hc => by
    unfold chkI at hc
    split at hc
    · simp only [Bool.and_eq_true, decide_eq_true_eq] at hc
      obtain ⟨⟨⟨⟨⟨⟨h0, rfl⟩, h1⟩, h2⟩, h3⟩, h4⟩, h5⟩ := hc
      exact (pj_zip g h0 (sE a g h2) (sE b g h3) h4 h5 h1).to fun ρ M => by rw [evI] <;> rfl
    · cases hc
  | .enum a, S, k, h, cc, X, wx, g, t, x, hc => by
    unfold chkI at hc
    split at hc
    · simp only [Bool.and_eq_true, decide_eq_true_eq] at hc
      obtain ⟨⟨⟨⟨h0, rfl⟩, h1⟩, h2⟩, h3⟩ := hc
      exact (pj_enum g h0 (sE a g h2) h3 h1).to fun ρ M => by rw [evI, cfg_hot] <;> rfl
    · cases hc
end
end
end Zt
namespace Zt
open PySem PySem.Spec PyProof.Rows L2
theorem upd_back {H : Hp} {a d : Addr} {u w o : HO} (hn : H a = none) (hd : d ≠ a) : upd (del (upd (upd (upd H a u) d w) a o) a) d (.xd fs) = upd H d (.xd fs) := by
  funext b
  by_cases h1 : b = d
  · rw [h1, upd_same, upd_same]
  · rw [upd_ne h1, upd_ne h1]
    by_cases h2 : b = a
    · rw [h2, del_same, hn]
    · rw [del_ne h2, upd_ne h2, upd_ne h1, upd_ne h2]
theorem mk_oexN {X : Cx} {x f : Str} {C fI : Addr} {k : Nat} {fd : FuncData} {ps : List Str} {e : Expr} {te : TE} {p pos : Pos} (T : OexC X.K C) (hi : PySem.W.findIn X.K (.ref C) "__init__" = some (some (.ref fI))) (ht : PySem.W.typeIn X.K (.ref fI) = some (.type "function"))
    (F : FnOk X.prog X.w X.K X.mg X.base (L2N.CX X.prog X.w) k fI fd ps (spInit C f)) (room : Room (k + 1) X.A) (bnd : L2.Binds X.K fd ps []) (gx : Gl X x) (mx : X.mg x = some (.ref C)) (hdb : (x == ("__debug__" : Str)) = false) (he : PE X e te) (hst : notStar e = true) :
    L2N.PMk X (.Call (.Name x p) [e] [] pos) (fun σ H Q => te σ H fun v H1 => ∀ d, H1 d = none → Q (.ref C) (some d) (upd H1 d (.xd [(f, v)]))) := by
  intro pins s σ H Q I h
  have pa : PA X [e] (tCons te tNil) := pa_cons he pa_nil (by cases e <;> first | rfl | cases hst)
  obtain ⟨nm, q, N, bs, bm, sn, sub, ab, col, dd, k0, k1, k2, k3, k5, lk, tail⟩ := T.cls
  refine wpAny_Call_Name_kw (ld_glob I gx mx ?_ hdb)
  let P : V → Hp → Prop := fun v H1 => ∀ d, H1 d = none → Q (.ref C) (some d) (upd H1 d (.xd [(f, v)]))
  have arg := pa.run pos pins s σ H (fun vs H1 => match vs with
    | [v] => P v H1
    | _ => False) I h
  refine PySem.W.callWith_K (h₀ := X.base) I.ok.mod.kin T.kC (thn arg fun us s1 hh => ?_) (by cases e <;> first | rfl | cases hst) rfl
  obtain ⟨vs, H1, I1, r1, q1⟩ := hh
  cases r1 with
  | nil => exact q1.elim
  | @cons v u vs us ru rr =>
    cases rr with
    | cons _ _ => exact q1.elim
    | nil =>
      have q1 : P v H1 := q1
      refine ⟨I1.kIn, ?_⟩
      show wpAny _ _ (call (.ref C) [u]) _ _ _
      obtain ⟨hp, gs, dr, tk, os⟩ := s1
      have big : hp.objs.size ≤ hp.objs.size + 1 := Nat.le_succ _
      have fresh : H1 (hp.objs.size + 1) = none := I1.hok.fresh big
      obtain ⟨a0, hA⟩ : ∃ a0 : Addr, a0 = hp.objs.size + 1 := ⟨_, rfl⟩
      rw [← hA] at fresh big
      let hp1 : Heap := (hp.push (PySem.W.kdv_tup [u])).push (PySem.HandSPX.excO C hp.objs.size)
      have kept : ∀ b o, hp.get? b = some o → hp1.get? b = some o := fun b o z => Heap.get?_push_of_some _ (Heap.get?_push_of_some _ z)
      have there : hp1.get? a0 = some (PySem.HandSPX.excO C hp.objs.size) := by
        subst hA
        show ((hp.push (PySem.W.kdv_tup [u])).push (PySem.HandSPX.excO C hp.objs.size)).get? (hp.objs.size + 1) = _
        heap_get
      have I2 : Inv X pins σ (upd H1 a0 (exo a0 C none)) ⟨hp1, gs, dr, tk, os⟩ := I1.laid (t' := tk) (a := a0) (o := exo a0 C none) (h' := hp1) kept big (exo_ok there)
      have sp : spInit C f [.ref a0, v] (upd H1 a0 (exo a0 C none)) (fun z H2 => z = .non ∧ ∃ d, H2 a0 = some (exo a0 C (some d)) ∧ H2 d = some (exd d [(f, v)]) ∧ H1 d = none ∧ Q (.ref C) (some d) (upd (del H2 a0) d (.xd [(f, v)]))) (fun _ _ _ => False) := by
        refine ⟨a0, v, rfl, upd_same, fun dx n ne => ⟨rfl, dx, upd_same, by rw [upd_ne ne, upd_same], ?_, ?_⟩⟩
        · rw [upd_ne ne] at n
          exact n
        · rw [upd_back fresh ne]
          rw [upd_ne ne] at n
          exact q1 dx n
      have vals : Vals [V.ref a0, v] ([Value.ref a0, u] ++ []) := .cons rfl (.cons ru .nil)
      have hl : ([Value.ref a0, u] ++ []).length = ps.length := by
        have e2 := vals.length
        rw [F.len _ _ _ _ sp] at e2
        exact e2.symm
      subst hA
      refine wpAny_call (PySem.HandSPX.call_own PySem.F.excBase_ValueError (fun Y => PySem.HandSPX.refsVE_contains Y bm tail) (I1.kIn _ _ lk) (PySem.W.looks_findIn I1.kIn hi) (fun self => PySem.W.bind_fn I1.kIn self ht) (show 1 ≤ sizeLine by decide) ?_)
      have run := F.run _ X.stack _ _ ⟨[Value.ref (hp.objs.size + 1), u], []⟩ ([Value.ref (hp.objs.size + 1), u] ++ []) _ _ (fun _ _ _ => False) (room.make C [u] []) (I2.env0.make C [u] []) (bnd _ [Value.ref (hp.objs.size + 1), u] I2.kIn hl) vals sp
      refine codeAny_mono run fun r s' back => ?_
      cases r with
      | error er =>
        obtain ⟨_, _, _, _, _, _, _, _, _, _, _, _, bad⟩ := back
        exact bad.elim
      | ok fl =>
        cases fl with
        | ret w =>
          obtain ⟨z, H2, os2, bare2, un2, hok2, rz, ev, d, ea, ed, hd1, q2⟩ := back
          subst ev
          obtain ⟨h2, g2, d2, t2, os'⟩ := s'
          obtain ⟨t0, G, J, kG, ge, hoe, na⟩ := L2.mk_end0 (d2 := d2) (t2 := t2) I1 big kept un2 hok2 os2 bare2 ea ed hd1
          exact ⟨rz, hp.objs.size + 1, _, _, ⟨G, g2, d2, t2, os'⟩, _, .ref C, some d, rfl, J, kG, ge, hoe, ⟨rfl, rfl, fun vs e => by cases e; rfl⟩, rfl, rfl, na, rfl, bare2, raises_own T.exC T.tyC, q2⟩
        | next => exact False.elim back
        | brk => exact False.elim back
        | cont => exact False.elim back
end Zt
set_option maxHeartbeats 4000000
namespace Zt
open PySem PySem.Spec PyProof.Rows L2
theorem sws {y z : Expr} {l : Nat} {env : PySem.Env} (h : chkS0 z = true) : swapsWithSole [y] z l env = pure false := by
  cases z <;> first | rfl | cases h
theorem sws0 {z : Expr} {l : Nat} {env : PySem.Env} (h : chkS0 z = true) : swapsWith z none l env = pure false := by
  cases z <;> first | rfl | cases h
theorem swp {y z : Expr} {env : PySem.Env} (hl : ∀ es p, y ≠ .List es p) (h : (notTup y || notTup z) = true) : swappedStores [y] z env = pure none := by
  cases y <;> first | rfl | skip
  · rename_i es p
    exact absurd rfl (hl es p)
  · cases z <;> first | rfl | cases h
section
variable {W : Wd} {G : Stat}
theorem js_raise {S : Sc} {k : Nat} {h : Bool} {cc : CC} {X : Cx} {wx : WX} (g : GX W G S k h cc X wx) {c j : Nat} {x m : Str} {p p2 pos' pos : Pos} (hpl : G.pl[c]? = some true) (hx : G.cn[c]? = some x) (hg : isGlob cc x = true) (hp : plainName x = true) :
    PS X (.Raise (some (.Call (.Name x p) [.Constant (.str m) j p2] [] pos')) none pos) (tS W S wx fun ρ M => if h then .bad else .ex ⟨c, []⟩ ρ M) := by
  cases h with
  | true => exact bad_s fun ρ M => if_pos rfl
  | false =>
    obtain ⟨C, h1, h2, h3, h4, h5, h6⟩ := g.ok.cls c x hx
    obtain ⟨q1, q2, _⟩ := plain_dbg hp
    refine (L2N.ps_raise (g.calm rfl).1 g.takes (L2N.pmk_own PySem.F.excBase_ValueError (by rw [g.eK]; exact h4 hpl) (by rw [g.eM]; exact h1) (by rw [g.eK]; exact h3) (raises_own (by rw [g.eK]; exact h5) (by rw [g.eK]; exact h6)) (g.gl hg) q1)).imp fun D σ H hq => ?_
    obtain ⟨ι, ρ, M, rl, e⟩ := hq
    have := e ι none σ H (Ext.refl _ _) rl ExF.nil
    rw [h2] at this
    exact this
theorem js_raiseI {S : Sc} {k : Nat} {h : Bool} {cc : CC} {X : Cx} {wx : WX} (g : GX W G S k h cc X wx) {c : Nat} {x f : Str} {e : Expr} {p pos' pos : Pos} {fe : Env → Mem → R Z} (hfl : G.fl[c]? = some (some f)) (hx : G.cn[c]? = some x) (hg : isGlob cc x = true) (hp : plainName x = true) (hst : notStar e = true) (he : PE X e (tD W S wx fe)) :
    PS X (.Raise (some (.Call (.Name x p) [e] [] pos')) none pos) (tS W S wx fun ρ M => if h || decide (k < 2) then .bad else (fe ρ M).st ρ fun z M1 => match z with
      | .d d => .ex ⟨c, [(f, d)]⟩ ρ M1
      | .r _ => .bad) := by
  cases h with
  | true => exact bad_s fun ρ M => if_pos rfl
  | false =>
    by_cases hk : k < 2
    · exact bad_s fun ρ M => if_pos (by rw [decide_eq_true hk]; rfl)
    · obtain ⟨C, h1, h2, h3, h4, h5, h6⟩ := g.ok.cls c x hx
      obtain ⟨C', fI, fd, ps, o1, o2, o3, o4, o5, o6⟩ := g.ok.own c f hfl
      rw [h2] at o1
      cases o1
      obtain ⟨q1, q2, _⟩ := plain_dbg hp
      have rm : Room (1 + 1) X.A := ⟨(g.calm rfl).2.hd, by have := (g.calm rfl).2.dp; omega, by have := (g.calm rfl).2.un; omega⟩
      rw [← g.eP, ← g.eW, ← g.eK, ← g.eM, ← g.eB] at o5
      rw [← g.eK] at o2 o3 o4 o6
      have key := L2N.ps_raise (pos := pos) (g.calm rfl).1 g.takes (mk_oexN (p := p) (pos := pos') o2 o3 o4 o5 rm o6 (g.gl hg) (by rw [g.eM]; exact h1) q1 he hst)
      refine key.imp fun D σ H hq => ?_
      obtain ⟨ι, ρ, M, rl, e⟩ := hq
      dsimp only at e
      rw [if_neg (by simp [hk])] at e
      refine ⟨ι, ρ, M, rl, ?_⟩
      cases r : fe ρ M with
      | bad => rw [r] at e; exact e
      | ex z M1 =>
        rw [r] at e
        exact fun ι' dx H' x' m xf => e ι' dx σ H' x' ⟨rl.s.mono x', m⟩ xf
      | ok z M1 =>
        rw [r] at e
        intro ι1 v H1 x1 m dz dd hdd
        cases dz with
        | r _ => exact e.elim
        | @d _ y dv =>
          have x2 : Ext ι1 H1 ι1 (upd H1 dd (.xd [(f, v)])) := Ext.new hdd
          have e : EndS W S wx D ι H (.ex ⟨c, [(f, y)]⟩ ρ M1) := e
          have := e ι1 (some dd) σ _ (x1.trans x2) ⟨rl.s.mono (x1.trans x2), m.new hdd⟩ ⟨fun z => (nomatch z), fun f' d' hl => by
            by_cases hf : f' = f
            · subst hf
              have hl : some y = some d' := by simpa [List.lookup] using hl
              cases hl
              exact ⟨dd, _, v, rfl, fun z => m.has dd z hdd, upd_same, by simp [List.lookup], dv.mono x2⟩
            · have hb : (f' == f) = false := by simpa using hf
              simp [List.lookup, hb] at hl⟩
          rw [h2] at this
          exact this
theorem call_err {X : Cx} {k : Nat} (eP : X.prog = W.P) (eW : X.w = W.w) (eK : X.K = W.K) (eM : X.mg = W.mg) (eB : X.base = W.base) (cl : Calls W G k) (hr : L2H.RoomH k X.A) {wx : WX} (tk : L2N.Takes X wx) {a : Addr} {c f : Nat} {dx : Option Addr} {fs : List (Str × D)} {oe : Obj} {x : Str} (ea : ErrAt W X.A a c dx oe) (hp : (a, oe) ∈ X.pn) (hx : G.nm[f]? = some x)
    {pins : List (Addr × Obj)} {s : Shared} {σ : L2.St} {H : Hp} {Q : VK} {ι : Io} {M : Mem} (I : Inv X pins σ H s) (m : MI W ι H M) (xf : ExF W.K ι H dx fs) (e : EndG W wx σ ι H (DenZ W.K) Q ((W.cfg k true).fnW true f (.exc ⟨c, fs⟩) [] M)) :
    wpAny (model X.prog X.w) X.A (call (.ref (W.fa f)) [.ref a]) (EP X pins σ Q) X.xe s := by
  have P1 := I.pin (a, oe) (List.mem_append_left _ hp)
  have pin : L2H.PinOk X.stack H s (a, oe) := ⟨P1.1, P1.2.1, fun hm => (List.mem_cons.mp (I.stkSub a hm)).elim P1.2.2.1 P1.2.2.2.1, P1.2.2.2.2⟩
  have e0 : Env0 W.P W.w W.K W.mg W.base X.A X.stack s H := by
    rw [← eP, ← eW, ← eK, ← eM, ← eB]
    exact I.env0
  have rc := cl.hotX f x hx X.A X.stack s H a c dx fs oe ι M Q (WE wx σ) ea pin hr e0 m xf (endF_of e)
  rw [← eP, ← eW] at rc
  refine wpAny_call (codeAny_mono rc fun r s' hr' => ?_)
  cases r with
  | error y => exact L2N.passAt tk σ pins H s y s' I hr'
  | ok fl =>
    cases fl with
    | ret u => exact I.after hr'
    | next => exact False.elim hr'
    | brk => exact False.elim hr'
    | cont => exact False.elim hr'
theorem gx_tr {S : Sc} {k : Nat} {cc : CC} {X : Cx} {wx wx' : WX} (g : GX W G S k false cc X wx) {pn : List (Addr × Obj)} {xe : Value → Shared → Prop} (tk : L2N.Takes (X.tr pn xe) wx') (hp : PassesOwn (model X.prog X.w) X.A X.env xe) : GX W G S k false cc (X.tr pn xe) wx' :=
  { eP := g.eP, eW := g.eW, eK := g.eK, eM := g.eM, eB := g.eB, eN := g.eN, nd := g.nd, eS := g.eS, room := g.room, calm := g.calm, hot := (fun z => nomatch z), takes := tk, pass := hp, st := g.st, fr := g.fr, ok := g.ok, calls := g.calls, lam := g.lam,
    xc := (fun _ z => nomatch z), xp := (fun hc a c dx hx => (g.nx rfl a c dx hx).elim), nx := g.nx, xl := (fun hc hh pn' xe' wx'' tk' => g.xl hc hh pn' xe' wx'' tk') }
/-- the clause knows the error -/
def scS (W : Wd) (S : Sc) (a : Addr) (cls : Value) (dx : Option Addr) : Sc := ⟨S.CL, S.mono, fun a' c' dx' => a' = a ∧ W.cv c' = cls ∧ dx' = dx⟩
theorem gx_suite {S : Sc} {k : Nat} {cc : CC} {X : Cx} {wx : WX} (g : GX W G S k false cc X wx) {a : Addr} {oe : Obj} {pn : List (Addr × Obj)} {cls : Value} {dx : Option Addr} (hz : L2N.Zn cls dx oe) (hf : ∃ vs, oe.data = .fields vs) : GX W G (scS W S a cls dx) k true cc (X.suite a ((a, oe) :: pn)) wx0 := by
  have ea : ∀ c, W.cv c = cls → ErrAt W (X.suite a ((a, oe) :: pn)).A a c dx oe := fun c e => ⟨⟨rfl, by
    obtain ⟨vs, hv⟩ := hf
    exact ⟨vs, hv, hz.2.2 vs hv⟩⟩, by rw [e]; exact hz.zc, hf⟩
  have rm : L2H.RoomH k (X.suite a ((a, oe) :: pn)).A := ⟨(g.calm rfl).2.dp, (g.calm rfl).2.un⟩
  have tk : L2N.Takes (X.suite a ((a, oe) :: pn)) wx0 := fun _ _ x => by
    obtain ⟨_, _, _, _, _, _, _, _, _, _, _, _, _, _, _, _, z⟩ := x
    exact z.elim
  have xc : ∀ (f : Nat) (x : Str) (a' : Addr) (c : Nat) (dx' : Option Addr) (fs : List (Str × D)), G.nm[f]? = some x → (scS W S a cls dx).XA a' c dx' → ∀ (pins : List (Addr × Obj)) (s : Shared) (σ : L2.St) (H : Hp) (Q : VK) (ι : Io) (M : Mem), Inv (X.suite a ((a, oe) :: pn)) pins σ H s → MI W ι H M → ExF W.K ι H dx' fs →
      EndG W wx0 σ ι H (DenZ W.K) Q ((W.cfg k true).fnW true f (.exc ⟨c, fs⟩) [] M) → wpAny (model (X.suite a ((a, oe) :: pn)).prog (X.suite a ((a, oe) :: pn)).w) (X.suite a ((a, oe) :: pn)).A (call (.ref (W.fa f)) [.ref a']) (EP (X.suite a ((a, oe) :: pn)) pins σ Q) (X.suite a ((a, oe) :: pn)).xe s := fun f x a' c dx' fs hx hxa pins s σ H Q ι M I m xf e => by
    obtain ⟨rfl, h2, rfl⟩ := hxa
    exact call_err (X := X.suite a' ((a', oe) :: pn)) g.eP g.eW g.eK g.eM g.eB (g.calls k (Nat.le_refl _)) rm tk (ea c h2) List.mem_cons_self hx I m xf e
  have xp : ∀ (a' : Addr) (c : Nat) (dx' : Option Addr), (scS W S a cls dx).XA a' c dx' → ∃ oe', (a', oe') ∈ (X.suite a ((a, oe) :: pn)).pn ∧ Zc (W.cv c) dx' oe' ∧ ∃ vs, oe'.data = .fields vs := fun a' c dx' hxa => by
    obtain ⟨rfl, h2, rfl⟩ := hxa
    exact ⟨oe, List.mem_cons_self, (ea c h2).zc, hf⟩
  have ho : L2H.HotC (X.suite a ((a, oe) :: pn)) := by
    obtain ⟨vs, hv⟩ := hf
    exact ⟨(a, oe), ⟨rfl, vs, hv, hz.2.2 vs hv⟩, List.mem_cons_self⟩
  exact { eP := g.eP, eW := g.eW, eK := g.eK, eM := g.eM, eB := g.eB, eN := g.eN, nd := g.nd, eS := g.eS, room := rm, calm := (fun z => nomatch z), hot := (fun _ => ho), takes := tk, pass := PassesOwn.never, st := g.st, fr := g.fr, ok := g.ok, calls := g.calls, lam := g.lam, xc := (fun _ _ => xc), xp := (fun _ => xp), nx := (fun z => nomatch z), xl := (fun _ z => nomatch z) }
theorem sr_toS {S : Sc} {a : Addr} {cls : Value} {dx : Option Addr} {ι : Io} {H : Hp} {σ : L2.St} {ρ : Env} (hn : ∀ a c dx, ¬ S.XA a c dx) (s : SR W.K S ι H σ ρ) : SR W.K (scS W S a cls dx) ι H σ ρ :=
  ⟨s.len, fun i sl q => by
    have h := s.ix i sl q
    cases sl with
    | exc e =>
      obtain ⟨a, dx, _, h2, _⟩ := h
      exact (hn a e.c dx h2).elim
    | _ => exact h⟩
theorem sr_ofS {S : Sc} {a : Addr} {cls : Value} {dx : Option Addr} {ι : Io} {H : Hp} {σ : L2.St} {ρ : Env} (s : SR W.K (scS W S a cls dx) ι H σ ρ) : SR W.K S ι H σ (dropx ρ) := by
  refine ⟨by simp [dropx, s.len], fun i sl q => ?_⟩
  unfold dropx at q
  rw [List.getElem?_map] at q
  cases e : ρ[i]? with
  | none => rw [e] at q; cases q
  | some s0 =>
    rw [e] at q
    have h := s.ix i s0 e
    cases s0 with
    | exc e => cases q; trivial
    | no => cases q; trivial
    | z v => cases q; exact h
    | clo a b c => cases q; exact h
    | scr ns => cases q; exact h
theorem sr_exc {S : Sc} {a : Addr} {cls : Value} {dx : Option Addr} {ι : Io} {H : Hp} {σ : L2.St} {ρ : Env} (s : SR W.K (scS W S a cls dx) ι H σ ρ) (i : Nat) {c : Nat} {fs : List (Str × D)} (hc : W.cv c = cls) (xf : ExF W.K ι H dx fs) : SR W.K (scS W S a cls dx) ι H (σ.set i (some (.ref a))) (ρ.set i (.exc ⟨c, fs⟩)) := by
  refine ⟨by simp [s.len], fun j sl q => ?_⟩
  by_cases hj : i = j
  · subst hj
    have hl : i < ρ.length := by
      have := (List.getElem?_eq_some_iff.mp q).1
      simpa using this
    rw [List.getElem?_set_self hl] at q
    cases Option.some.inj q
    exact ⟨a, dx, List.getElem?_set_self (by rw [s.len]; exact hl), ⟨rfl, hc, rfl⟩, xf⟩
  · rw [List.getElem?_set_ne hj] at q ⊢
    exact s.ix j sl q
/-- what a clause makes of an error -/
def tSu (W : Wd) (S : Sc) (fs : Env → Mem → O) : Addr → Value → Option Addr → TS := fun a cls d => tS W (scS W S a cls d) wx0 fs
theorem js_try_as {S : Sc} {k : Nat} {cc : CC} {X : Cx} {wx : WX} (g : GX W G S k false cc X wx) {b : List Stmt} {s0 : Stmt} {ss : List Stmt} {y n : Str} {np pos' pos : Pos} {i c : Nat} {fb fs : Env → Mem → O} (ha : cc.all = true) (hy : G.cn[c]? = some y) (hg : isGlob cc y = true) (hp : plainName y = true)
    (hb : ∀ {X' : Cx} {wx' : WX}, GX W G S k false cc X' wx' → PSs X' b (tS W S wx' fb)) (hs : ∀ {S' : Sc} {X' : Cx}, GX W G S' k true cc X' wx0 → PSs X' (s0 :: ss) (tS W S' wx0 fs)) (hN : cc.N[i]? = some n) (hn : cc.sc.names.lookup n = some .local) :
    PS X (.Try b [.ExceptHandler (some (.Name y np)) (some n) (s0 :: ss) pos'] [] [] pos) (tS W S wx fun ρ M => match fb ρ M with
      | .ex e ρ1 M1 => if W.sub e.c c then (fs (ρ1.set i (.exc e)) M1).noex (some i) else .ex e ρ1 M1
      | x => x) := by
  obtain ⟨f1, f2⟩ := g.fr ha
  obtain ⟨y1, y2, _⟩ := plain_dbg hp
  obtain ⟨C, c1, c2, _⟩ := g.ok.cls c y hy
  refine (L2N.ps_try_as (i := i) (ts := tSu W S fs) (tb := fun wx' => tS W S wx' fb) (c := W.cv c) f1 f2 g.nd (by rw [g.eN]; exact hN) (by show X.env.scope.names.lookup n = _; rw [g.eS]; exact hn) ⟨g.gl hg, y1, .inl (by rw [g.eM, c2]; exact c1)⟩ g.takes (fun wx' pn xe tk hpo => hb (gx_tr g tk hpo)) (fun a oe cls d pn hz hf => ?_)).imp fun D σ H hq => ?_
  · exact hs (gx_suite g hz hf)
  · obtain ⟨ι, ρ, M, rl, e⟩ := hq
    dsimp only at e
    refine ⟨ι, ρ, M, rl, ?_⟩
    cases q : fb ρ M with
    | nx ρ1 M1 => rw [q] at e; exact e
    | rt z M1 => rw [q] at e; exact e
    | bad => rw [q] at e; exact e
    | ex x ρ1 M1 =>
      rw [q] at e
      intro ι' dx σ' H' ex rl' xf
      dsimp only at e
      obtain ⟨xc, xfs⟩ := x
      refine ⟨W.sub xc c, by rw [g.eK]; exact g.ok.exm xc c y hy, fun hb1 a hna => ?_, fun hb1 => ?_⟩
      · rw [if_pos hb1] at e
        refine ⟨ι', ρ1.set i (.exc ⟨xc, xfs⟩), M1, ⟨sr_exc (sr_toS (g.nx rfl) rl'.s) i rfl xf, rl'.m⟩, ?_⟩
        have e := EndS.mono ex e
        cases q2 : fs (ρ1.set i (.exc ⟨xc, xfs⟩)) M1 with
        | nx ρ2 M2 =>
          rw [q2] at e
          exact fun ι2 σ2 H2 ex2 rl2 => e ι2 _ H2 ex2 ⟨(sr_ofS rl2.s).no i, rl2.m⟩
        | rt z M2 => rw [q2] at e; exact e
        | ex x2 ρ2 M2 => rw [q2] at e; exact e.elim
        | bad => rw [q2] at e; exact e.elim
      · rw [if_neg (by rw [hb1]; exact Bool.false_ne_true)] at e
        exact e ι' dx σ' H' ex rl' xf
theorem js_try_only {S : Sc} {k : Nat} {cc : CC} {X : Cx} {wx : WX} (g : GX W G S k false cc X wx) {b : List Stmt} {s0 : Stmt} {ss : List Stmt} {y : Str} {np pos' pos : Pos} {c : Nat} {fb fs : Env → Mem → O} (ha : cc.all = true) (hy : G.cn[c]? = some y) (hg : isGlob cc y = true) (hp : plainName y = true)
    (hb : ∀ {X' : Cx} {wx' : WX}, GX W G S k false cc X' wx' → PSs X' b (tS W S wx' fb)) (hs : ∀ {S' : Sc} {X' : Cx}, GX W G S' k true cc X' wx0 → PSs X' (s0 :: ss) (tS W S' wx0 fs)) :
    PS X (.Try b [.ExceptHandler (some (.Name y np)) none (s0 :: ss) pos'] [] [] pos) (tS W S wx fun ρ M => match fb ρ M with
      | .ex e ρ1 M1 => if W.sub e.c c then (fs ρ1 M1).noex none else .ex e ρ1 M1
      | x => x) := by
  obtain ⟨f1, f2⟩ := g.fr ha
  obtain ⟨y1, y2, _⟩ := plain_dbg hp
  obtain ⟨C, c1, c2, _⟩ := g.ok.cls c y hy
  refine (L2N.ps_try_many (l := [(W.cv c, tSu W S fs)]) (tb := fun wx' => tS W S wx' fb) f1 f2 g.takes (fun wx' pn xe tk hpo => hb (gx_tr g tk hpo)) (.cons ⟨g.gl hg, y1, .inl (by rw [g.eM, c2]; exact c1)⟩ (fun a oe cls d pn hz hf => ?_) .nil)).imp fun D σ H hq => ?_
  · exact hs (gx_suite g hz hf)
  · obtain ⟨ι, ρ, M, rl, e⟩ := hq
    dsimp only at e
    refine ⟨ι, ρ, M, rl, ?_⟩
    cases q : fb ρ M with
    | nx ρ1 M1 => rw [q] at e; exact e
    | rt z M1 => rw [q] at e; exact e
    | bad => rw [q] at e; exact e
    | ex x ρ1 M1 =>
      rw [q] at e
      intro ι' dx σ' H' ex rl' xf
      dsimp only at e
      obtain ⟨xc, xfs⟩ := x
      refine ⟨W.sub xc c, by rw [g.eK]; exact g.ok.exm xc c y hy, fun hb1 a hna => ?_, fun hb1 => ?_⟩
      · rw [if_pos hb1] at e
        refine ⟨ι', ρ1, M1, ⟨sr_toS (g.nx rfl) rl'.s, rl'.m⟩, ?_⟩
        have e := EndS.mono ex e
        cases q2 : fs ρ1 M1 with
        | nx ρ2 M2 =>
          rw [q2] at e
          exact fun ι2 σ2 H2 ex2 rl2 => e ι2 _ H2 ex2 ⟨sr_ofS rl2.s, rl2.m⟩
        | rt z M2 => rw [q2] at e; exact e
        | ex x2 ρ2 M2 => rw [q2] at e; exact e.elim
        | bad => rw [q2] at e; exact e.elim
      · rw [if_neg (by rw [hb1]; exact Bool.false_ne_true)] at e
        exact e ι' dx σ' H' ex rl' xf
mutual
theorem sS : ∀ (s : Zt.S) {S : Sc} {k : Nat} {h : Bool} {cc : CC} {X : Cx} {wx : WX} (_ : GX W G S k h cc X wx) {x : Stmt}, chkS G cc s x = true → PS X x (tS W S wx (evS (W.cfg k h) s))
  | .asg t e, S, k, h, cc, X, wx, g, x, hc => by
    unfold chkS at hc
    split at hc
    · simp only [Bool.and_eq_true] at hc
      obtain ⟨⟨⟨h1, h2⟩, h3⟩, h4⟩ := hc
      refine (js_asg g (sE e g h2) h1 (sws h3) (swp (fun es p z => ?_) h4)).to fun ρ M => by rw [evS] <;> rfl
      subst z
      cases t <;> cases h1
    · cases hc
  | .never, S, k, h, cc, X, wx, g, x, hc => bad_s fun ρ M => by rw [evS]
  | .par is es, S, k, h, cc, X, wx, g, x, hc => by
    unfold chkS at hc
    split at hc
    · rename_i ts kt pt vs k2 p2 pos
      simp only [Bool.and_eq_true] at hc
      have hn : vs.all notStar = true := by
        have h2 := hc.2
        unfold parOk at h2
        simp only [Bool.and_eq_true] at h2
        exact h2.1.1.1.1.2
      exact (js_par g (sEs es g hc.1 hn) hc.2).to fun ρ M => by rw [evS]
    · cases hc
  | .parN is es, S, k, h, cc, X, wx, g, x, hc => by
    unfold chkS at hc
    split at hc
    · simp only [Bool.and_eq_true, decide_eq_true_eq] at hc
      obtain ⟨⟨⟨⟨⟨h1, h2⟩, h3⟩, h4⟩, h5⟩, h6⟩ := hc
      exact (js_parN g (sEs es g h1 h2) h3 h4 h5 h6).to fun ρ M => by rw [evS]
    · cases hc
  | .setI o i e, S, k, h, cc, X, wx, g, x, hc => by
    unfold chkS at hc
    split at hc
    · simp only [Bool.and_eq_true] at hc
      obtain ⟨⟨⟨⟨h1, h2⟩, h3⟩, h4⟩, h5⟩ := hc
      exact (js_setI g (sE o g h1) (sE i g h2) (sE e g h4) h3 (sws h5) (swp (fun es p z => by cases z) rfl)).to fun ρ M => by rw [evS] <;> rfl
    · cases hc
  | .ex e, S, k, h, cc, X, wx, g, x, hc => by
    unfold chkS at hc
    split at hc
    · simp only [Bool.and_eq_true] at hc
      exact (js_ex (sE e g hc.1) (sws0 hc.2)).to fun ρ M => by rw [evS]
    · cases hc
  | .ret e, S, k, h, cc, X, wx, g, x, hc => by
    unfold chkS at hc
    split at hc
    · exact (js_ret (sE e g hc)).to fun ρ M => by rw [evS]
    · split at hc
      · exact js_retN.to fun ρ M => by rw [evS, evE]
      · cases hc
    · cases hc
  | .ifs c a b, S, k, h, cc, X, wx, g, x, hc => by
    unfold chkS at hc
    split at hc
    · simp only [Bool.and_eq_true] at hc
      exact (js_if (sT c g hc.1.1) (sSs a g hc.1.2) (sSs b g hc.2)).to fun ρ M => by rw [evS]
    · cases hc
  | .for t it body, S, k, h, cc, X, wx, g, x, hc => by
    unfold chkS at hc
    split at hc
    · simp only [Bool.and_eq_true] at hc
      obtain ⟨⟨⟨h1, h2⟩, h3⟩, h4⟩ := hc
      exact (js_for g (sI it g h1) h3 (sSs body g h4) (notSet_f h2 _)).to fun ρ M => by rw [evS]
    · cases hc
  | .forR t e body, S, k, h, cc, X, wx, g, x, hc => by
    unfold chkS at hc
    split at hc
    · simp only [Bool.and_eq_true] at hc
      obtain ⟨⟨⟨⟨_, h1⟩, h2⟩, h3⟩, h4⟩ := hc
      exact (js_forR g (sE e g h1) h3 (sSs body g h4) (notSet_f h2 _)).to fun ρ M => by rw [evS] <;> rfl
    · cases hc
  | .asgL i e, S, k, h, cc, X, wx, g, x, hc => by
    cases h with
    | true => exact bad_s fun ρ M => by rw [evS, cfg_hot] <;> rfl
    | false =>
      unfold chkS at hc
      split at hc
      · rename_i y py z pos
        simp only [Bool.and_eq_true, decide_eq_true_eq] at hc
        obtain ⟨⟨h1, h2⟩, h3⟩ := hc
        unfold chkL at h3
        split at h3
        · rename_i elt tg it cond own ye t0 i0 cs0 scope pos0
          simp only [Bool.and_eq_true, decide_eq_true_eq, Bool.not_eq_true'] at h3
          obtain ⟨⟨⟨q1, q2⟩, q3⟩, q4⟩ := h3
          have h2' := h2
          unfold chkE at h2'
          simp only [Bool.and_eq_true] at h2'
          obtain ⟨⟨⟨⟨⟨⟨⟨k1, k2⟩, k3⟩, k4⟩, k5⟩, k6⟩, k7⟩, k8⟩ := h2'
          refine (js_asgL g (js_lc g (sI it g k1) k3 k4 (fun i hi => ?_) k6 (fun X' g' => sC cond g' k7) (fun X' g' => sE elt g' k8) (notSet_f k2 _) h1 q1 q2 q3 q4) fun σ H Q hq => lc_rd hq).to fun ρ M => ?_
          · cases tg with
            | nm j =>
              have : i = j := by simpa [Tg.ids] using hi
              rw [this]
              simpa using k5
            | tp js =>
              have := List.all_eq_true.mp k5 i hi
              simpa using this
          · rw [evS, cfg_hot, if_neg Bool.false_ne_true, evE]
        · cases h3
      · cases hc
  | .while c body, S, k, h, cc, X, wx, g, x, hc => by
    unfold chkS at hc
    split at hc
    · simp only [Bool.and_eq_true] at hc
      exact (js_while g (n := W.wf) (sT c g hc.1) (sSs body g hc.2)).to fun ρ M => by
        rw [evS]
        cases k <;> rfl
    · cases hc
  | .raise c, S, k, h, cc, X, wx, g, x, hc => by
    unfold chkS at hc
    split at hc
    · simp only [Bool.and_eq_true, decide_eq_true_eq] at hc
      exact (js_raise g hc.1.1.1 hc.1.1.2 hc.1.2 hc.2).to fun ρ M => by rw [evS, cfg_hot]
    · cases hc
  | .raiseI c f e, S, k, h, cc, X, wx, g, x, hc => by
    unfold chkS at hc
    split at hc
    · simp only [Bool.and_eq_true, decide_eq_true_eq] at hc
      obtain ⟨⟨⟨⟨⟨h1, h2⟩, h3⟩, h4⟩, h5⟩, h6⟩ := hc
      exact (js_raiseI g h1.symm h2 h3 h4 h5 (sE e g h6)).to fun ρ M => by
        rw [evS, cfg_hot, cfg_lv] <;> rfl
    · cases hc
  | .try body c nm suite, S, k, h, cc, X, wx, g, x, hc => by
    cases h with
    | true => exact bad_s fun ρ M => by rw [evS, cfg_hot] <;> rfl
    | false =>
      unfold chkS at hc
      split at hc
      · simp only [Bool.and_eq_true, decide_eq_true_eq] at hc
        obtain ⟨⟨⟨⟨⟨⟨h1, h2⟩, h3⟩, h4⟩, h5⟩, h6⟩, h7⟩ := hc
        have hot : (W.cfg k false).heat = W.cfg k true := by cases k <;> rfl
        split at h7
        · refine (js_try_only g h1 h2 h3 h4 (fun g' => sSs body g' h5) (fun g' => sSs suite g' h6)).to fun ρ M => ?_
          rw [evS, cfg_hot, cfg_sub, hot]
          rfl
        · simp only [Bool.and_eq_true, decide_eq_true_eq] at h7
          refine (js_try_as g h1 h2 h3 h4 (fun g' => sSs body g' h5) (fun g' => sSs suite g' h6) h7.1 h7.2).to fun ρ M => ?_
          rw [evS, cfg_hot, cfg_sub, hot]
          rfl
        · cases h7
      · cases hc
  | .pass, S, k, h, cc, X, wx, g, x, hc => by
    unfold chkS at hc
    split at hc
    · exact js_pass.to fun ρ M => by rw [evS]
    · cases hc
theorem sSs : ∀ (s : Zt.Ss) {S : Sc} {k : Nat} {h : Bool} {cc : CC} {X : Cx} {wx : WX} (_ : GX W G S k h cc X wx) {xs : List Stmt}, chkSs G cc s xs = true → PSs X xs (tS W S wx (evSs (W.cfg k h) s))
  | .nil, S, k, h, cc, X, wx, g, xs, hc => by
    unfold chkSs at hc
    split at hc
    · exact js_nil.to fun ρ M => by rw [evSs]
    · cases hc
  | .cons s r, S, k, h, cc, X, wx, g, xs, hc => by
    unfold chkSs at hc
    split at hc
    · simp only [Bool.and_eq_true] at hc
      exact (js_cons (sS s g hc.1) (sSs r g hc.2)).to fun ρ M => by rw [evSs]
    · cases hc
end
end
end Zt
set_option maxHeartbeats 4000000
namespace Zt
open PySem PySem.Spec PyProof.Rows L2
/-- what the text's top says of a def -/
structure DefOk (W : Wd) (G : Stat) (i : Nat) : Prop where
  is : ∃ (d : Def) (N : List Str) (scope : Scope) (body : List Stmt) (name qual : Str) (params : Arguments) (dV kV doc pm cdv ct oc : Value) (an od : Option Addr) (osl : Array (Option Value)) (lam : Bool),
    W.T[i]? = some d ∧ W.K.lookup (W.fa i) = some ⟨oc, od, .func (PySem.W.fnOf name qual params body scope dV kV doc pm an cdv ct), osl⟩ ∧ W.fd i = PySem.W.fnOf name qual params body scope dV kV doc pm an cdv ct ∧
    PySem.W.codeIn W.K cdv qual = true ∧ FnScope N (W.ps i) scope ∧ d.ns = N.length ∧ d.np = (W.ps i).length ∧ chkSs G ⟨N, scope, true, true, lam⟩ d.body body = true ∧ (lam = true → ∃ c P, cdv = .ref c ∧ (P, (qual ++ ".<locals>.") ++ ("<lambda>" : Str)) ∈ W.tb ∧ LamX.TabB W.base W.mg c P)
section
variable {W : Wd} {G : Stat}
theorem sr_start {S : Sc} {K : PySem.W.Frag} {ι : Io} {H : Hp} {N : List Str} {vs : List V} {sls : List Sl} {d : Def} (hd : d.ns = N.length) (hl : vs.length = sls.length) (hs : ∀ (i : Nat) (s : Sl) (v : V), sls[i]? = some s → vs[i]? = some v → SlD K S ι H (some (some v)) s) : SR K S ι H (L2.start N vs) (startE d sls) := by
  refine ⟨by simp [L2.start, startE, hd, hl], fun i s hi => ?_⟩
  unfold startE at hi
  by_cases hlt : i < sls.length
  · rw [List.getElem?_append_left hlt] at hi
    obtain ⟨v, hv⟩ := get_of_lt (show i < vs.length by rw [hl]; exact hlt)
    have e : (L2.start N vs)[i]? = some (some v) := by
      unfold L2.start
      rw [List.getElem?_append_left (by rw [List.length_map, hl]; exact hlt), List.getElem?_map, hv]
      rfl
    rw [e]
    exact hs i s v hi hv
  · rw [List.getElem?_append_right (by omega), List.getElem?_replicate] at hi
    split at hi
    · cases hi
      trivial
    · cases hi
theorem slz_start {K : PySem.W.Frag} {ι : Io} {H : Hp} : ∀ {vs : List V} {zs : List Z}, DenZL K ι H vs zs → ∀ (i : Nat) (s : Sl) (v : V), (zs.map Sl.z)[i]? = some s → vs[i]? = some v → SlD K Sc.none ι H (some (some v)) s
  | _, _, .nil, i, s, v, h, _ => by simp at h
  | _, _, .cons d l, 0, s, v, h, hv => by
    cases h
    cases hv
    exact ⟨_, rfl, d⟩
  | _, _, .cons d l, i + 1, s, v, h, hv => slz_start l i s v h hv
theorem endS_fin {S : Sc} {ι : Io} {H : Hp} {Q : VK} {E : XK} {o : O} (e : EndF W ι H Q E (finB o)) : EndS W S (fun cls d _ H' => E cls d H') { nx := fun _ H' => Q .non H', rt := Q } ι H o := by
  cases o with
  | nx ρ M => exact fun ι' σ' H' x rl => e ι' .non H' x rl.m (.d .non)
  | rt z M => exact e
  | ex x ρ M => exact fun ι' dx σ' H' ex rl xf => e ι' dx H' ex rl.m xf
  | bad => exact e
theorem fn_step {k : Nat} {h : Bool} {i : Nat} {d : Def} {ι : Io} {H : Hp} {Q : VK} {E : XK} {zs : List Z} {M : Mem} (hd : W.T[i]? = some d) (e : EndF W ι H Q E ((W.cfg (k + 1) h).fn h i zs M)) : EndF W ι H Q E (finB (evSs (W.cfg k h) d.body (startE d (zs.map .z)) M)) := by
  have e : EndF W ι H Q E (match W.T[i]? with
      | some d => if zs.length = d.np then finB (evSs (lev W.T W.sub W.gv W.wf k h) d.body (startE d (zs.map .z)) M) else .bad
      | none => .bad) := e
  rw [hd] at e
  dsimp only at e
  split at e
  · exact e
  · exact e.elim
theorem fn_stepW {k : Nat} {h h' : Bool} {i : Nat} {d : Def} {ι : Io} {H : Hp} {Q : VK} {E : XK} {sl : Sl} {zs : List Z} {M : Mem} (hd : W.T[i]? = some d) (e : EndF W ι H Q E ((W.cfg (k + 1) h').fnW h i sl zs M)) : EndF W ι H Q E (finB (evSs (W.cfg k h) d.body (startE d (sl :: zs.map .z)) M)) := by
  have e : EndF W ι H Q E (match W.T[i]? with
      | some d => if zs.length + 1 = d.np then finB (evSs (lev W.T W.sub W.gv W.wf k h) d.body (startE d (sl :: zs.map .z)) M) else .bad
      | none => .bad) := e
  rw [hd] at e
  dsimp only at e
  split at e
  · exact e
  · exact e.elim
theorem no_calm {k : Nat} {f : Addr} {fd : FuncData} {ps : List Str} {sp : Sp} (hl : ∀ vs H Q E, sp vs H Q E → vs.length = ps.length) (h : ∀ vs H Q E, sp vs H Q E → False) : FnOk W.P W.w W.K W.mg W.base (L2N.CX W.P W.w) k f fd ps sp :=
  ⟨hl, fun A outer s H args us vs Q E _ _ _ _ q => (h _ _ _ _ q).elim⟩
theorem no_hot {k : Nat} {f : Addr} {fd : FuncData} {ps : List Str} {sp : Sp} (hl : ∀ vs H Q E, sp vs H Q E → vs.length = ps.length) (h : ∀ vs H Q E, sp vs H Q E → False) : L2H.FnH W.P W.w W.K W.mg W.base (L2N.CX W.P W.w) k f fd ps sp :=
  ⟨hl, fun A outer s H args us vs Q E p _ _ _ _ _ _ q => (h _ _ _ _ q).elim⟩
theorem fn_stepL {k : Nat} {i : Nat} {d : Def} {ι : Io} {H : Hp} {Q : VK} {E : XK} {ps : List Nat} {b : Zt.E} {cap : List (Option Z)} {M : Mem} (hd : W.T[i]? = some d) (e : EndF W ι H Q E ((W.cfg (k + 1) false).fnL i [] ps b cap M)) : d.np = 1 ∧ EndF W ι H Q E (finB (evSs (W.cfg k false) d.body (startE d [.clo ps b cap]) M)) := by
  have e : EndF W ι H Q E (match W.T[i]? with
      | some d => if ([] : List Z).length + 1 = d.np then finB (evSs (lev W.T W.sub W.gv W.wf k false) d.body (startE d ((([] : List Z)).map .z ++ [.clo ps b cap])) M) else .bad
      | none => .bad) := e
  rw [hd] at e
  dsimp only at e
  split at e
  · rename_i hn
    exact ⟨hn.symm, e⟩
  · exact e.elim
theorem fn_stepX {k : Nat} {i : Nat} {d : Def} {ι : Io} {H : Hp} {Q : VK} {E : XK} {sl : Sl} {M : Mem} (hd : W.T[i]? = some d) (e : EndF W ι H Q E ((W.cfg (k + 1) true).fnW true i sl [] M)) : d.np = 1 ∧ EndF W ι H Q E (finB (evSs (W.cfg k true) d.body (startE d [sl]) M)) := by
  have e : EndF W ι H Q E (match W.T[i]? with
      | some d => if ([] : List Z).length + 1 = d.np then finB (evSs (lev W.T W.sub W.gv W.wf k true) d.body (startE d (sl :: ([] : List Z).map .z)) M) else .bad
      | none => .bad) := e
  rw [hd] at e
  dsimp only at e
  split at e
  · rename_i hn
    exact ⟨hn.symm, e⟩
  · exact e.elim
theorem calls_zero : Calls W G 0 :=
  ⟨fun i x _ => no_calm (fun vs H Q E h => h.1) fun vs H Q E ⟨_, ι, M, zs, _, _, e⟩ => e.elim, fun i x _ => no_hot (fun vs H Q E h => h.1) fun vs H Q E ⟨_, ι, M, zs, _, _, e⟩ => e.elim,
    fun i x _ => no_calm (fun vs H Q E h => h.1) fun vs H Q E ⟨_, ι, M, v, vs', ns, zs, _, _, _, _, e⟩ => e.elim, fun i x _ => no_hot (fun vs H Q E h => h.1) fun vs H Q E ⟨_, ι, M, v, vs', ns, zs, _, _, _, _, e⟩ => e.elim,
    fun i x _ Sl A outer s H f0 ps b σc cap ι M Q E _ _ _ _ _ _ _ _ e => e.elim, fun i x _ A outer s H a c dx fs oe ι M Q E _ _ _ _ _ _ e => e.elim⟩
/-- what is handed to a def's body with its code -/
abbrev LamOk (W : Wd) (lam : Bool) (cdv : Value) (qual : Str) : Prop := lam = true → ∃ c P, cdv = .ref c ∧ (P, (qual ++ ".<locals>.") ++ ("<lambda>" : Str)) ∈ W.tb ∧ LamX.TabB W.base W.mg c P
theorem lam_of {lam : Bool} {cdv : Value} {qual : Str} (hl : LamOk W lam cdv qual) {env : PySem.Env} (h1 : env.code = cdv) (h2 : env.qual = qual ++ ".<locals>.") : lam = true → ∃ c P, LamX.TabB W.base W.mg c P ∧ env.code = .ref c ∧ (P, env.qual ++ ("<lambda>" : Str)) ∈ W.tb := fun h => by
  obtain ⟨c, P, e1, e2, e3⟩ := hl h
  rw [h1, h2]
  exact ⟨c, P, e3, e1, e2⟩
/-- a def's body, entered where nothing is handled -/
theorem gx_calm {k : Nat} {S : Sc} (ok : WOk W G) (ih : ∀ j, j ≤ k → Calls W G j) {N : List Str} {ps : List Str} {scope : Scope} (Sf : FnScope N ps scope) {qual : Str} {f : Addr} {cdv : Value} {lam : Bool} (hl : LamOk W lam cdv qual) {A : Around} {outer : List PySem.Env} {s : Shared} {H : Hp} {E : XK} (hr : Room k (A.deeper (envOfC qual scope s.heap.objs.size f cdv)))
    (hx : ∀ a c dx, ¬ S.XA a c dx) (xl : XL W S k A outer s H) : GX W G S k false ⟨N, scope, true, true, lam⟩ (cxOf (L2N.CX W.P W.w) W.P W.w W.K W.mg W.base N qual scope f cdv A outer s H E) (fun cls dx _ H' => E cls dx H') := by
  have vis : ∀ y, isVis ⟨N, scope, true, true, lam⟩ y = true → Vis scope y := fun y hv => by
    unfold isVis at hv
    split at hv <;> first | exact .inl (by assumption) | exact .inr (.inl (by assumption)) | exact .inr (.inr (by assumption)) | cases hv
  exact { eP := rfl, eW := rfl, eK := rfl, eM := rfl, eB := rfl, eN := rfl, nd := Sf.nd, eS := rfl, room := L2H.roomH_of hr, calm := fun _ => ⟨rfl, hr⟩, hot := (fun z => nomatch z), takes := L2N.takes_of rfl rfl rfl rfl, pass := passes_of rfl, st := fun _ _ => rfl, fr := fun _ => ⟨rfl, rfl⟩, ok := ok, calls := ih, lam := lam_of hl rfl rfl, xc := (fun _ z => nomatch z), xp := (fun _ a c dx z => (hx a c dx z).elim), nx := fun _ => hx, xl := (fun _ _ pn xe wx' tk i y hN hv hp p1 p2 => xl N qual scope f cdv E hr pn xe wx' tk i y hN (vis y hv) hp p1 p2) }
theorem xl_none {k : Nat} {A : Around} {outer : List PySem.Env} {s : Shared} {H : Hp} : XL W Sc.none k A outer s H := fun N qual scope f cdv E _ pn xe wx _ i y _ _ _ p1 p2 => ⟨fun pins s σ H Q I ⟨_, _, _, _, _, _, _, _, z, _⟩ => z.elim⟩
theorem gx_hot {k : Nat} {S : Sc} (ok : WOk W G) (ih : ∀ j, j ≤ k → Calls W G j) {N : List Str} {ps : List Str} {scope : Scope} (Sf : FnScope N ps scope) {qual : Str} {f : Addr} {cdv : Value} {lam : Bool} (hl : LamOk W lam cdv qual) {A : Around} {outer : List PySem.Env} {s : Shared} {H : Hp} {E : XK} {p : Addr × Obj} (hot : L2H.Hot1 A p) (hr : L2H.RoomH k (A.deeper (envOfC qual scope s.heap.objs.size f cdv)))
    (hx : ∀ a c dx, S.XA a c dx → ∃ oe, p = (a, oe) ∧ ErrAt W A a c dx oe) : GX W G S k true ⟨N, scope, true, true, lam⟩ (L2H.cxH (L2N.CX W.P W.w) W.P W.w W.K W.mg W.base N qual scope f cdv A outer s H E p) (fun cls dx _ H' => E cls dx H') := by
  have tk : L2N.Takes (L2H.cxH (L2N.CX W.P W.w) W.P W.w W.K W.mg W.base N qual scope f cdv A outer s H E p) (fun cls dx _ H' => E cls dx H') := L2N.takes_of rfl rfl rfl rfl
  have ea : ∀ a c dx, S.XA a c dx → ∃ oe, p = (a, oe) ∧ ErrAt W (A.deeper (envOfC qual scope s.heap.objs.size f cdv)) a c dx oe := fun a c dx z => by
    obtain ⟨oe, e, h⟩ := hx a c dx z
    exact ⟨oe, e, ⟨h.hot, h.zc, h.fld⟩⟩
  have xc : ∀ (i : Nat) (x : Str) (a : Addr) (c : Nat) (dx : Option Addr) (fs : List (Str × D)), G.nm[i]? = some x → S.XA a c dx → ∀ (pins : List (Addr × Obj)) (s' : Shared) (σ : L2.St) (H' : Hp) (Q : VK) (ι : Io) (M : Mem), Inv (L2H.cxH (L2N.CX W.P W.w) W.P W.w W.K W.mg W.base N qual scope f cdv A outer s H E p) pins σ H' s' → MI W ι H' M → ExF W.K ι H' dx fs →
      EndG W (fun cls dx _ H' => E cls dx H') σ ι H' (DenZ W.K) Q ((W.cfg k true).fnW true i (.exc ⟨c, fs⟩) [] M) → wpAny (model W.P W.w) (A.deeper (envOfC qual scope s.heap.objs.size f cdv)) (call (.ref (W.fa i)) [.ref a]) (EP (L2H.cxH (L2N.CX W.P W.w) W.P W.w W.K W.mg W.base N qual scope f cdv A outer s H E p) pins σ Q) (L2H.cxH (L2N.CX W.P W.w) W.P W.w W.K W.mg W.base N qual scope f cdv A outer s H E p).xe s' := fun i x a c dx fs hi hxa pins s' σ H' Q ι M I m xf e => by
    obtain ⟨oe, rfl, h⟩ := ea a c dx hxa
    exact call_err (X := L2H.cxH (L2N.CX W.P W.w) W.P W.w W.K W.mg W.base N qual scope f cdv A outer s H E (a, oe)) rfl rfl rfl rfl rfl (ih k (Nat.le_refl k)) hr tk h (List.mem_singleton.mpr rfl) hi I m xf e
  have xp : ∀ (a : Addr) (c : Nat) (dx : Option Addr), S.XA a c dx → ∃ oe, (a, oe) ∈ (L2H.cxH (L2N.CX W.P W.w) W.P W.w W.K W.mg W.base N qual scope f cdv A outer s H E p).pn ∧ Zc (W.cv c) dx oe ∧ ∃ vs, oe.data = .fields vs := fun a c dx hxa => by
    obtain ⟨oe, rfl, h⟩ := ea a c dx hxa
    exact ⟨oe, List.mem_singleton.mpr rfl, h.zc, h.fld⟩
  exact { eP := rfl, eW := rfl, eK := rfl, eM := rfl, eB := rfl, eN := rfl, nd := Sf.nd, eS := rfl, room := hr, calm := (fun z => nomatch z), hot := fun _ => ⟨p, hot, List.mem_singleton.mpr rfl⟩, takes := tk, pass := passes_of rfl, st := fun _ _ => rfl, fr := fun _ => ⟨rfl, rfl⟩, ok := ok, calls := ih, lam := lam_of hl rfl rfl, xc := (fun _ _ => xc), xp := (fun _ => xp), nx := (fun z => nomatch z), xl := (fun _ z => nomatch z) }
theorem scr_start {K : PySem.W.Frag} {ι : Io} {H : Hp} {v : V} {vs : List V} {sl : Sl} {zs : List Z} (h : SlD K Sc.none ι H (some (some v)) sl) (d : DenZL K ι H vs zs) : ∀ (i : Nat) (s : Sl) (u : V), (sl :: zs.map Sl.z)[i]? = some s → (v :: vs)[i]? = some u → SlD K Sc.none ι H (some (some u)) s
  | 0, s, u, h1, h2 => by
    cases h1
    cases h2
    exact h
  | i + 1, s, u, h1, h2 => slz_start d i s u h1 h2
theorem one_start {S : Sc} {K : PySem.W.Frag} {ι : Io} {H : Hp} {v : V} {sl : Sl} (h : SlD K S ι H (some (some v)) sl) : ∀ (i : Nat) (s : Sl) (u : V), [sl][i]? = some s → [v][i]? = some u → SlD K S ι H (some (some u)) s
  | 0, s, u, h1, h2 => by
    cases h1
    cases h2
    exact h
  | i + 1, s, u, h1, h2 => by cases h1
/-- a def run at once while an error is handled -/
theorem run_hot {k : Nat} {fA : Addr} {name qual : Str} {params : Arguments} {body : List Stmt} {scope : Scope} {dV kV doc pm cdv ct oc : Value} {an od : Option Addr} {osl : Array (Option Value)} {N ps : List Str} (there : W.K.lookup fA = some ⟨oc, od, .func (PySem.W.fnOf name qual params body scope dV kV doc pm an cdv ct), osl⟩) (code : PySem.W.codeIn W.K cdv qual = true) (Sf : FnScope N ps scope)
    {A : Around} {outer : List PySem.Env} {s : Shared} {H : Hp} {args : Args} {us : List Value} {vs : List V} {Q : VK} {E : XK} {p : Addr × Obj} (pin : L2H.PinOk outer H s p) (hr : L2H.RoomH (k + 1) A) (e0 : Env0 W.P W.w W.K W.mg W.base A outer s H) (hb : BindsTo s (PySem.W.fnOf name qual params body scope dV kV doc pm an cdv ct) args (ps.zip us)) (r : Vals vs us) (hl : vs.length = ps.length)
    (hbody : L2H.RoomH k (A.deeper (envOfC qual scope s.heap.objs.size fA cdv)) → ∃ t, PSs (L2H.cxH (L2N.CX W.P W.w) W.P W.w W.K W.mg W.base N qual scope fA cdv A outer s H E p) body t ∧ t { nx := fun _ H' => Q .non H', rt := Q } (L2.start N vs) H) :
    codeAny (model W.P W.w) A (.call (.ref fA) args) (CR (L2N.CX W.P W.w) outer W.P W.w H s Q E) s := by
  have inK : W.K.In s.heap := e0.mod.kin.keeps fun c u q => (e0.bs c u q).1
  have noLim : s.heap.NoLimit := e0.mod.nolimit.keeps fun c u q => (e0.bs c u q).1
  have own : ∀ y ∈ ps.zip us, scope.names.lookup y.1 = some .local ∨ (scope.names.lookup y.1 = some .cell ∧ ((cellsFrom (s.heap.objs.size + 1) scope.names []).lookup y.1).isSome = true) := fun y hy => (Sf.par y.1 (List.of_mem_zip (a := y.1) (b := y.2) hy).1).imp id fun z => ⟨z, PySem.W.cellsFrom_some _ _ _ (.inl z)⟩
  refine codeAny_call_function hr.depth (inK _ _ there) rfl Sf.co Sf.gen rfl (PySem.W.codeRec_of inK code) (hb _ _ _ _ (wpAny_newFunctionEnv_cells Sf.kind own fun env he s1 x => ?_))
  subst he
  refine ⟨noLim.keeps x.toInCall.keep, codeAny_func ?_⟩
  obtain ⟨t, ht, hq⟩ := hbody (hr.deeper _)
  have start := L2H.inv_startH (CX := L2N.CX W.P W.w) (E := E) (f := fA) (cd := cdv) Sf pin e0 hl r x
  refine wpAny_mono (ht.run [] s1 (L2.start N vs) H _ start hq) (fun fl s' hs => ?_) fun _ _ z => z
  cases fl with
  | ret u => exact hs.elim fun v z => z.elim fun σ' z => z.elim fun H' z => ⟨v, H', z.1.os, z.1.bare, z.1.base, z.1.hok, z.2.1, z.2.2⟩
  | next => exact hs.elim fun σ' z => z.elim fun H' z => ⟨.non, H', z.1.os, z.1.bare, z.1.base, z.1.hok, rfl, z.2⟩
  | brk => exact hs.elim fun _ z => z.elim fun _ z => z.2.elim
  | cont => exact hs.elim fun _ z => z.elim fun _ z => z.2.elim
theorem calls_succ {k : Nat} (ok : WOk W G) (defs : ∀ (i : Nat) (x : Str), G.nm[i]? = some x → DefOk W G i) (ih : ∀ j, j ≤ k → Calls W G j) : Calls W G (k + 1) := by
  refine ⟨fun i x hx => ?_, fun i x hx => ?_, fun i x hx => ?_, fun i x hx => ?_, fun i x hx => ?_, fun i x hx => ?_⟩ <;> obtain ⟨gm, gk, gb⟩ := ok.glob i x hx <;> obtain ⟨d, N, scope, body, name, qual, params, dV, kV, doc, pm, cdv, ct, oc, an, od, osl, lam, hd, lk, hf, hcd, Sf, hns, hnp, hchk, hlam⟩ := (defs i x hx).is
  · rw [hf]
    refine fn_of lk hcd Sf (fun vs H Q E h => h.1) fun A outer s H vs Q E hr hsp => ?_
    obtain ⟨hlen, ι, M, zs, m, dz, e⟩ := hsp
    exact ⟨_, sSs d.body (gx_calm ok ih Sf hlam hr (fun _ _ _ z => z) xl_none) hchk, ι, _, M, ⟨sr_start hns (by simp [dz.length]) (slz_start dz), m⟩, endS_fin (fn_step hd e)⟩
  · rw [hf]
    refine L2H.fn_ofH lk hcd Sf (fun vs H Q E h => h.1) fun A outer s H vs Q E p hot hr hsp => ?_
    obtain ⟨hlen, ι, M, zs, m, dz, e⟩ := hsp
    exact ⟨_, sSs d.body (gx_hot ok ih Sf hlam hot hr (S := Sc.none) fun _ _ _ z => z.elim) hchk, ι, _, M, ⟨sr_start hns (by simp [dz.length]) (slz_start dz), m⟩, endS_fin (fn_step hd e)⟩
  · rw [hf]
    refine fn_of lk hcd Sf (fun vs H Q E h => h.1) fun A outer s H vs Q E hr hsp => ?_
    obtain ⟨hlen, ι, M, v, vs', ns, zs, rfl, m, hs, dz, e⟩ := hsp
    exact ⟨_, sSs d.body (gx_calm ok ih Sf hlam hr (fun _ _ _ z => z) xl_none) hchk, ι, _, M, ⟨sr_start hns (by simp [dz.length]) (scr_start hs dz), m⟩, endS_fin (fn_stepW hd e)⟩
  · rw [hf]
    refine L2H.fn_ofH lk hcd Sf (fun vs H Q E h => h.1) fun A outer s H vs Q E p hot hr hsp => ?_
    obtain ⟨hlen, ι, M, v, vs', ns, zs, rfl, m, hs, dz, e⟩ := hsp
    exact ⟨_, sSs d.body (gx_hot ok ih Sf hlam hot hr (S := Sc.none) fun _ _ _ z => z.elim) hchk, ι, _, M, ⟨sr_start hns (by simp [dz.length]) (scr_start hs dz), m⟩, endS_fin (fn_stepW hd e)⟩
  · intro Sl A outer s H f0 ps b σc cap ι M Q E hxa hr e0 hxl hcl hcap hlen m e
    obtain ⟨h1, e⟩ := fn_stepL hd e
    have b1 := gb s [.ref f0] (e0.mod.kin.keeps fun c u q => (e0.bs c u q).1) (by rw [List.append_nil, ← hnp, h1] <;> rfl)
    rw [List.append_nil, hf] at b1
    refine LamX.run_ofS (N := N) (vs := [.ref f0]) (us := [.ref f0]) lk hcd Sf hr e0 b1 (.cons rfl .nil) (by rw [← hnp, h1] <;> rfl) fun hr' => ?_
    exact ⟨_, sSs d.body (gx_calm ok ih Sf hlam hr' hxa (hxl k rfl)) hchk, ι, _, M, ⟨sr_start hns rfl (one_start (sl := .clo ps b cap) ⟨f0, σc, rfl, hlen, hcl, hcap⟩), m⟩, endS_fin e⟩
  · intro A outer s H a c dx fs oe ι M Q E ea pin hr e0 m xf e
    obtain ⟨h1, e⟩ := fn_stepX hd e
    have b1 := gb s [.ref a] (e0.mod.kin.keeps fun c u q => (e0.bs c u q).1) (by rw [List.append_nil, ← hnp, h1] <;> rfl)
    rw [List.append_nil, hf] at b1
    refine run_hot (N := N) (vs := [.ref a]) (us := [.ref a]) lk hcd Sf pin hr e0 b1 (.cons rfl .nil) (by rw [← hnp, h1] <;> rfl) fun hr' => ?_
    exact ⟨_, sSs d.body (gx_hot ok ih Sf hlam ea.hot hr' (S := ⟨fun _ _ _ _ _ _ => False, fun h _ => h.elim, fun a' c' dx' => a' = a ∧ c' = c ∧ dx' = dx⟩) fun a' c' dx' z => ⟨oe, by rw [z.1], by rw [z.1, z.2.1, z.2.2]; exact ea⟩) hchk, ι, _, M, ⟨sr_start hns rfl (one_start (sl := .exc ⟨c, fs⟩) ⟨a, dx, rfl, ⟨rfl, rfl, rfl⟩, xf⟩), m⟩, endS_fin e⟩
theorem calls_all (ok : WOk W G) (defs : ∀ (i : Nat) (x : Str), G.nm[i]? = some x → DefOk W G i) : ∀ k, ∀ j, j ≤ k → Calls W G j
  | 0, j, hj => by
    obtain rfl : j = 0 := by omega
    exact calls_zero
  | k + 1, j, hj => by
    by_cases h : j ≤ k
    · exact calls_all ok defs k j h
    · obtain rfl : j = k + 1 := by omega
      exact calls_succ ok defs (calls_all ok defs k)
end
end Zt
namespace Zt
open PySem PySem.Spec PyProof.Rows L2
/-- its class object -/
def oexB (K : PySem.W.Frag) (C : Addr) : Bool := (match K.lookup C with
  | some ⟨.type "type", _, .cls cd, sl⟩ => (match cd.mro, sl.toList with
    | .ref D :: bm, [_, _, _, _, some (.builtin n), _] => D == C && n == "ValueError.__new__" && !cd.hasDel && cd.hasDict && PySem.HandSPX.refsVE bm
    | _, _ => false)
  | _ => false) && He.eqO (PySem.W.findIn K (.ref C) "__setattr__") (some (some (.builtin "object.__setattr__"))) && decide (PySem.W.subIn K (.ref C) (.type "BaseException") = some true) && decide (PySem.W.typeIn K (.ref C) = some (.type "type")) && PySem.W.keepIn K (.ref C)
theorem oexB_ok {K : PySem.W.Frag} {C : Addr} (h : oexB K C = true) : OexC K C := by
  unfold oexB at h
  simp only [Bool.and_eq_true, decide_eq_true_eq] at h
  obtain ⟨⟨⟨⟨h1, h2⟩, h3⟩, h4⟩, h5⟩ := h
  refine ⟨?_, He.eqO_ok h2, h3, h4, h5⟩
  split at h1
  · rename_i od cd sl lk
    split at h1
    · rename_i D bm s0 s1 s2 s3 n s5 e1 e2
      simp only [Bool.and_eq_true, beq_iff_eq, Bool.not_eq_true'] at h1
      obtain ⟨⟨⟨⟨a1, a2⟩, a3⟩, a4⟩, a5⟩ := h1
      subst a1 a2
      obtain ⟨nm, bs, mro, ns, qn, hd, sn, sub, ab, col, del⟩ := cd
      dsimp only at e1 a3 a4
      subst e1 a3 a4
      obtain ⟨l⟩ := sl
      have e2 : l = _ := e2
      subst e2
      exact ⟨nm, qn, ns, bs, bm, sn, sub, ab, col, od, s0, s1, s2, s3, s5, lk, a5⟩
    · cases h1
  · cases h1
/-- B.__init__(self, ..) of an own class B that has ValueError's -/
theorem pe_oinit {X : Cx} {y : Str} {B : Addr} {e : Expr} {es : List Expr} {ta : TA} {p1 p2 pos : Pos} {pl : Sem Bool} (hg : Gl X y) (hm : X.mg y = some (.ref B)) (hdb : (y == ("__debug__" : Str)) = false)
    (hs : PySem.W.specialIn X.K (.ref B) "__getattribute__" = some (some (.builtin "type.__getattribute__"))) (hr : PySem.W.readsIn X.K B (.type "type") = true) (hv : PySem.W.findCls X.K (.ref B) (.type "type") "__init__" = some (.val (.builtin "ValueError.__init__"))) (ha : PA X (e :: es) ta)
    (hc : eval (.Call (.Attribute (.Name y p1) "__init__" p2) (e :: es) [] pos) X.env = (do
      let ov ← eval (.Name y p1) X.env
      standAt p2.atName
      let (f, first) ← holding [ov] (getMethod ov "__init__" pl)
      callWith pos f first (backTo pos (starEach (e :: es) X.env)) (backToKw pos (keywordEach [] X.env))))
    (he : starEach (e :: es) X.env = (false, eval e X.env) :: starEach es X.env) (hpl : (backTo pos (starEach es X.env)).any (·.1) = false) :
    PE X (.Call (.Attribute (.Name y p1) "__init__" p2) (e :: es) [] pos) (tVeI X.K ta) := by
  refine ⟨fun pins s σ H Q I h => ?_⟩
  refine PySem.W.methodCall_KW (ld_glob I hg hm ?_ hdb) hc
  obtain ⟨m, fr⟩ := I.fr
  refine PySem.W.method_cls I.kIn hs (PySem.W.cls_value I.kIn hr hv (by decide +kernel) ?_)
  show wpAny _ _ (callWith pos (Value.builtin "ValueError.__init__") [] (backTo pos (starEach (e :: es) X.env)) []) _ _ _
  have run := ha.run pos pins { s with toks := s.toks + 1 } σ H _ (I.tok _) h
  refine PyProof.Rows.callWith_method1 (thn run fun us s1 hh => ?_) he hpl
  obtain ⟨vs, H1, I1, r1, a, C, ws, ev, hl, T, ea, q⟩ := hh
  subst ev
  cases r1 with
  | cons ru rr =>
    cases ru
    exact oinit_ok T I1 ea (by rw [← Paired.length rr, sizeLine_eq]; omega) fun s' J => ⟨.non, H1, J, rfl, q⟩
end Zt
namespace Zt
open PySem PySem.Spec PyProof.Rows L2
def oB (a b : Option Bool) : Bool := decide (a = b)
/-- an own error, asked for its class -/
def excB (K : PySem.W.Frag) (D : Addr) : Bool :=
  He.eqO (PySem.W.findIn K (.ref D) "__getattribute__") (some (some (.builtin "BaseException.__getattribute__"))) && He.eqO (PySem.W.findIn K (.ref D) "__getattr__") (some none) && oB (PySem.W.subIn K (.ref D) (.type "BaseException")) (some true) && PySem.W.hasDictIn K D &&
  He.eqO (PySem.W.findIn K (.ref D) "__class__") (some (some (.builtin "object.__class__"))) && He.eqO (PySem.W.specialIn K (.builtin "object.__class__") "__get__") (some (some (.builtin "getset_descriptor.__get__"))) && oB (PySem.W.takesIn K (.builtin "object.__class__")) (some true) && oB (PySem.W.mroIn K D (.type "object")) (some true)
theorem excB_ok {K : PySem.W.Frag} {D : Addr} (h : excB K D = true) : ExcC K D := by
  unfold excB at h
  simp only [Bool.and_eq_true] at h
  obtain ⟨⟨⟨⟨⟨⟨⟨h1, h2⟩, h3⟩, h4⟩, h5⟩, h6⟩, h7⟩, h8⟩ := h
  exact ⟨He.eqO_ok h1, He.eqO_ok h2, of_decide_eq_true h3, h4, He.eqO_ok h5, He.eqO_ok h6, of_decide_eq_true h7, of_decide_eq_true h8⟩
/-- the classes: each an error, below one another as sub says -/
def clsB (sub : Nat → Nat → Bool) (cls : List Str) (K : PySem.W.Frag) : Bool :=
  cls.all (fun x => excB K (He.ga K x)) && (List.range cls.length).all fun c => (List.range cls.length).all (fun d => oB (PySem.W.exmOne K (.ref (He.ga K (cls.getD c ""))) (.ref (He.ga K (cls.getD d "")))) (some (sub c d)) && oB (PySem.W.kitOne K (.ref (He.ga K (cls.getD c ""))) (.ref (He.ga K (cls.getD d "")))) (some (sub c d))) &&
    oB (PySem.W.kitOne K (.ref (He.ga K (cls.getD c ""))) (.type "ValueError")) (some (sub c 1000))
/-- beyond the classes' end: the first -/
def cix (cls : List Str) (c : Nat) : Nat := if c < cls.length then c else 0
theorem clsB_ok {sub : Nat → Nat → Bool} {cls : List Str} {K : PySem.W.Frag} (hn : 0 < cls.length) (h : clsB sub cls K = true) : ∀ c, ExcC K (He.ga K (cls.getD (cix cls c) "")) ∧ PySem.W.kitOne K (.ref (He.ga K (cls.getD (cix cls c) ""))) (.type "ValueError") = some (sub (cix cls c) 1000) ∧
    ∀ d, d < cls.length → PySem.W.exmOne K (.ref (He.ga K (cls.getD (cix cls c) ""))) (.ref (He.ga K (cls.getD d ""))) = some (sub (cix cls c) d) ∧ PySem.W.kitOne K (.ref (He.ga K (cls.getD (cix cls c) ""))) (.ref (He.ga K (cls.getD d ""))) = some (sub (cix cls c) d) := fun c => by
  have hc : cix cls c < cls.length := by
    unfold cix
    split
    · assumption
    · exact hn
  unfold clsB at h
  rw [Bool.and_eq_true] at h
  have h2 := List.all_eq_true.mp h.2 _ (List.mem_range.mpr hc)
  rw [Bool.and_eq_true] at h2
  refine ⟨excB_ok ?_, of_decide_eq_true h2.2, fun d hd => ?_⟩
  · refine List.all_eq_true.mp h.1 (cls.getD (cix cls c) "") ?_
    rw [List.getD_eq_getElem?_getD, List.getElem?_eq_getElem hc]
    exact List.getElem_mem hc
  · have h3 := List.all_eq_true.mp h2.1 d (List.mem_range.mpr hd)
    rw [Bool.and_eq_true] at h3
    exact ⟨of_decide_eq_true h3.1, of_decide_eq_true h3.2⟩
end Zt
namespace Zt
open PySem PySem.Spec PyProof.Rows L2
/-- the names of a def, by a Bool -/
def fnScB (N ps : List Str) (sc : Scope) : Bool :=
  decide (sc.kind = .function) && !sc.isCoroutine && !sc.isGenerator && decide N.Nodup && decide (N.take ps.length = ps) && ps.all (fun x => decide (sc.names.lookup x = some .local) || decide (sc.names.lookup x = some .cell)) && sc.names.all fun y => !decide (y.2 = .free)
theorem fnScB_ok {N ps : List Str} {sc : Scope} (h : fnScB N ps sc = true) : FnScope N ps sc := by
  unfold fnScB at h
  simp only [Bool.and_eq_true, Bool.or_eq_true, Bool.not_eq_true', decide_eq_true_eq, decide_eq_false_iff_not, List.all_eq_true] at h
  obtain ⟨⟨⟨⟨⟨⟨h1, h2⟩, h3⟩, h4⟩, h5⟩, h6⟩, h7⟩ := h
  exact ⟨h1, h2, h3, h4, h5, h6, h7⟩
def fdAt (K : PySem.W.Frag) (a : Addr) : Option FuncData := match K.lookup a with
  | some ⟨_, _, .func fd, _⟩ => some fd
  | _ => none
theorem fdAt_of {K : PySem.W.Frag} {x qual : Str} {params : Arguments} {body : List Stmt} {scope : Scope} {f : Addr} {fd : FuncData} (F : FunD K x qual params body scope [] [] f fd) : fdAt K f = some fd := by
  obtain ⟨oc, od, dV, kV, doc, pm, an, cdv, ct, osl, e, lk, _⟩ := F.ex
  unfold fdAt
  rw [lk]
theorem defOk_of {W : Wd} {G : Stat} {i : Nat} {x qual : Str} {params : Arguments} {body : List Stmt} {scope : Scope} {fd : FuncData} {d : Def} {N : List Str} {lam : Bool} (F : FunD W.K x qual params body scope [] [] (W.fa i) fd) (hfd : W.fd i = fd) (hfa : W.fa i = He.fAd W.K (x, none)) (hd : W.T[i]? = some d)
    (Sf : FnScope N (W.ps i) scope) (hns : d.ns = N.length) (hnp : d.np = (W.ps i).length) (hchk : chkSs G ⟨N, scope, true, true, lam⟩ d.body body = true) (hlam : lam = true → ∃ P, (P, (qual ++ ".<locals>.") ++ ("<lambda>" : Str)) ∈ W.tb ∧ LamX.TabB W.base W.mg (He.codeOf W.K (x, none)) P) : DefOk W G i := by
  obtain ⟨oc, od, dV, kV, doc, pm, an, cdv, ct, osl, e, lk, hcd, _⟩ := F.ex
  subst e
  refine ⟨d, N, scope, body, x, qual, params, dV, kV, doc, pm, cdv, ct, oc, an, od, osl, lam, hd, lk, hfd, hcd, Sf, hns, hnp, hchk, fun hl => ?_⟩
  obtain ⟨P, h1, h2⟩ := hlam hl
  obtain ⟨c, hc⟩ := He.codeIn_ref hcd
  have : He.codeOf W.K (x, none) = c := He.codeOf_eq (by rw [← hfa]; exact lk) hc
  rw [this] at h2
  exact ⟨c, P, hc, h1, h2⟩
end Zt
namespace Zt
open PySem PySem.Spec PyProof.Rows L2
/-- the text of such an __init__: the base's name; field; parameter -/
def iniB (b f x : Str) (scope : Scope) : List Stmt → Bool
  | [.Expr (.Call (.Attribute (.Name b' _) n p2) [.Name s1 _, .Constant (.str _) _ _] [] p5) _, .Assign [.Attribute (.Name s2 _) f' _] (.Name x' _) _] =>
    decide (b' = b) && decide (n = "__init__") && (p2.endLine == p5.line) && decide (s1 = "self") && decide (s2 = "self") && decide (f' = f) && decide (x' = x) && decide (scope.names.lookup b = some .globalImplicit) && !(b == ("__debug__" : Str)) && !(b == ("__classdict__" : Str)) && !(b == ("__name__" : Str)) && decide (scope.names.lookup ("self" : Str) = some .local) && decide (scope.names.lookup x = some .local) && plainName x && decide (x ≠ "self")
  | _ => false
/-- what the base is -/
def BaseOk (K : PySem.W.Frag) (mg : Str → Option Value) (b : Str) : Prop := (b = "ValueError" ∧ mg b = none ∧ PySem.W.findCls K (.type "ValueError") (.type "type") "__init__" = some (.val (.builtin "ValueError.__init__"))) ∨
  ∃ B, mg b = some (.ref B) ∧ PySem.W.specialIn K (.ref B) "__getattribute__" = some (some (.builtin "type.__getattribute__")) ∧ PySem.W.readsIn K B (.type "type") = true ∧ PySem.W.findCls K (.ref B) (.type "type") "__init__" = some (.val (.builtin "ValueError.__init__"))
theorem init_ok {W : Wd} {C fI : Addr} {fd : FuncData} {b f x qual : Str} {params : Arguments} {body : List Stmt} {scope : Scope} (F : FunD W.K "__init__" qual params body scope [] [] fI fd) (Sf : FnScope ["self", x] ["self", x] scope) (T : OexC W.K C) (no : PySem.W.findIn W.K (.ref C) f = some none) (hb : BaseOk W.K W.mg b) (ok : iniB b f x scope body = true) :
    FnOk W.P W.w W.K W.mg W.base (L2N.CX W.P W.w) 1 fI fd ["self", x] (spInit C f) := by
  obtain ⟨oc, od, dV, kV, doc, pm, an, cdv, ct, osl, e, lk, hcd, _⟩ := F.ex
  subst e
  refine fn_of lk hcd Sf (fun vs H Q E h => ?_) fun A outer s H vs Q E hr hsp => ?_
  · obtain ⟨a, v, rfl, _⟩ := h
    rfl
  · unfold iniB at ok
    split at ok
    · rename_i b' p1 n p2 s1 p3 m j p4 p5 p6 s2 p7 f' p8 x' p9 p10
      simp only [Bool.and_eq_true, decide_eq_true_eq, Bool.not_eq_true'] at ok
      obtain ⟨⟨⟨⟨⟨⟨⟨⟨⟨⟨⟨⟨⟨⟨rfl, rfl⟩, hl⟩, rfl⟩, rfl⟩, rfl⟩, rfl⟩, g1⟩, g2⟩, g3⟩, g4⟩, g5⟩, g6⟩, g7⟩, g8⟩ := ok
      obtain ⟨x1, x2, _⟩ := plain_dbg g7
      let X := cxOf (L2N.CX W.P W.w) W.P W.w W.K W.mg W.base ["self", x'] qual scope fI cdv A outer s H E
      have ps : ∀ p, PE X (.Name "self" p) (tVar 0) := fun p => pe_var (i := 0) rfl (.inl g5) (by decide +kernel) (by decide +kernel)
      have px : ∀ p, PE X (.Name x' p) (tVar 1) := fun p => pe_var (i := 1) rfl (.inl g6) x1 x2
      have args : PA X [.Name "self" p3, .Constant (.str m) j p4] (tCons (tVar 0) (tCons (tC (.str m)) tNil)) := pa_cons (ps p3) (pa_cons pe_str pa_nil)
      have gl : Gl X b' := g1
      have key : PE X (.Call (.Attribute (.Name b' p1) "__init__" p2) [.Name "self" p3, .Constant (.str m) j p4] [] p5) (tVeI X.K (tCons (tVar 0) (tCons (tC (.str m)) tNil))) := by
        have hc := mcall_of (o := .Name b' p1) (m := "__init__") (apos := p2) (pos := p5) (args := [.Name "self" p3, .Constant (.str m) j p4]) (kws := []) (env := X.env) rfl fun ov => mcall_line rfl hl
        rcases hb with ⟨rfl, h2, h3⟩ | ⟨B, h1, h2, h3, h4⟩
        · exact pe_veinit gl h2 h3 args hc rfl rfl
        · exact pe_oinit gl h1 g2 h2 h3 h4 args hc rfl rfl
      refine ⟨_, pss_cons (ps_expr key) (pss_one (ps_ost (f := f') (ps p7) (px p9))), ?_⟩
      obtain ⟨a, v, rfl, ha, hq⟩ := hsp
      exact ⟨.ref a, rfl, a, C, [.str m], rfl, (show 1 ≤ 1000 by decide), T, ha, v, rfl, .ref a, rfl, a, C, rfl, T, no, .inl ⟨ha, fun dx n ne => hq dx n ne⟩⟩
    · cases ok
end Zt
namespace Zt
open PySem PySem.Spec PyProof.Rows L2
/-- a class's own __init__: field, parameter, the base's name; the class's statement -/
structure OwnD where
  f : Str
  x : Str
  b : Str
  st : Stmt
def isDefS : Stmt → Bool
  | .FunctionDef .. => true
  | _ => false
def initOf : Stmt → Stmt
  | .ClassDef _ _ _ body _ _ _ _ _ _ _ => (body.find? isDefS).getD (.Pass ⟨0, 0, 0, 0⟩)
  | s => s
def OwnD.dd (o : OwnD) (c : Str) : He.DefD := ⟨(c, some "__init__"), "__init__", c ++ ".__init__", defArgs (initOf o.st), defBody (initOf o.st), defScope (initOf o.st), [], []⟩
structure LawD where
  T : List Def
  nms : List Str
  pss : List (List Str)
  nss : List (List Str)
  bodies : List Stmt
  lams : List Bool
  cls : List Str
  pls : List Bool
  own : List (Option OwnD)
  cns : List Str
  gv : List D
  sub : Nat → Nat → Bool
  wf : Nat
def LawD.G (L : LawD) : Stat := ⟨L.nms, L.cns, L.cls, L.pls, L.own.map fun o => o.map OwnD.f⟩
def LawD.st (L : LawD) (i : Nat) : Stmt := L.bodies.getD i (.Pass ⟨0, 0, 0, 0⟩)
def LawD.dd (L : LawD) (i : Nat) : He.DefD := ⟨(L.nms.getD i "", none), L.nms.getD i "", L.nms.getD i "", defArgs (L.st i), defBody (L.st i), defScope (L.st i), [], []⟩
def LawD.fn (L : LawD) : List He.DefD := (List.range L.nms.length).map L.dd ++ (L.cls.zip L.own).filterMap fun p => p.2.map fun o => o.dd p.1
/-- each def's names, checked text -/
def OwnD.okB (o : OwnD) : Bool := fnScB ["self", o.x] ["self", o.x] (defScope (initOf o.st)) && iniB o.b o.f o.x (defScope (initOf o.st)) (defBody (initOf o.st))
def LawD.okB (L : LawD) : Bool := (L.own.all fun o => match o with
  | some o => o.okB
  | none => true) && decide (L.own.length = L.cls.length) && (List.range L.nms.length).all fun i => match L.T[i]? with
  | some d => decide (d.ns = (L.nss.getD i []).length) && decide (d.np = (L.pss.getD i []).length) && fnScB (L.nss.getD i []) (L.pss.getD i []) (defScope (L.st i)) && chkSs L.G ⟨L.nss.getD i [], defScope (L.st i), true, true, L.lams.getD i false⟩ d.body (defBody (L.st i))
  | none => false
/-- a constant of the top -/
def dvOf : D → Option He.Dv
  | .none => some .non
  | .bool b => some (.bl b)
  | .int i => some (.int i)
  | .str s => some (.str s)
  | _ => none
def dvsOf : List D → Option (List He.Dv)
  | [] => some []
  | d :: r => (dvOf d).bind fun x => (dvsOf r).map (x :: ·)
def conOk (K : PySem.W.Frag) (x : Str) : D → Bool
  | .int i => (He.Fa.int x i).ok K
  | .str s => (He.Fa.str x s).ok K
  | .tuple ds => (He.Fa.glo x).ok K && (match dvsOf ds with
    | some vs => He.tupB K x vs
    | none => false)
  | _ => false
def isVI : Option PySem.W.CFound → Bool
  | some (.val (.builtin n)) => n == "ValueError.__init__"
  | _ => false
theorem isVI_ok {r : Option PySem.W.CFound} (h : isVI r = true) : r = some (.val (.builtin "ValueError.__init__")) := by
  unfold isVI at h
  split at h
  · rw [beq_iff_eq] at h
    rw [h]
  · cases h
def baseB (K : PySem.W.Frag) (b : Str) : Bool := if b = "ValueError" then isVI (PySem.W.findCls K (.type "ValueError") (.type "type") "__init__")
  else (He.Fa.glo b).ok K && He.eqO (PySem.W.specialIn K (.ref (He.ga K b)) "__getattribute__") (some (some (.builtin "type.__getattribute__"))) && PySem.W.readsIn K (He.ga K b) (.type "type") && isVI (PySem.W.findCls K (.ref (He.ga K b)) (.type "type") "__init__")
def OwnD.ex (o : OwnD) (K : PySem.W.Frag) (c : Str) : Bool := oexB K (He.ga K c) && He.eqO (PySem.W.findIn K (.ref (He.ga K c)) "__init__") (some (some (.ref (He.fAd K (c, some "__init__"))))) && decide (PySem.W.typeIn K (.ref (He.fAd K (c, some "__init__"))) = some (.type "function")) && baseB K o.b
def nofB (cls : List Str) (fs : List Str) (K : PySem.W.Frag) : Bool := fs.all fun f => cls.all fun c => He.eqO (PySem.W.findIn K (.ref (He.ga K c)) f) (some none)
def LawD.fa (L : LawD) : List He.Fa := L.nms.map .glo ++ (L.cls.map .glo ++ blts.map .free)
def LawD.ex (L : LawD) (K : PySem.W.Frag) : Bool := ((L.cls.zip L.own).all fun p => match p.2 with
  | some o => o.ex K p.1
  | none => true) && nofB L.cls (L.own.filterMap fun o => o.map OwnD.f) K && (clsB L.sub L.cls K && (L.cls.all fun x => PySem.W.keepIn K (.ref (He.ga K x)) && oB (PySem.W.subIn K (.ref (He.ga K x)) (.type "BaseException")) (some true) && decide (PySem.W.typeIn K (.ref (He.ga K x)) = some (.type "type"))) && ((L.cls.zip L.pls).all fun p => !p.2 || PySem.W.excIn K (He.ga K p.1) He.veBase "ValueError.__new__") && decide (L.pls.length = L.cls.length) && decide (L.cns.length = L.gv.length) && (L.cns.zip L.gv).all fun p => conOk K p.1 p.2)
def LawD.W (L : LawD) (P : Program) (w : World) (K : PySem.W.Frag) (mg : Str → Option Value) (base : Heap) (tb : List (Addr × Str)) : Wd where
  P := P
  w := w
  K := K
  mg := mg
  base := base
  T := L.T
  nm := fun i => L.nms.getD i ""
  fa := fun i => He.ga K (L.nms.getD i "")
  fd := fun i => (fdAt K (He.ga K (L.nms.getD i ""))).getD (PySem.W.fnOf "" "" (defArgs (.Pass ⟨0, 0, 0, 0⟩)) [] (defScope (.Pass ⟨0, 0, 0, 0⟩)) .none .none .none .none none .none .none)
  ps := fun i => L.pss.getD i []
  cn := fun c => L.cls.getD c ""
  cv := fun c => .ref (He.ga K (L.cls.getD (cix L.cls c) ""))
  sub := fun c d => L.sub (cix L.cls c) d
  wf := L.wf
  gn := fun i => L.cns.getD i ""
  gv := L.gv
  tb := tb
end Zt
namespace Zt
open PySem PySem.Spec PyProof.Rows L2
theorem getD_of {α : Type} {l : List α} {i : Nat} {x d : α} (h : l[i]? = some x) : l.getD i d = x := by rw [List.getD_eq_getElem?_getD, h]; rfl
theorem dv_den {K : PySem.W.Frag} {ι : Io} {H : Hp} {d : D} {v : He.Dv} (h : dvOf d = some v) : Den K ι H (v.v K) d := by
  cases d with
  | none => cases h; exact .non
  | bool b => cases h; exact .bl b
  | int i => cases h; exact .int i
  | str s => cases h; exact .str s
  | _ => cases h
theorem dvs_den {K : PySem.W.Frag} {ι : Io} {H : Hp} : ∀ {ds : List D} {vs : List He.Dv}, dvsOf ds = some vs → DenL K ι H (vs.map (He.Dv.v K)) ds
  | [], vs, h => by
    cases h
    exact .nil
  | d :: ds, vs, h => by
    obtain ⟨x, h1, h2⟩ := Option.bind_eq_some_iff.mp h
    obtain ⟨r, h3, h4⟩ := Option.map_eq_some_iff.mp h2
    subst h4
    exact .cons (dv_den h1) (dvs_den h3)
theorem con_ok {K : PySem.W.Frag} {h : Heap} {mg : Str → Option Value} (X : K.In h) (Gl : h.Ns mainGlobals mg) {x : Str} {d : D} (c : conOk K x d = true) : ∃ u v, mg x = some u ∧ RelV v u ∧ ∀ ι H, Den K ι H v d := by
  cases d with
  | int i =>
    obtain ⟨t, e⟩ := He.int_ok X Gl (x := x) (i := i) c
    exact ⟨_, .int i, e, ⟨t, rfl⟩, fun _ _ => .int i⟩
  | str s =>
    obtain ⟨t, e⟩ := He.str_ok X Gl (x := x) (z := s) c
    exact ⟨_, .str s, e, ⟨t, rfl⟩, fun _ _ => .str s⟩
  | tuple ds =>
    have c : ((He.Fa.glo x).ok K && (match dvsOf ds with
      | some vs => He.tupB K x vs
      | none => false)) = true := c
    rw [Bool.and_eq_true] at c
    cases q : dvsOf ds with
    | none => rw [q] at c; cases c.2
    | some vs =>
      rw [q] at c
      refine ⟨_, .ref (He.ga K x), He.glo_ok X Gl c.1, rfl, fun ι H => .tup (.inr ?_) (dvs_den q)⟩
      have := He.tupB_ok c.2 (fun _ => none)
      rcases this with z | z
      · rcases z with z | ⟨_, z⟩ <;> cases z
      · exact z
  | _ => cases c
end Zt
namespace Zt
open PySem PySem.Spec PyProof.Rows L2
theorem fact_of {L : LawD} {K : PySem.W.Frag} (c : He.SaysD L.fa L.fn K) {f : He.Fa} (h : f ∈ L.fa) : f.ok K = true := He.SaysD.facts c h
theorem get_mem {α : Type} {l : List α} {i : Nat} {x : α} (h : l[i]? = some x) : x ∈ l := List.mem_of_getElem? h
theorem fun_of {L : LawD} {K : PySem.W.Frag} (c : He.SaysD L.fa L.fn K) {i : Nat} {x : Str} (hx : L.nms[i]? = some x) : ∃ fd, FunD K x x (defArgs (L.st i)) (defBody (L.st i)) (defScope (L.st i)) [] [] (He.ga K x) fd := by
  have hi : i < L.nms.length := (List.getElem?_eq_some_iff.mp hx).1
  have := c.def_ i (d := L.dd i) (by
    unfold LawD.fn
    rw [List.getElem?_append_left (by simpa using hi), List.getElem?_map, List.getElem?_range hi]
    rfl)
  have e : L.nms.getD i "" = x := getD_of hx
  unfold LawD.dd at this
  rw [e] at this
  exact this
theorem iniBase_of {L : LawD} {K : PySem.W.Frag} {mg : Str → Option Value} {h : Heap} (X : K.In h) (Gl : h.Ns mainGlobals mg) (c : He.SaysD L.fa L.fn K) {b : Str} (hb : baseB K b = true) : BaseOk K mg b := by
  unfold baseB at hb
  by_cases e : b = "ValueError"
  · rw [if_pos e] at hb
    exact .inl ⟨e, by rw [e]; exact He.free_ok X Gl (fact_of c (f := .free "ValueError") (by simp only [LawD.fa, List.mem_append, List.mem_map]; exact .inr (.inr ⟨"ValueError", by decide +kernel, rfl⟩))), isVI_ok hb⟩
  · rw [if_neg e] at hb
    simp only [Bool.and_eq_true] at hb
    obtain ⟨⟨⟨h1, h2⟩, h3⟩, h4⟩ := hb
    exact .inr ⟨He.ga K b, He.glo_ok X Gl h1, He.eqO_ok h2, h3, isVI_ok h4⟩
theorem zip_ix {α β : Type} {l : List α} {m : List β} {i : Nat} {x : α} {y : β} (h1 : l[i]? = some x) (h2 : m[i]? = some y) : (x, y) ∈ l.zip m := get_mem (i := i) (zip_get h1 h2)
theorem wok_of {L : LawD} {P : Program} {w : World} {K : PySem.W.Frag} {mg : Str → Option Value} {base h : Heap} {tb : List (Addr × Str)} (X : K.In h) (Gl : h.Ns mainGlobals mg) (c : He.SaysD L.fa L.fn K) (ex : L.ex K = true) (hn : 0 < L.cls.length)
    (htb : ∀ p ∈ tb, ∀ q ∈ tb, p.1 = q.1 → p.2 = q.2) (ok : L.okB = true) (hbo : ∀ (c : Str) (o : OwnD), (c, some o) ∈ L.cls.zip L.own → ∀ (kV doc pm : Value) (an : Option Addr) (cdv ct : Value) (us : List Value), us.length = 2 → bindArgs (PySem.W.fnOf "__init__" (c ++ ".__init__") (defArgs (initOf o.st)) (defBody (initOf o.st)) (defScope (initOf o.st)) .none kV doc pm an cdv ct) ⟨us, []⟩ = pure ((["self", o.x] : List Str).zip us))
    (hnp : ∀ (i : Nat) (x : Str) (d : Def), L.nms[i]? = some x → L.T[i]? = some d → d.np = (L.pss.getD i []).length)
    (hb : ∀ (i : Nat) (x : Str), L.nms[i]? = some x → ∀ (kV doc pm : Value) (an : Option Addr) (cdv ct : Value) (us : List Value), us.length = (L.pss.getD i []).length → bindArgs (PySem.W.fnOf x x (defArgs (L.st i)) (defBody (L.st i)) (defScope (L.st i)) .none kV doc pm an cdv ct) ⟨us, []⟩ = pure ((L.pss.getD i []).zip us)) :
    WOk (L.W P w K mg base tb) L.G := by
  unfold LawD.ex at ex
  simp only [Bool.and_eq_true, decide_eq_true_eq] at ex
  obtain ⟨⟨w1, w2⟩, ⟨⟨⟨⟨e1, e2⟩, e3⟩, e4⟩, e5⟩, e6⟩ := ex
  unfold LawD.okB at ok
  simp only [Bool.and_eq_true, decide_eq_true_eq] at ok
  obtain ⟨⟨k1, k2⟩, _⟩ := ok
  have cl := clsB_ok hn e1
  have lt : ∀ {d : Nat} {y : Str}, L.cls[d]? = some y → d < L.cls.length := fun hy => (List.getElem?_eq_some_iff.mp hy).1
  have cd : ∀ {d : Nat}, d < L.cls.length → cix L.cls d = d := fun hd => if_pos hd
  refine { exm := fun a d y hy => ?_, kit := fun a d y hy => ?_, exc := fun a => ⟨_, rfl, (cl a).1⟩, kitV := fun a => (cl a).2.1, nof := fun f hf y hy a => ?_, own := fun a f hf => ?_, tbu := htb, blt := fun x hx => ?_, glob := fun i x hx => ?_, np := hnp, cons := fun i x hx => ?_, cls := fun a x hx => ?_ }
  · have := ((cl a).2.2 d (lt hy)).1
    show PySem.W.exmOne K (.ref (He.ga K (L.cls.getD (cix L.cls a) ""))) (.ref (He.ga K (L.cls.getD (cix L.cls d) ""))) = _
    rw [cd (lt hy)]
    exact this
  · have := ((cl a).2.2 d (lt hy)).2
    show PySem.W.kitOne K (.ref (He.ga K (L.cls.getD (cix L.cls a) ""))) (.ref (He.ga K (L.cls.getD (cix L.cls d) ""))) = _
    rw [cd (lt hy)]
    exact this
  · subst hy
    have hf : some y ∈ L.own.map fun o => o.map OwnD.f := hf
    obtain ⟨o, ho, e⟩ := List.mem_map.mp hf
    have w3 := List.all_eq_true.mp w2 y (List.mem_filterMap.mpr ⟨o, ho, e⟩)
    refine ⟨He.ga K (L.cls.getD (cix L.cls a) ""), rfl, He.eqO_ok (List.all_eq_true.mp w3 _ ?_)⟩
    have ha : cix L.cls a < L.cls.length := by
      unfold cix
      split
      · assumption
      · exact hn
    rw [List.getD_eq_getElem?_getD, List.getElem?_eq_getElem ha]
    exact List.getElem_mem ha
  · have hf : (L.own.map fun o => o.map OwnD.f)[a]? = some (some f) := hf
    rw [List.getElem?_map] at hf
    cases ho : L.own[a]? with
    | none => rw [ho] at hf; cases hf
    | some oo =>
      cases oo with
      | none => rw [ho] at hf; cases hf
      | some o =>
        rw [ho] at hf
        obtain rfl : o.f = f := by simpa using hf
        have ha : a < L.cls.length := by rw [← k2]; exact (List.getElem?_eq_some_iff.mp ho).1
        have hc : L.cls[a]? = some L.cls[a] := List.getElem?_eq_getElem ha
        have hz := zip_ix hc ho
        have ex1 : o.ex K L.cls[a] = true := List.all_eq_true.mp w1 _ hz
        have ok1 : o.okB = true := List.all_eq_true.mp k1 _ (get_mem ho)
        unfold OwnD.ex at ex1
        simp only [Bool.and_eq_true, decide_eq_true_eq] at ex1
        obtain ⟨⟨⟨x1, x2⟩, x3⟩, x4⟩ := ex1
        unfold OwnD.okB at ok1
        rw [Bool.and_eq_true] at ok1
        have hd : o.dd L.cls[a] ∈ L.fn := by
          unfold LawD.fn
          exact List.mem_append_right _ (List.mem_filterMap.mpr ⟨_, hz, rfl⟩)
        obtain ⟨fd, F⟩ := He.SaysD.defs c hd
        have w3 := List.all_eq_true.mp w2 o.f (List.mem_filterMap.mpr ⟨some o, get_mem ho, rfl⟩)
        have no := He.eqO_ok (List.all_eq_true.mp w3 _ (get_mem hc))
        have e0 : L.cls.getD (cix L.cls a) "" = L.cls[a] := by rw [cd ha]; exact getD_of hc
        have F : FunD K "__init__" (L.cls[a] ++ ".__init__") (defArgs (initOf o.st)) (defBody (initOf o.st)) (defScope (initOf o.st)) [] [] (He.fAd K (L.cls[a], some "__init__")) fd := F
        refine ⟨He.ga K L.cls[a], He.fAd K (L.cls[a], some "__init__"), fd, ["self", o.x], ?_, oexB_ok x1, He.eqO_ok x2, x3, init_ok (W := L.W P w K mg base tb) F (fnScB_ok ok1.1) (oexB_ok x1) no (iniBase_of X Gl c x4) ok1.2, F.bindsN fun kV doc pm an cdv ct us hl => hbo _ o hz kV doc pm an cdv ct us hl⟩
        show Value.ref (He.ga K (L.cls.getD (cix L.cls a) "")) = _
        rw [e0]
  · exact He.free_ok X Gl (fact_of c (f := .free x) (by simp only [LawD.fa, List.mem_append, List.mem_map]; exact .inr (.inr ⟨x, hx, rfl⟩)))
  · have hx : L.nms[i]? = some x := hx
    obtain ⟨fd, F⟩ := fun_of c hx
    have e : L.nms.getD i "" = x := getD_of hx
    show mg x = some (.ref (He.ga K (L.nms.getD i ""))) ∧ PySem.W.keepIn K (.ref (He.ga K (L.nms.getD i ""))) = true ∧ L2.Binds K ((fdAt K (He.ga K (L.nms.getD i ""))).getD _) (L.pss.getD i []) []
    rw [e, fdAt_of F]
    exact ⟨He.glo_ok X Gl (fact_of c (f := .glo x) (by simp only [LawD.fa, List.mem_append, List.mem_map]; exact .inl ⟨x, get_mem hx, rfl⟩)), F.kp, F.bindsN fun kV doc pm an cdv ct us hl => hb i x hx kV doc pm an cdv ct us hl⟩
  · have hx : L.cns[i]? = some x := hx
    have hi : i < L.gv.length := by rw [← e5]; exact (List.getElem?_eq_some_iff.mp hx).1
    have hz : (x, L.gv[i]) ∈ L.cns.zip L.gv := get_mem (i := i) (zip_get hx (List.getElem?_eq_getElem hi))
    obtain ⟨u, v, h1, h2, h3⟩ := con_ok X Gl (List.all_eq_true.mp e6 _ hz)
    exact ⟨u, v, L.gv[i], h1, h2, List.getElem?_eq_getElem hi, h3⟩
  · have hx : L.cls[a]? = some x := hx
    have e : L.cls.getD (cix L.cls a) "" = x := by rw [cd (lt hx)]; exact getD_of hx
    have q := List.all_eq_true.mp e2 x (get_mem hx)
    simp only [Bool.and_eq_true, decide_eq_true_eq] at q
    refine ⟨He.ga K x, He.glo_ok X Gl (fact_of c (f := .glo x) (by simp only [LawD.fa, List.mem_append, List.mem_map]; exact .inr (.inl ⟨x, get_mem hx, rfl⟩))), ?_, q.1.1, fun hp => ?_, of_decide_eq_true q.1.2, q.2⟩
    · show Value.ref (He.ga K (L.cls.getD (cix L.cls a) "")) = _
      rw [e]
    · have hz : (x, true) ∈ L.cls.zip L.pls := get_mem (i := a) (zip_get hx hp)
      have := List.all_eq_true.mp e3 _ hz
      have this : PySem.W.excIn K (He.ga K x) He.veBase "ValueError.__new__" = true := by simpa using this
      exact this
end Zt
namespace Zt
open PySem PySem.Spec PyProof.Rows L2
theorem okB_at {L : LawD} (ok : L.okB = true) {i : Nat} (hi : i < L.nms.length) : ∃ d, L.T[i]? = some d ∧ d.ns = (L.nss.getD i []).length ∧ d.np = (L.pss.getD i []).length ∧ FnScope (L.nss.getD i []) (L.pss.getD i []) (defScope (L.st i)) ∧ chkSs L.G ⟨L.nss.getD i [], defScope (L.st i), true, true, L.lams.getD i false⟩ d.body (defBody (L.st i)) = true := by
  unfold LawD.okB at ok
  rw [Bool.and_eq_true] at ok
  obtain ⟨_, ok⟩ := ok
  have h := List.all_eq_true.mp ok i (List.mem_range.mpr hi)
  cases q : L.T[i]? with
  | none => rw [q] at h; cases h
  | some d =>
    rw [q] at h
    simp only [Bool.and_eq_true, decide_eq_true_eq] at h
    obtain ⟨⟨⟨h1, h2⟩, h3⟩, h4⟩ := h
    exact ⟨d, rfl, h1, h2, fnScB_ok h3, h4⟩
theorem defs_of {L : LawD} {P : Program} {w : World} {K : PySem.W.Frag} {mg : Str → Option Value} {base : Heap} {tb : List (Addr × Str)} (ok : L.okB = true) (c : He.SaysD L.fa L.fn K)
    (ht : ∀ (i : Nat) (x : Str), L.nms[i]? = some x → L.lams.getD i false = true → ∃ Pt, (Pt, (x ++ ".<locals>.") ++ ("<lambda>" : Str)) ∈ tb ∧ LamX.TabB base mg (He.codeOf K (x, none)) Pt) : ∀ (i : Nat) (x : Str), L.G.nm[i]? = some x → DefOk (L.W P w K mg base tb) L.G i := by
  intro i x hx
  have hx : L.nms[i]? = some x := hx
  have hi : i < L.nms.length := (List.getElem?_eq_some_iff.mp hx).1
  obtain ⟨d, hd, h1, h2, h3, h4⟩ := okB_at ok hi
  obtain ⟨fd, F⟩ := fun_of c hx
  have e : L.nms.getD i "" = x := getD_of hx
  have ea : (L.W P w K mg base tb).fa i = He.ga K x := by
    show He.ga K (L.nms.getD i "") = _
    rw [e]
  refine defOk_of (W := L.W P w K mg base tb) (x := x) (qual := x) (fd := fd) (N := L.nss.getD i []) (lam := L.lams.getD i false) (by rw [ea]; exact F) ?_ ?_ hd h3 h1 h2 h4 (ht i x hx)
  · show (fdAt K (He.ga K (L.nms.getD i ""))).getD _ = fd
    rw [e, fdAt_of F]
    rfl
  · rw [ea]
    rfl
end Zt
namespace Zt
open PySem PySem.Spec PyProof.Rows L2
def LawD.Wt (L : LawD) (K : PySem.W.Frag) (tf : List He.Defn) : List (Addr × Str) := tf.map fun p => ((He.cT K p).2, (p.1 ++ ".<locals>.") ++ ("<lambda>" : Str))
theorem sp_law {W : Wd} {k iL : Nat} {ns : List Int} {a : Addr} {H : Hp} {M : Mem} (hps : (W.ps iL).length = 1) (hT : ∀ p ∈ W.tb, H p.1 = some (.tbl #[])) (hS : SqL W.K H a (ns.map V.int)) (hl : (W.cfg k false).fnW false iL (.scr ns) [] [] = .ok (.d (.bool true)) M) :
    spW W k false iL [.ref a] H (fun v _ => v = .bl true) fun _ _ _ => False := by
  have m : MRel W.K ⟨[], []⟩ H [] := ⟨rfl, List.nodup_nil, (fun _ h => nomatch h), (fun n o a h => nomatch (show (none : Option MO) = some o by simpa using h))⟩
  refine ⟨by rw [hps]; rfl, ⟨[], []⟩, [], .ref a, [], ns, [], rfl, ⟨m, fun p hp => LamX.TabS.nil (hT p hp), fun p _ z => ?_⟩, ⟨a, rfl, ?_⟩, .nil, ?_⟩
  · rcases z with z | z <;> cases z
  · rcases hS with z | z
    · refine .inl ⟨fun q => ?_, z⟩
      rcases q with q | q <;> cases q
    · exact .inr z
  · rw [hl]
    intro ι' v H' _ _ d
    cases d with
    | d d =>
      cases d
      rfl
theorem lawAt {L : LawD} {l : PySem.W.OpenLaw} {w : World} {K : PySem.W.Frag} {mg : Str → Option Value} {h : Heap} {k n iL : Nat} {x name : Str} {tf : List He.Defn} (Gl : h.Ns mainGlobals mg) (X : K.In h) (c : He.SaysX L.fa L.fn [] tf L.ex w h K) (ok : L.okB = true) (hn : 0 < L.cls.length)
    (hi : L.nms[iL]? = some name) (hps : L.pss.getD iL [] = [x]) (hbo : ∀ (c : Str) (o : OwnD), (c, some o) ∈ L.cls.zip L.own → ∀ (kV doc pm : Value) (an : Option Addr) (cdv ct : Value) (us : List Value), us.length = 2 → bindArgs (PySem.W.fnOf "__init__" (c ++ ".__init__") (defArgs (initOf o.st)) (defBody (initOf o.st)) (defScope (initOf o.st)) .none kV doc pm an cdv ct) ⟨us, []⟩ = pure ((["self", o.x] : List Str).zip us))
    (htb : ∀ p ∈ L.Wt K tf, ∀ q ∈ L.Wt K tf, p.1 = q.1 → p.2 = q.2) (hlam : ∀ (i : Nat) (y : Str), L.nms[i]? = some y → L.lams.getD i false = true → (y, none) ∈ tf)
    (hb : ∀ (i : Nat) (y : Str), L.nms[i]? = some y → ∀ (kV doc pm : Value) (an : Option Addr) (cdv ct : Value) (us : List Value), us.length = (L.pss.getD i []).length → bindArgs (PySem.W.fnOf y y (defArgs (L.st i)) (defBody (L.st i)) (defScope (L.st i)) .none kV doc pm an cdv ct) ⟨us, []⟩ = pure ((L.pss.getD i []).zip us))
    (law : ∀ ns : List Int, ns.length ≤ n → (∀ z ∈ ns, Builtin.Int.intBits z ≤ 1048576) → ∃ M, (lev L.T (fun c d => L.sub (cix L.cls c) d) L.gv L.wf k false).fnW false iL (.scr ns) [] [] = .ok (.d (.bool true)) M) :
    LamX.LawAtS l w K (L2N.CX l.prog w) k n x mg (He.ga K name) h := by
  have cS : He.SaysD L.fa L.fn K := congrArg (fun z : He.AlT => z.1) c.t
  obtain ⟨fd, F⟩ := fun_of cS hi
  have hnp : ∀ (i : Nat) (y : Str) (d : Def), L.nms[i]? = some y → L.T[i]? = some d → d.np = (L.pss.getD i []).length := fun i y d hy hd => by
    obtain ⟨d', h1, _, h2, _⟩ := okB_at ok (List.getElem?_eq_some_iff.mp hy).1
    rw [hd] at h1
    cases h1
    exact h2
  refine ⟨fd, tf.map (He.cT K), spW (L.W l.prog w K mg h (L.Wt K tf)) k false iL, fun p hp => ?_, fun p hp => ?_, fun p hp => ?_, fun s u => ?_, fun H a ns hl hz hT hS => ?_, fun base KX hg hTB => ?_⟩
  · obtain ⟨q, hq, rfl⟩ := List.mem_map.mp hp
    exact c.empty q hq
  · obtain ⟨q, hq, rfl⟩ := List.mem_map.mp hp
    exact c.out q hq
  · obtain ⟨q, hq, rfl⟩ := List.mem_map.mp hp
    exact PySem.W.codeHd_of_K X (c.hd q hq)
  · have := F.bindsA (ps := [x]) (fun kV doc pm an cdv ct us hl => by
      have := hb iL name hi kV doc pm an cdv ct us (by rw [hps]; exact hl)
      rw [hps] at this
      exact this) s [u] rfl
    exact this
  · obtain ⟨M, hM⟩ := law ns hl hz
    refine sp_law (W := L.W l.prog w K mg h (L.Wt K tf)) (by show (L.pss.getD iL []).length = 1; rw [hps]; rfl) (fun p hp => ?_) hS hM
    obtain ⟨q, hq, rfl⟩ := List.mem_map.mp hp
    exact hT _ (List.mem_map.mpr ⟨q, hq, rfl⟩)
  · have wok := wok_of (P := l.prog) (w := w) (base := base) (tb := L.Wt K tf) X Gl cS c.more hn htb ok hbo hnp hb
    have defs := defs_of (P := l.prog) (w := w) (mg := mg) (base := base) (tb := L.Wt K tf) ok cS fun i y hy hl => by
      have hm := hlam i y hy hl
      exact ⟨(He.cT K (y, none)).2, List.mem_map.mpr ⟨(y, none), hm, rfl⟩, hTB _ (List.mem_map.mpr ⟨(y, none), hm, rfl⟩)⟩
    have F0 := (calls_all wok defs k k (Nat.le_refl k)).calmW iL name hi
    have e : L.nms.getD iL "" = name := getD_of hi
    have e1 : (L.W l.prog w K mg base (L.Wt K tf)).fa iL = He.ga K name := by
      show He.ga K (L.nms.getD iL "") = _
      rw [e]
    have e2 : (L.W l.prog w K mg base (L.Wt K tf)).fd iL = fd := by
      show (fdAt K (He.ga K (L.nms.getD iL ""))).getD _ = fd
      rw [e, fdAt_of F]
      rfl
    have e3 : (L.W l.prog w K mg base (L.Wt K tf)).ps iL = [x] := hps
    rw [e1, e2, e3] at F0
    exact F0.imp fun vs H Q E q => by
      obtain ⟨h1, ι, M, v, vs', ns, zs, ev, m, hs, dz, en⟩ := q
      refine ⟨h1, ι, M, v, vs', ns, zs, ev, ⟨m.m, m.t, m.o⟩, hs, dz, ?_⟩
      have en : EndF (L.W l.prog w K mg h (L.Wt K tf)) ι H Q E (((L.W l.prog w K mg base (L.Wt K tf)).cfg k false).fnW false iL (.scr ns) zs M) := en
      cases r : ((L.W l.prog w K mg base (L.Wt K tf)).cfg k false).fnW false iL (.scr ns) zs M with
      | ok z M2 =>
        rw [r] at en
        exact fun ι' v H' x m' d => en ι' v H' x ⟨m'.m, m'.t, m'.o⟩ d
      | ex x M2 =>
        rw [r] at en
        exact fun ι' dx H' x m' xf => en ι' dx H' x ⟨m'.m, m'.t, m'.o⟩ xf
      | bad =>
        rw [r] at en
        exact en
end Zt
namespace Zt
open PySem PySem.Spec PyProof.Rows L2
def asY (g : Addr → Option Obj) (n : Nat) : List Addr := He.asD g n ++ [cStatics]
def obsY (n : Nat) (fa : List He.Fa) (fn : List He.DefD) (tf : List He.Defn) (ex : PySem.W.Frag → Bool) (g : Addr → Option Obj) : He.AlX :=
  (He.obsT fa fn [] (He.frT g (asY g n)), ex (He.frT g (asY g n)) && He.tabsB g tf (He.frT g (asY g n)))
theorem saysY {n : Nat} {fa : List He.Fa} {fn : List He.DefD} {tf : List He.Defn} {ex : PySem.W.Frag → Bool} {w : World} {h : Heap} (e : obsY n fa fn tf ex h.get? = He.valX fn [] w) : He.SaysX fa fn [] tf ex w h (He.frT h.get? (asY h.get? n)) := by
  have a1 := congrArg Prod.fst e
  have a2 := congrArg Prod.snd e
  have a2 : (ex (He.frT h.get? (asY h.get? n)) && He.tabsB h.get? tf (He.frT h.get? (asY h.get? n))) = true := a2
  rw [Bool.and_eq_true] at a2
  have tab : ∀ p ∈ tf, PySem.W.codeHdIn (He.frT h.get? (asY h.get? n)) (He.cT (He.frT h.get? (asY h.get? n)) p).1 (He.cT (He.frT h.get? (asY h.get? n)) p).2 = true ∧ ∃ o, h.get? (He.cT (He.frT h.get? (asY h.get? n)) p).2 = some o ∧ He.emptyTab o = true := by
    intro p hp
    have b := List.all_eq_true.mp a2.2 p hp
    rw [Bool.and_eq_true] at b
    refine ⟨b.1, ?_⟩
    have b2 := b.2
    split at b2
    · rename_i o q
      exact ⟨o, q, b2⟩
    · cases b2
  refine ⟨a1, a2.1, fun p hp => (tab p hp).1, fun p hp => ?_, fun p hp => ?_⟩
  · obtain ⟨_, o, q1, q2⟩ := tab p hp
    exact He.frT_none q1 q2
  · obtain ⟨_, o, q1, q2⟩ := tab p hp
    rw [q1, He.emptyTab_eq q2]
def hookY (n : Nat) (fa : List He.Fa) (fn : List He.DefD) (tf : List He.Defn) (ex : PySem.W.Frag → Bool) : PySem.W.Hook where
  α := He.AlX
  obs := fun s => obsY n fa fn tf ex s.heap.get?
  val := fun w => He.valX fn [] w
  says := (He.hookX n fa fn [] tf ex).says
  of := fun _ _ e => ⟨_, He.frT_in, saysY e⟩
  keeps := (He.hookX n fa fn [] tf ex).keeps
theorem obsY_eq {n : Nat} {fa : List He.Fa} {fn : List He.DefD} {tf : List He.Defn} {ex : PySem.W.Frag → Bool} {g : Addr → Option Obj} {s : Shared} (h : ∀ a, g a = s.heap.get? a) : obsY n fa fn tf ex g = (hookY n fa fn tf ex).obs s := by
  rw [show g = s.heap.get? from funext h] <;> rfl
def obsY1 (n : Nat) (fa : List He.Fa) (fn : List He.DefD) (g : Addr → Option Obj) : He.AlT := He.obsT fa fn [] (He.frT g (asY g n))
def obsY2 (n : Nat) (ex : PySem.W.Frag → Bool) (g : Addr → Option Obj) : Bool := ex (He.frT g (asY g n))
def obsY3 (n : Nat) (tf : List He.Defn) (g : Addr → Option Obj) : Bool := He.tabsB g tf (He.frT g (asY g n))
noncomputable abbrev endY (r : PySem.W.OpenRow) (M : Nat) (w : World) (os : OsState) : Option PySem.W.SharedT := HandSHeadRun.endF (HandSHeadRun.stepQ (HandSHeadRun.denQ HandSHeadRun.tabQ) r.prog w) M r.prog w os
theorem run_of {r : PySem.W.OpenRow} {q : Program} {n M : Nat} {fa : List He.Fa} {fn : List He.DefD} {tf : List He.Defn} {ex : PySem.W.Frag → Bool} {loose : List Str} {w : World}
    (a : ∀ os, (endY r M w os).map (fun s => HandSHeadRun.looksF r.prog (PySem.W.boot_heap w.params) s.abs) = some true)
    (b : ∀ os, (endY r M w os).map (fun s => HandSHeadRun.seenQ q loose (importedModules r.prog.main.body) (fun s => PySem.W.xlAt q [] s && PySem.W.recOk r.toRowW.records s) s.abs) = some (PySem.W.openGood q loose))
    (c1 : ∀ os, (endY r M w os).map (fun s => obsY1 n fa fn (HandSHeadRun.getT s)) = some (He.valT fn [] w))
    (c2 : ∀ os, (endY r M w os).map (fun s => obsY2 n ex (HandSHeadRun.getT s)) = some true)
    (c3 : ∀ os, (endY r M w os).map (fun s => obsY3 n tf (HandSHeadRun.getT s)) = some true)
    :
    HandSHeadRun.RunEq r q (hookY n fa fn tf ex) (fun s => obsY n fa fn tf ex (HandSHeadRun.getT s)) M loose w := fun os => by
  have a := a os
  have b := b os
  have c1 := c1 os
  have c2 := c2 os
  have c3 := c3 os
  show (endY r M w os).map _ = _
  generalize endY r M w os = o at a b c1 c2 c3 ⊢
  cases o with
  | none => cases a
  | some s =>
    have a : HandSHeadRun.looksF r.prog (PySem.W.boot_heap w.params) s.abs = true := Option.some.inj a
    have b : HandSHeadRun.seenQ q loose (importedModules r.prog.main.body) (fun s => PySem.W.xlAt q [] s && PySem.W.recOk r.toRowW.records s) s.abs = PySem.W.openGood q loose := Option.some.inj b
    have c1 : obsY1 n fa fn (HandSHeadRun.getT s) = He.valT fn [] w := Option.some.inj c1
    have c2 : obsY2 n ex (HandSHeadRun.getT s) = true := Option.some.inj c2
    have c3 : obsY3 n tf (HandSHeadRun.getT s) = true := Option.some.inj c3
    show some (HandSHeadRun.looksF r.prog (PySem.W.boot_heap w.params) s.abs, HandSHeadRun.seenQ q loose (importedModules r.prog.main.body) (fun s => PySem.W.xlAt q [] s && PySem.W.recOk r.toRowW.records s) s.abs, (obsY1 n fa fn (HandSHeadRun.getT s), obsY2 n ex (HandSHeadRun.getT s) && obsY3 n tf (HandSHeadRun.getT s))) = some (true, PySem.W.openGood q loose, (He.valT fn [] w, true))
    rw [a, b, c1, c2, c3]
    rfl
end Zt
namespace Lw
open PySem PySem.Spec PyProof.Rows L2 Zt
abbrev i_is_whole : Nat := 0
def d_is_whole : Def := ⟨3, 3, (.cons (.ret (.and (.cons (.isi (.v 0) .int) (.cons (.not (.isi (.v 0) .bool)) (.cons (.chain .le .le (.v 1) (.v 0) (.v 2)) .nil)))))
 .nil)⟩
def n_is_whole : List Str := [("value" : Str), ("low" : Str), ("high" : Str)]
abbrev i_is_word : Nat := 1
def d_is_word : Def := ⟨2, 2, (.cons (.ret (.and (.cons (.isi (.v 0) .str) (.cons (.cmp .inn (.v 0) (.v 1)) .nil))))
 .nil)⟩
def n_is_word : List Str := [("value" : Str), ("words" : Str)]
abbrev i_is_kind : Nat := 2
def d_is_kind : Def := ⟨1, 1, (.cons (.ret (.call 1 (.cons (.v 0) (.cons (.tup (.cons (.ks "a") (.cons (.ks "b") (.cons (.ks "c") .nil)))) .nil))))
 .nil)⟩
def n_is_kind : List Str := [("value" : Str)]
abbrev i_is_siding : Nat := 3
def d_is_siding : Def := ⟨1, 1, (.cons (.ret (.call 1 (.cons (.v 0) (.cons (.g 1) .nil))))
 .nil)⟩
def n_is_siding : List Str := [("value" : Str)]
abbrev i_is_many : Nat := 4
def d_is_many : Def := ⟨1, 1, (.cons (.ret (.call 0 (.cons (.v 0) (.cons (.ki 1) (.cons (.ki 8) .nil)))))
 .nil)⟩
def n_is_many : List Str := [("value" : Str)]
def t_is_row_1 : T := (.cmp .nin (.v 1) (.ks "abcABC"))
def e_is_row_1 : E := (.v 1)
abbrev i_is_row : Nat := 5
def d_is_row : Def := ⟨1, 2, (.cons (.ifs (.or (.cons (.not (.e (.isi (.v 0) .str))) (.cons (.cmp .gt (.bi .len (.cons (.v 0) .nil)) (.ki 8)) .nil)))
 (.cons (.ret (.kb false))
 .nil)
 .nil)
 (.cons (.ret (.cmp .eq (.lc e_is_row_1 (.nm 1) (.it (.v 0)) (.so t_is_row_1) [1]) (.lst .nil)))
 .nil))⟩
def n_is_row : List Str := [("value" : Str), ("letter" : Str)]
def t_is_stand_1 : T := (.not (.e (.call 5 (.cons (.v 1) .nil))))
def e_is_stand_1 : E := (.v 1)
abbrev i_is_stand : Nat := 6
def d_is_stand : Def := ⟨1, 2, (.cons (.ifs (.or (.cons (.not (.e (.isi (.v 0) .tuple))) (.cons (.cmp .ne (.bi .len (.cons (.v 0) .nil)) (.ki 3)) (.cons (.cmp .ne (.lc e_is_stand_1 (.nm 1) (.it (.v 0)) (.so t_is_stand_1) [1]) (.lst .nil)) .nil))))
 (.cons (.ret (.kb false))
 .nil)
 .nil)
 (.cons (.ret (.cmp .le (.bin .add (.bin .add (.bi .len (.cons (.sub (.v 0) (.ki 0)) .nil)) (.bi .len (.cons (.sub (.v 0) (.ki 1)) .nil))) (.bi .len (.cons (.sub (.v 0) (.ki 2)) .nil))) (.ki 8)))
 .nil))⟩
def n_is_stand : List Str := [("value" : Str), ("row" : Str)]
def t_is_sum_1 : T := (.cmp .nin (.v 1) (.g 0))
def e_is_sum_1 : E := (.v 1)
def t_is_sum_2 : T := (.cmp .gt (.sub (.v 0) (.v 2)) (.sub (.v 0) (.bin .add (.v 2) (.ki 1))))
def e_is_sum_2 : E := (.v 2)
abbrev i_is_sum : Nat := 7
def d_is_sum : Def := ⟨1, 3, (.cons (.ifs (.or (.cons (.not (.e (.isi (.v 0) .str))) (.cons (.not (.chain .le .le (.ki 1) (.bi .len (.cons (.v 0) .nil)) (.ki 8))) .nil)))
 (.cons (.ret (.kb false))
 .nil)
 .nil)
 (.cons (.ifs (.cmp .ne (.lc e_is_sum_1 (.nm 1) (.it (.v 0)) (.so t_is_sum_1) [1]) (.lst .nil))
 (.cons (.ret (.kb false))
 .nil)
 .nil)
 (.cons (.ret (.cmp .eq (.lc e_is_sum_2 (.nm 2) (.rng1 (.bin .sub (.bi .len (.cons (.v 0) .nil)) (.ki 1))) (.so t_is_sum_2) [2]) (.lst .nil)))
 .nil)))⟩
def n_is_sum : List Str := [("value" : Str), ("letter" : Str), ("at" : Str)]
abbrev i_is_fact : Nat := 8
def d_is_fact : Def := ⟨1, 1, (.cons (.ifs (.or (.cons (.not (.e (.isi (.v 0) .tuple))) (.cons (.cmp .ne (.bi .len (.cons (.v 0) .nil)) (.ki 3)) (.cons (.not (.e (.call 1 (.cons (.sub (.v 0) (.ki 0)) (.cons (.tup (.cons (.ks "less") (.cons (.ks "upto") (.cons (.ks "same") .nil)))) .nil))))) .nil))))
 (.cons (.ret (.kb false))
 .nil)
 .nil)
 (.cons (.ret (.and (.cons (.call 7 (.cons (.sub (.v 0) (.ki 1)) .nil)) (.cons (.call 7 (.cons (.sub (.v 0) (.ki 2)) .nil)) .nil))))
 .nil))⟩
def n_is_fact : List Str := [("value" : Str)]
def t_is_facts_1 : T := (.not (.e (.call 8 (.cons (.v 1) .nil))))
def e_is_facts_1 : E := (.v 1)
abbrev i_is_facts : Nat := 9
def d_is_facts : Def := ⟨1, 2, (.cons (.ret (.and (.cons (.isi (.v 0) .tuple) (.cons (.cmp .le (.bi .len (.cons (.v 0) .nil)) (.ki 6)) (.cons (.cmp .eq (.lc e_is_facts_1 (.nm 1) (.it (.v 0)) (.so t_is_facts_1) [1]) (.lst .nil)) .nil)))))
 .nil)⟩
def n_is_facts : List Str := [("value" : Str), ("fact" : Str)]
abbrev i_is_condition : Nat := 10
def d_is_condition : Def := ⟨1, 1, (.cons (.ifs (.or (.cons (.not (.e (.isi (.v 0) .tuple))) (.cons (.cmp .eq (.v 0) (.tup .nil)) (.cons (.not (.e (.isi (.sub (.v 0) (.ki 0)) .str))) .nil))))
 (.cons (.ret (.kb false))
 .nil)
 .nil)
 (.cons (.ifs (.cmp .eq (.sub (.v 0) (.ki 0)) (.ks "fits"))
 (.cons (.ret (.and (.cons (.cmp .eq (.bi .len (.cons (.v 0) .nil)) (.ki 3)) (.cons (.call 3 (.cons (.sub (.v 0) (.ki 1)) .nil)) (.cons (.call 4 (.cons (.sub (.v 0) (.ki 2)) .nil)) .nil)))))
 .nil)
 .nil)
 (.cons (.ifs (.cmp .eq (.sub (.v 0) (.ki 0)) (.ks "head"))
 (.cons (.ret (.and (.cons (.cmp .eq (.bi .len (.cons (.v 0) .nil)) (.ki 3)) (.cons (.call 3 (.cons (.sub (.v 0) (.ki 1)) .nil)) (.cons (.call 2 (.cons (.sub (.v 0) (.ki 2)) .nil)) .nil)))))
 .nil)
 .nil)
 (.cons (.ifs (.cmp .eq (.sub (.v 0) (.ki 0)) (.ks "some"))
 (.cons (.ret (.and (.cons (.cmp .eq (.bi .len (.cons (.v 0) .nil)) (.ki 2)) (.cons (.call 3 (.cons (.sub (.v 0) (.ki 1)) .nil)) .nil))))
 .nil)
 .nil)
 (.cons (.ifs (.cmp .eq (.sub (.v 0) (.ki 0)) (.ks "rake"))
 (.cons (.ret (.and (.cons (.cmp .eq (.bi .len (.cons (.v 0) .nil)) (.ki 2)) (.cons (.call 4 (.cons (.sub (.v 0) (.ki 1)) .nil)) .nil))))
 .nil)
 .nil)
 (.cons (.ifs (.cmp .eq (.sub (.v 0) (.ki 0)) (.ks "tail"))
 (.cons (.ret (.and (.cons (.cmp .eq (.bi .len (.cons (.v 0) .nil)) (.ki 2)) (.cons (.call 2 (.cons (.sub (.v 0) (.ki 1)) .nil)) .nil))))
 .nil)
 .nil)
 (.cons (.ret (.cmp .eq (.v 0) (.tup (.cons (.ks "turns") .nil))))
 .nil)))))))⟩
def n_is_condition : List Str := [("value" : Str)]
abbrev i_is_plain : Nat := 11
def d_is_plain : Def := ⟨1, 1, (.cons (.ifs (.or (.cons (.not (.e (.isi (.v 0) .tuple))) (.cons (.cmp .eq (.v 0) (.tup .nil)) (.cons (.not (.e (.isi (.sub (.v 0) (.ki 0)) .str))) .nil))))
 (.cons (.ret (.kb false))
 .nil)
 .nil)
 (.cons (.ifs (.cmp .inn (.sub (.v 0) (.ki 0)) (.tup (.cons (.ks "pull") (.cons (.ks "push") .nil))))
 (.cons (.ret (.and (.cons (.cmp .eq (.bi .len (.cons (.v 0) .nil)) (.ki 3)) (.cons (.call 3 (.cons (.sub (.v 0) (.ki 1)) .nil)) (.cons (.call 4 (.cons (.sub (.v 0) (.ki 2)) .nil)) .nil)))))
 .nil)
 .nil)
 (.cons (.ifs (.cmp .eq (.sub (.v 0) (.ki 0)) (.ks "fill"))
 (.cons (.ret (.and (.cons (.cmp .eq (.bi .len (.cons (.v 0) .nil)) (.ki 2)) (.cons (.call 3 (.cons (.sub (.v 0) (.ki 1)) .nil)) .nil))))
 .nil)
 .nil)
 (.cons (.ret (.cmp .eq (.v 0) (.tup (.cons (.ks "turn") .nil))))
 .nil))))⟩
def n_is_plain : List Str := [("value" : Str)]
def t_is_body_1 : T := (.not (.e (.call 11 (.cons (.v 1) .nil))))
def e_is_body_1 : E := (.v 1)
abbrev i_is_body : Nat := 12
def d_is_body : Def := ⟨1, 2, (.cons (.ret (.and (.cons (.isi (.v 0) .tuple) (.cons (.cmp .le (.bi .len (.cons (.v 0) .nil)) (.ki 3)) (.cons (.cmp .eq (.lc e_is_body_1 (.nm 1) (.it (.v 0)) (.so t_is_body_1) [1]) (.lst .nil)) .nil)))))
 .nil)⟩
def n_is_body : List Str := [("value" : Str), ("step" : Str)]
abbrev i_is_step : Nat := 13
def d_is_step : Def := ⟨1, 1, (.cons (.ifs (.or (.cons (.not (.e (.isi (.v 0) .tuple))) (.cons (.cmp .eq (.v 0) (.tup .nil)) (.cons (.not (.e (.isi (.sub (.v 0) (.ki 0)) .str))) .nil))))
 (.cons (.ret (.kb false))
 .nil)
 .nil)
 (.cons (.ifs (.cmp .eq (.sub (.v 0) (.ki 0)) (.ks "if"))
 (.cons (.ret (.and (.cons (.cmp .eq (.bi .len (.cons (.v 0) .nil)) (.ki 4)) (.cons (.call 10 (.cons (.sub (.v 0) (.ki 1)) .nil)) (.cons (.call 12 (.cons (.sub (.v 0) (.ki 2)) .nil)) (.cons (.call 12 (.cons (.sub (.v 0) (.ki 3)) .nil)) .nil))))))
 .nil)
 .nil)
 (.cons (.ifs (.cmp .eq (.sub (.v 0) (.ki 0)) (.ks "while"))
 (.cons (.ret (.and (.cons (.cmp .eq (.bi .len (.cons (.v 0) .nil)) (.ki 3)) (.cons (.call 10 (.cons (.sub (.v 0) (.ki 1)) .nil)) (.cons (.call 12 (.cons (.sub (.v 0) (.ki 2)) .nil)) .nil)))))
 .nil)
 .nil)
 (.cons (.ret (.call 11 (.cons (.v 0) .nil)))
 .nil))))⟩
def n_is_step : List Str := [("value" : Str)]
abbrev i_size_of : Nat := 14
def d_size_of : Def := ⟨1, 1, (.cons (.ifs (.cmp .eq (.sub (.v 0) (.ki 0)) (.ks "if"))
 (.cons (.ret (.bin .add (.bin .add (.ki 1) (.bi .len (.cons (.sub (.v 0) (.ki 2)) .nil))) (.bi .len (.cons (.sub (.v 0) (.ki 3)) .nil))))
 .nil)
 .nil)
 (.cons (.ret (.ite (.cmp .eq (.sub (.v 0) (.ki 0)) (.ks "while")) (.bin .add (.ki 1) (.bi .len (.cons (.sub (.v 0) (.ki 2)) .nil))) (.ki 1)))
 .nil))⟩
def n_size_of : List Str := [("step" : Str)]
def e_steps_in_1 : E := (.call 14 (.cons (.v 1) .nil))
abbrev i_steps_in : Nat := 15
def d_steps_in : Def := ⟨1, 2, (.cons (.ret (.bi .sum (.cons (.lc e_steps_in_1 (.nm 1) (.it (.v 0)) .no [1]) .nil)))
 .nil)⟩
def n_steps_in : List Str := [("script" : Str), ("step" : Str)]
def t_is_script_1 : T := (.not (.e (.call 13 (.cons (.v 1) .nil))))
def e_is_script_1 : E := (.v 1)
abbrev i_is_script : Nat := 16
def d_is_script : Def := ⟨1, 2, (.cons (.ifs (.or (.cons (.not (.e (.isi (.v 0) .tuple))) (.cons (.cmp .gt (.bi .len (.cons (.v 0) .nil)) (.g 2)) (.cons (.cmp .ne (.lc e_is_script_1 (.nm 1) (.it (.v 0)) (.so t_is_script_1) [1]) (.lst .nil)) .nil))))
 (.cons (.ret (.kb false))
 .nil)
 .nil)
 (.cons (.ret (.cmp .le (.call 15 (.cons (.v 0) .nil)) (.g 3)))
 .nil))⟩
def n_is_script : List Str := [("value" : Str), ("step" : Str)]
def t_is_lengths_1 : T := (.not (.e (.call 0 (.cons (.v 1) (.cons (.ki 1) (.cons (.g 4) .nil))))))
def e_is_lengths_1 : E := (.v 1)
abbrev i_is_lengths : Nat := 17
def d_is_lengths : Def := ⟨1, 2, (.cons (.ifs (.or (.cons (.not (.e (.isi (.v 0) .tuple))) (.cons (.cmp .ne (.bi .len (.cons (.v 0) .nil)) (.ki 6)) .nil)))
 (.cons (.ret (.kb false))
 .nil)
 .nil)
 (.cons (.ret (.cmp .eq (.lc e_is_lengths_1 (.nm 1) (.it (.v 0)) (.so t_is_lengths_1) [1]) (.lst .nil)))
 .nil))⟩
def n_is_lengths : List Str := [("value" : Str), ("length" : Str)]
abbrev i_need_row : Nat := 18
def d_need_row : Def := ⟨1, 1, (.cons (.ifs (.not (.e (.call 5 (.cons (.v 0) .nil))))
 (.cons (.raise 2)
 .nil)
 .nil)
 .nil)⟩
def n_need_row : List Str := [("row" : Str)]
abbrev i_need_script : Nat := 19
def d_need_script : Def := ⟨1, 1, (.cons (.ifs (.not (.e (.call 16 (.cons (.v 0) .nil))))
 (.cons (.raise 3)
 .nil)
 .nil)
 .nil)⟩
def n_need_script : List Str := [("script" : Str)]
abbrev i_turned_row : Nat := 20
def d_turned_row : Def := ⟨1, 1, (.cons (.ret (.mth .swapcase (.rev (.v 0)) .nil))
 .nil)⟩
def n_turned_row : List Str := [("row" : Str)]
abbrev i_turned : Nat := 21
def d_turned : Def := ⟨1, 1, (.cons (.ex (.call 18 (.cons (.v 0) .nil)))
 (.cons (.ret (.call 20 (.cons (.v 0) .nil)))
 .nil))⟩
def n_turned : List Str := [("row" : Str)]
abbrev i_count_steps : Nat := 22
def d_count_steps : Def := ⟨1, 1, (.cons (.ex (.call 19 (.cons (.v 0) .nil)))
 (.cons (.ret (.call 15 (.cons (.v 0) .nil)))
 .nil))⟩
def n_count_steps : List Str := [("script" : Str)]
abbrev i_law_vat : Nat := 23
def d_law_vat : Def := ⟨2, 3, (.cons (.asg (.nm 2) (.bin .add (.bin .mul (.ki 7919) (.v 1)) (.ki 43)))
 (.cons (.ifs (.cmp .lt (.v 1) (.sln 0))
 (.cons (.asg (.nm 2) (.bi .abs (.cons (.bi .int (.cons (.six 0 (.v 1)) .nil)) .nil)))
 .nil)
 .nil)
 (.cons (.ret (.mls (.cons (.ite (.cmp .ge (.v 2) (.bin .pow (.ki 10) (.ki 18))) (.v 2) (.ki 0)) (.cons (.bin .add (.bin .mod (.bi .int (.cons (.bin .add (.bin .add (.bin .mul (.v 2) (.ki 131071)) (.bin .mul (.ki 8191) (.v 1))) (.ki 5)) .nil)) (.ki 2147483629)) (.ki 1)) .nil))))
 .nil)))⟩
def n_law_vat : List Str := [("_law_script_here" : Str), ("_law_k" : Str), ("_law_cell" : Str)]
abbrev i_law_under : Nat := 24
def d_law_under : Def := ⟨2, 4, (.cons (.ifs (.cmp .gt (.sub (.v 0) (.ki 0)) (.ki 0))
 (.cons (.asg (.nm 3) (.bin .mod (.bi .int (.cons (.sub (.v 0) (.ki 0)) .nil)) (.v 1)))
 (.cons (.setI (.v 0) (.ki 0) (.bin .fdiv (.sub (.v 0) (.ki 0)) (.v 1)))
 (.cons (.ret (.v 3))
 .nil)))
 .nil)
 (.cons (.setI (.v 0) (.ki 1) (.bin .mod (.bi .int (.cons (.bin .add (.bin .mul (.sub (.v 0) (.ki 1)) (.ki 39373)) (.ki 101)) .nil)) (.ki 2147483629)))
 (.cons (.asg (.nm 2) (.bin .mod (.bi .int (.cons (.bin .mul (.sub (.v 0) (.ki 1)) (.bin .add (.bin .fdiv (.sub (.v 0) (.ki 1)) (.ki 5)) (.ki 9))) .nil)) (.ki 2147483587)))
 (.cons (.ret (.bin .mod (.bi .int (.cons (.bin .fdiv (.v 2) (.ki 32)) .nil)) (.v 1)))
 .nil))))⟩
def n_law_under : List Str := [("_law_vat_here" : Str), ("_law_many" : Str), ("_law_wide" : Str), ("_law_found" : Str)]
abbrev i_law_some : Nat := 25
def d_law_some : Def := ⟨2, 2, (.cons (.ret (.sub (.v 1) (.call 24 (.cons (.v 0) (.cons (.bi .len (.cons (.v 1) .nil)) .nil)))))
 .nil)⟩
def n_law_some : List Str := [("_law_vat_here" : Str), ("_law_things" : Str)]
abbrev i_law_is_whole : Nat := 26
def d_law_is_whole : Def := ⟨3, 3, (.cons (.ret (.and (.cons (.isi (.v 0) .int) (.cons (.not (.isi (.v 0) .bool)) (.cons (.chain .le .le (.v 1) (.v 0) (.v 2)) .nil)))))
 .nil)⟩
def n_law_is_whole : List Str := [("_law_value" : Str), ("_law_low" : Str), ("_law_high" : Str)]
abbrev i_law_truly : Nat := 27
def d_law_truly : Def := ⟨2, 2, (.cons (.ret (.and (.cons (.isi (.v 0) .bool) (.cons (.cmp .eq (.v 0) (.v 1)) .nil))))
 .nil)⟩
def n_law_truly : List Str := [("_law_found" : Str), ("_law_due" : Str)]
def t_law_is_wagons_1 : T := (.cmp .nin (.v 1) (.ks "abcABC"))
def e_law_is_wagons_1 : E := (.v 1)
abbrev i_law_is_wagons : Nat := 28
def d_law_is_wagons : Def := ⟨1, 2, (.cons (.ifs (.or (.cons (.not (.e (.isi (.v 0) .str))) (.cons (.cmp .gt (.bi .len (.cons (.v 0) .nil)) (.ki 8)) .nil)))
 (.cons (.ret (.kb false))
 .nil)
 .nil)
 (.cons (.ret (.cmp .eq (.lc e_law_is_wagons_1 (.nm 1) (.it (.v 0)) (.so t_law_is_wagons_1) [1]) (.lst .nil)))
 .nil))⟩
def n_law_is_wagons : List Str := [("_law_value" : Str), ("_law_sign" : Str)]
def t_law_is_place_1 : T := (.not (.e (.call 28 (.cons (.v 1) .nil))))
def e_law_is_place_1 : E := (.v 1)
abbrev i_law_is_place : Nat := 29
def d_law_is_place : Def := ⟨1, 2, (.cons (.ifs (.or (.cons (.not (.e (.isi (.v 0) .tuple))) (.cons (.cmp .ne (.bi .len (.cons (.v 0) .nil)) (.ki 3)) .nil)))
 (.cons (.ret (.kb false))
 .nil)
 .nil)
 (.cons (.ifs (.cmp .ne (.lc e_law_is_place_1 (.nm 1) (.it (.v 0)) (.so t_law_is_place_1) [1]) (.lst .nil))
 (.cons (.ret (.kb false))
 .nil)
 .nil)
 (.cons (.ret (.cmp .lt (.bi .len (.cons (.bin .add (.bin .add (.sub (.v 0) (.ki 0)) (.sub (.v 0) (.ki 1))) (.sub (.v 0) (.ki 2))) .nil)) (.ki 9)))
 .nil)))⟩
def n_law_is_place : List Str := [("_law_value" : Str), ("_law_row" : Str)]
def t_law_is_sum_1 : T := (.cmp .nin (.v 1) (.ks "abcpqr"))
def e_law_is_sum_1 : E := (.v 1)
abbrev i_law_is_sum : Nat := 30
def d_law_is_sum : Def := ⟨1, 2, (.cons (.ifs (.or (.cons (.not (.e (.isi (.v 0) .str))) (.cons (.not (.chain .le .le (.ki 1) (.bi .len (.cons (.v 0) .nil)) (.ki 8))) .nil)))
 (.cons (.ret (.kb false))
 .nil)
 .nil)
 (.cons (.ifs (.cmp .ne (.lc e_law_is_sum_1 (.nm 1) (.it (.v 0)) (.so t_law_is_sum_1) [1]) (.lst .nil))
 (.cons (.ret (.kb false))
 .nil)
 .nil)
 (.cons (.ret (.cmp .eq (.bi .chars (.cons (.v 0) .nil)) (.bi .sortedC (.cons (.v 0) .nil))))
 .nil)))⟩
def n_law_is_sum : List Str := [("_law_value" : Str), ("_law_sign" : Str)]
abbrev i_law_is_fact : Nat := 31
def d_law_is_fact : Def := ⟨1, 1, (.cons (.ifs (.or (.cons (.not (.e (.isi (.v 0) .tuple))) (.cons (.cmp .ne (.bi .len (.cons (.v 0) .nil)) (.ki 3)) (.cons (.not (.e (.isi (.sub (.v 0) (.ki 0)) .str))) .nil))))
 (.cons (.ret (.kb false))
 .nil)
 .nil)
 (.cons (.ret (.and (.cons (.cmp .inn (.sub (.v 0) (.ki 0)) (.tup (.cons (.ks "less") (.cons (.ks "upto") (.cons (.ks "same") .nil))))) (.cons (.call 30 (.cons (.sub (.v 0) (.ki 1)) .nil)) (.cons (.call 30 (.cons (.sub (.v 0) (.ki 2)) .nil)) .nil)))))
 .nil))⟩
def n_law_is_fact : List Str := [("_law_value" : Str)]
def t_law_are_facts_1 : T := (.not (.e (.call 31 (.cons (.v 1) .nil))))
def e_law_are_facts_1 : E := (.v 1)
abbrev i_law_are_facts : Nat := 32
def d_law_are_facts : Def := ⟨1, 2, (.cons (.ifs (.or (.cons (.not (.e (.isi (.v 0) .tuple))) (.cons (.cmp .gt (.bi .len (.cons (.v 0) .nil)) (.ki 6)) .nil)))
 (.cons (.ret (.kb false))
 .nil)
 .nil)
 (.cons (.ret (.cmp .eq (.lc e_law_are_facts_1 (.nm 1) (.it (.v 0)) (.so t_law_are_facts_1) [1]) (.lst .nil)))
 .nil))⟩
def n_law_are_facts : List Str := [("_law_value" : Str), ("_law_fact_here" : Str)]
abbrev i_law_is_end : Nat := 33
def d_law_is_end : Def := ⟨2, 2, (.cons (.ret (.and (.cons (.isi (.v 0) .str) (.cons (.cmp .inn (.v 0) (.v 1)) .nil))))
 .nil)⟩
def n_law_is_end : List Str := [("_law_value" : Str), ("_law_some_here" : Str)]
abbrev i_law_is_condition : Nat := 34
def d_law_is_condition : Def := ⟨1, 1, (.cons (.ifs (.or (.cons (.not (.e (.isi (.v 0) .tuple))) (.cons (.cmp .nin (.bi .len (.cons (.v 0) .nil)) (.tup (.cons (.ki 1) (.cons (.ki 2) (.cons (.ki 3) .nil))))) (.cons (.not (.e (.isi (.sub (.v 0) (.ki 0)) .str))) .nil))))
 (.cons (.ret (.kb false))
 .nil)
 .nil)
 (.cons (.ifs (.cmp .eq (.bi .len (.cons (.v 0) .nil)) (.ki 1))
 (.cons (.ret (.cmp .eq (.sub (.v 0) (.ki 0)) (.ks "turns")))
 .nil)
 .nil)
 (.cons (.ifs (.cmp .eq (.bi .len (.cons (.v 0) .nil)) (.ki 2))
 (.cons (.ifs (.cmp .eq (.sub (.v 0) (.ki 0)) (.ks "some"))
 (.cons (.ret (.call 33 (.cons (.sub (.v 0) (.ki 1)) (.cons (.lst (.cons (.ks "p") (.cons (.ks "q") .nil))) .nil))))
 .nil)
 .nil)
 (.cons (.ifs (.cmp .eq (.sub (.v 0) (.ki 0)) (.ks "tail"))
 (.cons (.ret (.call 33 (.cons (.sub (.v 0) (.ki 1)) (.cons (.lst (.cons (.ks "a") (.cons (.ks "b") (.cons (.ks "c") .nil)))) .nil))))
 .nil)
 .nil)
 (.cons (.ret (.and (.cons (.cmp .eq (.sub (.v 0) (.ki 0)) (.ks "rake")) (.cons (.call 26 (.cons (.sub (.v 0) (.ki 1)) (.cons (.ki 1) (.cons (.ki 8) .nil)))) .nil))))
 .nil)))
 .nil)
 (.cons (.ifs (.or (.cons (.cmp .nin (.sub (.v 0) (.ki 0)) (.tup (.cons (.ks "fits") (.cons (.ks "head") .nil)))) (.cons (.not (.e (.call 33 (.cons (.sub (.v 0) (.ki 1)) (.cons (.lst (.cons (.ks "p") (.cons (.ks "q") .nil))) .nil))))) .nil)))
 (.cons (.ret (.kb false))
 .nil)
 .nil)
 (.cons (.ifs (.cmp .eq (.sub (.v 0) (.ki 0)) (.ks "head"))
 (.cons (.ret (.call 33 (.cons (.sub (.v 0) (.ki 2)) (.cons (.lst (.cons (.ks "a") (.cons (.ks "b") (.cons (.ks "c") .nil)))) .nil))))
 .nil)
 .nil)
 (.cons (.ret (.call 26 (.cons (.sub (.v 0) (.ki 2)) (.cons (.ki 1) (.cons (.ki 8) .nil)))))
 .nil))))))⟩
def n_law_is_condition : List Str := [("_law_value" : Str)]
abbrev i_law_is_simple : Nat := 35
def d_law_is_simple : Def := ⟨1, 1, (.cons (.ifs (.or (.cons (.not (.e (.isi (.v 0) .tuple))) (.cons (.cmp .nin (.bi .len (.cons (.v 0) .nil)) (.tup (.cons (.ki 1) (.cons (.ki 2) (.cons (.ki 3) .nil))))) (.cons (.not (.e (.isi (.sub (.v 0) (.ki 0)) .str))) .nil))))
 (.cons (.ret (.kb false))
 .nil)
 .nil)
 (.cons (.ifs (.cmp .eq (.bi .len (.cons (.v 0) .nil)) (.ki 1))
 (.cons (.ret (.cmp .eq (.sub (.v 0) (.ki 0)) (.ks "turn")))
 .nil)
 .nil)
 (.cons (.ifs (.not (.e (.call 33 (.cons (.sub (.v 0) (.ki 1)) (.cons (.lst (.cons (.ks "p") (.cons (.ks "q") .nil))) .nil)))))
 (.cons (.ret (.kb false))
 .nil)
 .nil)
 (.cons (.ifs (.cmp .eq (.bi .len (.cons (.v 0) .nil)) (.ki 2))
 (.cons (.ret (.cmp .eq (.sub (.v 0) (.ki 0)) (.ks "fill")))
 .nil)
 .nil)
 (.cons (.ret (.and (.cons (.cmp .inn (.sub (.v 0) (.ki 0)) (.tup (.cons (.ks "pull") (.cons (.ks "push") .nil)))) (.cons (.call 26 (.cons (.sub (.v 0) (.ki 2)) (.cons (.ki 1) (.cons (.ki 8) .nil)))) .nil))))
 .nil)))))⟩
def n_law_is_simple : List Str := [("_law_value" : Str)]
def t_law_is_step_1 : T := (.not (.e (.call 35 (.cons (.v 2) .nil))))
def e_law_is_step_1 : E := (.v 2)
def b_law_is_step_1 : Ss := (.cons (.ifs (.or (.cons (.not (.e (.isi (.v 1) .tuple))) (.cons (.cmp .gt (.bi .len (.cons (.v 1) .nil)) (.ki 3)) .nil)))
 (.cons (.ret (.kb false))
 .nil)
 .nil)
 (.cons (.ifs (.cmp .ne (.lc e_law_is_step_1 (.nm 2) (.it (.v 1)) (.so t_law_is_step_1) [2]) (.lst .nil))
 (.cons (.ret (.kb false))
 .nil)
 .nil)
 .nil))
abbrev i_law_is_step : Nat := 36
def d_law_is_step : Def := ⟨1, 3, (.cons (.ifs (.or (.cons (.not (.e (.isi (.v 0) .tuple))) (.cons (.cmp .eq (.v 0) (.tup .nil)) (.cons (.not (.e (.isi (.sub (.v 0) (.ki 0)) .str))) .nil))))
 (.cons (.ret (.kb false))
 .nil)
 .nil)
 (.cons (.ifs (.cmp .nin (.sub (.v 0) (.ki 0)) (.tup (.cons (.ks "if") (.cons (.ks "while") .nil))))
 (.cons (.ret (.call 35 (.cons (.v 0) .nil)))
 .nil)
 .nil)
 (.cons (.ifs (.or (.cons (.cmp .ne (.bi .len (.cons (.v 0) .nil)) (.ite (.cmp .eq (.sub (.v 0) (.ki 0)) (.ks "if")) (.ki 4) (.ki 3))) (.cons (.not (.e (.call 34 (.cons (.sub (.v 0) (.ki 1)) .nil)))) .nil)))
 (.cons (.ret (.kb false))
 .nil)
 .nil)
 (.cons (.for (.nm 1) (.it (.slc (.v 0) (.so (.ki 2)) .no))
 b_law_is_step_1)
 (.cons (.ret (.kb true))
 .nil)))))⟩
def n_law_is_step : List Str := [("_law_value" : Str), ("_law_body_here" : Str), ("_law_step_here" : Str)]
def e_law_size_1 : E := (.bi .len (.cons (.v 3) .nil))
def b_law_size_1 : Ss := (.cons (.ifs (.cmp .inn (.sub (.v 2) (.ki 0)) (.tup (.cons (.ks "if") (.cons (.ks "while") .nil))))
 (.cons (.asg (.nm 1) (.bin .add (.v 1) (.bi .sum (.cons (.lc e_law_size_1 (.nm 3) (.it (.slc (.v 2) (.so (.ki 2)) .no)) .no [3]) .nil))))
 .nil)
 .nil)
 .nil)
abbrev i_law_size : Nat := 37
def d_law_size : Def := ⟨1, 4, (.cons (.asg (.nm 1) (.bi .len (.cons (.v 0) .nil)))
 (.cons (.for (.nm 2) (.it (.v 0))
 b_law_size_1)
 (.cons (.ret (.v 1))
 .nil)))⟩
def n_law_size : List Str := [("_law_script_here" : Str), ("_law_total" : Str), ("_law_step_here" : Str), ("_law_body_here" : Str)]
def t_law_is_script_1 : T := (.not (.e (.call 36 (.cons (.v 1) .nil))))
def e_law_is_script_1 : E := (.v 1)
abbrev i_law_is_script : Nat := 38
def d_law_is_script : Def := ⟨1, 2, (.cons (.ifs (.or (.cons (.not (.e (.isi (.v 0) .tuple))) (.cons (.cmp .gt (.bi .len (.cons (.v 0) .nil)) (.ki 6)) .nil)))
 (.cons (.ret (.kb false))
 .nil)
 .nil)
 (.cons (.ret (.and (.cons (.cmp .eq (.lc e_law_is_script_1 (.nm 1) (.it (.v 0)) (.so t_law_is_script_1) [1]) (.lst .nil)) (.cons (.cmp .lt (.call 37 (.cons (.v 0) .nil)) (.ki 13)) .nil))))
 .nil))⟩
def n_law_is_script : List Str := [("_law_value" : Str), ("_law_step_here" : Str)]
def t_law_are_sizes_1 : T := (.not (.e (.call 26 (.cons (.v 1) (.cons (.ki 1) (.cons (.bin .pow (.ki 10) (.ki 30)) .nil))))))
def e_law_are_sizes_1 : E := (.v 1)
abbrev i_law_are_sizes : Nat := 39
def d_law_are_sizes : Def := ⟨1, 2, (.cons (.ifs (.or (.cons (.not (.e (.isi (.v 0) .tuple))) (.cons (.cmp .ne (.bi .len (.cons (.v 0) .nil)) (.ki 6)) .nil)))
 (.cons (.ret (.kb false))
 .nil)
 .nil)
 (.cons (.ret (.cmp .eq (.lc e_law_are_sizes_1 (.nm 1) (.it (.v 0)) (.so t_law_are_sizes_1) [1]) (.lst .nil)))
 .nil))⟩
def n_law_are_sizes : List Str := [("_law_value" : Str), ("_law_part" : Str)]
def b_law_wagons_1 : Ss := (.cons (.asg (.nm 2) (.bin .add (.v 2) (.call 25 (.cons (.v 0) (.cons (.lst (.cons (.ks "a") (.cons (.ks "b") (.cons (.ks "a") (.cons (.ks "b") (.cons (.ks "c") (.cons (.ks "A") (.cons (.ks "B") .nil)))))))) .nil)))))
 .nil)
abbrev i_law_wagons : Nat := 40
def d_law_wagons : Def := ⟨2, 4, (.cons (.asg (.nm 2) (.ks ""))
 (.cons (.for (.nm 3) (.rng1 (.call 24 (.cons (.v 0) (.cons (.bin .add (.v 1) (.ki 1)) .nil))))
 b_law_wagons_1)
 (.cons (.ret (.v 2))
 .nil)))⟩
def n_law_wagons : List Str := [("_law_vat_here" : Str), ("_law_most" : Str), ("_law_found" : Str), ("_law_turn" : Str)]
abbrev i_law_place : Nat := 41
def d_law_place : Def := ⟨1, 1, (.cons (.ret (.tup (.cons (.bin .add (.ks "a") (.call 40 (.cons (.v 0) (.cons (.ki 3) .nil)))) (.cons (.call 40 (.cons (.v 0) (.cons (.ki 1) .nil))) (.cons (.call 40 (.cons (.v 0) (.cons (.ki 1) .nil))) .nil)))))
 .nil)⟩
def n_law_place : List Str := [("_law_vat_here" : Str)]
def b_law_sum_1 : Ss := (.cons (.ex (.mth .append (.v 1) (.cons (.call 25 (.cons (.v 0) (.cons (.lst (.cons (.ks "a") (.cons (.ks "b") (.cons (.ks "a") (.cons (.ks "b") (.cons (.ks "c") (.cons (.ks "p") (.cons (.ks "q") (.cons (.ks "r") .nil))))))))) .nil))) .nil)))
 .nil)
abbrev i_law_sum : Nat := 42
def d_law_sum : Def := ⟨1, 3, (.cons (.asg (.nm 1) (.mls .nil))
 (.cons (.for (.nm 2) (.rng1 (.bin .add (.ki 1) (.call 24 (.cons (.v 0) (.cons (.ki 3) .nil)))))
 b_law_sum_1)
 (.cons (.ret (.mth .join (.ks "") (.cons (.bi .sorted (.cons (.v 1) .nil)) .nil)))
 .nil)))⟩
def n_law_sum : List Str := [("_law_vat_here" : Str), ("_law_found" : Str), ("_law_turn" : Str)]
abbrev i_law_fact : Nat := 43
def d_law_fact : Def := ⟨1, 1, (.cons (.ret (.tup (.cons (.call 25 (.cons (.v 0) (.cons (.lst (.cons (.ks "less") (.cons (.ks "upto") (.cons (.ks "upto") (.cons (.ks "same") .nil))))) .nil))) (.cons (.call 42 (.cons (.v 0) .nil)) (.cons (.call 42 (.cons (.v 0) .nil)) .nil)))))
 .nil)⟩
def n_law_fact : List Str := [("_law_vat_here" : Str)]
def e_law_facts_1 : E := (.call 43 (.cons (.v 0) .nil))
abbrev i_law_facts : Nat := 44
def d_law_facts : Def := ⟨2, 3, (.cons (.ret (.bi .tuple (.cons (.lc e_law_facts_1 (.nm 2) (.rng1 (.call 24 (.cons (.v 0) (.cons (.bin .add (.v 1) (.ki 1)) .nil)))) .no [2]) .nil)))
 .nil)⟩
def n_law_facts : List Str := [("_law_vat_here" : Str), ("_law_most" : Str), ("_law_turn" : Str)]
abbrev i_law_condition : Nat := 45
def d_law_condition : Def := ⟨1, 2, (.cons (.asg (.nm 1) (.lst (.cons (.tup (.cons (.ks "fits") (.cons (.ks "p") (.cons (.ki 1) .nil)))) (.cons (.tup (.cons (.ks "fits") (.cons (.ks "q") (.cons (.ki 1) .nil)))) (.cons (.tup (.cons (.ks "fits") (.cons (.ks "p") (.cons (.ki 2) .nil)))) (.cons (.tup (.cons (.ks "rake") (.cons (.ki 1) .nil))) (.cons (.tup (.cons (.ks "rake") (.cons (.ki 3) .nil))) (.cons (.tup (.cons (.ks "some") (.cons (.ks "p") .nil))) (.cons (.tup (.cons (.ks "turns") .nil)) .nil)))))))))
 (.cons (.ret (.call 25 (.cons (.v 0) (.cons (.bin .add (.v 1) (.lst (.cons (.tup (.cons (.ks "head") (.cons (.ks "q") (.cons (.ks "a") .nil)))) (.cons (.tup (.cons (.ks "tail") (.cons (.ks "a") .nil))) (.cons (.tup (.cons (.ks "tail") (.cons (.ks "b") .nil))) (.cons (.tup (.cons (.ks "head") (.cons (.ks "p") (.cons (.ks "c") .nil)))) .nil)))))) .nil))))
 .nil))⟩
def n_law_condition : List Str := [("_law_vat_here" : Str), ("_law_some_here" : Str)]
abbrev i_law_simple : Nat := 46
def d_law_simple : Def := ⟨1, 2, (.cons (.asg (.nm 1) (.lst (.cons (.tup (.cons (.ks "push") (.cons (.ks "p") (.cons (.ki 1) .nil)))) (.cons (.tup (.cons (.ks "push") (.cons (.ks "q") (.cons (.ki 1) .nil)))) (.cons (.tup (.cons (.ks "push") (.cons (.ks "p") (.cons (.ki 2) .nil)))) (.cons (.tup (.cons (.ks "push") (.cons (.ks "q") (.cons (.ki 3) .nil)))) (.cons (.tup (.cons (.ks "push") (.cons (.ks "q") (.cons (.ki 1) .nil)))) (.cons (.tup (.cons (.ks "push") (.cons (.ks "p") (.cons (.ki 1) .nil)))) .nil))))))))
 (.cons (.asg (.nm 1) (.bin .add (.v 1) (.lst (.cons (.tup (.cons (.ks "pull") (.cons (.ks "p") (.cons (.ki 1) .nil)))) (.cons (.tup (.cons (.ks "pull") (.cons (.ks "q") (.cons (.ki 2) .nil)))) (.cons (.tup (.cons (.ks "pull") (.cons (.ks "p") (.cons (.ki 8) .nil)))) (.cons (.tup (.cons (.ks "fill") (.cons (.ks "p") .nil))) (.cons (.tup (.cons (.ks "fill") (.cons (.ks "q") .nil))) (.cons (.tup (.cons (.ks "turn") .nil)) .nil)))))))))
 (.cons (.ret (.call 25 (.cons (.v 0) (.cons (.v 1) .nil))))
 .nil)))⟩
def n_law_simple : List Str := [("_law_vat_here" : Str), ("_law_some_here" : Str)]
def e_law_body_1 : E := (.call 46 (.cons (.v 0) .nil))
abbrev i_law_body : Nat := 47
def d_law_body : Def := ⟨1, 2, (.cons (.ret (.bi .tuple (.cons (.lc e_law_body_1 (.nm 1) (.rng1 (.call 24 (.cons (.v 0) (.cons (.ki 3) .nil)))) .no [1]) .nil)))
 .nil)⟩
def n_law_body : List Str := [("_law_vat_here" : Str), ("_law_turn" : Str)]
abbrev i_law_step : Nat := 48
def d_law_step : Def := ⟨1, 2, (.cons (.asg (.nm 1) (.call 24 (.cons (.v 0) (.cons (.ki 8) .nil))))
 (.cons (.ifs (.cmp .eq (.v 1) (.ki 0))
 (.cons (.ret (.tup (.cons (.ks "if") (.cons (.call 45 (.cons (.v 0) .nil)) (.cons (.call 47 (.cons (.v 0) .nil)) (.cons (.call 47 (.cons (.v 0) .nil)) .nil))))))
 .nil)
 .nil)
 (.cons (.ifs (.cmp .eq (.v 1) (.ki 1))
 (.cons (.ret (.tup (.cons (.ks "while") (.cons (.call 45 (.cons (.v 0) .nil)) (.cons (.call 47 (.cons (.v 0) .nil)) .nil)))))
 .nil)
 .nil)
 (.cons (.ret (.call 46 (.cons (.v 0) .nil)))
 .nil))))⟩
def n_law_step : List Str := [("_law_vat_here" : Str), ("_law_way" : Str)]
def e_law_script_1 : E := (.call 48 (.cons (.v 0) .nil))
abbrev i_law_script : Nat := 49
def d_law_script : Def := ⟨2, 4, (.cons (.asg (.nm 2) (.bi .tuple (.cons (.lc e_law_script_1 (.nm 3) (.rng1 (.call 24 (.cons (.v 0) (.cons (.bin .add (.v 1) (.ki 1)) .nil)))) .no [3]) .nil)))
 (.cons (.ret (.ite (.cmp .lt (.call 37 (.cons (.v 2) .nil)) (.ki 13)) (.v 2) (.slc (.v 2) .no (.so (.ki 2)))))
 .nil))⟩
def n_law_script : List Str := [("_law_vat_here" : Str), ("_law_most" : Str), ("_law_found" : Str), ("_law_turn" : Str)]
def e_law_counts_1 : E := (.bin .add (.mth .count (.v 0) (.cons (.v 1) .nil)) (.mth .count (.v 0) (.cons (.mth .upper (.v 1) .nil) .nil)))
abbrev i_law_counts : Nat := 50
def d_law_counts : Def := ⟨1, 2, (.cons (.ret (.lc e_law_counts_1 (.nm 1) (.it (.ks "abcpqr")) .no [1]))
 .nil)⟩
def n_law_counts : List Str := [("_law_letters" : Str), ("_law_name" : Str)]
def e_law_worth_1 : E := (.bin .mul (.v 2) (.v 3))
abbrev i_law_worth : Nat := 51
def d_law_worth : Def := ⟨2, 4, (.cons (.ret (.bi .sum (.cons (.lc e_law_worth_1 (.tp [2, 3]) (.zip (.v 0) (.v 1)) .no [2, 3]) .nil)))
 .nil)⟩
def n_law_worth : List Str := [("_law_row" : Str), ("_law_sizes_here" : Str), ("_law_factor" : Str), ("_law_size_here" : Str)]
def e_law_sizes_1 : E := (.bin .add (.ki 1) (.call 24 (.cons (.v 0) (.cons (.ki 6) .nil))))
def b_law_sizes_1 : Ss := (.cons (.asg (.nm 4) (.call 25 (.cons (.v 0) (.cons (.lst (.cons (.ki 0) (.cons (.ki 1) (.cons (.ki 2) (.cons (.ki 4) (.cons (.ki 7) (.cons (.ki 12) .nil))))))) .nil))))
 (.cons (.asg (.nm 2) (.bin .add (.v 2) (.tup (.cons (.bin .add (.v 4) (.call 51 (.cons (.slc (.call 50 (.cons (.v 3) .nil)) .no (.so (.ki 3))) (.cons (.slc (.v 2) .no (.so (.ki 3))) .nil)))) .nil))))
 .nil))
def e_law_sizes_2 : E := (.bi .max (.cons (.ki 1) (.cons (.v 6) .nil)))
abbrev i_law_sizes : Nat := 52
def d_law_sizes : Def := ⟨2, 7, (.cons (.asg (.nm 2) (.bi .tuple (.cons (.lc e_law_sizes_1 (.nm 5) (.rng1 (.ki 3)) .no [5]) .nil)))
 (.cons (.for (.nm 3) (.it (.slc (.v 1) (.so (.ki 1)) .no))
 b_law_sizes_1)
 (.cons (.asg (.nm 2) (.bin .add (.v 2) (.tup (.cons (.bin .add (.ki 1) (.call 24 (.cons (.v 0) (.cons (.ki 14) .nil)))) .nil))))
 (.cons (.ret (.bi .tuple (.cons (.lc e_law_sizes_2 (.nm 6) (.it (.v 2)) .no [6]) .nil)))
 .nil))))⟩
def n_law_sizes : List Str := [("_law_vat_here" : Str), ("_law_start" : Str), ("_law_found" : Str), ("_law_row" : Str), ("_law_more" : Str), ("_law_turn" : Str), ("_law_size_here" : Str)]
def t_law_names_1 : T := (.e (.v 5))
def e_law_names_1 : E := (.v 4)
abbrev i_law_names : Nat := 53
def d_law_names : Def := ⟨1, 6, (.cons (.asg (.nm 1) (.lst (.cons (.isx 0 1) (.cons (.isx 0 2) (.cons (.isx 0 3) (.cons (.isx 0 4) (.cons (.isx 0 5) (.cons (.isx 0 6) (.cons (.isx 0 7) (.cons (.isx 0 8) (.cons (.isx 0 9) (.cons (.isx 0 10) (.cons (.isx 0 11) (.cons (.isx 0 12) (.cons (.isx 0 13) (.cons (.isx 0 14) (.cons (.isx 0 15) (.cons (.isv 0) .nil))))))))))))))))))
 (.cons (.asg (.nm 2) (.ks "stand row script facts fact lengths place number seen index impossible endless undo"))
 (.cons (.asg (.nm 3) (.bin .add (.mth .split (.v 2) (.cons (.ks " ") .nil)) (.lst (.cons (.ks "many") (.cons (.ks "text") (.cons (.ks "value") .nil))))))
 (.cons (.ret (.mth .join (.ks " ") (.cons (.lc e_law_names_1 (.tp [4, 5]) (.zip (.v 3) (.v 1)) (.so t_law_names_1) [4, 5]) .nil)))
 .nil))))⟩
def n_law_names : List Str := [("_law_e" : Str), ("_law_some_here" : Str), ("_law_words_so" : Str), ("_law_labels" : Str), ("_law_word" : Str), ("_law_good" : Str)]
abbrev i_law_error : Nat := 54
def d_law_error : Def := ⟨1, 2, (.cons (.try (.cons (.ex (.clo 0 .nil))
 .nil) 0 (some 1) (.cons (.ret (.callX 53 1))
 .nil))
 (.cons (.ret (.ks ""))
 .nil))⟩
def n_law_error : List Str := [("_law_call" : Str), ("_law_e" : Str)]
def e_law_odd_1 : E := (.call 55 (.cons (.v 0) (.cons (.bin .sub (.v 1) (.ki 1)) .nil)))
abbrev i_law_odd : Nat := 55
def d_law_odd : Def := ⟨2, 5, (.cons (.asg (.nm 2) (.lst (.cons .kn (.cons (.kb true) (.cons (.kb false) (.cons (.ki 0) (.cons (.ki 1) (.cons (.ki 8) (.cons (.ki 9) (.cons (.neg (.ki 1)) (.cons (.bin .pow (.ki 10) (.ki 31)) (.cons (.ks "") (.cons (.ks "a") (.cons (.ks "ab") (.cons (.ks "ba") (.cons (.ks "abC") (.cons (.ks "p") (.cons (.ks "pq") (.cons (.ks "turn") (.cons (.tup .nil) (.cons (.lst .nil) .nil)))))))))))))))))))))
 (.cons (.asg (.nm 2) (.bin .add (.v 2) (.lst (.cons (.tup (.cons (.ks "turn") .nil)) (.cons (.tup (.cons (.ks "turns") .nil)) (.cons (.tup (.cons (.ks "fill") (.cons (.ks "p") .nil))) (.cons (.tup (.cons (.ks "rake") (.cons (.ki 2) .nil))) (.cons (.tup (.cons (.ks "ab") (.cons (.ks "") (.cons (.ks "") .nil)))) (.cons (.tup (.cons (.ks "less") (.cons (.ks "a") (.cons (.ks "b") .nil)))) (.cons (.bin .mul (.tup (.cons (.ki 1) .nil)) (.ki 6)) .nil))))))))))
 (.cons (.ifs (.or (.cons (.cmp .eq (.v 1) (.ki 0)) (.cons (.cmp .lt (.call 24 (.cons (.v 0) (.cons (.ki 9) .nil))) (.ki 6)) .nil)))
 (.cons (.ret (.call 25 (.cons (.v 0) (.cons (.v 2) .nil))))
 .nil)
 .nil)
 (.cons (.asgL 3 (.lc e_law_odd_1 (.nm 4) (.rng1 (.call 24 (.cons (.v 0) (.cons (.ki 4) .nil)))) .no [4]))
 (.cons (.ret (.ite (.cmp .eq (.call 24 (.cons (.v 0) (.cons (.ki 3) .nil))) (.ki 0)) (.v 3) (.bi .tuple (.cons (.v 3) .nil))))
 .nil)))))⟩
def n_law_odd : List Str := [("_law_vat_here" : Str), ("_law_depth" : Str), ("_law_some_here" : Str), ("_law_row" : Str), ("_law_part" : Str)]
abbrev i_law_bent : Nat := 56
def d_law_bent : Def := ⟨2, 5, (.cons (.ifs (.or (.cons (.not (.e (.isi (.v 1) .tuple))) (.cons (.cmp .eq (.v 1) (.tup .nil)) (.cons (.cmp .eq (.call 24 (.cons (.v 0) (.cons (.ki 7) .nil))) (.ki 0)) .nil))))
 (.cons (.asg (.nm 2) (.lst (.cons (.call 55 (.cons (.v 0) (.cons (.ki 1) .nil))) (.cons (.call 55 (.cons (.v 0) (.cons (.ki 1) .nil))) .nil))))
 (.cons (.ifs (.e (.isi (.v 1) .str))
 (.cons (.asg (.nm 2) (.bin .add (.v 2) (.lst (.cons (.ks "a") (.cons (.ks "p") (.cons (.ks "r") (.cons (.ks "push") (.cons (.ks "tail") (.cons (.slc (.v 1) .no (.so (.neg (.ki 1)))) (.cons (.mth .upper (.v 1) .nil) (.cons (.bin .add (.v 1) (.ks "a")) (.cons (.rev (.v 1)) .nil))))))))))))
 .nil)
 (.cons (.ifs (.e (.isi (.v 1) .int))
 (.cons (.asg (.nm 2) (.bin .add (.v 2) (.lst (.cons (.bin .add (.v 1) (.ki 1)) (.cons (.bin .sub (.v 1) (.ki 1)) (.cons (.not (.v 1)) (.cons (.bi .str (.cons (.v 1) .nil)) (.cons (.bin .mul (.ki 8) (.v 1)) .nil))))))))
 .nil)
 .nil)
 .nil))
 (.cons (.ret (.call 25 (.cons (.v 0) (.cons (.v 2) .nil))))
 .nil)))
 .nil)
 (.cons (.par [3, 4] (.cons (.call 24 (.cons (.v 0) (.cons (.bi .len (.cons (.v 1) .nil)) .nil))) (.cons (.call 24 (.cons (.v 0) (.cons (.ki 9) .nil))) .nil)))
 (.cons (.ifs (.cmp .eq (.v 4) (.ki 0))
 (.cons (.ret (.bin .add (.slc (.v 1) .no (.so (.v 3))) (.slc (.v 1) (.so (.bin .add (.v 3) (.ki 1))) .no)))
 .nil)
 .nil)
 (.cons (.ifs (.cmp .eq (.v 4) (.ki 1))
 (.cons (.ret (.bin .add (.slc (.v 1) .no (.so (.bin .add (.v 3) (.ki 1)))) (.slc (.v 1) (.so (.v 3)) .no)))
 .nil)
 .nil)
 (.cons (.ifs (.cmp .eq (.v 4) (.ki 2))
 (.cons (.ret (.rev (.v 1)))
 .nil)
 .nil)
 (.cons (.ifs (.cmp .eq (.v 4) (.ki 3))
 (.cons (.ret (.bi .list (.cons (.v 1) .nil)))
 .nil)
 .nil)
 (.cons (.ret (.bin .add (.bin .add (.slc (.v 1) .no (.so (.v 3))) (.tup (.cons (.call 56 (.cons (.v 0) (.cons (.sub (.v 1) (.v 3)) .nil))) .nil))) (.slc (.v 1) (.so (.bin .add (.v 3) (.ki 1))) .no)))
 .nil)))))))⟩
def n_law_bent : List Str := [("_law_vat_here" : Str), ("_law_value" : Str), ("_law_near" : Str), ("_law_at" : Str), ("_law_way" : Str)]
abbrev i_law_judged : Nat := 57
def d_law_judged : Def := ⟨1, 1, (.cons (.ifs (.not (.e (.call 27 (.cons (.call 6 (.cons (.v 0) .nil)) (.cons (.call 29 (.cons (.v 0) .nil)) .nil)))))
 (.cons (.ret (.kb false))
 .nil)
 .nil)
 (.cons (.ifs (.not (.e (.call 27 (.cons (.call 9 (.cons (.v 0) .nil)) (.cons (.call 32 (.cons (.v 0) .nil)) .nil)))))
 (.cons (.ret (.kb false))
 .nil)
 .nil)
 (.cons (.ifs (.not (.e (.call 27 (.cons (.call 16 (.cons (.v 0) .nil)) (.cons (.call 38 (.cons (.v 0) .nil)) .nil)))))
 (.cons (.ret (.kb false))
 .nil)
 .nil)
 (.cons (.ifs (.not (.e (.call 27 (.cons (.call 17 (.cons (.v 0) .nil)) (.cons (.call 39 (.cons (.v 0) .nil)) .nil)))))
 (.cons (.ret (.kb false))
 .nil)
 .nil)
 (.cons (.ifs (.e (.call 38 (.cons (.v 0) .nil)))
 (.cons (.ret (.cmp .eq (.call 22 (.cons (.v 0) .nil)) (.call 37 (.cons (.v 0) .nil))))
 .nil)
 .nil)
 (.cons (.ifs (.cmp .ne (.callL 54 .nil [] (.call 22 (.cons (.v 0) .nil))) (.ks "script value"))
 (.cons (.ret (.kb false))
 .nil)
 .nil)
 (.cons (.ifs (.e (.call 28 (.cons (.v 0) .nil)))
 (.cons (.ret (.and (.cons (.cmp .eq (.call 21 (.cons (.call 21 (.cons (.v 0) .nil)) .nil)) (.v 0)) (.cons (.cmp .eq (.bi .len (.cons (.call 21 (.cons (.v 0) .nil)) .nil)) (.bi .len (.cons (.v 0) .nil))) .nil))))
 .nil)
 .nil)
 (.cons (.ret (.cmp .eq (.callL 54 .nil [] (.call 21 (.cons (.v 0) .nil))) (.ks "row value")))
 .nil))))))))⟩
def n_law_judged : List Str := [("_law_value" : Str)]
def b_law_1 : Ss := (.cons (.asg (.nm 11) (.call 56 (.cons (.v 3) (.cons (.ite (.cmp .eq (.bin .mod (.v 12) (.ki 3)) (.ki 0)) (.v 6) (.v 11)) .nil))))
 (.cons (.ifs (.not (.e (.call 57 (.cons (.v 11) .nil))))
 (.cons (.ret (.kb false))
 .nil)
 .nil)
 .nil))
def b_law_2 : Ss := (.cons (.asg (.nm 11) (.v 6))
 (.cons (.ifs (.not (.e (.call 57 (.cons (.v 6) .nil))))
 (.cons (.ret (.kb false))
 .nil)
 .nil)
 (.cons (.for (.nm 12) (.rng1 (.ki 10))
 b_law_1)
 .nil)))
def b_law_3 : Ss := (.cons (.asg (.nm 3) (.callW 23 0 (.cons (.v 1) .nil)))
 (.cons (.asg (.nm 4) (.call 41 (.cons (.v 3) .nil)))
 (.cons (.asg (.nm 5) (.lst (.cons (.v 4) (.cons (.call 44 (.cons (.v 3) (.cons (.ki 6) .nil))) (.cons (.call 49 (.cons (.v 3) (.cons (.ki 6) .nil))) (.cons (.call 52 (.cons (.v 3) (.cons (.v 4) .nil))) .nil))))))
 (.cons (.for (.nm 6) (.it (.v 5))
 b_law_2)
 (.cons (.ifs (.or (.cons (.not (.e (.call 57 (.cons (.call 55 (.cons (.v 3) (.cons (.ki 2) .nil))) .nil)))) (.cons (.not (.e (.call 57 (.cons (.call 40 (.cons (.v 3) (.cons (.ki 8) .nil))) .nil)))) .nil)))
 (.cons (.ret (.kb false))
 .nil)
 .nil)
 .nil)))))
def t_law_1 : T := (.not (.e (.call 57 (.cons (.v 6) .nil))))
def e_law_1 : E := (.v 6)
abbrev i_law : Nat := 58
def d_law : Def := ⟨1, 13, (.cons (.for (.nm 1) (.rng1 (.bi .max (.cons (.ki 4) (.cons (.bi .min (.cons (.ki 9) (.cons (.sln 0) .nil))) .nil))))
 b_law_3)
 (.cons (.parN [7, 8] (.cons (.tup (.cons (.ks "turn") .nil)) (.cons (.tup (.cons (.ks "fits") (.cons (.ks "p") (.cons (.ki 8) .nil)))) .nil)))
 (.cons (.par [9, 10] (.cons (.tup (.cons (.ks "if") (.cons (.v 8) (.cons (.bin .mul (.tup (.cons (.v 7) .nil)) (.ki 3)) (.cons (.bin .mul (.tup (.cons (.v 7) .nil)) (.ki 3)) .nil))))) (.cons (.tup (.cons (.ks "while") (.cons (.v 8) (.cons (.bin .mul (.tup (.cons (.v 7) .nil)) (.ki 3)) .nil)))) .nil)))
 (.cons (.asg (.nm 2) (.mls (.cons (.bin .mul (.tup (.cons (.v 7) .nil)) (.ki 6)) (.cons (.bin .mul (.tup (.cons (.v 7) .nil)) (.ki 7)) (.cons (.bin .add (.tup (.cons (.v 9) .nil)) (.bin .mul (.tup (.cons (.v 7) .nil)) (.ki 5))) (.cons (.tup (.cons (.v 9) (.cons (.v 10) (.cons (.v 7) (.cons (.v 7) .nil))))) .nil))))))
 (.cons (.asg (.nm 2) (.madd (.v 2) (.lst (.cons (.tup (.cons (.v 9) (.cons (.v 10) (.cons (.v 7) .nil)))) (.cons (.tup (.cons (.tup (.cons (.ks "while") (.cons (.v 8) (.cons (.tup (.cons (.v 10) .nil)) .nil)))) .nil)) (.cons (.tup (.cons (.tup (.cons (.ks "push") (.cons (.ks "p") (.cons (.ki 9) .nil)))) .nil)) .nil))))))
 (.cons (.asg (.nm 2) (.madd (.v 2) (.lst (.cons (.tup (.cons (.tup (.cons (.ks "fill") (.cons (.ks "r") .nil))) .nil)) (.cons (.tup (.cons (.tup (.cons (.ks "turns") .nil)) .nil)) (.cons (.tup (.cons (.tup (.cons (.ks "if") (.cons (.v 8) (.cons (.bin .mul (.tup (.cons (.v 7) .nil)) (.ki 4)) (.cons (.tup .nil) .nil))))) .nil)) .nil))))))
 (.cons (.ex (.mth .append (.v 2) (.cons (.tup (.cons (.ks "aaaa") (.cons (.ks "aaaa") (.cons (.ks "a") .nil)))) .nil)))
 (.cons (.asg (.nm 2) (.bin .add (.v 2) (.lst (.cons (.tup (.cons (.ks "abcABCab") (.cons (.ks "") (.cons (.ks "") .nil)))) (.cons (.tup (.cons (.ks "abcABCab") (.cons (.ks "a") (.cons (.ks "") .nil)))) (.cons (.tup (.cons (.ks "d") (.cons (.ks "") (.cons (.ks "") .nil)))) (.cons (.tup (.cons (.tup (.cons (.ks "less") (.cons (.ks "aabbccpq") (.cons (.ks "r") .nil)))) .nil)) .nil)))))))
 (.cons (.asg (.nm 2) (.bin .add (.v 2) (.lst (.cons (.tup (.cons (.tup (.cons (.ks "less") (.cons (.ks "") (.cons (.ks "r") .nil)))) .nil)) (.cons (.tup (.cons (.tup (.cons (.ks "less") (.cons (.ks "aabbccpqr") (.cons (.ks "r") .nil)))) .nil)) (.cons (.bin .mul (.tup (.cons (.bin .pow (.ki 10) (.ki 30)) .nil)) (.ki 6)) (.cons (.bin .mul (.tup (.cons (.ki 0) .nil)) (.ki 6)) (.cons (.bin .add (.bin .mul (.tup (.cons (.ki 1) .nil)) (.ki 5)) (.tup (.cons (.kb true) .nil))) .nil))))))))
 (.cons (.ifs (.or (.cons (.cmp .ne (.call 21 (.cons (.ks "abC") .nil)) (.ks "cBA")) (.cons (.cmp .ne (.call 21 (.cons (.ks "") .nil)) (.ks "")) .nil)))
 (.cons (.ret (.kb false))
 .nil)
 .nil)
 (.cons (.ret (.cmp .eq (.lc e_law_1 (.nm 6) (.it (.v 2)) (.so t_law_1) [6]) (.lst .nil)))
 .nil)))))))))))⟩
def n_law : List Str := [("_law_script_here" : Str), ("_law_k" : Str), ("_law_some_here" : Str), ("_law_vat_here" : Str), ("_law_start" : Str), ("_law_values" : Str), ("_law_value" : Str), ("_law_turn" : Str), ("_law_room_so" : Str), ("_law_inner" : Str), ("_law_around" : Str), ("_law_spoilt" : Str), ("_law_change" : Str)]
def tab : List Def := [d_is_whole, d_is_word, d_is_kind, d_is_siding, d_is_many, d_is_row, d_is_stand, d_is_sum, d_is_fact, d_is_facts, d_is_condition, d_is_plain, d_is_body, d_is_step, d_size_of, d_steps_in, d_is_script, d_is_lengths, d_need_row, d_need_script, d_turned_row, d_turned, d_count_steps, d_law_vat, d_law_under, d_law_some, d_law_is_whole, d_law_truly, d_law_is_wagons, d_law_is_place, d_law_is_sum, d_law_is_fact, d_law_are_facts, d_law_is_end, d_law_is_condition, d_law_is_simple, d_law_is_step, d_law_size, d_law_is_script, d_law_are_sizes, d_law_wagons, d_law_place, d_law_sum, d_law_fact, d_law_facts, d_law_condition, d_law_simple, d_law_body, d_law_step, d_law_script, d_law_counts, d_law_worth, d_law_sizes, d_law_names, d_law_error, d_law_odd, d_law_bent, d_law_judged, d_law]
def nms : List Str := [("is_whole" : Str), ("is_word" : Str), ("is_kind" : Str), ("is_siding" : Str), ("is_many" : Str), ("is_row" : Str), ("is_stand" : Str), ("is_sum" : Str), ("is_fact" : Str), ("is_facts" : Str), ("is_condition" : Str), ("is_plain" : Str), ("is_body" : Str), ("is_step" : Str), ("size_of" : Str), ("steps_in" : Str), ("is_script" : Str), ("is_lengths" : Str), ("need_row" : Str), ("need_script" : Str), ("turned_row" : Str), ("turned" : Str), ("count_steps" : Str), ("_law_vat" : Str), ("_law_under" : Str), ("_law_some" : Str), ("_law_is_whole" : Str), ("_law_truly" : Str), ("_law_is_wagons" : Str), ("_law_is_place" : Str), ("_law_is_sum" : Str), ("_law_is_fact" : Str), ("_law_are_facts" : Str), ("_law_is_end" : Str), ("_law_is_condition" : Str), ("_law_is_simple" : Str), ("_law_is_step" : Str), ("_law_size" : Str), ("_law_is_script" : Str), ("_law_are_sizes" : Str), ("_law_wagons" : Str), ("_law_place" : Str), ("_law_sum" : Str), ("_law_fact" : Str), ("_law_facts" : Str), ("_law_condition" : Str), ("_law_simple" : Str), ("_law_body" : Str), ("_law_step" : Str), ("_law_script" : Str), ("_law_counts" : Str), ("_law_worth" : Str), ("_law_sizes" : Str), ("_law_names" : Str), ("_law_error" : Str), ("_law_odd" : Str), ("_law_bent" : Str), ("_law_judged" : Str), ("law" : Str)]
def pss : List (List Str) := [[("value" : Str), ("low" : Str), ("high" : Str)], [("value" : Str), ("words" : Str)], [("value" : Str)], [("value" : Str)], [("value" : Str)], [("value" : Str)], [("value" : Str)], [("value" : Str)], [("value" : Str)], [("value" : Str)], [("value" : Str)], [("value" : Str)], [("value" : Str)], [("value" : Str)], [("step" : Str)], [("script" : Str)], [("value" : Str)], [("value" : Str)], [("row" : Str)], [("script" : Str)], [("row" : Str)], [("row" : Str)], [("script" : Str)], [("_law_script_here" : Str), ("_law_k" : Str)], [("_law_vat_here" : Str), ("_law_many" : Str)], [("_law_vat_here" : Str), ("_law_things" : Str)], [("_law_value" : Str), ("_law_low" : Str), ("_law_high" : Str)], [("_law_found" : Str), ("_law_due" : Str)], [("_law_value" : Str)], [("_law_value" : Str)], [("_law_value" : Str)], [("_law_value" : Str)], [("_law_value" : Str)], [("_law_value" : Str), ("_law_some_here" : Str)], [("_law_value" : Str)], [("_law_value" : Str)], [("_law_value" : Str)], [("_law_script_here" : Str)], [("_law_value" : Str)], [("_law_value" : Str)], [("_law_vat_here" : Str), ("_law_most" : Str)], [("_law_vat_here" : Str)], [("_law_vat_here" : Str)], [("_law_vat_here" : Str)], [("_law_vat_here" : Str), ("_law_most" : Str)], [("_law_vat_here" : Str)], [("_law_vat_here" : Str)], [("_law_vat_here" : Str)], [("_law_vat_here" : Str)], [("_law_vat_here" : Str), ("_law_most" : Str)], [("_law_letters" : Str)], [("_law_row" : Str), ("_law_sizes_here" : Str)], [("_law_vat_here" : Str), ("_law_start" : Str)], [("_law_e" : Str)], [("_law_call" : Str)], [("_law_vat_here" : Str), ("_law_depth" : Str)], [("_law_vat_here" : Str), ("_law_value" : Str)], [("_law_value" : Str)], [("_law_script_here" : Str)]]
def cls : List Str := [("YardError" : Str), ("InvalidStand" : Str), ("InvalidRow" : Str), ("InvalidScript" : Str), ("InvalidFacts" : Str), ("InvalidFact" : Str), ("InvalidLengths" : Str), ("InvalidPlace" : Str), ("InvalidNumber" : Str), ("InvalidSeen" : Str), ("InvalidIndex" : Str), ("Impossible" : Str), ("Endless" : Str), ("NothingToUndo" : Str), ("TooMany" : Str), ("InvalidText" : Str)]
def pls : List Bool := [true, true, true, true, true, true, true, true, true, true, true, true, true, true, false, false]
def cns : List Str := [("NAMES" : Str), ("SIDINGS" : Str), ("MOST" : Str), ("MOST_IN_ALL" : Str), ("GREAT" : Str)]
def top (i : Nat) : Stmt := PySem.Challenge.pw_wagonlengths_k01_stands_facts_and_script.main.body.getD i (.Pass ⟨0, 0, 0, 0⟩)
def nss : List (List Str) := [n_is_whole, n_is_word, n_is_kind, n_is_siding, n_is_many, n_is_row, n_is_stand, n_is_sum, n_is_fact, n_is_facts, n_is_condition, n_is_plain, n_is_body, n_is_step, n_size_of, n_steps_in, n_is_script, n_is_lengths, n_need_row, n_need_script, n_turned_row, n_turned, n_count_steps, n_law_vat, n_law_under, n_law_some, n_law_is_whole, n_law_truly, n_law_is_wagons, n_law_is_place, n_law_is_sum, n_law_is_fact, n_law_are_facts, n_law_is_end, n_law_is_condition, n_law_is_simple, n_law_is_step, n_law_size, n_law_is_script, n_law_are_sizes, n_law_wagons, n_law_place, n_law_sum, n_law_fact, n_law_facts, n_law_condition, n_law_simple, n_law_body, n_law_step, n_law_script, n_law_counts, n_law_worth, n_law_sizes, n_law_names, n_law_error, n_law_odd, n_law_bent, n_law_judged, n_law]
def bodies : List Stmt := [top 23, top 24, top 25, top 26, top 27, top 28, top 29, top 30, top 31, top 32, top 33, top 34, top 35, top 36, top 37, top 38, top 39, top 40, top 41, top 42, top 43, top 44, top 45, top 47, top 48, top 49, top 50, top 51, top 52, top 53, top 54, top 55, top 56, top 57, top 58, top 59, top 60, top 61, top 62, top 63, top 64, top 65, top 66, top 67, top 68, top 69, top 70, top 71, top 72, top 73, top 74, top 75, top 76, top 77, top 78, top 79, top 80, top 81, top 82]
def lams : List Bool := [false, false, false, false, false, false, false, false, false, false, false, false, false, false, false, false, false, false, false, false, false, false, false, false, false, false, false, false, false, false, false, false, false, false, false, false, false, false, false, false, false, false, false, false, false, false, false, false, false, false, false, false, false, false, false, false, false, true, false]
def own : List (Option OwnD) := [none, none, none, none, none, none, none, none, none, none, none, none, none, none, some ⟨"limit", "limit", "YardError", top 15⟩, some ⟨"line", "line", "YardError", top 16⟩]
def gv : List D := [.str "abcpqr", .tuple [.str "p", .str "q"], .int 6, .int 12, .int (10 ^ 30)]
def sub (c d : Nat) : Bool := d == 1000 || c == d || d == 0
def L : LawD := ⟨tab, nms, pss, nss, bodies, lams, cls, pls, own, cns, gv, sub, 0⟩
theorem okB : L.okB = true := by decide +kernel
def tf : List He.Defn := [("_law_judged", none)]
theorem tf_ok (K : PySem.W.Frag) : ∀ p ∈ L.Wt K tf, ∀ q ∈ L.Wt K tf, p.1 = q.1 → p.2 = q.2 := fun p hp q hq _ => by
  have h1 := List.mem_singleton.mp hp
  have h2 := List.mem_singleton.mp hq
  rw [h1, h2]
end Lw
namespace Lw
open PySem PySem.Spec PyProof.Rows L2 Zt
abbrev Rr : PySem.W.OpenRow := PySem.W.OpenLaw.row PySem.Challenge.rw_wagonlengths_k01_stands_facts_and_script
abbrev hk : PySem.W.Hook := Zt.hookY 4 L.fa L.fn tf L.ex
def ob (s : PySem.W.SharedT) : He.AlX := Zt.obsY 4 L.fa L.fn tf L.ex (HandSHeadRun.getT s)
theorem ob_eq (s : PySem.W.SharedT) : ob s = hk.obs s.abs := Zt.obsY_eq (HandSHeadRun.getT_eq s)
def loose : List PySem.Str := (["YardError", "InvalidStand", "InvalidRow", "InvalidScript", "InvalidFacts", "InvalidFact", "InvalidLengths", "InvalidPlace", "InvalidNumber", "InvalidSeen", "InvalidIndex", "Impossible", "Endless", "NothingToUndo", "TooMany", "InvalidText", "NAMES", "SIDINGS", "MOST", "MOST_IN_ALL", "GREAT", "is_whole", "is_word", "is_kind", "is_siding", "is_many", "is_row", "is_stand", "is_sum", "is_fact"] : List PySem.Str) ++ (["is_facts", "is_condition", "is_plain", "is_body", "is_step", "size_of", "steps_in", "is_script", "is_lengths", "need_row", "need_script", "turned_row", "turned", "count_steps", "_law_vat", "_law_under", "_law_some", "_law_is_whole", "_law_truly", "_law_is_wagons", "_law_is_place", "_law_is_sum", "_law_is_fact", "_law_are_facts", "_law_is_end", "_law_is_condition", "_law_is_simple", "_law_is_step", "_law_size", "_law_is_script"] : List PySem.Str) ++ (["_law_are_sizes", "_law_wagons", "_law_place", "_law_sum", "_law_fact", "_law_facts", "_law_condition", "_law_simple", "_law_body", "_law_step", "_law_script", "_law_counts", "_law_worth", "_law_sizes", "_law_names", "_law_error", "_law_odd", "_law_bent", "_law_judged"] : List PySem.Str)
theorem runA (w : World) (os : OsState) : (endY Rr 8000 w os).map (fun s => HandSHeadRun.looksF Rr.prog (PySem.W.boot_heap w.params) s.abs) = some true := by
  kernel_rfl
theorem runB (w : World) (os : OsState) : (endY Rr 8000 w os).map (fun s => HandSHeadRun.seenQ (PySem.W.view Rr.prog [82]) loose (importedModules Rr.prog.main.body) (fun s => PySem.W.xlAt (PySem.W.view Rr.prog [82]) [] s && PySem.W.recOk Rr.toRowW.records s) s.abs) = some (PySem.W.openGood (PySem.W.view Rr.prog [82]) loose) := by
  kernel_rfl
theorem runC (w : World) (os : OsState) : (endY Rr 8000 w os).map (fun s => Zt.obsY1 4 L.fa L.fn (HandSHeadRun.getT s)) = some (He.valT L.fn [] w) := by
  kernel_rfl
theorem runD (w : World) (os : OsState) : (endY Rr 8000 w os).map (fun s => Zt.obsY2 4 L.ex (HandSHeadRun.getT s)) = some true := by
  kernel_rfl
theorem runE (w : World) (os : OsState) : (endY Rr 8000 w os).map (fun s => Zt.obsY3 4 tf (HandSHeadRun.getT s)) = some true := by
  kernel_rfl
theorem run (w : World) : HandSHeadRun.RunEq Rr (PySem.W.view Rr.prog [82]) hk ob 8000 loose w := Zt.run_of (runA w) (runB w) (runC w) (runD w) (runE w)
end Lw
namespace Zt
open PySem
section
variable {α β : Type} {M M' : Mem} {ρ : Env}
theorem zb_ok {a : α} {f : α → Mem → R β} : (R.ok a M).bind f = f a M := rfl
theorem zb_ex {e : Exn} {f : α → Mem → R β} : (R.ex e M : R α).bind f = .ex e M := rfl
theorem zb_bad {f : α → Mem → R β} : (R.bad : R α).bind f = .bad := rfl
theorem zb_of {a : α} : R.of (some a) M = .ok a M := rfl
theorem zb_no : R.of (none : Option α) M = .bad := rfl
theorem zt_ok {a : α} {f : α → Mem → O} : (R.ok a M).st ρ f = f a M := rfl
theorem zt_ex {e : Exn} {f : α → Mem → O} : (R.ex e M : R α).st ρ f = .ex e ρ M := rfl
theorem zt_bad {f : α → Mem → O} : (R.bad : R α).st ρ f = .bad := rfl
theorem zc_ok {a : α} : (R.ok a M).calm = .ok a M := rfl
theorem zc_bad : (R.bad : R α).calm = .bad := rfl
theorem zo_nx {f : Env → Mem → O} : (O.nx ρ M).bind f = f ρ M := rfl
theorem zo_rt {z : Z} {f : Env → Mem → O} : (O.rt z M).bind f = .rt z M := rfl
theorem zo_ex {e : Exn} {f : Env → Mem → O} : (O.ex e ρ M).bind f = .ex e ρ M := rfl
theorem zo_bad {f : Env → Mem → O} : O.bad.bind f = .bad := rfl
theorem zf_nx : finB (.nx ρ M) = .ok (.d .none) M := rfl
theorem zf_rt {z : Z} : finB (.rt z M) = .ok z M := rfl
theorem zf_ex {e : Exn} : finB (.ex e ρ M) = .ex e M := rfl
theorem gz_nil {i : Nat} : getZ [] i = none := rfl
theorem gz_z {z : Z} {r : Env} : getZ (.z z :: r) 0 = some z := rfl
theorem gz_s {s : Sl} {r : Env} {i : Nat} : getZ (s :: r) (i + 1) = getZ r i := rfl
theorem slz_z {z : Z} : slZ (.z z) = some z := rfl
theorem b_nm {i : Nat} {z : Z} : bindT (.nm i) ρ z = some (ρ.set i (.z z)) := rfl
theorem asB_b {b : Bool} : asB (.d (.bool b)) M = .ok b M := rfl
theorem opz_dd {op : BOp} {a b : D} : opz op (.d a) (.d b) M = R.of ((bop op a b).map .d) M := rfl
theorem cpz_dd {op : COp} {a b : D} : cpz op (.d a) (.d b) M = R.of (cop op a b) M := rfl
theorem dsOf_nil : dsOf [] = some [] := rfl
theorem dsOf_cons {x : D} {r : List Z} : dsOf (.d x :: r) = (dsOf r).map (x :: ·) := rfl
theorem dsOf_map : ∀ xs : List D, dsOf (xs.map .d) = some xs
  | [] => rfl
  | x :: r => by rw [List.map_cons, dsOf_cons, dsOf_map r]; rfl
theorem biz_d {b : Bi} {x : D} {r : List Z} : biz b (.d x :: r) M = R.of (((dsOf (.d x :: r)).bind (bid b)).map .d) M := by
  cases r <;> rfl
theorem isz_d {t : Ty} {d : D} (h : tyKnown d = true) : isz t (.d d) M = .ok (.d (.bool (tyOk d t))) M := by
  exact if_pos h
theorem subz_dd {d : D} {j : Int} : subz (.d d) (.d (.int j)) M = R.of ((itemD d j).map .d) M := rfl
theorem slz_dd {d : D} {a b : Option Int} : slz (.d d) a b M = R.of ((slcD d a b).map .d) M := rfl
theorem truthZ_d {d : D} : truthZ (.d d) M = truth d := rfl
theorem boolZ_eq {b : Bool} : boolZ b = .d (.bool b) := rfl
theorem zi_b {c : Prop} [Decidable c] {b : Bool} : (if c then R.ok (Z.d (.bool b)) M else R.ok (Z.d (.bool false)) M) = R.ok (Z.d (.bool (decide c && b))) M := by
  by_cases h : c <;> simp [h]
theorem zi_o {c : Prop} [Decidable c] {b : Bool} : (if c then R.ok true M else R.ok b M) = R.ok (decide c || b) M := by
  by_cases h : c <;> simp [h]
theorem zi_a {c : Prop} [Decidable c] {b : Bool} : (if c then R.ok b M else R.ok false M) = R.ok (decide c && b) M := by
  by_cases h : c <;> simp [h]
theorem zi_d {c : Prop} [Decidable c] {a b : D} : (if c then R.ok (Z.d a) M else R.ok (Z.d b) M) = R.ok (Z.d (if c then a else b)) M := by
  by_cases h : c <;> simp [h]
theorem for_nil {body : Env → Mem → O} {t : Tg} : forL body t [] ρ M = .nx ρ M := rfl
theorem for_cons {body : Env → Mem → O} {i : Nat} {z : Z} {zs : List Z} : forL body (.nm i) (z :: zs) ρ M = (body (ρ.set i (.z z)) M).bind fun ρ2 M2 => forL body (.nm i) zs ρ2 M2 := rfl
/-- a comprehension that leaves the memory as it is -/
theorem lc_pure {cond : Env → Mem → R Bool} {elt : Env → Mem → R Z} {i : Nat} {p : D → Bool} {f : D → D} : ∀ ds : List D, (∀ d ∈ ds, cond (ρ.set i (.z (.d d))) M = .ok (p d) M) → (∀ d ∈ ds, p d = true → elt (ρ.set i (.z (.d d))) M = .ok (.d (f d)) M) →
    lcL cond elt (.nm i) ρ (ds.map .d) M = .ok ((ds.filter p).map f) M
  | [], _, _ => rfl
  | d :: ds, h1, h2 => by
    have e1 := h1 d (List.mem_cons_self ..)
    have ih := lc_pure ds (fun x hx => h1 x (List.mem_cons_of_mem _ hx)) (fun x hx => h2 x (List.mem_cons_of_mem _ hx))
    show (cond (ρ.set i (.z (.d d))) M).bind _ = _
    rw [e1, zb_ok]
    cases hp : p d
    · rw [if_neg (by simp), List.filter_cons, hp]
      exact ih
    · have e2 := h2 d (List.mem_cons_self ..) hp
      rw [if_pos rfl, e2, zb_ok, List.filter_cons, hp]
      dsimp only
      rw [ih, zb_ok]
      rfl
/-- .. that draws -/
theorem lc_draw {cond : Env → Mem → R Bool} {elt : Env → Mem → R Z} {i : Nat} {I : Mem → Prop} {P : D → Prop} (hc : ∀ ρ M, cond ρ M = .ok true M) : ∀ (zs : List Z) (M : Mem), I M → (∀ z ∈ zs, ∀ M, I M → ∃ d M', elt (ρ.set i (.z z)) M = .ok (.d d) M' ∧ I M' ∧ P d) →
    ∃ ds M', lcL cond elt (.nm i) ρ zs M = .ok ds M' ∧ I M' ∧ (∀ d ∈ ds, P d) ∧ ds.length = zs.length
  | [], M, hI, _ => ⟨[], M, rfl, hI, (by intro d h; cases h), rfl⟩
  | z :: zs, M, hI, h => by
    obtain ⟨d, M1, e, i1, p⟩ := h z (List.mem_cons_self ..) M hI
    obtain ⟨ds, M2, e2, i2, p2, l⟩ := lc_draw hc zs M1 i1 fun z hz => h z (List.mem_cons_of_mem _ hz)
    refine ⟨d :: ds, M2, ?_, i2, fun x hx => ?_, by rw [List.length_cons, List.length_cons, l]⟩
    · show (cond (ρ.set i (.z z)) M).bind _ = _
      rw [hc, zb_ok, if_pos rfl, e, zb_ok]
      dsimp only
      rw [e2, zb_ok]
    · rcases List.mem_cons.mp hx with q | q
      · rw [q]
        exact p
      · exact p2 x q
end
section
variable {T : List Def} {sub : Nat → Nat → Bool} {gv : List D} {wf : Nat}
theorem lev_hot : ∀ k h, (lev T sub gv wf k h).hot = h
  | 0, _ => rfl
  | _ + 1, _ => rfl
theorem lev_gv : ∀ k h, (lev T sub gv wf k h).gv = gv
  | 0, _ => rfl
  | _ + 1, _ => rfl
theorem lev_sub : ∀ k h, (lev T sub gv wf k h).sub = sub
  | 0, _ => rfl
  | _ + 1, _ => rfl
theorem lev_wf : ∀ k h, (lev T sub gv wf k h).wf = wf
  | 0, _ => rfl
  | _ + 1, _ => rfl
theorem lev_heat : ∀ k h, (lev T sub gv wf k h).heat = lev T sub gv wf k true
  | 0, _ => rfl
  | _ + 1, _ => rfl
end
end Zt
namespace Zt
open PySem
def dOk (n : Nat) (d : D) : Prop := d.canLay0 = true ∧ d.depth ≤ n
theorem canAll : ∀ {xs : List D}, PyData.canLayAll0 xs = true ↔ ∀ x ∈ xs, x.canLay0 = true
  | [] => by simp [PyData.canLayAll0]
  | x :: r => by simp [PyData.canLayAll0, canAll (xs := r)]
theorem depAll {n : Nat} : ∀ {xs : List D}, PyData.depthAll xs ≤ n ↔ ∀ x ∈ xs, x.depth ≤ n
  | [] => by simp [PyData.depthAll]
  | x :: r => by simp [PyData.depthAll, Nat.max_le, depAll (xs := r)]
theorem okD_iff {d : D} : okD d = true ↔ dOk 64 d := by
  unfold okD SeqAt.shaped dOk
  simp
theorem dOk_tuple {n : Nat} {xs : List D} : dOk (n + 1) (.tuple xs) ↔ ∀ x ∈ xs, dOk n x := by
  unfold dOk
  simp only [PyData.canLay0, PyData.depth, canAll, Nat.add_le_add_iff_right, depAll]
  exact ⟨fun h x hx => ⟨h.1 x hx, h.2 x hx⟩, fun h => ⟨fun x hx => (h x hx).1, fun x hx => (h x hx).2⟩⟩
theorem dOk_list {n : Nat} {xs : List D} : dOk (n + 1) (.list xs) ↔ ∀ x ∈ xs, dOk n x := by
  unfold dOk
  simp only [PyData.canLay0, PyData.depth, canAll, Nat.add_le_add_iff_right, depAll]
  exact ⟨fun h x hx => ⟨h.1 x hx, h.2 x hx⟩, fun h => ⟨fun x hx => (h x hx).1, fun x hx => (h x hx).2⟩⟩
theorem dOk_mono {n m : Nat} {d : D} (h : dOk n d) (l : n ≤ m) : dOk m d := ⟨h.1, Nat.le_trans h.2 l⟩
theorem dOk_str {n : Nat} {s : Str} : dOk n (.str s) ↔ PyData.strOk s = true := by simp [dOk, PyData.canLay0, PyData.depth]
theorem dOk_int {n : Nat} {i : Int} : dOk n (.int i) := by simp [dOk, PyData.canLay0, PyData.depth]
theorem dOk_bool {n : Nat} {b : Bool} : dOk n (.bool b) := by simp [dOk, PyData.canLay0, PyData.depth]
theorem dOk_none {n : Nat} : dOk n .none := by simp [dOk, PyData.canLay0, PyData.depth]
theorem okD_int {i : Int} : okD (.int i) = true := okD_iff.mpr dOk_int
theorem okD_bool {b : Bool} : okD (.bool b) = true := okD_iff.mpr dOk_bool
theorem okD_str {s : Str} : okD (.str s) = PyData.strOk s := by simp [okD, SeqAt.shaped, PyData.canLay0, PyData.depth]
theorem okD_flat {x : D} {xs : List D} (h : okD (.tuple xs) = true) (hx : x ∈ xs) : okD x = true := okD_iff.mpr (dOk_mono (dOk_tuple.mp (okD_iff.mp h) x hx) (by omega))
theorem okD_flt {xs : List D} (p : D → Bool) (h : okD (.tuple xs) = true) : okD (.list (xs.filter p)) = true := okD_iff.mpr (dOk_list.mpr fun x hx => dOk_tuple.mp (okD_iff.mp h) x (List.mem_filter.mp hx).1)
theorem okD_fltL {xs : List D} (p : D → Bool) (h : okD (.list xs) = true) : okD (.list (xs.filter p)) = true := okD_iff.mpr (dOk_list.mpr fun x hx => dOk_list.mp (okD_iff.mp h) x (List.mem_filter.mp hx).1)
theorem okD_nilL : okD (.list []) = true := okD_iff.mpr (dOk_list.mpr fun x hx => nomatch hx)
theorem okD_nilT : okD (.tuple []) = true := okD_iff.mpr (dOk_tuple.mpr fun x hx => nomatch hx)
theorem known_of {d : D} (h : okD d = true) : tyKnown d = true := by
  cases d <;> first | rfl | (exfalso; have := (okD_iff.mp h).1; simp [PyData.canLay0] at this)
theorem eqv_nilL {xs : List D} : PyData.eqv (.list xs) (.list []) = xs.isEmpty := by
  cases xs <;> simp [PyData.eqv, PyData.eqvAll]
theorem eqv_nilT {xs : List D} : PyData.eqv (.tuple xs) (.tuple []) = xs.isEmpty := by
  cases xs <;> simp [PyData.eqv, PyData.eqvAll]
theorem flt_empty {α : Type} {xs : List α} {p : α → Bool} : (xs.filter fun x => !p x).isEmpty = xs.all p := by
  induction xs with
  | nil => rfl
  | cons x r ih =>
    cases h : p x <;> simp [List.filter_cons, h, ih]
theorem atI_0 {x : D} {r : List D} : L2.atI (x :: r) 0 = some x := by
  unfold L2.atI L2.ixN
  rw [if_pos (by omega), if_pos (by simp only [List.length_cons]; omega)]
  rfl
theorem atI_1 {x y : D} {r : List D} : L2.atI (x :: y :: r) 1 = some y := by
  unfold L2.atI L2.ixN
  rw [if_pos (by omega), if_pos (by simp only [List.length_cons]; omega)]
  rfl
theorem atI_2 {x y z : D} {r : List D} : L2.atI (x :: y :: z :: r) 2 = some z := by
  unfold L2.atI L2.ixN
  rw [if_pos (by omega), if_pos (by simp only [List.length_cons]; omega)]
  rfl
theorem atI_3 {x y z u : D} {r : List D} : L2.atI (x :: y :: z :: u :: r) 3 = some u := by
  unfold L2.atI L2.ixN
  rw [if_pos (by omega), if_pos (by simp only [List.length_cons]; omega)]
  rfl
theorem ofString_inj {a b : String} : Str.ofString a = Str.ofString b ↔ a = b := by
  constructor
  · intro h
    rw [Str.ofString_eq_toList, Str.ofString_eq_toList] at h
    have h1 : a.toList.map Char.toNat = b.toList.map Char.toNat := by
      have := congrArg (fun z : Str => z.cps.toList) h
      simpa using this
    have h2 : a.toList = b.toList := by
      have inj : ∀ x y : Char, x.toNat = y.toNat → x = y := fun x y e => Char.ext (UInt32.toNat_inj.mp e)
      exact (List.map_inj_right inj).mp h1
    exact String.toList_inj.mp h2
  · intro h
    rw [h]
theorem eqv_ls {a : String} {s : Str} : PyData.eqv (.str (Str.ofString a)) (.str s) = decide (s = Str.ofString a) := by
  simp [PyData.eqv, Bool.beq_eq_decide_eq, eq_comm]
theorem eqv_sl {a : String} {s : Str} : PyData.eqv (.str s) (.str (Str.ofString a)) = decide (s = Str.ofString a) := by
  simp [PyData.eqv, Bool.beq_eq_decide_eq]
theorem eqv_ii {a b : Int} : PyData.eqv (.int a) (.int b) = decide (a = b) := by
  simp [PyData.eqv, Bool.beq_eq_decide_eq]
theorem eqv_tt {x y : List D} : PyData.eqv (.tuple x) (.tuple y) = PyData.eqvAll x y := by simp [PyData.eqv]
theorem eqv_LL {x y : List D} : PyData.eqv (.list x) (.list y) = PyData.eqvAll x y := by simp [PyData.eqv]
theorem eqv_snone {s : Str} : PyData.eqv (.str s) .none = false := by simp [PyData.eqv]
theorem eqv_nones {s : Str} : PyData.eqv .none (.str s) = false := by simp [PyData.eqv]
theorem eqv_sbool {s : Str} {b : Bool} : PyData.eqv (.str s) (.bool b) = false := by simp [PyData.eqv]
theorem eqv_bools {s : Str} {b : Bool} : PyData.eqv (.bool b) (.str s) = false := by simp [PyData.eqv]
theorem eqv_sint {s : Str} {i : Int} : PyData.eqv (.str s) (.int i) = false := by simp [PyData.eqv]
theorem eqv_ints {s : Str} {i : Int} : PyData.eqv (.int i) (.str s) = false := by simp [PyData.eqv]
theorem eqv_stuple {s : Str} {l : List D} : PyData.eqv (.str s) (.tuple l) = false := by simp [PyData.eqv]
theorem eqv_tuples {s : Str} {l : List D} : PyData.eqv (.tuple l) (.str s) = false := by simp [PyData.eqv]
theorem eqv_slist {s : Str} {l : List D} : PyData.eqv (.str s) (.list l) = false := by simp [PyData.eqv]
theorem eqv_lists {s : Str} {l : List D} : PyData.eqv (.list l) (.str s) = false := by simp [PyData.eqv]
theorem eqvA_nn : PyData.eqvAll [] [] = true := by simp [PyData.eqvAll]
theorem eqvA_nc {x : D} {r : List D} : PyData.eqvAll [] (x :: r) = false := by simp [PyData.eqvAll]
theorem eqvA_cn {x : D} {r : List D} : PyData.eqvAll (x :: r) [] = false := by simp [PyData.eqvAll]
theorem eqvA_xn {xs : List D} : PyData.eqvAll xs [] = xs.isEmpty := by cases xs <;> simp [PyData.eqvAll]
theorem eqvA_cc {x y : D} {r l : List D} : PyData.eqvAll (x :: r) (y :: l) = (PyData.eqv x y && PyData.eqvAll r l) := by simp [PyData.eqvAll]
theorem okD_lit {a : String} : okD (.str (Str.ofString a)) = true := by
  rw [okD_str, Str.ofString_eq_toList]
  unfold PyData.strOk
  simp
  intro c _
  have h := c.valid
  simp only [UInt32.isValidChar, Nat.isValidChar] at h
  have e : c.toNat = c.val.toNat := rfl
  omega
theorem okD_T {xs : List D} (h : (xs.all fun d => flatD d && okD d) = true) : okD (.tuple xs) = true := okD_iff.mpr (dOk_tuple.mpr fun x hx => by
  have := List.all_eq_true.mp h x hx
  rw [Bool.and_eq_true] at this
  refine ⟨(okD_iff.mp this.2).1, ?_⟩
  cases x <;> first | (simp [PyData.depth]; done) | (exfalso; exact Bool.false_ne_true this.1))
def wholeB (v : D) (lo hi : Int) : Bool := match v with
  | .int i => decide (lo ≤ i) && decide (i ≤ hi)
  | _ => false
def wordB (v : D) (ws : List D) : Bool := match v with
  | .str s => inD (.str s) ws
  | _ => false
def kindB (v : D) : Bool := wordB v [.str "a", .str "b", .str "c"]
def sidB (v : D) : Bool := wordB v [.str "p", .str "q"]
def manyB (v : D) : Bool := wholeB v 1 8
def condB : D → Bool
  | .tuple (.str s :: r) =>
    if s = "fits" then (match r with
      | [a, b] => sidB a && manyB b
      | _ => false)
    else if s = "head" then (match r with
      | [a, b] => sidB a && kindB b
      | _ => false)
    else if s = "some" then (match r with
      | [a] => sidB a
      | _ => false)
    else if s = "rake" then (match r with
      | [a] => manyB a
      | _ => false)
    else if s = "tail" then (match r with
      | [a] => kindB a
      | _ => false)
    else decide (s = "turns") && r.isEmpty
  | _ => false
def plainB : D → Bool
  | .tuple (.str s :: r) =>
    if s = "pull" ∨ s = "push" then (match r with
      | [a, b] => sidB a && manyB b
      | _ => false)
    else if s = "fill" then (match r with
      | [a] => sidB a
      | _ => false)
    else decide (s = "turn") && r.isEmpty
  | _ => false
def bodyB : D → Bool
  | .tuple xs => decide (xs.length ≤ 3) && xs.all plainB
  | _ => false
def stepB : D → Bool
  | .tuple (.str s :: r) =>
    if s = "if" then (match r with
      | [c, a, b] => condB c && bodyB a && bodyB b
      | _ => false)
    else if s = "while" then (match r with
      | [c, a] => condB c && bodyB a
      | _ => false)
    else plainB (.tuple (.str s :: r))
  | _ => false
def itT : D → List D
  | .tuple xs => xs
  | _ => []
def sizeD : D → Nat
  | .tuple (.str s :: _ :: r) =>
    if s = "if" ∨ s = "while" then 1 + (r.map fun b => (itT b).length).sum else 1
  | _ => 1
def sizes (xs : List D) : Nat := (xs.map sizeD).sum
def scriptB : D → Bool
  | .tuple xs => decide (xs.length ≤ 6) && xs.all stepB && decide (sizes xs ≤ 12)
  | _ => false
def partS : D → Str
  | .int i => (toString i : String)
  | .str s => s
  | _ => ""
def lineOf (xs : List D) : Str := Txt.join " " (xs.map partS)
def plLine (p : D) : Str := lineOf (itT p)
def linesStep : D → List Str
  | .tuple [.str s, c, a, b] => [lineOf (.str s :: itT c)] ++ (itT a).map plLine ++ [("else" : Str)] ++ (itT b).map plLine ++ [("end" : Str)]
  | .tuple [.str s, c, a] => if s = "while" then [lineOf (.str s :: itT c)] ++ (itT a).map plLine ++ [("end" : Str)] else [lineOf [.str s, c, a]]
  | x => [plLine x]
def linesD (xs : List D) : List Str := xs.flatMap linesStep
def partOf (w : Str) : D := if w.length = 1 ∧ Txt.contains "12345678" w = true then .int ((intText? w).getD 0) else .str w
def partsOf (x : Str) : List D := (Txt.split x " ").map partOf
end Zt
namespace Zt
open PySem
def n8 : List Int := [1, 2, 3, 4, 5, 6, 7, 8]
def PA : List D := ((["pull", "push"] : List String).flatMap fun w => (["p", "q"] : List String).flatMap fun s => n8.map fun n => .tuple [.str (Str.ofString w), .str (Str.ofString s), .int n]) ++ ((["p", "q"] : List String).map fun s => .tuple [.str "fill", .str (Str.ofString s)]) ++ [.tuple [.str "turn"]]
def CA : List D := ((["p", "q"] : List String).flatMap fun s => n8.map fun n => .tuple [.str "fits", .str (Str.ofString s), .int n]) ++ ((["p", "q"] : List String).flatMap fun s => (["a", "b", "c"] : List String).map fun c => .tuple [.str "head", .str (Str.ofString s), .str (Str.ofString c)]) ++
  ((["p", "q"] : List String).map fun s => .tuple [.str "some", .str (Str.ofString s)]) ++ (n8.map fun n => .tuple [.str "rake", .int n]) ++ ((["a", "b", "c"] : List String).map fun s => .tuple [.str "tail", .str (Str.ofString s)]) ++ [.tuple [.str "turns"]]
def eqF : D → D → Bool
  | .str a, .str b => decide (a = b)
  | .int a, .int b => decide (a = b)
  | _, _ => false
theorem eqF_ok {a b : D} (h : eqF a b = true) : a = b := by
  cases a <;> cases b <;> simp [eqF] at h <;> simp [h]
def eqLs : List D → List D → Bool
  | [], [] => true
  | x :: xs, y :: ys => eqF x y && eqLs xs ys
  | _, _ => false
theorem eqLs_ok : ∀ {a b : List D}, eqLs a b = true → a = b
  | [], [], _ => rfl
  | x :: xs, y :: ys, h => by
    simp only [eqLs, Bool.and_eq_true] at h
    rw [eqF_ok h.1, eqLs_ok h.2]
  | [], _ :: _, h => by simp [eqLs] at h
  | _ :: _, [], h => by simp [eqLs] at h
theorem sid_mem {a : D} (h : sidB a = true) : ∃ s ∈ (["p", "q"] : List String), a = .str (Str.ofString s) := by
  cases a <;> simp [sidB, wordB, inD, eqv_ls] at h
  rcases h with rfl | rfl
  · exact ⟨"p", by simp, rfl⟩
  · exact ⟨"q", by simp, rfl⟩
theorem kind_mem {a : D} (h : kindB a = true) : ∃ s ∈ (["a", "b", "c"] : List String), a = .str (Str.ofString s) := by
  cases a <;> simp [kindB, wordB, inD, eqv_ls] at h
  rcases h with rfl | rfl | rfl
  · exact ⟨"a", by simp, rfl⟩
  · exact ⟨"b", by simp, rfl⟩
  · exact ⟨"c", by simp, rfl⟩
theorem many_mem {a : D} (h : manyB a = true) : ∃ n ∈ n8, a = .int n := by
  cases a <;> simp [manyB, wholeB] at h
  rename_i i
  refine ⟨i, ?_, rfl⟩
  have : i = 1 ∨ i = 2 ∨ i = 3 ∨ i = 4 ∨ i = 5 ∨ i = 6 ∨ i = 7 ∨ i = 8 := by omega
  simp [n8, this]
theorem plain_mem {x : D} (h : plainB x = true) : x ∈ PA := by
  unfold PA
  simp only [List.mem_append, List.mem_flatMap, List.mem_map]
  cases x
  case tuple xs =>
    cases xs with
    | nil => simp [plainB] at h
    | cons y r =>
      cases y
      case str s =>
        simp only [plainB] at h
        by_cases h1 : s = "pull" ∨ s = "push"
        · rw [if_pos h1] at h
          split at h
          · rename_i a b
            rw [Bool.and_eq_true] at h
            obtain ⟨u, hu, rfl⟩ := sid_mem h.1
            obtain ⟨n, hn, rfl⟩ := many_mem h.2
            rcases h1 with rfl | rfl
            · exact .inl (.inl ⟨"pull", by simp, u, hu, n, hn, rfl⟩)
            · exact .inl (.inl ⟨"push", by simp, u, hu, n, hn, rfl⟩)
          · cases h
        · rw [if_neg h1] at h
          by_cases h2 : s = "fill"
          · rw [if_pos h2] at h
            split at h
            · rename_i a
              obtain ⟨u, hu, rfl⟩ := sid_mem h
              rw [h2]
              exact .inl (.inr ⟨u, hu, rfl⟩)
            · cases h
          · rw [if_neg h2] at h
            simp at h
            obtain ⟨rfl, rfl⟩ := h
            simp
      all_goals simp [plainB] at h
  all_goals simp [plainB] at h
theorem cond_mem {x : D} (h : condB x = true) : x ∈ CA := by
  unfold CA
  simp only [List.mem_append, List.mem_flatMap, List.mem_map]
  cases x
  case tuple xs =>
    cases xs with
    | nil => simp [condB] at h
    | cons y r =>
      cases y
      case str s =>
        simp only [condB] at h
        by_cases h1 : s = "fits"
        · rw [if_pos h1] at h
          split at h
          · rename_i a b
            rw [Bool.and_eq_true] at h
            obtain ⟨u, hu, rfl⟩ := sid_mem h.1
            obtain ⟨n, hn, rfl⟩ := many_mem h.2
            rw [h1]
            exact .inl (.inl (.inl (.inl (.inl ⟨u, hu, n, hn, rfl⟩))))
          · cases h
        · rw [if_neg h1] at h
          by_cases h2 : s = "head"
          · rw [if_pos h2] at h
            split at h
            · rename_i a b
              rw [Bool.and_eq_true] at h
              obtain ⟨u, hu, rfl⟩ := sid_mem h.1
              obtain ⟨n, hn, rfl⟩ := kind_mem h.2
              rw [h2]
              exact .inl (.inl (.inl (.inl (.inr ⟨u, hu, n, hn, rfl⟩))))
            · cases h
          · rw [if_neg h2] at h
            by_cases h3 : s = "some"
            · rw [if_pos h3] at h
              split at h
              · rename_i a
                obtain ⟨u, hu, rfl⟩ := sid_mem h
                rw [h3]
                exact .inl (.inl (.inl (.inr ⟨u, hu, rfl⟩)))
              · cases h
            · rw [if_neg h3] at h
              by_cases h4 : s = "rake"
              · rw [if_pos h4] at h
                split at h
                · rename_i a
                  obtain ⟨u, hu, rfl⟩ := many_mem h
                  rw [h4]
                  exact .inl (.inl (.inr ⟨u, hu, rfl⟩))
                · cases h
              · rw [if_neg h4] at h
                by_cases h5 : s = "tail"
                · rw [if_pos h5] at h
                  split at h
                  · rename_i a
                    obtain ⟨u, hu, rfl⟩ := kind_mem h
                    rw [h5]
                    exact .inl (.inr ⟨u, hu, rfl⟩)
                  · cases h
                · rw [if_neg h5] at h
                  simp at h
                  obtain ⟨rfl, rfl⟩ := h
                  simp
      all_goals simp [condB] at h
  all_goals simp [condB] at h
def partOk : D → Bool
  | .str s => decide (s.length ≤ 8)
  | .int i => decide (1 ≤ i) && decide (i ≤ 8)
  | _ => false
def wordOk (w : Str) : Bool := decide (w.length ≤ 400000) && (!(decide (w.length = 1) && Txt.contains "12345678" w) || (intText? w).isSome) && PyData.strOk w
def lineOk (x : Str) : Bool := decide (x.length ≤ 400000) && (Txt.split x " ").all wordOk && decide ((Txt.split x " ").length ≤ 400001) && PyData.strOk x
/-- what is to be known of the line of some parts -/
def lnF (xs : List D) : Bool := match xs with
  | .str s :: _ => eqLs (partsOf (lineOf xs)) xs && !(lineOf xs).cps.toList.contains 10 && decide ((lineOf xs).length ≤ 20) && lineOk (lineOf xs) && xs.all partOk && decide (xs.length ≤ 4) && !decide (lineOf xs = "else") && !decide (lineOf xs = "end") && !decide (lineOf xs = "")
  | _ => false
def plF (x : D) : Bool := match x with
  | .tuple (.str s :: r) => lnF (.str s :: r) && !decide (s = "if") && !decide (s = "while") && okD x
  | _ => false
def cdF (x : D) : Bool := match x with
  | .tuple c => lnF (.str "if" :: c) && lnF (.str "while" :: c) && okD x
  | _ => false
theorem PA_ok : PA.all plF = true := by decide +kernel
theorem CA_ok : CA.all cdF = true := by decide +kernel
structure LnF (xs : List D) : Prop where
  parts : partsOf (lineOf xs) = xs
  nl : 10 ∉ (lineOf xs).cps.toList
  len : (lineOf xs).length ≤ 20
  ok : lineOk (lineOf xs) = true
  items : ∀ x ∈ xs, partOk x = true
  few : xs.length ≤ 4
  ne1 : lineOf xs ≠ "else"
  ne2 : lineOf xs ≠ "end"
  ne3 : lineOf xs ≠ ""
theorem lnF_ok {xs : List D} (h : lnF xs = true) : LnF xs := by
  unfold lnF at h
  split at h
  · simp only [Bool.and_eq_true, decide_eq_true_eq, Bool.not_eq_true', List.contains_eq_mem, decide_eq_false_iff_not, List.all_eq_true] at h
    obtain ⟨⟨⟨⟨⟨⟨⟨⟨h1, h2⟩, h3⟩, h4⟩, h5⟩, h6⟩, h7⟩, h8⟩, h9⟩ := h
    exact ⟨eqLs_ok h1, h2, h3, h4, h5, h6, h7, h8, h9⟩
  · cases h
theorem plain_ln {x : D} (h : plainB x = true) : ∃ s r, x = .tuple (.str s :: r) ∧ LnF (.str s :: r) ∧ s ≠ "if" ∧ s ≠ "while" ∧ okD x = true := by
  have := List.all_eq_true.mp PA_ok x (plain_mem h)
  unfold plF at this
  split at this
  · rename_i s r
    simp only [Bool.and_eq_true, Bool.not_eq_true', decide_eq_false_iff_not] at this
    obtain ⟨⟨⟨h1, h2⟩, h3⟩, h4⟩ := this
    exact ⟨s, r, rfl, lnF_ok h1, h2, h3, h4⟩
  · cases this
theorem cond_ln {x : D} (h : condB x = true) : ∃ c, x = .tuple c ∧ LnF (.str "if" :: c) ∧ LnF (.str "while" :: c) ∧ okD x = true := by
  have := List.all_eq_true.mp CA_ok x (cond_mem h)
  unfold cdF at this
  split at this
  · simp only [Bool.and_eq_true] at this
    obtain ⟨⟨h1, h2⟩, h3⟩ := this
    exact ⟨_, rfl, lnF_ok h1, lnF_ok h2, h3⟩
  · cases this
end Zt
namespace Zt
open PySem
theorem split_ne (x y : Str) : Txt.split x y ≠ [] := fun h => by
  have := PyProof.Rows.split_pos x y
  rw [h] at this
  simp at this
theorem parts_ne (x : Str) : partsOf x ≠ [] := by
  unfold partsOf
  intro h
  exact split_ne x " " (List.map_eq_nil_iff.mp h)
theorem cut_1 {α : Type} {xs : List α} : cut xs (some 1) none = xs.drop 1 := by
  unfold cut
  cases xs with
  | nil => rfl
  | cons x r =>
    have e1 : HT.sIx (x :: r).length 0 (some 1) = 1 := by
      simp [HT.sIx]
      try omega
    have e2 : HT.sIx (x :: r).length (x :: r).length none = r.length + 1 := rfl
    rw [e1, e2]
    simp
theorem cut_l {α : Type} {xs : List α} {x : α} : cut (xs ++ [x]) none (some (-1)) = xs := by
  unfold cut
  have e1 : HT.sIx (xs ++ [x]).length 0 none = 0 := rfl
  have e2 : HT.sIx (xs ++ [x]).length (xs ++ [x]).length (some (-1)) = xs.length := by
    simp [HT.sIx]
    try omega
  rw [e1, e2]
  simp
theorem atI_l {α : Type} {xs : List α} {x : α} : L2.atI (xs ++ [x]) (-1) = some x := by
  unfold L2.atI L2.ixN
  rw [if_neg (by omega), if_pos (by simp; omega)]
  have e : ((-1 : Int) + ((xs ++ [x]).length : Int)).toNat = xs.length := by simp; omega
  show (xs ++ [x])[((-1 : Int) + ((xs ++ [x]).length : Int)).toNat]? = _
  rw [e]
  simp
def isBr : List D → Bool
  | .str s :: _ => decide (s = "if") || decide (s = "while")
  | _ => false
def isIf : List D → Bool
  | .str s :: _ => decide (s = "if")
  | _ => false
def closedD (q : List D) (bs : List (List D)) : D := .tuple (q.headD .none :: .tuple q.tail :: bs.map .tuple)
def addB (bs : List (List D)) (p : D) : List (List D) := bs.dropLast ++ [bs.getLastD [] ++ [p]]
abbrev Sta := List D × Option (List D) × List (List D)
def lineSt (f : List D) (o : Option (List D)) (bs : List (List D)) (x : Str) : Option Sta :=
  if isBr (partsOf x) then (match o with
    | some _ => none
    | none => some (f, some (partsOf x), [[]]))
  else if x = "else" then (match o with
    | some q => if isIf q = true ∧ bs.length = 1 then some (f, some q, bs ++ [[]]) else none
    | none => none)
  else if x = "end" then (match o with
    | some q => if bs.length = (if isIf q then 2 else 1) then some (f ++ [closedD q bs], none, bs) else none
    | none => none)
  else match o with
    | some q => some (f, some q, addB bs (.tuple (partsOf x)))
    | none => some (f ++ [.tuple (partsOf x)], none, bs)
def linesSt : Sta → List Str → Option Sta
  | s, [] => some s
  | s, x :: r => (lineSt s.1 s.2.1 s.2.2 x).bind fun s => linesSt s r
theorem ls_cons {f : List D} {o : Option (List D)} {bs : List (List D)} {x : Str} {r : List Str} : linesSt (f, o, bs) (x :: r) = (lineSt f o bs x).bind fun s => linesSt s r := rfl
theorem ls_nil {s : Sta} : linesSt s [] = some s := rfl
def stepsD (ls : List Str) : Option (List D) := (linesSt ([], none, []) ls).bind fun s => match s with
  | (f, none, _) => some f
  | _ => none
def lineB (x : Str) : Bool := decide (x = "else") || decide (x = "end") || plainB (.tuple (partsOf x)) || (isBr (partsOf x) && condB (.tuple (partsOf x).tail))
def optT : Option (List D) → D
  | some q => .tuple q
  | none => .none
structure StInv (n : Nat) (f : List D) (o : Option (List D)) (bs : List (List D)) : Prop where
  fl : f.length ≤ n
  bl : bs.length ≤ n + 1
  bb : ∀ b ∈ bs, b.length ≤ n
  op : ∀ q, o = some q → isBr q = true ∧ q.length ≤ 400001 ∧ bs ≠ [] ∧ okD (.tuple q) = true
theorem isBr_cons {q : List D} (h : isBr q = true) : ∃ s r, q = .str s :: r ∧ (s = "if" ∨ s = "while") := by
  unfold isBr at h
  split at h
  · rename_i s r
    simp at h
    exact ⟨s, r, rfl, h⟩
  · cases h
end Zt
namespace Zt
open PySem
theorem stepB_cases {v : D} (h : stepB v = true) : plainB v = true ∧ (∃ s r, v = .tuple (.str s :: r) ∧ s ≠ "if" ∧ s ≠ "while") ∨
    (∃ c a b, v = .tuple [.str "if", c, .tuple a, .tuple b] ∧ condB c = true ∧ a.length ≤ 3 ∧ b.length ≤ 3 ∧ (∀ x ∈ a, plainB x = true) ∧ ∀ x ∈ b, plainB x = true) ∨
    (∃ c a, v = .tuple [.str "while", c, .tuple a] ∧ condB c = true ∧ a.length ≤ 3 ∧ ∀ x ∈ a, plainB x = true) := by
  cases v
  case tuple xs =>
    cases xs with
    | nil => simp [stepB] at h
    | cons x r =>
      cases x
      case str s =>
        by_cases h1 : s = "if"
        · subst h1
          simp [stepB] at h
          split at h
          · rename_i c a b
            simp only [Bool.and_eq_true] at h
            obtain ⟨⟨h1, h2⟩, h3⟩ := h
            cases a <;> simp [bodyB] at h2
            cases b <;> simp [bodyB] at h3
            exact .inr (.inl ⟨_, _, _, rfl, h1, h2.1, h3.1, h2.2, h3.2⟩)
          · cases h
        · by_cases h2 : s = "while"
          · subst h2
            simp [stepB, ofString_inj] at h
            split at h
            · rename_i c a
              simp only [Bool.and_eq_true] at h
              obtain ⟨h1, h2⟩ := h
              cases a <;> simp [bodyB] at h2
              exact .inr (.inr ⟨_, _, rfl, h1, h2.1, h2.2⟩)
            · cases h
          · simp [stepB, h1, h2] at h
            exact .inl ⟨h, s, r, rfl, h1, h2⟩
      all_goals simp [stepB] at h
  all_goals simp [stepB] at h
theorem linesStep_pl {v : D} (h : plainB v = true) : linesStep v = [plLine v] := by
  obtain ⟨s, r, rfl, F, h1, h2, h3⟩ := plain_ln h
  have h4 := F.few
  unfold linesStep
  split
  · rename_i a b c d e
    cases e
    simp [plainB] at h
  · rename_i a b c e
    cases e
    rw [if_neg h2]
    rfl
  · rfl
theorem p_else : partsOf "else" = [.str "else"] := eqLs_ok (by decide +kernel)
theorem p_end : partsOf "end" = [.str "end"] := eqLs_ok (by decide +kernel)
theorem ok_else : lineOk "else" = true := by decide +kernel
theorem ok_end : lineOk "end" = true := by decide +kernel
theorem pl_parts {p : D} (h : plainB p = true) : isBr (partsOf (plLine p)) = false ∧ plLine p ≠ "else" ∧ plLine p ≠ "end" ∧ (.tuple (partsOf (plLine p)) : D) = p ∧ lineOk (plLine p) = true ∧ 10 ∉ (plLine p).cps.toList ∧ plLine p ≠ "" := by
  obtain ⟨s, r, rfl, F, h1, h2, h3⟩ := plain_ln h
  have e : partsOf (plLine (.tuple (.str s :: r))) = .str s :: r := F.parts
  rw [e]
  exact ⟨by simp [isBr, h1, h2], F.ne1, F.ne2, rfl, F.ok, F.nl, F.ne3⟩
theorem st_pl0 {f : List D} {bs : List (List D)} {p : D} (h : plainB p = true) : lineSt f none bs (plLine p) = some (f ++ [p], none, bs) := by
  obtain ⟨h1, h2, h3, h4, _⟩ := pl_parts h
  unfold lineSt
  rw [if_neg (by rw [h1]; simp), if_neg h2, if_neg h3, h4]
theorem st_pl1 {f q : List D} {l : List (List D)} {b : List D} {p : D} (h : plainB p = true) : lineSt f (some q) (l ++ [b]) (plLine p) = some (f, some q, l ++ [b ++ [p]]) := by
  obtain ⟨h1, h2, h3, h4, _⟩ := pl_parts h
  unfold lineSt
  rw [if_neg (by rw [h1]; simp), if_neg h2, if_neg h3, h4]
  simp [addB, List.getLastD_concat]
theorem st_body {f q : List D} {l : List (List D)} {r : List Str} : ∀ {a b : List D}, (∀ x ∈ a, plainB x = true) → linesSt (f, some q, l ++ [b]) (a.map plLine ++ r) = linesSt (f, some q, l ++ [b ++ a]) r
  | [], b, _ => by simp
  | x :: a, b, h => by
    rw [List.map_cons, List.cons_append, ls_cons, st_pl1 (h x (List.mem_cons_self ..))]
    show linesSt (f, some q, l ++ [b ++ [x]]) (a.map plLine ++ r) = _
    rw [st_body fun y hy => h y (List.mem_cons_of_mem _ hy), List.append_assoc]
    rfl
theorem st_step {f : List D} {bs : List (List D)} {r : List Str} {d : D} (h : stepB d = true) : ∃ bs', linesSt (f, none, bs) (linesStep d ++ r) = linesSt (f ++ [d], none, bs') r := by
  have br0 : isBr [.str "else"] = false := by decide +kernel
  have br1 : isBr [.str "end"] = false := by decide +kernel
  have ne : ("end" : Str) ≠ "else" := by decide +kernel
  rcases stepB_cases h with ⟨h, _⟩ | ⟨c, a, b, rfl, hc, la, lb, ha, hb⟩ | ⟨c, a, rfl, hc, la, ha⟩
  · refine ⟨bs, ?_⟩
    rw [linesStep_pl h]
    show linesSt _ (plLine d :: r) = _
    rw [ls_cons, st_pl0 h]
    rfl
  · obtain ⟨c, rfl, F1, F2, _⟩ := cond_ln hc
    refine ⟨[a, b], ?_⟩
    have e1 : lineSt f none bs (lineOf (.str "if" :: c)) = some (f, some (.str "if" :: c), [[]]) := by
      unfold lineSt
      rw [F1.parts, if_pos (by simp [isBr])]
    have e2 : lineSt f (some (.str "if" :: c)) ([] ++ [[] ++ a]) "else" = some (f, some (.str "if" :: c), [a] ++ [[]]) := by
      unfold lineSt
      rw [p_else, if_neg (by rw [br0]; simp), if_pos rfl]
      simp [isIf]
    have e3 : lineSt f (some (.str "if" :: c)) ([a] ++ [[] ++ b]) "end" = some (f ++ [.tuple [.str "if", .tuple c, .tuple a, .tuple b]], none, [a, b]) := by
      unfold lineSt
      rw [p_end, if_neg (by rw [br1]; simp), if_neg ne, if_pos rfl]
      simp [isIf, closedD]
    simp only [linesStep, itT, List.append_assoc, List.cons_append, List.nil_append]
    rw [ls_cons, e1]
    show linesSt (f, some (.str "if" :: c), [] ++ [[]]) (a.map plLine ++ _) = _
    rw [st_body ha, ls_cons, e2]
    show linesSt (f, some (.str "if" :: c), [a] ++ [[]]) (b.map plLine ++ _) = _
    rw [st_body hb, ls_cons, e3]
    rfl
  · obtain ⟨c, rfl, F1, F2, _⟩ := cond_ln hc
    refine ⟨[a], ?_⟩
    have e1 : lineSt f none bs (lineOf (.str "while" :: c)) = some (f, some (.str "while" :: c), [[]]) := by
      unfold lineSt
      rw [F2.parts, if_pos (by simp [isBr])]
    have e3 : lineSt f (some (.str "while" :: c)) ([] ++ [[] ++ a]) "end" = some (f ++ [.tuple [.str "while", .tuple c, .tuple a]], none, [a]) := by
      unfold lineSt
      rw [p_end, if_neg (by rw [br1]; simp), if_neg ne, if_pos rfl]
      simp [isIf, closedD, ofString_inj]
    simp only [linesStep, itT, if_pos, List.append_assoc, List.cons_append, List.nil_append]
    rw [ls_cons, e1]
    show linesSt (f, some (.str "while" :: c), [] ++ [[]]) (a.map plLine ++ _) = _
    rw [st_body ha, ls_cons, e3]
    rfl
theorem st_all : ∀ {xs f : List D} {bs : List (List D)}, (∀ x ∈ xs, stepB x = true) → ∃ bs', linesSt (f, none, bs) (linesD xs) = some (f ++ xs, none, bs')
  | [], f, bs, _ => ⟨bs, by simp [linesD, linesSt]⟩
  | x :: xs, f, bs, h => by
    obtain ⟨bs1, e1⟩ := st_step (f := f) (bs := bs) (r := linesD xs) (h x (List.mem_cons_self ..))
    obtain ⟨bs2, e2⟩ := st_all (xs := xs) (f := f ++ [x]) (bs := bs1) fun y hy => h y (List.mem_cons_of_mem _ hy)
    refine ⟨bs2, ?_⟩
    show linesSt (f, none, bs) (linesStep x ++ linesD xs) = _
    rw [e1, e2, List.append_assoc]
    rfl
theorem steps_lines {xs : List D} (h : ∀ x ∈ xs, stepB x = true) : stepsD (linesD xs) = some xs := by
  obtain ⟨bs, e⟩ := st_all (f := []) (bs := []) h
  unfold stepsD
  rw [e]
  rfl
/-- a line that is read again -/
structure LnR (x : Str) : Prop where
  ok : lineOk x = true
  b : lineB x = true
  nl : 10 ∉ x.cps.toList
  ne : x ≠ ""
theorem lnR_pl {p : D} (h : plainB p = true) : LnR (plLine p) := by
  obtain ⟨h1, h2, h3, h4, h5, h6, h7⟩ := pl_parts h
  exact ⟨h5, by unfold lineB; rw [h4, h]; simp, h6, h7⟩
theorem lnR_lines {xs : List D} (h : ∀ x ∈ xs, stepB x = true) : ∀ l ∈ linesD xs, LnR l := fun l hl => by
  obtain ⟨x, hx, hl⟩ := List.mem_flatMap.mp hl
  have pl : ∀ a : List D, (∀ y ∈ a, plainB y = true) → ∀ l ∈ a.map plLine, LnR l := fun a ha l hl => by
    obtain ⟨y, hy, rfl⟩ := List.mem_map.mp hl
    exact lnR_pl (ha y hy)
  have w1 : LnR "else" := ⟨ok_else, by simp [lineB], by decide +kernel, by decide +kernel⟩
  have w2 : LnR "end" := ⟨ok_end, by simp [lineB], by decide +kernel, by decide +kernel⟩
  have br : ∀ {w : Str} {c : List D}, (w = "if" ∨ w = "while") → LnF (.str w :: c) → condB (.tuple c) = true → LnR (lineOf (.str w :: c)) := fun {w c} hw F hc => by
    refine ⟨F.ok, ?_, F.nl, F.ne3⟩
    unfold lineB
    rw [F.parts]
    rcases hw with rfl | rfl <;> simp [isBr, hc]
  rcases stepB_cases (h x hx) with ⟨h, _⟩ | ⟨c, a, b, rfl, hc, la, lb, ha, hb⟩ | ⟨c, a, rfl, hc, la, ha⟩
  · rw [linesStep_pl h] at hl
    exact pl [x] (fun y hy => by rw [List.mem_singleton.mp hy]; exact h) l hl
  · obtain ⟨c, rfl, F1, F2, _⟩ := cond_ln hc
    simp only [linesStep, itT, List.mem_append, List.mem_singleton] at hl
    rcases hl with (((rfl | hl) | rfl) | hl) | rfl
    · exact br (.inl rfl) F1 hc
    · exact pl a ha l hl
    · exact w1
    · exact pl b hb l hl
    · exact w2
  · obtain ⟨c, rfl, F1, F2, _⟩ := cond_ln hc
    simp only [linesStep, itT, if_pos, List.mem_append, List.mem_singleton] at hl
    rcases hl with (rfl | hl) | rfl
    · exact br (.inr rfl) F2 hc
    · exact pl a ha l hl
    · exact w2
def textD (xs : List D) : Str := Txt.join "\n" (linesD xs)
def rowsOf (v : Str) : List Str := if v = "" then [] else Txt.split v "\n"
theorem rows_text {xs : List D} (h : ∀ x ∈ xs, stepB x = true) : rowsOf (textD xs) = linesD xs := by
  have R := lnR_lines h
  unfold rowsOf
  by_cases hn : linesD xs = []
  · have : textD xs = "" := by
      unfold textD
      rw [hn]
      decide +kernel
    rw [if_pos this, hn]
  · have e : Txt.split (textD xs) "\n" = linesD xs := TL.split_join (y := "\n") (s := 10) (S := []) (by decide +kernel) (by decide +kernel) hn fun p hp => (R p hp).nl
    rw [if_neg, e]
    intro z
    rw [z] at e
    have : Txt.split "" "\n" = [("" : Str)] := by decide +kernel
    rw [this] at e
    exact (R "" (by rw [← e]; exact List.mem_cons_self ..)).ne rfl
end Zt
namespace Zt
open PySem
theorem badd {i j : Int} : bop .add (.int i) (.int j) = some (.int (i + j)) := rfl
theorem bsub {i j : Int} : bop .sub (.int i) (.int j) = some (.int (i - j)) := rfl
theorem bmod {i j : Int} (h : 0 < j) : bop .mod (.int i) (.int j) = some (.int (i % j)) := by
  show (if 0 < j then _ else _) = _
  rw [if_pos h]
theorem log2_of {i : Int} {k : Nat} (h : i.natAbs < 2 ^ k) (hk : 0 < k) : i.natAbs.log2 < k := by
  by_cases z : i.natAbs = 0
  · rw [z]
    simpa using hk
  · exact (Nat.log2_lt z).mpr h
theorem bfdiv {i j : Int} (h : 0 < j) (h2 : j < 1099511627776) : bop .fdiv (.int i) (.int j) = some (.int (i / j)) := by
  have : j.natAbs.log2 < 40 := log2_of (by omega) (by omega)
  show (if 0 < j ∧ j.natAbs.log2 < 9000 then _ else _) = _
  rw [if_pos ⟨h, by omega⟩]
theorem bmul {i j : Int} (h1 : -1099511627776 < i) (h2 : i < 1099511627776) (h3 : -1099511627776 < j) (h4 : j < 1099511627776) : bop .mul (.int i) (.int j) = some (.int (i * j)) := by
  have e1 : i.natAbs.log2 < 40 := log2_of (by omega) (by omega)
  have e2 : j.natAbs.log2 < 40 := log2_of (by omega) (by omega)
  show (if i.natAbs.log2 + j.natAbs.log2 < 100000000 then _ else _) = _
  rw [if_pos (by omega)]
theorem bmulL {i j : Int} (h1 : i.natAbs.log2 ≤ 2000000) (h3 : -1099511627776 < j) (h4 : j < 1099511627776) : bop .mul (.int i) (.int j) = some (.int (i * j)) := by
  have e2 : j.natAbs.log2 < 40 := log2_of (by omega) (by omega)
  show (if i.natAbs.log2 + j.natAbs.log2 < 100000000 then _ else _) = _
  rw [if_pos (by omega)]
theorem log2_mono {a b : Nat} (h : a ≤ b) : a.log2 ≤ b.log2 := by
  by_cases z : a = 0
  · rw [z]
    simp
  · have hb : b ≠ 0 := by omega
    exact Nat.le_of_not_lt fun h2 => by
      have h3 := (Nat.log2_lt hb).mp h2
      have h4 : 2 ^ a.log2 ≤ a := Nat.log2_self_le z
      omega
def Vt (M : Mem) (n : Nat) : Prop := ∃ a b : Int, M[n]? = some (.lst [.int a, .int b]) ∧ 0 ≤ a ∧ a.natAbs.log2 ≤ 1100000 ∧ 0 ≤ b ∧ b ≤ 2147483629
/-- the vat has changed, nothing else -/
structure Dr (n : Nat) (M M' : Mem) : Prop where
  v : Vt M' n
  l : M'.length = M.length
  o : ∀ i, i ≠ n → M'[i]? = M[i]?
theorem Dr.refl {n : Nat} {M : Mem} (h : Vt M n) : Dr n M M := ⟨h, rfl, fun _ _ => rfl⟩
theorem Dr.trans {n : Nat} {M M1 M2 : Mem} (h : Dr n M M1) (g : Dr n M1 M2) : Dr n M M2 := ⟨g.v, g.l.trans h.l, fun i hi => (g.o i hi).trans (h.o i hi)⟩
theorem get_set {M : Mem} {n : Nat} {x y : MO} (h : M[n]? = some y) : (M.set n x)[n]? = some x := List.getElem?_set_self (List.getElem?_eq_some_iff.mp h).1
theorem Dr.mk' {n : Nat} {M : Mem} {y : MO} {a b : Int} (h : M[n]? = some y) (h1 : 0 ≤ a) (h2 : a.natAbs.log2 ≤ 1100000) (h3 : 0 ≤ b) (h4 : b ≤ 2147483629) : Dr n M (M.set n (.lst [.int a, .int b])) :=
  ⟨⟨a, b, get_set h, h1, h2, h3, h4⟩, by simp, fun i hi => List.getElem?_set_ne (Ne.symm hi)⟩
theorem subz_r {M : Mem} {n : Nat} {xs : List D} {j : Int} (h : M[n]? = some (.lst xs)) : subz (.r n) (.d (.int j)) M = R.of ((L2.atI xs j).map Z.d) M := by
  show (match M[n]? with
    | some (.lst xs) => R.of ((itemD (.list xs) j).map Z.d) M
    | some (.frz xs) => R.of ((itemD (.list xs) j).map Z.d) M
    | _ => .bad) = _
  rw [h]
  rfl
theorem ixN_0 {a b : D} : L2.ixN [a, b].length 0 = some 0 := rfl
theorem ixN_1 {a b : D} : L2.ixN [a, b].length 1 = some 1 := rfl
theorem ix2_0 : L2.ixN 2 0 = some 0 := rfl
theorem ix2_1 : L2.ixN 2 1 = some 1 := rfl
theorem atI_mem {xs : List D} {u : Int} (h1 : 0 ≤ u) (h2 : u < xs.length) : ∃ x, L2.atI xs u = some x ∧ x ∈ xs := by
  have hu : u.toNat < xs.length := by omega
  refine ⟨xs[u.toNat], ?_, List.getElem_mem hu⟩
  unfold L2.atI L2.ixN
  rw [if_pos h1, if_pos h2]
  exact List.getElem?_eq_getElem hu
end Zt
namespace Zt
open PySem
theorem nodict {kvs : List (D × D)} (h : okD (.dict kvs) = true) : False := by simp [okD, SeqAt.shaped, PyData.canLay0] at h
theorem sizeD_other {s : Str} {r : List D} (h1 : s ≠ "if") (h2 : s ≠ "while") : sizeD (.tuple (.str s :: r)) = 1 := by
  cases r <;> simp [sizeD, h1, h2]
theorem intsOf_map {f : D → Nat} : ∀ xs : List D, intsOf (xs.map fun d => .int (f d : Int)) = some (xs.map fun d => (f d : Int))
  | [] => rfl
  | x :: r => by rw [List.map_cons, intsOf, intsOf_map r]; rfl
theorem sum_cast {f : D → Nat} : ∀ xs : List D, (xs.map fun d => (f d : Int)).sum = ((xs.map f).sum : Nat)
  | [] => rfl
  | x :: r => by rw [List.map_cons, List.sum_cons, sum_cast r, List.map_cons, List.sum_cons]; omega
theorem partS_len {x : D} (h : partOk x = true) : (partS x).length ≤ 8 := by
  cases x <;> simp [partOk] at h
  case str s => exact h
  case int i =>
    have : i = 1 ∨ i = 2 ∨ i = 3 ∨ i = 4 ∨ i = 5 ∨ i = 6 ∨ i = 7 ∨ i = 8 := by omega
    rcases this with rfl | rfl | rfl | rfl | rfl | rfl | rfl | rfl <;> decide +kernel
theorem strsOf_map {f : D → Str} : ∀ xs : List D, strsOf (xs.map fun d => .str (f d)) = some (xs.map f)
  | [] => rfl
  | x :: r => by rw [List.map_cons, strsOf, strsOf_map r]; rfl
theorem strsOf_strs : ∀ xs : List Str, strsOf (xs.map .str) = some xs
  | [] => rfl
  | x :: r => by rw [List.map_cons, strsOf, strsOf_strs r]; rfl
theorem sum_le {n : Nat} : ∀ {xs : List Nat}, (∀ x ∈ xs, x ≤ n) → xs.sum ≤ n * xs.length
  | [], _ => by simp
  | x :: r, h => by
    have h1 := h x (List.mem_cons_self ..)
    have h2 := sum_le (xs := r) fun y hy => h y (List.mem_cons_of_mem _ hy)
    rw [List.sum_cons, List.length_cons, Nat.mul_succ]
    omega
theorem bid_str {x : D} (h : partOk x = true) : bid .str [x] = some (.str (partS x)) := by
  cases x <;> simp [partOk] at h
  case str s => rfl
  case int i =>
    have h1 : i.natAbs.log2 < 1920 := by
      have : i.natAbs.log2 ≤ i.natAbs := Nat.log2_le_self _
      omega
    simp [bid, h1, partS]
theorem flatMap_len {f : D → List Str} {n : Nat} : ∀ {xs : List D}, (∀ x ∈ xs, (f x).length ≤ n) → (xs.flatMap f).length ≤ n * xs.length
  | [], _ => by simp
  | x :: r, h => by
    have h1 := h x (List.mem_cons_self ..)
    have h2 := flatMap_len (xs := r) fun y hy => h y (List.mem_cons_of_mem _ hy)
    rw [List.flatMap_cons, List.length_append, List.length_cons, Nat.mul_succ]
    omega
theorem lines_short {xs : List D} (hp : ∀ x ∈ xs, stepB x = true) : ∀ l ∈ linesD xs, l.length ≤ 20 := fun l hl => by
  obtain ⟨x, hx, hl⟩ := List.mem_flatMap.mp hl
  have pl : ∀ a : List D, (∀ y ∈ a, plainB y = true) → ∀ l ∈ a.map plLine, l.length ≤ 20 := fun a ha l hl => by
    obtain ⟨y, hy, rfl⟩ := List.mem_map.mp hl
    obtain ⟨s, r, rfl, F, _⟩ := plain_ln (ha y hy)
    exact F.len
  have w1 : Str.length "else" ≤ 20 := by decide +kernel
  have w2 : Str.length "end" ≤ 20 := by decide +kernel
  rcases stepB_cases (hp x hx) with ⟨h, _⟩ | ⟨c, a, b, rfl, hc, la, lb, ha, hb⟩ | ⟨c, a, rfl, hc, la, ha⟩
  · rw [linesStep_pl h] at hl
    exact pl [x] (fun y hy => by rw [List.mem_singleton.mp hy]; exact h) l hl
  · obtain ⟨c, rfl, F1, F2, _⟩ := cond_ln hc
    simp only [linesStep, itT, List.mem_append, List.mem_singleton] at hl
    rcases hl with (((rfl | hl) | rfl) | hl) | rfl
    · exact F1.len
    · exact pl a ha l hl
    · exact w1
    · exact pl b hb l hl
    · exact w2
  · obtain ⟨c, rfl, F1, F2, _⟩ := cond_ln hc
    simp only [linesStep, itT, if_pos, List.mem_append, List.mem_singleton] at hl
    rcases hl with (rfl | hl) | rfl
    · exact F2.len
    · exact pl a ha l hl
    · exact w2
theorem lines_few {xs : List D} (hp : ∀ x ∈ xs, stepB x = true) : (linesD xs).length ≤ 9 * xs.length := flatMap_len fun x hx => by
  rcases stepB_cases (hp x hx) with ⟨h, _⟩ | ⟨c, a, b, rfl, hc, la, lb, ha, hb⟩ | ⟨c, a, rfl, hc, la, ha⟩
  · rw [linesStep_pl h]
    simp
  · simp [linesStep, itT]
    omega
  · simp [linesStep, itT]
    omega
theorem join_fit {xs : List D} (hp : ∀ x ∈ xs, stepB x = true) (hl : xs.length ≤ 6) : ((linesD xs).map (·.length)).sum + (linesD xs).length * Str.length "\n" ≤ 1200 := by
  have h1 : ((linesD xs).map (·.length)).sum ≤ 20 * ((linesD xs).map (·.length)).length := sum_le fun n hn => by
    obtain ⟨l, h, rfl⟩ := List.mem_map.mp hn
    exact lines_short hp l h
  have h2 : Str.length "\n" = 1 := by decide +kernel
  have h3 := lines_few hp
  rw [List.length_map] at h1
  rw [h2]
  omega
theorem script_parts {xs : List D} (h : scriptB (.tuple xs) = true) : xs.length ≤ 6 ∧ (∀ x ∈ xs, stepB x = true) ∧ sizes xs ≤ 12 := by
  simp only [scriptB, Bool.and_eq_true, decide_eq_true_eq, List.all_eq_true] at h
  exact ⟨h.1.1, h.1.2, h.2⟩
theorem step_len {x : D} (h : stepB x = true) : ∀ b ∈ itT x, (itT b).length ≤ 1000000 := by
  rcases stepB_cases h with ⟨h, _⟩ | ⟨c, a, b, rfl, hc, la, lb, ha, hb⟩ | ⟨c, a, rfl, hc, la, ha⟩
  · obtain ⟨s, r, rfl, F, _⟩ := plain_ln h
    intro b hb
    have := F.items b hb
    cases b <;> simp [itT]
    simp [partOk] at this
  · obtain ⟨c, rfl, F1, _⟩ := cond_ln hc
    have := F1.few
    rw [List.length_cons] at this
    intro y hy
    simp only [itT, List.mem_cons, List.not_mem_nil, or_false] at hy
    rcases hy with rfl | rfl | rfl | rfl <;> simp [itT] <;> omega
  · obtain ⟨c, rfl, F1, _⟩ := cond_ln hc
    have := F1.few
    rw [List.length_cons] at this
    intro y hy
    simp only [itT, List.mem_cons, List.not_mem_nil, or_false] at hy
    rcases hy with rfl | rfl | rfl <;> simp [itT] <;> omega
theorem parts_ok {x : Str} (h : lineOk x = true) : okD (.tuple (partsOf x)) = true := by
  simp only [lineOk, Bool.and_eq_true, decide_eq_true_eq, List.all_eq_true] at h
  obtain ⟨⟨⟨h1, h2⟩, h3⟩, h4⟩ := h
  refine okD_T (List.all_eq_true.mpr fun d hd => ?_)
  obtain ⟨w, hw, rfl⟩ := List.mem_map.mp hd
  have := h2 w hw
  simp only [wordOk, Bool.and_eq_true, decide_eq_true_eq] at this
  unfold partOf
  split
  · simp [flatD, okD_int]
  · simp [flatD, okD_str, this.2]
theorem parts_flat {x : Str} : ∀ d ∈ partsOf x, flatD d = true := fun d hd => by
  obtain ⟨w, hw, rfl⟩ := List.mem_map.mp hd
  unfold partOf
  split <;> rfl
theorem okD_tail {y : D} {r : List D} (h : okD (.tuple (y :: r)) = true) : okD (.tuple r) = true := okD_iff.mpr (dOk_tuple.mpr fun x hx => dOk_tuple.mp (okD_iff.mp h) x (List.mem_cons_of_mem _ hx))
theorem br_in {y : D} {r : List D} : inD y [.str "if", .str "while"] = isBr (y :: r) := by
  cases y <;> simp [inD, PyData.eqv, isBr]
  simp [Bool.beq_eq_decide_eq, eq_comm]
theorem getLast_map {bs : List (List D)} (h : bs ≠ []) : ∃ l b, bs = l ++ [b] := ⟨bs.dropLast, bs.getLast h, (List.dropLast_concat_getLast h).symm⟩
theorem addB_app {l : List (List D)} {b : List D} {p : D} : addB (l ++ [b]) p = l ++ [b ++ [p]] := by
  simp [addB, List.getLastD_concat]
theorem isIf_cons {s : Str} {r : List D} : isIf (.str s :: r) = decide (s = "if") := rfl
theorem inv_step {n : Nat} {f : List D} {o : Option (List D)} {bs : List (List D)} {x : Str} {s' : Sta} (h : StInv n f o bs) (hx : lineOk x = true) (e : lineSt f o bs x = some s') : StInv (n + 1) s'.1 s'.2.1 s'.2.2 := by
  have hl : (partsOf x).length ≤ 400001 := by
    simp only [lineOk, Bool.and_eq_true, decide_eq_true_eq] at hx
    unfold partsOf
    rw [List.length_map]
    exact hx.1.2
  have ho := parts_ok hx
  have hf := h.fl
  have hb := h.bl
  unfold lineSt at e
  split at e
  · rename_i q1
    cases o with
    | some q => cases e
    | none =>
      cases e
      exact ⟨by dsimp only; omega, by dsimp only; simp, fun b hb => by simp at hb; rw [hb]; simp, fun q hq => by cases hq; exact ⟨q1, hl, by simp, ho⟩⟩
  · split at e
    · cases o with
      | none => cases e
      | some q =>
        dsimp only at e
        split at e
        · rename_i q2
          cases e
          obtain ⟨i1, i2, i3, i4⟩ := h.op q rfl
          refine ⟨by dsimp only; omega, by dsimp only; simp; omega, fun b hb => ?_, fun q' hq => by cases hq; exact ⟨i1, i2, by simp, i4⟩⟩
          simp at hb
          rcases hb with hb | rfl
          · have := h.bb b hb
            omega
          · simp
        · cases e
    · split at e
      · cases o with
        | none => cases e
        | some q =>
          dsimp only at e
          by_cases c : bs.length = (if isIf q = true then 2 else 1)
          · rw [if_pos c] at e
            cases e
            exact ⟨by dsimp only; simp; omega, by dsimp only; omega, fun b hb => by have := h.bb b hb; omega, fun q hq => nomatch hq⟩
          · rw [if_neg c] at e
            cases e
      · cases o with
        | none =>
          cases e
          exact ⟨by dsimp only; simp; omega, by dsimp only; omega, fun b hb => by have := h.bb b hb; omega, fun q hq => nomatch hq⟩
        | some q =>
          cases e
          obtain ⟨i1, i2, i3, i4⟩ := h.op q rfl
          obtain ⟨l, b, rfl⟩ := getLast_map i3
          rw [addB_app]
          refine ⟨by dsimp only; omega, by simp at hb ⊢; omega, fun c hc => ?_, fun q' hq => by cases hq; exact ⟨i1, i2, by simp, i4⟩⟩
          have hb' := h.bb b (by simp)
          simp at hc
          rcases hc with hc | rfl
          · have := h.bb c (by simp [hc])
            omega
          · simp
            omega
def stepsV (ls : List Str) : D := match stepsD ls with
  | some f => .tuple f
  | none => .none
theorem rng_len {i : Int} : (rngZ 0 i).length = i.toNat := by simp [rngZ]
theorem sizeD_pl {x : D} (h : plainB x = true) : sizeD x = 1 := by
  obtain ⟨s, r, rfl, F, h1, h2, h3⟩ := plain_ln h
  cases r <;> simp [sizeD, h1, h2]
theorem stepB_pl {x : D} (h : plainB x = true) : stepB x = true := by
  obtain ⟨s, r, rfl, F, h1, h2, h3⟩ := plain_ln h
  simp [stepB, h1, h2, h]
theorem bodyB_of {a : List D} (h : ∀ x ∈ a, plainB x = true) (hl : a.length ≤ 3) : bodyB (.tuple a) = true := by
  simp only [bodyB, Bool.and_eq_true, decide_eq_true_eq, List.all_eq_true]
  exact ⟨hl, h⟩
theorem dOk1 {xs : List D} (h : okD (.tuple xs) = true) (hf : ∀ x ∈ xs, partOk x = true) : dOk 1 (.tuple xs) := dOk_tuple.mpr fun x hx => ⟨((okD_iff.mp (okD_flat h hx))).1, by
  have := hf x hx
  cases x <;> simp [PyData.depth] <;> simp [partOk] at this⟩
theorem dOk_plain {x : D} (h : plainB x = true) : dOk 1 x := by
  obtain ⟨s, r, rfl, F, h1, h2, h3⟩ := plain_ln h
  exact dOk1 h3 F.items
theorem dOk_cond {x : D} (h : condB x = true) : dOk 1 x := by
  obtain ⟨c, rfl, F, _, h3⟩ := cond_ln h
  exact dOk1 h3 fun y hy => F.items y (List.mem_cons_of_mem _ hy)
theorem strOk_lit {a : String} : PyData.strOk (Str.ofString a) = true := by
  have := okD_lit (a := a)
  rwa [okD_str] at this
theorem dOk_step {x : D} (h : stepB x = true) : dOk 3 x := by
  have bd : ∀ {a : List D}, (∀ y ∈ a, plainB y = true) → dOk 2 (.tuple a) := fun ha => dOk_tuple.mpr fun y hy => dOk_plain (ha y hy)
  rcases stepB_cases h with ⟨h, _⟩ | ⟨c, a, b, rfl, hc, la, lb, ha, hb⟩ | ⟨c, a, rfl, hc, la, ha⟩
  · exact dOk_mono (dOk_plain h) (by omega)
  · refine dOk_tuple.mpr fun y hy => ?_
    simp at hy
    rcases hy with rfl | rfl | rfl | rfl
    · exact dOk_str.mpr strOk_lit
    · exact dOk_mono (dOk_cond hc) (by omega)
    · exact bd ha
    · exact bd hb
  · refine dOk_tuple.mpr fun y hy => ?_
    simp at hy
    rcases hy with rfl | rfl | rfl
    · exact dOk_str.mpr strOk_lit
    · exact dOk_mono (dOk_cond hc) (by omega)
    · exact bd ha
theorem okD_step {x : D} (h : stepB x = true) : okD x = true := okD_iff.mpr (dOk_mono (dOk_step h) (by omega))
theorem okD_steps {xs : List D} (h : ∀ x ∈ xs, stepB x = true) : okD (.tuple xs) = true := okD_iff.mpr (dOk_mono (n := 4) (dOk_tuple.mpr fun x hx => dOk_step (h x hx)) (by omega))
theorem sizes_le {xs : List D} {n : Nat} (h : ∀ x ∈ xs, sizeD x ≤ n) : sizes xs ≤ n * xs.length := by
  unfold sizes
  have := sum_le (xs := xs.map sizeD) (n := n) fun y hy => by
    obtain ⟨x, hx, rfl⟩ := List.mem_map.mp hy
    exact h x hx
  rwa [List.length_map] at this
theorem getL_of {M : Mem} {p : Nat} {l : List D} (h : M[p]? = some (.lst l)) : getL M p = some l := by
  unfold getL
  rw [h]
theorem rcvA {M : Mem} {p : Nat} {l : List D} (h : M[p]? = some (.lst l)) : rcv .append (.r p) M = true := by
  show (match M[p]? with
    | some (.lst _) => true
    | _ => false) = true
  rw [h]
theorem rcv_join {M : Mem} {x : Str} : rcv .join (.d (.str x)) M = true := rfl
/-- the memory above m may have changed -/
structure Up (m : Nat) (M M' : Mem) : Prop where
  l : M.length ≤ M'.length
  o : ∀ i, i < m → M'[i]? = M[i]?
theorem Up.refl {m : Nat} {M : Mem} : Up m M M := ⟨Nat.le_refl _, fun _ _ => rfl⟩
theorem Up.trans {m : Nat} {M M1 M2 : Mem} (h : Up m M M1) (g : Up m M1 M2) : Up m M M2 := ⟨Nat.le_trans h.l g.l, fun i hi => (g.o i hi).trans (h.o i hi)⟩
theorem Up.le {m n : Nat} {M M1 : Mem} (h : Up n M M1) (l : m ≤ n) : Up m M M1 := ⟨h.l, fun i hi => h.o i (by omega)⟩
theorem adz_new {x y : Z} {M : Mem} {xs ys : List D} (h1 : lsZ M x = some xs) (h2 : lsZ M y = some ys) (hl : xs.length + ys.length ≤ 1000000) : ∃ M', adz x y M = .ok (.r M.length) M' ∧ M'[M.length]? = some (.lst (xs ++ ys)) ∧ ∀ m, m ≤ M.length → Up m M M' := by
  refine ⟨M ++ [.lst (xs ++ ys)], ?_, by simp, fun m hm => ⟨by simp, fun i hi => List.getElem?_append_left (by omega)⟩⟩
  show (match lsZ M x, lsZ M y with
    | some xs, some ys => if xs.length + ys.length ≤ slen then R.ok (Z.r M.length) (M ++ [MO.lst (xs ++ ys)]) else R.bad
    | _, _ => R.bad) = _
  rw [h1, h2]
  exact if_pos hl
theorem opz_new {p : Nat} {M : Mem} {xs ys : List D} (h1 : lsZ M (.r p) = some xs) (hl : xs.length + ys.length ≤ 1000000) : opz .add (.r p) (.d (.list ys)) M = .ok (.d (.list (xs ++ ys))) M := by
  show (match lsZ M (.r p), some ys with
    | some xs, some ys => if xs.length + ys.length ≤ slen then R.ok (Z.d (.list (xs ++ ys))) M else R.bad
    | _, _ => R.bad) = _
  rw [h1]
  exact if_pos hl
theorem parts_sum {xs : List D} (hx : ∀ x ∈ xs, partOk x = true) (hl : xs.length ≤ 10) : ((xs.map partS).map (·.length)).sum + (xs.map partS).length * Str.length " " ≤ slen := by
  have h1 : ((xs.map partS).map (·.length)).sum ≤ 8 * ((xs.map partS).map (·.length)).length := sum_le fun n hn => by
    simp only [List.map_map, List.mem_map] at hn
    obtain ⟨x, hx1, rfl⟩ := hn
    exact partS_len (hx x hx1)
  have h2 : Str.length " " = 1 := by decide +kernel
  rw [h2]
  simp only [List.length_map] at h1 ⊢
  show _ ≤ 1000000
  omega
theorem linesD_pl {a : List D} (h : ∀ x ∈ a, plainB x = true) : linesD a = a.map plLine := by
  induction a with
  | nil => rfl
  | cons x r ih =>
    show linesStep x ++ linesD r = _
    rw [linesStep_pl (h x (List.mem_cons_self ..)), ih fun y hy => h y (List.mem_cons_of_mem _ hy)]
    rfl
theorem strOk_iff {x : Str} : PyData.strOk x = true ↔ ∀ c ∈ x.cps.toList, c < 1114112 := by
  unfold PyData.strOk
  rw [← Array.all_toList, List.all_eq_true]
  simp
theorem strOk_app {x y : Str} (h1 : PyData.strOk x = true) (h2 : PyData.strOk y = true) : PyData.strOk (x ++ y) = true := by
  rw [strOk_iff] at *
  intro c hc
  have e : (x ++ y).cps.toList = x.cps.toList ++ y.cps.toList := by
    show (x.cps ++ y.cps).toList = _
    simp
  rw [e, List.mem_append] at hc
  exact hc.elim (h1 c) (h2 c)
theorem strOk_join {y : Str} (hy : PyData.strOk y = true) : ∀ {l : List Str}, (∀ x ∈ l, PyData.strOk x = true) → PyData.strOk (Str.join y l) = true
  | [], _ => by simp [Str.join, Str.empty, PyData.strOk]
  | [x], h => h x (List.mem_singleton.mpr rfl)
  | x :: z :: r, h => strOk_app (strOk_app (h x (List.mem_cons_self ..)) hy) (strOk_join hy (l := z :: r) fun u hu => h u (List.mem_cons_of_mem _ hu))
theorem text_ok {xs : List D} (h : ∀ x ∈ xs, stepB x = true) : PyData.strOk (textD xs) = true := by
  unfold textD
  rw [TL.join_eq]
  refine strOk_join strOk_lit fun x hx => ?_
  have := (lnR_lines h x hx).ok
  simp only [lineOk, Bool.and_eq_true] at this
  exact this.2
theorem text_len {xs : List D} (h : ∀ x ∈ xs, stepB x = true) (hl : xs.length ≤ 6) : (textD xs).length ≤ 1200 := by
  unfold textD
  rw [TL.join_eq]
  exact Nat.le_trans (StrLaws.join_length_le _ _) (join_fit h hl)
theorem eqv_r {d : D} (h : okD d = true) : PyData.eqv d d = true := SeqAt.eqv_refl d (okD_iff.mp h).1
theorem rng_eq {n : Nat} : rngZ 0 (n : Int) = (List.range n).map fun (j : Nat) => Z.d (.int (j : Int)) := by
  simp [rngZ]
end Zt
namespace Zt
open PySem
theorem cps_app {a b : Str} : (a ++ b).cps.toList = a.cps.toList ++ b.cps.toList := by
  show (a.cps ++ b.cps).toList = _
  simp
theorem len_app {a b : Str} : (a ++ b).length = a.length + b.length := by
  show (a.cps ++ b.cps).size = _
  simp [Str.length]
theorem mem_join {y p : Str} : ∀ {l : List Str}, p ∈ l → p.length ≤ (Str.join y l).length ∧ ∀ c ∈ p.cps.toList, c ∈ (Str.join y l).cps.toList
  | [x], h => by
    rw [List.mem_singleton.mp h]
    exact ⟨Nat.le_refl _, fun c hc => hc⟩
  | x :: z :: r, h => by
    show p.length ≤ (x ++ y ++ Str.join y (z :: r)).length ∧ ∀ c ∈ p.cps.toList, c ∈ (x ++ y ++ Str.join y (z :: r)).cps.toList
    rw [len_app, len_app, cps_app, cps_app]
    rcases List.mem_cons.mp h with e | e
    · rw [e]
      exact ⟨by omega, fun c hc => by simp [hc]⟩
    · obtain ⟨h1, h2⟩ := mem_join (y := y) e
      exact ⟨by omega, fun c hc => by
        have := h2 c hc
        exact List.mem_append_right _ this⟩
theorem len_join {y : Str} (hy : 1 ≤ y.length) : ∀ {l : List Str}, l.length ≤ (Str.join y l).length + 1
  | [] => by simp
  | [x] => by simp
  | x :: z :: r => by
    have ih := len_join hy (l := z :: r)
    have e : (Str.join y (x :: z :: r)).length = x.length + y.length + (Str.join y (z :: r)).length := by
      show (x ++ y ++ Str.join y (z :: r)).length = _
      rw [len_app, len_app]
    rw [e]
    simp only [List.length_cons] at ih ⊢
    omega
theorem mem_split {x y p : Str} (h : p ∈ Txt.split x y) : p.length ≤ x.length ∧ (PyData.strOk x = true → PyData.strOk p = true) := by
  have e := StrLaws.join_split x y
  obtain ⟨h1, h2⟩ := mem_join (y := y) h
  rw [e] at h1 h2
  exact ⟨h1, fun ho => strOk_iff.mpr fun c hc => strOk_iff.mp ho c (h2 c hc)⟩
theorem len_split {x y : Str} (hy : 1 ≤ y.length) : (Txt.split x y).length ≤ x.length + 1 := by
  have := len_join hy (l := Txt.split x y)
  rwa [StrLaws.join_split] at this
def digs : List Str := ["1", "2", "3", "4", "5", "6", "7", "8"]
theorem dig_cps : ("12345678" : Str).cps = #[49, 50, 51, 52, 53, 54, 55, 56] := by decide +kernel
theorem dig_of {w : Str} (h1 : w.length = 1) (h : Txt.contains "12345678" w = true) : w ∈ digs := by
  obtain ⟨f, hf⟩ := StrLaws.occ_chain "12345678" w 1
  unfold Txt.contains at h
  cases q : Builtin.Str.occurrences "12345678" w 0 (Str.length "12345678") 1 with
  | nil =>
    rw [q] at h
    cases h
  | cons i r =>
    rw [q] at hf
    obtain ⟨_, ⟨hi, hs⟩, _⟩ := hf
    have hl : Str.length "12345678" = 8 := by decide +kernel
    rw [hl, h1] at hi
    unfold Builtin.Str.subAt at hs
    rw [h1, dig_cps] at hs
    have hs : #[49, 50, 51, 52, 53, 54, 55, 56].extract i (i + 1) = w.cps := by simpa using hs
    have hw : w = ⟨#[49, 50, 51, 52, 53, 54, 55, 56].extract i (i + 1)⟩ := by rw [hs]
    rw [hw]
    have : i = 0 ∨ i = 1 ∨ i = 2 ∨ i = 3 ∨ i = 4 ∨ i = 5 ∨ i = 6 ∨ i = 7 := by omega
    rcases this with rfl | rfl | rfl | rfl | rfl | rfl | rfl | rfl <;> decide +kernel
theorem digs_ok : digs.all (fun w => decide (w.length = 1) && Txt.contains "12345678" w && (intText? w).isSome) = true := by decide +kernel
theorem dig_iff {w : Str} : (w.length = 1 ∧ Txt.contains "12345678" w = true) ↔ w ∈ digs := ⟨fun h => dig_of h.1 h.2, fun h => by
  have := List.all_eq_true.mp digs_ok w h
  simp only [Bool.and_eq_true, decide_eq_true_eq] at this
  exact this.1⟩
theorem word_ok {w : Str} (hl : w.length ≤ 400000) (ho : PyData.strOk w = true) : wordOk w = true := by
  unfold wordOk
  simp only [Bool.and_eq_true, decide_eq_true_eq]
  refine ⟨⟨hl, ?_⟩, ho⟩
  cases q : decide (w.length = 1) && Txt.contains "12345678" w with
  | false => rfl
  | true =>
    rw [Bool.and_eq_true, decide_eq_true_eq] at q
    have := List.all_eq_true.mp digs_ok w (dig_of q.1 q.2)
    simp only [Bool.and_eq_true] at this
    simpa using this.2
theorem line_ok {x : Str} (hl : x.length ≤ 400000) (ho : PyData.strOk x = true) : lineOk x = true := by
  unfold lineOk
  simp only [Bool.and_eq_true, decide_eq_true_eq, List.all_eq_true]
  have h1 : 1 ≤ Str.length " " := by decide +kernel
  refine ⟨⟨⟨hl, fun w hw => ?_⟩, ?_⟩, ho⟩
  · obtain ⟨a, b⟩ := mem_split hw
    exact word_ok (Nat.le_trans a hl) (b ho)
  · have := len_split (x := x) h1
    omega
theorem rows_good {v : Str} (hl : v.length ≤ 400000) (ho : PyData.strOk v = true) : (∀ x ∈ rowsOf v, lineOk x = true) ∧ (rowsOf v).length ≤ 400001 := by
  unfold rowsOf
  split
  · exact ⟨fun x h => (nomatch h), by simp⟩
  · have h1 : 1 ≤ Str.length "\n" := by decide +kernel
    refine ⟨fun x hx => ?_, ?_⟩
    · obtain ⟨a, b⟩ := mem_split hx
      exact line_ok (Nat.le_trans a hl) (b ho)
    · have := len_split (x := v) h1
      omega
/-- a step as it is read -/
def StD (x : D) : Prop := dOk 3 x ∧ (itT x).length ≤ 500001 ∧ ∀ b ∈ itT x, (itT b).length ≤ 500001
structure StOk (n : Nat) (f : List D) (o : Option (List D)) (bs : List (List D)) : Prop where
  f : ∀ x ∈ f, StD x
  b : ∀ b ∈ bs, ∀ x ∈ b, dOk 1 x
  o : ∀ q, o = some q → dOk 1 (.tuple q)
theorem flat_dOk {x : D} (h : okD x = true) (hf : flatD x = true) : dOk 0 x := by
  refine ⟨(okD_iff.mp h).1, ?_⟩
  cases x <;> first | (simp [PyData.depth]; done) | (exact absurd hf (by simp [flatD]))
theorem parts_dOk {x : Str} (hx : lineOk x = true) : dOk 1 (.tuple (partsOf x)) := dOk_tuple.mpr fun y hy => flat_dOk (okD_flat (parts_ok hx) hy) (parts_flat y hy)
theorem parts_len {x : Str} (hx : lineOk x = true) : (partsOf x).length ≤ 400001 := by
  simp only [lineOk, Bool.and_eq_true, decide_eq_true_eq] at hx
  unfold partsOf
  rw [List.length_map]
  exact hx.1.2
theorem parts_std {x : Str} (hx : lineOk x = true) : StD (.tuple (partsOf x)) := by
  refine ⟨dOk_mono (parts_dOk hx) (by omega), Nat.le_trans (parts_len hx) (by omega), fun b hb => ?_⟩
  have := parts_flat b hb
  cases b <;> first | (simp [itT]; done) | (exact absurd this (by simp [flatD]))
theorem inv_ok {n : Nat} {f : List D} {o : Option (List D)} {bs : List (List D)} {x : Str} {s' : Sta} (h : StOk n f o bs) (iv : StInv n f o bs) (hn : n ≤ 500000) (hx : lineOk x = true) (e : lineSt f o bs x = some s') : StOk (n + 1) s'.1 s'.2.1 s'.2.2 := by
  unfold lineSt at e
  split at e
  · cases o with
    | some q => cases e
    | none =>
      cases e
      exact ⟨h.f, (fun b hb y hy => by simp at hb; rw [hb] at hy; cases hy), (fun q hq => by cases hq; exact parts_dOk hx)⟩
  · split at e
    · cases o with
      | none => cases e
      | some q =>
        dsimp only at e
        split at e
        · cases e
          refine ⟨h.f, fun b hb y hy => ?_, fun q' hq => h.o q' hq⟩
          simp at hb
          rcases hb with hb | rfl
          · exact h.b b hb y hy
          · cases hy
        · cases e
    · split at e
      · cases o with
        | none => cases e
        | some q =>
          dsimp only at e
          by_cases c : bs.length = (if isIf q = true then 2 else 1)
          · rw [if_pos c] at e
            cases e
            refine ⟨fun y hy => ?_, h.b, (fun q hq => nomatch hq)⟩
            simp only [List.mem_append, List.mem_singleton] at hy
            rcases hy with hy | rfl
            · exact h.f y hy
            · obtain ⟨i1, i2, i3, i4⟩ := iv.op q rfl
              obtain ⟨s, r, rfl, hs⟩ := isBr_cons i1
              have hq := dOk_tuple.mp (h.o _ rfl)
              have b2 : ∀ b ∈ bs, dOk 2 (.tuple b) := fun b hb => dOk_tuple.mpr fun y hy => h.b b hb y hy
              have c2 : bs.length ≤ 2 := by rw [c]; split <;> omega
              refine ⟨dOk_tuple.mpr fun y hy => ?_, ?_, fun b hb => ?_⟩
              · simp only [List.headD_cons, List.tail_cons, List.mem_cons, List.mem_map] at hy
                rcases hy with rfl | rfl | ⟨b, hb, rfl⟩
                · exact dOk_mono (hq _ (List.mem_cons_self ..)) (by omega)
                · exact dOk_mono (dOk_tuple.mpr fun z hz => hq z (List.mem_cons_of_mem _ hz)) (by omega)
                · exact b2 b hb
              · simp [closedD, itT]
                omega
              · simp only [closedD, itT, List.headD_cons, List.tail_cons, List.mem_cons, List.mem_map] at hb
                rw [List.length_cons] at i2
                rcases hb with rfl | rfl | ⟨b, hb, rfl⟩
                · simp [itT]
                · simp [itT]
                  omega
                · have := iv.bb b hb
                  simp [itT]
                  omega
          · rw [if_neg c] at e
            cases e
      · cases o with
        | none =>
          cases e
          refine ⟨fun y hy => ?_, h.b, (fun q hq => nomatch hq)⟩
          simp only [List.mem_append, List.mem_singleton] at hy
          rcases hy with hy | rfl
          · exact h.f y hy
          · exact parts_std hx
        | some q =>
          cases e
          obtain ⟨i1, i2, i3, i4⟩ := iv.op q rfl
          obtain ⟨l, b, rfl⟩ := getLast_map i3
          rw [addB_app]
          refine ⟨h.f, fun c hc y hy => ?_, fun q' hq => h.o q' hq⟩
          simp at hc
          rcases hc with hc | rfl
          · exact h.b c (by simp [hc]) y hy
          · simp only [List.mem_append, List.mem_singleton] at hy
            rcases hy with hy | rfl
            · exact h.b b (by simp) y hy
            · exact parts_dOk hx
theorem lines_std : ∀ {ls : List Str} {s s' : Sta} {n : Nat}, n + ls.length ≤ 500000 → StInv n s.1 s.2.1 s.2.2 → StOk n s.1 s.2.1 s.2.2 → (∀ x ∈ ls, lineOk x = true) → linesSt s ls = some s' → (∀ x ∈ s'.1, StD x) ∧ s'.1.length ≤ 500000
  | [], s, s', n, hn, iv, h, _, e => by
    cases e
    exact ⟨h.f, Nat.le_trans iv.fl (by simp at hn; omega)⟩
  | x :: ls, (f, o, bs), s', n, hn, iv, h, hx, e => by
    rw [List.length_cons] at hn
    rw [ls_cons] at e
    obtain ⟨s2, e1, e2⟩ := Option.bind_eq_some_iff.mp e
    have h1 := hx x (List.mem_cons_self ..)
    exact lines_std (n := n + 1) (by omega) (inv_step iv h1 e1) (inv_ok h iv (by omega) h1 e1) (fun y hy => hx y (List.mem_cons_of_mem _ hy)) e2
theorem steps_std {ls : List Str} {xs : List D} (hn : ls.length ≤ 500000) (hx : ∀ x ∈ ls, lineOk x = true) (e : stepsD ls = some xs) : okD (.tuple xs) = true ∧ xs.length ≤ 500000 ∧ (∀ s ∈ xs, (itT s).length ≤ 500001 ∧ ∀ b ∈ itT s, (itT b).length ≤ 500001) := by
  unfold stepsD at e
  obtain ⟨s, e1, e2⟩ := Option.bind_eq_some_iff.mp e
  obtain ⟨f, o, bs⟩ := s
  obtain ⟨k1, k2⟩ := lines_std (n := 0) (by omega) ⟨by simp, by simp, (fun b hb => by simp at hb), (fun q hq => by simp at hq)⟩ ⟨(fun y hy => by simp at hy), (fun b hb => by simp at hb), (fun q hq => by simp at hq)⟩ hx e1
  cases o with
  | some q => cases e2
  | none =>
    cases e2
    exact ⟨okD_iff.mpr (dOk_mono (n := 4) (dOk_tuple.mpr fun x hx => (k1 x hx).1) (by omega)), k2, fun s hs => (k1 s hs).2⟩
def firstBad : Nat → List Str → Option Nat
  | _, [] => none
  | n, x :: r => if lineB x then firstBad (n + 1) r else some n
/-- the script, or the line of the error -/
def valD (v : Str) : D := match firstBad 0 (rowsOf v) with
  | some n => .int ((n : Int) + 1)
  | none => match stepsD (rowsOf v) with
    | some xs => if scriptB (.tuple xs) then .tuple xs else .int (((rowsOf v).length : Int) + 1)
    | none => .int (((rowsOf v).length : Int) + 1)
end Zt
namespace Zt
open PySem
/-- the lines' signs with one for each line -/
def wsum (l : List Str) : Nat := (l.map fun x => x.length + 1).sum
theorem wsum_cons {x : Str} {l : List Str} : wsum (x :: l) = x.length + 1 + wsum l := by simp [wsum]
theorem wsum_app {a b : List Str} : wsum (a ++ b) = wsum a + wsum b := by simp [wsum]
theorem wsum_take {n : Nat} {l : List Str} : wsum (l.take n) ≤ wsum l := by
  have := wsum_app (a := l.take n) (b := l.drop n)
  rw [List.take_append_drop] at this
  omega
theorem wsum_drop {n : Nat} {l : List Str} : wsum (l.drop n) ≤ wsum l := by
  have := wsum_app (a := l.take n) (b := l.drop n)
  rw [List.take_append_drop] at this
  omega
theorem wsum_cut {l : List Str} {a b : Option Int} : wsum (cut l a b) ≤ wsum l := Nat.le_trans wsum_take wsum_drop
theorem mem_cut {α : Type} {l : List α} {a b : Option Int} {x : α} (h : x ∈ cut l a b) : x ∈ l := List.mem_of_mem_drop (List.mem_of_mem_take h)
theorem cut_map {α β : Type} {f : α → β} {l : List α} {a b : Option Int} : cut (l.map f) a b = (cut l a b).map f := by
  simp [cut, List.map_take, List.map_drop]
theorem wsum_eq {l : List Str} : wsum l = (l.map (·.length)).sum + l.length := by
  induction l with
  | nil => rfl
  | cons x l ih => rw [wsum_cons, ih, List.map_cons, List.sum_cons, List.length_cons]; omega
theorem wsum_join {y : Str} (hy : y.length = 1) : ∀ {l : List Str}, l ≠ [] → (Str.join y l).length + 1 = wsum l
  | [], h => absurd rfl h
  | [x], _ => by
    rw [wsum_cons]
    rfl
  | x :: z :: r, _ => by
    have ih := wsum_join hy (l := z :: r) (by simp)
    have e : (Str.join y (x :: z :: r)).length = x.length + y.length + (Str.join y (z :: r)).length := by
      show (x ++ y ++ Str.join y (z :: r)).length = _
      rw [len_app, len_app]
    rw [e, wsum_cons]
    omega
theorem wsum_split {x y : Str} (hy : y.length = 1) : wsum (Txt.split x y) = x.length + 1 := by
  rw [← wsum_join hy (split_ne x y), StrLaws.join_split]
theorem nl1 : Str.length "\n" = 1 := by decide +kernel
/-- a text that may be read -/
structure TxOk (n : Nat) (x : Str) : Prop where
  ok : PyData.strOk x = true
  l : x.length ≤ n
theorem TxOk.le {m n : Nat} {x : Str} (h : TxOk m x) (l : m ≤ n) : TxOk n x := ⟨h.ok, Nat.le_trans h.l l⟩
theorem tx_join {n : Nat} {l : List Str} (h : ∀ x ∈ l, PyData.strOk x = true) (hw : wsum l ≤ n) : TxOk n (Txt.join "\n" l) := by
  rw [TL.join_eq]
  refine ⟨strOk_join strOk_lit h, ?_⟩
  cases l with
  | nil =>
    have : (Str.join "\n" []).length = 0 := by decide +kernel
    omega
  | cons x r =>
    have := wsum_join nl1 (l := x :: r) (by simp)
    omega
theorem tx_app {m n : Nat} {x y : Str} (h1 : TxOk m x) (h2 : TxOk n y) : TxOk (m + n) (x ++ y) := ⟨strOk_app h1.ok h2.ok, by
  rw [len_app]
  have := h1.l
  have := h2.l
  omega⟩
theorem tx_cutS {n : Nat} {x : Str} {a b : Option Int} (h : TxOk n x) : TxOk n (L2.cutS x a b) := by
  refine ⟨strOk_iff.mpr fun c hc => strOk_iff.mp h.ok c ?_, ?_⟩
  · have hc : c ∈ (List.take (HT.sIx x.length x.length b - HT.sIx x.length 0 a) (List.drop (HT.sIx x.length 0 a) x.cps.toList)) := by simpa [L2.cutS] using hc
    exact List.mem_of_mem_drop (List.mem_of_mem_take hc)
  · have h1 : (L2.cutS x a b).length = (List.take (HT.sIx x.length x.length b - HT.sIx x.length 0 a) (List.drop (HT.sIx x.length 0 a) x.cps.toList)).length := by
      simp [L2.cutS, Str.length]
    rw [h1, List.length_take, List.length_drop]
    have : x.cps.toList.length = x.length := by simp [Str.length]
    have := h.l
    omega
def asc (x : Str) : Bool := x.cps.all (· < 128)
theorem asc_iff {x : Str} : asc x = true ↔ ∀ c ∈ x.cps.toList, c < 128 := by
  unfold asc
  rw [← Array.all_toList, List.all_eq_true]
  simp only [decide_eq_true_eq]
theorem up_all : (List.range 128).all (fun c => (Unicode.upperOf c).all (· < 128)) = true := by decide +kernel
theorem asc_pl : PA.all (fun x => asc (plLine x)) = true := by decide +kernel
theorem asc_cd : CA.all (fun x => asc (lineOf (.str "if" :: itT x)) && asc (lineOf (.str "while" :: itT x))) = true := by decide +kernel
theorem asc_lines {xs : List D} (hp : ∀ x ∈ xs, stepB x = true) : ∀ l ∈ linesD xs, asc l = true := fun l hl => by
  obtain ⟨x, hx, hl⟩ := List.mem_flatMap.mp hl
  have pl : ∀ a : List D, (∀ y ∈ a, plainB y = true) → ∀ l ∈ a.map plLine, asc l = true := fun a ha l hl => by
    obtain ⟨y, hy, rfl⟩ := List.mem_map.mp hl
    exact List.all_eq_true.mp asc_pl y (plain_mem (ha y hy))
  have w1 : asc "else" = true := by decide +kernel
  have w2 : asc "end" = true := by decide +kernel
  rcases stepB_cases (hp x hx) with ⟨h, _⟩ | ⟨c, a, b, rfl, hc, la, lb, ha, hb⟩ | ⟨c, a, rfl, hc, la, ha⟩
  · rw [linesStep_pl h] at hl
    exact pl [x] (fun y hy => by rw [List.mem_singleton.mp hy]; exact h) l hl
  · have ac := List.all_eq_true.mp asc_cd c (cond_mem hc)
    rw [Bool.and_eq_true] at ac
    simp only [linesStep, itT, List.mem_append, List.mem_singleton] at hl
    rcases hl with (((rfl | hl) | rfl) | hl) | rfl
    · exact ac.1
    · exact pl a ha l hl
    · exact w1
    · exact pl b hb l hl
    · exact w2
  · have ac := List.all_eq_true.mp asc_cd c (cond_mem hc)
    rw [Bool.and_eq_true] at ac
    simp only [linesStep, itT, if_pos, List.mem_append, List.mem_singleton] at hl
    rcases hl with (rfl | hl) | rfl
    · exact ac.2
    · exact pl a ha l hl
    · exact w2
theorem asc_join {y : Str} (hy : asc y = true) : ∀ {l : List Str}, (∀ x ∈ l, asc x = true) → asc (Str.join y l) = true
  | [], _ => by
    rw [show Str.join y [] = ⟨#[]⟩ from rfl]
    decide +kernel
  | [x], h => h x (List.mem_cons_self ..)
  | x :: z :: r, h => by
    have ih := asc_join hy (l := z :: r) fun w hw => h w (List.mem_cons_of_mem _ hw)
    rw [asc_iff] at ih hy ⊢
    have h1 := asc_iff.mp (h x (List.mem_cons_self ..))
    intro c hc
    have hc : c ∈ (x ++ y ++ Str.join y (z :: r)).cps.toList := hc
    rw [cps_app, cps_app] at hc
    simp only [List.mem_append] at hc
    rcases hc with (hc | hc) | hc
    · exact h1 c hc
    · exact hy c hc
    · exact ih c hc
theorem asc_text {xs : List D} (hp : ∀ x ∈ xs, stepB x = true) : asc (textD xs) = true := by
  unfold textD
  rw [TL.join_eq]
  exact asc_join (y := "\n") (by decide +kernel) (asc_lines hp)
theorem tx_upper {n : Nat} {x : Str} (h : asc x = true) (hl : x.length ≤ n) : TxOk (3 * n) (Txt.upper x) := by
  refine ⟨strOk_iff.mpr fun c hc => ?_, Nat.le_trans (PyProof.Rows.len_upper x) (by omega)⟩
  have hc : c ∈ (Txt.upper x).cps := by simpa using hc
  unfold Txt.upper PySem.placed at hc
  obtain ⟨a, ha, hc⟩ := Array.mem_flatten.mp hc
  obtain ⟨i, hi, rfl⟩ := Array.mem_mapIdx.mp ha
  have h1 := asc_iff.mp h x.cps[i] (by simp)
  have h2 := List.all_eq_true.mp up_all x.cps[i] (List.mem_range.mpr h1)
  have h3 := List.all_eq_true.mp h2 c (by simpa using hc)
  simp at h3
  omega
end Zt
namespace Zt
open PySem
theorem one_in {y : Str} {c : Nat} (h : Txt.contains y ⟨#[c]⟩ = true) : c ∈ y.cps.toList := by
  obtain ⟨f, hf⟩ := StrLaws.occ_chain y ⟨#[c]⟩ 1
  unfold Txt.contains at h
  cases q : Builtin.Str.occurrences y ⟨#[c]⟩ 0 (Str.length y) 1 with
  | nil =>
    rw [q] at h
    cases h
  | cons i r =>
    rw [q] at hf
    obtain ⟨_, ⟨hi, hs⟩, _⟩ := hf
    unfold Builtin.Str.subAt at hs
    have hs : y.cps.extract i (i + 1) = #[c] := by simpa [Str.length] using hs
    have e : (y.cps.extract i (i + 1)).toList = [c] := by rw [hs]
    rw [Array.toList_extract, List.extract_eq_drop_take] at e
    have m : c ∈ List.take (i + 1 - i) (List.drop i y.cps.toList) := by rw [e]; simp
    exact List.mem_of_mem_drop (List.mem_of_mem_take m)
def sgB (w : Str) : D → Bool
  | .str y => Txt.contains w y
  | _ => false
def rowB : D → Bool
  | .str s => decide (s.length ≤ 8) && (signsOf s).all (sgB "abcABC")
  | _ => false
def lenD : D → Nat
  | .str s => s.length
  | _ => 0
def standB : D → Bool
  | .tuple [a, b, c] => rowB a && rowB b && rowB c && decide (lenD a + lenD b + lenD c ≤ 8)
  | _ => false
def adj : List Nat → Bool
  | a :: b :: r => decide (a ≤ b) && adj (b :: r)
  | _ => true
def sumB : D → Bool
  | .str s => decide (1 ≤ s.length) && decide (s.length ≤ 8) && (signsOf s).all (sgB "abcpqr") && adj s.cps.toList
  | _ => false
def factB : D → Bool
  | .tuple [a, b, c] => wordB a [.str "less", .str "upto", .str "same"] && sumB b && sumB c
  | _ => false
def factsB : D → Bool
  | .tuple xs => decide (xs.length ≤ 6) && xs.all factB
  | _ => false
def lengthsB : D → Bool
  | .tuple xs => decide (xs.length = 6) && xs.all fun d => wholeB d 1 1000000000000000000000000000000
  | _ => false
def L6 : List Nat := [97, 98, 99, 65, 66, 67]
theorem abc_cps : ("abcABC" : Str).cps.toList = L6 := by decide +kernel
def flp (c : Nat) : Nat := if c < 97 then c + 32 else c - 32
def tnS (x : Str) : Str := ⟨(x.cps.toList.reverse.map flp).toArray⟩
theorem row_in {s : Str} (h : rowB (.str s) = true) : s.length ≤ 8 ∧ ∀ c ∈ s.cps.toList, c ∈ L6 := by
  simp only [rowB, Bool.and_eq_true, decide_eq_true_eq] at h
  refine ⟨h.1, fun c hc => ?_⟩
  have h2 := List.all_eq_true.mp h.2 (.str ⟨#[c]⟩) (List.mem_map.mpr ⟨c, hc, rfl⟩)
  rw [← abc_cps]
  exact one_in h2
theorem l6_ok : L6.all (fun c => Txt.contains "abcABC" ⟨#[c]⟩ && (L6.contains (flp c)) && decide (flp (flp c) = c) && decide ((if Unicode.isUpper c then Unicode.lowerOf c else if Unicode.isLower c then Unicode.upperOf c else [c]) = [flp c]) && decide (c ≠ 0x3A3)) = true := by decide +kernel
theorem row_of {s : Str} (h : s.length ≤ 8) (g : ∀ c ∈ s.cps.toList, c ∈ L6) : rowB (.str s) = true := by
  simp only [rowB, Bool.and_eq_true, decide_eq_true_eq]
  refine ⟨h, List.all_eq_true.mpr fun d hd => ?_⟩
  obtain ⟨c, hc, rfl⟩ := List.mem_map.mp hd
  have := List.all_eq_true.mp l6_ok c (g c hc)
  simp only [Bool.and_eq_true] at this
  exact this.1.1.1.1
theorem swap_row {x : Str} (g : ∀ c ∈ x.cps.toList, c ∈ L6) : Txt.swapcase x = ⟨x.cps.map flp⟩ := by
  unfold Txt.swapcase PySem.placed
  congr 1
  have e : (x.cps.mapIdx fun i c => (if Unicode.isUpper c then Unicode.lowerAt x.cps i else if Unicode.isLower c then Unicode.upperOf c else [c]).toArray) = x.cps.map fun c => #[flp c] := by
    apply Array.ext
    · simp
    · intro i h1 h2
      have hi : i < x.cps.size := by simpa using h1
      simp only [Array.getElem_mapIdx, Array.getElem_map]
      have := List.all_eq_true.mp l6_ok x.cps[i] (g _ (by simp))
      simp only [Bool.and_eq_true, decide_eq_true_eq] at this
      obtain ⟨⟨_, t⟩, t2⟩ := this
      have e2 : Unicode.lowerAt x.cps i = Unicode.lowerOf x.cps[i] := by
        unfold Unicode.lowerAt
        rw [Array.getElem?_eq_getElem hi]
        simp [t2]
      rw [e2, t]
  rw [e]
  apply Array.toList_inj.mp
  rw [Array.toList_flatten]
  simp only [Array.toList_map, List.map_map]
  induction x.cps.toList with
  | nil => rfl
  | cons a l ih => simp only [List.map_cons, List.flatten_cons, ih, Function.comp]; rfl
theorem tn_row {x : Str} (h : rowB (.str x) = true) : rowB (.str (tnS x)) = true ∧ tnS (tnS x) = x ∧ (tnS x).length = x.length := by
  obtain ⟨h1, h2⟩ := row_in h
  have hl : (tnS x).length = x.length := by simp [tnS, Str.length]
  have f : ∀ c ∈ L6, flp c ∈ L6 ∧ flp (flp c) = c := fun c hc => by
    have := List.all_eq_true.mp l6_ok c hc
    simp only [Bool.and_eq_true, decide_eq_true_eq] at this
    exact ⟨by simpa using this.1.1.1.2, this.1.1.2⟩
  refine ⟨row_of (by rw [hl]; exact h1) fun c hc => ?_, ?_, hl⟩
  · simp only [tnS, List.mem_map, List.mem_reverse] at hc
    obtain ⟨d, hd, rfl⟩ := hc
    exact (f d (h2 d hd)).1
  · obtain ⟨⟨l⟩⟩ := x
    have h2 : ∀ c ∈ l, c ∈ L6 := h2
    simp only [tnS]
    congr 2
    rw [← List.map_reverse, List.reverse_reverse, List.map_map]
    exact (List.map_congr_left fun c hc => (f c (h2 c hc)).2).trans (List.map_id _)
theorem swap_rev {x : Str} (h : rowB (.str x) = true) : Txt.swapcase ⟨x.cps.toList.reverse.toArray⟩ = tnS x := by
  obtain ⟨h1, h2⟩ := row_in h
  rw [swap_row (x := ⟨x.cps.toList.reverse.toArray⟩) fun c hc => h2 c (by simpa using hc)]
  unfold tnS
  congr 1
  apply Array.toList_inj.mp
  simp
def oneS (c : Nat) : Str := ⟨#[c]⟩
theorem signs_one (x : Str) : signsOf x = (x.cps.toList.map oneS).map .str := by
  unfold signsOf
  rw [List.map_map]
  rfl
theorem ok_signs {x : Str} (h : PyData.strOk x = true) : ∀ d ∈ signsOf x, okD d = true := fun d hd => by
  unfold signsOf at hd
  obtain ⟨c, hc, rfl⟩ := List.mem_map.mp hd
  rw [okD_str]
  exact strOk_iff.mpr fun a ha => by
    have : a = c := by simpa using ha
    rw [this]
    exact strOk_iff.mp h c hc
theorem okD_L {xs : List D} (h : ∀ x ∈ xs, dOk 10 x) : okD (.list xs) = true := okD_iff.mpr (dOk_mono (n := 11) (dOk_list.mpr h) (by omega))
theorem ok_signs10 {x : Str} (h : PyData.strOk x = true) : ∀ d ∈ signsOf x, dOk 10 d := fun d hd => by
  have := ok_signs h d hd
  unfold signsOf at hd
  obtain ⟨c, hc, rfl⟩ := List.mem_map.mp hd
  rw [okD_str] at this
  exact dOk_str.mpr this
theorem adj_iff : ∀ {l : List Nat}, adj l = true ↔ l.Pairwise (· ≤ ·)
  | [] => by simp [adj]
  | [a] => by simp [adj]
  | a :: b :: r => by
    rw [adj, Bool.and_eq_true, decide_eq_true_eq, adj_iff]
    constructor
    · rintro ⟨h1, h2⟩
      refine List.pairwise_cons.mpr ⟨fun c hc => ?_, h2⟩
      rcases List.mem_cons.mp hc with e | e
      · rw [e]; exact h1
      · exact Nat.le_trans h1 ((List.pairwise_cons.mp h2).1 c e)
    · intro h
      obtain ⟨h1, h2⟩ := List.pairwise_cons.mp h
      exact ⟨h1 b (List.mem_cons_self ..), h2⟩
theorem lt_one (a b : Nat) : strLt (oneS a) (oneS b) = decide (a < b) := by
  unfold strLt oneS
  simp [List.cons_lt_cons_iff]
theorem rise_one {l : List Nat} : RiseS (l.map oneS) ↔ l.Pairwise (· ≤ ·) := by
  unfold RiseS
  rw [List.pairwise_map]
  constructor <;> intro h <;> refine h.imp fun {a b} q => ?_
  · have : ¬ (oneS b).cps.toList < (oneS a).cps.toList := q
    simp [oneS, List.cons_lt_cons_iff] at this
    omega
  · simp [oneS, List.cons_lt_cons_iff]
    omega
theorem sort_one {l : List Nat} : sortS (l.map oneS) = l.map oneS ↔ adj l = true := by
  rw [adj_iff, ← rise_one]
  exact ⟨fun h => by rw [← h]; exact sortS_rise _, fun h => riseS_eq (sortS_perm _) (sortS_rise _) h⟩
theorem eqv_strs : ∀ {a b : List Str}, PyData.eqvAll (a.map .str) (b.map .str) = decide (a = b)
  | [], [] => by simp [PyData.eqvAll]
  | [], _ :: _ => by simp [PyData.eqvAll]
  | _ :: _, [] => by simp [PyData.eqvAll]
  | x :: a, y :: b => by
    rw [List.map_cons, List.map_cons, eqvA_cc, eqv_strs]
    have : PyData.eqv (.str x) (.str y) = decide (x = y) := by
      simp only [PyData.eqv]
      exact Bool.beq_eq_decide_eq x y
    rw [this]
    by_cases h : x = y <;> by_cases g : a = b <;> simp [h, g]
theorem sort_mem {l : List Str} {x : Str} (h : x ∈ sortS l) : x ∈ l := (sortS_perm l).mem_iff.mp h
theorem adj_get : ∀ {l : List Nat}, adj l = true ↔ ∀ i, i < l.length - 1 → ∀ a b, l[i]? = some a → l[i + 1]? = some b → a ≤ b
  | [] => by simp [adj]
  | [a] => by simp [adj]
  | a :: b :: r => by
    rw [adj, Bool.and_eq_true, decide_eq_true_eq, adj_get]
    constructor
    · rintro ⟨h1, h2⟩ i hi x y hx hy
      cases i with
      | zero => cases hx; cases hy; exact h1
      | succ i => exact h2 i (by simp at hi ⊢; omega) x y (by simpa using hx) (by simpa using hy)
    · intro h
      exact ⟨h 0 (by simp) a b rfl rfl, fun i hi x y hx hy => h (i + 1) (by simp at hi ⊢; omega) x y (by simpa using hx) (by simpa using hy)⟩
def Bt (n : Nat) : Nat → D → Prop
  | 0, _ => False
  | j + 1, d => match d with
    | .none => True
    | .bool _ => True
    | .int i => i.natAbs < 10 ^ (40 + n)
    | .str s => PyData.strOk s = true ∧ asc s = true ∧ s.length ≤ 60 + n
    | .tuple xs => xs.length ≤ 20 + n ∧ ∀ x ∈ xs, Bt n j x
    | .list xs => xs.length ≤ 20 + n ∧ ∀ x ∈ xs, Bt n j x
    | .dict _ => False
theorem Bt.dOk {n : Nat} : ∀ {j : Nat} {d : D}, Bt n j d → dOk j d
  | 0, _, h => h.elim
  | j + 1, .none, _ => dOk_none
  | j + 1, .bool _, _ => dOk_bool
  | j + 1, .int _, _ => dOk_int
  | j + 1, .str _, h => dOk_str.mpr h.1
  | j + 1, .tuple _, h => dOk_tuple.mpr fun x hx => Bt.dOk (h.2 x hx)
  | j + 1, .list _, h => dOk_list.mpr fun x hx => Bt.dOk (h.2 x hx)
theorem Bt.ok {n j : Nat} {d : D} (h : Bt n j d) (hj : j ≤ 60) : okD d = true := okD_iff.mpr (dOk_mono h.dOk (by omega))
theorem Bt.mono {n n' : Nat} (hn : n ≤ n') : ∀ {j j' : Nat} {d : D}, j ≤ j' → Bt n j d → Bt n' j' d
  | 0, _, _, _, h => h.elim
  | j + 1, 0, _, hj, _ => absurd hj (by omega)
  | j + 1, j' + 1, .none, _, _ => trivial
  | j + 1, j' + 1, .bool _, _, _ => trivial
  | j + 1, j' + 1, .int i, _, h => by
    have h : i.natAbs < 10 ^ (40 + n) := h
    show i.natAbs < 10 ^ (40 + n')
    exact Nat.lt_of_lt_of_le h (Nat.pow_le_pow_right (by omega) (by omega))
  | j + 1, j' + 1, .str s, _, h => ⟨h.1, h.2.1, by have := h.2.2; omega⟩
  | j + 1, j' + 1, .tuple xs, hj, h => ⟨by have := h.1; omega, fun x hx => Bt.mono hn (by omega) (h.2 x hx)⟩
  | j + 1, j' + 1, .list xs, hj, h => ⟨by have := h.1; omega, fun x hx => Bt.mono hn (by omega) (h.2 x hx)⟩
theorem Bt.len {n j : Nat} {d : D} (h : Bt n j d) : (itT d).length ≤ 20 + n := by
  cases j with
  | zero => exact h.elim
  | succ j => cases d <;> first | exact h.1 | simp [itT]
theorem Bt.sub {n j : Nat} {d x : D} (h : Bt n j d) (hx : x ∈ itT d) : Bt n j x := by
  cases j with
  | zero => exact h.elim
  | succ j => cases d <;> first | exact Bt.mono (Nat.le_refl n) (Nat.le_succ j) (h.2 x hx) | simp [itT] at hx
theorem Bt.str {n j : Nat} {s : Str} (h : Bt n j (.str s)) : PyData.strOk s = true ∧ asc s = true ∧ s.length ≤ 60 + n := by
  cases j with
  | zero => exact h.elim
  | succ j => exact h
theorem up_one : (List.range 128).all (fun c => decide ((Unicode.upperOf c).length = 1)) = true := by decide +kernel
theorem placed_one {x : Str} {f : Nat → Nat → List Nat} (h : ∀ i (hi : i < x.cps.size), (f i x.cps[i]).length = 1) : (PySem.placed x f).size = x.cps.size := by
  unfold PySem.placed
  rw [Array.size_flatten]
  have e : (x.cps.mapIdx fun i c => (f i c).toArray).map Array.size = x.cps.map fun _ => 1 := by
    apply Array.ext
    · simp
    · intro i h1 h2
      simp only [Array.getElem_map, Array.getElem_mapIdx, List.size_toArray]
      exact h i (by simpa using h1)
  rw [e]
  have s1 : ∀ l : List Nat, (l.map fun _ => 1).sum = l.length := fun l => by
    induction l with
    | nil => rfl
    | cons a l ih => rw [List.map_cons, List.sum_cons, ih, List.length_cons]; omega
  rw [← Array.sum_toList, Array.toList_map, s1, Array.length_toList]
theorem up_ok {x : Str} (h : asc x = true) : PyData.strOk (Txt.upper x) = true ∧ asc (Txt.upper x) = true ∧ (Txt.upper x).length = x.length := by
  have m : ∀ c ∈ (Txt.upper x).cps.toList, c < 128 := fun c hc => by
    have hc : c ∈ (Txt.upper x).cps := by simpa using hc
    unfold Txt.upper PySem.placed at hc
    obtain ⟨a, ha, hc⟩ := Array.mem_flatten.mp hc
    obtain ⟨i, hi, rfl⟩ := Array.mem_mapIdx.mp ha
    have h1 := asc_iff.mp h x.cps[i] (by simp)
    have h2 := List.all_eq_true.mp up_all x.cps[i] (List.mem_range.mpr h1)
    have h3 := List.all_eq_true.mp h2 c (by simpa using hc)
    simpa using h3
  refine ⟨strOk_iff.mpr fun c hc => by have := m c hc; omega, asc_iff.mpr m, ?_⟩
  show (PySem.placed x _).size = x.cps.size
  refine placed_one fun i hi => ?_
  have h1 := asc_iff.mp h x.cps[i] (by simp)
  have h2 := List.all_eq_true.mp up_one x.cps[i] (List.mem_range.mpr h1)
  simpa using h2
theorem nat_asc (m : Nat) : ∀ c ∈ (Nat.repr m).toList, c.toNat < 128 := fun c hc => by
  rw [Nat.toList_repr] at hc
  have r := Nat.isDigit_of_mem_toDigits (by decide) (by decide) hc
  simp [Char.isDigit] at r
  have := r.2
  have e : c.val.toNat ≤ 57 := this
  show c.val.toNat < 128
  omega
theorem int_asc (i : Int) : ∀ c ∈ (toString i).toList, c.toNat < 128 := fun c hc => by
  cases i with
  | ofNat m => exact nat_asc m c hc
  | negSucc m =>
    have hc : c ∈ ("-" ++ Nat.repr (m + 1)).toList := hc
    rw [String.toList_append] at hc
    rcases List.mem_append.mp hc with q | q
    · have : c = '-' := by simpa using q
      rw [this]; decide
    · exact nat_asc _ c q
theorem str_int {i : Int} {k : Nat} (hk : 0 < k) (h : i.natAbs < 10 ^ k) : PyData.strOk (Str.ofString (toString i)) = true ∧ asc (Str.ofString (toString i)) = true ∧ (Str.ofString (toString i)).length ≤ k + 1 := by
  have e : (Str.ofString (toString i)).cps.toList = (toString i).toList.map Char.toNat := by
    exact PyProof.Rows.signs_ofString _
  have m : ∀ c ∈ (Str.ofString (toString i)).cps.toList, c < 128 := fun c hc => by
    rw [e] at hc
    obtain ⟨d, hd, rfl⟩ := List.mem_map.mp hc
    exact int_asc i d hd
  refine ⟨strOk_iff.mpr fun c hc => by have := m c hc; omega, asc_iff.mpr m, ?_⟩
  have l := int_text_length_le10 hk h
  show (Str.ofString (toString i)).cps.size ≤ k + 1
  rw [← Array.length_toList, e, List.length_map, String.length_toList]
  exact l
theorem app_ok {x y : Str} (h1 : PyData.strOk x = true ∧ asc x = true) (h2 : PyData.strOk y = true ∧ asc y = true) : PyData.strOk (x ++ y) = true ∧ asc (x ++ y) = true := by
  refine ⟨strOk_app h1.1 h2.1, asc_iff.mpr fun c hc => ?_⟩
  rw [cps_app] at hc
  rcases List.mem_append.mp hc with q | q
  · exact asc_iff.mp h1.2 c q
  · exact asc_iff.mp h2.2 c q
theorem sub_ok {x y : Str} (h : PyData.strOk x = true ∧ asc x = true) (g : ∀ c ∈ y.cps.toList, c ∈ x.cps.toList) : PyData.strOk y = true ∧ asc y = true :=
  ⟨strOk_iff.mpr fun c hc => strOk_iff.mp h.1 c (g c hc), asc_iff.mpr fun c hc => asc_iff.mp h.2 c (g c hc)⟩
end Zt
namespace Lw
open PySem PySem.Spec PyProof.Rows L2 Zt
theorem hb0 (kV doc pm : Value) (an : Option Addr) (cdv ct : Value) (us : List Value) (hl : us.length = 3) : bindArgs (PySem.W.fnOf "is_whole" "is_whole" (defArgs (L.st 0)) (defBody (L.st 0)) (defScope (L.st 0)) .none kV doc pm an cdv ct) ⟨us, []⟩ = pure ((L.pss.getD 0 []).zip us) := match us, hl with
  | [_, _, _], _ => rfl
theorem hb1 (kV doc pm : Value) (an : Option Addr) (cdv ct : Value) (us : List Value) (hl : us.length = 2) : bindArgs (PySem.W.fnOf "is_word" "is_word" (defArgs (L.st 1)) (defBody (L.st 1)) (defScope (L.st 1)) .none kV doc pm an cdv ct) ⟨us, []⟩ = pure ((L.pss.getD 1 []).zip us) := match us, hl with
  | [_, _], _ => rfl
theorem hb2 (kV doc pm : Value) (an : Option Addr) (cdv ct : Value) (us : List Value) (hl : us.length = 1) : bindArgs (PySem.W.fnOf "is_kind" "is_kind" (defArgs (L.st 2)) (defBody (L.st 2)) (defScope (L.st 2)) .none kV doc pm an cdv ct) ⟨us, []⟩ = pure ((L.pss.getD 2 []).zip us) := match us, hl with
  | [_], _ => rfl
theorem hb3 (kV doc pm : Value) (an : Option Addr) (cdv ct : Value) (us : List Value) (hl : us.length = 1) : bindArgs (PySem.W.fnOf "is_siding" "is_siding" (defArgs (L.st 3)) (defBody (L.st 3)) (defScope (L.st 3)) .none kV doc pm an cdv ct) ⟨us, []⟩ = pure ((L.pss.getD 3 []).zip us) := match us, hl with
  | [_], _ => rfl
theorem hb4 (kV doc pm : Value) (an : Option Addr) (cdv ct : Value) (us : List Value) (hl : us.length = 1) : bindArgs (PySem.W.fnOf "is_many" "is_many" (defArgs (L.st 4)) (defBody (L.st 4)) (defScope (L.st 4)) .none kV doc pm an cdv ct) ⟨us, []⟩ = pure ((L.pss.getD 4 []).zip us) := match us, hl with
  | [_], _ => rfl
theorem hb5 (kV doc pm : Value) (an : Option Addr) (cdv ct : Value) (us : List Value) (hl : us.length = 1) : bindArgs (PySem.W.fnOf "is_row" "is_row" (defArgs (L.st 5)) (defBody (L.st 5)) (defScope (L.st 5)) .none kV doc pm an cdv ct) ⟨us, []⟩ = pure ((L.pss.getD 5 []).zip us) := match us, hl with
  | [_], _ => rfl
theorem hb6 (kV doc pm : Value) (an : Option Addr) (cdv ct : Value) (us : List Value) (hl : us.length = 1) : bindArgs (PySem.W.fnOf "is_stand" "is_stand" (defArgs (L.st 6)) (defBody (L.st 6)) (defScope (L.st 6)) .none kV doc pm an cdv ct) ⟨us, []⟩ = pure ((L.pss.getD 6 []).zip us) := match us, hl with
  | [_], _ => rfl
theorem hb7 (kV doc pm : Value) (an : Option Addr) (cdv ct : Value) (us : List Value) (hl : us.length = 1) : bindArgs (PySem.W.fnOf "is_sum" "is_sum" (defArgs (L.st 7)) (defBody (L.st 7)) (defScope (L.st 7)) .none kV doc pm an cdv ct) ⟨us, []⟩ = pure ((L.pss.getD 7 []).zip us) := match us, hl with
  | [_], _ => rfl
theorem hb8 (kV doc pm : Value) (an : Option Addr) (cdv ct : Value) (us : List Value) (hl : us.length = 1) : bindArgs (PySem.W.fnOf "is_fact" "is_fact" (defArgs (L.st 8)) (defBody (L.st 8)) (defScope (L.st 8)) .none kV doc pm an cdv ct) ⟨us, []⟩ = pure ((L.pss.getD 8 []).zip us) := match us, hl with
  | [_], _ => rfl
theorem hb9 (kV doc pm : Value) (an : Option Addr) (cdv ct : Value) (us : List Value) (hl : us.length = 1) : bindArgs (PySem.W.fnOf "is_facts" "is_facts" (defArgs (L.st 9)) (defBody (L.st 9)) (defScope (L.st 9)) .none kV doc pm an cdv ct) ⟨us, []⟩ = pure ((L.pss.getD 9 []).zip us) := match us, hl with
  | [_], _ => rfl
theorem hb10 (kV doc pm : Value) (an : Option Addr) (cdv ct : Value) (us : List Value) (hl : us.length = 1) : bindArgs (PySem.W.fnOf "is_condition" "is_condition" (defArgs (L.st 10)) (defBody (L.st 10)) (defScope (L.st 10)) .none kV doc pm an cdv ct) ⟨us, []⟩ = pure ((L.pss.getD 10 []).zip us) := match us, hl with
  | [_], _ => rfl
theorem hb11 (kV doc pm : Value) (an : Option Addr) (cdv ct : Value) (us : List Value) (hl : us.length = 1) : bindArgs (PySem.W.fnOf "is_plain" "is_plain" (defArgs (L.st 11)) (defBody (L.st 11)) (defScope (L.st 11)) .none kV doc pm an cdv ct) ⟨us, []⟩ = pure ((L.pss.getD 11 []).zip us) := match us, hl with
  | [_], _ => rfl
theorem hb12 (kV doc pm : Value) (an : Option Addr) (cdv ct : Value) (us : List Value) (hl : us.length = 1) : bindArgs (PySem.W.fnOf "is_body" "is_body" (defArgs (L.st 12)) (defBody (L.st 12)) (defScope (L.st 12)) .none kV doc pm an cdv ct) ⟨us, []⟩ = pure ((L.pss.getD 12 []).zip us) := match us, hl with
  | [_], _ => rfl
theorem hb13 (kV doc pm : Value) (an : Option Addr) (cdv ct : Value) (us : List Value) (hl : us.length = 1) : bindArgs (PySem.W.fnOf "is_step" "is_step" (defArgs (L.st 13)) (defBody (L.st 13)) (defScope (L.st 13)) .none kV doc pm an cdv ct) ⟨us, []⟩ = pure ((L.pss.getD 13 []).zip us) := match us, hl with
  | [_], _ => rfl
theorem hb14 (kV doc pm : Value) (an : Option Addr) (cdv ct : Value) (us : List Value) (hl : us.length = 1) : bindArgs (PySem.W.fnOf "size_of" "size_of" (defArgs (L.st 14)) (defBody (L.st 14)) (defScope (L.st 14)) .none kV doc pm an cdv ct) ⟨us, []⟩ = pure ((L.pss.getD 14 []).zip us) := match us, hl with
  | [_], _ => rfl
theorem hb15 (kV doc pm : Value) (an : Option Addr) (cdv ct : Value) (us : List Value) (hl : us.length = 1) : bindArgs (PySem.W.fnOf "steps_in" "steps_in" (defArgs (L.st 15)) (defBody (L.st 15)) (defScope (L.st 15)) .none kV doc pm an cdv ct) ⟨us, []⟩ = pure ((L.pss.getD 15 []).zip us) := match us, hl with
  | [_], _ => rfl
theorem hb16 (kV doc pm : Value) (an : Option Addr) (cdv ct : Value) (us : List Value) (hl : us.length = 1) : bindArgs (PySem.W.fnOf "is_script" "is_script" (defArgs (L.st 16)) (defBody (L.st 16)) (defScope (L.st 16)) .none kV doc pm an cdv ct) ⟨us, []⟩ = pure ((L.pss.getD 16 []).zip us) := match us, hl with
  | [_], _ => rfl
theorem hb17 (kV doc pm : Value) (an : Option Addr) (cdv ct : Value) (us : List Value) (hl : us.length = 1) : bindArgs (PySem.W.fnOf "is_lengths" "is_lengths" (defArgs (L.st 17)) (defBody (L.st 17)) (defScope (L.st 17)) .none kV doc pm an cdv ct) ⟨us, []⟩ = pure ((L.pss.getD 17 []).zip us) := match us, hl with
  | [_], _ => rfl
theorem hb18 (kV doc pm : Value) (an : Option Addr) (cdv ct : Value) (us : List Value) (hl : us.length = 1) : bindArgs (PySem.W.fnOf "need_row" "need_row" (defArgs (L.st 18)) (defBody (L.st 18)) (defScope (L.st 18)) .none kV doc pm an cdv ct) ⟨us, []⟩ = pure ((L.pss.getD 18 []).zip us) := match us, hl with
  | [_], _ => rfl
theorem hb19 (kV doc pm : Value) (an : Option Addr) (cdv ct : Value) (us : List Value) (hl : us.length = 1) : bindArgs (PySem.W.fnOf "need_script" "need_script" (defArgs (L.st 19)) (defBody (L.st 19)) (defScope (L.st 19)) .none kV doc pm an cdv ct) ⟨us, []⟩ = pure ((L.pss.getD 19 []).zip us) := match us, hl with
  | [_], _ => rfl
theorem hb20 (kV doc pm : Value) (an : Option Addr) (cdv ct : Value) (us : List Value) (hl : us.length = 1) : bindArgs (PySem.W.fnOf "turned_row" "turned_row" (defArgs (L.st 20)) (defBody (L.st 20)) (defScope (L.st 20)) .none kV doc pm an cdv ct) ⟨us, []⟩ = pure ((L.pss.getD 20 []).zip us) := match us, hl with
  | [_], _ => rfl
theorem hb21 (kV doc pm : Value) (an : Option Addr) (cdv ct : Value) (us : List Value) (hl : us.length = 1) : bindArgs (PySem.W.fnOf "turned" "turned" (defArgs (L.st 21)) (defBody (L.st 21)) (defScope (L.st 21)) .none kV doc pm an cdv ct) ⟨us, []⟩ = pure ((L.pss.getD 21 []).zip us) := match us, hl with
  | [_], _ => rfl
theorem hb22 (kV doc pm : Value) (an : Option Addr) (cdv ct : Value) (us : List Value) (hl : us.length = 1) : bindArgs (PySem.W.fnOf "count_steps" "count_steps" (defArgs (L.st 22)) (defBody (L.st 22)) (defScope (L.st 22)) .none kV doc pm an cdv ct) ⟨us, []⟩ = pure ((L.pss.getD 22 []).zip us) := match us, hl with
  | [_], _ => rfl
theorem hb23 (kV doc pm : Value) (an : Option Addr) (cdv ct : Value) (us : List Value) (hl : us.length = 2) : bindArgs (PySem.W.fnOf "_law_vat" "_law_vat" (defArgs (L.st 23)) (defBody (L.st 23)) (defScope (L.st 23)) .none kV doc pm an cdv ct) ⟨us, []⟩ = pure ((L.pss.getD 23 []).zip us) := match us, hl with
  | [_, _], _ => rfl
theorem hb24 (kV doc pm : Value) (an : Option Addr) (cdv ct : Value) (us : List Value) (hl : us.length = 2) : bindArgs (PySem.W.fnOf "_law_under" "_law_under" (defArgs (L.st 24)) (defBody (L.st 24)) (defScope (L.st 24)) .none kV doc pm an cdv ct) ⟨us, []⟩ = pure ((L.pss.getD 24 []).zip us) := match us, hl with
  | [_, _], _ => rfl
theorem hb25 (kV doc pm : Value) (an : Option Addr) (cdv ct : Value) (us : List Value) (hl : us.length = 2) : bindArgs (PySem.W.fnOf "_law_some" "_law_some" (defArgs (L.st 25)) (defBody (L.st 25)) (defScope (L.st 25)) .none kV doc pm an cdv ct) ⟨us, []⟩ = pure ((L.pss.getD 25 []).zip us) := match us, hl with
  | [_, _], _ => rfl
theorem hb26 (kV doc pm : Value) (an : Option Addr) (cdv ct : Value) (us : List Value) (hl : us.length = 3) : bindArgs (PySem.W.fnOf "_law_is_whole" "_law_is_whole" (defArgs (L.st 26)) (defBody (L.st 26)) (defScope (L.st 26)) .none kV doc pm an cdv ct) ⟨us, []⟩ = pure ((L.pss.getD 26 []).zip us) := match us, hl with
  | [_, _, _], _ => rfl
theorem hb27 (kV doc pm : Value) (an : Option Addr) (cdv ct : Value) (us : List Value) (hl : us.length = 2) : bindArgs (PySem.W.fnOf "_law_truly" "_law_truly" (defArgs (L.st 27)) (defBody (L.st 27)) (defScope (L.st 27)) .none kV doc pm an cdv ct) ⟨us, []⟩ = pure ((L.pss.getD 27 []).zip us) := match us, hl with
  | [_, _], _ => rfl
theorem hb28 (kV doc pm : Value) (an : Option Addr) (cdv ct : Value) (us : List Value) (hl : us.length = 1) : bindArgs (PySem.W.fnOf "_law_is_wagons" "_law_is_wagons" (defArgs (L.st 28)) (defBody (L.st 28)) (defScope (L.st 28)) .none kV doc pm an cdv ct) ⟨us, []⟩ = pure ((L.pss.getD 28 []).zip us) := match us, hl with
  | [_], _ => rfl
theorem hb29 (kV doc pm : Value) (an : Option Addr) (cdv ct : Value) (us : List Value) (hl : us.length = 1) : bindArgs (PySem.W.fnOf "_law_is_place" "_law_is_place" (defArgs (L.st 29)) (defBody (L.st 29)) (defScope (L.st 29)) .none kV doc pm an cdv ct) ⟨us, []⟩ = pure ((L.pss.getD 29 []).zip us) := match us, hl with
  | [_], _ => rfl
theorem hb30 (kV doc pm : Value) (an : Option Addr) (cdv ct : Value) (us : List Value) (hl : us.length = 1) : bindArgs (PySem.W.fnOf "_law_is_sum" "_law_is_sum" (defArgs (L.st 30)) (defBody (L.st 30)) (defScope (L.st 30)) .none kV doc pm an cdv ct) ⟨us, []⟩ = pure ((L.pss.getD 30 []).zip us) := match us, hl with
  | [_], _ => rfl
theorem hb31 (kV doc pm : Value) (an : Option Addr) (cdv ct : Value) (us : List Value) (hl : us.length = 1) : bindArgs (PySem.W.fnOf "_law_is_fact" "_law_is_fact" (defArgs (L.st 31)) (defBody (L.st 31)) (defScope (L.st 31)) .none kV doc pm an cdv ct) ⟨us, []⟩ = pure ((L.pss.getD 31 []).zip us) := match us, hl with
  | [_], _ => rfl
theorem hb32 (kV doc pm : Value) (an : Option Addr) (cdv ct : Value) (us : List Value) (hl : us.length = 1) : bindArgs (PySem.W.fnOf "_law_are_facts" "_law_are_facts" (defArgs (L.st 32)) (defBody (L.st 32)) (defScope (L.st 32)) .none kV doc pm an cdv ct) ⟨us, []⟩ = pure ((L.pss.getD 32 []).zip us) := match us, hl with
  | [_], _ => rfl
theorem hb33 (kV doc pm : Value) (an : Option Addr) (cdv ct : Value) (us : List Value) (hl : us.length = 2) : bindArgs (PySem.W.fnOf "_law_is_end" "_law_is_end" (defArgs (L.st 33)) (defBody (L.st 33)) (defScope (L.st 33)) .none kV doc pm an cdv ct) ⟨us, []⟩ = pure ((L.pss.getD 33 []).zip us) := match us, hl with
  | [_, _], _ => rfl
theorem hb34 (kV doc pm : Value) (an : Option Addr) (cdv ct : Value) (us : List Value) (hl : us.length = 1) : bindArgs (PySem.W.fnOf "_law_is_condition" "_law_is_condition" (defArgs (L.st 34)) (defBody (L.st 34)) (defScope (L.st 34)) .none kV doc pm an cdv ct) ⟨us, []⟩ = pure ((L.pss.getD 34 []).zip us) := match us, hl with
  | [_], _ => rfl
theorem hb35 (kV doc pm : Value) (an : Option Addr) (cdv ct : Value) (us : List Value) (hl : us.length = 1) : bindArgs (PySem.W.fnOf "_law_is_simple" "_law_is_simple" (defArgs (L.st 35)) (defBody (L.st 35)) (defScope (L.st 35)) .none kV doc pm an cdv ct) ⟨us, []⟩ = pure ((L.pss.getD 35 []).zip us) := match us, hl with
  | [_], _ => rfl
theorem hb36 (kV doc pm : Value) (an : Option Addr) (cdv ct : Value) (us : List Value) (hl : us.length = 1) : bindArgs (PySem.W.fnOf "_law_is_step" "_law_is_step" (defArgs (L.st 36)) (defBody (L.st 36)) (defScope (L.st 36)) .none kV doc pm an cdv ct) ⟨us, []⟩ = pure ((L.pss.getD 36 []).zip us) := match us, hl with
  | [_], _ => rfl
theorem hb37 (kV doc pm : Value) (an : Option Addr) (cdv ct : Value) (us : List Value) (hl : us.length = 1) : bindArgs (PySem.W.fnOf "_law_size" "_law_size" (defArgs (L.st 37)) (defBody (L.st 37)) (defScope (L.st 37)) .none kV doc pm an cdv ct) ⟨us, []⟩ = pure ((L.pss.getD 37 []).zip us) := match us, hl with
  | [_], _ => rfl
theorem hb38 (kV doc pm : Value) (an : Option Addr) (cdv ct : Value) (us : List Value) (hl : us.length = 1) : bindArgs (PySem.W.fnOf "_law_is_script" "_law_is_script" (defArgs (L.st 38)) (defBody (L.st 38)) (defScope (L.st 38)) .none kV doc pm an cdv ct) ⟨us, []⟩ = pure ((L.pss.getD 38 []).zip us) := match us, hl with
  | [_], _ => rfl
theorem hb39 (kV doc pm : Value) (an : Option Addr) (cdv ct : Value) (us : List Value) (hl : us.length = 1) : bindArgs (PySem.W.fnOf "_law_are_sizes" "_law_are_sizes" (defArgs (L.st 39)) (defBody (L.st 39)) (defScope (L.st 39)) .none kV doc pm an cdv ct) ⟨us, []⟩ = pure ((L.pss.getD 39 []).zip us) := match us, hl with
  | [_], _ => rfl
theorem hb40 (kV doc pm : Value) (an : Option Addr) (cdv ct : Value) (us : List Value) (hl : us.length = 2) : bindArgs (PySem.W.fnOf "_law_wagons" "_law_wagons" (defArgs (L.st 40)) (defBody (L.st 40)) (defScope (L.st 40)) .none kV doc pm an cdv ct) ⟨us, []⟩ = pure ((L.pss.getD 40 []).zip us) := match us, hl with
  | [_, _], _ => rfl
theorem hb41 (kV doc pm : Value) (an : Option Addr) (cdv ct : Value) (us : List Value) (hl : us.length = 1) : bindArgs (PySem.W.fnOf "_law_place" "_law_place" (defArgs (L.st 41)) (defBody (L.st 41)) (defScope (L.st 41)) .none kV doc pm an cdv ct) ⟨us, []⟩ = pure ((L.pss.getD 41 []).zip us) := match us, hl with
  | [_], _ => rfl
theorem hb42 (kV doc pm : Value) (an : Option Addr) (cdv ct : Value) (us : List Value) (hl : us.length = 1) : bindArgs (PySem.W.fnOf "_law_sum" "_law_sum" (defArgs (L.st 42)) (defBody (L.st 42)) (defScope (L.st 42)) .none kV doc pm an cdv ct) ⟨us, []⟩ = pure ((L.pss.getD 42 []).zip us) := match us, hl with
  | [_], _ => rfl
theorem hb43 (kV doc pm : Value) (an : Option Addr) (cdv ct : Value) (us : List Value) (hl : us.length = 1) : bindArgs (PySem.W.fnOf "_law_fact" "_law_fact" (defArgs (L.st 43)) (defBody (L.st 43)) (defScope (L.st 43)) .none kV doc pm an cdv ct) ⟨us, []⟩ = pure ((L.pss.getD 43 []).zip us) := match us, hl with
  | [_], _ => rfl
theorem hb44 (kV doc pm : Value) (an : Option Addr) (cdv ct : Value) (us : List Value) (hl : us.length = 2) : bindArgs (PySem.W.fnOf "_law_facts" "_law_facts" (defArgs (L.st 44)) (defBody (L.st 44)) (defScope (L.st 44)) .none kV doc pm an cdv ct) ⟨us, []⟩ = pure ((L.pss.getD 44 []).zip us) := match us, hl with
  | [_, _], _ => rfl
theorem hb45 (kV doc pm : Value) (an : Option Addr) (cdv ct : Value) (us : List Value) (hl : us.length = 1) : bindArgs (PySem.W.fnOf "_law_condition" "_law_condition" (defArgs (L.st 45)) (defBody (L.st 45)) (defScope (L.st 45)) .none kV doc pm an cdv ct) ⟨us, []⟩ = pure ((L.pss.getD 45 []).zip us) := match us, hl with
  | [_], _ => rfl
theorem hb46 (kV doc pm : Value) (an : Option Addr) (cdv ct : Value) (us : List Value) (hl : us.length = 1) : bindArgs (PySem.W.fnOf "_law_simple" "_law_simple" (defArgs (L.st 46)) (defBody (L.st 46)) (defScope (L.st 46)) .none kV doc pm an cdv ct) ⟨us, []⟩ = pure ((L.pss.getD 46 []).zip us) := match us, hl with
  | [_], _ => rfl
theorem hb47 (kV doc pm : Value) (an : Option Addr) (cdv ct : Value) (us : List Value) (hl : us.length = 1) : bindArgs (PySem.W.fnOf "_law_body" "_law_body" (defArgs (L.st 47)) (defBody (L.st 47)) (defScope (L.st 47)) .none kV doc pm an cdv ct) ⟨us, []⟩ = pure ((L.pss.getD 47 []).zip us) := match us, hl with
  | [_], _ => rfl
theorem hb48 (kV doc pm : Value) (an : Option Addr) (cdv ct : Value) (us : List Value) (hl : us.length = 1) : bindArgs (PySem.W.fnOf "_law_step" "_law_step" (defArgs (L.st 48)) (defBody (L.st 48)) (defScope (L.st 48)) .none kV doc pm an cdv ct) ⟨us, []⟩ = pure ((L.pss.getD 48 []).zip us) := match us, hl with
  | [_], _ => rfl
theorem hb49 (kV doc pm : Value) (an : Option Addr) (cdv ct : Value) (us : List Value) (hl : us.length = 2) : bindArgs (PySem.W.fnOf "_law_script" "_law_script" (defArgs (L.st 49)) (defBody (L.st 49)) (defScope (L.st 49)) .none kV doc pm an cdv ct) ⟨us, []⟩ = pure ((L.pss.getD 49 []).zip us) := match us, hl with
  | [_, _], _ => rfl
theorem hb50 (kV doc pm : Value) (an : Option Addr) (cdv ct : Value) (us : List Value) (hl : us.length = 1) : bindArgs (PySem.W.fnOf "_law_counts" "_law_counts" (defArgs (L.st 50)) (defBody (L.st 50)) (defScope (L.st 50)) .none kV doc pm an cdv ct) ⟨us, []⟩ = pure ((L.pss.getD 50 []).zip us) := match us, hl with
  | [_], _ => rfl
theorem hb51 (kV doc pm : Value) (an : Option Addr) (cdv ct : Value) (us : List Value) (hl : us.length = 2) : bindArgs (PySem.W.fnOf "_law_worth" "_law_worth" (defArgs (L.st 51)) (defBody (L.st 51)) (defScope (L.st 51)) .none kV doc pm an cdv ct) ⟨us, []⟩ = pure ((L.pss.getD 51 []).zip us) := match us, hl with
  | [_, _], _ => rfl
theorem hb52 (kV doc pm : Value) (an : Option Addr) (cdv ct : Value) (us : List Value) (hl : us.length = 2) : bindArgs (PySem.W.fnOf "_law_sizes" "_law_sizes" (defArgs (L.st 52)) (defBody (L.st 52)) (defScope (L.st 52)) .none kV doc pm an cdv ct) ⟨us, []⟩ = pure ((L.pss.getD 52 []).zip us) := match us, hl with
  | [_, _], _ => rfl
theorem hb53 (kV doc pm : Value) (an : Option Addr) (cdv ct : Value) (us : List Value) (hl : us.length = 1) : bindArgs (PySem.W.fnOf "_law_names" "_law_names" (defArgs (L.st 53)) (defBody (L.st 53)) (defScope (L.st 53)) .none kV doc pm an cdv ct) ⟨us, []⟩ = pure ((L.pss.getD 53 []).zip us) := match us, hl with
  | [_], _ => rfl
theorem hb54 (kV doc pm : Value) (an : Option Addr) (cdv ct : Value) (us : List Value) (hl : us.length = 1) : bindArgs (PySem.W.fnOf "_law_error" "_law_error" (defArgs (L.st 54)) (defBody (L.st 54)) (defScope (L.st 54)) .none kV doc pm an cdv ct) ⟨us, []⟩ = pure ((L.pss.getD 54 []).zip us) := match us, hl with
  | [_], _ => rfl
theorem hb55 (kV doc pm : Value) (an : Option Addr) (cdv ct : Value) (us : List Value) (hl : us.length = 2) : bindArgs (PySem.W.fnOf "_law_odd" "_law_odd" (defArgs (L.st 55)) (defBody (L.st 55)) (defScope (L.st 55)) .none kV doc pm an cdv ct) ⟨us, []⟩ = pure ((L.pss.getD 55 []).zip us) := match us, hl with
  | [_, _], _ => rfl
theorem hb56 (kV doc pm : Value) (an : Option Addr) (cdv ct : Value) (us : List Value) (hl : us.length = 2) : bindArgs (PySem.W.fnOf "_law_bent" "_law_bent" (defArgs (L.st 56)) (defBody (L.st 56)) (defScope (L.st 56)) .none kV doc pm an cdv ct) ⟨us, []⟩ = pure ((L.pss.getD 56 []).zip us) := match us, hl with
  | [_, _], _ => rfl
theorem hb57 (kV doc pm : Value) (an : Option Addr) (cdv ct : Value) (us : List Value) (hl : us.length = 1) : bindArgs (PySem.W.fnOf "_law_judged" "_law_judged" (defArgs (L.st 57)) (defBody (L.st 57)) (defScope (L.st 57)) .none kV doc pm an cdv ct) ⟨us, []⟩ = pure ((L.pss.getD 57 []).zip us) := match us, hl with
  | [_], _ => rfl
theorem hb58 (kV doc pm : Value) (an : Option Addr) (cdv ct : Value) (us : List Value) (hl : us.length = 1) : bindArgs (PySem.W.fnOf "law" "law" (defArgs (L.st 58)) (defBody (L.st 58)) (defScope (L.st 58)) .none kV doc pm an cdv ct) ⟨us, []⟩ = pure ((L.pss.getD 58 []).zip us) := match us, hl with
  | [_], _ => rfl
theorem hbs : ∀ (i : Nat) (y : Str), L.nms[i]? = some y → ∀ (kV doc pm : Value) (an : Option Addr) (cdv ct : Value) (us : List Value), us.length = (L.pss.getD i []).length → bindArgs (PySem.W.fnOf y y (defArgs (L.st i)) (defBody (L.st i)) (defScope (L.st i)) .none kV doc pm an cdv ct) ⟨us, []⟩ = pure ((L.pss.getD i []).zip us)
  | 0, _, h => by cases h; exact hb0
  | 1, _, h => by cases h; exact hb1
  | 2, _, h => by cases h; exact hb2
  | 3, _, h => by cases h; exact hb3
  | 4, _, h => by cases h; exact hb4
  | 5, _, h => by cases h; exact hb5
  | 6, _, h => by cases h; exact hb6
  | 7, _, h => by cases h; exact hb7
  | 8, _, h => by cases h; exact hb8
  | 9, _, h => by cases h; exact hb9
  | 10, _, h => by cases h; exact hb10
  | 11, _, h => by cases h; exact hb11
  | 12, _, h => by cases h; exact hb12
  | 13, _, h => by cases h; exact hb13
  | 14, _, h => by cases h; exact hb14
  | 15, _, h => by cases h; exact hb15
  | 16, _, h => by cases h; exact hb16
  | 17, _, h => by cases h; exact hb17
  | 18, _, h => by cases h; exact hb18
  | 19, _, h => by cases h; exact hb19
  | 20, _, h => by cases h; exact hb20
  | 21, _, h => by cases h; exact hb21
  | 22, _, h => by cases h; exact hb22
  | 23, _, h => by cases h; exact hb23
  | 24, _, h => by cases h; exact hb24
  | 25, _, h => by cases h; exact hb25
  | 26, _, h => by cases h; exact hb26
  | 27, _, h => by cases h; exact hb27
  | 28, _, h => by cases h; exact hb28
  | 29, _, h => by cases h; exact hb29
  | 30, _, h => by cases h; exact hb30
  | 31, _, h => by cases h; exact hb31
  | 32, _, h => by cases h; exact hb32
  | 33, _, h => by cases h; exact hb33
  | 34, _, h => by cases h; exact hb34
  | 35, _, h => by cases h; exact hb35
  | 36, _, h => by cases h; exact hb36
  | 37, _, h => by cases h; exact hb37
  | 38, _, h => by cases h; exact hb38
  | 39, _, h => by cases h; exact hb39
  | 40, _, h => by cases h; exact hb40
  | 41, _, h => by cases h; exact hb41
  | 42, _, h => by cases h; exact hb42
  | 43, _, h => by cases h; exact hb43
  | 44, _, h => by cases h; exact hb44
  | 45, _, h => by cases h; exact hb45
  | 46, _, h => by cases h; exact hb46
  | 47, _, h => by cases h; exact hb47
  | 48, _, h => by cases h; exact hb48
  | 49, _, h => by cases h; exact hb49
  | 50, _, h => by cases h; exact hb50
  | 51, _, h => by cases h; exact hb51
  | 52, _, h => by cases h; exact hb52
  | 53, _, h => by cases h; exact hb53
  | 54, _, h => by cases h; exact hb54
  | 55, _, h => by cases h; exact hb55
  | 56, _, h => by cases h; exact hb56
  | 57, _, h => by cases h; exact hb57
  | 58, _, h => by cases h; exact hb58
  | i + 59, _, h => nomatch h
theorem hlams : ∀ (i : Nat) (y : Str), L.nms[i]? = some y → L.lams.getD i false = true → (y, none) ∈ tf
  | 0, _, _, h => nomatch h
  | 1, _, _, h => nomatch h
  | 2, _, _, h => nomatch h
  | 3, _, _, h => nomatch h
  | 4, _, _, h => nomatch h
  | 5, _, _, h => nomatch h
  | 6, _, _, h => nomatch h
  | 7, _, _, h => nomatch h
  | 8, _, _, h => nomatch h
  | 9, _, _, h => nomatch h
  | 10, _, _, h => nomatch h
  | 11, _, _, h => nomatch h
  | 12, _, _, h => nomatch h
  | 13, _, _, h => nomatch h
  | 14, _, _, h => nomatch h
  | 15, _, _, h => nomatch h
  | 16, _, _, h => nomatch h
  | 17, _, _, h => nomatch h
  | 18, _, _, h => nomatch h
  | 19, _, _, h => nomatch h
  | 20, _, _, h => nomatch h
  | 21, _, _, h => nomatch h
  | 22, _, _, h => nomatch h
  | 23, _, _, h => nomatch h
  | 24, _, _, h => nomatch h
  | 25, _, _, h => nomatch h
  | 26, _, _, h => nomatch h
  | 27, _, _, h => nomatch h
  | 28, _, _, h => nomatch h
  | 29, _, _, h => nomatch h
  | 30, _, _, h => nomatch h
  | 31, _, _, h => nomatch h
  | 32, _, _, h => nomatch h
  | 33, _, _, h => nomatch h
  | 34, _, _, h => nomatch h
  | 35, _, _, h => nomatch h
  | 36, _, _, h => nomatch h
  | 37, _, _, h => nomatch h
  | 38, _, _, h => nomatch h
  | 39, _, _, h => nomatch h
  | 40, _, _, h => nomatch h
  | 41, _, _, h => nomatch h
  | 42, _, _, h => nomatch h
  | 43, _, _, h => nomatch h
  | 44, _, _, h => nomatch h
  | 45, _, _, h => nomatch h
  | 46, _, _, h => nomatch h
  | 47, _, _, h => nomatch h
  | 48, _, _, h => nomatch h
  | 49, _, _, h => nomatch h
  | 50, _, _, h => nomatch h
  | 51, _, _, h => nomatch h
  | 52, _, _, h => nomatch h
  | 53, _, _, h => nomatch h
  | 54, _, _, h => nomatch h
  | 55, _, _, h => nomatch h
  | 56, _, _, h => nomatch h
  | 57, _, h, _ => by cases h; decide
  | 58, _, _, h => nomatch h
  | i + 59, _, h, _ => nomatch h
theorem hbo0 : ∀ (i : Nat) (c : Str) (o : OwnD), (L.cls.zip L.own)[i]? = some (c, some o) → ∀ (kV doc pm : Value) (an : Option Addr) (cdv ct : Value) (us : List Value), us.length = 2 → bindArgs (PySem.W.fnOf "__init__" (c ++ ".__init__") (defArgs (initOf o.st)) (defBody (initOf o.st)) (defScope (initOf o.st)) .none kV doc pm an cdv ct) ⟨us, []⟩ = pure ((["self", o.x] : List Str).zip us)
  | 0, _, _, h => nomatch h
  | 1, _, _, h => nomatch h
  | 2, _, _, h => nomatch h
  | 3, _, _, h => nomatch h
  | 4, _, _, h => nomatch h
  | 5, _, _, h => nomatch h
  | 6, _, _, h => nomatch h
  | 7, _, _, h => nomatch h
  | 8, _, _, h => nomatch h
  | 9, _, _, h => nomatch h
  | 10, _, _, h => nomatch h
  | 11, _, _, h => nomatch h
  | 12, _, _, h => nomatch h
  | 13, _, _, h => nomatch h
  | 14, _, _, h => by
    cases h
    exact fun kV doc pm an cdv ct us hl => match us, hl with
      | [_, _], _ => rfl
  | 15, _, _, h => by
    cases h
    exact fun kV doc pm an cdv ct us hl => match us, hl with
      | [_, _], _ => rfl
  | i + 16, _, _, h => nomatch h
theorem hbo (c : Str) (o : OwnD) (h : (c, some o) ∈ L.cls.zip L.own) (kV doc pm : Value) (an : Option Addr) (cdv ct : Value) (us : List Value) (hl : us.length = 2) : bindArgs (PySem.W.fnOf "__init__" (c ++ ".__init__") (defArgs (initOf o.st)) (defBody (initOf o.st)) (defScope (initOf o.st)) .none kV doc pm an cdv ct) ⟨us, []⟩ = pure ((["self", o.x] : List Str).zip us) := by
  obtain ⟨i, hi⟩ := List.mem_iff_getElem?.mp h
  exact hbo0 i c o hi kV doc pm an cdv ct us hl
end Lw
namespace Lw
open PySem Zt
def LV (k : Nat) : Cfg := lev L.T (fun c d => L.sub (cix L.cls c) d) L.gv L.wf k false
def LH (k : Nat) : Cfg := lev L.T (fun c d => L.sub (cix L.cls c) d) L.gv L.wf k true
theorem LV_hot (k : Nat) : (LV k).hot = false := lev_hot k false
theorem LH_hot (k : Nat) : (LH k).hot = true := lev_hot k true
theorem LV_gv (k : Nat) : (LV k).gv = gv := lev_gv k false
theorem LV_heat (k : Nat) : (LV k).heat = LH k := lev_heat k false
theorem LV_sub (k : Nat) : (LV k).sub = fun c d => L.sub (cix L.cls c) d := lev_sub k false
theorem LV_wf (k : Nat) : (LV k).wf = L.wf := lev_wf k false
theorem s_is_whole (k : Nat) (a0 a1 a2 : Z) (M : Mem) : (LV (k + 1)).fn false 0 [a0, a1, a2] M = finB (evSs (LV k) d_is_whole.body [.z a0, .z a1, .z a2] M) := rfl
theorem s_is_word (k : Nat) (a0 a1 : Z) (M : Mem) : (LV (k + 1)).fn false 1 [a0, a1] M = finB (evSs (LV k) d_is_word.body [.z a0, .z a1] M) := rfl
theorem s_is_kind (k : Nat) (a0 : Z) (M : Mem) : (LV (k + 1)).fn false 2 [a0] M = finB (evSs (LV k) d_is_kind.body [.z a0] M) := rfl
theorem s_is_siding (k : Nat) (a0 : Z) (M : Mem) : (LV (k + 1)).fn false 3 [a0] M = finB (evSs (LV k) d_is_siding.body [.z a0] M) := rfl
theorem s_is_many (k : Nat) (a0 : Z) (M : Mem) : (LV (k + 1)).fn false 4 [a0] M = finB (evSs (LV k) d_is_many.body [.z a0] M) := rfl
theorem s_is_row (k : Nat) (a0 : Z) (M : Mem) : (LV (k + 1)).fn false 5 [a0] M = finB (evSs (LV k) d_is_row.body [.z a0, .no] M) := rfl
theorem s_is_stand (k : Nat) (a0 : Z) (M : Mem) : (LV (k + 1)).fn false 6 [a0] M = finB (evSs (LV k) d_is_stand.body [.z a0, .no] M) := rfl
theorem s_is_sum (k : Nat) (a0 : Z) (M : Mem) : (LV (k + 1)).fn false 7 [a0] M = finB (evSs (LV k) d_is_sum.body [.z a0, .no, .no] M) := rfl
theorem s_is_fact (k : Nat) (a0 : Z) (M : Mem) : (LV (k + 1)).fn false 8 [a0] M = finB (evSs (LV k) d_is_fact.body [.z a0] M) := rfl
theorem s_is_facts (k : Nat) (a0 : Z) (M : Mem) : (LV (k + 1)).fn false 9 [a0] M = finB (evSs (LV k) d_is_facts.body [.z a0, .no] M) := rfl
theorem s_is_condition (k : Nat) (a0 : Z) (M : Mem) : (LV (k + 1)).fn false 10 [a0] M = finB (evSs (LV k) d_is_condition.body [.z a0] M) := rfl
theorem s_is_plain (k : Nat) (a0 : Z) (M : Mem) : (LV (k + 1)).fn false 11 [a0] M = finB (evSs (LV k) d_is_plain.body [.z a0] M) := rfl
theorem s_is_body (k : Nat) (a0 : Z) (M : Mem) : (LV (k + 1)).fn false 12 [a0] M = finB (evSs (LV k) d_is_body.body [.z a0, .no] M) := rfl
theorem s_is_step (k : Nat) (a0 : Z) (M : Mem) : (LV (k + 1)).fn false 13 [a0] M = finB (evSs (LV k) d_is_step.body [.z a0] M) := rfl
theorem s_size_of (k : Nat) (a0 : Z) (M : Mem) : (LV (k + 1)).fn false 14 [a0] M = finB (evSs (LV k) d_size_of.body [.z a0] M) := rfl
theorem s_steps_in (k : Nat) (a0 : Z) (M : Mem) : (LV (k + 1)).fn false 15 [a0] M = finB (evSs (LV k) d_steps_in.body [.z a0, .no] M) := rfl
theorem s_is_script (k : Nat) (a0 : Z) (M : Mem) : (LV (k + 1)).fn false 16 [a0] M = finB (evSs (LV k) d_is_script.body [.z a0, .no] M) := rfl
theorem s_is_lengths (k : Nat) (a0 : Z) (M : Mem) : (LV (k + 1)).fn false 17 [a0] M = finB (evSs (LV k) d_is_lengths.body [.z a0, .no] M) := rfl
theorem s_need_row (k : Nat) (a0 : Z) (M : Mem) : (LV (k + 1)).fn false 18 [a0] M = finB (evSs (LV k) d_need_row.body [.z a0] M) := rfl
theorem s_need_script (k : Nat) (a0 : Z) (M : Mem) : (LV (k + 1)).fn false 19 [a0] M = finB (evSs (LV k) d_need_script.body [.z a0] M) := rfl
theorem s_turned_row (k : Nat) (a0 : Z) (M : Mem) : (LV (k + 1)).fn false 20 [a0] M = finB (evSs (LV k) d_turned_row.body [.z a0] M) := rfl
theorem s_turned (k : Nat) (a0 : Z) (M : Mem) : (LV (k + 1)).fn false 21 [a0] M = finB (evSs (LV k) d_turned.body [.z a0] M) := rfl
theorem s_count_steps (k : Nat) (a0 : Z) (M : Mem) : (LV (k + 1)).fn false 22 [a0] M = finB (evSs (LV k) d_count_steps.body [.z a0] M) := rfl
theorem s_law_vat (k : Nat) (ns : List Int) (a1 : Z) (M : Mem) : (LV (k + 1)).fnW false 23 (.scr ns) [a1] M = finB (evSs (LV k) d_law_vat.body [.scr ns, .z a1, .no] M) := rfl
theorem s_law_under (k : Nat) (a0 a1 : Z) (M : Mem) : (LV (k + 1)).fn false 24 [a0, a1] M = finB (evSs (LV k) d_law_under.body [.z a0, .z a1, .no, .no] M) := rfl
theorem s_law_some (k : Nat) (a0 a1 : Z) (M : Mem) : (LV (k + 1)).fn false 25 [a0, a1] M = finB (evSs (LV k) d_law_some.body [.z a0, .z a1] M) := rfl
theorem s_law_is_whole (k : Nat) (a0 a1 a2 : Z) (M : Mem) : (LV (k + 1)).fn false 26 [a0, a1, a2] M = finB (evSs (LV k) d_law_is_whole.body [.z a0, .z a1, .z a2] M) := rfl
theorem s_law_truly (k : Nat) (a0 a1 : Z) (M : Mem) : (LV (k + 1)).fn false 27 [a0, a1] M = finB (evSs (LV k) d_law_truly.body [.z a0, .z a1] M) := rfl
theorem s_law_is_wagons (k : Nat) (a0 : Z) (M : Mem) : (LV (k + 1)).fn false 28 [a0] M = finB (evSs (LV k) d_law_is_wagons.body [.z a0, .no] M) := rfl
theorem s_law_is_place (k : Nat) (a0 : Z) (M : Mem) : (LV (k + 1)).fn false 29 [a0] M = finB (evSs (LV k) d_law_is_place.body [.z a0, .no] M) := rfl
theorem s_law_is_sum (k : Nat) (a0 : Z) (M : Mem) : (LV (k + 1)).fn false 30 [a0] M = finB (evSs (LV k) d_law_is_sum.body [.z a0, .no] M) := rfl
theorem s_law_is_fact (k : Nat) (a0 : Z) (M : Mem) : (LV (k + 1)).fn false 31 [a0] M = finB (evSs (LV k) d_law_is_fact.body [.z a0] M) := rfl
theorem s_law_are_facts (k : Nat) (a0 : Z) (M : Mem) : (LV (k + 1)).fn false 32 [a0] M = finB (evSs (LV k) d_law_are_facts.body [.z a0, .no] M) := rfl
theorem s_law_is_end (k : Nat) (a0 a1 : Z) (M : Mem) : (LV (k + 1)).fn false 33 [a0, a1] M = finB (evSs (LV k) d_law_is_end.body [.z a0, .z a1] M) := rfl
theorem s_law_is_condition (k : Nat) (a0 : Z) (M : Mem) : (LV (k + 1)).fn false 34 [a0] M = finB (evSs (LV k) d_law_is_condition.body [.z a0] M) := rfl
theorem s_law_is_simple (k : Nat) (a0 : Z) (M : Mem) : (LV (k + 1)).fn false 35 [a0] M = finB (evSs (LV k) d_law_is_simple.body [.z a0] M) := rfl
theorem s_law_is_step (k : Nat) (a0 : Z) (M : Mem) : (LV (k + 1)).fn false 36 [a0] M = finB (evSs (LV k) d_law_is_step.body [.z a0, .no, .no] M) := rfl
theorem s_law_size (k : Nat) (a0 : Z) (M : Mem) : (LV (k + 1)).fn false 37 [a0] M = finB (evSs (LV k) d_law_size.body [.z a0, .no, .no, .no] M) := rfl
theorem s_law_is_script (k : Nat) (a0 : Z) (M : Mem) : (LV (k + 1)).fn false 38 [a0] M = finB (evSs (LV k) d_law_is_script.body [.z a0, .no] M) := rfl
theorem s_law_are_sizes (k : Nat) (a0 : Z) (M : Mem) : (LV (k + 1)).fn false 39 [a0] M = finB (evSs (LV k) d_law_are_sizes.body [.z a0, .no] M) := rfl
theorem s_law_wagons (k : Nat) (a0 a1 : Z) (M : Mem) : (LV (k + 1)).fn false 40 [a0, a1] M = finB (evSs (LV k) d_law_wagons.body [.z a0, .z a1, .no, .no] M) := rfl
theorem s_law_place (k : Nat) (a0 : Z) (M : Mem) : (LV (k + 1)).fn false 41 [a0] M = finB (evSs (LV k) d_law_place.body [.z a0] M) := rfl
theorem s_law_sum (k : Nat) (a0 : Z) (M : Mem) : (LV (k + 1)).fn false 42 [a0] M = finB (evSs (LV k) d_law_sum.body [.z a0, .no, .no] M) := rfl
theorem s_law_fact (k : Nat) (a0 : Z) (M : Mem) : (LV (k + 1)).fn false 43 [a0] M = finB (evSs (LV k) d_law_fact.body [.z a0] M) := rfl
theorem s_law_facts (k : Nat) (a0 a1 : Z) (M : Mem) : (LV (k + 1)).fn false 44 [a0, a1] M = finB (evSs (LV k) d_law_facts.body [.z a0, .z a1, .no] M) := rfl
theorem s_law_condition (k : Nat) (a0 : Z) (M : Mem) : (LV (k + 1)).fn false 45 [a0] M = finB (evSs (LV k) d_law_condition.body [.z a0, .no] M) := rfl
theorem s_law_simple (k : Nat) (a0 : Z) (M : Mem) : (LV (k + 1)).fn false 46 [a0] M = finB (evSs (LV k) d_law_simple.body [.z a0, .no] M) := rfl
theorem s_law_body (k : Nat) (a0 : Z) (M : Mem) : (LV (k + 1)).fn false 47 [a0] M = finB (evSs (LV k) d_law_body.body [.z a0, .no] M) := rfl
theorem s_law_step (k : Nat) (a0 : Z) (M : Mem) : (LV (k + 1)).fn false 48 [a0] M = finB (evSs (LV k) d_law_step.body [.z a0, .no] M) := rfl
theorem s_law_script (k : Nat) (a0 a1 : Z) (M : Mem) : (LV (k + 1)).fn false 49 [a0, a1] M = finB (evSs (LV k) d_law_script.body [.z a0, .z a1, .no, .no] M) := rfl
theorem s_law_counts (k : Nat) (a0 : Z) (M : Mem) : (LV (k + 1)).fn false 50 [a0] M = finB (evSs (LV k) d_law_counts.body [.z a0, .no] M) := rfl
theorem s_law_worth (k : Nat) (a0 a1 : Z) (M : Mem) : (LV (k + 1)).fn false 51 [a0, a1] M = finB (evSs (LV k) d_law_worth.body [.z a0, .z a1, .no, .no] M) := rfl
theorem s_law_sizes (k : Nat) (a0 a1 : Z) (M : Mem) : (LV (k + 1)).fn false 52 [a0, a1] M = finB (evSs (LV k) d_law_sizes.body [.z a0, .z a1, .no, .no, .no, .no, .no] M) := rfl
theorem s_law_names (k : Nat) (e : Exn) (M : Mem) : (LH (k + 1)).fnW true 53 (.exc e) [] M = finB (evSs (LH k) d_law_names.body [.exc e, .no, .no, .no, .no, .no] M) := rfl
theorem s_law_error (k : Nat) (ps : List Nat) (b : E) (cap : List (Option Z)) (M : Mem) : (LV (k + 1)).fnL 54 [] ps b cap M = finB (evSs (LV k) d_law_error.body [.clo ps b cap, .no] M) := rfl
theorem s_law_odd (k : Nat) (a0 a1 : Z) (M : Mem) : (LV (k + 1)).fn false 55 [a0, a1] M = finB (evSs (LV k) d_law_odd.body [.z a0, .z a1, .no, .no, .no] M) := rfl
theorem s_law_bent (k : Nat) (a0 a1 : Z) (M : Mem) : (LV (k + 1)).fn false 56 [a0, a1] M = finB (evSs (LV k) d_law_bent.body [.z a0, .z a1, .no, .no, .no] M) := rfl
theorem s_law_judged (k : Nat) (a0 : Z) (M : Mem) : (LV (k + 1)).fn false 57 [a0] M = finB (evSs (LV k) d_law_judged.body [.z a0] M) := rfl
theorem s_law (k : Nat) (ns : List Int)  (M : Mem) : (LV (k + 1)).fnW false 58 (.scr ns) [] M = finB (evSs (LV k) d_law.body [.scr ns, .no, .no, .no, .no, .no, .no, .no, .no, .no, .no, .no, .no] M) := rfl
theorem s_clo (k : Nat) (body : E) (cap : List (Option Z)) (M : Mem) : (LV (k + 1)).clo [] body cap [] M = evE (LV k) body (ofCap cap) M := rfl
end Lw
namespace Lw
open PySem Zt
theorem f_is_whole (k : Nat) (v : D) (lo hi : Int) (M : Mem) (h : okD v = true) : (LV (k + 1)).fn false i_is_whole [.d v, .d (.int lo), .d (.int hi)] M = .ok (.d (.bool (wholeB v lo hi))) M := by
  rw [s_is_whole]
  cases v
  case int i => by_cases h1 : lo ≤ i <;> simp [evE, evEs, evAnd, evOr, evT, evTA, evTO, evC, evO, evI, evS, evSs, zb_ok, zb_ex, zb_bad, zb_of, zb_no, zt_ok, zt_ex, zt_bad, zc_ok, zc_bad, zo_nx, zo_rt, zo_ex, zo_bad, zf_nx, zf_rt, zf_ex, gz_z, gz_s, slz_z, b_nm, setZ, asB_b, opz_dd, cpz_dd, dsOf_nil, dsOf_cons, biz_d, subz_dd, slz_dd, truthZ_d, boolZ_eq, isz, tyKnown, tyOk, bop, cop, truth, itemD, slcD, bid, LV_hot, LV_gv, gv, Option.map_some, Option.bind_some, eqv_ls, eqv_sl, eqv_ii, eqv_snone, eqv_nones, eqv_sbool, eqv_bools, eqv_sint, eqv_ints, eqv_stuple, eqv_tuples, eqv_slist, eqv_lists, eqv_tt, eqv_LL, eqvA_nn, eqvA_nc, eqvA_cn, eqvA_xn, eqvA_cc, okD_int, okD_bool, okD_lit, okD_nilT, okD_nilL, ofString_inj, atI_0, atI_1, atI_2, atI_3, flatD, inD, zi_b, zi_o, zi_a, okD_T, d_is_whole, wholeB, h1]
  case dict kvs => simp [okD, SeqAt.shaped, PyData.canLay0] at h
  all_goals simp [evE, evEs, evAnd, evOr, evT, evTA, evTO, evC, evO, evI, evS, evSs, zb_ok, zb_ex, zb_bad, zb_of, zb_no, zt_ok, zt_ex, zt_bad, zc_ok, zc_bad, zo_nx, zo_rt, zo_ex, zo_bad, zf_nx, zf_rt, zf_ex, gz_z, gz_s, slz_z, b_nm, setZ, asB_b, opz_dd, cpz_dd, dsOf_nil, dsOf_cons, biz_d, subz_dd, slz_dd, truthZ_d, boolZ_eq, isz, tyKnown, tyOk, bop, cop, truth, itemD, slcD, bid, LV_hot, LV_gv, gv, Option.map_some, Option.bind_some, eqv_ls, eqv_sl, eqv_ii, eqv_snone, eqv_nones, eqv_sbool, eqv_bools, eqv_sint, eqv_ints, eqv_stuple, eqv_tuples, eqv_slist, eqv_lists, eqv_tt, eqv_LL, eqvA_nn, eqvA_nc, eqvA_cn, eqvA_xn, eqvA_cc, okD_int, okD_bool, okD_lit, okD_nilT, okD_nilL, ofString_inj, atI_0, atI_1, atI_2, atI_3, flatD, inD, zi_b, zi_o, zi_a, okD_T, d_is_whole, wholeB]
theorem f_is_word (k : Nat) (v : D) (ws : List D) (M : Mem) (h : okD v = true) (hw : ws.all flatD = true) : (LV (k + 1)).fn false i_is_word [.d v, .d (.tuple ws)] M = .ok (.d (.bool (wordB v ws))) M := by
  rw [s_is_word]
  cases v <;> simp [evE, evEs, evAnd, evOr, evT, evTA, evTO, evC, evO, evI, evS, evSs, zb_ok, zb_ex, zb_bad, zb_of, zb_no, zt_ok, zt_ex, zt_bad, zc_ok, zc_bad, zo_nx, zo_rt, zo_ex, zo_bad, zf_nx, zf_rt, zf_ex, gz_z, gz_s, slz_z, b_nm, setZ, asB_b, opz_dd, cpz_dd, dsOf_nil, dsOf_cons, biz_d, subz_dd, slz_dd, truthZ_d, boolZ_eq, isz, tyKnown, tyOk, bop, cop, truth, itemD, slcD, bid, LV_hot, LV_gv, gv, Option.map_some, Option.bind_some, eqv_ls, eqv_sl, eqv_ii, eqv_snone, eqv_nones, eqv_sbool, eqv_bools, eqv_sint, eqv_ints, eqv_stuple, eqv_tuples, eqv_slist, eqv_lists, eqv_tt, eqv_LL, eqvA_nn, eqvA_nc, eqvA_cn, eqvA_xn, eqvA_cc, okD_int, okD_bool, okD_lit, okD_nilT, okD_nilL, ofString_inj, atI_0, atI_1, atI_2, atI_3, flatD, inD, zi_b, zi_o, zi_a, okD_T, d_is_word, wordB, hw]
  · simp [okD, SeqAt.shaped, PyData.canLay0] at h
theorem f_is_kind (k : Nat) (v : D) (M : Mem) (h : okD v = true) : (LV (k + 2)).fn false i_is_kind [.d v] M = .ok (.d (.bool (kindB v))) M := by
  rw [s_is_kind]
  simp [evE, evEs, evAnd, evOr, evT, evTA, evTO, evC, evO, evI, evS, evSs, zb_ok, zb_ex, zb_bad, zb_of, zb_no, zt_ok, zt_ex, zt_bad, zc_ok, zc_bad, zo_nx, zo_rt, zo_ex, zo_bad, zf_nx, zf_rt, zf_ex, gz_z, gz_s, slz_z, b_nm, setZ, asB_b, opz_dd, cpz_dd, dsOf_nil, dsOf_cons, biz_d, subz_dd, slz_dd, truthZ_d, boolZ_eq, isz, tyKnown, tyOk, bop, cop, truth, itemD, slcD, bid, LV_hot, LV_gv, gv, Option.map_some, Option.bind_some, eqv_ls, eqv_sl, eqv_ii, eqv_snone, eqv_nones, eqv_sbool, eqv_bools, eqv_sint, eqv_ints, eqv_stuple, eqv_tuples, eqv_slist, eqv_lists, eqv_tt, eqv_LL, eqvA_nn, eqvA_nc, eqvA_cn, eqvA_xn, eqvA_cc, okD_int, okD_bool, okD_lit, okD_nilT, okD_nilL, ofString_inj, atI_0, atI_1, atI_2, atI_3, flatD, inD, zi_b, zi_o, zi_a, okD_T, d_is_kind, f_is_word _ _ _ _ h, flatD, kindB]
theorem f_is_siding (k : Nat) (v : D) (M : Mem) (h : okD v = true) : (LV (k + 2)).fn false i_is_siding [.d v] M = .ok (.d (.bool (sidB v))) M := by
  rw [s_is_siding]
  simp [evE, evEs, evAnd, evOr, evT, evTA, evTO, evC, evO, evI, evS, evSs, zb_ok, zb_ex, zb_bad, zb_of, zb_no, zt_ok, zt_ex, zt_bad, zc_ok, zc_bad, zo_nx, zo_rt, zo_ex, zo_bad, zf_nx, zf_rt, zf_ex, gz_z, gz_s, slz_z, b_nm, setZ, asB_b, opz_dd, cpz_dd, dsOf_nil, dsOf_cons, biz_d, subz_dd, slz_dd, truthZ_d, boolZ_eq, isz, tyKnown, tyOk, bop, cop, truth, itemD, slcD, bid, LV_hot, LV_gv, gv, Option.map_some, Option.bind_some, eqv_ls, eqv_sl, eqv_ii, eqv_snone, eqv_nones, eqv_sbool, eqv_bools, eqv_sint, eqv_ints, eqv_stuple, eqv_tuples, eqv_slist, eqv_lists, eqv_tt, eqv_LL, eqvA_nn, eqvA_nc, eqvA_cn, eqvA_xn, eqvA_cc, okD_int, okD_bool, okD_lit, okD_nilT, okD_nilL, ofString_inj, atI_0, atI_1, atI_2, atI_3, flatD, inD, zi_b, zi_o, zi_a, okD_T, d_is_siding, f_is_word _ _ _ _ h, flatD, sidB]
theorem f_is_many (k : Nat) (v : D) (M : Mem) (h : okD v = true) : (LV (k + 2)).fn false i_is_many [.d v] M = .ok (.d (.bool (manyB v))) M := by
  rw [s_is_many]
  simp [evE, evEs, evAnd, evOr, evT, evTA, evTO, evC, evO, evI, evS, evSs, zb_ok, zb_ex, zb_bad, zb_of, zb_no, zt_ok, zt_ex, zt_bad, zc_ok, zc_bad, zo_nx, zo_rt, zo_ex, zo_bad, zf_nx, zf_rt, zf_ex, gz_z, gz_s, slz_z, b_nm, setZ, asB_b, opz_dd, cpz_dd, dsOf_nil, dsOf_cons, biz_d, subz_dd, slz_dd, truthZ_d, boolZ_eq, isz, tyKnown, tyOk, bop, cop, truth, itemD, slcD, bid, LV_hot, LV_gv, gv, Option.map_some, Option.bind_some, eqv_ls, eqv_sl, eqv_ii, eqv_snone, eqv_nones, eqv_sbool, eqv_bools, eqv_sint, eqv_ints, eqv_stuple, eqv_tuples, eqv_slist, eqv_lists, eqv_tt, eqv_LL, eqvA_nn, eqvA_nc, eqvA_cn, eqvA_xn, eqvA_cc, okD_int, okD_bool, okD_lit, okD_nilT, okD_nilL, ofString_inj, atI_0, atI_1, atI_2, atI_3, flatD, inD, zi_b, zi_o, zi_a, okD_T, d_is_many, f_is_whole _ _ _ _ _ h, flatD, manyB]
theorem f_is_plain (k : Nat) (v : D) (M : Mem) (h : okD v = true) : (LV (k + 3)).fn false i_is_plain [.d v] M = .ok (.d (.bool (plainB v))) M := by
  rw [s_is_plain]
  cases v
  case tuple xs =>
    cases xs with
    | nil => simp [evE, evEs, evAnd, evOr, evT, evTA, evTO, evC, evO, evI, evS, evSs, zb_ok, zb_ex, zb_bad, zb_of, zb_no, zt_ok, zt_ex, zt_bad, zc_ok, zc_bad, zo_nx, zo_rt, zo_ex, zo_bad, zf_nx, zf_rt, zf_ex, gz_z, gz_s, slz_z, b_nm, setZ, asB_b, opz_dd, cpz_dd, dsOf_nil, dsOf_cons, biz_d, subz_dd, slz_dd, truthZ_d, boolZ_eq, isz, tyKnown, tyOk, bop, cop, truth, itemD, slcD, bid, LV_hot, LV_gv, gv, Option.map_some, Option.bind_some, eqv_ls, eqv_sl, eqv_ii, eqv_snone, eqv_nones, eqv_sbool, eqv_bools, eqv_sint, eqv_ints, eqv_stuple, eqv_tuples, eqv_slist, eqv_lists, eqv_tt, eqv_LL, eqvA_nn, eqvA_nc, eqvA_cn, eqvA_xn, eqvA_cc, okD_int, okD_bool, okD_lit, okD_nilT, okD_nilL, ofString_inj, atI_0, atI_1, atI_2, atI_3, flatD, inD, zi_b, zi_o, zi_a, okD_T, d_is_plain, plainB, h]
    | cons x r =>
      cases x
      case str s =>
        have hs : okD (.str s) = true := okD_flat h (List.mem_cons_self ..)
        have h1 : s = "pull" ∨ s = "push" ∨ s = "fill" ∨ (s ≠ "pull" ∧ s ≠ "push" ∧ s ≠ "fill") := by
          by_cases a : s = "pull" <;> by_cases b : s = "push" <;> by_cases c : s = "fill" <;> simp [a, b, c]
        match r, h with
        | [], h => rcases h1 with rfl | rfl | rfl | ⟨h1, h2, h3⟩ <;> simp [evE, evEs, evAnd, evOr, evT, evTA, evTO, evC, evO, evI, evS, evSs, zb_ok, zb_ex, zb_bad, zb_of, zb_no, zt_ok, zt_ex, zt_bad, zc_ok, zc_bad, zo_nx, zo_rt, zo_ex, zo_bad, zf_nx, zf_rt, zf_ex, gz_z, gz_s, slz_z, b_nm, setZ, asB_b, opz_dd, cpz_dd, dsOf_nil, dsOf_cons, biz_d, subz_dd, slz_dd, truthZ_d, boolZ_eq, isz, tyKnown, tyOk, bop, cop, truth, itemD, slcD, bid, LV_hot, LV_gv, gv, Option.map_some, Option.bind_some, eqv_ls, eqv_sl, eqv_ii, eqv_snone, eqv_nones, eqv_sbool, eqv_bools, eqv_sint, eqv_ints, eqv_stuple, eqv_tuples, eqv_slist, eqv_lists, eqv_tt, eqv_LL, eqvA_nn, eqvA_nc, eqvA_cn, eqvA_xn, eqvA_cc, okD_int, okD_bool, okD_lit, okD_nilT, okD_nilL, ofString_inj, atI_0, atI_1, atI_2, atI_3, flatD, inD, zi_b, zi_o, zi_a, okD_T, d_is_plain, plainB, h, hs, *]
        | [a], h =>
          have ha : okD a = true := okD_flat h (by simp)
          rcases h1 with rfl | rfl | rfl | ⟨h1, h2, h3⟩ <;> simp [evE, evEs, evAnd, evOr, evT, evTA, evTO, evC, evO, evI, evS, evSs, zb_ok, zb_ex, zb_bad, zb_of, zb_no, zt_ok, zt_ex, zt_bad, zc_ok, zc_bad, zo_nx, zo_rt, zo_ex, zo_bad, zf_nx, zf_rt, zf_ex, gz_z, gz_s, slz_z, b_nm, setZ, asB_b, opz_dd, cpz_dd, dsOf_nil, dsOf_cons, biz_d, subz_dd, slz_dd, truthZ_d, boolZ_eq, isz, tyKnown, tyOk, bop, cop, truth, itemD, slcD, bid, LV_hot, LV_gv, gv, Option.map_some, Option.bind_some, eqv_ls, eqv_sl, eqv_ii, eqv_snone, eqv_nones, eqv_sbool, eqv_bools, eqv_sint, eqv_ints, eqv_stuple, eqv_tuples, eqv_slist, eqv_lists, eqv_tt, eqv_LL, eqvA_nn, eqvA_nc, eqvA_cn, eqvA_xn, eqvA_cc, okD_int, okD_bool, okD_lit, okD_nilT, okD_nilL, ofString_inj, atI_0, atI_1, atI_2, atI_3, flatD, inD, zi_b, zi_o, zi_a, okD_T, d_is_plain, plainB, h, hs, f_is_siding _ _ _ ha, *]
        | [a, b], h =>
          have ha : okD a = true := okD_flat h (by simp)
          have hb : okD b = true := okD_flat h (by simp)
          rcases h1 with rfl | rfl | rfl | ⟨h1, h2, h3⟩ <;> simp [evE, evEs, evAnd, evOr, evT, evTA, evTO, evC, evO, evI, evS, evSs, zb_ok, zb_ex, zb_bad, zb_of, zb_no, zt_ok, zt_ex, zt_bad, zc_ok, zc_bad, zo_nx, zo_rt, zo_ex, zo_bad, zf_nx, zf_rt, zf_ex, gz_z, gz_s, slz_z, b_nm, setZ, asB_b, opz_dd, cpz_dd, dsOf_nil, dsOf_cons, biz_d, subz_dd, slz_dd, truthZ_d, boolZ_eq, isz, tyKnown, tyOk, bop, cop, truth, itemD, slcD, bid, LV_hot, LV_gv, gv, Option.map_some, Option.bind_some, eqv_ls, eqv_sl, eqv_ii, eqv_snone, eqv_nones, eqv_sbool, eqv_bools, eqv_sint, eqv_ints, eqv_stuple, eqv_tuples, eqv_slist, eqv_lists, eqv_tt, eqv_LL, eqvA_nn, eqvA_nc, eqvA_cn, eqvA_xn, eqvA_cc, okD_int, okD_bool, okD_lit, okD_nilT, okD_nilL, ofString_inj, atI_0, atI_1, atI_2, atI_3, flatD, inD, zi_b, zi_o, zi_a, okD_T, d_is_plain, plainB, h, hs, f_is_siding _ _ _ ha, f_is_many _ _ _ hb, *]
        | a :: b :: c :: r, h =>
          have e3 : ¬ ((r.length : Int) + 1 + 1 + 1 + 1 = 3) := by omega
          have e2 : ¬ ((r.length : Int) + 1 + 1 + 1 + 1 = 2) := by omega
          rcases h1 with rfl | rfl | rfl | ⟨h1, h2, h3⟩ <;> simp [evE, evEs, evAnd, evOr, evT, evTA, evTO, evC, evO, evI, evS, evSs, zb_ok, zb_ex, zb_bad, zb_of, zb_no, zt_ok, zt_ex, zt_bad, zc_ok, zc_bad, zo_nx, zo_rt, zo_ex, zo_bad, zf_nx, zf_rt, zf_ex, gz_z, gz_s, slz_z, b_nm, setZ, asB_b, opz_dd, cpz_dd, dsOf_nil, dsOf_cons, biz_d, subz_dd, slz_dd, truthZ_d, boolZ_eq, isz, tyKnown, tyOk, bop, cop, truth, itemD, slcD, bid, LV_hot, LV_gv, gv, Option.map_some, Option.bind_some, eqv_ls, eqv_sl, eqv_ii, eqv_snone, eqv_nones, eqv_sbool, eqv_bools, eqv_sint, eqv_ints, eqv_stuple, eqv_tuples, eqv_slist, eqv_lists, eqv_tt, eqv_LL, eqvA_nn, eqvA_nc, eqvA_cn, eqvA_xn, eqvA_cc, okD_int, okD_bool, okD_lit, okD_nilT, okD_nilL, ofString_inj, atI_0, atI_1, atI_2, atI_3, flatD, inD, zi_b, zi_o, zi_a, okD_T, d_is_plain, plainB, h, hs, *]
      case dict kvs => exact (nodict (okD_flat h (List.mem_cons_self ..))).elim
      all_goals simp [evE, evEs, evAnd, evOr, evT, evTA, evTO, evC, evO, evI, evS, evSs, zb_ok, zb_ex, zb_bad, zb_of, zb_no, zt_ok, zt_ex, zt_bad, zc_ok, zc_bad, zo_nx, zo_rt, zo_ex, zo_bad, zf_nx, zf_rt, zf_ex, gz_z, gz_s, slz_z, b_nm, setZ, asB_b, opz_dd, cpz_dd, dsOf_nil, dsOf_cons, biz_d, subz_dd, slz_dd, truthZ_d, boolZ_eq, isz, tyKnown, tyOk, bop, cop, truth, itemD, slcD, bid, LV_hot, LV_gv, gv, Option.map_some, Option.bind_some, eqv_ls, eqv_sl, eqv_ii, eqv_snone, eqv_nones, eqv_sbool, eqv_bools, eqv_sint, eqv_ints, eqv_stuple, eqv_tuples, eqv_slist, eqv_lists, eqv_tt, eqv_LL, eqvA_nn, eqvA_nc, eqvA_cn, eqvA_xn, eqvA_cc, okD_int, okD_bool, okD_lit, okD_nilT, okD_nilL, ofString_inj, atI_0, atI_1, atI_2, atI_3, flatD, inD, zi_b, zi_o, zi_a, okD_T, d_is_plain, plainB, h]
  case dict kvs => exact (nodict h).elim
  all_goals simp [evE, evEs, evAnd, evOr, evT, evTA, evTO, evC, evO, evI, evS, evSs, zb_ok, zb_ex, zb_bad, zb_of, zb_no, zt_ok, zt_ex, zt_bad, zc_ok, zc_bad, zo_nx, zo_rt, zo_ex, zo_bad, zf_nx, zf_rt, zf_ex, gz_z, gz_s, slz_z, b_nm, setZ, asB_b, opz_dd, cpz_dd, dsOf_nil, dsOf_cons, biz_d, subz_dd, slz_dd, truthZ_d, boolZ_eq, isz, tyKnown, tyOk, bop, cop, truth, itemD, slcD, bid, LV_hot, LV_gv, gv, Option.map_some, Option.bind_some, eqv_ls, eqv_sl, eqv_ii, eqv_snone, eqv_nones, eqv_sbool, eqv_bools, eqv_sint, eqv_ints, eqv_stuple, eqv_tuples, eqv_slist, eqv_lists, eqv_tt, eqv_LL, eqvA_nn, eqvA_nc, eqvA_cn, eqvA_xn, eqvA_cc, okD_int, okD_bool, okD_lit, okD_nilT, okD_nilL, ofString_inj, atI_0, atI_1, atI_2, atI_3, flatD, inD, zi_b, zi_o, zi_a, okD_T, d_is_plain, plainB]
theorem f_is_condition (k : Nat) (v : D) (M : Mem) (h : okD v = true) : (LV (k + 3)).fn false i_is_condition [.d v] M = .ok (.d (.bool (condB v))) M := by
  rw [s_is_condition]
  cases v
  case tuple xs =>
    cases xs with
    | nil => simp [evE, evEs, evAnd, evOr, evT, evTA, evTO, evC, evO, evI, evS, evSs, zb_ok, zb_ex, zb_bad, zb_of, zb_no, zt_ok, zt_ex, zt_bad, zc_ok, zc_bad, zo_nx, zo_rt, zo_ex, zo_bad, zf_nx, zf_rt, zf_ex, gz_z, gz_s, slz_z, b_nm, setZ, asB_b, opz_dd, cpz_dd, dsOf_nil, dsOf_cons, biz_d, subz_dd, slz_dd, truthZ_d, boolZ_eq, isz, tyKnown, tyOk, bop, cop, truth, itemD, slcD, bid, LV_hot, LV_gv, gv, Option.map_some, Option.bind_some, eqv_ls, eqv_sl, eqv_ii, eqv_snone, eqv_nones, eqv_sbool, eqv_bools, eqv_sint, eqv_ints, eqv_stuple, eqv_tuples, eqv_slist, eqv_lists, eqv_tt, eqv_LL, eqvA_nn, eqvA_nc, eqvA_cn, eqvA_xn, eqvA_cc, okD_int, okD_bool, okD_lit, okD_nilT, okD_nilL, ofString_inj, atI_0, atI_1, atI_2, atI_3, flatD, inD, zi_b, zi_o, zi_a, okD_T, d_is_condition, condB, h]
    | cons x r =>
      cases x
      case str s =>
        have hs : okD (.str s) = true := okD_flat h (List.mem_cons_self ..)
        have h1 : s = "fits" ∨ s = "head" ∨ s = "some" ∨ s = "rake" ∨ s = "tail" ∨ (s ≠ "fits" ∧ s ≠ "head" ∧ s ≠ "some" ∧ s ≠ "rake" ∧ s ≠ "tail") := by
          by_cases a : s = "fits" <;> by_cases b : s = "head" <;> by_cases c : s = "some" <;> by_cases d : s = "rake" <;> by_cases e : s = "tail" <;> simp [a, b, c, d, e]
        match r, h with
        | [], h => rcases h1 with rfl | rfl | rfl | rfl | rfl | ⟨h1, h2, h3, h4, h5⟩ <;> simp [evE, evEs, evAnd, evOr, evT, evTA, evTO, evC, evO, evI, evS, evSs, zb_ok, zb_ex, zb_bad, zb_of, zb_no, zt_ok, zt_ex, zt_bad, zc_ok, zc_bad, zo_nx, zo_rt, zo_ex, zo_bad, zf_nx, zf_rt, zf_ex, gz_z, gz_s, slz_z, b_nm, setZ, asB_b, opz_dd, cpz_dd, dsOf_nil, dsOf_cons, biz_d, subz_dd, slz_dd, truthZ_d, boolZ_eq, isz, tyKnown, tyOk, bop, cop, truth, itemD, slcD, bid, LV_hot, LV_gv, gv, Option.map_some, Option.bind_some, eqv_ls, eqv_sl, eqv_ii, eqv_snone, eqv_nones, eqv_sbool, eqv_bools, eqv_sint, eqv_ints, eqv_stuple, eqv_tuples, eqv_slist, eqv_lists, eqv_tt, eqv_LL, eqvA_nn, eqvA_nc, eqvA_cn, eqvA_xn, eqvA_cc, okD_int, okD_bool, okD_lit, okD_nilT, okD_nilL, ofString_inj, atI_0, atI_1, atI_2, atI_3, flatD, inD, zi_b, zi_o, zi_a, okD_T, d_is_condition, condB, h, hs, *]
        | [a], h =>
          have ha : okD a = true := okD_flat h (by simp)
          rcases h1 with rfl | rfl | rfl | rfl | rfl | ⟨h1, h2, h3, h4, h5⟩ <;> simp [evE, evEs, evAnd, evOr, evT, evTA, evTO, evC, evO, evI, evS, evSs, zb_ok, zb_ex, zb_bad, zb_of, zb_no, zt_ok, zt_ex, zt_bad, zc_ok, zc_bad, zo_nx, zo_rt, zo_ex, zo_bad, zf_nx, zf_rt, zf_ex, gz_z, gz_s, slz_z, b_nm, setZ, asB_b, opz_dd, cpz_dd, dsOf_nil, dsOf_cons, biz_d, subz_dd, slz_dd, truthZ_d, boolZ_eq, isz, tyKnown, tyOk, bop, cop, truth, itemD, slcD, bid, LV_hot, LV_gv, gv, Option.map_some, Option.bind_some, eqv_ls, eqv_sl, eqv_ii, eqv_snone, eqv_nones, eqv_sbool, eqv_bools, eqv_sint, eqv_ints, eqv_stuple, eqv_tuples, eqv_slist, eqv_lists, eqv_tt, eqv_LL, eqvA_nn, eqvA_nc, eqvA_cn, eqvA_xn, eqvA_cc, okD_int, okD_bool, okD_lit, okD_nilT, okD_nilL, ofString_inj, atI_0, atI_1, atI_2, atI_3, flatD, inD, zi_b, zi_o, zi_a, okD_T, d_is_condition, condB, h, hs, f_is_siding _ _ _ ha, f_is_many _ _ _ ha, f_is_kind _ _ _ ha, *]
        | [a, b], h =>
          have ha : okD a = true := okD_flat h (by simp)
          have hb : okD b = true := okD_flat h (by simp)
          rcases h1 with rfl | rfl | rfl | rfl | rfl | ⟨h1, h2, h3, h4, h5⟩ <;> simp [evE, evEs, evAnd, evOr, evT, evTA, evTO, evC, evO, evI, evS, evSs, zb_ok, zb_ex, zb_bad, zb_of, zb_no, zt_ok, zt_ex, zt_bad, zc_ok, zc_bad, zo_nx, zo_rt, zo_ex, zo_bad, zf_nx, zf_rt, zf_ex, gz_z, gz_s, slz_z, b_nm, setZ, asB_b, opz_dd, cpz_dd, dsOf_nil, dsOf_cons, biz_d, subz_dd, slz_dd, truthZ_d, boolZ_eq, isz, tyKnown, tyOk, bop, cop, truth, itemD, slcD, bid, LV_hot, LV_gv, gv, Option.map_some, Option.bind_some, eqv_ls, eqv_sl, eqv_ii, eqv_snone, eqv_nones, eqv_sbool, eqv_bools, eqv_sint, eqv_ints, eqv_stuple, eqv_tuples, eqv_slist, eqv_lists, eqv_tt, eqv_LL, eqvA_nn, eqvA_nc, eqvA_cn, eqvA_xn, eqvA_cc, okD_int, okD_bool, okD_lit, okD_nilT, okD_nilL, ofString_inj, atI_0, atI_1, atI_2, atI_3, flatD, inD, zi_b, zi_o, zi_a, okD_T, d_is_condition, condB, h, hs, f_is_siding _ _ _ ha, f_is_many _ _ _ hb, f_is_kind _ _ _ hb, *]
        | a :: b :: c :: r, h =>
          have e3 : ¬ ((r.length : Int) + 1 + 1 + 1 + 1 = 3) := by omega
          have e2 : ¬ ((r.length : Int) + 1 + 1 + 1 + 1 = 2) := by omega
          rcases h1 with rfl | rfl | rfl | rfl | rfl | ⟨h1, h2, h3, h4, h5⟩ <;> simp [evE, evEs, evAnd, evOr, evT, evTA, evTO, evC, evO, evI, evS, evSs, zb_ok, zb_ex, zb_bad, zb_of, zb_no, zt_ok, zt_ex, zt_bad, zc_ok, zc_bad, zo_nx, zo_rt, zo_ex, zo_bad, zf_nx, zf_rt, zf_ex, gz_z, gz_s, slz_z, b_nm, setZ, asB_b, opz_dd, cpz_dd, dsOf_nil, dsOf_cons, biz_d, subz_dd, slz_dd, truthZ_d, boolZ_eq, isz, tyKnown, tyOk, bop, cop, truth, itemD, slcD, bid, LV_hot, LV_gv, gv, Option.map_some, Option.bind_some, eqv_ls, eqv_sl, eqv_ii, eqv_snone, eqv_nones, eqv_sbool, eqv_bools, eqv_sint, eqv_ints, eqv_stuple, eqv_tuples, eqv_slist, eqv_lists, eqv_tt, eqv_LL, eqvA_nn, eqvA_nc, eqvA_cn, eqvA_xn, eqvA_cc, okD_int, okD_bool, okD_lit, okD_nilT, okD_nilL, ofString_inj, atI_0, atI_1, atI_2, atI_3, flatD, inD, zi_b, zi_o, zi_a, okD_T, d_is_condition, condB, h, hs, *]
      case dict kvs => exact (nodict (okD_flat h (List.mem_cons_self ..))).elim
      all_goals simp [evE, evEs, evAnd, evOr, evT, evTA, evTO, evC, evO, evI, evS, evSs, zb_ok, zb_ex, zb_bad, zb_of, zb_no, zt_ok, zt_ex, zt_bad, zc_ok, zc_bad, zo_nx, zo_rt, zo_ex, zo_bad, zf_nx, zf_rt, zf_ex, gz_z, gz_s, slz_z, b_nm, setZ, asB_b, opz_dd, cpz_dd, dsOf_nil, dsOf_cons, biz_d, subz_dd, slz_dd, truthZ_d, boolZ_eq, isz, tyKnown, tyOk, bop, cop, truth, itemD, slcD, bid, LV_hot, LV_gv, gv, Option.map_some, Option.bind_some, eqv_ls, eqv_sl, eqv_ii, eqv_snone, eqv_nones, eqv_sbool, eqv_bools, eqv_sint, eqv_ints, eqv_stuple, eqv_tuples, eqv_slist, eqv_lists, eqv_tt, eqv_LL, eqvA_nn, eqvA_nc, eqvA_cn, eqvA_xn, eqvA_cc, okD_int, okD_bool, okD_lit, okD_nilT, okD_nilL, ofString_inj, atI_0, atI_1, atI_2, atI_3, flatD, inD, zi_b, zi_o, zi_a, okD_T, d_is_condition, condB, h]
  case dict kvs => exact (nodict h).elim
  all_goals simp [evE, evEs, evAnd, evOr, evT, evTA, evTO, evC, evO, evI, evS, evSs, zb_ok, zb_ex, zb_bad, zb_of, zb_no, zt_ok, zt_ex, zt_bad, zc_ok, zc_bad, zo_nx, zo_rt, zo_ex, zo_bad, zf_nx, zf_rt, zf_ex, gz_z, gz_s, slz_z, b_nm, setZ, asB_b, opz_dd, cpz_dd, dsOf_nil, dsOf_cons, biz_d, subz_dd, slz_dd, truthZ_d, boolZ_eq, isz, tyKnown, tyOk, bop, cop, truth, itemD, slcD, bid, LV_hot, LV_gv, gv, Option.map_some, Option.bind_some, eqv_ls, eqv_sl, eqv_ii, eqv_snone, eqv_nones, eqv_sbool, eqv_bools, eqv_sint, eqv_ints, eqv_stuple, eqv_tuples, eqv_slist, eqv_lists, eqv_tt, eqv_LL, eqvA_nn, eqvA_nc, eqvA_cn, eqvA_xn, eqvA_cc, okD_int, okD_bool, okD_lit, okD_nilT, okD_nilL, ofString_inj, atI_0, atI_1, atI_2, atI_3, flatD, inD, zi_b, zi_o, zi_a, okD_T, d_is_condition, condB]
end Lw
namespace Lw
open PySem Zt
theorem f_is_body (k : Nat) (v : D) (M : Mem) (h : okD v = true) (hl : (itT v).length ≤ 1000000) : (LV (k + 4)).fn false i_is_body [.d v] M = .ok (.d (.bool (bodyB v))) M := by
  rw [s_is_body]
  cases v
  case tuple xs =>
    have e : lcL (fun ρ' M' => evT (LV (k + 3)) t_is_body_1 ρ' M') (fun ρ' M' => evE (LV (k + 3)) e_is_body_1 ρ' M') (.nm 1) [.z (.d (.tuple xs)), .no] (xs.map .d) M = .ok ((xs.filter fun d => !plainB d).map id) M := by
      refine lc_pure xs (fun d hd => ?_) (fun d hd _ => ?_)
      · simp [evE, evEs, evAnd, evOr, evT, evTA, evTO, evC, evO, evI, evS, evSs, zb_ok, zb_ex, zb_bad, zb_of, zb_no, zt_ok, zt_ex, zt_bad, zc_ok, zc_bad, zo_nx, zo_rt, zo_ex, zo_bad, zf_nx, zf_rt, zf_ex, gz_z, gz_s, slz_z, b_nm, setZ, asB_b, opz_dd, cpz_dd, dsOf_nil, dsOf_cons, biz_d, subz_dd, slz_dd, truthZ_d, boolZ_eq, isz, tyKnown, tyOk, bop, cop, truth, itemD, slcD, bid, LV_hot, LV_gv, gv, Option.map_some, Option.bind_some, eqv_ls, eqv_sl, eqv_ii, eqv_snone, eqv_nones, eqv_sbool, eqv_bools, eqv_sint, eqv_ints, eqv_stuple, eqv_tuples, eqv_slist, eqv_lists, eqv_tt, eqv_LL, eqvA_nn, eqvA_nc, eqvA_cn, eqvA_xn, eqvA_cc, okD_int, okD_bool, okD_lit, okD_nilT, okD_nilL, ofString_inj, atI_0, atI_1, atI_2, atI_3, flatD, inD, zi_b, zi_o, zi_a, okD_T, t_is_body_1, f_is_plain _ _ _ (okD_flat h hd)]
      · simp [evE, evEs, evAnd, evOr, evT, evTA, evTO, evC, evO, evI, evS, evSs, zb_ok, zb_ex, zb_bad, zb_of, zb_no, zt_ok, zt_ex, zt_bad, zc_ok, zc_bad, zo_nx, zo_rt, zo_ex, zo_bad, zf_nx, zf_rt, zf_ex, gz_z, gz_s, slz_z, b_nm, setZ, asB_b, opz_dd, cpz_dd, dsOf_nil, dsOf_cons, biz_d, subz_dd, slz_dd, truthZ_d, boolZ_eq, isz, tyKnown, tyOk, bop, cop, truth, itemD, slcD, bid, LV_hot, LV_gv, gv, Option.map_some, Option.bind_some, eqv_ls, eqv_sl, eqv_ii, eqv_snone, eqv_nones, eqv_sbool, eqv_bools, eqv_sint, eqv_ints, eqv_stuple, eqv_tuples, eqv_slist, eqv_lists, eqv_tt, eqv_LL, eqvA_nn, eqvA_nc, eqvA_cn, eqvA_xn, eqvA_cc, okD_int, okD_bool, okD_lit, okD_nilT, okD_nilL, ofString_inj, atI_0, atI_1, atI_2, atI_3, flatD, inD, zi_b, zi_o, zi_a, okD_T, e_is_body_1]
    have e3 : xs.length ≤ slen := hl
    have e4 : okD (.list (xs.filter fun d => !plainB d)) = true := okD_flt _ h
    have e5 : ((xs.length : Int) ≤ 3) = (xs.length ≤ 3) := propext (by omega)
    simp only [List.map_id] at e
    simp [evE, evEs, evAnd, evOr, evT, evTA, evTO, evC, evO, evI, evS, evSs, zb_ok, zb_ex, zb_bad, zb_of, zb_no, zt_ok, zt_ex, zt_bad, zc_ok, zc_bad, zo_nx, zo_rt, zo_ex, zo_bad, zf_nx, zf_rt, zf_ex, gz_z, gz_s, slz_z, b_nm, setZ, asB_b, opz_dd, cpz_dd, dsOf_nil, dsOf_cons, biz_d, subz_dd, slz_dd, truthZ_d, boolZ_eq, isz, tyKnown, tyOk, bop, cop, truth, itemD, slcD, bid, LV_hot, LV_gv, gv, Option.map_some, Option.bind_some, eqv_ls, eqv_sl, eqv_ii, eqv_snone, eqv_nones, eqv_sbool, eqv_bools, eqv_sint, eqv_ints, eqv_stuple, eqv_tuples, eqv_slist, eqv_lists, eqv_tt, eqv_LL, eqvA_nn, eqvA_nc, eqvA_cn, eqvA_xn, eqvA_cc, okD_int, okD_bool, okD_lit, okD_nilT, okD_nilL, ofString_inj, atI_0, atI_1, atI_2, atI_3, flatD, inD, zi_b, zi_o, zi_a, okD_T, e5, d_is_body, bodyB, h, itH, itemsOf, e3, wipeE, e, e4, flt_empty]
  case dict kvs => exact (nodict h).elim
  all_goals simp [evE, evEs, evAnd, evOr, evT, evTA, evTO, evC, evO, evI, evS, evSs, zb_ok, zb_ex, zb_bad, zb_of, zb_no, zt_ok, zt_ex, zt_bad, zc_ok, zc_bad, zo_nx, zo_rt, zo_ex, zo_bad, zf_nx, zf_rt, zf_ex, gz_z, gz_s, slz_z, b_nm, setZ, asB_b, opz_dd, cpz_dd, dsOf_nil, dsOf_cons, biz_d, subz_dd, slz_dd, truthZ_d, boolZ_eq, isz, tyKnown, tyOk, bop, cop, truth, itemD, slcD, bid, LV_hot, LV_gv, gv, Option.map_some, Option.bind_some, eqv_ls, eqv_sl, eqv_ii, eqv_snone, eqv_nones, eqv_sbool, eqv_bools, eqv_sint, eqv_ints, eqv_stuple, eqv_tuples, eqv_slist, eqv_lists, eqv_tt, eqv_LL, eqvA_nn, eqvA_nc, eqvA_cn, eqvA_xn, eqvA_cc, okD_int, okD_bool, okD_lit, okD_nilT, okD_nilL, ofString_inj, atI_0, atI_1, atI_2, atI_3, flatD, inD, zi_b, zi_o, zi_a, okD_T, d_is_body, bodyB]
theorem f_is_step (k : Nat) (v : D) (M : Mem) (h : okD v = true) (hl : ∀ b ∈ itT v, (itT b).length ≤ 1000000) : (LV (k + 5)).fn false i_is_step [.d v] M = .ok (.d (.bool (stepB v))) M := by
  rw [s_is_step]
  cases v
  case tuple xs =>
    cases xs with
    | nil => simp [evE, evEs, evAnd, evOr, evT, evTA, evTO, evC, evO, evI, evS, evSs, zb_ok, zb_ex, zb_bad, zb_of, zb_no, zt_ok, zt_ex, zt_bad, zc_ok, zc_bad, zo_nx, zo_rt, zo_ex, zo_bad, zf_nx, zf_rt, zf_ex, gz_z, gz_s, slz_z, b_nm, setZ, asB_b, opz_dd, cpz_dd, dsOf_nil, dsOf_cons, biz_d, subz_dd, slz_dd, truthZ_d, boolZ_eq, isz, tyKnown, tyOk, bop, cop, truth, itemD, slcD, bid, LV_hot, LV_gv, gv, Option.map_some, Option.bind_some, eqv_ls, eqv_sl, eqv_ii, eqv_snone, eqv_nones, eqv_sbool, eqv_bools, eqv_sint, eqv_ints, eqv_stuple, eqv_tuples, eqv_slist, eqv_lists, eqv_tt, eqv_LL, eqvA_nn, eqvA_nc, eqvA_cn, eqvA_xn, eqvA_cc, okD_int, okD_bool, okD_lit, okD_nilT, okD_nilL, ofString_inj, atI_0, atI_1, atI_2, atI_3, flatD, inD, zi_b, zi_o, zi_a, okD_T, d_is_step, stepB, h]
    | cons x r =>
      cases x
      case str s =>
        have hs : okD (.str s) = true := okD_flat h (List.mem_cons_self ..)
        have h1 : s = "if" ∨ s = "while" ∨ (s ≠ "if" ∧ s ≠ "while") := by
          by_cases a : s = "if" <;> by_cases b : s = "while" <;> simp [a, b]
        have hp := f_is_plain (k + 1) (.tuple (.str s :: r)) M h
        match r, h, hl, hp with
        | [], h, _, hp => rcases h1 with rfl | rfl | ⟨h1, h2⟩ <;> simp [evE, evEs, evAnd, evOr, evT, evTA, evTO, evC, evO, evI, evS, evSs, zb_ok, zb_ex, zb_bad, zb_of, zb_no, zt_ok, zt_ex, zt_bad, zc_ok, zc_bad, zo_nx, zo_rt, zo_ex, zo_bad, zf_nx, zf_rt, zf_ex, gz_z, gz_s, slz_z, b_nm, setZ, asB_b, opz_dd, cpz_dd, dsOf_nil, dsOf_cons, biz_d, subz_dd, slz_dd, truthZ_d, boolZ_eq, isz, tyKnown, tyOk, bop, cop, truth, itemD, slcD, bid, LV_hot, LV_gv, gv, Option.map_some, Option.bind_some, eqv_ls, eqv_sl, eqv_ii, eqv_snone, eqv_nones, eqv_sbool, eqv_bools, eqv_sint, eqv_ints, eqv_stuple, eqv_tuples, eqv_slist, eqv_lists, eqv_tt, eqv_LL, eqvA_nn, eqvA_nc, eqvA_cn, eqvA_xn, eqvA_cc, okD_int, okD_bool, okD_lit, okD_nilT, okD_nilL, ofString_inj, atI_0, atI_1, atI_2, atI_3, flatD, inD, zi_b, zi_o, zi_a, okD_T, d_is_step, stepB, h, hs, hp, *]
        | [a], h, _, hp => rcases h1 with rfl | rfl | ⟨h1, h2⟩ <;> simp [evE, evEs, evAnd, evOr, evT, evTA, evTO, evC, evO, evI, evS, evSs, zb_ok, zb_ex, zb_bad, zb_of, zb_no, zt_ok, zt_ex, zt_bad, zc_ok, zc_bad, zo_nx, zo_rt, zo_ex, zo_bad, zf_nx, zf_rt, zf_ex, gz_z, gz_s, slz_z, b_nm, setZ, asB_b, opz_dd, cpz_dd, dsOf_nil, dsOf_cons, biz_d, subz_dd, slz_dd, truthZ_d, boolZ_eq, isz, tyKnown, tyOk, bop, cop, truth, itemD, slcD, bid, LV_hot, LV_gv, gv, Option.map_some, Option.bind_some, eqv_ls, eqv_sl, eqv_ii, eqv_snone, eqv_nones, eqv_sbool, eqv_bools, eqv_sint, eqv_ints, eqv_stuple, eqv_tuples, eqv_slist, eqv_lists, eqv_tt, eqv_LL, eqvA_nn, eqvA_nc, eqvA_cn, eqvA_xn, eqvA_cc, okD_int, okD_bool, okD_lit, okD_nilT, okD_nilL, ofString_inj, atI_0, atI_1, atI_2, atI_3, flatD, inD, zi_b, zi_o, zi_a, okD_T, d_is_step, stepB, h, hs, hp, *]
        | [a, b], h, hl, hp =>
          have ha : okD a = true := okD_flat h (by simp)
          have hb : okD b = true := okD_flat h (by simp)
          have lb := hl b (by simp [itT])
          rcases h1 with rfl | rfl | ⟨h1, h2⟩ <;> simp [evE, evEs, evAnd, evOr, evT, evTA, evTO, evC, evO, evI, evS, evSs, zb_ok, zb_ex, zb_bad, zb_of, zb_no, zt_ok, zt_ex, zt_bad, zc_ok, zc_bad, zo_nx, zo_rt, zo_ex, zo_bad, zf_nx, zf_rt, zf_ex, gz_z, gz_s, slz_z, b_nm, setZ, asB_b, opz_dd, cpz_dd, dsOf_nil, dsOf_cons, biz_d, subz_dd, slz_dd, truthZ_d, boolZ_eq, isz, tyKnown, tyOk, bop, cop, truth, itemD, slcD, bid, LV_hot, LV_gv, gv, Option.map_some, Option.bind_some, eqv_ls, eqv_sl, eqv_ii, eqv_snone, eqv_nones, eqv_sbool, eqv_bools, eqv_sint, eqv_ints, eqv_stuple, eqv_tuples, eqv_slist, eqv_lists, eqv_tt, eqv_LL, eqvA_nn, eqvA_nc, eqvA_cn, eqvA_xn, eqvA_cc, okD_int, okD_bool, okD_lit, okD_nilT, okD_nilL, ofString_inj, atI_0, atI_1, atI_2, atI_3, flatD, inD, zi_b, zi_o, zi_a, okD_T, d_is_step, stepB, h, hs, hp, f_is_condition _ _ _ ha, f_is_body _ _ _ hb lb, *]
        | [a, b, c], h, hl, hp =>
          have ha : okD a = true := okD_flat h (by simp)
          have hb : okD b = true := okD_flat h (by simp)
          have hc : okD c = true := okD_flat h (by simp)
          have lb := hl b (by simp [itT])
          have lc := hl c (by simp [itT])
          rcases h1 with rfl | rfl | ⟨h1, h2⟩ <;> simp [evE, evEs, evAnd, evOr, evT, evTA, evTO, evC, evO, evI, evS, evSs, zb_ok, zb_ex, zb_bad, zb_of, zb_no, zt_ok, zt_ex, zt_bad, zc_ok, zc_bad, zo_nx, zo_rt, zo_ex, zo_bad, zf_nx, zf_rt, zf_ex, gz_z, gz_s, slz_z, b_nm, setZ, asB_b, opz_dd, cpz_dd, dsOf_nil, dsOf_cons, biz_d, subz_dd, slz_dd, truthZ_d, boolZ_eq, isz, tyKnown, tyOk, bop, cop, truth, itemD, slcD, bid, LV_hot, LV_gv, gv, Option.map_some, Option.bind_some, eqv_ls, eqv_sl, eqv_ii, eqv_snone, eqv_nones, eqv_sbool, eqv_bools, eqv_sint, eqv_ints, eqv_stuple, eqv_tuples, eqv_slist, eqv_lists, eqv_tt, eqv_LL, eqvA_nn, eqvA_nc, eqvA_cn, eqvA_xn, eqvA_cc, okD_int, okD_bool, okD_lit, okD_nilT, okD_nilL, ofString_inj, atI_0, atI_1, atI_2, atI_3, flatD, inD, zi_b, zi_o, zi_a, okD_T, d_is_step, stepB, h, hs, hp, f_is_condition _ _ _ ha, f_is_body _ _ _ hb lb, f_is_body _ _ _ hc lc, Bool.and_assoc, *]
        | a :: b :: c :: d :: r, h, _, hp =>
          have e3 : ¬ ((r.length : Int) + 1 + 1 + 1 + 1 + 1 = 3) := by omega
          have e4 : ¬ ((r.length : Int) + 1 + 1 + 1 + 1 + 1 = 4) := by omega
          rcases h1 with rfl | rfl | ⟨h1, h2⟩ <;> simp [evE, evEs, evAnd, evOr, evT, evTA, evTO, evC, evO, evI, evS, evSs, zb_ok, zb_ex, zb_bad, zb_of, zb_no, zt_ok, zt_ex, zt_bad, zc_ok, zc_bad, zo_nx, zo_rt, zo_ex, zo_bad, zf_nx, zf_rt, zf_ex, gz_z, gz_s, slz_z, b_nm, setZ, asB_b, opz_dd, cpz_dd, dsOf_nil, dsOf_cons, biz_d, subz_dd, slz_dd, truthZ_d, boolZ_eq, isz, tyKnown, tyOk, bop, cop, truth, itemD, slcD, bid, LV_hot, LV_gv, gv, Option.map_some, Option.bind_some, eqv_ls, eqv_sl, eqv_ii, eqv_snone, eqv_nones, eqv_sbool, eqv_bools, eqv_sint, eqv_ints, eqv_stuple, eqv_tuples, eqv_slist, eqv_lists, eqv_tt, eqv_LL, eqvA_nn, eqvA_nc, eqvA_cn, eqvA_xn, eqvA_cc, okD_int, okD_bool, okD_lit, okD_nilT, okD_nilL, ofString_inj, atI_0, atI_1, atI_2, atI_3, flatD, inD, zi_b, zi_o, zi_a, okD_T, d_is_step, stepB, h, hs, hp, *]
      case dict kvs => exact (nodict (okD_flat h (List.mem_cons_self ..))).elim
      all_goals simp [evE, evEs, evAnd, evOr, evT, evTA, evTO, evC, evO, evI, evS, evSs, zb_ok, zb_ex, zb_bad, zb_of, zb_no, zt_ok, zt_ex, zt_bad, zc_ok, zc_bad, zo_nx, zo_rt, zo_ex, zo_bad, zf_nx, zf_rt, zf_ex, gz_z, gz_s, slz_z, b_nm, setZ, asB_b, opz_dd, cpz_dd, dsOf_nil, dsOf_cons, biz_d, subz_dd, slz_dd, truthZ_d, boolZ_eq, isz, tyKnown, tyOk, bop, cop, truth, itemD, slcD, bid, LV_hot, LV_gv, gv, Option.map_some, Option.bind_some, eqv_ls, eqv_sl, eqv_ii, eqv_snone, eqv_nones, eqv_sbool, eqv_bools, eqv_sint, eqv_ints, eqv_stuple, eqv_tuples, eqv_slist, eqv_lists, eqv_tt, eqv_LL, eqvA_nn, eqvA_nc, eqvA_cn, eqvA_xn, eqvA_cc, okD_int, okD_bool, okD_lit, okD_nilT, okD_nilL, ofString_inj, atI_0, atI_1, atI_2, atI_3, flatD, inD, zi_b, zi_o, zi_a, okD_T, d_is_step, stepB, h]
  case dict kvs => exact (nodict h).elim
  all_goals simp [evE, evEs, evAnd, evOr, evT, evTA, evTO, evC, evO, evI, evS, evSs, zb_ok, zb_ex, zb_bad, zb_of, zb_no, zt_ok, zt_ex, zt_bad, zc_ok, zc_bad, zo_nx, zo_rt, zo_ex, zo_bad, zf_nx, zf_rt, zf_ex, gz_z, gz_s, slz_z, b_nm, setZ, asB_b, opz_dd, cpz_dd, dsOf_nil, dsOf_cons, biz_d, subz_dd, slz_dd, truthZ_d, boolZ_eq, isz, tyKnown, tyOk, bop, cop, truth, itemD, slcD, bid, LV_hot, LV_gv, gv, Option.map_some, Option.bind_some, eqv_ls, eqv_sl, eqv_ii, eqv_snone, eqv_nones, eqv_sbool, eqv_bools, eqv_sint, eqv_ints, eqv_stuple, eqv_tuples, eqv_slist, eqv_lists, eqv_tt, eqv_LL, eqvA_nn, eqvA_nc, eqvA_cn, eqvA_xn, eqvA_cc, okD_int, okD_bool, okD_lit, okD_nilT, okD_nilL, ofString_inj, atI_0, atI_1, atI_2, atI_3, flatD, inD, zi_b, zi_o, zi_a, okD_T, d_is_step, stepB]
theorem f_size_of (k : Nat) (v : D) (M : Mem) (h : okD v = true) (hv : stepB v = true) : (LV (k + 1)).fn false i_size_of [.d v] M = .ok (.d (.int (sizeD v))) M := by
  rw [s_size_of]
  rcases stepB_cases hv with ⟨_, s, r, rfl, h1, h2⟩ | ⟨c, a, b, rfl, _⟩ | ⟨c, a, rfl, _⟩
  · have hs : okD (.str s) = true := okD_flat h (List.mem_cons_self ..)
    rw [sizeD_other h1 h2]
    simp [evE, evEs, evAnd, evOr, evT, evTA, evTO, evC, evO, evI, evS, evSs, zb_ok, zb_ex, zb_bad, zb_of, zb_no, zt_ok, zt_ex, zt_bad, zc_ok, zc_bad, zo_nx, zo_rt, zo_ex, zo_bad, zf_nx, zf_rt, zf_ex, gz_z, gz_s, slz_z, b_nm, setZ, asB_b, opz_dd, cpz_dd, dsOf_nil, dsOf_cons, biz_d, subz_dd, slz_dd, truthZ_d, boolZ_eq, isz, tyKnown, tyOk, bop, cop, truth, itemD, slcD, bid, LV_hot, LV_gv, gv, Option.map_some, Option.bind_some, eqv_ls, eqv_sl, eqv_ii, eqv_snone, eqv_nones, eqv_sbool, eqv_bools, eqv_sint, eqv_ints, eqv_stuple, eqv_tuples, eqv_slist, eqv_lists, eqv_tt, eqv_LL, eqvA_nn, eqvA_nc, eqvA_cn, eqvA_xn, eqvA_cc, okD_int, okD_bool, okD_lit, okD_nilT, okD_nilL, ofString_inj, atI_0, atI_1, atI_2, atI_3, flatD, inD, zi_b, zi_o, zi_a, okD_T, d_size_of, hs, h1, h2]
  · simp [evE, evEs, evAnd, evOr, evT, evTA, evTO, evC, evO, evI, evS, evSs, zb_ok, zb_ex, zb_bad, zb_of, zb_no, zt_ok, zt_ex, zt_bad, zc_ok, zc_bad, zo_nx, zo_rt, zo_ex, zo_bad, zf_nx, zf_rt, zf_ex, gz_z, gz_s, slz_z, b_nm, setZ, asB_b, opz_dd, cpz_dd, dsOf_nil, dsOf_cons, biz_d, subz_dd, slz_dd, truthZ_d, boolZ_eq, isz, tyKnown, tyOk, bop, cop, truth, itemD, slcD, bid, LV_hot, LV_gv, gv, Option.map_some, Option.bind_some, eqv_ls, eqv_sl, eqv_ii, eqv_snone, eqv_nones, eqv_sbool, eqv_bools, eqv_sint, eqv_ints, eqv_stuple, eqv_tuples, eqv_slist, eqv_lists, eqv_tt, eqv_LL, eqvA_nn, eqvA_nc, eqvA_cn, eqvA_xn, eqvA_cc, okD_int, okD_bool, okD_lit, okD_nilT, okD_nilL, ofString_inj, atI_0, atI_1, atI_2, atI_3, flatD, inD, zi_b, zi_o, zi_a, okD_T, d_size_of, sizeD, itT]
    omega
  · simp [evE, evEs, evAnd, evOr, evT, evTA, evTO, evC, evO, evI, evS, evSs, zb_ok, zb_ex, zb_bad, zb_of, zb_no, zt_ok, zt_ex, zt_bad, zc_ok, zc_bad, zo_nx, zo_rt, zo_ex, zo_bad, zf_nx, zf_rt, zf_ex, gz_z, gz_s, slz_z, b_nm, setZ, asB_b, opz_dd, cpz_dd, dsOf_nil, dsOf_cons, biz_d, subz_dd, slz_dd, truthZ_d, boolZ_eq, isz, tyKnown, tyOk, bop, cop, truth, itemD, slcD, bid, LV_hot, LV_gv, gv, Option.map_some, Option.bind_some, eqv_ls, eqv_sl, eqv_ii, eqv_snone, eqv_nones, eqv_sbool, eqv_bools, eqv_sint, eqv_ints, eqv_stuple, eqv_tuples, eqv_slist, eqv_lists, eqv_tt, eqv_LL, eqvA_nn, eqvA_nc, eqvA_cn, eqvA_xn, eqvA_cc, okD_int, okD_bool, okD_lit, okD_nilT, okD_nilL, ofString_inj, atI_0, atI_1, atI_2, atI_3, flatD, inD, zi_b, zi_o, zi_a, okD_T, d_size_of, sizeD, itT]
theorem f_steps_in (k : Nat) (xs : List D) (M : Mem) (h : okD (.tuple xs) = true) (hl : xs.length ≤ 1000000) (hv : ∀ x ∈ xs, stepB x = true) : (LV (k + 2)).fn false i_steps_in [.d (.tuple xs)] M = .ok (.d (.int (sizes xs))) M := by
  rw [s_steps_in]
  have e : lcL (fun ρ' M' => R.ok true M') (fun ρ' M' => evE (LV (k + 1)) e_steps_in_1 ρ' M') (.nm 1) [.z (.d (.tuple xs)), .no] (xs.map .d) M = .ok ((xs.filter fun _ => true).map fun d => .int (sizeD d)) M := by
    refine lc_pure xs (fun d hd => rfl) (fun d hd _ => ?_)
    simp [evE, evEs, evAnd, evOr, evT, evTA, evTO, evC, evO, evI, evS, evSs, zb_ok, zb_ex, zb_bad, zb_of, zb_no, zt_ok, zt_ex, zt_bad, zc_ok, zc_bad, zo_nx, zo_rt, zo_ex, zo_bad, zf_nx, zf_rt, zf_ex, gz_z, gz_s, slz_z, b_nm, setZ, asB_b, opz_dd, cpz_dd, dsOf_nil, dsOf_cons, biz_d, subz_dd, slz_dd, truthZ_d, boolZ_eq, isz, tyKnown, tyOk, bop, cop, truth, itemD, slcD, bid, LV_hot, LV_gv, gv, Option.map_some, Option.bind_some, eqv_ls, eqv_sl, eqv_ii, eqv_snone, eqv_nones, eqv_sbool, eqv_bools, eqv_sint, eqv_ints, eqv_stuple, eqv_tuples, eqv_slist, eqv_lists, eqv_tt, eqv_LL, eqvA_nn, eqvA_nc, eqvA_cn, eqvA_xn, eqvA_cc, okD_int, okD_bool, okD_lit, okD_nilT, okD_nilL, ofString_inj, atI_0, atI_1, atI_2, atI_3, flatD, inD, zi_b, zi_o, zi_a, okD_T, e_steps_in_1, f_size_of _ _ _ (okD_flat h hd) (hv d hd)]
  have e3 : xs.length ≤ slen := hl
  rw [List.filter_eq_self.mpr (by simp)] at e
  simp [evE, evEs, evAnd, evOr, evT, evTA, evTO, evC, evO, evI, evS, evSs, zb_ok, zb_ex, zb_bad, zb_of, zb_no, zt_ok, zt_ex, zt_bad, zc_ok, zc_bad, zo_nx, zo_rt, zo_ex, zo_bad, zf_nx, zf_rt, zf_ex, gz_z, gz_s, slz_z, b_nm, setZ, asB_b, opz_dd, cpz_dd, dsOf_nil, dsOf_cons, biz_d, subz_dd, slz_dd, truthZ_d, boolZ_eq, isz, tyKnown, tyOk, bop, cop, truth, itemD, slcD, bid, LV_hot, LV_gv, gv, Option.map_some, Option.bind_some, eqv_ls, eqv_sl, eqv_ii, eqv_snone, eqv_nones, eqv_sbool, eqv_bools, eqv_sint, eqv_ints, eqv_stuple, eqv_tuples, eqv_slist, eqv_lists, eqv_tt, eqv_LL, eqvA_nn, eqvA_nc, eqvA_cn, eqvA_xn, eqvA_cc, okD_int, okD_bool, okD_lit, okD_nilT, okD_nilL, ofString_inj, atI_0, atI_1, atI_2, atI_3, flatD, inD, zi_b, zi_o, zi_a, okD_T, d_steps_in, itH, itemsOf, e3, wipeE, e, Bi.walks, sizes, intsOf_map, sum_cast]
theorem f_is_script (k : Nat) (v : D) (M : Mem) (h : okD v = true) (hl : (itT v).length ≤ 1000000) (hl2 : ∀ s ∈ itT v, ∀ b ∈ itT s, (itT b).length ≤ 1000000) : (LV (k + 6)).fn false i_is_script [.d v] M = .ok (.d (.bool (scriptB v))) M := by
  rw [s_is_script]
  cases v
  case tuple xs =>
    have e : lcL (fun ρ' M' => evT (LV (k + 5)) t_is_script_1 ρ' M') (fun ρ' M' => evE (LV (k + 5)) e_is_script_1 ρ' M') (.nm 1) [.z (.d (.tuple xs)), .no] (xs.map .d) M = .ok ((xs.filter fun d => !stepB d).map id) M := by
      refine lc_pure xs (fun d hd => ?_) (fun d hd _ => ?_)
      · simp [evE, evEs, evAnd, evOr, evT, evTA, evTO, evC, evO, evI, evS, evSs, zb_ok, zb_ex, zb_bad, zb_of, zb_no, zt_ok, zt_ex, zt_bad, zc_ok, zc_bad, zo_nx, zo_rt, zo_ex, zo_bad, zf_nx, zf_rt, zf_ex, gz_z, gz_s, slz_z, b_nm, setZ, asB_b, opz_dd, cpz_dd, dsOf_nil, dsOf_cons, biz_d, subz_dd, slz_dd, truthZ_d, boolZ_eq, isz, tyKnown, tyOk, bop, cop, truth, itemD, slcD, bid, LV_hot, LV_gv, gv, Option.map_some, Option.bind_some, eqv_ls, eqv_sl, eqv_ii, eqv_snone, eqv_nones, eqv_sbool, eqv_bools, eqv_sint, eqv_ints, eqv_stuple, eqv_tuples, eqv_slist, eqv_lists, eqv_tt, eqv_LL, eqvA_nn, eqvA_nc, eqvA_cn, eqvA_xn, eqvA_cc, okD_int, okD_bool, okD_lit, okD_nilT, okD_nilL, ofString_inj, atI_0, atI_1, atI_2, atI_3, flatD, inD, zi_b, zi_o, zi_a, okD_T, t_is_script_1, f_is_step _ _ _ (okD_flat h hd) (hl2 d hd)]
      · simp [evE, evEs, evAnd, evOr, evT, evTA, evTO, evC, evO, evI, evS, evSs, zb_ok, zb_ex, zb_bad, zb_of, zb_no, zt_ok, zt_ex, zt_bad, zc_ok, zc_bad, zo_nx, zo_rt, zo_ex, zo_bad, zf_nx, zf_rt, zf_ex, gz_z, gz_s, slz_z, b_nm, setZ, asB_b, opz_dd, cpz_dd, dsOf_nil, dsOf_cons, biz_d, subz_dd, slz_dd, truthZ_d, boolZ_eq, isz, tyKnown, tyOk, bop, cop, truth, itemD, slcD, bid, LV_hot, LV_gv, gv, Option.map_some, Option.bind_some, eqv_ls, eqv_sl, eqv_ii, eqv_snone, eqv_nones, eqv_sbool, eqv_bools, eqv_sint, eqv_ints, eqv_stuple, eqv_tuples, eqv_slist, eqv_lists, eqv_tt, eqv_LL, eqvA_nn, eqvA_nc, eqvA_cn, eqvA_xn, eqvA_cc, okD_int, okD_bool, okD_lit, okD_nilT, okD_nilL, ofString_inj, atI_0, atI_1, atI_2, atI_3, flatD, inD, zi_b, zi_o, zi_a, okD_T, e_is_script_1]
    have e3 : xs.length ≤ slen := hl
    have e4 : okD (.list (xs.filter fun d => !stepB d)) = true := okD_flt _ h
    have e5 : ((6 : Int) < (xs.length : Int)) = (6 < xs.length) := propext (by omega)
    simp only [List.map_id] at e
    by_cases h6 : 6 < xs.length
    · have h7 : ¬ xs.length ≤ 6 := by omega
      simp [evE, evEs, evAnd, evOr, evT, evTA, evTO, evC, evO, evI, evS, evSs, zb_ok, zb_ex, zb_bad, zb_of, zb_no, zt_ok, zt_ex, zt_bad, zc_ok, zc_bad, zo_nx, zo_rt, zo_ex, zo_bad, zf_nx, zf_rt, zf_ex, gz_z, gz_s, slz_z, b_nm, setZ, asB_b, opz_dd, cpz_dd, dsOf_nil, dsOf_cons, biz_d, subz_dd, slz_dd, truthZ_d, boolZ_eq, isz, tyKnown, tyOk, bop, cop, truth, itemD, slcD, bid, LV_hot, LV_gv, gv, Option.map_some, Option.bind_some, eqv_ls, eqv_sl, eqv_ii, eqv_snone, eqv_nones, eqv_sbool, eqv_bools, eqv_sint, eqv_ints, eqv_stuple, eqv_tuples, eqv_slist, eqv_lists, eqv_tt, eqv_LL, eqvA_nn, eqvA_nc, eqvA_cn, eqvA_xn, eqvA_cc, okD_int, okD_bool, okD_lit, okD_nilT, okD_nilL, ofString_inj, atI_0, atI_1, atI_2, atI_3, flatD, inD, zi_b, zi_o, zi_a, okD_T, d_is_script, scriptB, h, itH, itemsOf, e3, wipeE, e, e4, e5, h6, h7]
    · have h7 : xs.length ≤ 6 := by omega
      cases hb : xs.all stepB
      · have hf : (xs.filter fun d => !stepB d).isEmpty = false := by rw [flt_empty, hb]
        simp [evE, evEs, evAnd, evOr, evT, evTA, evTO, evC, evO, evI, evS, evSs, zb_ok, zb_ex, zb_bad, zb_of, zb_no, zt_ok, zt_ex, zt_bad, zc_ok, zc_bad, zo_nx, zo_rt, zo_ex, zo_bad, zf_nx, zf_rt, zf_ex, gz_z, gz_s, slz_z, b_nm, setZ, asB_b, opz_dd, cpz_dd, dsOf_nil, dsOf_cons, biz_d, subz_dd, slz_dd, truthZ_d, boolZ_eq, isz, tyKnown, tyOk, bop, cop, truth, itemD, slcD, bid, LV_hot, LV_gv, gv, Option.map_some, Option.bind_some, eqv_ls, eqv_sl, eqv_ii, eqv_snone, eqv_nones, eqv_sbool, eqv_bools, eqv_sint, eqv_ints, eqv_stuple, eqv_tuples, eqv_slist, eqv_lists, eqv_tt, eqv_LL, eqvA_nn, eqvA_nc, eqvA_cn, eqvA_xn, eqvA_cc, okD_int, okD_bool, okD_lit, okD_nilT, okD_nilL, ofString_inj, atI_0, atI_1, atI_2, atI_3, flatD, inD, zi_b, zi_o, zi_a, okD_T, d_is_script, scriptB, h, itH, itemsOf, e3, wipeE, e, e4, e5, h6, h7, hb, hf]
      · have hf : (xs.filter fun d => !stepB d).isEmpty = true := by rw [flt_empty, hb]
        have hs := f_steps_in (k + 3) xs M h hl (fun x hx => List.all_eq_true.mp hb x hx)
        have e6 : ((sizes xs : Int) ≤ 12) = (sizes xs ≤ 12) := propext (by omega)
        simp [evE, evEs, evAnd, evOr, evT, evTA, evTO, evC, evO, evI, evS, evSs, zb_ok, zb_ex, zb_bad, zb_of, zb_no, zt_ok, zt_ex, zt_bad, zc_ok, zc_bad, zo_nx, zo_rt, zo_ex, zo_bad, zf_nx, zf_rt, zf_ex, gz_z, gz_s, slz_z, b_nm, setZ, asB_b, opz_dd, cpz_dd, dsOf_nil, dsOf_cons, biz_d, subz_dd, slz_dd, truthZ_d, boolZ_eq, isz, tyKnown, tyOk, bop, cop, truth, itemD, slcD, bid, LV_hot, LV_gv, gv, Option.map_some, Option.bind_some, eqv_ls, eqv_sl, eqv_ii, eqv_snone, eqv_nones, eqv_sbool, eqv_bools, eqv_sint, eqv_ints, eqv_stuple, eqv_tuples, eqv_slist, eqv_lists, eqv_tt, eqv_LL, eqvA_nn, eqvA_nc, eqvA_cn, eqvA_xn, eqvA_cc, okD_int, okD_bool, okD_lit, okD_nilT, okD_nilL, ofString_inj, atI_0, atI_1, atI_2, atI_3, flatD, inD, zi_b, zi_o, zi_a, okD_T, d_is_script, scriptB, h, itH, itemsOf, e3, wipeE, e, e4, e5, h6, h7, hb, hf, hs, e6]
  case dict kvs => exact (nodict h).elim
  all_goals simp [evE, evEs, evAnd, evOr, evT, evTA, evTO, evC, evO, evI, evS, evSs, zb_ok, zb_ex, zb_bad, zb_of, zb_no, zt_ok, zt_ex, zt_bad, zc_ok, zc_bad, zo_nx, zo_rt, zo_ex, zo_bad, zf_nx, zf_rt, zf_ex, gz_z, gz_s, slz_z, b_nm, setZ, asB_b, opz_dd, cpz_dd, dsOf_nil, dsOf_cons, biz_d, subz_dd, slz_dd, truthZ_d, boolZ_eq, isz, tyKnown, tyOk, bop, cop, truth, itemD, slcD, bid, LV_hot, LV_gv, gv, Option.map_some, Option.bind_some, eqv_ls, eqv_sl, eqv_ii, eqv_snone, eqv_nones, eqv_sbool, eqv_bools, eqv_sint, eqv_ints, eqv_stuple, eqv_tuples, eqv_slist, eqv_lists, eqv_tt, eqv_LL, eqvA_nn, eqvA_nc, eqvA_cn, eqvA_xn, eqvA_cc, okD_int, okD_bool, okD_lit, okD_nilT, okD_nilL, ofString_inj, atI_0, atI_1, atI_2, atI_3, flatD, inD, zi_b, zi_o, zi_a, okD_T, d_is_script, scriptB]
end Lw
namespace Lw
open PySem Zt
theorem f_under (k n : Nat) (m : Int) (M : Mem) (h : Vt M n) (h1 : 1 ≤ m) (h2 : m ≤ 1000000000) : ∃ u M', (LV (k + 1)).fn false i_law_under [.r n, .d (.int m)] M = .ok (.d (.int u)) M' ∧ 0 ≤ u ∧ u < m ∧ Dr n M M' := by
  obtain ⟨a, b, hM, a1, a2, b1, b2⟩ := h
  by_cases ha : 0 < a
  · refine ⟨a % m, M.set n (.lst [.int (a / m), .int b]), ?_, Int.emod_nonneg _ (by omega), Int.emod_lt_of_pos _ (by omega), Dr.mk' hM (Int.ediv_nonneg a1 (by omega)) (Nat.le_trans (log2_mono ?_) a2) b1 b2⟩
    · rw [s_law_under]
      simp (disch := first | omega | (simp only [slen]; omega) | (simp [flatD, okD_int, okD_lit]; done) | fail) [evE, evEs, evAnd, evOr, evT, evTA, evTO, evC, evO, evI, evS, evSs, zb_ok, zb_ex, zb_bad, zb_of, zb_no, zt_ok, zt_ex, zt_bad, zc_ok, zc_bad, zo_nx, zo_rt, zo_ex, zo_bad, zf_nx, zf_rt, zf_ex, gz_z, gz_s, slz_z, b_nm, setZ, asB_b, opz_dd, cpz_dd, dsOf_nil, dsOf_cons, biz_d, subz_dd, slz_dd, truthZ_d, boolZ_eq, isz, tyKnown, tyOk, cop, truth, itemD, slcD, bid, LV_hot, LV_gv, gv, Option.map_some, Option.bind_some, eqv_ls, eqv_sl, eqv_ii, eqv_snone, eqv_nones, eqv_sbool, eqv_bools, eqv_sint, eqv_ints, eqv_stuple, eqv_tuples, eqv_slist, eqv_lists, eqv_tt, eqv_LL, eqvA_nn, eqvA_nc, eqvA_cn, eqvA_xn, eqvA_cc, okD_int, okD_bool, okD_lit, okD_nilT, okD_nilL, ofString_inj, atI_0, atI_1, atI_2, atI_3, flatD, inD, zi_b, zi_o, zi_a, okD_T, badd, bsub, bmod, bfdiv, bmul, d_law_under, subz_r hM, ha, hM, ix2_0, Bi.walks]
    · have := Int.ediv_le_self m a1
      have := Int.ediv_nonneg a1 (show (0 : Int) ≤ m by omega)
      omega
  · obtain ⟨b', hb'⟩ : ∃ b' : Int, b' = (b * 39373 + 101) % 2147483629 := ⟨_, rfl⟩
    have e1 : 0 ≤ b' := by rw [hb']; exact Int.emod_nonneg _ (by omega)
    have e2 : b' < 2147483629 := by rw [hb']; exact Int.emod_lt_of_pos _ (by omega)
    refine ⟨(b' * (b' / 5 + 9) % 2147483587 / 32) % m, M.set n (.lst [.int a, .int b']), ?_, Int.emod_nonneg _ (by omega), Int.emod_lt_of_pos _ (by omega), Dr.mk' hM a1 a2 e1 (by omega)⟩
    · rw [s_law_under]
      have hN : (M.set n (.lst [.int a, .int b']))[n]? = some (.lst [.int a, .int b']) := get_set hM
      have e3 : bop .mul (.int b) (.int 39373) = some (.int (b * 39373)) := bmul (by omega) (by omega) (by omega) (by omega)
      have e4 : bop .mul (.int b') (.int (b' / 5 + 9)) = some (.int (b' * (b' / 5 + 9))) := bmul (by omega) (by omega) (by omega) (by omega)
      simp (disch := first | omega | (simp only [slen]; omega) | (simp [flatD, okD_int, okD_lit]; done) | fail) [evE, evEs, evAnd, evOr, evT, evTA, evTO, evC, evO, evI, evS, evSs, zb_ok, zb_ex, zb_bad, zb_of, zb_no, zt_ok, zt_ex, zt_bad, zc_ok, zc_bad, zo_nx, zo_rt, zo_ex, zo_bad, zf_nx, zf_rt, zf_ex, gz_z, gz_s, slz_z, b_nm, setZ, asB_b, opz_dd, cpz_dd, dsOf_nil, dsOf_cons, biz_d, subz_dd, slz_dd, truthZ_d, boolZ_eq, isz, tyKnown, tyOk, cop, truth, itemD, slcD, bid, LV_hot, LV_gv, gv, Option.map_some, Option.bind_some, eqv_ls, eqv_sl, eqv_ii, eqv_snone, eqv_nones, eqv_sbool, eqv_bools, eqv_sint, eqv_ints, eqv_stuple, eqv_tuples, eqv_slist, eqv_lists, eqv_tt, eqv_LL, eqvA_nn, eqvA_nc, eqvA_cn, eqvA_xn, eqvA_cc, okD_int, okD_bool, okD_lit, okD_nilT, okD_nilL, ofString_inj, atI_0, atI_1, atI_2, atI_3, flatD, inD, zi_b, zi_o, zi_a, okD_T, badd, bsub, bmod, bfdiv, bmul, d_law_under, subz_r hM, ha, hM, ix2_1, Bi.walks, e3, ← hb', subz_r hN, e4]
theorem f_vat (k : Nat) (ns : List Int) (j : Nat) (M : Mem) (hj : j ≤ 1000) (hz : ∀ z ∈ ns, Builtin.Int.intBits z ≤ 1048576) : ∃ M', (LV (k + 1)).fnW false i_law_vat (.scr ns) [.d (.int j)] M = .ok (.r M.length) M' ∧ Vt M' M.length ∧ M'.length = M.length + 1 ∧ ∀ i, i < M.length → M'[i]? = M[i]? := by
  have key : ∃ a b : Int, (LV (k + 1)).fnW false i_law_vat (.scr ns) [.d (.int j)] M = .ok (.r M.length) (M ++ [.lst [.int a, .int b]]) ∧ 0 ≤ a ∧ a.natAbs.log2 ≤ 1100000 ∧ 0 ≤ b ∧ b ≤ 2147483629 := by
    have p1 : bop .pow (.int 10) (.int 18) = some (.int 1000000000000000000) := by rfl
    have m1 : bop .mul (.int 7919) (.int (j : Int)) = some (.int (7919 * (j : Int))) := bmul (by omega) (by omega) (by omega) (by omega)
    have m2 : bop .mul (.int 8191) (.int (j : Int)) = some (.int (8191 * (j : Int))) := bmul (by omega) (by omega) (by omega) (by omega)
    have fin : ∀ c : Int, 0 ≤ c → c.natAbs.log2 ≤ 1100000 → 0 ≤ (if 1000000000000000000 ≤ c then c else 0) ∧ (if 1000000000000000000 ≤ c then c else 0).natAbs.log2 ≤ 1100000 ∧ 0 ≤ (c * 131071 + 8191 * (j : Int) + 5) % 2147483629 + 1 ∧ (c * 131071 + 8191 * (j : Int) + 5) % 2147483629 + 1 ≤ 2147483629 := fun c h1 h2 => by
      have q1 := Int.emod_nonneg (c * 131071 + 8191 * (j : Int) + 5) (show (2147483629 : Int) ≠ 0 by omega)
      have q2 := Int.emod_lt_of_pos (c * 131071 + 8191 * (j : Int) + 5) (show (0 : Int) < 2147483629 by omega)
      refine ⟨?_, ?_, by omega, by omega⟩
      · split <;> omega
      · split
        · exact h2
        · decide
    by_cases hn : j < ns.length
    · have hi : L2.atI ns (j : Int) = some ns[j] := by
        unfold L2.atI L2.ixN
        rw [if_pos (by omega), if_pos (by omega)]
        simp [List.getElem?_eq_getElem hn]
      obtain ⟨c, hc⟩ : ∃ c : Int, c = if ns[j] < 0 then -ns[j] else ns[j] := ⟨_, rfl⟩
      have hb := hz ns[j] (List.getElem_mem hn)
      have c1 : 0 ≤ c := by rw [hc]; split <;> omega
      have c2 : c.natAbs = ns[j].natAbs := by rw [hc]; split <;> omega
      have c3 : c.natAbs.log2 ≤ 1100000 := by
        rw [c2]
        unfold Builtin.Int.intBits at hb
        have : ns[j].natAbs.log2 ≤ ns[j].natAbs.log2 + 1 := by omega
        by_cases z : ns[j] = 0
        · rw [z]; decide
        · simp [z] at hb
          omega
      have m3 : bop .mul (.int c) (.int 131071) = some (.int (c * 131071)) := bmulL (by omega) (by omega) (by omega)
      refine ⟨_, _, ?_, fin c c1 c3⟩
      rw [s_law_vat]
      by_cases g : 1000000000000000000 ≤ c
      · simp (disch := first | omega | (simp only [slen]; omega) | (simp [flatD, okD_int, okD_lit]; done) | fail) [evE, evEs, evAnd, evOr, evT, evTA, evTO, evC, evO, evI, evS, evSs, zb_ok, zb_ex, zb_bad, zb_of, zb_no, zt_ok, zt_ex, zt_bad, zc_ok, zc_bad, zo_nx, zo_rt, zo_ex, zo_bad, zf_nx, zf_rt, zf_ex, gz_z, gz_s, slz_z, b_nm, setZ, asB_b, opz_dd, cpz_dd, dsOf_nil, dsOf_cons, biz_d, subz_dd, slz_dd, truthZ_d, boolZ_eq, isz, tyKnown, tyOk, cop, truth, itemD, slcD, bid, LV_hot, LV_gv, gv, Option.map_some, Option.bind_some, eqv_ls, eqv_sl, eqv_ii, eqv_snone, eqv_nones, eqv_sbool, eqv_bools, eqv_sint, eqv_ints, eqv_stuple, eqv_tuples, eqv_slist, eqv_lists, eqv_tt, eqv_LL, eqvA_nn, eqvA_nc, eqvA_cn, eqvA_xn, eqvA_cc, okD_int, okD_bool, okD_lit, okD_nilT, okD_nilL, ofString_inj, atI_0, atI_1, atI_2, atI_3, flatD, inD, zi_b, zi_o, zi_a, okD_T, badd, bsub, bmod, bfdiv, bmul, d_law_vat, hn, m1, m2, m3, p1, Bi.walks, hi, ← hc, g]
      · simp (disch := first | omega | (simp only [slen]; omega) | (simp [flatD, okD_int, okD_lit]; done) | fail) [evE, evEs, evAnd, evOr, evT, evTA, evTO, evC, evO, evI, evS, evSs, zb_ok, zb_ex, zb_bad, zb_of, zb_no, zt_ok, zt_ex, zt_bad, zc_ok, zc_bad, zo_nx, zo_rt, zo_ex, zo_bad, zf_nx, zf_rt, zf_ex, gz_z, gz_s, slz_z, b_nm, setZ, asB_b, opz_dd, cpz_dd, dsOf_nil, dsOf_cons, biz_d, subz_dd, slz_dd, truthZ_d, boolZ_eq, isz, tyKnown, tyOk, cop, truth, itemD, slcD, bid, LV_hot, LV_gv, gv, Option.map_some, Option.bind_some, eqv_ls, eqv_sl, eqv_ii, eqv_snone, eqv_nones, eqv_sbool, eqv_bools, eqv_sint, eqv_ints, eqv_stuple, eqv_tuples, eqv_slist, eqv_lists, eqv_tt, eqv_LL, eqvA_nn, eqvA_nc, eqvA_cn, eqvA_xn, eqvA_cc, okD_int, okD_bool, okD_lit, okD_nilT, okD_nilL, ofString_inj, atI_0, atI_1, atI_2, atI_3, flatD, inD, zi_b, zi_o, zi_a, okD_T, badd, bsub, bmod, bfdiv, bmul, d_law_vat, hn, m1, m2, m3, p1, Bi.walks, hi, ← hc, g]
    · obtain ⟨c, hc⟩ : ∃ c : Int, c = 7919 * (j : Int) + 43 := ⟨_, rfl⟩
      have c3 : c.natAbs.log2 ≤ 1100000 := by
        have : c.natAbs.log2 < 40 := log2_of (by omega) (by omega)
        omega
      have m3 : bop .mul (.int c) (.int 131071) = some (.int (c * 131071)) := bmulL (by omega) (by omega) (by omega)
      refine ⟨_, _, ?_, fin c (by omega) c3⟩
      rw [s_law_vat]
      by_cases g : 1000000000000000000 ≤ c
      · omega
      · simp (disch := first | omega | (simp only [slen]; omega) | (simp [flatD, okD_int, okD_lit]; done) | fail) [evE, evEs, evAnd, evOr, evT, evTA, evTO, evC, evO, evI, evS, evSs, zb_ok, zb_ex, zb_bad, zb_of, zb_no, zt_ok, zt_ex, zt_bad, zc_ok, zc_bad, zo_nx, zo_rt, zo_ex, zo_bad, zf_nx, zf_rt, zf_ex, gz_z, gz_s, slz_z, b_nm, setZ, asB_b, opz_dd, cpz_dd, dsOf_nil, dsOf_cons, biz_d, subz_dd, slz_dd, truthZ_d, boolZ_eq, isz, tyKnown, tyOk, cop, truth, itemD, slcD, bid, LV_hot, LV_gv, gv, Option.map_some, Option.bind_some, eqv_ls, eqv_sl, eqv_ii, eqv_snone, eqv_nones, eqv_sbool, eqv_bools, eqv_sint, eqv_ints, eqv_stuple, eqv_tuples, eqv_slist, eqv_lists, eqv_tt, eqv_LL, eqvA_nn, eqvA_nc, eqvA_cn, eqvA_xn, eqvA_cc, okD_int, okD_bool, okD_lit, okD_nilT, okD_nilL, ofString_inj, atI_0, atI_1, atI_2, atI_3, flatD, inD, zi_b, zi_o, zi_a, okD_T, badd, bsub, bmod, bfdiv, bmul, d_law_vat, hn, m1, m2, m3, p1, Bi.walks, ← hc, g]
  obtain ⟨a, b, e, h1, h2, h3, h4⟩ := key
  refine ⟨_, e, ⟨a, b, by simp, h1, h2, h3, h4⟩, by simp, fun i hi => ?_⟩
  rw [List.getElem?_append_left hi]
theorem f_some (k n : Nat) (xs : List D) (M : Mem) (h : Vt M n) (h1 : 1 ≤ xs.length) (h2 : xs.length ≤ 1000) : ∃ x M', (LV (k + 2)).fn false i_law_some [.r n, .d (.list xs)] M = .ok (.d x) M' ∧ x ∈ xs ∧ Dr n M M' := by
  obtain ⟨u, M', e, u1, u2, d⟩ := f_under k n (xs.length : Int) M h (by omega) (by omega)
  obtain ⟨x, hx, hm⟩ := atI_mem u1 u2
  refine ⟨x, M', ?_, hm, d⟩
  rw [s_law_some]
  simp (disch := first | omega | (simp only [slen]; omega) | (simp [flatD, okD_int, okD_lit]; done) | fail) [evE, evEs, evAnd, evOr, evT, evTA, evTO, evC, evO, evI, evS, evSs, zb_ok, zb_ex, zb_bad, zb_of, zb_no, zt_ok, zt_ex, zt_bad, zc_ok, zc_bad, zo_nx, zo_rt, zo_ex, zo_bad, zf_nx, zf_rt, zf_ex, gz_z, gz_s, slz_z, b_nm, setZ, asB_b, opz_dd, cpz_dd, dsOf_nil, dsOf_cons, biz_d, subz_dd, slz_dd, truthZ_d, boolZ_eq, isz, tyKnown, tyOk, cop, truth, itemD, slcD, bid, LV_hot, LV_gv, gv, Option.map_some, Option.bind_some, eqv_ls, eqv_sl, eqv_ii, eqv_snone, eqv_nones, eqv_sbool, eqv_bools, eqv_sint, eqv_ints, eqv_stuple, eqv_tuples, eqv_slist, eqv_lists, eqv_tt, eqv_LL, eqvA_nn, eqvA_nc, eqvA_cn, eqvA_xn, eqvA_cc, okD_int, okD_bool, okD_lit, okD_nilT, okD_nilL, ofString_inj, atI_0, atI_1, atI_2, atI_3, flatD, inD, zi_b, zi_o, zi_a, okD_T, badd, bsub, bmod, bfdiv, bmul, d_law_some, Bi.walks, e, hx]
end Lw
namespace Lw
open PySem Zt
def lcond : List D := [.tuple [.str "fits", .str "p", .int 1], .tuple [.str "fits", .str "q", .int 1], .tuple [.str "fits", .str "p", .int 2], .tuple [.str "rake", .int 1], .tuple [.str "rake", .int 3], .tuple [.str "some", .str "p"], .tuple [.str "turns"], .tuple [.str "head", .str "q", .str "a"], .tuple [.str "tail", .str "a"], .tuple [.str "tail", .str "b"], .tuple [.str "head", .str "p", .str "c"]]
theorem lcond_ok : ∀ x ∈ lcond, condB x = true := List.all_eq_true.mp (by decide +kernel)
def lsimp : List D := [.tuple [.str "push", .str "p", .int 1], .tuple [.str "push", .str "q", .int 1], .tuple [.str "push", .str "p", .int 2], .tuple [.str "push", .str "q", .int 3], .tuple [.str "push", .str "q", .int 1], .tuple [.str "push", .str "p", .int 1],
  .tuple [.str "pull", .str "p", .int 1], .tuple [.str "pull", .str "q", .int 2], .tuple [.str "pull", .str "p", .int 8], .tuple [.str "fill", .str "p"], .tuple [.str "fill", .str "q"], .tuple [.str "turn"]]
theorem lsimp_ok : ∀ x ∈ lsimp, plainB x = true := List.all_eq_true.mp (by decide +kernel)
theorem f_condition (k n : Nat) (M : Mem) (h : Vt M n) : ∃ x M', (LV (k + 3)).fn false i_law_condition [.r n] M = .ok (.d x) M' ∧ condB x = true ∧ Dr n M M' := by
  obtain ⟨x, M', e, hx, d⟩ := f_some k n lcond M h (by decide) (by decide)
  refine ⟨x, M', ?_, lcond_ok x hx, d⟩
  rw [s_law_condition]
  unfold lcond at e
  have q : (7 : Nat) + 4 ≤ slen := by decide
  simp [evE, evEs, evAnd, evOr, evT, evTA, evTO, evC, evO, evI, evS, evSs, zb_ok, zb_ex, zb_bad, zb_of, zb_no, zt_ok, zt_ex, zt_bad, zc_ok, zc_bad, zo_nx, zo_rt, zo_ex, zo_bad, zf_nx, zf_rt, zf_ex, gz_z, gz_s, slz_z, b_nm, setZ, asB_b, opz_dd, cpz_dd, dsOf_nil, dsOf_cons, biz_d, subz_dd, slz_dd, truthZ_d, boolZ_eq, isz, tyKnown, tyOk, bop, cop, truth, itemD, slcD, bid, LV_hot, LV_gv, gv, Option.map_some, Option.bind_some, eqv_ls, eqv_sl, eqv_ii, eqv_snone, eqv_nones, eqv_sbool, eqv_bools, eqv_sint, eqv_ints, eqv_stuple, eqv_tuples, eqv_slist, eqv_lists, eqv_tt, eqv_LL, eqvA_nn, eqvA_nc, eqvA_cn, eqvA_xn, eqvA_cc, okD_int, okD_bool, okD_lit, okD_nilT, okD_nilL, ofString_inj, atI_0, atI_1, atI_2, atI_3, flatD, inD, zi_b, zi_o, zi_a, okD_T, d_law_condition, e, slen]
theorem f_simple (k n : Nat) (M : Mem) (h : Vt M n) : ∃ x M', (LV (k + 3)).fn false i_law_simple [.r n] M = .ok (.d x) M' ∧ plainB x = true ∧ Dr n M M' := by
  obtain ⟨x, M', e, hx, d⟩ := f_some k n lsimp M h (by decide) (by decide)
  refine ⟨x, M', ?_, lsimp_ok x hx, d⟩
  rw [s_law_simple]
  unfold lsimp at e
  simp [evE, evEs, evAnd, evOr, evT, evTA, evTO, evC, evO, evI, evS, evSs, zb_ok, zb_ex, zb_bad, zb_of, zb_no, zt_ok, zt_ex, zt_bad, zc_ok, zc_bad, zo_nx, zo_rt, zo_ex, zo_bad, zf_nx, zf_rt, zf_ex, gz_z, gz_s, slz_z, b_nm, setZ, asB_b, opz_dd, cpz_dd, dsOf_nil, dsOf_cons, biz_d, subz_dd, slz_dd, truthZ_d, boolZ_eq, isz, tyKnown, tyOk, bop, cop, truth, itemD, slcD, bid, LV_hot, LV_gv, gv, Option.map_some, Option.bind_some, eqv_ls, eqv_sl, eqv_ii, eqv_snone, eqv_nones, eqv_sbool, eqv_bools, eqv_sint, eqv_ints, eqv_stuple, eqv_tuples, eqv_slist, eqv_lists, eqv_tt, eqv_LL, eqvA_nn, eqvA_nc, eqvA_cn, eqvA_xn, eqvA_cc, okD_int, okD_bool, okD_lit, okD_nilT, okD_nilL, ofString_inj, atI_0, atI_1, atI_2, atI_3, flatD, inD, zi_b, zi_o, zi_a, okD_T, d_law_simple, e, slen]
theorem f_body (k n : Nat) (M : Mem) (h : Vt M n) : ∃ ds M', (LV (k + 4)).fn false i_law_body [.r n] M = .ok (.d (.tuple ds)) M' ∧ (∀ x ∈ ds, plainB x = true) ∧ ds.length ≤ 2 ∧ Dr n M M' := by
  obtain ⟨u, M1, e, u1, u2, d⟩ := f_under (k + 2) n 3 M h (by omega) (by omega)
  obtain ⟨ds, M2, e2, i2, p2, l⟩ := lc_draw (cond := fun _ M' => R.ok true M') (elt := fun ρ' M' => evE (LV (k + 3)) e_law_body_1 ρ' M') (i := 1) (ρ := [.z (.r n), .no]) (I := fun M' => Dr n M1 M') (P := fun d => plainB d = true) (fun _ _ => rfl) (rngZ 0 u) M1 (Dr.refl d.v) fun z _ M' hI => by
    obtain ⟨x, M3, e3, hx, d3⟩ := f_simple k n M' hI.v
    exact ⟨x, M3, by simp [evE, evEs, evAnd, evOr, evT, evTA, evTO, evC, evO, evI, evS, evSs, zb_ok, zb_ex, zb_bad, zb_of, zb_no, zt_ok, zt_ex, zt_bad, zc_ok, zc_bad, zo_nx, zo_rt, zo_ex, zo_bad, zf_nx, zf_rt, zf_ex, gz_z, gz_s, slz_z, b_nm, setZ, asB_b, opz_dd, cpz_dd, dsOf_nil, dsOf_cons, biz_d, subz_dd, slz_dd, truthZ_d, boolZ_eq, isz, tyKnown, tyOk, bop, cop, truth, itemD, slcD, bid, LV_hot, LV_gv, gv, Option.map_some, Option.bind_some, eqv_ls, eqv_sl, eqv_ii, eqv_snone, eqv_nones, eqv_sbool, eqv_bools, eqv_sint, eqv_ints, eqv_stuple, eqv_tuples, eqv_slist, eqv_lists, eqv_tt, eqv_LL, eqvA_nn, eqvA_nc, eqvA_cn, eqvA_xn, eqvA_cc, okD_int, okD_bool, okD_lit, okD_nilT, okD_nilL, ofString_inj, atI_0, atI_1, atI_2, atI_3, flatD, inD, zi_b, zi_o, zi_a, okD_T, e_law_body_1, e3], hI.trans d3, hx⟩
  rw [rng_len] at l
  have q1 : u < 4611686018427387904 ∧ -4611686018427387904 ≤ u := by omega
  have q2 : u.toNat ≤ slen := by show _ ≤ 1000000; omega
  refine ⟨ds, M2, ?_, p2, by omega, d.trans i2⟩
  rw [s_law_body]
  simp [evE, evEs, evAnd, evOr, evT, evTA, evTO, evC, evO, evI, evS, evSs, zb_ok, zb_ex, zb_bad, zb_of, zb_no, zt_ok, zt_ex, zt_bad, zc_ok, zc_bad, zo_nx, zo_rt, zo_ex, zo_bad, zf_nx, zf_rt, zf_ex, gz_z, gz_s, slz_z, b_nm, setZ, asB_b, opz_dd, cpz_dd, dsOf_nil, dsOf_cons, biz_d, subz_dd, slz_dd, truthZ_d, boolZ_eq, isz, tyKnown, tyOk, bop, cop, truth, itemD, slcD, bid, LV_hot, LV_gv, gv, Option.map_some, Option.bind_some, eqv_ls, eqv_sl, eqv_ii, eqv_snone, eqv_nones, eqv_sbool, eqv_bools, eqv_sint, eqv_ints, eqv_stuple, eqv_tuples, eqv_slist, eqv_lists, eqv_tt, eqv_LL, eqvA_nn, eqvA_nc, eqvA_cn, eqvA_xn, eqvA_cc, okD_int, okD_bool, okD_lit, okD_nilT, okD_nilL, ofString_inj, atI_0, atI_1, atI_2, atI_3, flatD, inD, zi_b, zi_o, zi_a, okD_T, d_law_body, Bi.walks, e, q1, rng_len, q2, wipeE, e2]
theorem f_step (k n : Nat) (M : Mem) (h : Vt M n) : ∃ x M', (LV (k + 5)).fn false i_law_step [.r n] M = .ok (.d x) M' ∧ stepB x = true ∧ sizeD x ≤ 5 ∧ Dr n M M' := by
  obtain ⟨u, M1, e, u1, u2, d1⟩ := f_under (k + 3) n 8 M h (by omega) (by omega)
  rw [s_law_step]
  by_cases z0 : u = 0
  · subst z0
    obtain ⟨c, M2, ec, hc, d2⟩ := f_condition (k + 1) n M1 d1.v
    obtain ⟨a, M3, ea, ha, la, d3⟩ := f_body k n M2 d2.v
    obtain ⟨b, M4, eb, hb, lb, d4⟩ := f_body k n M3 d3.v
    refine ⟨.tuple [.str "if", c, .tuple a, .tuple b], M4, ?_, ?_, ?_, d1.trans (d2.trans (d3.trans d4))⟩
    · simp [evE, evEs, evAnd, evOr, evT, evTA, evTO, evC, evO, evI, evS, evSs, zb_ok, zb_ex, zb_bad, zb_of, zb_no, zt_ok, zt_ex, zt_bad, zc_ok, zc_bad, zo_nx, zo_rt, zo_ex, zo_bad, zf_nx, zf_rt, zf_ex, gz_z, gz_s, slz_z, b_nm, setZ, asB_b, opz_dd, cpz_dd, dsOf_nil, dsOf_cons, biz_d, subz_dd, slz_dd, truthZ_d, boolZ_eq, isz, tyKnown, tyOk, bop, cop, truth, itemD, slcD, bid, LV_hot, LV_gv, gv, Option.map_some, Option.bind_some, eqv_ls, eqv_sl, eqv_ii, eqv_snone, eqv_nones, eqv_sbool, eqv_bools, eqv_sint, eqv_ints, eqv_stuple, eqv_tuples, eqv_slist, eqv_lists, eqv_tt, eqv_LL, eqvA_nn, eqvA_nc, eqvA_cn, eqvA_xn, eqvA_cc, okD_int, okD_bool, okD_lit, okD_nilT, okD_nilL, ofString_inj, atI_0, atI_1, atI_2, atI_3, flatD, inD, zi_b, zi_o, zi_a, okD_T, d_law_step, e, ec, ea, eb]
    · simp [stepB, hc, bodyB_of ha (by omega), bodyB_of hb (by omega)]
    · simp [sizeD, itT]
      omega
  · by_cases z1 : u = 1
    · subst z1
      obtain ⟨c, M2, ec, hc, d2⟩ := f_condition (k + 1) n M1 d1.v
      obtain ⟨a, M3, ea, ha, la, d3⟩ := f_body k n M2 d2.v
      refine ⟨.tuple [.str "while", c, .tuple a], M3, ?_, ?_, ?_, d1.trans (d2.trans d3)⟩
      · simp [evE, evEs, evAnd, evOr, evT, evTA, evTO, evC, evO, evI, evS, evSs, zb_ok, zb_ex, zb_bad, zb_of, zb_no, zt_ok, zt_ex, zt_bad, zc_ok, zc_bad, zo_nx, zo_rt, zo_ex, zo_bad, zf_nx, zf_rt, zf_ex, gz_z, gz_s, slz_z, b_nm, setZ, asB_b, opz_dd, cpz_dd, dsOf_nil, dsOf_cons, biz_d, subz_dd, slz_dd, truthZ_d, boolZ_eq, isz, tyKnown, tyOk, bop, cop, truth, itemD, slcD, bid, LV_hot, LV_gv, gv, Option.map_some, Option.bind_some, eqv_ls, eqv_sl, eqv_ii, eqv_snone, eqv_nones, eqv_sbool, eqv_bools, eqv_sint, eqv_ints, eqv_stuple, eqv_tuples, eqv_slist, eqv_lists, eqv_tt, eqv_LL, eqvA_nn, eqvA_nc, eqvA_cn, eqvA_xn, eqvA_cc, okD_int, okD_bool, okD_lit, okD_nilT, okD_nilL, ofString_inj, atI_0, atI_1, atI_2, atI_3, flatD, inD, zi_b, zi_o, zi_a, okD_T, d_law_step, e, ec, ea]
      · simp [stepB, hc, bodyB_of ha (by omega), ofString_inj]
      · simp [sizeD, itT]
        omega
    · obtain ⟨x, M2, ex, hx, d2⟩ := f_simple (k + 1) n M1 d1.v
      exact ⟨x, M2, by simp [evE, evEs, evAnd, evOr, evT, evTA, evTO, evC, evO, evI, evS, evSs, zb_ok, zb_ex, zb_bad, zb_of, zb_no, zt_ok, zt_ex, zt_bad, zc_ok, zc_bad, zo_nx, zo_rt, zo_ex, zo_bad, zf_nx, zf_rt, zf_ex, gz_z, gz_s, slz_z, b_nm, setZ, asB_b, opz_dd, cpz_dd, dsOf_nil, dsOf_cons, biz_d, subz_dd, slz_dd, truthZ_d, boolZ_eq, isz, tyKnown, tyOk, bop, cop, truth, itemD, slcD, bid, LV_hot, LV_gv, gv, Option.map_some, Option.bind_some, eqv_ls, eqv_sl, eqv_ii, eqv_snone, eqv_nones, eqv_sbool, eqv_bools, eqv_sint, eqv_ints, eqv_stuple, eqv_tuples, eqv_slist, eqv_lists, eqv_tt, eqv_LL, eqvA_nn, eqvA_nc, eqvA_cn, eqvA_xn, eqvA_cc, okD_int, okD_bool, okD_lit, okD_nilT, okD_nilL, ofString_inj, atI_0, atI_1, atI_2, atI_3, flatD, inD, zi_b, zi_o, zi_a, okD_T, d_law_step, e, ex, z0, z1], stepB_pl hx, by rw [sizeD_pl hx]; omega, d1.trans d2⟩
theorem size_step (k : Nat) (a0 : Sl) (M : Mem) (d : D) (hd : stepB d = true) (ho : okD d = true) (t : Int) (s3 : Sl) : evSs (LV k) b_law_size_1 [a0, .z (.d (.int t)), .z (.d d), s3] M = .nx [a0, .z (.d (.int (t + (sizeD d : Int) - 1))), .z (.d d), s3] M := by
  rcases stepB_cases hd with ⟨h, s, r, rfl, h1, h2⟩ | ⟨c, a, b, rfl, hc, la, lb, ha, hb⟩ | ⟨c, a, rfl, hc, la, ha⟩
  · have hs : okD (.str s) = true := okD_flat ho (List.mem_cons_self ..)
    rw [sizeD_pl h]
    simp [evE, evEs, evAnd, evOr, evT, evTA, evTO, evC, evO, evI, evS, evSs, zb_ok, zb_ex, zb_bad, zb_of, zb_no, zt_ok, zt_ex, zt_bad, zc_ok, zc_bad, zo_nx, zo_rt, zo_ex, zo_bad, zf_nx, zf_rt, zf_ex, gz_z, gz_s, slz_z, b_nm, setZ, asB_b, opz_dd, cpz_dd, dsOf_nil, dsOf_cons, biz_d, subz_dd, slz_dd, truthZ_d, boolZ_eq, isz, tyKnown, tyOk, bop, cop, truth, itemD, slcD, bid, LV_hot, LV_gv, gv, Option.map_some, Option.bind_some, eqv_ls, eqv_sl, eqv_ii, eqv_snone, eqv_nones, eqv_sbool, eqv_bools, eqv_sint, eqv_ints, eqv_stuple, eqv_tuples, eqv_slist, eqv_lists, eqv_tt, eqv_LL, eqvA_nn, eqvA_nc, eqvA_cn, eqvA_xn, eqvA_cc, okD_int, okD_bool, okD_lit, okD_nilT, okD_nilL, ofString_inj, atI_0, atI_1, atI_2, atI_3, flatD, inD, zi_b, zi_o, zi_a, okD_T, b_law_size_1, h1, h2]
  · have e : lcL (fun ρ' M' => R.ok true M') (fun ρ' M' => evE (LV k) e_law_size_1 ρ' M') (.nm 3) [a0, .z (.d (.int t)), .z (.d (.tuple [.str "if", c, .tuple a, .tuple b])), .no] ([(.tuple a : D), .tuple b].map .d) M = .ok (([(.tuple a : D), .tuple b].filter fun _ => true).map fun d => .int ((itT d).length : Int)) M := by
      refine lc_pure _ (fun d hd => rfl) (fun d hd _ => ?_)
      simp at hd
      rcases hd with rfl | rfl <;> simp [evE, evEs, evAnd, evOr, evT, evTA, evTO, evC, evO, evI, evS, evSs, zb_ok, zb_ex, zb_bad, zb_of, zb_no, zt_ok, zt_ex, zt_bad, zc_ok, zc_bad, zo_nx, zo_rt, zo_ex, zo_bad, zf_nx, zf_rt, zf_ex, gz_z, gz_s, slz_z, b_nm, setZ, asB_b, opz_dd, cpz_dd, dsOf_nil, dsOf_cons, biz_d, subz_dd, slz_dd, truthZ_d, boolZ_eq, isz, tyKnown, tyOk, bop, cop, truth, itemD, slcD, bid, LV_hot, LV_gv, gv, Option.map_some, Option.bind_some, eqv_ls, eqv_sl, eqv_ii, eqv_snone, eqv_nones, eqv_sbool, eqv_bools, eqv_sint, eqv_ints, eqv_stuple, eqv_tuples, eqv_slist, eqv_lists, eqv_tt, eqv_LL, eqvA_nn, eqvA_nc, eqvA_cn, eqvA_xn, eqvA_cc, okD_int, okD_bool, okD_lit, okD_nilT, okD_nilL, ofString_inj, atI_0, atI_1, atI_2, atI_3, flatD, inD, zi_b, zi_o, zi_a, okD_T, e_law_size_1, Bi.walks, itT]
    have ec : cut [(.str "if" : D), c, .tuple a, .tuple b] (some 2) none = [.tuple a, .tuple b] := rfl
    have q : (2 : Nat) ≤ slen := by decide
    simp at e
    simp [evE, evEs, evAnd, evOr, evT, evTA, evTO, evC, evO, evI, evS, evSs, zb_ok, zb_ex, zb_bad, zb_of, zb_no, zt_ok, zt_ex, zt_bad, zc_ok, zc_bad, zo_nx, zo_rt, zo_ex, zo_bad, zf_nx, zf_rt, zf_ex, gz_z, gz_s, slz_z, b_nm, setZ, asB_b, opz_dd, cpz_dd, dsOf_nil, dsOf_cons, biz_d, subz_dd, slz_dd, truthZ_d, boolZ_eq, isz, tyKnown, tyOk, bop, cop, truth, itemD, slcD, bid, LV_hot, LV_gv, gv, Option.map_some, Option.bind_some, eqv_ls, eqv_sl, eqv_ii, eqv_snone, eqv_nones, eqv_sbool, eqv_bools, eqv_sint, eqv_ints, eqv_stuple, eqv_tuples, eqv_slist, eqv_lists, eqv_tt, eqv_LL, eqvA_nn, eqvA_nc, eqvA_cn, eqvA_xn, eqvA_cc, okD_int, okD_bool, okD_lit, okD_nilT, okD_nilL, ofString_inj, atI_0, atI_1, atI_2, atI_3, flatD, inD, zi_b, zi_o, zi_a, okD_T, b_law_size_1, ec, itH, itemsOf, wipeE, q, Bi.walks, e, intsOf, sizeD, itT]
    omega
  · have e : lcL (fun ρ' M' => R.ok true M') (fun ρ' M' => evE (LV k) e_law_size_1 ρ' M') (.nm 3) [a0, .z (.d (.int t)), .z (.d (.tuple [.str "while", c, .tuple a])), .no] ([(.tuple a : D)].map .d) M = .ok (([(.tuple a : D)].filter fun _ => true).map fun d => .int ((itT d).length : Int)) M := by
      refine lc_pure _ (fun d hd => rfl) (fun d hd _ => ?_)
      simp at hd
      rcases hd with rfl
      simp [evE, evEs, evAnd, evOr, evT, evTA, evTO, evC, evO, evI, evS, evSs, zb_ok, zb_ex, zb_bad, zb_of, zb_no, zt_ok, zt_ex, zt_bad, zc_ok, zc_bad, zo_nx, zo_rt, zo_ex, zo_bad, zf_nx, zf_rt, zf_ex, gz_z, gz_s, slz_z, b_nm, setZ, asB_b, opz_dd, cpz_dd, dsOf_nil, dsOf_cons, biz_d, subz_dd, slz_dd, truthZ_d, boolZ_eq, isz, tyKnown, tyOk, bop, cop, truth, itemD, slcD, bid, LV_hot, LV_gv, gv, Option.map_some, Option.bind_some, eqv_ls, eqv_sl, eqv_ii, eqv_snone, eqv_nones, eqv_sbool, eqv_bools, eqv_sint, eqv_ints, eqv_stuple, eqv_tuples, eqv_slist, eqv_lists, eqv_tt, eqv_LL, eqvA_nn, eqvA_nc, eqvA_cn, eqvA_xn, eqvA_cc, okD_int, okD_bool, okD_lit, okD_nilT, okD_nilL, ofString_inj, atI_0, atI_1, atI_2, atI_3, flatD, inD, zi_b, zi_o, zi_a, okD_T, e_law_size_1, Bi.walks, itT]
    have ec : cut [(.str "while" : D), c, .tuple a] (some 2) none = [.tuple a] := rfl
    have q : (1 : Nat) ≤ slen := by decide
    simp at e
    simp [evE, evEs, evAnd, evOr, evT, evTA, evTO, evC, evO, evI, evS, evSs, zb_ok, zb_ex, zb_bad, zb_of, zb_no, zt_ok, zt_ex, zt_bad, zc_ok, zc_bad, zo_nx, zo_rt, zo_ex, zo_bad, zf_nx, zf_rt, zf_ex, gz_z, gz_s, slz_z, b_nm, setZ, asB_b, opz_dd, cpz_dd, dsOf_nil, dsOf_cons, biz_d, subz_dd, slz_dd, truthZ_d, boolZ_eq, isz, tyKnown, tyOk, bop, cop, truth, itemD, slcD, bid, LV_hot, LV_gv, gv, Option.map_some, Option.bind_some, eqv_ls, eqv_sl, eqv_ii, eqv_snone, eqv_nones, eqv_sbool, eqv_bools, eqv_sint, eqv_ints, eqv_stuple, eqv_tuples, eqv_slist, eqv_lists, eqv_tt, eqv_LL, eqvA_nn, eqvA_nc, eqvA_cn, eqvA_xn, eqvA_cc, okD_int, okD_bool, okD_lit, okD_nilT, okD_nilL, ofString_inj, atI_0, atI_1, atI_2, atI_3, flatD, inD, zi_b, zi_o, zi_a, okD_T, b_law_size_1, ec, itH, itemsOf, wipeE, q, Bi.walks, e, intsOf, sizeD, itT]
    omega
theorem size_loop (k : Nat) (a0 s3 : Sl) (M : Mem) : ∀ (xs : List D) (t : Int) (s2 : Sl), (∀ x ∈ xs, stepB x = true ∧ okD x = true) → ∃ s', forL (fun ρ' M' => evSs (LV k) b_law_size_1 ρ' M') (.nm 2) (xs.map .d) [a0, .z (.d (.int t)), s2, s3] M = .nx [a0, .z (.d (.int (t + (sizes xs : Int) - xs.length))), s', s3] M
  | [], t, s2, _ => ⟨s2, by simp [for_nil, sizes]⟩
  | x :: xs, t, s2, h => by
    obtain ⟨h1, h2⟩ := h x (List.mem_cons_self ..)
    obtain ⟨s', e⟩ := size_loop k a0 s3 M xs (t + (sizeD x : Int) - 1) (.z (.d x)) fun y hy => h y (List.mem_cons_of_mem _ hy)
    refine ⟨s', ?_⟩
    rw [List.map_cons, for_cons]
    show (evSs (LV k) b_law_size_1 [a0, .z (.d (.int t)), .z (.d x), s3] M).bind _ = _
    rw [size_step k a0 M x h1 h2, zo_nx, e]
    have : t + (sizeD x : Int) - 1 + (sizes xs : Int) - (xs.length : Int) = t + (sizes (x :: xs) : Int) - ((x :: xs).length : Int) := by
      simp [sizes]
      omega
    rw [this]
theorem f_size (k : Nat) (xs : List D) (M : Mem) (h : ∀ x ∈ xs, stepB x = true ∧ okD x = true) : (LV (k + 1)).fn false i_law_size [.d (.tuple xs)] M = .ok (.d (.int (sizes xs))) M := by
  rw [s_law_size]
  obtain ⟨s', e⟩ := size_loop k (.z (.d (.tuple xs))) .no M xs xs.length .no h
  simp [evE, evEs, evAnd, evOr, evT, evTA, evTO, evC, evO, evI, evS, evSs, zb_ok, zb_ex, zb_bad, zb_of, zb_no, zt_ok, zt_ex, zt_bad, zc_ok, zc_bad, zo_nx, zo_rt, zo_ex, zo_bad, zf_nx, zf_rt, zf_ex, gz_z, gz_s, slz_z, b_nm, setZ, asB_b, opz_dd, cpz_dd, dsOf_nil, dsOf_cons, biz_d, subz_dd, slz_dd, truthZ_d, boolZ_eq, isz, tyKnown, tyOk, bop, cop, truth, itemD, slcD, bid, LV_hot, LV_gv, gv, Option.map_some, Option.bind_some, eqv_ls, eqv_sl, eqv_ii, eqv_snone, eqv_nones, eqv_sbool, eqv_bools, eqv_sint, eqv_ints, eqv_stuple, eqv_tuples, eqv_slist, eqv_lists, eqv_tt, eqv_LL, eqvA_nn, eqvA_nc, eqvA_cn, eqvA_xn, eqvA_cc, okD_int, okD_bool, okD_lit, okD_nilT, okD_nilL, ofString_inj, atI_0, atI_1, atI_2, atI_3, flatD, inD, zi_b, zi_o, zi_a, okD_T, d_law_size, itH, itemsOf, Bi.walks, e]
  omega
theorem f_script (k n : Nat) (M : Mem) (h : Vt M n) : ∃ xs M', (LV (k + 6)).fn false i_law_script [.r n, .d (.int 6)] M = .ok (.d (.tuple xs)) M' ∧ scriptB (.tuple xs) = true ∧ Dr n M M' := by
  obtain ⟨u, M1, e, u1, u2, d⟩ := f_under (k + 4) n 7 M h (by omega) (by omega)
  obtain ⟨ds, M2, e2, i2, p2, l⟩ := lc_draw (cond := fun _ M' => R.ok true M') (elt := fun ρ' M' => evE (LV (k + 5)) e_law_script_1 ρ' M') (i := 3) (ρ := [.z (.r n), .z (.d (.int 6)), .no, .no]) (I := fun M' => Dr n M1 M') (P := fun d => stepB d = true ∧ sizeD d ≤ 5) (fun _ _ => rfl) (rngZ 0 u) M1 (Dr.refl d.v) fun z _ M' hI => by
    obtain ⟨x, M3, e3, hx, hs, d3⟩ := f_step k n M' hI.v
    exact ⟨x, M3, by simp [evE, evEs, evAnd, evOr, evT, evTA, evTO, evC, evO, evI, evS, evSs, zb_ok, zb_ex, zb_bad, zb_of, zb_no, zt_ok, zt_ex, zt_bad, zc_ok, zc_bad, zo_nx, zo_rt, zo_ex, zo_bad, zf_nx, zf_rt, zf_ex, gz_z, gz_s, slz_z, b_nm, setZ, asB_b, opz_dd, cpz_dd, dsOf_nil, dsOf_cons, biz_d, subz_dd, slz_dd, truthZ_d, boolZ_eq, isz, tyKnown, tyOk, bop, cop, truth, itemD, slcD, bid, LV_hot, LV_gv, gv, Option.map_some, Option.bind_some, eqv_ls, eqv_sl, eqv_ii, eqv_snone, eqv_nones, eqv_sbool, eqv_bools, eqv_sint, eqv_ints, eqv_stuple, eqv_tuples, eqv_slist, eqv_lists, eqv_tt, eqv_LL, eqvA_nn, eqvA_nc, eqvA_cn, eqvA_xn, eqvA_cc, okD_int, okD_bool, okD_lit, okD_nilT, okD_nilL, ofString_inj, atI_0, atI_1, atI_2, atI_3, flatD, inD, zi_b, zi_o, zi_a, okD_T, e_law_script_1, e3], hI.trans d3, hx, hs⟩
  rw [rng_len] at l
  have q1 : u < 4611686018427387904 ∧ -4611686018427387904 ≤ u := by omega
  have q2 : u.toNat ≤ slen := by show _ ≤ 1000000; omega
  have e4 := f_size (k + 4) ds M2 fun x hx => ⟨(p2 x hx).1, okD_step (p2 x hx).1⟩
  rw [s_law_script]
  by_cases hs : sizes ds < 13
  · refine ⟨ds, M2, ?_, ?_, d.trans i2⟩
    · have q3 : (sizes ds : Int) < 13 := by omega
      simp [evE, evEs, evAnd, evOr, evT, evTA, evTO, evC, evO, evI, evS, evSs, zb_ok, zb_ex, zb_bad, zb_of, zb_no, zt_ok, zt_ex, zt_bad, zc_ok, zc_bad, zo_nx, zo_rt, zo_ex, zo_bad, zf_nx, zf_rt, zf_ex, gz_z, gz_s, slz_z, b_nm, setZ, asB_b, opz_dd, cpz_dd, dsOf_nil, dsOf_cons, biz_d, subz_dd, slz_dd, truthZ_d, boolZ_eq, isz, tyKnown, tyOk, bop, cop, truth, itemD, slcD, bid, LV_hot, LV_gv, gv, Option.map_some, Option.bind_some, eqv_ls, eqv_sl, eqv_ii, eqv_snone, eqv_nones, eqv_sbool, eqv_bools, eqv_sint, eqv_ints, eqv_stuple, eqv_tuples, eqv_slist, eqv_lists, eqv_tt, eqv_LL, eqvA_nn, eqvA_nc, eqvA_cn, eqvA_xn, eqvA_cc, okD_int, okD_bool, okD_lit, okD_nilT, okD_nilL, ofString_inj, atI_0, atI_1, atI_2, atI_3, flatD, inD, zi_b, zi_o, zi_a, okD_T, d_law_script, Bi.walks, e, q1, rng_len, q2, wipeE, e2, e4, q3]
    · simp only [scriptB, Bool.and_eq_true, decide_eq_true_eq, List.all_eq_true]
      exact ⟨⟨by omega, fun x hx => (p2 x hx).1⟩, by omega⟩
  · refine ⟨ds.take 2, M2, ?_, ?_, d.trans i2⟩
    · have q3 : ¬ ((sizes ds : Int) < 13) := by omega
      have ec : cut ds none (some 2) = ds.take 2 := by
        unfold cut
        have e1 : HT.sIx ds.length 0 none = 0 := rfl
        have e2 : HT.sIx ds.length ds.length (some 2) = min 2 ds.length := by simp [HT.sIx]
        rw [e1, e2]
        simp [List.take_eq_take_iff]
      simp [evE, evEs, evAnd, evOr, evT, evTA, evTO, evC, evO, evI, evS, evSs, zb_ok, zb_ex, zb_bad, zb_of, zb_no, zt_ok, zt_ex, zt_bad, zc_ok, zc_bad, zo_nx, zo_rt, zo_ex, zo_bad, zf_nx, zf_rt, zf_ex, gz_z, gz_s, slz_z, b_nm, setZ, asB_b, opz_dd, cpz_dd, dsOf_nil, dsOf_cons, biz_d, subz_dd, slz_dd, truthZ_d, boolZ_eq, isz, tyKnown, tyOk, bop, cop, truth, itemD, slcD, bid, LV_hot, LV_gv, gv, Option.map_some, Option.bind_some, eqv_ls, eqv_sl, eqv_ii, eqv_snone, eqv_nones, eqv_sbool, eqv_bools, eqv_sint, eqv_ints, eqv_stuple, eqv_tuples, eqv_slist, eqv_lists, eqv_tt, eqv_LL, eqvA_nn, eqvA_nc, eqvA_cn, eqvA_xn, eqvA_cc, okD_int, okD_bool, okD_lit, okD_nilT, okD_nilL, ofString_inj, atI_0, atI_1, atI_2, atI_3, flatD, inD, zi_b, zi_o, zi_a, okD_T, d_law_script, Bi.walks, e, q1, rng_len, q2, wipeE, e2, e4, q3, ec]
    · have hm : ∀ x ∈ ds.take 2, stepB x = true ∧ sizeD x ≤ 5 := fun x hx => p2 x (List.mem_of_mem_take hx)
      have hz := sizes_le (n := 5) fun x hx => (hm x hx).2
      have hl : (ds.take 2).length ≤ 2 := by rw [List.length_take]; omega
      simp only [scriptB, Bool.and_eq_true, decide_eq_true_eq, List.all_eq_true]
      exact ⟨⟨by omega, fun x hx => (hm x hx).1⟩, by omega⟩
end Lw
namespace Lw
open PySem Zt
/-- an error of a class by itself -/
theorem f_errorC (c : Nat) (w : Str) (hc : L.sub (cix L.cls c) 0 = true) (hn : ∀ k M, (LH (k + 1)).fnW true i_law_names (.exc ⟨c, []⟩) [] M = .ok (.d (.str w)) M) (k : Nat) (b : E) (cap : List (Option Z)) (M M' : Mem) (h : evE (LV (k + 2)) b (ofCap cap) M = .ex ⟨c, []⟩ M') : (LV (k + 4)).fnL i_law_error [] [] b cap M = .ok (.d (.str w)) M' := by
  rw [s_law_error]
  have e1 : (LV (k + 3)).clo [] b cap [] M = .ex ⟨c, []⟩ M' := (s_clo (k + 2) b cap M).trans h
  have e2 := hn (k + 2) M'
  simp [evE, evEs, evAnd, evOr, evT, evTA, evTO, evC, evO, evI, evS, evSs, zb_ok, zb_ex, zb_bad, zb_of, zb_no, zt_ok, zt_ex, zt_bad, zc_ok, zc_bad, zo_nx, zo_rt, zo_ex, zo_bad, zf_nx, zf_rt, zf_ex, gz_z, gz_s, slz_z, b_nm, setZ, asB_b, opz_dd, cpz_dd, dsOf_nil, dsOf_cons, biz_d, subz_dd, slz_dd, truthZ_d, boolZ_eq, isz, tyKnown, tyOk, bop, cop, truth, itemD, slcD, bid, LV_hot, LV_gv, gv, Option.map_some, Option.bind_some, eqv_ls, eqv_sl, eqv_ii, eqv_snone, eqv_nones, eqv_sbool, eqv_bools, eqv_sint, eqv_ints, eqv_stuple, eqv_tuples, eqv_slist, eqv_lists, eqv_tt, eqv_LL, eqvA_nn, eqvA_nc, eqvA_cn, eqvA_xn, eqvA_cc, okD_int, okD_bool, okD_lit, okD_nilT, okD_nilL, ofString_inj, atI_0, atI_1, atI_2, atI_3, flatD, inD, zi_b, zi_o, zi_a, okD_T, d_law_error, e1, LV_heat, LV_sub, hc, LH_hot, e2, O.noex]
theorem f_errorN (k : Nat) (b : E) (cap : List (Option Z)) (z : Z) (M M' : Mem) (h : evE (LV (k + 2)) b (ofCap cap) M = .ok z M') : (LV (k + 4)).fnL i_law_error [] [] b cap M = .ok (.d (.str "")) M' := by
  rw [s_law_error]
  have e1 : (LV (k + 3)).clo [] b cap [] M = .ok z M' := (s_clo (k + 2) b cap M).trans h
  simp [evE, evEs, evAnd, evOr, evT, evTA, evTO, evC, evO, evI, evS, evSs, zb_ok, zb_ex, zb_bad, zb_of, zb_no, zt_ok, zt_ex, zt_bad, zc_ok, zc_bad, zo_nx, zo_rt, zo_ex, zo_bad, zf_nx, zf_rt, zf_ex, gz_z, gz_s, slz_z, b_nm, setZ, asB_b, opz_dd, cpz_dd, dsOf_nil, dsOf_cons, biz_d, subz_dd, slz_dd, truthZ_d, boolZ_eq, isz, tyKnown, tyOk, bop, cop, truth, itemD, slcD, bid, LV_hot, LV_gv, gv, Option.map_some, Option.bind_some, eqv_ls, eqv_sl, eqv_ii, eqv_snone, eqv_nones, eqv_sbool, eqv_bools, eqv_sint, eqv_ints, eqv_stuple, eqv_tuples, eqv_slist, eqv_lists, eqv_tt, eqv_LL, eqvA_nn, eqvA_nc, eqvA_cn, eqvA_xn, eqvA_cc, okD_int, okD_bool, okD_lit, okD_nilT, okD_nilL, ofString_inj, atI_0, atI_1, atI_2, atI_3, flatD, inD, zi_b, zi_o, zi_a, okD_T, d_law_error, e1]
end Lw
namespace Lw
open PySem Zt
theorem f_law_is_whole (k : Nat) (v : D) (lo hi : Int) (M : Mem) (h : okD v = true) : (LV (k + 1)).fn false i_law_is_whole [.d v, .d (.int lo), .d (.int hi)] M = .ok (.d (.bool (wholeB v lo hi))) M := by
  rw [s_law_is_whole]
  cases v
  case int i => by_cases h1 : lo ≤ i <;> simp [evE, evEs, evAnd, evOr, evT, evTA, evTO, evC, evO, evI, evS, evSs, zb_ok, zb_ex, zb_bad, zb_of, zb_no, zt_ok, zt_ex, zt_bad, zc_ok, zc_bad, zo_nx, zo_rt, zo_ex, zo_bad, zf_nx, zf_rt, zf_ex, gz_z, gz_s, slz_z, b_nm, setZ, asB_b, opz_dd, cpz_dd, dsOf_nil, dsOf_cons, biz_d, subz_dd, slz_dd, truthZ_d, boolZ_eq, isz, tyKnown, tyOk, bop, cop, truth, itemD, slcD, bid, LV_hot, LV_gv, gv, Option.map_some, Option.bind_some, eqv_ls, eqv_sl, eqv_ii, eqv_snone, eqv_nones, eqv_sbool, eqv_bools, eqv_sint, eqv_ints, eqv_stuple, eqv_tuples, eqv_slist, eqv_lists, eqv_tt, eqv_LL, eqvA_nn, eqvA_nc, eqvA_cn, eqvA_xn, eqvA_cc, okD_int, okD_bool, okD_lit, okD_nilT, okD_nilL, ofString_inj, atI_0, atI_1, atI_2, atI_3, flatD, inD, zi_b, zi_o, zi_a, okD_T, d_law_is_whole, wholeB, h1]
  case dict kvs => simp [okD, SeqAt.shaped, PyData.canLay0] at h
  all_goals simp [evE, evEs, evAnd, evOr, evT, evTA, evTO, evC, evO, evI, evS, evSs, zb_ok, zb_ex, zb_bad, zb_of, zb_no, zt_ok, zt_ex, zt_bad, zc_ok, zc_bad, zo_nx, zo_rt, zo_ex, zo_bad, zf_nx, zf_rt, zf_ex, gz_z, gz_s, slz_z, b_nm, setZ, asB_b, opz_dd, cpz_dd, dsOf_nil, dsOf_cons, biz_d, subz_dd, slz_dd, truthZ_d, boolZ_eq, isz, tyKnown, tyOk, bop, cop, truth, itemD, slcD, bid, LV_hot, LV_gv, gv, Option.map_some, Option.bind_some, eqv_ls, eqv_sl, eqv_ii, eqv_snone, eqv_nones, eqv_sbool, eqv_bools, eqv_sint, eqv_ints, eqv_stuple, eqv_tuples, eqv_slist, eqv_lists, eqv_tt, eqv_LL, eqvA_nn, eqvA_nc, eqvA_cn, eqvA_xn, eqvA_cc, okD_int, okD_bool, okD_lit, okD_nilT, okD_nilL, ofString_inj, atI_0, atI_1, atI_2, atI_3, flatD, inD, zi_b, zi_o, zi_a, okD_T, d_law_is_whole, wholeB]
theorem f_law_is_end (k : Nat) (v : D) (ws : List D) (M : Mem) (h : okD v = true) (hw : ws.all flatD = true) : (LV (k + 1)).fn false i_law_is_end [.d v, .d (.list ws)] M = .ok (.d (.bool (wordB v ws))) M := by
  rw [s_law_is_end]
  cases v <;> simp [evE, evEs, evAnd, evOr, evT, evTA, evTO, evC, evO, evI, evS, evSs, zb_ok, zb_ex, zb_bad, zb_of, zb_no, zt_ok, zt_ex, zt_bad, zc_ok, zc_bad, zo_nx, zo_rt, zo_ex, zo_bad, zf_nx, zf_rt, zf_ex, gz_z, gz_s, slz_z, b_nm, setZ, asB_b, opz_dd, cpz_dd, dsOf_nil, dsOf_cons, biz_d, subz_dd, slz_dd, truthZ_d, boolZ_eq, isz, tyKnown, tyOk, bop, cop, truth, itemD, slcD, bid, LV_hot, LV_gv, gv, Option.map_some, Option.bind_some, eqv_ls, eqv_sl, eqv_ii, eqv_snone, eqv_nones, eqv_sbool, eqv_bools, eqv_sint, eqv_ints, eqv_stuple, eqv_tuples, eqv_slist, eqv_lists, eqv_tt, eqv_LL, eqvA_nn, eqvA_nc, eqvA_cn, eqvA_xn, eqvA_cc, okD_int, okD_bool, okD_lit, okD_nilT, okD_nilL, ofString_inj, atI_0, atI_1, atI_2, atI_3, flatD, inD, zi_b, zi_o, zi_a, okD_T, d_law_is_end, wordB, hw]
  · simp [okD, SeqAt.shaped, PyData.canLay0] at h
theorem f_law_is_simple (k : Nat) (v : D) (M : Mem) (h : okD v = true) : (LV (k + 2)).fn false i_law_is_simple [.d v] M = .ok (.d (.bool (plainB v))) M := by
  rw [s_law_is_simple]
  cases v
  case tuple xs =>
    cases xs with
    | nil => simp [evE, evEs, evAnd, evOr, evT, evTA, evTO, evC, evO, evI, evS, evSs, zb_ok, zb_ex, zb_bad, zb_of, zb_no, zt_ok, zt_ex, zt_bad, zc_ok, zc_bad, zo_nx, zo_rt, zo_ex, zo_bad, zf_nx, zf_rt, zf_ex, gz_z, gz_s, slz_z, b_nm, setZ, asB_b, opz_dd, cpz_dd, dsOf_nil, dsOf_cons, biz_d, subz_dd, slz_dd, truthZ_d, boolZ_eq, isz, tyKnown, tyOk, bop, cop, truth, itemD, slcD, bid, LV_hot, LV_gv, gv, Option.map_some, Option.bind_some, eqv_ls, eqv_sl, eqv_ii, eqv_snone, eqv_nones, eqv_sbool, eqv_bools, eqv_sint, eqv_ints, eqv_stuple, eqv_tuples, eqv_slist, eqv_lists, eqv_tt, eqv_LL, eqvA_nn, eqvA_nc, eqvA_cn, eqvA_xn, eqvA_cc, okD_int, okD_bool, okD_lit, okD_nilT, okD_nilL, ofString_inj, atI_0, atI_1, atI_2, atI_3, flatD, inD, zi_b, zi_o, zi_a, okD_T, d_law_is_simple, plainB, h]
    | cons x r =>
      cases x
      case str s =>
        have hs : okD (.str s) = true := okD_flat h (List.mem_cons_self ..)
        have h1 : s = "pull" ∨ s = "push" ∨ s = "fill" ∨ (s ≠ "pull" ∧ s ≠ "push" ∧ s ≠ "fill") := by
          by_cases a : s = "pull" <;> by_cases b : s = "push" <;> by_cases c : s = "fill" <;> simp [a, b, c]
        match r, h with
        | [], h => rcases h1 with rfl | rfl | rfl | ⟨h1, h2, h3⟩ <;> simp [evE, evEs, evAnd, evOr, evT, evTA, evTO, evC, evO, evI, evS, evSs, zb_ok, zb_ex, zb_bad, zb_of, zb_no, zt_ok, zt_ex, zt_bad, zc_ok, zc_bad, zo_nx, zo_rt, zo_ex, zo_bad, zf_nx, zf_rt, zf_ex, gz_z, gz_s, slz_z, b_nm, setZ, asB_b, opz_dd, cpz_dd, dsOf_nil, dsOf_cons, biz_d, subz_dd, slz_dd, truthZ_d, boolZ_eq, isz, tyKnown, tyOk, bop, cop, truth, itemD, slcD, bid, LV_hot, LV_gv, gv, Option.map_some, Option.bind_some, eqv_ls, eqv_sl, eqv_ii, eqv_snone, eqv_nones, eqv_sbool, eqv_bools, eqv_sint, eqv_ints, eqv_stuple, eqv_tuples, eqv_slist, eqv_lists, eqv_tt, eqv_LL, eqvA_nn, eqvA_nc, eqvA_cn, eqvA_xn, eqvA_cc, okD_int, okD_bool, okD_lit, okD_nilT, okD_nilL, ofString_inj, atI_0, atI_1, atI_2, atI_3, flatD, inD, zi_b, zi_o, zi_a, okD_T, d_law_is_simple, plainB, h, hs, *]
        | [a], h =>
          have ha : okD a = true := okD_flat h (by simp)
          rcases h1 with rfl | rfl | rfl | ⟨h1, h2, h3⟩ <;> cases hc : sidB a <;> simp [sidB] at hc <;> simp [evE, evEs, evAnd, evOr, evT, evTA, evTO, evC, evO, evI, evS, evSs, zb_ok, zb_ex, zb_bad, zb_of, zb_no, zt_ok, zt_ex, zt_bad, zc_ok, zc_bad, zo_nx, zo_rt, zo_ex, zo_bad, zf_nx, zf_rt, zf_ex, gz_z, gz_s, slz_z, b_nm, setZ, asB_b, opz_dd, cpz_dd, dsOf_nil, dsOf_cons, biz_d, subz_dd, slz_dd, truthZ_d, boolZ_eq, isz, tyKnown, tyOk, bop, cop, truth, itemD, slcD, bid, LV_hot, LV_gv, gv, Option.map_some, Option.bind_some, eqv_ls, eqv_sl, eqv_ii, eqv_snone, eqv_nones, eqv_sbool, eqv_bools, eqv_sint, eqv_ints, eqv_stuple, eqv_tuples, eqv_slist, eqv_lists, eqv_tt, eqv_LL, eqvA_nn, eqvA_nc, eqvA_cn, eqvA_xn, eqvA_cc, okD_int, okD_bool, okD_lit, okD_nilT, okD_nilL, ofString_inj, atI_0, atI_1, atI_2, atI_3, flatD, inD, zi_b, zi_o, zi_a, okD_T, d_law_is_simple, plainB, h, hs, f_law_is_end _ _ _ _ ha, sidB, hc, *]
        | [a, b], h =>
          have ha : okD a = true := okD_flat h (by simp)
          have hb : okD b = true := okD_flat h (by simp)
          rcases h1 with rfl | rfl | rfl | ⟨h1, h2, h3⟩ <;> cases hc : sidB a <;> simp [sidB] at hc <;> simp [evE, evEs, evAnd, evOr, evT, evTA, evTO, evC, evO, evI, evS, evSs, zb_ok, zb_ex, zb_bad, zb_of, zb_no, zt_ok, zt_ex, zt_bad, zc_ok, zc_bad, zo_nx, zo_rt, zo_ex, zo_bad, zf_nx, zf_rt, zf_ex, gz_z, gz_s, slz_z, b_nm, setZ, asB_b, opz_dd, cpz_dd, dsOf_nil, dsOf_cons, biz_d, subz_dd, slz_dd, truthZ_d, boolZ_eq, isz, tyKnown, tyOk, bop, cop, truth, itemD, slcD, bid, LV_hot, LV_gv, gv, Option.map_some, Option.bind_some, eqv_ls, eqv_sl, eqv_ii, eqv_snone, eqv_nones, eqv_sbool, eqv_bools, eqv_sint, eqv_ints, eqv_stuple, eqv_tuples, eqv_slist, eqv_lists, eqv_tt, eqv_LL, eqvA_nn, eqvA_nc, eqvA_cn, eqvA_xn, eqvA_cc, okD_int, okD_bool, okD_lit, okD_nilT, okD_nilL, ofString_inj, atI_0, atI_1, atI_2, atI_3, flatD, inD, zi_b, zi_o, zi_a, okD_T, d_law_is_simple, plainB, h, hs, f_law_is_end _ _ _ _ ha, f_law_is_whole _ _ _ _ _ hb, sidB, manyB, hc, *]
        | a :: b :: c :: r, h =>
          have e3 : ¬ ((r.length : Int) + 1 + 1 + 1 + 1 = 3) := by omega
          have e2 : ¬ ((r.length : Int) + 1 + 1 + 1 + 1 = 2) := by omega
          have e1 : ¬ ((r.length : Int) + 1 + 1 + 1 + 1 = 1) := by omega
          have e3' : ¬ (3 = (r.length : Int) + 1 + 1 + 1 + 1) := by omega
          have e2' : ¬ (2 = (r.length : Int) + 1 + 1 + 1 + 1) := by omega
          have e1' : ¬ (1 = (r.length : Int) + 1 + 1 + 1 + 1) := by omega
          rcases h1 with rfl | rfl | rfl | ⟨h1, h2, h3⟩ <;> simp [evE, evEs, evAnd, evOr, evT, evTA, evTO, evC, evO, evI, evS, evSs, zb_ok, zb_ex, zb_bad, zb_of, zb_no, zt_ok, zt_ex, zt_bad, zc_ok, zc_bad, zo_nx, zo_rt, zo_ex, zo_bad, zf_nx, zf_rt, zf_ex, gz_z, gz_s, slz_z, b_nm, setZ, asB_b, opz_dd, cpz_dd, dsOf_nil, dsOf_cons, biz_d, subz_dd, slz_dd, truthZ_d, boolZ_eq, isz, tyKnown, tyOk, bop, cop, truth, itemD, slcD, bid, LV_hot, LV_gv, gv, Option.map_some, Option.bind_some, eqv_ls, eqv_sl, eqv_ii, eqv_snone, eqv_nones, eqv_sbool, eqv_bools, eqv_sint, eqv_ints, eqv_stuple, eqv_tuples, eqv_slist, eqv_lists, eqv_tt, eqv_LL, eqvA_nn, eqvA_nc, eqvA_cn, eqvA_xn, eqvA_cc, okD_int, okD_bool, okD_lit, okD_nilT, okD_nilL, ofString_inj, atI_0, atI_1, atI_2, atI_3, flatD, inD, zi_b, zi_o, zi_a, okD_T, d_law_is_simple, plainB, h, hs, *]
      case dict kvs => exact (nodict (okD_flat h (List.mem_cons_self ..))).elim
      all_goals
        cases hc : inD (.int (((r.length : Nat) : Int) + 1)) [.int 1, .int 2, .int 3] <;> simp [evE, evEs, evAnd, evOr, evT, evTA, evTO, evC, evO, evI, evS, evSs, zb_ok, zb_ex, zb_bad, zb_of, zb_no, zt_ok, zt_ex, zt_bad, zc_ok, zc_bad, zo_nx, zo_rt, zo_ex, zo_bad, zf_nx, zf_rt, zf_ex, gz_z, gz_s, slz_z, b_nm, setZ, asB_b, opz_dd, cpz_dd, dsOf_nil, dsOf_cons, biz_d, subz_dd, slz_dd, truthZ_d, boolZ_eq, isz, tyKnown, tyOk, bop, cop, truth, itemD, slcD, bid, LV_hot, LV_gv, gv, Option.map_some, Option.bind_some, eqv_ls, eqv_sl, eqv_ii, eqv_snone, eqv_nones, eqv_sbool, eqv_bools, eqv_sint, eqv_ints, eqv_stuple, eqv_tuples, eqv_slist, eqv_lists, eqv_tt, eqv_LL, eqvA_nn, eqvA_nc, eqvA_cn, eqvA_xn, eqvA_cc, okD_int, okD_bool, okD_lit, okD_nilT, okD_nilL, ofString_inj, atI_0, atI_1, atI_2, atI_3, flatD, inD, zi_b, zi_o, zi_a, okD_T] at hc <;> simp [evE, evEs, evAnd, evOr, evT, evTA, evTO, evC, evO, evI, evS, evSs, zb_ok, zb_ex, zb_bad, zb_of, zb_no, zt_ok, zt_ex, zt_bad, zc_ok, zc_bad, zo_nx, zo_rt, zo_ex, zo_bad, zf_nx, zf_rt, zf_ex, gz_z, gz_s, slz_z, b_nm, setZ, asB_b, opz_dd, cpz_dd, dsOf_nil, dsOf_cons, biz_d, subz_dd, slz_dd, truthZ_d, boolZ_eq, isz, tyKnown, tyOk, bop, cop, truth, itemD, slcD, bid, LV_hot, LV_gv, gv, Option.map_some, Option.bind_some, eqv_ls, eqv_sl, eqv_ii, eqv_snone, eqv_nones, eqv_sbool, eqv_bools, eqv_sint, eqv_ints, eqv_stuple, eqv_tuples, eqv_slist, eqv_lists, eqv_tt, eqv_LL, eqvA_nn, eqvA_nc, eqvA_cn, eqvA_xn, eqvA_cc, okD_int, okD_bool, okD_lit, okD_nilT, okD_nilL, ofString_inj, atI_0, atI_1, atI_2, atI_3, flatD, inD, zi_b, zi_o, zi_a, okD_T, d_law_is_simple, plainB, h, hc]
  case dict kvs => exact (nodict h).elim
  all_goals simp [evE, evEs, evAnd, evOr, evT, evTA, evTO, evC, evO, evI, evS, evSs, zb_ok, zb_ex, zb_bad, zb_of, zb_no, zt_ok, zt_ex, zt_bad, zc_ok, zc_bad, zo_nx, zo_rt, zo_ex, zo_bad, zf_nx, zf_rt, zf_ex, gz_z, gz_s, slz_z, b_nm, setZ, asB_b, opz_dd, cpz_dd, dsOf_nil, dsOf_cons, biz_d, subz_dd, slz_dd, truthZ_d, boolZ_eq, isz, tyKnown, tyOk, bop, cop, truth, itemD, slcD, bid, LV_hot, LV_gv, gv, Option.map_some, Option.bind_some, eqv_ls, eqv_sl, eqv_ii, eqv_snone, eqv_nones, eqv_sbool, eqv_bools, eqv_sint, eqv_ints, eqv_stuple, eqv_tuples, eqv_slist, eqv_lists, eqv_tt, eqv_LL, eqvA_nn, eqvA_nc, eqvA_cn, eqvA_xn, eqvA_cc, okD_int, okD_bool, okD_lit, okD_nilT, okD_nilL, ofString_inj, atI_0, atI_1, atI_2, atI_3, flatD, inD, zi_b, zi_o, zi_a, okD_T, d_law_is_simple, plainB]
theorem f_law_is_condition (k : Nat) (v : D) (M : Mem) (h : okD v = true) : (LV (k + 2)).fn false i_law_is_condition [.d v] M = .ok (.d (.bool (condB v))) M := by
  rw [s_law_is_condition]
  cases v
  case tuple xs =>
    cases xs with
    | nil => simp [evE, evEs, evAnd, evOr, evT, evTA, evTO, evC, evO, evI, evS, evSs, zb_ok, zb_ex, zb_bad, zb_of, zb_no, zt_ok, zt_ex, zt_bad, zc_ok, zc_bad, zo_nx, zo_rt, zo_ex, zo_bad, zf_nx, zf_rt, zf_ex, gz_z, gz_s, slz_z, b_nm, setZ, asB_b, opz_dd, cpz_dd, dsOf_nil, dsOf_cons, biz_d, subz_dd, slz_dd, truthZ_d, boolZ_eq, isz, tyKnown, tyOk, bop, cop, truth, itemD, slcD, bid, LV_hot, LV_gv, gv, Option.map_some, Option.bind_some, eqv_ls, eqv_sl, eqv_ii, eqv_snone, eqv_nones, eqv_sbool, eqv_bools, eqv_sint, eqv_ints, eqv_stuple, eqv_tuples, eqv_slist, eqv_lists, eqv_tt, eqv_LL, eqvA_nn, eqvA_nc, eqvA_cn, eqvA_xn, eqvA_cc, okD_int, okD_bool, okD_lit, okD_nilT, okD_nilL, ofString_inj, atI_0, atI_1, atI_2, atI_3, flatD, inD, zi_b, zi_o, zi_a, okD_T, d_law_is_condition, condB, h]
    | cons x r =>
      cases x
      case str s =>
        have hs : okD (.str s) = true := okD_flat h (List.mem_cons_self ..)
        have h1 : s = "fits" ∨ s = "head" ∨ s = "some" ∨ s = "rake" ∨ s = "tail" ∨ (s ≠ "fits" ∧ s ≠ "head" ∧ s ≠ "some" ∧ s ≠ "rake" ∧ s ≠ "tail") := by
          by_cases a : s = "fits" <;> by_cases b : s = "head" <;> by_cases c : s = "some" <;> by_cases d : s = "rake" <;> by_cases e : s = "tail" <;> simp [a, b, c, d, e]
        match r, h with
        | [], h => rcases h1 with rfl | rfl | rfl | rfl | rfl | ⟨h1, h2, h3, h4, h5⟩ <;> simp [evE, evEs, evAnd, evOr, evT, evTA, evTO, evC, evO, evI, evS, evSs, zb_ok, zb_ex, zb_bad, zb_of, zb_no, zt_ok, zt_ex, zt_bad, zc_ok, zc_bad, zo_nx, zo_rt, zo_ex, zo_bad, zf_nx, zf_rt, zf_ex, gz_z, gz_s, slz_z, b_nm, setZ, asB_b, opz_dd, cpz_dd, dsOf_nil, dsOf_cons, biz_d, subz_dd, slz_dd, truthZ_d, boolZ_eq, isz, tyKnown, tyOk, bop, cop, truth, itemD, slcD, bid, LV_hot, LV_gv, gv, Option.map_some, Option.bind_some, eqv_ls, eqv_sl, eqv_ii, eqv_snone, eqv_nones, eqv_sbool, eqv_bools, eqv_sint, eqv_ints, eqv_stuple, eqv_tuples, eqv_slist, eqv_lists, eqv_tt, eqv_LL, eqvA_nn, eqvA_nc, eqvA_cn, eqvA_xn, eqvA_cc, okD_int, okD_bool, okD_lit, okD_nilT, okD_nilL, ofString_inj, atI_0, atI_1, atI_2, atI_3, flatD, inD, zi_b, zi_o, zi_a, okD_T, d_law_is_condition, condB, h, hs, *]
        | [a], h =>
          have ha : okD a = true := okD_flat h (by simp)
          rcases h1 with rfl | rfl | rfl | rfl | rfl | ⟨h1, h2, h3, h4, h5⟩ <;> simp [evE, evEs, evAnd, evOr, evT, evTA, evTO, evC, evO, evI, evS, evSs, zb_ok, zb_ex, zb_bad, zb_of, zb_no, zt_ok, zt_ex, zt_bad, zc_ok, zc_bad, zo_nx, zo_rt, zo_ex, zo_bad, zf_nx, zf_rt, zf_ex, gz_z, gz_s, slz_z, b_nm, setZ, asB_b, opz_dd, cpz_dd, dsOf_nil, dsOf_cons, biz_d, subz_dd, slz_dd, truthZ_d, boolZ_eq, isz, tyKnown, tyOk, bop, cop, truth, itemD, slcD, bid, LV_hot, LV_gv, gv, Option.map_some, Option.bind_some, eqv_ls, eqv_sl, eqv_ii, eqv_snone, eqv_nones, eqv_sbool, eqv_bools, eqv_sint, eqv_ints, eqv_stuple, eqv_tuples, eqv_slist, eqv_lists, eqv_tt, eqv_LL, eqvA_nn, eqvA_nc, eqvA_cn, eqvA_xn, eqvA_cc, okD_int, okD_bool, okD_lit, okD_nilT, okD_nilL, ofString_inj, atI_0, atI_1, atI_2, atI_3, flatD, inD, zi_b, zi_o, zi_a, okD_T, d_law_is_condition, condB, h, hs, f_law_is_end _ _ _ _ ha, f_law_is_whole _ _ _ _ _ ha, sidB, manyB, kindB, *]
        | [a, b], h =>
          have ha : okD a = true := okD_flat h (by simp)
          have hb : okD b = true := okD_flat h (by simp)
          rcases h1 with rfl | rfl | rfl | rfl | rfl | ⟨h1, h2, h3, h4, h5⟩ <;> cases hc : sidB a <;> simp [sidB] at hc <;> simp [evE, evEs, evAnd, evOr, evT, evTA, evTO, evC, evO, evI, evS, evSs, zb_ok, zb_ex, zb_bad, zb_of, zb_no, zt_ok, zt_ex, zt_bad, zc_ok, zc_bad, zo_nx, zo_rt, zo_ex, zo_bad, zf_nx, zf_rt, zf_ex, gz_z, gz_s, slz_z, b_nm, setZ, asB_b, opz_dd, cpz_dd, dsOf_nil, dsOf_cons, biz_d, subz_dd, slz_dd, truthZ_d, boolZ_eq, isz, tyKnown, tyOk, bop, cop, truth, itemD, slcD, bid, LV_hot, LV_gv, gv, Option.map_some, Option.bind_some, eqv_ls, eqv_sl, eqv_ii, eqv_snone, eqv_nones, eqv_sbool, eqv_bools, eqv_sint, eqv_ints, eqv_stuple, eqv_tuples, eqv_slist, eqv_lists, eqv_tt, eqv_LL, eqvA_nn, eqvA_nc, eqvA_cn, eqvA_xn, eqvA_cc, okD_int, okD_bool, okD_lit, okD_nilT, okD_nilL, ofString_inj, atI_0, atI_1, atI_2, atI_3, flatD, inD, zi_b, zi_o, zi_a, okD_T, d_law_is_condition, condB, h, hs, f_law_is_end _ _ _ _ ha, f_law_is_end _ _ _ _ hb, f_law_is_whole _ _ _ _ _ hb, sidB, manyB, kindB, hc, *]
        | a :: b :: c :: r, h =>
          have e3 : ¬ ((r.length : Int) + 1 + 1 + 1 + 1 = 3) := by omega
          have e2 : ¬ ((r.length : Int) + 1 + 1 + 1 + 1 = 2) := by omega
          have e1 : ¬ ((r.length : Int) + 1 + 1 + 1 + 1 = 1) := by omega
          have e3' : ¬ (3 = (r.length : Int) + 1 + 1 + 1 + 1) := by omega
          have e2' : ¬ (2 = (r.length : Int) + 1 + 1 + 1 + 1) := by omega
          have e1' : ¬ (1 = (r.length : Int) + 1 + 1 + 1 + 1) := by omega
          rcases h1 with rfl | rfl | rfl | rfl | rfl | ⟨h1, h2, h3, h4, h5⟩ <;> simp [evE, evEs, evAnd, evOr, evT, evTA, evTO, evC, evO, evI, evS, evSs, zb_ok, zb_ex, zb_bad, zb_of, zb_no, zt_ok, zt_ex, zt_bad, zc_ok, zc_bad, zo_nx, zo_rt, zo_ex, zo_bad, zf_nx, zf_rt, zf_ex, gz_z, gz_s, slz_z, b_nm, setZ, asB_b, opz_dd, cpz_dd, dsOf_nil, dsOf_cons, biz_d, subz_dd, slz_dd, truthZ_d, boolZ_eq, isz, tyKnown, tyOk, bop, cop, truth, itemD, slcD, bid, LV_hot, LV_gv, gv, Option.map_some, Option.bind_some, eqv_ls, eqv_sl, eqv_ii, eqv_snone, eqv_nones, eqv_sbool, eqv_bools, eqv_sint, eqv_ints, eqv_stuple, eqv_tuples, eqv_slist, eqv_lists, eqv_tt, eqv_LL, eqvA_nn, eqvA_nc, eqvA_cn, eqvA_xn, eqvA_cc, okD_int, okD_bool, okD_lit, okD_nilT, okD_nilL, ofString_inj, atI_0, atI_1, atI_2, atI_3, flatD, inD, zi_b, zi_o, zi_a, okD_T, d_law_is_condition, condB, h, hs, *]
      case dict kvs => exact (nodict (okD_flat h (List.mem_cons_self ..))).elim
      all_goals
        cases hc : inD (.int (((r.length : Nat) : Int) + 1)) [.int 1, .int 2, .int 3] <;> simp [evE, evEs, evAnd, evOr, evT, evTA, evTO, evC, evO, evI, evS, evSs, zb_ok, zb_ex, zb_bad, zb_of, zb_no, zt_ok, zt_ex, zt_bad, zc_ok, zc_bad, zo_nx, zo_rt, zo_ex, zo_bad, zf_nx, zf_rt, zf_ex, gz_z, gz_s, slz_z, b_nm, setZ, asB_b, opz_dd, cpz_dd, dsOf_nil, dsOf_cons, biz_d, subz_dd, slz_dd, truthZ_d, boolZ_eq, isz, tyKnown, tyOk, bop, cop, truth, itemD, slcD, bid, LV_hot, LV_gv, gv, Option.map_some, Option.bind_some, eqv_ls, eqv_sl, eqv_ii, eqv_snone, eqv_nones, eqv_sbool, eqv_bools, eqv_sint, eqv_ints, eqv_stuple, eqv_tuples, eqv_slist, eqv_lists, eqv_tt, eqv_LL, eqvA_nn, eqvA_nc, eqvA_cn, eqvA_xn, eqvA_cc, okD_int, okD_bool, okD_lit, okD_nilT, okD_nilL, ofString_inj, atI_0, atI_1, atI_2, atI_3, flatD, inD, zi_b, zi_o, zi_a, okD_T] at hc <;> simp [evE, evEs, evAnd, evOr, evT, evTA, evTO, evC, evO, evI, evS, evSs, zb_ok, zb_ex, zb_bad, zb_of, zb_no, zt_ok, zt_ex, zt_bad, zc_ok, zc_bad, zo_nx, zo_rt, zo_ex, zo_bad, zf_nx, zf_rt, zf_ex, gz_z, gz_s, slz_z, b_nm, setZ, asB_b, opz_dd, cpz_dd, dsOf_nil, dsOf_cons, biz_d, subz_dd, slz_dd, truthZ_d, boolZ_eq, isz, tyKnown, tyOk, bop, cop, truth, itemD, slcD, bid, LV_hot, LV_gv, gv, Option.map_some, Option.bind_some, eqv_ls, eqv_sl, eqv_ii, eqv_snone, eqv_nones, eqv_sbool, eqv_bools, eqv_sint, eqv_ints, eqv_stuple, eqv_tuples, eqv_slist, eqv_lists, eqv_tt, eqv_LL, eqvA_nn, eqvA_nc, eqvA_cn, eqvA_xn, eqvA_cc, okD_int, okD_bool, okD_lit, okD_nilT, okD_nilL, ofString_inj, atI_0, atI_1, atI_2, atI_3, flatD, inD, zi_b, zi_o, zi_a, okD_T, d_law_is_condition, condB, h, hc]
  case dict kvs => exact (nodict h).elim
  all_goals simp [evE, evEs, evAnd, evOr, evT, evTA, evTO, evC, evO, evI, evS, evSs, zb_ok, zb_ex, zb_bad, zb_of, zb_no, zt_ok, zt_ex, zt_bad, zc_ok, zc_bad, zo_nx, zo_rt, zo_ex, zo_bad, zf_nx, zf_rt, zf_ex, gz_z, gz_s, slz_z, b_nm, setZ, asB_b, opz_dd, cpz_dd, dsOf_nil, dsOf_cons, biz_d, subz_dd, slz_dd, truthZ_d, boolZ_eq, isz, tyKnown, tyOk, bop, cop, truth, itemD, slcD, bid, LV_hot, LV_gv, gv, Option.map_some, Option.bind_some, eqv_ls, eqv_sl, eqv_ii, eqv_snone, eqv_nones, eqv_sbool, eqv_bools, eqv_sint, eqv_ints, eqv_stuple, eqv_tuples, eqv_slist, eqv_lists, eqv_tt, eqv_LL, eqvA_nn, eqvA_nc, eqvA_cn, eqvA_xn, eqvA_cc, okD_int, okD_bool, okD_lit, okD_nilT, okD_nilL, ofString_inj, atI_0, atI_1, atI_2, atI_3, flatD, inD, zi_b, zi_o, zi_a, okD_T, d_law_is_condition, condB]
theorem law_body_good (k : Nat) (a0 s1 s2 : Sl) (M : Mem) (b : D) (h : okD b = true) (hl : (itT b).length ≤ 1000000) (hb : bodyB b = true) : evSs (LV (k + 2)) b_law_is_step_1 [a0, .z (.d b), s2] M = .nx [a0, .z (.d b), s2] M := by
  cases b <;> simp [bodyB] at hb
  case tuple xs =>
    have e : lcL (fun ρ' M' => evT (LV (k + 2)) t_law_is_step_1 ρ' M') (fun ρ' M' => evE (LV (k + 2)) e_law_is_step_1 ρ' M') (.nm 2) [a0, .z (.d (.tuple xs)), .no] (xs.map .d) M = .ok ((xs.filter fun d => !plainB d).map id) M := by
      refine lc_pure xs (fun d hd => ?_) (fun d hd _ => ?_)
      · simp [evE, evEs, evAnd, evOr, evT, evTA, evTO, evC, evO, evI, evS, evSs, zb_ok, zb_ex, zb_bad, zb_of, zb_no, zt_ok, zt_ex, zt_bad, zc_ok, zc_bad, zo_nx, zo_rt, zo_ex, zo_bad, zf_nx, zf_rt, zf_ex, gz_z, gz_s, slz_z, b_nm, setZ, asB_b, opz_dd, cpz_dd, dsOf_nil, dsOf_cons, biz_d, subz_dd, slz_dd, truthZ_d, boolZ_eq, isz, tyKnown, tyOk, bop, cop, truth, itemD, slcD, bid, LV_hot, LV_gv, gv, Option.map_some, Option.bind_some, eqv_ls, eqv_sl, eqv_ii, eqv_snone, eqv_nones, eqv_sbool, eqv_bools, eqv_sint, eqv_ints, eqv_stuple, eqv_tuples, eqv_slist, eqv_lists, eqv_tt, eqv_LL, eqvA_nn, eqvA_nc, eqvA_cn, eqvA_xn, eqvA_cc, okD_int, okD_bool, okD_lit, okD_nilT, okD_nilL, ofString_inj, atI_0, atI_1, atI_2, atI_3, flatD, inD, zi_b, zi_o, zi_a, okD_T, t_law_is_step_1, f_law_is_simple _ _ _ (okD_flat h hd)]
      · simp [evE, evEs, evAnd, evOr, evT, evTA, evTO, evC, evO, evI, evS, evSs, zb_ok, zb_ex, zb_bad, zb_of, zb_no, zt_ok, zt_ex, zt_bad, zc_ok, zc_bad, zo_nx, zo_rt, zo_ex, zo_bad, zf_nx, zf_rt, zf_ex, gz_z, gz_s, slz_z, b_nm, setZ, asB_b, opz_dd, cpz_dd, dsOf_nil, dsOf_cons, biz_d, subz_dd, slz_dd, truthZ_d, boolZ_eq, isz, tyKnown, tyOk, bop, cop, truth, itemD, slcD, bid, LV_hot, LV_gv, gv, Option.map_some, Option.bind_some, eqv_ls, eqv_sl, eqv_ii, eqv_snone, eqv_nones, eqv_sbool, eqv_bools, eqv_sint, eqv_ints, eqv_stuple, eqv_tuples, eqv_slist, eqv_lists, eqv_tt, eqv_LL, eqvA_nn, eqvA_nc, eqvA_cn, eqvA_xn, eqvA_cc, okD_int, okD_bool, okD_lit, okD_nilT, okD_nilL, ofString_inj, atI_0, atI_1, atI_2, atI_3, flatD, inD, zi_b, zi_o, zi_a, okD_T, e_law_is_step_1]
    have e3 : xs.length ≤ slen := hl
    have e4 : okD (.list (xs.filter fun d => !plainB d)) = true := okD_flt _ h
    have e5 : (3 < (xs.length : Int)) = (3 < xs.length) := propext (by omega)
    have e6 : ¬ (3 < xs.length) := by omega
    have e7 : (xs.filter fun d => !plainB d) = [] := List.filter_eq_nil_iff.mpr fun x hx => by simp [hb.2 x hx]
    simp only [List.map_id] at e
    rw [e7] at e
    simp [evE, evEs, evAnd, evOr, evT, evTA, evTO, evC, evO, evI, evS, evSs, zb_ok, zb_ex, zb_bad, zb_of, zb_no, zt_ok, zt_ex, zt_bad, zc_ok, zc_bad, zo_nx, zo_rt, zo_ex, zo_bad, zf_nx, zf_rt, zf_ex, gz_z, gz_s, slz_z, b_nm, setZ, asB_b, opz_dd, cpz_dd, dsOf_nil, dsOf_cons, biz_d, subz_dd, slz_dd, truthZ_d, boolZ_eq, isz, tyKnown, tyOk, bop, cop, truth, itemD, slcD, bid, LV_hot, LV_gv, gv, Option.map_some, Option.bind_some, eqv_ls, eqv_sl, eqv_ii, eqv_snone, eqv_nones, eqv_sbool, eqv_bools, eqv_sint, eqv_ints, eqv_stuple, eqv_tuples, eqv_slist, eqv_lists, eqv_tt, eqv_LL, eqvA_nn, eqvA_nc, eqvA_cn, eqvA_xn, eqvA_cc, okD_int, okD_bool, okD_lit, okD_nilT, okD_nilL, ofString_inj, atI_0, atI_1, atI_2, atI_3, flatD, inD, zi_b, zi_o, zi_a, okD_T, e5, e6, b_law_is_step_1, h, itH, itemsOf, e3, wipeE, e]
theorem law_body_bad (k : Nat) (a0 s1 s2 : Sl) (M : Mem) (b : D) (h : okD b = true) (hl : (itT b).length ≤ 1000000) (hb : bodyB b = false) : evSs (LV (k + 2)) b_law_is_step_1 [a0, .z (.d b), s2] M = .rt (.d (.bool false)) M := by
  cases b <;> simp [bodyB] at hb
  case dict kvs => exact (nodict h).elim
  case tuple xs =>
    have e : lcL (fun ρ' M' => evT (LV (k + 2)) t_law_is_step_1 ρ' M') (fun ρ' M' => evE (LV (k + 2)) e_law_is_step_1 ρ' M') (.nm 2) [a0, .z (.d (.tuple xs)), .no] (xs.map .d) M = .ok ((xs.filter fun d => !plainB d).map id) M := by
      refine lc_pure xs (fun d hd => ?_) (fun d hd _ => ?_)
      · simp [evE, evEs, evAnd, evOr, evT, evTA, evTO, evC, evO, evI, evS, evSs, zb_ok, zb_ex, zb_bad, zb_of, zb_no, zt_ok, zt_ex, zt_bad, zc_ok, zc_bad, zo_nx, zo_rt, zo_ex, zo_bad, zf_nx, zf_rt, zf_ex, gz_z, gz_s, slz_z, b_nm, setZ, asB_b, opz_dd, cpz_dd, dsOf_nil, dsOf_cons, biz_d, subz_dd, slz_dd, truthZ_d, boolZ_eq, isz, tyKnown, tyOk, bop, cop, truth, itemD, slcD, bid, LV_hot, LV_gv, gv, Option.map_some, Option.bind_some, eqv_ls, eqv_sl, eqv_ii, eqv_snone, eqv_nones, eqv_sbool, eqv_bools, eqv_sint, eqv_ints, eqv_stuple, eqv_tuples, eqv_slist, eqv_lists, eqv_tt, eqv_LL, eqvA_nn, eqvA_nc, eqvA_cn, eqvA_xn, eqvA_cc, okD_int, okD_bool, okD_lit, okD_nilT, okD_nilL, ofString_inj, atI_0, atI_1, atI_2, atI_3, flatD, inD, zi_b, zi_o, zi_a, okD_T, t_law_is_step_1, f_law_is_simple _ _ _ (okD_flat h hd)]
      · simp [evE, evEs, evAnd, evOr, evT, evTA, evTO, evC, evO, evI, evS, evSs, zb_ok, zb_ex, zb_bad, zb_of, zb_no, zt_ok, zt_ex, zt_bad, zc_ok, zc_bad, zo_nx, zo_rt, zo_ex, zo_bad, zf_nx, zf_rt, zf_ex, gz_z, gz_s, slz_z, b_nm, setZ, asB_b, opz_dd, cpz_dd, dsOf_nil, dsOf_cons, biz_d, subz_dd, slz_dd, truthZ_d, boolZ_eq, isz, tyKnown, tyOk, bop, cop, truth, itemD, slcD, bid, LV_hot, LV_gv, gv, Option.map_some, Option.bind_some, eqv_ls, eqv_sl, eqv_ii, eqv_snone, eqv_nones, eqv_sbool, eqv_bools, eqv_sint, eqv_ints, eqv_stuple, eqv_tuples, eqv_slist, eqv_lists, eqv_tt, eqv_LL, eqvA_nn, eqvA_nc, eqvA_cn, eqvA_xn, eqvA_cc, okD_int, okD_bool, okD_lit, okD_nilT, okD_nilL, ofString_inj, atI_0, atI_1, atI_2, atI_3, flatD, inD, zi_b, zi_o, zi_a, okD_T, e_law_is_step_1]
    have e3 : xs.length ≤ slen := hl
    have e4 : okD (.list (xs.filter fun d => !plainB d)) = true := okD_flt _ h
    have e5 : (3 < (xs.length : Int)) = (3 < xs.length) := propext (by omega)
    simp only [List.map_id] at e
    by_cases e6 : 3 < xs.length
    · simp [evE, evEs, evAnd, evOr, evT, evTA, evTO, evC, evO, evI, evS, evSs, zb_ok, zb_ex, zb_bad, zb_of, zb_no, zt_ok, zt_ex, zt_bad, zc_ok, zc_bad, zo_nx, zo_rt, zo_ex, zo_bad, zf_nx, zf_rt, zf_ex, gz_z, gz_s, slz_z, b_nm, setZ, asB_b, opz_dd, cpz_dd, dsOf_nil, dsOf_cons, biz_d, subz_dd, slz_dd, truthZ_d, boolZ_eq, isz, tyKnown, tyOk, bop, cop, truth, itemD, slcD, bid, LV_hot, LV_gv, gv, Option.map_some, Option.bind_some, eqv_ls, eqv_sl, eqv_ii, eqv_snone, eqv_nones, eqv_sbool, eqv_bools, eqv_sint, eqv_ints, eqv_stuple, eqv_tuples, eqv_slist, eqv_lists, eqv_tt, eqv_LL, eqvA_nn, eqvA_nc, eqvA_cn, eqvA_xn, eqvA_cc, okD_int, okD_bool, okD_lit, okD_nilT, okD_nilL, ofString_inj, atI_0, atI_1, atI_2, atI_3, flatD, inD, zi_b, zi_o, zi_a, okD_T, e5, e6, b_law_is_step_1, h]
    · obtain ⟨x, hx, hp⟩ := hb (by omega)
      have e7 : (xs.filter fun d => !plainB d) ≠ [] := fun z => by
        have := List.filter_eq_nil_iff.mp z x hx
        simp [hp] at this
      have e8 : ((xs.filter fun d => !plainB d).isEmpty) = false := by simpa using e7
      cases q : (xs.filter fun d => !plainB d) with
      | nil => exact (e7 q).elim
      | cons y t =>
        rw [q] at e e4
        simp [evE, evEs, evAnd, evOr, evT, evTA, evTO, evC, evO, evI, evS, evSs, zb_ok, zb_ex, zb_bad, zb_of, zb_no, zt_ok, zt_ex, zt_bad, zc_ok, zc_bad, zo_nx, zo_rt, zo_ex, zo_bad, zf_nx, zf_rt, zf_ex, gz_z, gz_s, slz_z, b_nm, setZ, asB_b, opz_dd, cpz_dd, dsOf_nil, dsOf_cons, biz_d, subz_dd, slz_dd, truthZ_d, boolZ_eq, isz, tyKnown, tyOk, bop, cop, truth, itemD, slcD, bid, LV_hot, LV_gv, gv, Option.map_some, Option.bind_some, eqv_ls, eqv_sl, eqv_ii, eqv_snone, eqv_nones, eqv_sbool, eqv_bools, eqv_sint, eqv_ints, eqv_stuple, eqv_tuples, eqv_slist, eqv_lists, eqv_tt, eqv_LL, eqvA_nn, eqvA_nc, eqvA_cn, eqvA_xn, eqvA_cc, okD_int, okD_bool, okD_lit, okD_nilT, okD_nilL, ofString_inj, atI_0, atI_1, atI_2, atI_3, flatD, inD, zi_b, zi_o, zi_a, okD_T, e5, e6, b_law_is_step_1, h, itH, itemsOf, e3, wipeE, e, e4]
  all_goals simp [evE, evEs, evAnd, evOr, evT, evTA, evTO, evC, evO, evI, evS, evSs, zb_ok, zb_ex, zb_bad, zb_of, zb_no, zt_ok, zt_ex, zt_bad, zc_ok, zc_bad, zo_nx, zo_rt, zo_ex, zo_bad, zf_nx, zf_rt, zf_ex, gz_z, gz_s, slz_z, b_nm, setZ, asB_b, opz_dd, cpz_dd, dsOf_nil, dsOf_cons, biz_d, subz_dd, slz_dd, truthZ_d, boolZ_eq, isz, tyKnown, tyOk, bop, cop, truth, itemD, slcD, bid, LV_hot, LV_gv, gv, Option.map_some, Option.bind_some, eqv_ls, eqv_sl, eqv_ii, eqv_snone, eqv_nones, eqv_sbool, eqv_bools, eqv_sint, eqv_ints, eqv_stuple, eqv_tuples, eqv_slist, eqv_lists, eqv_tt, eqv_LL, eqvA_nn, eqvA_nc, eqvA_cn, eqvA_xn, eqvA_cc, okD_int, okD_bool, okD_lit, okD_nilT, okD_nilL, ofString_inj, atI_0, atI_1, atI_2, atI_3, flatD, inD, zi_b, zi_o, zi_a, okD_T, b_law_is_step_1]
end Lw
namespace Lw
open PySem Zt
theorem law_bodies (k : Nat) (a0 s2 : Sl) (M : Mem) : ∀ (bs : List D) (s1 : Sl), (∀ b ∈ bs, okD b = true ∧ (itT b).length ≤ 1000000) → ∃ s', forL (fun ρ' M' => evSs (LV (k + 2)) b_law_is_step_1 ρ' M') (.nm 1) (bs.map .d) [a0, s1, s2] M = if bs.all bodyB then .nx [a0, s', s2] M else .rt (.d (.bool false)) M
  | [], s1, _ => ⟨s1, rfl⟩
  | b :: bs, s1, h => by
    obtain ⟨h1, h2⟩ := h b (List.mem_cons_self ..)
    obtain ⟨s', e⟩ := law_bodies k a0 s2 M bs (.z (.d b)) fun y hy => h y (List.mem_cons_of_mem _ hy)
    refine ⟨s', ?_⟩
    rw [List.map_cons, for_cons]
    show (evSs (LV (k + 2)) b_law_is_step_1 [a0, .z (.d b), s2] M).bind _ = _
    cases hb : bodyB b
    · rw [law_body_bad k a0 s1 s2 M b h1 h2 hb, List.all_cons, hb]
      rfl
    · rw [law_body_good k a0 s1 s2 M b h1 h2 hb, zo_nx, e, List.all_cons, hb]
      rfl
theorem f_law_is_step (k : Nat) (v : D) (M : Mem) (h : okD v = true) (hl : ∀ b ∈ itT v, (itT b).length ≤ 1000000) : (LV (k + 3)).fn false i_law_is_step [.d v] M = .ok (.d (.bool (stepB v))) M := by
  rw [s_law_is_step]
  cases v
  case tuple xs =>
    cases xs with
    | nil => simp [evE, evEs, evAnd, evOr, evT, evTA, evTO, evC, evO, evI, evS, evSs, zb_ok, zb_ex, zb_bad, zb_of, zb_no, zt_ok, zt_ex, zt_bad, zc_ok, zc_bad, zo_nx, zo_rt, zo_ex, zo_bad, zf_nx, zf_rt, zf_ex, gz_z, gz_s, slz_z, b_nm, setZ, asB_b, opz_dd, cpz_dd, dsOf_nil, dsOf_cons, biz_d, subz_dd, slz_dd, truthZ_d, boolZ_eq, isz, tyKnown, tyOk, bop, cop, truth, itemD, slcD, bid, LV_hot, LV_gv, gv, Option.map_some, Option.bind_some, eqv_ls, eqv_sl, eqv_ii, eqv_snone, eqv_nones, eqv_sbool, eqv_bools, eqv_sint, eqv_ints, eqv_stuple, eqv_tuples, eqv_slist, eqv_lists, eqv_tt, eqv_LL, eqvA_nn, eqvA_nc, eqvA_cn, eqvA_xn, eqvA_cc, okD_int, okD_bool, okD_lit, okD_nilT, okD_nilL, ofString_inj, atI_0, atI_1, atI_2, atI_3, flatD, inD, zi_b, zi_o, zi_a, okD_T, d_law_is_step, stepB, h]
    | cons x r =>
      cases x
      case str s =>
        have hs : okD (.str s) = true := okD_flat h (List.mem_cons_self ..)
        have h1 : s = "if" ∨ s = "while" ∨ (s ≠ "if" ∧ s ≠ "while") := by
          by_cases a : s = "if" <;> by_cases b : s = "while" <;> simp [a, b]
        have hp := f_law_is_simple k (.tuple (.str s :: r)) M h
        match r, h, hl, hp with
        | [], h, _, hp => rcases h1 with rfl | rfl | ⟨h1, h2⟩ <;> simp [evE, evEs, evAnd, evOr, evT, evTA, evTO, evC, evO, evI, evS, evSs, zb_ok, zb_ex, zb_bad, zb_of, zb_no, zt_ok, zt_ex, zt_bad, zc_ok, zc_bad, zo_nx, zo_rt, zo_ex, zo_bad, zf_nx, zf_rt, zf_ex, gz_z, gz_s, slz_z, b_nm, setZ, asB_b, opz_dd, cpz_dd, dsOf_nil, dsOf_cons, biz_d, subz_dd, slz_dd, truthZ_d, boolZ_eq, isz, tyKnown, tyOk, bop, cop, truth, itemD, slcD, bid, LV_hot, LV_gv, gv, Option.map_some, Option.bind_some, eqv_ls, eqv_sl, eqv_ii, eqv_snone, eqv_nones, eqv_sbool, eqv_bools, eqv_sint, eqv_ints, eqv_stuple, eqv_tuples, eqv_slist, eqv_lists, eqv_tt, eqv_LL, eqvA_nn, eqvA_nc, eqvA_cn, eqvA_xn, eqvA_cc, okD_int, okD_bool, okD_lit, okD_nilT, okD_nilL, ofString_inj, atI_0, atI_1, atI_2, atI_3, flatD, inD, zi_b, zi_o, zi_a, okD_T, d_law_is_step, stepB, h, hs, hp, *]
        | [a], h, _, hp => rcases h1 with rfl | rfl | ⟨h1, h2⟩ <;> simp [evE, evEs, evAnd, evOr, evT, evTA, evTO, evC, evO, evI, evS, evSs, zb_ok, zb_ex, zb_bad, zb_of, zb_no, zt_ok, zt_ex, zt_bad, zc_ok, zc_bad, zo_nx, zo_rt, zo_ex, zo_bad, zf_nx, zf_rt, zf_ex, gz_z, gz_s, slz_z, b_nm, setZ, asB_b, opz_dd, cpz_dd, dsOf_nil, dsOf_cons, biz_d, subz_dd, slz_dd, truthZ_d, boolZ_eq, isz, tyKnown, tyOk, bop, cop, truth, itemD, slcD, bid, LV_hot, LV_gv, gv, Option.map_some, Option.bind_some, eqv_ls, eqv_sl, eqv_ii, eqv_snone, eqv_nones, eqv_sbool, eqv_bools, eqv_sint, eqv_ints, eqv_stuple, eqv_tuples, eqv_slist, eqv_lists, eqv_tt, eqv_LL, eqvA_nn, eqvA_nc, eqvA_cn, eqvA_xn, eqvA_cc, okD_int, okD_bool, okD_lit, okD_nilT, okD_nilL, ofString_inj, atI_0, atI_1, atI_2, atI_3, flatD, inD, zi_b, zi_o, zi_a, okD_T, d_law_is_step, stepB, h, hs, hp, *]
        | [a, b], h, hl, hp =>
          have ha : okD a = true := okD_flat h (by simp)
          have hb : okD b = true := okD_flat h (by simp)
          have lb := hl b (by simp [itT])
          obtain ⟨s', e⟩ := law_bodies k (.z (.d (.tuple [.str s, a, b]))) .no M [b] .no (by simp [hb, lb])
          have ec : cut [(.str s : D), a, b] (some 2) none = [b] := rfl
          have q : (1 : Nat) ≤ slen := by decide
          simp at e
          rcases h1 with rfl | rfl | ⟨h1, h2⟩
          · simp [evE, evEs, evAnd, evOr, evT, evTA, evTO, evC, evO, evI, evS, evSs, zb_ok, zb_ex, zb_bad, zb_of, zb_no, zt_ok, zt_ex, zt_bad, zc_ok, zc_bad, zo_nx, zo_rt, zo_ex, zo_bad, zf_nx, zf_rt, zf_ex, gz_z, gz_s, slz_z, b_nm, setZ, asB_b, opz_dd, cpz_dd, dsOf_nil, dsOf_cons, biz_d, subz_dd, slz_dd, truthZ_d, boolZ_eq, isz, tyKnown, tyOk, bop, cop, truth, itemD, slcD, bid, LV_hot, LV_gv, gv, Option.map_some, Option.bind_some, eqv_ls, eqv_sl, eqv_ii, eqv_snone, eqv_nones, eqv_sbool, eqv_bools, eqv_sint, eqv_ints, eqv_stuple, eqv_tuples, eqv_slist, eqv_lists, eqv_tt, eqv_LL, eqvA_nn, eqvA_nc, eqvA_cn, eqvA_xn, eqvA_cc, okD_int, okD_bool, okD_lit, okD_nilT, okD_nilL, ofString_inj, atI_0, atI_1, atI_2, atI_3, flatD, inD, zi_b, zi_o, zi_a, okD_T, d_law_is_step, stepB, h, hs, hp]
          · cases hc : condB a
            · simp [evE, evEs, evAnd, evOr, evT, evTA, evTO, evC, evO, evI, evS, evSs, zb_ok, zb_ex, zb_bad, zb_of, zb_no, zt_ok, zt_ex, zt_bad, zc_ok, zc_bad, zo_nx, zo_rt, zo_ex, zo_bad, zf_nx, zf_rt, zf_ex, gz_z, gz_s, slz_z, b_nm, setZ, asB_b, opz_dd, cpz_dd, dsOf_nil, dsOf_cons, biz_d, subz_dd, slz_dd, truthZ_d, boolZ_eq, isz, tyKnown, tyOk, bop, cop, truth, itemD, slcD, bid, LV_hot, LV_gv, gv, Option.map_some, Option.bind_some, eqv_ls, eqv_sl, eqv_ii, eqv_snone, eqv_nones, eqv_sbool, eqv_bools, eqv_sint, eqv_ints, eqv_stuple, eqv_tuples, eqv_slist, eqv_lists, eqv_tt, eqv_LL, eqvA_nn, eqvA_nc, eqvA_cn, eqvA_xn, eqvA_cc, okD_int, okD_bool, okD_lit, okD_nilT, okD_nilL, ofString_inj, atI_0, atI_1, atI_2, atI_3, flatD, inD, zi_b, zi_o, zi_a, okD_T, d_law_is_step, stepB, h, hs, hp, f_law_is_condition _ _ _ ha, hc]
            · cases hb2 : bodyB b
              · rw [hb2] at e
                simp at e ec
                simp [evE, evEs, evAnd, evOr, evT, evTA, evTO, evC, evO, evI, evS, evSs, zb_ok, zb_ex, zb_bad, zb_of, zb_no, zt_ok, zt_ex, zt_bad, zc_ok, zc_bad, zo_nx, zo_rt, zo_ex, zo_bad, zf_nx, zf_rt, zf_ex, gz_z, gz_s, slz_z, b_nm, setZ, asB_b, opz_dd, cpz_dd, dsOf_nil, dsOf_cons, biz_d, subz_dd, slz_dd, truthZ_d, boolZ_eq, isz, tyKnown, tyOk, bop, cop, truth, itemD, slcD, bid, LV_hot, LV_gv, gv, Option.map_some, Option.bind_some, eqv_ls, eqv_sl, eqv_ii, eqv_snone, eqv_nones, eqv_sbool, eqv_bools, eqv_sint, eqv_ints, eqv_stuple, eqv_tuples, eqv_slist, eqv_lists, eqv_tt, eqv_LL, eqvA_nn, eqvA_nc, eqvA_cn, eqvA_xn, eqvA_cc, okD_int, okD_bool, okD_lit, okD_nilT, okD_nilL, ofString_inj, atI_0, atI_1, atI_2, atI_3, flatD, inD, zi_b, zi_o, zi_a, okD_T, d_law_is_step, stepB, h, hs, hp, f_law_is_condition _ _ _ ha, hc, hb2, ec, itH, itemsOf, q, e]
              · rw [hb2] at e
                simp at e ec
                simp [evE, evEs, evAnd, evOr, evT, evTA, evTO, evC, evO, evI, evS, evSs, zb_ok, zb_ex, zb_bad, zb_of, zb_no, zt_ok, zt_ex, zt_bad, zc_ok, zc_bad, zo_nx, zo_rt, zo_ex, zo_bad, zf_nx, zf_rt, zf_ex, gz_z, gz_s, slz_z, b_nm, setZ, asB_b, opz_dd, cpz_dd, dsOf_nil, dsOf_cons, biz_d, subz_dd, slz_dd, truthZ_d, boolZ_eq, isz, tyKnown, tyOk, bop, cop, truth, itemD, slcD, bid, LV_hot, LV_gv, gv, Option.map_some, Option.bind_some, eqv_ls, eqv_sl, eqv_ii, eqv_snone, eqv_nones, eqv_sbool, eqv_bools, eqv_sint, eqv_ints, eqv_stuple, eqv_tuples, eqv_slist, eqv_lists, eqv_tt, eqv_LL, eqvA_nn, eqvA_nc, eqvA_cn, eqvA_xn, eqvA_cc, okD_int, okD_bool, okD_lit, okD_nilT, okD_nilL, ofString_inj, atI_0, atI_1, atI_2, atI_3, flatD, inD, zi_b, zi_o, zi_a, okD_T, d_law_is_step, stepB, h, hs, hp, f_law_is_condition _ _ _ ha, hc, hb2, ec, itH, itemsOf, q, e]
          · simp [evE, evEs, evAnd, evOr, evT, evTA, evTO, evC, evO, evI, evS, evSs, zb_ok, zb_ex, zb_bad, zb_of, zb_no, zt_ok, zt_ex, zt_bad, zc_ok, zc_bad, zo_nx, zo_rt, zo_ex, zo_bad, zf_nx, zf_rt, zf_ex, gz_z, gz_s, slz_z, b_nm, setZ, asB_b, opz_dd, cpz_dd, dsOf_nil, dsOf_cons, biz_d, subz_dd, slz_dd, truthZ_d, boolZ_eq, isz, tyKnown, tyOk, bop, cop, truth, itemD, slcD, bid, LV_hot, LV_gv, gv, Option.map_some, Option.bind_some, eqv_ls, eqv_sl, eqv_ii, eqv_snone, eqv_nones, eqv_sbool, eqv_bools, eqv_sint, eqv_ints, eqv_stuple, eqv_tuples, eqv_slist, eqv_lists, eqv_tt, eqv_LL, eqvA_nn, eqvA_nc, eqvA_cn, eqvA_xn, eqvA_cc, okD_int, okD_bool, okD_lit, okD_nilT, okD_nilL, ofString_inj, atI_0, atI_1, atI_2, atI_3, flatD, inD, zi_b, zi_o, zi_a, okD_T, d_law_is_step, stepB, h, hs, hp, h1, h2]
        | [a, b, c], h, hl, hp =>
          have ha : okD a = true := okD_flat h (by simp)
          have hb : okD b = true := okD_flat h (by simp)
          have hc : okD c = true := okD_flat h (by simp)
          have lb := hl b (by simp [itT])
          have lc := hl c (by simp [itT])
          obtain ⟨s', e⟩ := law_bodies k (.z (.d (.tuple [.str s, a, b, c]))) .no M [b, c] .no (by simp [hb, lb, hc, lc])
          have ec : cut [(.str s : D), a, b, c] (some 2) none = [b, c] := rfl
          have q : (2 : Nat) ≤ slen := by decide
          simp at e
          rcases h1 with rfl | rfl | ⟨h1, h2⟩
          · cases hc : condB a
            · simp [evE, evEs, evAnd, evOr, evT, evTA, evTO, evC, evO, evI, evS, evSs, zb_ok, zb_ex, zb_bad, zb_of, zb_no, zt_ok, zt_ex, zt_bad, zc_ok, zc_bad, zo_nx, zo_rt, zo_ex, zo_bad, zf_nx, zf_rt, zf_ex, gz_z, gz_s, slz_z, b_nm, setZ, asB_b, opz_dd, cpz_dd, dsOf_nil, dsOf_cons, biz_d, subz_dd, slz_dd, truthZ_d, boolZ_eq, isz, tyKnown, tyOk, bop, cop, truth, itemD, slcD, bid, LV_hot, LV_gv, gv, Option.map_some, Option.bind_some, eqv_ls, eqv_sl, eqv_ii, eqv_snone, eqv_nones, eqv_sbool, eqv_bools, eqv_sint, eqv_ints, eqv_stuple, eqv_tuples, eqv_slist, eqv_lists, eqv_tt, eqv_LL, eqvA_nn, eqvA_nc, eqvA_cn, eqvA_xn, eqvA_cc, okD_int, okD_bool, okD_lit, okD_nilT, okD_nilL, ofString_inj, atI_0, atI_1, atI_2, atI_3, flatD, inD, zi_b, zi_o, zi_a, okD_T, d_law_is_step, stepB, h, hs, hp, f_law_is_condition _ _ _ ha, hc]
            · cases hb2 : bodyB b <;> cases hc2 : bodyB c
              all_goals
                rw [hb2, hc2] at e
                simp at e ec
                simp [evE, evEs, evAnd, evOr, evT, evTA, evTO, evC, evO, evI, evS, evSs, zb_ok, zb_ex, zb_bad, zb_of, zb_no, zt_ok, zt_ex, zt_bad, zc_ok, zc_bad, zo_nx, zo_rt, zo_ex, zo_bad, zf_nx, zf_rt, zf_ex, gz_z, gz_s, slz_z, b_nm, setZ, asB_b, opz_dd, cpz_dd, dsOf_nil, dsOf_cons, biz_d, subz_dd, slz_dd, truthZ_d, boolZ_eq, isz, tyKnown, tyOk, bop, cop, truth, itemD, slcD, bid, LV_hot, LV_gv, gv, Option.map_some, Option.bind_some, eqv_ls, eqv_sl, eqv_ii, eqv_snone, eqv_nones, eqv_sbool, eqv_bools, eqv_sint, eqv_ints, eqv_stuple, eqv_tuples, eqv_slist, eqv_lists, eqv_tt, eqv_LL, eqvA_nn, eqvA_nc, eqvA_cn, eqvA_xn, eqvA_cc, okD_int, okD_bool, okD_lit, okD_nilT, okD_nilL, ofString_inj, atI_0, atI_1, atI_2, atI_3, flatD, inD, zi_b, zi_o, zi_a, okD_T, d_law_is_step, stepB, h, hs, hp, f_law_is_condition _ _ _ ha, hc, hb2, hc2, ec, itH, itemsOf, q, e]
          · simp [evE, evEs, evAnd, evOr, evT, evTA, evTO, evC, evO, evI, evS, evSs, zb_ok, zb_ex, zb_bad, zb_of, zb_no, zt_ok, zt_ex, zt_bad, zc_ok, zc_bad, zo_nx, zo_rt, zo_ex, zo_bad, zf_nx, zf_rt, zf_ex, gz_z, gz_s, slz_z, b_nm, setZ, asB_b, opz_dd, cpz_dd, dsOf_nil, dsOf_cons, biz_d, subz_dd, slz_dd, truthZ_d, boolZ_eq, isz, tyKnown, tyOk, bop, cop, truth, itemD, slcD, bid, LV_hot, LV_gv, gv, Option.map_some, Option.bind_some, eqv_ls, eqv_sl, eqv_ii, eqv_snone, eqv_nones, eqv_sbool, eqv_bools, eqv_sint, eqv_ints, eqv_stuple, eqv_tuples, eqv_slist, eqv_lists, eqv_tt, eqv_LL, eqvA_nn, eqvA_nc, eqvA_cn, eqvA_xn, eqvA_cc, okD_int, okD_bool, okD_lit, okD_nilT, okD_nilL, ofString_inj, atI_0, atI_1, atI_2, atI_3, flatD, inD, zi_b, zi_o, zi_a, okD_T, d_law_is_step, stepB, h, hs, hp]
          · simp [evE, evEs, evAnd, evOr, evT, evTA, evTO, evC, evO, evI, evS, evSs, zb_ok, zb_ex, zb_bad, zb_of, zb_no, zt_ok, zt_ex, zt_bad, zc_ok, zc_bad, zo_nx, zo_rt, zo_ex, zo_bad, zf_nx, zf_rt, zf_ex, gz_z, gz_s, slz_z, b_nm, setZ, asB_b, opz_dd, cpz_dd, dsOf_nil, dsOf_cons, biz_d, subz_dd, slz_dd, truthZ_d, boolZ_eq, isz, tyKnown, tyOk, bop, cop, truth, itemD, slcD, bid, LV_hot, LV_gv, gv, Option.map_some, Option.bind_some, eqv_ls, eqv_sl, eqv_ii, eqv_snone, eqv_nones, eqv_sbool, eqv_bools, eqv_sint, eqv_ints, eqv_stuple, eqv_tuples, eqv_slist, eqv_lists, eqv_tt, eqv_LL, eqvA_nn, eqvA_nc, eqvA_cn, eqvA_xn, eqvA_cc, okD_int, okD_bool, okD_lit, okD_nilT, okD_nilL, ofString_inj, atI_0, atI_1, atI_2, atI_3, flatD, inD, zi_b, zi_o, zi_a, okD_T, d_law_is_step, stepB, h, hs, hp, h1, h2]
        | a :: b :: c :: d :: r, h, _, hp =>
          have e3 : ¬ ((r.length : Int) + 1 + 1 + 1 + 1 + 1 = 3) := by omega
          have e4 : ¬ ((r.length : Int) + 1 + 1 + 1 + 1 + 1 = 4) := by omega
          rcases h1 with rfl | rfl | ⟨h1, h2⟩ <;> simp [evE, evEs, evAnd, evOr, evT, evTA, evTO, evC, evO, evI, evS, evSs, zb_ok, zb_ex, zb_bad, zb_of, zb_no, zt_ok, zt_ex, zt_bad, zc_ok, zc_bad, zo_nx, zo_rt, zo_ex, zo_bad, zf_nx, zf_rt, zf_ex, gz_z, gz_s, slz_z, b_nm, setZ, asB_b, opz_dd, cpz_dd, dsOf_nil, dsOf_cons, biz_d, subz_dd, slz_dd, truthZ_d, boolZ_eq, isz, tyKnown, tyOk, bop, cop, truth, itemD, slcD, bid, LV_hot, LV_gv, gv, Option.map_some, Option.bind_some, eqv_ls, eqv_sl, eqv_ii, eqv_snone, eqv_nones, eqv_sbool, eqv_bools, eqv_sint, eqv_ints, eqv_stuple, eqv_tuples, eqv_slist, eqv_lists, eqv_tt, eqv_LL, eqvA_nn, eqvA_nc, eqvA_cn, eqvA_xn, eqvA_cc, okD_int, okD_bool, okD_lit, okD_nilT, okD_nilL, ofString_inj, atI_0, atI_1, atI_2, atI_3, flatD, inD, zi_b, zi_o, zi_a, okD_T, d_law_is_step, stepB, h, hs, hp, *]
      case dict kvs => exact (nodict (okD_flat h (List.mem_cons_self ..))).elim
      all_goals simp [evE, evEs, evAnd, evOr, evT, evTA, evTO, evC, evO, evI, evS, evSs, zb_ok, zb_ex, zb_bad, zb_of, zb_no, zt_ok, zt_ex, zt_bad, zc_ok, zc_bad, zo_nx, zo_rt, zo_ex, zo_bad, zf_nx, zf_rt, zf_ex, gz_z, gz_s, slz_z, b_nm, setZ, asB_b, opz_dd, cpz_dd, dsOf_nil, dsOf_cons, biz_d, subz_dd, slz_dd, truthZ_d, boolZ_eq, isz, tyKnown, tyOk, bop, cop, truth, itemD, slcD, bid, LV_hot, LV_gv, gv, Option.map_some, Option.bind_some, eqv_ls, eqv_sl, eqv_ii, eqv_snone, eqv_nones, eqv_sbool, eqv_bools, eqv_sint, eqv_ints, eqv_stuple, eqv_tuples, eqv_slist, eqv_lists, eqv_tt, eqv_LL, eqvA_nn, eqvA_nc, eqvA_cn, eqvA_xn, eqvA_cc, okD_int, okD_bool, okD_lit, okD_nilT, okD_nilL, ofString_inj, atI_0, atI_1, atI_2, atI_3, flatD, inD, zi_b, zi_o, zi_a, okD_T, d_law_is_step, stepB, h]
  case dict kvs => exact (nodict h).elim
  all_goals simp [evE, evEs, evAnd, evOr, evT, evTA, evTO, evC, evO, evI, evS, evSs, zb_ok, zb_ex, zb_bad, zb_of, zb_no, zt_ok, zt_ex, zt_bad, zc_ok, zc_bad, zo_nx, zo_rt, zo_ex, zo_bad, zf_nx, zf_rt, zf_ex, gz_z, gz_s, slz_z, b_nm, setZ, asB_b, opz_dd, cpz_dd, dsOf_nil, dsOf_cons, biz_d, subz_dd, slz_dd, truthZ_d, boolZ_eq, isz, tyKnown, tyOk, bop, cop, truth, itemD, slcD, bid, LV_hot, LV_gv, gv, Option.map_some, Option.bind_some, eqv_ls, eqv_sl, eqv_ii, eqv_snone, eqv_nones, eqv_sbool, eqv_bools, eqv_sint, eqv_ints, eqv_stuple, eqv_tuples, eqv_slist, eqv_lists, eqv_tt, eqv_LL, eqvA_nn, eqvA_nc, eqvA_cn, eqvA_xn, eqvA_cc, okD_int, okD_bool, okD_lit, okD_nilT, okD_nilL, ofString_inj, atI_0, atI_1, atI_2, atI_3, flatD, inD, zi_b, zi_o, zi_a, okD_T, d_law_is_step, stepB]
theorem f_law_is_script (k : Nat) (v : D) (M : Mem) (h : okD v = true) (hl : (itT v).length ≤ 1000000) (hl2 : ∀ s ∈ itT v, ∀ b ∈ itT s, (itT b).length ≤ 1000000) : (LV (k + 4)).fn false i_law_is_script [.d v] M = .ok (.d (.bool (scriptB v))) M := by
  rw [s_law_is_script]
  cases v
  case tuple xs =>
    have e : lcL (fun ρ' M' => evT (LV (k + 3)) t_law_is_script_1 ρ' M') (fun ρ' M' => evE (LV (k + 3)) e_law_is_script_1 ρ' M') (.nm 1) [.z (.d (.tuple xs)), .no] (xs.map .d) M = .ok ((xs.filter fun d => !stepB d).map id) M := by
      refine lc_pure xs (fun d hd => ?_) (fun d hd _ => ?_)
      · simp [evE, evEs, evAnd, evOr, evT, evTA, evTO, evC, evO, evI, evS, evSs, zb_ok, zb_ex, zb_bad, zb_of, zb_no, zt_ok, zt_ex, zt_bad, zc_ok, zc_bad, zo_nx, zo_rt, zo_ex, zo_bad, zf_nx, zf_rt, zf_ex, gz_z, gz_s, slz_z, b_nm, setZ, asB_b, opz_dd, cpz_dd, dsOf_nil, dsOf_cons, biz_d, subz_dd, slz_dd, truthZ_d, boolZ_eq, isz, tyKnown, tyOk, bop, cop, truth, itemD, slcD, bid, LV_hot, LV_gv, gv, Option.map_some, Option.bind_some, eqv_ls, eqv_sl, eqv_ii, eqv_snone, eqv_nones, eqv_sbool, eqv_bools, eqv_sint, eqv_ints, eqv_stuple, eqv_tuples, eqv_slist, eqv_lists, eqv_tt, eqv_LL, eqvA_nn, eqvA_nc, eqvA_cn, eqvA_xn, eqvA_cc, okD_int, okD_bool, okD_lit, okD_nilT, okD_nilL, ofString_inj, atI_0, atI_1, atI_2, atI_3, flatD, inD, zi_b, zi_o, zi_a, okD_T, t_law_is_script_1, f_law_is_step _ _ _ (okD_flat h hd) (hl2 d hd)]
      · simp [evE, evEs, evAnd, evOr, evT, evTA, evTO, evC, evO, evI, evS, evSs, zb_ok, zb_ex, zb_bad, zb_of, zb_no, zt_ok, zt_ex, zt_bad, zc_ok, zc_bad, zo_nx, zo_rt, zo_ex, zo_bad, zf_nx, zf_rt, zf_ex, gz_z, gz_s, slz_z, b_nm, setZ, asB_b, opz_dd, cpz_dd, dsOf_nil, dsOf_cons, biz_d, subz_dd, slz_dd, truthZ_d, boolZ_eq, isz, tyKnown, tyOk, bop, cop, truth, itemD, slcD, bid, LV_hot, LV_gv, gv, Option.map_some, Option.bind_some, eqv_ls, eqv_sl, eqv_ii, eqv_snone, eqv_nones, eqv_sbool, eqv_bools, eqv_sint, eqv_ints, eqv_stuple, eqv_tuples, eqv_slist, eqv_lists, eqv_tt, eqv_LL, eqvA_nn, eqvA_nc, eqvA_cn, eqvA_xn, eqvA_cc, okD_int, okD_bool, okD_lit, okD_nilT, okD_nilL, ofString_inj, atI_0, atI_1, atI_2, atI_3, flatD, inD, zi_b, zi_o, zi_a, okD_T, e_law_is_script_1]
    have e3 : xs.length ≤ slen := hl
    have e4 : okD (.list (xs.filter fun d => !stepB d)) = true := okD_flt _ h
    have e5 : ((6 : Int) < (xs.length : Int)) = (6 < xs.length) := propext (by omega)
    simp only [List.map_id] at e
    by_cases h6 : 6 < xs.length
    · have h7 : ¬ xs.length ≤ 6 := by omega
      simp [evE, evEs, evAnd, evOr, evT, evTA, evTO, evC, evO, evI, evS, evSs, zb_ok, zb_ex, zb_bad, zb_of, zb_no, zt_ok, zt_ex, zt_bad, zc_ok, zc_bad, zo_nx, zo_rt, zo_ex, zo_bad, zf_nx, zf_rt, zf_ex, gz_z, gz_s, slz_z, b_nm, setZ, asB_b, opz_dd, cpz_dd, dsOf_nil, dsOf_cons, biz_d, subz_dd, slz_dd, truthZ_d, boolZ_eq, isz, tyKnown, tyOk, bop, cop, truth, itemD, slcD, bid, LV_hot, LV_gv, gv, Option.map_some, Option.bind_some, eqv_ls, eqv_sl, eqv_ii, eqv_snone, eqv_nones, eqv_sbool, eqv_bools, eqv_sint, eqv_ints, eqv_stuple, eqv_tuples, eqv_slist, eqv_lists, eqv_tt, eqv_LL, eqvA_nn, eqvA_nc, eqvA_cn, eqvA_xn, eqvA_cc, okD_int, okD_bool, okD_lit, okD_nilT, okD_nilL, ofString_inj, atI_0, atI_1, atI_2, atI_3, flatD, inD, zi_b, zi_o, zi_a, okD_T, d_law_is_script, scriptB, h, itH, itemsOf, e3, wipeE, e, e4, e5, h6, h7]
    · have h7 : xs.length ≤ 6 := by omega
      cases hb : xs.all stepB
      · have hf : (xs.filter fun d => !stepB d).isEmpty = false := by rw [flt_empty, hb]
        simp [evE, evEs, evAnd, evOr, evT, evTA, evTO, evC, evO, evI, evS, evSs, zb_ok, zb_ex, zb_bad, zb_of, zb_no, zt_ok, zt_ex, zt_bad, zc_ok, zc_bad, zo_nx, zo_rt, zo_ex, zo_bad, zf_nx, zf_rt, zf_ex, gz_z, gz_s, slz_z, b_nm, setZ, asB_b, opz_dd, cpz_dd, dsOf_nil, dsOf_cons, biz_d, subz_dd, slz_dd, truthZ_d, boolZ_eq, isz, tyKnown, tyOk, bop, cop, truth, itemD, slcD, bid, LV_hot, LV_gv, gv, Option.map_some, Option.bind_some, eqv_ls, eqv_sl, eqv_ii, eqv_snone, eqv_nones, eqv_sbool, eqv_bools, eqv_sint, eqv_ints, eqv_stuple, eqv_tuples, eqv_slist, eqv_lists, eqv_tt, eqv_LL, eqvA_nn, eqvA_nc, eqvA_cn, eqvA_xn, eqvA_cc, okD_int, okD_bool, okD_lit, okD_nilT, okD_nilL, ofString_inj, atI_0, atI_1, atI_2, atI_3, flatD, inD, zi_b, zi_o, zi_a, okD_T, d_law_is_script, scriptB, h, itH, itemsOf, e3, wipeE, e, e4, e5, h6, h7, hb, hf]
      · have hf : (xs.filter fun d => !stepB d).isEmpty = true := by rw [flt_empty, hb]
        have hs := f_size (k + 2) xs M (fun x hx => ⟨List.all_eq_true.mp hb x hx, okD_flat h hx⟩)
        have e6 : ((sizes xs : Int) < 13) = (sizes xs ≤ 12) := propext (by omega)
        simp [evE, evEs, evAnd, evOr, evT, evTA, evTO, evC, evO, evI, evS, evSs, zb_ok, zb_ex, zb_bad, zb_of, zb_no, zt_ok, zt_ex, zt_bad, zc_ok, zc_bad, zo_nx, zo_rt, zo_ex, zo_bad, zf_nx, zf_rt, zf_ex, gz_z, gz_s, slz_z, b_nm, setZ, asB_b, opz_dd, cpz_dd, dsOf_nil, dsOf_cons, biz_d, subz_dd, slz_dd, truthZ_d, boolZ_eq, isz, tyKnown, tyOk, bop, cop, truth, itemD, slcD, bid, LV_hot, LV_gv, gv, Option.map_some, Option.bind_some, eqv_ls, eqv_sl, eqv_ii, eqv_snone, eqv_nones, eqv_sbool, eqv_bools, eqv_sint, eqv_ints, eqv_stuple, eqv_tuples, eqv_slist, eqv_lists, eqv_tt, eqv_LL, eqvA_nn, eqvA_nc, eqvA_cn, eqvA_xn, eqvA_cc, okD_int, okD_bool, okD_lit, okD_nilT, okD_nilL, ofString_inj, atI_0, atI_1, atI_2, atI_3, flatD, inD, zi_b, zi_o, zi_a, okD_T, d_law_is_script, scriptB, h, itH, itemsOf, e3, wipeE, e, e4, e5, h6, h7, hb, hf, hs, e6]
  case dict kvs => exact (nodict h).elim
  all_goals simp [evE, evEs, evAnd, evOr, evT, evTA, evTO, evC, evO, evI, evS, evSs, zb_ok, zb_ex, zb_bad, zb_of, zb_no, zt_ok, zt_ex, zt_bad, zc_ok, zc_bad, zo_nx, zo_rt, zo_ex, zo_bad, zf_nx, zf_rt, zf_ex, gz_z, gz_s, slz_z, b_nm, setZ, asB_b, opz_dd, cpz_dd, dsOf_nil, dsOf_cons, biz_d, subz_dd, slz_dd, truthZ_d, boolZ_eq, isz, tyKnown, tyOk, bop, cop, truth, itemD, slcD, bid, LV_hot, LV_gv, gv, Option.map_some, Option.bind_some, eqv_ls, eqv_sl, eqv_ii, eqv_snone, eqv_nones, eqv_sbool, eqv_bools, eqv_sint, eqv_ints, eqv_stuple, eqv_tuples, eqv_slist, eqv_lists, eqv_tt, eqv_LL, eqvA_nn, eqvA_nc, eqvA_cn, eqvA_xn, eqvA_cc, okD_int, okD_bool, okD_lit, okD_nilT, okD_nilL, ofString_inj, atI_0, atI_1, atI_2, atI_3, flatD, inD, zi_b, zi_o, zi_a, okD_T, d_law_is_script, scriptB]
end Lw
namespace Lw
open PySem Zt
theorem f_need_script (k : Nat) (v : D) (M : Mem) (h : okD v = true) (hl : (itT v).length ≤ 1000000) (hl2 : ∀ s ∈ itT v, ∀ b ∈ itT s, (itT b).length ≤ 1000000) : (LV (k + 7)).fn false i_need_script [.d v] M = if scriptB v then .ok (.d .none) M else .ex ⟨3, []⟩ M := by
  rw [s_need_script]
  simp [evE, evEs, evAnd, evOr, evT, evTA, evTO, evC, evO, evI, evS, evSs, zb_ok, zb_ex, zb_bad, zb_of, zb_no, zt_ok, zt_ex, zt_bad, zc_ok, zc_bad, zo_nx, zo_rt, zo_ex, zo_bad, zf_nx, zf_rt, zf_ex, gz_z, gz_s, slz_z, b_nm, setZ, asB_b, opz_dd, cpz_dd, dsOf_nil, dsOf_cons, biz_d, subz_dd, slz_dd, truthZ_d, boolZ_eq, isz, tyKnown, tyOk, bop, cop, truth, itemD, slcD, bid, LV_hot, LV_gv, gv, Option.map_some, Option.bind_some, eqv_ls, eqv_sl, eqv_ii, eqv_snone, eqv_nones, eqv_sbool, eqv_bools, eqv_sint, eqv_ints, eqv_stuple, eqv_tuples, eqv_slist, eqv_lists, eqv_tt, eqv_LL, eqvA_nn, eqvA_nc, eqvA_cn, eqvA_xn, eqvA_cc, okD_int, okD_bool, okD_lit, okD_nilT, okD_nilL, ofString_inj, atI_0, atI_1, atI_2, atI_3, flatD, inD, zi_b, zi_o, zi_a, okD_T, d_need_script, f_is_script _ _ _ h hl hl2]
  cases scriptB v <;> simp [evE, evEs, evAnd, evOr, evT, evTA, evTO, evC, evO, evI, evS, evSs, zb_ok, zb_ex, zb_bad, zb_of, zb_no, zt_ok, zt_ex, zt_bad, zc_ok, zc_bad, zo_nx, zo_rt, zo_ex, zo_bad, zf_nx, zf_rt, zf_ex, gz_z, gz_s, slz_z, b_nm, setZ, asB_b, opz_dd, cpz_dd, dsOf_nil, dsOf_cons, biz_d, subz_dd, slz_dd, truthZ_d, boolZ_eq, isz, tyKnown, tyOk, bop, cop, truth, itemD, slcD, bid, LV_hot, LV_gv, gv, Option.map_some, Option.bind_some, eqv_ls, eqv_sl, eqv_ii, eqv_snone, eqv_nones, eqv_sbool, eqv_bools, eqv_sint, eqv_ints, eqv_stuple, eqv_tuples, eqv_slist, eqv_lists, eqv_tt, eqv_LL, eqvA_nn, eqvA_nc, eqvA_cn, eqvA_xn, eqvA_cc, okD_int, okD_bool, okD_lit, okD_nilT, okD_nilL, ofString_inj, atI_0, atI_1, atI_2, atI_3, flatD, inD, zi_b, zi_o, zi_a, okD_T]
end Lw
namespace Lw
open PySem Zt
theorem row_str {d : D} (h : rowB d = true) : ∃ s, d = .str s ∧ s.length ≤ 8 := by
  cases d <;> simp [rowB] at h
  exact ⟨_, rfl, h.1⟩
theorem len_signs {s : Str} : (signsOf s).length = s.length := by simp [signsOf, Str.length]
theorem f_is_row (k : Nat) (v : D) (M : Mem) (h : okD v = true) (hl : ∀ s, v = .str s → s.length ≤ 1000000) : (LV (k + 1)).fn false i_is_row [.d v] M = .ok (.d (.bool (rowB v))) M := by
  rw [s_is_row]
  cases v
  case str s =>
    have hs : s.length ≤ slen := hl s rfl
    have e : lcL (fun ρ' M' => evT (LV k) t_is_row_1 ρ' M') (fun ρ' M' => evE (LV k) e_is_row_1 ρ' M') (.nm 1) [.z (.d (.str s)), .no] ((signsOf s).map .d) M = .ok (((signsOf s).filter fun d => !sgB "abcABC" d).map id) M := by
      refine lc_pure (signsOf s) (fun d hd => ?_) (fun d hd _ => ?_)
      · obtain ⟨c, hc, rfl⟩ := List.mem_map.mp hd
        simp [evE, evEs, evAnd, evOr, evT, evTA, evTO, evC, evO, evI, evS, evSs, zb_ok, zb_ex, zb_bad, zb_of, zb_no, zt_ok, zt_ex, zt_bad, zc_ok, zc_bad, zo_nx, zo_rt, zo_ex, zo_bad, zf_nx, zf_rt, zf_ex, gz_z, gz_s, slz_z, b_nm, setZ, asB_b, opz_dd, cpz_dd, dsOf_nil, dsOf_cons, biz_d, subz_dd, slz_dd, truthZ_d, boolZ_eq, isz, tyKnown, tyOk, bop, cop, truth, itemD, slcD, bid, LV_hot, LV_gv, gv, Option.map_some, Option.bind_some, eqv_ls, eqv_sl, eqv_ii, eqv_snone, eqv_nones, eqv_sbool, eqv_bools, eqv_sint, eqv_ints, eqv_stuple, eqv_tuples, eqv_slist, eqv_lists, eqv_tt, eqv_LL, eqvA_nn, eqvA_nc, eqvA_cn, eqvA_xn, eqvA_cc, okD_int, okD_bool, okD_lit, okD_nilT, okD_nilL, ofString_inj, atI_0, atI_1, atI_2, atI_3, flatD, inD, zi_b, zi_o, zi_a, okD_T, t_is_row_1, sgB]
      · simp [evE, evEs, evAnd, evOr, evT, evTA, evTO, evC, evO, evI, evS, evSs, zb_ok, zb_ex, zb_bad, zb_of, zb_no, zt_ok, zt_ex, zt_bad, zc_ok, zc_bad, zo_nx, zo_rt, zo_ex, zo_bad, zf_nx, zf_rt, zf_ex, gz_z, gz_s, slz_z, b_nm, setZ, asB_b, opz_dd, cpz_dd, dsOf_nil, dsOf_cons, biz_d, subz_dd, slz_dd, truthZ_d, boolZ_eq, isz, tyKnown, tyOk, bop, cop, truth, itemD, slcD, bid, LV_hot, LV_gv, gv, Option.map_some, Option.bind_some, eqv_ls, eqv_sl, eqv_ii, eqv_snone, eqv_nones, eqv_sbool, eqv_bools, eqv_sint, eqv_ints, eqv_stuple, eqv_tuples, eqv_slist, eqv_lists, eqv_tt, eqv_LL, eqvA_nn, eqvA_nc, eqvA_cn, eqvA_xn, eqvA_cc, okD_int, okD_bool, okD_lit, okD_nilT, okD_nilL, ofString_inj, atI_0, atI_1, atI_2, atI_3, flatD, inD, zi_b, zi_o, zi_a, okD_T, e_is_row_1]
    have e3 : (signsOf s).length ≤ slen := by rw [len_signs]; exact hs
    have e4 : okD (.list ((signsOf s).filter fun d => !sgB "abcABC" d)) = true := okD_L fun x hx => ok_signs10 (by rw [← okD_str]; exact h) x (List.mem_filter.mp hx).1
    have e5 : ((8 : Int) < (s.length : Int)) = (8 < s.length) := propext (by omega)
    simp only [List.map_id] at e
    by_cases h8 : s.length ≤ 8
    · have h9 : ¬ (8 < s.length) := by omega
      simp [evE, evEs, evAnd, evOr, evT, evTA, evTO, evC, evO, evI, evS, evSs, zb_ok, zb_ex, zb_bad, zb_of, zb_no, zt_ok, zt_ex, zt_bad, zc_ok, zc_bad, zo_nx, zo_rt, zo_ex, zo_bad, zf_nx, zf_rt, zf_ex, gz_z, gz_s, slz_z, b_nm, setZ, asB_b, opz_dd, cpz_dd, dsOf_nil, dsOf_cons, biz_d, subz_dd, slz_dd, truthZ_d, boolZ_eq, isz, tyKnown, tyOk, bop, cop, truth, itemD, slcD, bid, LV_hot, LV_gv, gv, Option.map_some, Option.bind_some, eqv_ls, eqv_sl, eqv_ii, eqv_snone, eqv_nones, eqv_sbool, eqv_bools, eqv_sint, eqv_ints, eqv_stuple, eqv_tuples, eqv_slist, eqv_lists, eqv_tt, eqv_LL, eqvA_nn, eqvA_nc, eqvA_cn, eqvA_xn, eqvA_cc, okD_int, okD_bool, okD_lit, okD_nilT, okD_nilL, ofString_inj, atI_0, atI_1, atI_2, atI_3, flatD, inD, zi_b, zi_o, zi_a, okD_T, d_is_row, rowB, h, hs, itH, itemsOf, e3, wipeE, e, e4, e5, h8, h9, flt_empty]
    · have h9 : 8 < s.length := by omega
      simp [evE, evEs, evAnd, evOr, evT, evTA, evTO, evC, evO, evI, evS, evSs, zb_ok, zb_ex, zb_bad, zb_of, zb_no, zt_ok, zt_ex, zt_bad, zc_ok, zc_bad, zo_nx, zo_rt, zo_ex, zo_bad, zf_nx, zf_rt, zf_ex, gz_z, gz_s, slz_z, b_nm, setZ, asB_b, opz_dd, cpz_dd, dsOf_nil, dsOf_cons, biz_d, subz_dd, slz_dd, truthZ_d, boolZ_eq, isz, tyKnown, tyOk, bop, cop, truth, itemD, slcD, bid, LV_hot, LV_gv, gv, Option.map_some, Option.bind_some, eqv_ls, eqv_sl, eqv_ii, eqv_snone, eqv_nones, eqv_sbool, eqv_bools, eqv_sint, eqv_ints, eqv_stuple, eqv_tuples, eqv_slist, eqv_lists, eqv_tt, eqv_LL, eqvA_nn, eqvA_nc, eqvA_cn, eqvA_xn, eqvA_cc, okD_int, okD_bool, okD_lit, okD_nilT, okD_nilL, ofString_inj, atI_0, atI_1, atI_2, atI_3, flatD, inD, zi_b, zi_o, zi_a, okD_T, d_is_row, rowB, h, hs, itH, itemsOf, e3, wipeE, e, e4, e5, h8, h9, flt_empty]
  case dict kvs => exact (nodict h).elim
  all_goals simp [evE, evEs, evAnd, evOr, evT, evTA, evTO, evC, evO, evI, evS, evSs, zb_ok, zb_ex, zb_bad, zb_of, zb_no, zt_ok, zt_ex, zt_bad, zc_ok, zc_bad, zo_nx, zo_rt, zo_ex, zo_bad, zf_nx, zf_rt, zf_ex, gz_z, gz_s, slz_z, b_nm, setZ, asB_b, opz_dd, cpz_dd, dsOf_nil, dsOf_cons, biz_d, subz_dd, slz_dd, truthZ_d, boolZ_eq, isz, tyKnown, tyOk, bop, cop, truth, itemD, slcD, bid, LV_hot, LV_gv, gv, Option.map_some, Option.bind_some, eqv_ls, eqv_sl, eqv_ii, eqv_snone, eqv_nones, eqv_sbool, eqv_bools, eqv_sint, eqv_ints, eqv_stuple, eqv_tuples, eqv_slist, eqv_lists, eqv_tt, eqv_LL, eqvA_nn, eqvA_nc, eqvA_cn, eqvA_xn, eqvA_cc, okD_int, okD_bool, okD_lit, okD_nilT, okD_nilL, ofString_inj, atI_0, atI_1, atI_2, atI_3, flatD, inD, zi_b, zi_o, zi_a, okD_T, d_is_row, rowB]
theorem f_is_stand (k : Nat) (v : D) (M : Mem) (h : okD v = true) (hl : (itT v).length ≤ 1000000) (hl2 : ∀ x ∈ itT v, ∀ s, x = .str s → s.length ≤ 1000000) : (LV (k + 2)).fn false i_is_stand [.d v] M = .ok (.d (.bool (standB v))) M := by
  rw [s_is_stand]
  cases v
  case tuple xs =>
    have e : lcL (fun ρ' M' => evT (LV (k + 1)) t_is_stand_1 ρ' M') (fun ρ' M' => evE (LV (k + 1)) e_is_stand_1 ρ' M') (.nm 1) [.z (.d (.tuple xs)), .no] (xs.map .d) M = .ok ((xs.filter fun d => !rowB d).map id) M := by
      refine lc_pure xs (fun d hd => ?_) (fun d hd _ => ?_)
      · simp [evE, evEs, evAnd, evOr, evT, evTA, evTO, evC, evO, evI, evS, evSs, zb_ok, zb_ex, zb_bad, zb_of, zb_no, zt_ok, zt_ex, zt_bad, zc_ok, zc_bad, zo_nx, zo_rt, zo_ex, zo_bad, zf_nx, zf_rt, zf_ex, gz_z, gz_s, slz_z, b_nm, setZ, asB_b, opz_dd, cpz_dd, dsOf_nil, dsOf_cons, biz_d, subz_dd, slz_dd, truthZ_d, boolZ_eq, isz, tyKnown, tyOk, bop, cop, truth, itemD, slcD, bid, LV_hot, LV_gv, gv, Option.map_some, Option.bind_some, eqv_ls, eqv_sl, eqv_ii, eqv_snone, eqv_nones, eqv_sbool, eqv_bools, eqv_sint, eqv_ints, eqv_stuple, eqv_tuples, eqv_slist, eqv_lists, eqv_tt, eqv_LL, eqvA_nn, eqvA_nc, eqvA_cn, eqvA_xn, eqvA_cc, okD_int, okD_bool, okD_lit, okD_nilT, okD_nilL, ofString_inj, atI_0, atI_1, atI_2, atI_3, flatD, inD, zi_b, zi_o, zi_a, okD_T, t_is_stand_1, f_is_row _ _ _ (okD_flat h hd) (hl2 d hd)]
      · simp [evE, evEs, evAnd, evOr, evT, evTA, evTO, evC, evO, evI, evS, evSs, zb_ok, zb_ex, zb_bad, zb_of, zb_no, zt_ok, zt_ex, zt_bad, zc_ok, zc_bad, zo_nx, zo_rt, zo_ex, zo_bad, zf_nx, zf_rt, zf_ex, gz_z, gz_s, slz_z, b_nm, setZ, asB_b, opz_dd, cpz_dd, dsOf_nil, dsOf_cons, biz_d, subz_dd, slz_dd, truthZ_d, boolZ_eq, isz, tyKnown, tyOk, bop, cop, truth, itemD, slcD, bid, LV_hot, LV_gv, gv, Option.map_some, Option.bind_some, eqv_ls, eqv_sl, eqv_ii, eqv_snone, eqv_nones, eqv_sbool, eqv_bools, eqv_sint, eqv_ints, eqv_stuple, eqv_tuples, eqv_slist, eqv_lists, eqv_tt, eqv_LL, eqvA_nn, eqvA_nc, eqvA_cn, eqvA_xn, eqvA_cc, okD_int, okD_bool, okD_lit, okD_nilT, okD_nilL, ofString_inj, atI_0, atI_1, atI_2, atI_3, flatD, inD, zi_b, zi_o, zi_a, okD_T, e_is_stand_1]
    have e3 : xs.length ≤ slen := hl
    have e4 : okD (.list (xs.filter fun d => !rowB d)) = true := okD_flt _ h
    simp only [List.map_id] at e
    match xs, h, hl2, e, e3, e4 with
    | [], _, _, _, _, _ => simp [evE, evEs, evAnd, evOr, evT, evTA, evTO, evC, evO, evI, evS, evSs, zb_ok, zb_ex, zb_bad, zb_of, zb_no, zt_ok, zt_ex, zt_bad, zc_ok, zc_bad, zo_nx, zo_rt, zo_ex, zo_bad, zf_nx, zf_rt, zf_ex, gz_z, gz_s, slz_z, b_nm, setZ, asB_b, opz_dd, cpz_dd, dsOf_nil, dsOf_cons, biz_d, subz_dd, slz_dd, truthZ_d, boolZ_eq, isz, tyKnown, tyOk, bop, cop, truth, itemD, slcD, bid, LV_hot, LV_gv, gv, Option.map_some, Option.bind_some, eqv_ls, eqv_sl, eqv_ii, eqv_snone, eqv_nones, eqv_sbool, eqv_bools, eqv_sint, eqv_ints, eqv_stuple, eqv_tuples, eqv_slist, eqv_lists, eqv_tt, eqv_LL, eqvA_nn, eqvA_nc, eqvA_cn, eqvA_xn, eqvA_cc, okD_int, okD_bool, okD_lit, okD_nilT, okD_nilL, ofString_inj, atI_0, atI_1, atI_2, atI_3, flatD, inD, zi_b, zi_o, zi_a, okD_T, d_is_stand, standB]
    | [_], _, _, _, _, _ => simp [evE, evEs, evAnd, evOr, evT, evTA, evTO, evC, evO, evI, evS, evSs, zb_ok, zb_ex, zb_bad, zb_of, zb_no, zt_ok, zt_ex, zt_bad, zc_ok, zc_bad, zo_nx, zo_rt, zo_ex, zo_bad, zf_nx, zf_rt, zf_ex, gz_z, gz_s, slz_z, b_nm, setZ, asB_b, opz_dd, cpz_dd, dsOf_nil, dsOf_cons, biz_d, subz_dd, slz_dd, truthZ_d, boolZ_eq, isz, tyKnown, tyOk, bop, cop, truth, itemD, slcD, bid, LV_hot, LV_gv, gv, Option.map_some, Option.bind_some, eqv_ls, eqv_sl, eqv_ii, eqv_snone, eqv_nones, eqv_sbool, eqv_bools, eqv_sint, eqv_ints, eqv_stuple, eqv_tuples, eqv_slist, eqv_lists, eqv_tt, eqv_LL, eqvA_nn, eqvA_nc, eqvA_cn, eqvA_xn, eqvA_cc, okD_int, okD_bool, okD_lit, okD_nilT, okD_nilL, ofString_inj, atI_0, atI_1, atI_2, atI_3, flatD, inD, zi_b, zi_o, zi_a, okD_T, d_is_stand, standB]
    | [_, _], _, _, _, _, _ => simp [evE, evEs, evAnd, evOr, evT, evTA, evTO, evC, evO, evI, evS, evSs, zb_ok, zb_ex, zb_bad, zb_of, zb_no, zt_ok, zt_ex, zt_bad, zc_ok, zc_bad, zo_nx, zo_rt, zo_ex, zo_bad, zf_nx, zf_rt, zf_ex, gz_z, gz_s, slz_z, b_nm, setZ, asB_b, opz_dd, cpz_dd, dsOf_nil, dsOf_cons, biz_d, subz_dd, slz_dd, truthZ_d, boolZ_eq, isz, tyKnown, tyOk, bop, cop, truth, itemD, slcD, bid, LV_hot, LV_gv, gv, Option.map_some, Option.bind_some, eqv_ls, eqv_sl, eqv_ii, eqv_snone, eqv_nones, eqv_sbool, eqv_bools, eqv_sint, eqv_ints, eqv_stuple, eqv_tuples, eqv_slist, eqv_lists, eqv_tt, eqv_LL, eqvA_nn, eqvA_nc, eqvA_cn, eqvA_xn, eqvA_cc, okD_int, okD_bool, okD_lit, okD_nilT, okD_nilL, ofString_inj, atI_0, atI_1, atI_2, atI_3, flatD, inD, zi_b, zi_o, zi_a, okD_T, d_is_stand, standB]
    | [a, b, c], h, hl2, e, e3, e4 =>
      cases q : (rowB a && rowB b && rowB c)
      · have e6 : ([a, b, c].filter fun d => !rowB d).isEmpty = false := by
          rw [flt_empty]
          simpa [Bool.and_assoc] using q
        have e7 : standB (.tuple [a, b, c]) = false := by
          show (rowB a && rowB b && rowB c && _) = false
          rw [q]
          rfl
        rw [e7]
        simp only [List.map_cons, List.map_nil] at e
        generalize ([a, b, c].filter fun d => !rowB d) = F at *
        simp [evE, evEs, evAnd, evOr, evT, evTA, evTO, evC, evO, evI, evS, evSs, zb_ok, zb_ex, zb_bad, zb_of, zb_no, zt_ok, zt_ex, zt_bad, zc_ok, zc_bad, zo_nx, zo_rt, zo_ex, zo_bad, zf_nx, zf_rt, zf_ex, gz_z, gz_s, slz_z, b_nm, setZ, asB_b, opz_dd, cpz_dd, dsOf_nil, dsOf_cons, biz_d, subz_dd, slz_dd, truthZ_d, boolZ_eq, isz, tyKnown, tyOk, bop, cop, truth, itemD, slcD, bid, LV_hot, LV_gv, gv, Option.map_some, Option.bind_some, eqv_ls, eqv_sl, eqv_ii, eqv_snone, eqv_nones, eqv_sbool, eqv_bools, eqv_sint, eqv_ints, eqv_stuple, eqv_tuples, eqv_slist, eqv_lists, eqv_tt, eqv_LL, eqvA_nn, eqvA_nc, eqvA_cn, eqvA_xn, eqvA_cc, okD_int, okD_bool, okD_lit, okD_nilT, okD_nilL, ofString_inj, atI_0, atI_1, atI_2, atI_3, flatD, inD, zi_b, zi_o, zi_a, okD_T, d_is_stand, h, itH, itemsOf, slen, wipeE, e, e4, e6]
      · have e6 : ([a, b, c].filter fun d => !rowB d).isEmpty = true := by
          rw [flt_empty]
          simpa [Bool.and_assoc] using q
        simp only [Bool.and_eq_true] at q
        obtain ⟨x, rfl, lx⟩ := row_str q.1.1
        obtain ⟨y, rfl, ly⟩ := row_str q.1.2
        obtain ⟨z, rfl, lz⟩ := row_str q.2
        have q1 : x.length ≤ slen := by show _ ≤ 1000000; omega
        have q2 : y.length ≤ slen := by show _ ≤ 1000000; omega
        have q3 : z.length ≤ slen := by show _ ≤ 1000000; omega
        simp only [List.map_cons, List.map_nil] at e
        generalize ([PyData.str x, PyData.str y, PyData.str z].filter fun d => !rowB d) = F at *
        have e9 : (3 : Nat) ≤ slen := by decide
        have e8 : (((x.length : Int) + (y.length : Int) + (z.length : Int)) ≤ 8) = (x.length + y.length + z.length ≤ 8) := propext (by omega)
        simp [evE, evEs, evAnd, evOr, evT, evTA, evTO, evC, evO, evI, evS, evSs, zb_ok, zb_ex, zb_bad, zb_of, zb_no, zt_ok, zt_ex, zt_bad, zc_ok, zc_bad, zo_nx, zo_rt, zo_ex, zo_bad, zf_nx, zf_rt, zf_ex, gz_z, gz_s, slz_z, b_nm, setZ, asB_b, opz_dd, cpz_dd, dsOf_nil, dsOf_cons, biz_d, subz_dd, slz_dd, truthZ_d, boolZ_eq, isz, tyKnown, tyOk, bop, cop, truth, itemD, slcD, bid, LV_hot, LV_gv, gv, Option.map_some, Option.bind_some, eqv_ls, eqv_sl, eqv_ii, eqv_snone, eqv_nones, eqv_sbool, eqv_bools, eqv_sint, eqv_ints, eqv_stuple, eqv_tuples, eqv_slist, eqv_lists, eqv_tt, eqv_LL, eqvA_nn, eqvA_nc, eqvA_cn, eqvA_xn, eqvA_cc, okD_int, okD_bool, okD_lit, okD_nilT, okD_nilL, ofString_inj, atI_0, atI_1, atI_2, atI_3, flatD, inD, zi_b, zi_o, zi_a, okD_T, d_is_stand, standB, lenD, q, h, itH, itemsOf, q1, q2, q3, e9, wipeE, e, e4, e6, e8]
        exact decide_eq_decide.mpr Iff.rfl
    | a :: b :: c :: d :: r, h, _, _, _, _ =>
      have e3 : ¬ ((r.length : Int) + 1 + 1 + 1 + 1 = 3) := by omega
      simp [evE, evEs, evAnd, evOr, evT, evTA, evTO, evC, evO, evI, evS, evSs, zb_ok, zb_ex, zb_bad, zb_of, zb_no, zt_ok, zt_ex, zt_bad, zc_ok, zc_bad, zo_nx, zo_rt, zo_ex, zo_bad, zf_nx, zf_rt, zf_ex, gz_z, gz_s, slz_z, b_nm, setZ, asB_b, opz_dd, cpz_dd, dsOf_nil, dsOf_cons, biz_d, subz_dd, slz_dd, truthZ_d, boolZ_eq, isz, tyKnown, tyOk, bop, cop, truth, itemD, slcD, bid, LV_hot, LV_gv, gv, Option.map_some, Option.bind_some, eqv_ls, eqv_sl, eqv_ii, eqv_snone, eqv_nones, eqv_sbool, eqv_bools, eqv_sint, eqv_ints, eqv_stuple, eqv_tuples, eqv_slist, eqv_lists, eqv_tt, eqv_LL, eqvA_nn, eqvA_nc, eqvA_cn, eqvA_xn, eqvA_cc, okD_int, okD_bool, okD_lit, okD_nilT, okD_nilL, ofString_inj, atI_0, atI_1, atI_2, atI_3, flatD, inD, zi_b, zi_o, zi_a, okD_T, d_is_stand, standB, h, e3]
  case dict kvs => exact (nodict h).elim
  all_goals simp [evE, evEs, evAnd, evOr, evT, evTA, evTO, evC, evO, evI, evS, evSs, zb_ok, zb_ex, zb_bad, zb_of, zb_no, zt_ok, zt_ex, zt_bad, zc_ok, zc_bad, zo_nx, zo_rt, zo_ex, zo_bad, zf_nx, zf_rt, zf_ex, gz_z, gz_s, slz_z, b_nm, setZ, asB_b, opz_dd, cpz_dd, dsOf_nil, dsOf_cons, biz_d, subz_dd, slz_dd, truthZ_d, boolZ_eq, isz, tyKnown, tyOk, bop, cop, truth, itemD, slcD, bid, LV_hot, LV_gv, gv, Option.map_some, Option.bind_some, eqv_ls, eqv_sl, eqv_ii, eqv_snone, eqv_nones, eqv_sbool, eqv_bools, eqv_sint, eqv_ints, eqv_stuple, eqv_tuples, eqv_slist, eqv_lists, eqv_tt, eqv_LL, eqvA_nn, eqvA_nc, eqvA_cn, eqvA_xn, eqvA_cc, okD_int, okD_bool, okD_lit, okD_nilT, okD_nilL, ofString_inj, atI_0, atI_1, atI_2, atI_3, flatD, inD, zi_b, zi_o, zi_a, okD_T, d_is_stand, standB]
theorem nth_one {s : Str} {i : Nat} (hi : i < s.cps.toList.length) : ∃ c, s.cps.toList[i]? = some c ∧ L2.atI s.cps.toList (i : Int) = some c := by
  refine ⟨s.cps.toList[i], List.getElem?_eq_getElem hi, ?_⟩
  unfold L2.atI L2.ixN
  have h1 : (0 : Int) ≤ (i : Int) := by omega
  have h2 : (i : Int) < (s.cps.toList.length : Int) := by omega
  rw [if_pos h1, if_pos h2]
  show s.cps.toList[(i : Int).toNat]? = _
  rw [Int.toNat_natCast]
  exact List.getElem?_eq_getElem hi
/-- whether a place is followed by a smaller sign -/
def downB (l : List Nat) : D → Bool
  | .int (.ofNat i) => match l[i]?, l[i + 1]? with
    | some a, some b => decide (b < a)
    | _, _ => false
  | _ => false
theorem down_adj {l : List Nat} : (((List.range (l.length - 1)).map fun (i : Nat) => (.int (i : Int) : D)).filter (downB l)).isEmpty = adj l := by
  rw [Bool.eq_iff_iff, List.isEmpty_iff, List.filter_eq_nil_iff, adj_get]
  constructor
  · intro h i hi a b ha hb
    have := h (.int (i : Int)) (List.mem_map.mpr ⟨i, List.mem_range.mpr hi, rfl⟩)
    have e : downB l (.int (i : Int)) = decide (b < a) := by
      show downB l (.int (.ofNat i)) = _
      simp [downB, ha, hb]
    rw [e] at this
    simp at this
    omega
  · intro h d hd
    obtain ⟨i, hi, rfl⟩ := List.mem_map.mp hd
    have hi := List.mem_range.mp hi
    have e : downB l (.int (i : Int)) = decide (l[i + 1] < l[i]) := by
      show downB l (.int (.ofNat i)) = _
      have h1 : l[i]? = some l[i] := List.getElem?_eq_getElem (by omega)
      have h2 : l[i + 1]? = some l[i + 1] := List.getElem?_eq_getElem (by omega)
      simp [downB, h1, h2]
    have := h i hi l[i] l[i + 1] (List.getElem?_eq_getElem (by omega)) (List.getElem?_eq_getElem (by omega))
    rw [e]
    simp
    omega
theorem f_is_sum (k : Nat) (v : D) (M : Mem) (h : okD v = true) (hl : ∀ s, v = .str s → s.length ≤ 1000000) : (LV (k + 1)).fn false i_is_sum [.d v] M = .ok (.d (.bool (sumB v))) M := by
  rw [s_is_sum]
  cases v
  case str s =>
    have hs : s.length ≤ slen := hl s rfl
    have e : lcL (fun ρ' M' => evT (LV k) t_is_sum_1 ρ' M') (fun ρ' M' => evE (LV k) e_is_sum_1 ρ' M') (.nm 1) [.z (.d (.str s)), .no, .no] ((signsOf s).map .d) M = .ok (((signsOf s).filter fun d => !sgB "abcpqr" d).map id) M := by
      refine lc_pure (signsOf s) (fun d hd => ?_) (fun d hd _ => ?_)
      · obtain ⟨c, hc, rfl⟩ := List.mem_map.mp hd
        simp [evE, evEs, evAnd, evOr, evT, evTA, evTO, evC, evO, evI, evS, evSs, zb_ok, zb_ex, zb_bad, zb_of, zb_no, zt_ok, zt_ex, zt_bad, zc_ok, zc_bad, zo_nx, zo_rt, zo_ex, zo_bad, zf_nx, zf_rt, zf_ex, gz_z, gz_s, slz_z, b_nm, setZ, asB_b, opz_dd, cpz_dd, dsOf_nil, dsOf_cons, biz_d, subz_dd, slz_dd, truthZ_d, boolZ_eq, isz, tyKnown, tyOk, bop, cop, truth, itemD, slcD, bid, LV_hot, LV_gv, gv, Option.map_some, Option.bind_some, eqv_ls, eqv_sl, eqv_ii, eqv_snone, eqv_nones, eqv_sbool, eqv_bools, eqv_sint, eqv_ints, eqv_stuple, eqv_tuples, eqv_slist, eqv_lists, eqv_tt, eqv_LL, eqvA_nn, eqvA_nc, eqvA_cn, eqvA_xn, eqvA_cc, okD_int, okD_bool, okD_lit, okD_nilT, okD_nilL, ofString_inj, atI_0, atI_1, atI_2, atI_3, flatD, inD, zi_b, zi_o, zi_a, okD_T, t_is_sum_1, sgB]
      · simp [evE, evEs, evAnd, evOr, evT, evTA, evTO, evC, evO, evI, evS, evSs, zb_ok, zb_ex, zb_bad, zb_of, zb_no, zt_ok, zt_ex, zt_bad, zc_ok, zc_bad, zo_nx, zo_rt, zo_ex, zo_bad, zf_nx, zf_rt, zf_ex, gz_z, gz_s, slz_z, b_nm, setZ, asB_b, opz_dd, cpz_dd, dsOf_nil, dsOf_cons, biz_d, subz_dd, slz_dd, truthZ_d, boolZ_eq, isz, tyKnown, tyOk, bop, cop, truth, itemD, slcD, bid, LV_hot, LV_gv, gv, Option.map_some, Option.bind_some, eqv_ls, eqv_sl, eqv_ii, eqv_snone, eqv_nones, eqv_sbool, eqv_bools, eqv_sint, eqv_ints, eqv_stuple, eqv_tuples, eqv_slist, eqv_lists, eqv_tt, eqv_LL, eqvA_nn, eqvA_nc, eqvA_cn, eqvA_xn, eqvA_cc, okD_int, okD_bool, okD_lit, okD_nilT, okD_nilL, ofString_inj, atI_0, atI_1, atI_2, atI_3, flatD, inD, zi_b, zi_o, zi_a, okD_T, e_is_sum_1]
    have e3 : (signsOf s).length ≤ slen := by rw [len_signs]; exact hs
    have e4 : okD (.list ((signsOf s).filter fun d => !sgB "abcpqr" d)) = true := okD_L fun x hx => ok_signs10 (by rw [← okD_str]; exact h) x (List.mem_filter.mp hx).1
    simp only [List.map_id] at e
    have e5 : ((1 : Int) ≤ (s.length : Int)) = (1 ≤ s.length) := propext (by omega)
    have e6 : ((s.length : Int) ≤ (8 : Int)) = (s.length ≤ 8) := propext (by omega)
    by_cases h1 : 1 ≤ s.length ∧ s.length ≤ 8
    · obtain ⟨h1, h8⟩ := h1
      have e7 : lcL (fun ρ' M' => evT (LV k) t_is_sum_2 ρ' M') (fun ρ' M' => evE (LV k) e_is_sum_2 ρ' M') (.nm 2) [.z (.d (.str s)), .no, .no] (((List.range (s.cps.toList.length - 1)).map fun (i : Nat) => (.int (i : Int) : D)).map .d) M = .ok ((((List.range (s.cps.toList.length - 1)).map fun (i : Nat) => (.int (i : Int) : D)).filter (downB s.cps.toList)).map id) M := by
        refine lc_pure _ (fun d hd => ?_) (fun d hd _ => ?_)
        · obtain ⟨i, hi, rfl⟩ := List.mem_map.mp hd
          have hi := List.mem_range.mp hi
          obtain ⟨a, a1, a2⟩ := nth_one (s := s) (i := i) (by omega)
          obtain ⟨b, b1, b2⟩ := nth_one (s := s) (i := i + 1) (by omega)
          have b2 : L2.atI s.cps.toList ((i : Int) + 1) = some b := b2
          have e : downB s.cps.toList (.int (i : Int)) = decide (b < a) := by
            show downB s.cps.toList (.int (.ofNat i)) = _
            simp only [downB, a1, b1]
          have e2 : strLt ⟨#[b]⟩ ⟨#[a]⟩ = decide (b < a) := lt_one b a
          rw [e]
          simp [evE, evEs, evAnd, evOr, evT, evTA, evTO, evC, evO, evI, evS, evSs, zb_ok, zb_ex, zb_bad, zb_of, zb_no, zt_ok, zt_ex, zt_bad, zc_ok, zc_bad, zo_nx, zo_rt, zo_ex, zo_bad, zf_nx, zf_rt, zf_ex, gz_z, gz_s, slz_z, b_nm, setZ, asB_b, opz_dd, cpz_dd, dsOf_nil, dsOf_cons, biz_d, subz_dd, slz_dd, truthZ_d, boolZ_eq, isz, tyKnown, tyOk, bop, cop, truth, itemD, slcD, bid, LV_hot, LV_gv, gv, Option.map_some, Option.bind_some, eqv_ls, eqv_sl, eqv_ii, eqv_snone, eqv_nones, eqv_sbool, eqv_bools, eqv_sint, eqv_ints, eqv_stuple, eqv_tuples, eqv_slist, eqv_lists, eqv_tt, eqv_LL, eqvA_nn, eqvA_nc, eqvA_cn, eqvA_xn, eqvA_cc, okD_int, okD_bool, okD_lit, okD_nilT, okD_nilL, ofString_inj, atI_0, atI_1, atI_2, atI_3, flatD, inD, zi_b, zi_o, zi_a, okD_T, t_is_sum_2, hs, a2, b2, e2]
        · simp [evE, evEs, evAnd, evOr, evT, evTA, evTO, evC, evO, evI, evS, evSs, zb_ok, zb_ex, zb_bad, zb_of, zb_no, zt_ok, zt_ex, zt_bad, zc_ok, zc_bad, zo_nx, zo_rt, zo_ex, zo_bad, zf_nx, zf_rt, zf_ex, gz_z, gz_s, slz_z, b_nm, setZ, asB_b, opz_dd, cpz_dd, dsOf_nil, dsOf_cons, biz_d, subz_dd, slz_dd, truthZ_d, boolZ_eq, isz, tyKnown, tyOk, bop, cop, truth, itemD, slcD, bid, LV_hot, LV_gv, gv, Option.map_some, Option.bind_some, eqv_ls, eqv_sl, eqv_ii, eqv_snone, eqv_nones, eqv_sbool, eqv_bools, eqv_sint, eqv_ints, eqv_stuple, eqv_tuples, eqv_slist, eqv_lists, eqv_tt, eqv_LL, eqvA_nn, eqvA_nc, eqvA_cn, eqvA_xn, eqvA_cc, okD_int, okD_bool, okD_lit, okD_nilT, okD_nilL, ofString_inj, atI_0, atI_1, atI_2, atI_3, flatD, inD, zi_b, zi_o, zi_a, okD_T, e_is_sum_2]
      simp only [List.map_id] at e7
      have e8 : rngZ 0 ((s.length : Int) - 1) = ((List.range (s.cps.toList.length - 1)).map fun (i : Nat) => (.int (i : Int) : D)).map .d := by
        have : (s.length : Int) - 1 = ((s.cps.toList.length - 1 : Nat) : Int) := by
          have : s.length = s.cps.toList.length := by simp [Str.length]
          omega
        rw [this, rng_eq, List.map_map]
        rfl
      have e9 : okD (.list (((List.range (s.cps.toList.length - 1)).map fun (i : Nat) => (.int (i : Int) : D)).filter (downB s.cps.toList))) = true := okD_L fun x hx => by
        obtain ⟨i, _, rfl⟩ := List.mem_map.mp (List.mem_filter.mp hx).1
        exact dOk_int
      have q1 : (s.length : Int) - 1 < 4611686018427387904 ∧ -4611686018427387904 ≤ (s.length : Int) - 1 := by omega
      have q2 : s.cps.toList.length - 1 ≤ slen := by
        have : s.length = s.cps.toList.length := by simp [Str.length]
        show _ ≤ 1000000
        omega
      have q3 : s.cps.size - 1 ≤ slen := by simpa using q2
      cases q : (signsOf s).all (sgB "abcpqr")
      · have f1 : ((signsOf s).filter fun d => !sgB "abcpqr" d).isEmpty = false := by rw [flt_empty, q]
        simp [evE, evEs, evAnd, evOr, evT, evTA, evTO, evC, evO, evI, evS, evSs, zb_ok, zb_ex, zb_bad, zb_of, zb_no, zt_ok, zt_ex, zt_bad, zc_ok, zc_bad, zo_nx, zo_rt, zo_ex, zo_bad, zf_nx, zf_rt, zf_ex, gz_z, gz_s, slz_z, b_nm, setZ, asB_b, opz_dd, cpz_dd, dsOf_nil, dsOf_cons, biz_d, subz_dd, slz_dd, truthZ_d, boolZ_eq, isz, tyKnown, tyOk, bop, cop, truth, itemD, slcD, bid, LV_hot, LV_gv, gv, Option.map_some, Option.bind_some, eqv_ls, eqv_sl, eqv_ii, eqv_snone, eqv_nones, eqv_sbool, eqv_bools, eqv_sint, eqv_ints, eqv_stuple, eqv_tuples, eqv_slist, eqv_lists, eqv_tt, eqv_LL, eqvA_nn, eqvA_nc, eqvA_cn, eqvA_xn, eqvA_cc, okD_int, okD_bool, okD_lit, okD_nilT, okD_nilL, ofString_inj, atI_0, atI_1, atI_2, atI_3, flatD, inD, zi_b, zi_o, zi_a, okD_T, d_is_sum, sumB, h, hs, itH, itemsOf, e3, wipeE, e, e4, e5, e6, h1, h8, q, f1]
      · have f1 : ((signsOf s).filter fun d => !sgB "abcpqr" d).isEmpty = true := by rw [flt_empty, q]
        have f2 := down_adj (l := s.cps.toList)
        simp only [d_is_sum]
        generalize hF : ((List.range (s.cps.toList.length - 1)).map fun (i : Nat) => (.int (i : Int) : D)) = F at *
        have q4 : F.length ≤ slen := by rw [← hF]; simpa using q3
        simp [evE, evEs, evAnd, evOr, evT, evTA, evTO, evC, evO, evI, evS, evSs, zb_ok, zb_ex, zb_bad, zb_of, zb_no, zt_ok, zt_ex, zt_bad, zc_ok, zc_bad, zo_nx, zo_rt, zo_ex, zo_bad, zf_nx, zf_rt, zf_ex, gz_z, gz_s, slz_z, b_nm, setZ, asB_b, opz_dd, cpz_dd, dsOf_nil, dsOf_cons, biz_d, subz_dd, slz_dd, truthZ_d, boolZ_eq, isz, tyKnown, tyOk, bop, cop, truth, itemD, slcD, bid, LV_hot, LV_gv, gv, Option.map_some, Option.bind_some, eqv_ls, eqv_sl, eqv_ii, eqv_snone, eqv_nones, eqv_sbool, eqv_bools, eqv_sint, eqv_ints, eqv_stuple, eqv_tuples, eqv_slist, eqv_lists, eqv_tt, eqv_LL, eqvA_nn, eqvA_nc, eqvA_cn, eqvA_xn, eqvA_cc, okD_int, okD_bool, okD_lit, okD_nilT, okD_nilL, ofString_inj, atI_0, atI_1, atI_2, atI_3, flatD, inD, zi_b, zi_o, zi_a, okD_T, sumB, h, hs, itH, itemsOf, e3, wipeE, e, e4, e5, e6, h1, h8, q, f1, q1, e8, q4, e7, e9, f2]
    · have h2 : ¬ (1 ≤ s.length) ∨ ¬ (s.length ≤ 8) := by omega
      rcases h2 with h2 | h2
      · simp [evE, evEs, evAnd, evOr, evT, evTA, evTO, evC, evO, evI, evS, evSs, zb_ok, zb_ex, zb_bad, zb_of, zb_no, zt_ok, zt_ex, zt_bad, zc_ok, zc_bad, zo_nx, zo_rt, zo_ex, zo_bad, zf_nx, zf_rt, zf_ex, gz_z, gz_s, slz_z, b_nm, setZ, asB_b, opz_dd, cpz_dd, dsOf_nil, dsOf_cons, biz_d, subz_dd, slz_dd, truthZ_d, boolZ_eq, isz, tyKnown, tyOk, bop, cop, truth, itemD, slcD, bid, LV_hot, LV_gv, gv, Option.map_some, Option.bind_some, eqv_ls, eqv_sl, eqv_ii, eqv_snone, eqv_nones, eqv_sbool, eqv_bools, eqv_sint, eqv_ints, eqv_stuple, eqv_tuples, eqv_slist, eqv_lists, eqv_tt, eqv_LL, eqvA_nn, eqvA_nc, eqvA_cn, eqvA_xn, eqvA_cc, okD_int, okD_bool, okD_lit, okD_nilT, okD_nilL, ofString_inj, atI_0, atI_1, atI_2, atI_3, flatD, inD, zi_b, zi_o, zi_a, okD_T, d_is_sum, sumB, h, hs, e5, e6, h2]
      · simp [evE, evEs, evAnd, evOr, evT, evTA, evTO, evC, evO, evI, evS, evSs, zb_ok, zb_ex, zb_bad, zb_of, zb_no, zt_ok, zt_ex, zt_bad, zc_ok, zc_bad, zo_nx, zo_rt, zo_ex, zo_bad, zf_nx, zf_rt, zf_ex, gz_z, gz_s, slz_z, b_nm, setZ, asB_b, opz_dd, cpz_dd, dsOf_nil, dsOf_cons, biz_d, subz_dd, slz_dd, truthZ_d, boolZ_eq, isz, tyKnown, tyOk, bop, cop, truth, itemD, slcD, bid, LV_hot, LV_gv, gv, Option.map_some, Option.bind_some, eqv_ls, eqv_sl, eqv_ii, eqv_snone, eqv_nones, eqv_sbool, eqv_bools, eqv_sint, eqv_ints, eqv_stuple, eqv_tuples, eqv_slist, eqv_lists, eqv_tt, eqv_LL, eqvA_nn, eqvA_nc, eqvA_cn, eqvA_xn, eqvA_cc, okD_int, okD_bool, okD_lit, okD_nilT, okD_nilL, ofString_inj, atI_0, atI_1, atI_2, atI_3, flatD, inD, zi_b, zi_o, zi_a, okD_T, d_is_sum, sumB, h, hs, e5, e6, h2]
  case dict kvs => exact (nodict h).elim
  all_goals simp [evE, evEs, evAnd, evOr, evT, evTA, evTO, evC, evO, evI, evS, evSs, zb_ok, zb_ex, zb_bad, zb_of, zb_no, zt_ok, zt_ex, zt_bad, zc_ok, zc_bad, zo_nx, zo_rt, zo_ex, zo_bad, zf_nx, zf_rt, zf_ex, gz_z, gz_s, slz_z, b_nm, setZ, asB_b, opz_dd, cpz_dd, dsOf_nil, dsOf_cons, biz_d, subz_dd, slz_dd, truthZ_d, boolZ_eq, isz, tyKnown, tyOk, bop, cop, truth, itemD, slcD, bid, LV_hot, LV_gv, gv, Option.map_some, Option.bind_some, eqv_ls, eqv_sl, eqv_ii, eqv_snone, eqv_nones, eqv_sbool, eqv_bools, eqv_sint, eqv_ints, eqv_stuple, eqv_tuples, eqv_slist, eqv_lists, eqv_tt, eqv_LL, eqvA_nn, eqvA_nc, eqvA_cn, eqvA_xn, eqvA_cc, okD_int, okD_bool, okD_lit, okD_nilT, okD_nilL, ofString_inj, atI_0, atI_1, atI_2, atI_3, flatD, inD, zi_b, zi_o, zi_a, okD_T, d_is_sum, sumB]
end Lw
namespace Lw
open PySem Zt
theorem f_is_fact (k : Nat) (v : D) (M : Mem) (h : okD v = true) (hl2 : ∀ x ∈ itT v, ∀ s, x = .str s → s.length ≤ 1000000) : (LV (k + 2)).fn false i_is_fact [.d v] M = .ok (.d (.bool (factB v))) M := by
  rw [s_is_fact]
  cases v
  case tuple xs =>
    match xs, h, hl2 with
    | [], _, _ => simp [evE, evEs, evAnd, evOr, evT, evTA, evTO, evC, evO, evI, evS, evSs, zb_ok, zb_ex, zb_bad, zb_of, zb_no, zt_ok, zt_ex, zt_bad, zc_ok, zc_bad, zo_nx, zo_rt, zo_ex, zo_bad, zf_nx, zf_rt, zf_ex, gz_z, gz_s, slz_z, b_nm, setZ, asB_b, opz_dd, cpz_dd, dsOf_nil, dsOf_cons, biz_d, subz_dd, slz_dd, truthZ_d, boolZ_eq, isz, tyKnown, tyOk, bop, cop, truth, itemD, slcD, bid, LV_hot, LV_gv, gv, Option.map_some, Option.bind_some, eqv_ls, eqv_sl, eqv_ii, eqv_snone, eqv_nones, eqv_sbool, eqv_bools, eqv_sint, eqv_ints, eqv_stuple, eqv_tuples, eqv_slist, eqv_lists, eqv_tt, eqv_LL, eqvA_nn, eqvA_nc, eqvA_cn, eqvA_xn, eqvA_cc, okD_int, okD_bool, okD_lit, okD_nilT, okD_nilL, ofString_inj, atI_0, atI_1, atI_2, atI_3, flatD, inD, zi_b, zi_o, zi_a, okD_T, d_is_fact, factB]
    | [_], _, _ => simp [evE, evEs, evAnd, evOr, evT, evTA, evTO, evC, evO, evI, evS, evSs, zb_ok, zb_ex, zb_bad, zb_of, zb_no, zt_ok, zt_ex, zt_bad, zc_ok, zc_bad, zo_nx, zo_rt, zo_ex, zo_bad, zf_nx, zf_rt, zf_ex, gz_z, gz_s, slz_z, b_nm, setZ, asB_b, opz_dd, cpz_dd, dsOf_nil, dsOf_cons, biz_d, subz_dd, slz_dd, truthZ_d, boolZ_eq, isz, tyKnown, tyOk, bop, cop, truth, itemD, slcD, bid, LV_hot, LV_gv, gv, Option.map_some, Option.bind_some, eqv_ls, eqv_sl, eqv_ii, eqv_snone, eqv_nones, eqv_sbool, eqv_bools, eqv_sint, eqv_ints, eqv_stuple, eqv_tuples, eqv_slist, eqv_lists, eqv_tt, eqv_LL, eqvA_nn, eqvA_nc, eqvA_cn, eqvA_xn, eqvA_cc, okD_int, okD_bool, okD_lit, okD_nilT, okD_nilL, ofString_inj, atI_0, atI_1, atI_2, atI_3, flatD, inD, zi_b, zi_o, zi_a, okD_T, d_is_fact, factB]
    | [_, _], _, _ => simp [evE, evEs, evAnd, evOr, evT, evTA, evTO, evC, evO, evI, evS, evSs, zb_ok, zb_ex, zb_bad, zb_of, zb_no, zt_ok, zt_ex, zt_bad, zc_ok, zc_bad, zo_nx, zo_rt, zo_ex, zo_bad, zf_nx, zf_rt, zf_ex, gz_z, gz_s, slz_z, b_nm, setZ, asB_b, opz_dd, cpz_dd, dsOf_nil, dsOf_cons, biz_d, subz_dd, slz_dd, truthZ_d, boolZ_eq, isz, tyKnown, tyOk, bop, cop, truth, itemD, slcD, bid, LV_hot, LV_gv, gv, Option.map_some, Option.bind_some, eqv_ls, eqv_sl, eqv_ii, eqv_snone, eqv_nones, eqv_sbool, eqv_bools, eqv_sint, eqv_ints, eqv_stuple, eqv_tuples, eqv_slist, eqv_lists, eqv_tt, eqv_LL, eqvA_nn, eqvA_nc, eqvA_cn, eqvA_xn, eqvA_cc, okD_int, okD_bool, okD_lit, okD_nilT, okD_nilL, ofString_inj, atI_0, atI_1, atI_2, atI_3, flatD, inD, zi_b, zi_o, zi_a, okD_T, d_is_fact, factB]
    | [a, b, c], h, hl2 =>
      have ha : okD a = true := okD_flat h (by simp)
      have hb : okD b = true := okD_flat h (by simp)
      have hc : okD c = true := okD_flat h (by simp)
      have w := f_is_word k a [.str "less", .str "upto", .str "same"] M ha (by decide)
      have s1 := f_is_sum k b M hb (hl2 b (by simp [itT]))
      have s2 := f_is_sum k c M hc (hl2 c (by simp [itT]))
      cases q : wordB a [.str "less", .str "upto", .str "same"] <;> rw [q] at w <;> simp [evE, evEs, evAnd, evOr, evT, evTA, evTO, evC, evO, evI, evS, evSs, zb_ok, zb_ex, zb_bad, zb_of, zb_no, zt_ok, zt_ex, zt_bad, zc_ok, zc_bad, zo_nx, zo_rt, zo_ex, zo_bad, zf_nx, zf_rt, zf_ex, gz_z, gz_s, slz_z, b_nm, setZ, asB_b, opz_dd, cpz_dd, dsOf_nil, dsOf_cons, biz_d, subz_dd, slz_dd, truthZ_d, boolZ_eq, isz, tyKnown, tyOk, bop, cop, truth, itemD, slcD, bid, LV_hot, LV_gv, gv, Option.map_some, Option.bind_some, eqv_ls, eqv_sl, eqv_ii, eqv_snone, eqv_nones, eqv_sbool, eqv_bools, eqv_sint, eqv_ints, eqv_stuple, eqv_tuples, eqv_slist, eqv_lists, eqv_tt, eqv_LL, eqvA_nn, eqvA_nc, eqvA_cn, eqvA_xn, eqvA_cc, okD_int, okD_bool, okD_lit, okD_nilT, okD_nilL, ofString_inj, atI_0, atI_1, atI_2, atI_3, flatD, inD, zi_b, zi_o, zi_a, okD_T, d_is_fact, factB, w, s1, s2, q]
    | a :: b :: c :: d :: r, h, _ =>
      have e3 : ¬ ((r.length : Int) + 1 + 1 + 1 + 1 = 3) := by omega
      simp [evE, evEs, evAnd, evOr, evT, evTA, evTO, evC, evO, evI, evS, evSs, zb_ok, zb_ex, zb_bad, zb_of, zb_no, zt_ok, zt_ex, zt_bad, zc_ok, zc_bad, zo_nx, zo_rt, zo_ex, zo_bad, zf_nx, zf_rt, zf_ex, gz_z, gz_s, slz_z, b_nm, setZ, asB_b, opz_dd, cpz_dd, dsOf_nil, dsOf_cons, biz_d, subz_dd, slz_dd, truthZ_d, boolZ_eq, isz, tyKnown, tyOk, bop, cop, truth, itemD, slcD, bid, LV_hot, LV_gv, gv, Option.map_some, Option.bind_some, eqv_ls, eqv_sl, eqv_ii, eqv_snone, eqv_nones, eqv_sbool, eqv_bools, eqv_sint, eqv_ints, eqv_stuple, eqv_tuples, eqv_slist, eqv_lists, eqv_tt, eqv_LL, eqvA_nn, eqvA_nc, eqvA_cn, eqvA_xn, eqvA_cc, okD_int, okD_bool, okD_lit, okD_nilT, okD_nilL, ofString_inj, atI_0, atI_1, atI_2, atI_3, flatD, inD, zi_b, zi_o, zi_a, okD_T, d_is_fact, factB, h, e3]
  case dict kvs => exact (nodict h).elim
  all_goals simp [evE, evEs, evAnd, evOr, evT, evTA, evTO, evC, evO, evI, evS, evSs, zb_ok, zb_ex, zb_bad, zb_of, zb_no, zt_ok, zt_ex, zt_bad, zc_ok, zc_bad, zo_nx, zo_rt, zo_ex, zo_bad, zf_nx, zf_rt, zf_ex, gz_z, gz_s, slz_z, b_nm, setZ, asB_b, opz_dd, cpz_dd, dsOf_nil, dsOf_cons, biz_d, subz_dd, slz_dd, truthZ_d, boolZ_eq, isz, tyKnown, tyOk, bop, cop, truth, itemD, slcD, bid, LV_hot, LV_gv, gv, Option.map_some, Option.bind_some, eqv_ls, eqv_sl, eqv_ii, eqv_snone, eqv_nones, eqv_sbool, eqv_bools, eqv_sint, eqv_ints, eqv_stuple, eqv_tuples, eqv_slist, eqv_lists, eqv_tt, eqv_LL, eqvA_nn, eqvA_nc, eqvA_cn, eqvA_xn, eqvA_cc, okD_int, okD_bool, okD_lit, okD_nilT, okD_nilL, ofString_inj, atI_0, atI_1, atI_2, atI_3, flatD, inD, zi_b, zi_o, zi_a, okD_T, d_is_fact, factB]
theorem f_is_facts (k : Nat) (v : D) (M : Mem) (h : okD v = true) (hl : (itT v).length ≤ 1000000) (hl2 : ∀ y ∈ itT v, ∀ x ∈ itT y, ∀ s, x = .str s → s.length ≤ 1000000) : (LV (k + 3)).fn false i_is_facts [.d v] M = .ok (.d (.bool (factsB v))) M := by
  rw [s_is_facts]
  cases v
  case tuple xs =>
    have e : lcL (fun ρ' M' => evT (LV (k + 2)) t_is_facts_1 ρ' M') (fun ρ' M' => evE (LV (k + 2)) e_is_facts_1 ρ' M') (.nm 1) [.z (.d (.tuple xs)), .no] (xs.map .d) M = .ok ((xs.filter fun d => !factB d).map id) M := by
      refine lc_pure xs (fun d hd => ?_) (fun d hd _ => ?_)
      · simp [evE, evEs, evAnd, evOr, evT, evTA, evTO, evC, evO, evI, evS, evSs, zb_ok, zb_ex, zb_bad, zb_of, zb_no, zt_ok, zt_ex, zt_bad, zc_ok, zc_bad, zo_nx, zo_rt, zo_ex, zo_bad, zf_nx, zf_rt, zf_ex, gz_z, gz_s, slz_z, b_nm, setZ, asB_b, opz_dd, cpz_dd, dsOf_nil, dsOf_cons, biz_d, subz_dd, slz_dd, truthZ_d, boolZ_eq, isz, tyKnown, tyOk, bop, cop, truth, itemD, slcD, bid, LV_hot, LV_gv, gv, Option.map_some, Option.bind_some, eqv_ls, eqv_sl, eqv_ii, eqv_snone, eqv_nones, eqv_sbool, eqv_bools, eqv_sint, eqv_ints, eqv_stuple, eqv_tuples, eqv_slist, eqv_lists, eqv_tt, eqv_LL, eqvA_nn, eqvA_nc, eqvA_cn, eqvA_xn, eqvA_cc, okD_int, okD_bool, okD_lit, okD_nilT, okD_nilL, ofString_inj, atI_0, atI_1, atI_2, atI_3, flatD, inD, zi_b, zi_o, zi_a, okD_T, t_is_facts_1, f_is_fact _ _ _ (okD_flat h hd) (hl2 d hd)]
      · simp [evE, evEs, evAnd, evOr, evT, evTA, evTO, evC, evO, evI, evS, evSs, zb_ok, zb_ex, zb_bad, zb_of, zb_no, zt_ok, zt_ex, zt_bad, zc_ok, zc_bad, zo_nx, zo_rt, zo_ex, zo_bad, zf_nx, zf_rt, zf_ex, gz_z, gz_s, slz_z, b_nm, setZ, asB_b, opz_dd, cpz_dd, dsOf_nil, dsOf_cons, biz_d, subz_dd, slz_dd, truthZ_d, boolZ_eq, isz, tyKnown, tyOk, bop, cop, truth, itemD, slcD, bid, LV_hot, LV_gv, gv, Option.map_some, Option.bind_some, eqv_ls, eqv_sl, eqv_ii, eqv_snone, eqv_nones, eqv_sbool, eqv_bools, eqv_sint, eqv_ints, eqv_stuple, eqv_tuples, eqv_slist, eqv_lists, eqv_tt, eqv_LL, eqvA_nn, eqvA_nc, eqvA_cn, eqvA_xn, eqvA_cc, okD_int, okD_bool, okD_lit, okD_nilT, okD_nilL, ofString_inj, atI_0, atI_1, atI_2, atI_3, flatD, inD, zi_b, zi_o, zi_a, okD_T, e_is_facts_1]
    have e3 : xs.length ≤ slen := hl
    have e4 : okD (.list (xs.filter fun d => !factB d)) = true := okD_flt _ h
    have e5 : ((xs.length : Int) ≤ 6) = (xs.length ≤ 6) := propext (by omega)
    simp only [List.map_id] at e
    simp [evE, evEs, evAnd, evOr, evT, evTA, evTO, evC, evO, evI, evS, evSs, zb_ok, zb_ex, zb_bad, zb_of, zb_no, zt_ok, zt_ex, zt_bad, zc_ok, zc_bad, zo_nx, zo_rt, zo_ex, zo_bad, zf_nx, zf_rt, zf_ex, gz_z, gz_s, slz_z, b_nm, setZ, asB_b, opz_dd, cpz_dd, dsOf_nil, dsOf_cons, biz_d, subz_dd, slz_dd, truthZ_d, boolZ_eq, isz, tyKnown, tyOk, bop, cop, truth, itemD, slcD, bid, LV_hot, LV_gv, gv, Option.map_some, Option.bind_some, eqv_ls, eqv_sl, eqv_ii, eqv_snone, eqv_nones, eqv_sbool, eqv_bools, eqv_sint, eqv_ints, eqv_stuple, eqv_tuples, eqv_slist, eqv_lists, eqv_tt, eqv_LL, eqvA_nn, eqvA_nc, eqvA_cn, eqvA_xn, eqvA_cc, okD_int, okD_bool, okD_lit, okD_nilT, okD_nilL, ofString_inj, atI_0, atI_1, atI_2, atI_3, flatD, inD, zi_b, zi_o, zi_a, okD_T, e5, d_is_facts, factsB, h, itH, itemsOf, e3, wipeE, e, e4, flt_empty]
  case dict kvs => exact (nodict h).elim
  all_goals simp [evE, evEs, evAnd, evOr, evT, evTA, evTO, evC, evO, evI, evS, evSs, zb_ok, zb_ex, zb_bad, zb_of, zb_no, zt_ok, zt_ex, zt_bad, zc_ok, zc_bad, zo_nx, zo_rt, zo_ex, zo_bad, zf_nx, zf_rt, zf_ex, gz_z, gz_s, slz_z, b_nm, setZ, asB_b, opz_dd, cpz_dd, dsOf_nil, dsOf_cons, biz_d, subz_dd, slz_dd, truthZ_d, boolZ_eq, isz, tyKnown, tyOk, bop, cop, truth, itemD, slcD, bid, LV_hot, LV_gv, gv, Option.map_some, Option.bind_some, eqv_ls, eqv_sl, eqv_ii, eqv_snone, eqv_nones, eqv_sbool, eqv_bools, eqv_sint, eqv_ints, eqv_stuple, eqv_tuples, eqv_slist, eqv_lists, eqv_tt, eqv_LL, eqvA_nn, eqvA_nc, eqvA_cn, eqvA_xn, eqvA_cc, okD_int, okD_bool, okD_lit, okD_nilT, okD_nilL, ofString_inj, atI_0, atI_1, atI_2, atI_3, flatD, inD, zi_b, zi_o, zi_a, okD_T, d_is_facts, factsB]
theorem f_is_lengths (k : Nat) (v : D) (M : Mem) (h : okD v = true) (hl : (itT v).length ≤ 1000000) : (LV (k + 2)).fn false i_is_lengths [.d v] M = .ok (.d (.bool (lengthsB v))) M := by
  rw [s_is_lengths]
  cases v
  case tuple xs =>
    have e : lcL (fun ρ' M' => evT (LV (k + 1)) t_is_lengths_1 ρ' M') (fun ρ' M' => evE (LV (k + 1)) e_is_lengths_1 ρ' M') (.nm 1) [.z (.d (.tuple xs)), .no] (xs.map .d) M = .ok ((xs.filter fun d => !wholeB d 1 1000000000000000000000000000000).map id) M := by
      refine lc_pure xs (fun d hd => ?_) (fun d hd _ => ?_)
      · have w := f_is_whole k d 1 1000000000000000000000000000000 M (okD_flat h hd)
        simp [evE, evEs, evAnd, evOr, evT, evTA, evTO, evC, evO, evI, evS, evSs, zb_ok, zb_ex, zb_bad, zb_of, zb_no, zt_ok, zt_ex, zt_bad, zc_ok, zc_bad, zo_nx, zo_rt, zo_ex, zo_bad, zf_nx, zf_rt, zf_ex, gz_z, gz_s, slz_z, b_nm, setZ, asB_b, opz_dd, cpz_dd, dsOf_nil, dsOf_cons, biz_d, subz_dd, slz_dd, truthZ_d, boolZ_eq, isz, tyKnown, tyOk, bop, cop, truth, itemD, slcD, bid, LV_hot, LV_gv, gv, Option.map_some, Option.bind_some, eqv_ls, eqv_sl, eqv_ii, eqv_snone, eqv_nones, eqv_sbool, eqv_bools, eqv_sint, eqv_ints, eqv_stuple, eqv_tuples, eqv_slist, eqv_lists, eqv_tt, eqv_LL, eqvA_nn, eqvA_nc, eqvA_cn, eqvA_xn, eqvA_cc, okD_int, okD_bool, okD_lit, okD_nilT, okD_nilL, ofString_inj, atI_0, atI_1, atI_2, atI_3, flatD, inD, zi_b, zi_o, zi_a, okD_T, t_is_lengths_1, w]
      · simp [evE, evEs, evAnd, evOr, evT, evTA, evTO, evC, evO, evI, evS, evSs, zb_ok, zb_ex, zb_bad, zb_of, zb_no, zt_ok, zt_ex, zt_bad, zc_ok, zc_bad, zo_nx, zo_rt, zo_ex, zo_bad, zf_nx, zf_rt, zf_ex, gz_z, gz_s, slz_z, b_nm, setZ, asB_b, opz_dd, cpz_dd, dsOf_nil, dsOf_cons, biz_d, subz_dd, slz_dd, truthZ_d, boolZ_eq, isz, tyKnown, tyOk, bop, cop, truth, itemD, slcD, bid, LV_hot, LV_gv, gv, Option.map_some, Option.bind_some, eqv_ls, eqv_sl, eqv_ii, eqv_snone, eqv_nones, eqv_sbool, eqv_bools, eqv_sint, eqv_ints, eqv_stuple, eqv_tuples, eqv_slist, eqv_lists, eqv_tt, eqv_LL, eqvA_nn, eqvA_nc, eqvA_cn, eqvA_xn, eqvA_cc, okD_int, okD_bool, okD_lit, okD_nilT, okD_nilL, ofString_inj, atI_0, atI_1, atI_2, atI_3, flatD, inD, zi_b, zi_o, zi_a, okD_T, e_is_lengths_1]
    have e3 : xs.length ≤ slen := hl
    have e4 : okD (.list (xs.filter fun d => !wholeB d 1 1000000000000000000000000000000)) = true := okD_flt _ h
    have e5 : ((xs.length : Int) = 6) = (xs.length = 6) := propext (by omega)
    simp only [List.map_id] at e
    by_cases h6 : xs.length = 6
    · simp [evE, evEs, evAnd, evOr, evT, evTA, evTO, evC, evO, evI, evS, evSs, zb_ok, zb_ex, zb_bad, zb_of, zb_no, zt_ok, zt_ex, zt_bad, zc_ok, zc_bad, zo_nx, zo_rt, zo_ex, zo_bad, zf_nx, zf_rt, zf_ex, gz_z, gz_s, slz_z, b_nm, setZ, asB_b, opz_dd, cpz_dd, dsOf_nil, dsOf_cons, biz_d, subz_dd, slz_dd, truthZ_d, boolZ_eq, isz, tyKnown, tyOk, bop, cop, truth, itemD, slcD, bid, LV_hot, LV_gv, gv, Option.map_some, Option.bind_some, eqv_ls, eqv_sl, eqv_ii, eqv_snone, eqv_nones, eqv_sbool, eqv_bools, eqv_sint, eqv_ints, eqv_stuple, eqv_tuples, eqv_slist, eqv_lists, eqv_tt, eqv_LL, eqvA_nn, eqvA_nc, eqvA_cn, eqvA_xn, eqvA_cc, okD_int, okD_bool, okD_lit, okD_nilT, okD_nilL, ofString_inj, atI_0, atI_1, atI_2, atI_3, flatD, inD, zi_b, zi_o, zi_a, okD_T, e5, h6, d_is_lengths, lengthsB, h, itH, itemsOf, slen, wipeE, e, e4, flt_empty]
    · simp [evE, evEs, evAnd, evOr, evT, evTA, evTO, evC, evO, evI, evS, evSs, zb_ok, zb_ex, zb_bad, zb_of, zb_no, zt_ok, zt_ex, zt_bad, zc_ok, zc_bad, zo_nx, zo_rt, zo_ex, zo_bad, zf_nx, zf_rt, zf_ex, gz_z, gz_s, slz_z, b_nm, setZ, asB_b, opz_dd, cpz_dd, dsOf_nil, dsOf_cons, biz_d, subz_dd, slz_dd, truthZ_d, boolZ_eq, isz, tyKnown, tyOk, bop, cop, truth, itemD, slcD, bid, LV_hot, LV_gv, gv, Option.map_some, Option.bind_some, eqv_ls, eqv_sl, eqv_ii, eqv_snone, eqv_nones, eqv_sbool, eqv_bools, eqv_sint, eqv_ints, eqv_stuple, eqv_tuples, eqv_slist, eqv_lists, eqv_tt, eqv_LL, eqvA_nn, eqvA_nc, eqvA_cn, eqvA_xn, eqvA_cc, okD_int, okD_bool, okD_lit, okD_nilT, okD_nilL, ofString_inj, atI_0, atI_1, atI_2, atI_3, flatD, inD, zi_b, zi_o, zi_a, okD_T, e5, h6, d_is_lengths, lengthsB, h, itH, itemsOf, e3, wipeE, e, e4, flt_empty]
  case dict kvs => exact (nodict h).elim
  all_goals simp [evE, evEs, evAnd, evOr, evT, evTA, evTO, evC, evO, evI, evS, evSs, zb_ok, zb_ex, zb_bad, zb_of, zb_no, zt_ok, zt_ex, zt_bad, zc_ok, zc_bad, zo_nx, zo_rt, zo_ex, zo_bad, zf_nx, zf_rt, zf_ex, gz_z, gz_s, slz_z, b_nm, setZ, asB_b, opz_dd, cpz_dd, dsOf_nil, dsOf_cons, biz_d, subz_dd, slz_dd, truthZ_d, boolZ_eq, isz, tyKnown, tyOk, bop, cop, truth, itemD, slcD, bid, LV_hot, LV_gv, gv, Option.map_some, Option.bind_some, eqv_ls, eqv_sl, eqv_ii, eqv_snone, eqv_nones, eqv_sbool, eqv_bools, eqv_sint, eqv_ints, eqv_stuple, eqv_tuples, eqv_slist, eqv_lists, eqv_tt, eqv_LL, eqvA_nn, eqvA_nc, eqvA_cn, eqvA_xn, eqvA_cc, okD_int, okD_bool, okD_lit, okD_nilT, okD_nilL, ofString_inj, atI_0, atI_1, atI_2, atI_3, flatD, inD, zi_b, zi_o, zi_a, okD_T, d_is_lengths, lengthsB]
theorem f_law_is_wagons (k : Nat) (v : D) (M : Mem) (h : okD v = true) (hl : ∀ s, v = .str s → s.length ≤ 1000000) : (LV (k + 1)).fn false i_law_is_wagons [.d v] M = .ok (.d (.bool (rowB v))) M := by
  rw [s_law_is_wagons]
  cases v
  case str s =>
    have hs : s.length ≤ slen := hl s rfl
    have e : lcL (fun ρ' M' => evT (LV k) t_law_is_wagons_1 ρ' M') (fun ρ' M' => evE (LV k) e_law_is_wagons_1 ρ' M') (.nm 1) [.z (.d (.str s)), .no] ((signsOf s).map .d) M = .ok (((signsOf s).filter fun d => !sgB "abcABC" d).map id) M := by
      refine lc_pure (signsOf s) (fun d hd => ?_) (fun d hd _ => ?_)
      · obtain ⟨c, hc, rfl⟩ := List.mem_map.mp hd
        simp [evE, evEs, evAnd, evOr, evT, evTA, evTO, evC, evO, evI, evS, evSs, zb_ok, zb_ex, zb_bad, zb_of, zb_no, zt_ok, zt_ex, zt_bad, zc_ok, zc_bad, zo_nx, zo_rt, zo_ex, zo_bad, zf_nx, zf_rt, zf_ex, gz_z, gz_s, slz_z, b_nm, setZ, asB_b, opz_dd, cpz_dd, dsOf_nil, dsOf_cons, biz_d, subz_dd, slz_dd, truthZ_d, boolZ_eq, isz, tyKnown, tyOk, bop, cop, truth, itemD, slcD, bid, LV_hot, LV_gv, gv, Option.map_some, Option.bind_some, eqv_ls, eqv_sl, eqv_ii, eqv_snone, eqv_nones, eqv_sbool, eqv_bools, eqv_sint, eqv_ints, eqv_stuple, eqv_tuples, eqv_slist, eqv_lists, eqv_tt, eqv_LL, eqvA_nn, eqvA_nc, eqvA_cn, eqvA_xn, eqvA_cc, okD_int, okD_bool, okD_lit, okD_nilT, okD_nilL, ofString_inj, atI_0, atI_1, atI_2, atI_3, flatD, inD, zi_b, zi_o, zi_a, okD_T, t_law_is_wagons_1, sgB]
      · simp [evE, evEs, evAnd, evOr, evT, evTA, evTO, evC, evO, evI, evS, evSs, zb_ok, zb_ex, zb_bad, zb_of, zb_no, zt_ok, zt_ex, zt_bad, zc_ok, zc_bad, zo_nx, zo_rt, zo_ex, zo_bad, zf_nx, zf_rt, zf_ex, gz_z, gz_s, slz_z, b_nm, setZ, asB_b, opz_dd, cpz_dd, dsOf_nil, dsOf_cons, biz_d, subz_dd, slz_dd, truthZ_d, boolZ_eq, isz, tyKnown, tyOk, bop, cop, truth, itemD, slcD, bid, LV_hot, LV_gv, gv, Option.map_some, Option.bind_some, eqv_ls, eqv_sl, eqv_ii, eqv_snone, eqv_nones, eqv_sbool, eqv_bools, eqv_sint, eqv_ints, eqv_stuple, eqv_tuples, eqv_slist, eqv_lists, eqv_tt, eqv_LL, eqvA_nn, eqvA_nc, eqvA_cn, eqvA_xn, eqvA_cc, okD_int, okD_bool, okD_lit, okD_nilT, okD_nilL, ofString_inj, atI_0, atI_1, atI_2, atI_3, flatD, inD, zi_b, zi_o, zi_a, okD_T, e_law_is_wagons_1]
    have e3 : (signsOf s).length ≤ slen := by rw [len_signs]; exact hs
    have e4 : okD (.list ((signsOf s).filter fun d => !sgB "abcABC" d)) = true := okD_L fun x hx => ok_signs10 (by rw [← okD_str]; exact h) x (List.mem_filter.mp hx).1
    have e5 : ((8 : Int) < (s.length : Int)) = (8 < s.length) := propext (by omega)
    simp only [List.map_id] at e
    by_cases h8 : s.length ≤ 8
    · have h9 : ¬ (8 < s.length) := by omega
      simp [evE, evEs, evAnd, evOr, evT, evTA, evTO, evC, evO, evI, evS, evSs, zb_ok, zb_ex, zb_bad, zb_of, zb_no, zt_ok, zt_ex, zt_bad, zc_ok, zc_bad, zo_nx, zo_rt, zo_ex, zo_bad, zf_nx, zf_rt, zf_ex, gz_z, gz_s, slz_z, b_nm, setZ, asB_b, opz_dd, cpz_dd, dsOf_nil, dsOf_cons, biz_d, subz_dd, slz_dd, truthZ_d, boolZ_eq, isz, tyKnown, tyOk, bop, cop, truth, itemD, slcD, bid, LV_hot, LV_gv, gv, Option.map_some, Option.bind_some, eqv_ls, eqv_sl, eqv_ii, eqv_snone, eqv_nones, eqv_sbool, eqv_bools, eqv_sint, eqv_ints, eqv_stuple, eqv_tuples, eqv_slist, eqv_lists, eqv_tt, eqv_LL, eqvA_nn, eqvA_nc, eqvA_cn, eqvA_xn, eqvA_cc, okD_int, okD_bool, okD_lit, okD_nilT, okD_nilL, ofString_inj, atI_0, atI_1, atI_2, atI_3, flatD, inD, zi_b, zi_o, zi_a, okD_T, d_law_is_wagons, rowB, h, hs, itH, itemsOf, e3, wipeE, e, e4, e5, h8, h9, flt_empty]
    · have h9 : 8 < s.length := by omega
      simp [evE, evEs, evAnd, evOr, evT, evTA, evTO, evC, evO, evI, evS, evSs, zb_ok, zb_ex, zb_bad, zb_of, zb_no, zt_ok, zt_ex, zt_bad, zc_ok, zc_bad, zo_nx, zo_rt, zo_ex, zo_bad, zf_nx, zf_rt, zf_ex, gz_z, gz_s, slz_z, b_nm, setZ, asB_b, opz_dd, cpz_dd, dsOf_nil, dsOf_cons, biz_d, subz_dd, slz_dd, truthZ_d, boolZ_eq, isz, tyKnown, tyOk, bop, cop, truth, itemD, slcD, bid, LV_hot, LV_gv, gv, Option.map_some, Option.bind_some, eqv_ls, eqv_sl, eqv_ii, eqv_snone, eqv_nones, eqv_sbool, eqv_bools, eqv_sint, eqv_ints, eqv_stuple, eqv_tuples, eqv_slist, eqv_lists, eqv_tt, eqv_LL, eqvA_nn, eqvA_nc, eqvA_cn, eqvA_xn, eqvA_cc, okD_int, okD_bool, okD_lit, okD_nilT, okD_nilL, ofString_inj, atI_0, atI_1, atI_2, atI_3, flatD, inD, zi_b, zi_o, zi_a, okD_T, d_law_is_wagons, rowB, h, hs, itH, itemsOf, e3, wipeE, e, e4, e5, h8, h9, flt_empty]
  case dict kvs => exact (nodict h).elim
  all_goals simp [evE, evEs, evAnd, evOr, evT, evTA, evTO, evC, evO, evI, evS, evSs, zb_ok, zb_ex, zb_bad, zb_of, zb_no, zt_ok, zt_ex, zt_bad, zc_ok, zc_bad, zo_nx, zo_rt, zo_ex, zo_bad, zf_nx, zf_rt, zf_ex, gz_z, gz_s, slz_z, b_nm, setZ, asB_b, opz_dd, cpz_dd, dsOf_nil, dsOf_cons, biz_d, subz_dd, slz_dd, truthZ_d, boolZ_eq, isz, tyKnown, tyOk, bop, cop, truth, itemD, slcD, bid, LV_hot, LV_gv, gv, Option.map_some, Option.bind_some, eqv_ls, eqv_sl, eqv_ii, eqv_snone, eqv_nones, eqv_sbool, eqv_bools, eqv_sint, eqv_ints, eqv_stuple, eqv_tuples, eqv_slist, eqv_lists, eqv_tt, eqv_LL, eqvA_nn, eqvA_nc, eqvA_cn, eqvA_xn, eqvA_cc, okD_int, okD_bool, okD_lit, okD_nilT, okD_nilL, ofString_inj, atI_0, atI_1, atI_2, atI_3, flatD, inD, zi_b, zi_o, zi_a, okD_T, d_law_is_wagons, rowB]
theorem f_law_is_place (k : Nat) (v : D) (M : Mem) (h : okD v = true) (hl : (itT v).length ≤ 1000000) (hl2 : ∀ x ∈ itT v, ∀ s, x = .str s → s.length ≤ 1000000) : (LV (k + 2)).fn false i_law_is_place [.d v] M = .ok (.d (.bool (standB v))) M := by
  rw [s_law_is_place]
  cases v
  case tuple xs =>
    have e : lcL (fun ρ' M' => evT (LV (k + 1)) t_law_is_place_1 ρ' M') (fun ρ' M' => evE (LV (k + 1)) e_law_is_place_1 ρ' M') (.nm 1) [.z (.d (.tuple xs)), .no] (xs.map .d) M = .ok ((xs.filter fun d => !rowB d).map id) M := by
      refine lc_pure xs (fun d hd => ?_) (fun d hd _ => ?_)
      · simp [evE, evEs, evAnd, evOr, evT, evTA, evTO, evC, evO, evI, evS, evSs, zb_ok, zb_ex, zb_bad, zb_of, zb_no, zt_ok, zt_ex, zt_bad, zc_ok, zc_bad, zo_nx, zo_rt, zo_ex, zo_bad, zf_nx, zf_rt, zf_ex, gz_z, gz_s, slz_z, b_nm, setZ, asB_b, opz_dd, cpz_dd, dsOf_nil, dsOf_cons, biz_d, subz_dd, slz_dd, truthZ_d, boolZ_eq, isz, tyKnown, tyOk, bop, cop, truth, itemD, slcD, bid, LV_hot, LV_gv, gv, Option.map_some, Option.bind_some, eqv_ls, eqv_sl, eqv_ii, eqv_snone, eqv_nones, eqv_sbool, eqv_bools, eqv_sint, eqv_ints, eqv_stuple, eqv_tuples, eqv_slist, eqv_lists, eqv_tt, eqv_LL, eqvA_nn, eqvA_nc, eqvA_cn, eqvA_xn, eqvA_cc, okD_int, okD_bool, okD_lit, okD_nilT, okD_nilL, ofString_inj, atI_0, atI_1, atI_2, atI_3, flatD, inD, zi_b, zi_o, zi_a, okD_T, t_law_is_place_1, f_law_is_wagons _ _ _ (okD_flat h hd) (hl2 d hd)]
      · simp [evE, evEs, evAnd, evOr, evT, evTA, evTO, evC, evO, evI, evS, evSs, zb_ok, zb_ex, zb_bad, zb_of, zb_no, zt_ok, zt_ex, zt_bad, zc_ok, zc_bad, zo_nx, zo_rt, zo_ex, zo_bad, zf_nx, zf_rt, zf_ex, gz_z, gz_s, slz_z, b_nm, setZ, asB_b, opz_dd, cpz_dd, dsOf_nil, dsOf_cons, biz_d, subz_dd, slz_dd, truthZ_d, boolZ_eq, isz, tyKnown, tyOk, bop, cop, truth, itemD, slcD, bid, LV_hot, LV_gv, gv, Option.map_some, Option.bind_some, eqv_ls, eqv_sl, eqv_ii, eqv_snone, eqv_nones, eqv_sbool, eqv_bools, eqv_sint, eqv_ints, eqv_stuple, eqv_tuples, eqv_slist, eqv_lists, eqv_tt, eqv_LL, eqvA_nn, eqvA_nc, eqvA_cn, eqvA_xn, eqvA_cc, okD_int, okD_bool, okD_lit, okD_nilT, okD_nilL, ofString_inj, atI_0, atI_1, atI_2, atI_3, flatD, inD, zi_b, zi_o, zi_a, okD_T, e_law_is_place_1]
    have e3 : xs.length ≤ slen := hl
    have e4 : okD (.list (xs.filter fun d => !rowB d)) = true := okD_flt _ h
    simp only [List.map_id] at e
    match xs, h, hl2, e, e3, e4 with
    | [], _, _, _, _, _ => simp [evE, evEs, evAnd, evOr, evT, evTA, evTO, evC, evO, evI, evS, evSs, zb_ok, zb_ex, zb_bad, zb_of, zb_no, zt_ok, zt_ex, zt_bad, zc_ok, zc_bad, zo_nx, zo_rt, zo_ex, zo_bad, zf_nx, zf_rt, zf_ex, gz_z, gz_s, slz_z, b_nm, setZ, asB_b, opz_dd, cpz_dd, dsOf_nil, dsOf_cons, biz_d, subz_dd, slz_dd, truthZ_d, boolZ_eq, isz, tyKnown, tyOk, bop, cop, truth, itemD, slcD, bid, LV_hot, LV_gv, gv, Option.map_some, Option.bind_some, eqv_ls, eqv_sl, eqv_ii, eqv_snone, eqv_nones, eqv_sbool, eqv_bools, eqv_sint, eqv_ints, eqv_stuple, eqv_tuples, eqv_slist, eqv_lists, eqv_tt, eqv_LL, eqvA_nn, eqvA_nc, eqvA_cn, eqvA_xn, eqvA_cc, okD_int, okD_bool, okD_lit, okD_nilT, okD_nilL, ofString_inj, atI_0, atI_1, atI_2, atI_3, flatD, inD, zi_b, zi_o, zi_a, okD_T, d_law_is_place, standB]
    | [_], _, _, _, _, _ => simp [evE, evEs, evAnd, evOr, evT, evTA, evTO, evC, evO, evI, evS, evSs, zb_ok, zb_ex, zb_bad, zb_of, zb_no, zt_ok, zt_ex, zt_bad, zc_ok, zc_bad, zo_nx, zo_rt, zo_ex, zo_bad, zf_nx, zf_rt, zf_ex, gz_z, gz_s, slz_z, b_nm, setZ, asB_b, opz_dd, cpz_dd, dsOf_nil, dsOf_cons, biz_d, subz_dd, slz_dd, truthZ_d, boolZ_eq, isz, tyKnown, tyOk, bop, cop, truth, itemD, slcD, bid, LV_hot, LV_gv, gv, Option.map_some, Option.bind_some, eqv_ls, eqv_sl, eqv_ii, eqv_snone, eqv_nones, eqv_sbool, eqv_bools, eqv_sint, eqv_ints, eqv_stuple, eqv_tuples, eqv_slist, eqv_lists, eqv_tt, eqv_LL, eqvA_nn, eqvA_nc, eqvA_cn, eqvA_xn, eqvA_cc, okD_int, okD_bool, okD_lit, okD_nilT, okD_nilL, ofString_inj, atI_0, atI_1, atI_2, atI_3, flatD, inD, zi_b, zi_o, zi_a, okD_T, d_law_is_place, standB]
    | [_, _], _, _, _, _, _ => simp [evE, evEs, evAnd, evOr, evT, evTA, evTO, evC, evO, evI, evS, evSs, zb_ok, zb_ex, zb_bad, zb_of, zb_no, zt_ok, zt_ex, zt_bad, zc_ok, zc_bad, zo_nx, zo_rt, zo_ex, zo_bad, zf_nx, zf_rt, zf_ex, gz_z, gz_s, slz_z, b_nm, setZ, asB_b, opz_dd, cpz_dd, dsOf_nil, dsOf_cons, biz_d, subz_dd, slz_dd, truthZ_d, boolZ_eq, isz, tyKnown, tyOk, bop, cop, truth, itemD, slcD, bid, LV_hot, LV_gv, gv, Option.map_some, Option.bind_some, eqv_ls, eqv_sl, eqv_ii, eqv_snone, eqv_nones, eqv_sbool, eqv_bools, eqv_sint, eqv_ints, eqv_stuple, eqv_tuples, eqv_slist, eqv_lists, eqv_tt, eqv_LL, eqvA_nn, eqvA_nc, eqvA_cn, eqvA_xn, eqvA_cc, okD_int, okD_bool, okD_lit, okD_nilT, okD_nilL, ofString_inj, atI_0, atI_1, atI_2, atI_3, flatD, inD, zi_b, zi_o, zi_a, okD_T, d_law_is_place, standB]
    | [a, b, c], h, hl2, e, e3, e4 =>
      cases q : (rowB a && rowB b && rowB c)
      · have e6 : ([a, b, c].filter fun d => !rowB d).isEmpty = false := by
          rw [flt_empty]
          simpa [Bool.and_assoc] using q
        have e7 : standB (.tuple [a, b, c]) = false := by
          show (rowB a && rowB b && rowB c && _) = false
          rw [q]
          rfl
        rw [e7]
        simp only [List.map_cons, List.map_nil] at e
        generalize ([a, b, c].filter fun d => !rowB d) = F at *
        simp [evE, evEs, evAnd, evOr, evT, evTA, evTO, evC, evO, evI, evS, evSs, zb_ok, zb_ex, zb_bad, zb_of, zb_no, zt_ok, zt_ex, zt_bad, zc_ok, zc_bad, zo_nx, zo_rt, zo_ex, zo_bad, zf_nx, zf_rt, zf_ex, gz_z, gz_s, slz_z, b_nm, setZ, asB_b, opz_dd, cpz_dd, dsOf_nil, dsOf_cons, biz_d, subz_dd, slz_dd, truthZ_d, boolZ_eq, isz, tyKnown, tyOk, bop, cop, truth, itemD, slcD, bid, LV_hot, LV_gv, gv, Option.map_some, Option.bind_some, eqv_ls, eqv_sl, eqv_ii, eqv_snone, eqv_nones, eqv_sbool, eqv_bools, eqv_sint, eqv_ints, eqv_stuple, eqv_tuples, eqv_slist, eqv_lists, eqv_tt, eqv_LL, eqvA_nn, eqvA_nc, eqvA_cn, eqvA_xn, eqvA_cc, okD_int, okD_bool, okD_lit, okD_nilT, okD_nilL, ofString_inj, atI_0, atI_1, atI_2, atI_3, flatD, inD, zi_b, zi_o, zi_a, okD_T, d_law_is_place, h, itH, itemsOf, slen, wipeE, e, e4, e6]
      · have e6 : ([a, b, c].filter fun d => !rowB d).isEmpty = true := by
          rw [flt_empty]
          simpa [Bool.and_assoc] using q
        simp only [Bool.and_eq_true] at q
        obtain ⟨x, rfl, lx⟩ := row_str q.1.1
        obtain ⟨y, rfl, ly⟩ := row_str q.1.2
        obtain ⟨z, rfl, lz⟩ := row_str q.2
        have l1 : (x ++ y).length = x.length + y.length := len_app
        have l2 : (x ++ y ++ z).length = x.length + y.length + z.length := by rw [len_app, len_app]
        have q1 : x.length + y.length ≤ slen := by show _ ≤ 1000000; omega
        have q2 : (x ++ y).length + z.length ≤ slen := by show _ ≤ 1000000; omega
        have q3 : (x ++ y ++ z).length ≤ slen := by show _ ≤ 1000000; omega
        simp only [List.map_cons, List.map_nil] at e
        generalize ([PyData.str x, PyData.str y, PyData.str z].filter fun d => !rowB d) = F at *
        have e9 : (3 : Nat) ≤ slen := by decide
        have e8 : (((x ++ y ++ z).length : Int) < 9) = (x.length + y.length + z.length ≤ 8) := propext (by omega)
        simp [evE, evEs, evAnd, evOr, evT, evTA, evTO, evC, evO, evI, evS, evSs, zb_ok, zb_ex, zb_bad, zb_of, zb_no, zt_ok, zt_ex, zt_bad, zc_ok, zc_bad, zo_nx, zo_rt, zo_ex, zo_bad, zf_nx, zf_rt, zf_ex, gz_z, gz_s, slz_z, b_nm, setZ, asB_b, opz_dd, cpz_dd, dsOf_nil, dsOf_cons, biz_d, subz_dd, slz_dd, truthZ_d, boolZ_eq, isz, tyKnown, tyOk, bop, cop, truth, itemD, slcD, bid, LV_hot, LV_gv, gv, Option.map_some, Option.bind_some, eqv_ls, eqv_sl, eqv_ii, eqv_snone, eqv_nones, eqv_sbool, eqv_bools, eqv_sint, eqv_ints, eqv_stuple, eqv_tuples, eqv_slist, eqv_lists, eqv_tt, eqv_LL, eqvA_nn, eqvA_nc, eqvA_cn, eqvA_xn, eqvA_cc, okD_int, okD_bool, okD_lit, okD_nilT, okD_nilL, ofString_inj, atI_0, atI_1, atI_2, atI_3, flatD, inD, zi_b, zi_o, zi_a, okD_T, d_law_is_place, standB, lenD, q, h, itH, itemsOf, q1, q2, q3, e9, wipeE, e, e4, e6, e8]
        exact decide_eq_decide.mpr Iff.rfl
    | a :: b :: c :: d :: r, h, _, _, _, _ =>
      have e3 : ¬ ((r.length : Int) + 1 + 1 + 1 + 1 = 3) := by omega
      simp [evE, evEs, evAnd, evOr, evT, evTA, evTO, evC, evO, evI, evS, evSs, zb_ok, zb_ex, zb_bad, zb_of, zb_no, zt_ok, zt_ex, zt_bad, zc_ok, zc_bad, zo_nx, zo_rt, zo_ex, zo_bad, zf_nx, zf_rt, zf_ex, gz_z, gz_s, slz_z, b_nm, setZ, asB_b, opz_dd, cpz_dd, dsOf_nil, dsOf_cons, biz_d, subz_dd, slz_dd, truthZ_d, boolZ_eq, isz, tyKnown, tyOk, bop, cop, truth, itemD, slcD, bid, LV_hot, LV_gv, gv, Option.map_some, Option.bind_some, eqv_ls, eqv_sl, eqv_ii, eqv_snone, eqv_nones, eqv_sbool, eqv_bools, eqv_sint, eqv_ints, eqv_stuple, eqv_tuples, eqv_slist, eqv_lists, eqv_tt, eqv_LL, eqvA_nn, eqvA_nc, eqvA_cn, eqvA_xn, eqvA_cc, okD_int, okD_bool, okD_lit, okD_nilT, okD_nilL, ofString_inj, atI_0, atI_1, atI_2, atI_3, flatD, inD, zi_b, zi_o, zi_a, okD_T, d_law_is_place, standB, h, e3]
  case dict kvs => exact (nodict h).elim
  all_goals simp [evE, evEs, evAnd, evOr, evT, evTA, evTO, evC, evO, evI, evS, evSs, zb_ok, zb_ex, zb_bad, zb_of, zb_no, zt_ok, zt_ex, zt_bad, zc_ok, zc_bad, zo_nx, zo_rt, zo_ex, zo_bad, zf_nx, zf_rt, zf_ex, gz_z, gz_s, slz_z, b_nm, setZ, asB_b, opz_dd, cpz_dd, dsOf_nil, dsOf_cons, biz_d, subz_dd, slz_dd, truthZ_d, boolZ_eq, isz, tyKnown, tyOk, bop, cop, truth, itemD, slcD, bid, LV_hot, LV_gv, gv, Option.map_some, Option.bind_some, eqv_ls, eqv_sl, eqv_ii, eqv_snone, eqv_nones, eqv_sbool, eqv_bools, eqv_sint, eqv_ints, eqv_stuple, eqv_tuples, eqv_slist, eqv_lists, eqv_tt, eqv_LL, eqvA_nn, eqvA_nc, eqvA_cn, eqvA_xn, eqvA_cc, okD_int, okD_bool, okD_lit, okD_nilT, okD_nilL, ofString_inj, atI_0, atI_1, atI_2, atI_3, flatD, inD, zi_b, zi_o, zi_a, okD_T, d_law_is_place, standB]
theorem f_law_is_sum (k : Nat) (v : D) (M : Mem) (h : okD v = true) (hl : ∀ s, v = .str s → s.length ≤ 1000000) : (LV (k + 1)).fn false i_law_is_sum [.d v] M = .ok (.d (.bool (sumB v))) M := by
  rw [s_law_is_sum]
  cases v
  case str s =>
    have hs : s.length ≤ slen := hl s rfl
    have e : lcL (fun ρ' M' => evT (LV k) t_law_is_sum_1 ρ' M') (fun ρ' M' => evE (LV k) e_law_is_sum_1 ρ' M') (.nm 1) [.z (.d (.str s)), .no] ((signsOf s).map .d) M = .ok (((signsOf s).filter fun d => !sgB "abcpqr" d).map id) M := by
      refine lc_pure (signsOf s) (fun d hd => ?_) (fun d hd _ => ?_)
      · obtain ⟨c, hc, rfl⟩ := List.mem_map.mp hd
        simp [evE, evEs, evAnd, evOr, evT, evTA, evTO, evC, evO, evI, evS, evSs, zb_ok, zb_ex, zb_bad, zb_of, zb_no, zt_ok, zt_ex, zt_bad, zc_ok, zc_bad, zo_nx, zo_rt, zo_ex, zo_bad, zf_nx, zf_rt, zf_ex, gz_z, gz_s, slz_z, b_nm, setZ, asB_b, opz_dd, cpz_dd, dsOf_nil, dsOf_cons, biz_d, subz_dd, slz_dd, truthZ_d, boolZ_eq, isz, tyKnown, tyOk, bop, cop, truth, itemD, slcD, bid, LV_hot, LV_gv, gv, Option.map_some, Option.bind_some, eqv_ls, eqv_sl, eqv_ii, eqv_snone, eqv_nones, eqv_sbool, eqv_bools, eqv_sint, eqv_ints, eqv_stuple, eqv_tuples, eqv_slist, eqv_lists, eqv_tt, eqv_LL, eqvA_nn, eqvA_nc, eqvA_cn, eqvA_xn, eqvA_cc, okD_int, okD_bool, okD_lit, okD_nilT, okD_nilL, ofString_inj, atI_0, atI_1, atI_2, atI_3, flatD, inD, zi_b, zi_o, zi_a, okD_T, t_law_is_sum_1, sgB]
      · simp [evE, evEs, evAnd, evOr, evT, evTA, evTO, evC, evO, evI, evS, evSs, zb_ok, zb_ex, zb_bad, zb_of, zb_no, zt_ok, zt_ex, zt_bad, zc_ok, zc_bad, zo_nx, zo_rt, zo_ex, zo_bad, zf_nx, zf_rt, zf_ex, gz_z, gz_s, slz_z, b_nm, setZ, asB_b, opz_dd, cpz_dd, dsOf_nil, dsOf_cons, biz_d, subz_dd, slz_dd, truthZ_d, boolZ_eq, isz, tyKnown, tyOk, bop, cop, truth, itemD, slcD, bid, LV_hot, LV_gv, gv, Option.map_some, Option.bind_some, eqv_ls, eqv_sl, eqv_ii, eqv_snone, eqv_nones, eqv_sbool, eqv_bools, eqv_sint, eqv_ints, eqv_stuple, eqv_tuples, eqv_slist, eqv_lists, eqv_tt, eqv_LL, eqvA_nn, eqvA_nc, eqvA_cn, eqvA_xn, eqvA_cc, okD_int, okD_bool, okD_lit, okD_nilT, okD_nilL, ofString_inj, atI_0, atI_1, atI_2, atI_3, flatD, inD, zi_b, zi_o, zi_a, okD_T, e_law_is_sum_1]
    have e3 : (signsOf s).length ≤ slen := by rw [len_signs]; exact hs
    have so : PyData.strOk s = true := by rw [← okD_str]; exact h
    have e4 : okD (.list ((signsOf s).filter fun d => !sgB "abcpqr" d)) = true := okD_L fun x hx => ok_signs10 so x (List.mem_filter.mp hx).1
    simp only [List.map_id] at e
    have e5 : ((1 : Int) ≤ (s.length : Int)) = (1 ≤ s.length) := propext (by omega)
    have e6 : ((s.length : Int) ≤ (8 : Int)) = (s.length ≤ 8) := propext (by omega)
    by_cases h1 : 1 ≤ s.length ∧ s.length ≤ 8
    · obtain ⟨h1, h8⟩ := h1
      cases q : (signsOf s).all (sgB "abcpqr")
      · have f1 : ((signsOf s).filter fun d => !sgB "abcpqr" d).isEmpty = false := by rw [flt_empty, q]
        simp [evE, evEs, evAnd, evOr, evT, evTA, evTO, evC, evO, evI, evS, evSs, zb_ok, zb_ex, zb_bad, zb_of, zb_no, zt_ok, zt_ex, zt_bad, zc_ok, zc_bad, zo_nx, zo_rt, zo_ex, zo_bad, zf_nx, zf_rt, zf_ex, gz_z, gz_s, slz_z, b_nm, setZ, asB_b, opz_dd, cpz_dd, dsOf_nil, dsOf_cons, biz_d, subz_dd, slz_dd, truthZ_d, boolZ_eq, isz, tyKnown, tyOk, bop, cop, truth, itemD, slcD, bid, LV_hot, LV_gv, gv, Option.map_some, Option.bind_some, eqv_ls, eqv_sl, eqv_ii, eqv_snone, eqv_nones, eqv_sbool, eqv_bools, eqv_sint, eqv_ints, eqv_stuple, eqv_tuples, eqv_slist, eqv_lists, eqv_tt, eqv_LL, eqvA_nn, eqvA_nc, eqvA_cn, eqvA_xn, eqvA_cc, okD_int, okD_bool, okD_lit, okD_nilT, okD_nilL, ofString_inj, atI_0, atI_1, atI_2, atI_3, flatD, inD, zi_b, zi_o, zi_a, okD_T, d_law_is_sum, sumB, h, hs, itH, itemsOf, e3, wipeE, e, e4, e5, e6, h1, h8, q, f1]
      · have f1 : ((signsOf s).filter fun d => !sgB "abcpqr" d).isEmpty = true := by rw [flt_empty, q]
        have p1 : bid .chars [.str s] = some (.list ((s.cps.toList.map oneS).map .str)) := by
          show (if s.length ≤ slen then some (PyData.list (signsOf s)) else none) = _
          rw [if_pos hs, signs_one]
        have p2 : bid .sortedC [.str s] = some (.list ((sortS (s.cps.toList.map oneS)).map .str)) := by
          show (if s.length < 64 then some (PyData.list ((sortS (s.cps.toList.map fun c => (⟨#[c]⟩ : Str))).map .str)) else none) = _
          rw [if_pos (by omega)]
          rfl
        have o : ∀ t ∈ s.cps.toList.map oneS, PyData.strOk t = true := fun t ht => by
          have := ok_signs10 so (.str t) (by rw [signs_one]; exact List.mem_map.mpr ⟨t, ht, rfl⟩)
          exact dOk_str.mp this
        have o1 : okD (.list ((s.cps.toList.map oneS).map .str)) = true := okD_L fun x hx => by
          obtain ⟨t, ht, rfl⟩ := List.mem_map.mp hx
          exact dOk_str.mpr (o t ht)
        have o2 : okD (.list ((sortS (s.cps.toList.map oneS)).map .str)) = true := okD_L fun x hx => by
          obtain ⟨t, ht, rfl⟩ := List.mem_map.mp hx
          exact dOk_str.mpr (o t (sort_mem ht))
        have r : decide (s.cps.toList.map oneS = sortS (s.cps.toList.map oneS)) = adj s.cps.toList := by
          rw [Bool.eq_iff_iff, decide_eq_true_eq, eq_comm]
          exact sort_one
        have c1 : cop .eq (.list ((s.cps.toList.map oneS).map .str)) (.list ((sortS (s.cps.toList.map oneS)).map .str)) = some (adj s.cps.toList) := by
          show (if (okD _ && okD _) = true then some (PyData.eqv _ _) else none) = _
          rw [o1, o2, if_pos (by rfl), eqv_LL, eqv_strs, r]
        simp only [d_law_is_sum]
        generalize (s.cps.toList.map oneS).map PyData.str = l1 at *
        generalize (sortS (s.cps.toList.map oneS)).map PyData.str = l2 at *
        have e5' : cop .le (.int 1) (.int (s.length : Int)) = some true := by
          show some (decide _) = _
          rw [decide_eq_true (by omega)]
        have e6' : cop .le (.int (s.length : Int)) (.int 8) = some true := by
          show some (decide _) = _
          rw [decide_eq_true (by omega)]
        have p3 : bid .len [.str s] = some (.int s.length) := by
          show (if s.length ≤ slen then some _ else none) = _
          rw [if_pos hs]
        have e7 : cop .ne (.list ((signsOf s).filter fun d => !sgB "abcpqr" d)) (.list []) = some false := by
          show (if (okD _ && okD _) = true then some (!PyData.eqv _ _) else none) = _
          rw [e4, okD_nilL, if_pos (by rfl), eqv_nilL, f1]
          rfl
        simp [evE, evEs, evAnd, evOr, evT, evTA, evTO, evC, evO, evI, evS, evSs, zb_ok, zb_ex, zb_bad, zb_of, zb_no, zt_ok, zt_ex, zt_bad, zc_ok, zc_bad, zo_nx, zo_rt, zo_ex, zo_bad, zf_nx, zf_rt, zf_ex, gz_z, gz_s, slz_z, b_nm, setZ, asB_b, opz_dd, cpz_dd, dsOf_nil, dsOf_cons, biz_d, subz_dd, slz_dd, truthZ_d, boolZ_eq, isz, tyKnown, tyOk, bop, truth, itemD, slcD, LV_hot, LV_gv, gv, Option.map_some, Option.bind_some, eqv_ls, eqv_sl, eqv_ii, eqv_snone, eqv_nones, eqv_sbool, eqv_bools, eqv_sint, eqv_ints, eqv_stuple, eqv_tuples, eqv_slist, eqv_lists, eqv_tt, eqv_LL, eqvA_nn, eqvA_nc, eqvA_cn, eqvA_xn, eqvA_cc, okD_int, okD_bool, okD_lit, okD_nilT, okD_nilL, ofString_inj, atI_0, atI_1, atI_2, atI_3, flatD, inD, zi_b, zi_o, zi_a, okD_T, h, hs, itH, itemsOf, e3, wipeE, e, p1, p2, p3, c1, e5', e6', e7, Bi.walks, sumB, h1, h8, q]
    · have h2 : ¬ (1 ≤ s.length) ∨ ¬ (s.length ≤ 8) := by omega
      rcases h2 with h2 | h2
      · simp [evE, evEs, evAnd, evOr, evT, evTA, evTO, evC, evO, evI, evS, evSs, zb_ok, zb_ex, zb_bad, zb_of, zb_no, zt_ok, zt_ex, zt_bad, zc_ok, zc_bad, zo_nx, zo_rt, zo_ex, zo_bad, zf_nx, zf_rt, zf_ex, gz_z, gz_s, slz_z, b_nm, setZ, asB_b, opz_dd, cpz_dd, dsOf_nil, dsOf_cons, biz_d, subz_dd, slz_dd, truthZ_d, boolZ_eq, isz, tyKnown, tyOk, bop, cop, truth, itemD, slcD, bid, LV_hot, LV_gv, gv, Option.map_some, Option.bind_some, eqv_ls, eqv_sl, eqv_ii, eqv_snone, eqv_nones, eqv_sbool, eqv_bools, eqv_sint, eqv_ints, eqv_stuple, eqv_tuples, eqv_slist, eqv_lists, eqv_tt, eqv_LL, eqvA_nn, eqvA_nc, eqvA_cn, eqvA_xn, eqvA_cc, okD_int, okD_bool, okD_lit, okD_nilT, okD_nilL, ofString_inj, atI_0, atI_1, atI_2, atI_3, flatD, inD, zi_b, zi_o, zi_a, okD_T, d_law_is_sum, sumB, h, hs, e5, e6, h2]
      · simp [evE, evEs, evAnd, evOr, evT, evTA, evTO, evC, evO, evI, evS, evSs, zb_ok, zb_ex, zb_bad, zb_of, zb_no, zt_ok, zt_ex, zt_bad, zc_ok, zc_bad, zo_nx, zo_rt, zo_ex, zo_bad, zf_nx, zf_rt, zf_ex, gz_z, gz_s, slz_z, b_nm, setZ, asB_b, opz_dd, cpz_dd, dsOf_nil, dsOf_cons, biz_d, subz_dd, slz_dd, truthZ_d, boolZ_eq, isz, tyKnown, tyOk, bop, cop, truth, itemD, slcD, bid, LV_hot, LV_gv, gv, Option.map_some, Option.bind_some, eqv_ls, eqv_sl, eqv_ii, eqv_snone, eqv_nones, eqv_sbool, eqv_bools, eqv_sint, eqv_ints, eqv_stuple, eqv_tuples, eqv_slist, eqv_lists, eqv_tt, eqv_LL, eqvA_nn, eqvA_nc, eqvA_cn, eqvA_xn, eqvA_cc, okD_int, okD_bool, okD_lit, okD_nilT, okD_nilL, ofString_inj, atI_0, atI_1, atI_2, atI_3, flatD, inD, zi_b, zi_o, zi_a, okD_T, d_law_is_sum, sumB, h, hs, e5, e6, h2]
  case dict kvs => exact (nodict h).elim
  all_goals simp [evE, evEs, evAnd, evOr, evT, evTA, evTO, evC, evO, evI, evS, evSs, zb_ok, zb_ex, zb_bad, zb_of, zb_no, zt_ok, zt_ex, zt_bad, zc_ok, zc_bad, zo_nx, zo_rt, zo_ex, zo_bad, zf_nx, zf_rt, zf_ex, gz_z, gz_s, slz_z, b_nm, setZ, asB_b, opz_dd, cpz_dd, dsOf_nil, dsOf_cons, biz_d, subz_dd, slz_dd, truthZ_d, boolZ_eq, isz, tyKnown, tyOk, bop, cop, truth, itemD, slcD, bid, LV_hot, LV_gv, gv, Option.map_some, Option.bind_some, eqv_ls, eqv_sl, eqv_ii, eqv_snone, eqv_nones, eqv_sbool, eqv_bools, eqv_sint, eqv_ints, eqv_stuple, eqv_tuples, eqv_slist, eqv_lists, eqv_tt, eqv_LL, eqvA_nn, eqvA_nc, eqvA_cn, eqvA_xn, eqvA_cc, okD_int, okD_bool, okD_lit, okD_nilT, okD_nilL, ofString_inj, atI_0, atI_1, atI_2, atI_3, flatD, inD, zi_b, zi_o, zi_a, okD_T, d_law_is_sum, sumB]
theorem f_law_is_fact (k : Nat) (v : D) (M : Mem) (h : okD v = true) (hl2 : ∀ x ∈ itT v, ∀ s, x = .str s → s.length ≤ 1000000) : (LV (k + 2)).fn false i_law_is_fact [.d v] M = .ok (.d (.bool (factB v))) M := by
  rw [s_law_is_fact]
  cases v
  case tuple xs =>
    match xs, h, hl2 with
    | [], _, _ => simp [evE, evEs, evAnd, evOr, evT, evTA, evTO, evC, evO, evI, evS, evSs, zb_ok, zb_ex, zb_bad, zb_of, zb_no, zt_ok, zt_ex, zt_bad, zc_ok, zc_bad, zo_nx, zo_rt, zo_ex, zo_bad, zf_nx, zf_rt, zf_ex, gz_z, gz_s, slz_z, b_nm, setZ, asB_b, opz_dd, cpz_dd, dsOf_nil, dsOf_cons, biz_d, subz_dd, slz_dd, truthZ_d, boolZ_eq, isz, tyKnown, tyOk, bop, cop, truth, itemD, slcD, bid, LV_hot, LV_gv, gv, Option.map_some, Option.bind_some, eqv_ls, eqv_sl, eqv_ii, eqv_snone, eqv_nones, eqv_sbool, eqv_bools, eqv_sint, eqv_ints, eqv_stuple, eqv_tuples, eqv_slist, eqv_lists, eqv_tt, eqv_LL, eqvA_nn, eqvA_nc, eqvA_cn, eqvA_xn, eqvA_cc, okD_int, okD_bool, okD_lit, okD_nilT, okD_nilL, ofString_inj, atI_0, atI_1, atI_2, atI_3, flatD, inD, zi_b, zi_o, zi_a, okD_T, d_law_is_fact, factB]
    | [_], _, _ => simp [evE, evEs, evAnd, evOr, evT, evTA, evTO, evC, evO, evI, evS, evSs, zb_ok, zb_ex, zb_bad, zb_of, zb_no, zt_ok, zt_ex, zt_bad, zc_ok, zc_bad, zo_nx, zo_rt, zo_ex, zo_bad, zf_nx, zf_rt, zf_ex, gz_z, gz_s, slz_z, b_nm, setZ, asB_b, opz_dd, cpz_dd, dsOf_nil, dsOf_cons, biz_d, subz_dd, slz_dd, truthZ_d, boolZ_eq, isz, tyKnown, tyOk, bop, cop, truth, itemD, slcD, bid, LV_hot, LV_gv, gv, Option.map_some, Option.bind_some, eqv_ls, eqv_sl, eqv_ii, eqv_snone, eqv_nones, eqv_sbool, eqv_bools, eqv_sint, eqv_ints, eqv_stuple, eqv_tuples, eqv_slist, eqv_lists, eqv_tt, eqv_LL, eqvA_nn, eqvA_nc, eqvA_cn, eqvA_xn, eqvA_cc, okD_int, okD_bool, okD_lit, okD_nilT, okD_nilL, ofString_inj, atI_0, atI_1, atI_2, atI_3, flatD, inD, zi_b, zi_o, zi_a, okD_T, d_law_is_fact, factB]
    | [_, _], _, _ => simp [evE, evEs, evAnd, evOr, evT, evTA, evTO, evC, evO, evI, evS, evSs, zb_ok, zb_ex, zb_bad, zb_of, zb_no, zt_ok, zt_ex, zt_bad, zc_ok, zc_bad, zo_nx, zo_rt, zo_ex, zo_bad, zf_nx, zf_rt, zf_ex, gz_z, gz_s, slz_z, b_nm, setZ, asB_b, opz_dd, cpz_dd, dsOf_nil, dsOf_cons, biz_d, subz_dd, slz_dd, truthZ_d, boolZ_eq, isz, tyKnown, tyOk, bop, cop, truth, itemD, slcD, bid, LV_hot, LV_gv, gv, Option.map_some, Option.bind_some, eqv_ls, eqv_sl, eqv_ii, eqv_snone, eqv_nones, eqv_sbool, eqv_bools, eqv_sint, eqv_ints, eqv_stuple, eqv_tuples, eqv_slist, eqv_lists, eqv_tt, eqv_LL, eqvA_nn, eqvA_nc, eqvA_cn, eqvA_xn, eqvA_cc, okD_int, okD_bool, okD_lit, okD_nilT, okD_nilL, ofString_inj, atI_0, atI_1, atI_2, atI_3, flatD, inD, zi_b, zi_o, zi_a, okD_T, d_law_is_fact, factB]
    | [a, b, c], h, hl2 =>
      have ha : okD a = true := okD_flat h (by simp)
      have hb : okD b = true := okD_flat h (by simp)
      have hc : okD c = true := okD_flat h (by simp)
      have s1 := f_law_is_sum k b M hb (hl2 b (by simp [itT]))
      have s2 := f_law_is_sum k c M hc (hl2 c (by simp [itT]))
      cases a
      case str s =>
        cases q : wordB (.str s) [.str "less", .str "upto", .str "same"]
        · have q' := q
          simp [wordB, evE, evEs, evAnd, evOr, evT, evTA, evTO, evC, evO, evI, evS, evSs, zb_ok, zb_ex, zb_bad, zb_of, zb_no, zt_ok, zt_ex, zt_bad, zc_ok, zc_bad, zo_nx, zo_rt, zo_ex, zo_bad, zf_nx, zf_rt, zf_ex, gz_z, gz_s, slz_z, b_nm, setZ, asB_b, opz_dd, cpz_dd, dsOf_nil, dsOf_cons, biz_d, subz_dd, slz_dd, truthZ_d, boolZ_eq, isz, tyKnown, tyOk, bop, cop, truth, itemD, slcD, bid, LV_hot, LV_gv, gv, Option.map_some, Option.bind_some, eqv_ls, eqv_sl, eqv_ii, eqv_snone, eqv_nones, eqv_sbool, eqv_bools, eqv_sint, eqv_ints, eqv_stuple, eqv_tuples, eqv_slist, eqv_lists, eqv_tt, eqv_LL, eqvA_nn, eqvA_nc, eqvA_cn, eqvA_xn, eqvA_cc, okD_int, okD_bool, okD_lit, okD_nilT, okD_nilL, ofString_inj, atI_0, atI_1, atI_2, atI_3, flatD, inD, zi_b, zi_o, zi_a, okD_T] at q'
          simp [evE, evEs, evAnd, evOr, evT, evTA, evTO, evC, evO, evI, evS, evSs, zb_ok, zb_ex, zb_bad, zb_of, zb_no, zt_ok, zt_ex, zt_bad, zc_ok, zc_bad, zo_nx, zo_rt, zo_ex, zo_bad, zf_nx, zf_rt, zf_ex, gz_z, gz_s, slz_z, b_nm, setZ, asB_b, opz_dd, cpz_dd, dsOf_nil, dsOf_cons, biz_d, subz_dd, slz_dd, truthZ_d, boolZ_eq, isz, tyKnown, tyOk, bop, cop, truth, itemD, slcD, bid, LV_hot, LV_gv, gv, Option.map_some, Option.bind_some, eqv_ls, eqv_sl, eqv_ii, eqv_snone, eqv_nones, eqv_sbool, eqv_bools, eqv_sint, eqv_ints, eqv_stuple, eqv_tuples, eqv_slist, eqv_lists, eqv_tt, eqv_LL, eqvA_nn, eqvA_nc, eqvA_cn, eqvA_xn, eqvA_cc, okD_int, okD_bool, okD_lit, okD_nilT, okD_nilL, ofString_inj, atI_0, atI_1, atI_2, atI_3, flatD, inD, zi_b, zi_o, zi_a, okD_T, d_law_is_fact, factB, q, q', s1, s2]
        · have q' := q
          simp [wordB, evE, evEs, evAnd, evOr, evT, evTA, evTO, evC, evO, evI, evS, evSs, zb_ok, zb_ex, zb_bad, zb_of, zb_no, zt_ok, zt_ex, zt_bad, zc_ok, zc_bad, zo_nx, zo_rt, zo_ex, zo_bad, zf_nx, zf_rt, zf_ex, gz_z, gz_s, slz_z, b_nm, setZ, asB_b, opz_dd, cpz_dd, dsOf_nil, dsOf_cons, biz_d, subz_dd, slz_dd, truthZ_d, boolZ_eq, isz, tyKnown, tyOk, bop, cop, truth, itemD, slcD, bid, LV_hot, LV_gv, gv, Option.map_some, Option.bind_some, eqv_ls, eqv_sl, eqv_ii, eqv_snone, eqv_nones, eqv_sbool, eqv_bools, eqv_sint, eqv_ints, eqv_stuple, eqv_tuples, eqv_slist, eqv_lists, eqv_tt, eqv_LL, eqvA_nn, eqvA_nc, eqvA_cn, eqvA_xn, eqvA_cc, okD_int, okD_bool, okD_lit, okD_nilT, okD_nilL, ofString_inj, atI_0, atI_1, atI_2, atI_3, flatD, inD, zi_b, zi_o, zi_a, okD_T] at q'
          simp [evE, evEs, evAnd, evOr, evT, evTA, evTO, evC, evO, evI, evS, evSs, zb_ok, zb_ex, zb_bad, zb_of, zb_no, zt_ok, zt_ex, zt_bad, zc_ok, zc_bad, zo_nx, zo_rt, zo_ex, zo_bad, zf_nx, zf_rt, zf_ex, gz_z, gz_s, slz_z, b_nm, setZ, asB_b, opz_dd, cpz_dd, dsOf_nil, dsOf_cons, biz_d, subz_dd, slz_dd, truthZ_d, boolZ_eq, isz, tyKnown, tyOk, bop, cop, truth, itemD, slcD, bid, LV_hot, LV_gv, gv, Option.map_some, Option.bind_some, eqv_ls, eqv_sl, eqv_ii, eqv_snone, eqv_nones, eqv_sbool, eqv_bools, eqv_sint, eqv_ints, eqv_stuple, eqv_tuples, eqv_slist, eqv_lists, eqv_tt, eqv_LL, eqvA_nn, eqvA_nc, eqvA_cn, eqvA_xn, eqvA_cc, okD_int, okD_bool, okD_lit, okD_nilT, okD_nilL, ofString_inj, atI_0, atI_1, atI_2, atI_3, flatD, inD, zi_b, zi_o, zi_a, okD_T, d_law_is_fact, factB, q, q', s1, s2, Bool.and_assoc]
      case dict kvs => exact (nodict ha).elim
      all_goals simp [evE, evEs, evAnd, evOr, evT, evTA, evTO, evC, evO, evI, evS, evSs, zb_ok, zb_ex, zb_bad, zb_of, zb_no, zt_ok, zt_ex, zt_bad, zc_ok, zc_bad, zo_nx, zo_rt, zo_ex, zo_bad, zf_nx, zf_rt, zf_ex, gz_z, gz_s, slz_z, b_nm, setZ, asB_b, opz_dd, cpz_dd, dsOf_nil, dsOf_cons, biz_d, subz_dd, slz_dd, truthZ_d, boolZ_eq, isz, tyKnown, tyOk, bop, cop, truth, itemD, slcD, bid, LV_hot, LV_gv, gv, Option.map_some, Option.bind_some, eqv_ls, eqv_sl, eqv_ii, eqv_snone, eqv_nones, eqv_sbool, eqv_bools, eqv_sint, eqv_ints, eqv_stuple, eqv_tuples, eqv_slist, eqv_lists, eqv_tt, eqv_LL, eqvA_nn, eqvA_nc, eqvA_cn, eqvA_xn, eqvA_cc, okD_int, okD_bool, okD_lit, okD_nilT, okD_nilL, ofString_inj, atI_0, atI_1, atI_2, atI_3, flatD, inD, zi_b, zi_o, zi_a, okD_T, d_law_is_fact, factB, wordB]
    | a :: b :: c :: d :: r, h, _ =>
      have e3 : ¬ ((r.length : Int) + 1 + 1 + 1 + 1 = 3) := by omega
      simp [evE, evEs, evAnd, evOr, evT, evTA, evTO, evC, evO, evI, evS, evSs, zb_ok, zb_ex, zb_bad, zb_of, zb_no, zt_ok, zt_ex, zt_bad, zc_ok, zc_bad, zo_nx, zo_rt, zo_ex, zo_bad, zf_nx, zf_rt, zf_ex, gz_z, gz_s, slz_z, b_nm, setZ, asB_b, opz_dd, cpz_dd, dsOf_nil, dsOf_cons, biz_d, subz_dd, slz_dd, truthZ_d, boolZ_eq, isz, tyKnown, tyOk, bop, cop, truth, itemD, slcD, bid, LV_hot, LV_gv, gv, Option.map_some, Option.bind_some, eqv_ls, eqv_sl, eqv_ii, eqv_snone, eqv_nones, eqv_sbool, eqv_bools, eqv_sint, eqv_ints, eqv_stuple, eqv_tuples, eqv_slist, eqv_lists, eqv_tt, eqv_LL, eqvA_nn, eqvA_nc, eqvA_cn, eqvA_xn, eqvA_cc, okD_int, okD_bool, okD_lit, okD_nilT, okD_nilL, ofString_inj, atI_0, atI_1, atI_2, atI_3, flatD, inD, zi_b, zi_o, zi_a, okD_T, d_law_is_fact, factB, h, e3]
  case dict kvs => exact (nodict h).elim
  all_goals simp [evE, evEs, evAnd, evOr, evT, evTA, evTO, evC, evO, evI, evS, evSs, zb_ok, zb_ex, zb_bad, zb_of, zb_no, zt_ok, zt_ex, zt_bad, zc_ok, zc_bad, zo_nx, zo_rt, zo_ex, zo_bad, zf_nx, zf_rt, zf_ex, gz_z, gz_s, slz_z, b_nm, setZ, asB_b, opz_dd, cpz_dd, dsOf_nil, dsOf_cons, biz_d, subz_dd, slz_dd, truthZ_d, boolZ_eq, isz, tyKnown, tyOk, bop, cop, truth, itemD, slcD, bid, LV_hot, LV_gv, gv, Option.map_some, Option.bind_some, eqv_ls, eqv_sl, eqv_ii, eqv_snone, eqv_nones, eqv_sbool, eqv_bools, eqv_sint, eqv_ints, eqv_stuple, eqv_tuples, eqv_slist, eqv_lists, eqv_tt, eqv_LL, eqvA_nn, eqvA_nc, eqvA_cn, eqvA_xn, eqvA_cc, okD_int, okD_bool, okD_lit, okD_nilT, okD_nilL, ofString_inj, atI_0, atI_1, atI_2, atI_3, flatD, inD, zi_b, zi_o, zi_a, okD_T, d_law_is_fact, factB]
theorem f_law_are_facts (k : Nat) (v : D) (M : Mem) (h : okD v = true) (hl : (itT v).length ≤ 1000000) (hl2 : ∀ y ∈ itT v, ∀ x ∈ itT y, ∀ s, x = .str s → s.length ≤ 1000000) : (LV (k + 3)).fn false i_law_are_facts [.d v] M = .ok (.d (.bool (factsB v))) M := by
  rw [s_law_are_facts]
  cases v
  case tuple xs =>
    have e : lcL (fun ρ' M' => evT (LV (k + 2)) t_law_are_facts_1 ρ' M') (fun ρ' M' => evE (LV (k + 2)) e_law_are_facts_1 ρ' M') (.nm 1) [.z (.d (.tuple xs)), .no] (xs.map .d) M = .ok ((xs.filter fun d => !factB d).map id) M := by
      refine lc_pure xs (fun d hd => ?_) (fun d hd _ => ?_)
      · simp [evE, evEs, evAnd, evOr, evT, evTA, evTO, evC, evO, evI, evS, evSs, zb_ok, zb_ex, zb_bad, zb_of, zb_no, zt_ok, zt_ex, zt_bad, zc_ok, zc_bad, zo_nx, zo_rt, zo_ex, zo_bad, zf_nx, zf_rt, zf_ex, gz_z, gz_s, slz_z, b_nm, setZ, asB_b, opz_dd, cpz_dd, dsOf_nil, dsOf_cons, biz_d, subz_dd, slz_dd, truthZ_d, boolZ_eq, isz, tyKnown, tyOk, bop, cop, truth, itemD, slcD, bid, LV_hot, LV_gv, gv, Option.map_some, Option.bind_some, eqv_ls, eqv_sl, eqv_ii, eqv_snone, eqv_nones, eqv_sbool, eqv_bools, eqv_sint, eqv_ints, eqv_stuple, eqv_tuples, eqv_slist, eqv_lists, eqv_tt, eqv_LL, eqvA_nn, eqvA_nc, eqvA_cn, eqvA_xn, eqvA_cc, okD_int, okD_bool, okD_lit, okD_nilT, okD_nilL, ofString_inj, atI_0, atI_1, atI_2, atI_3, flatD, inD, zi_b, zi_o, zi_a, okD_T, t_law_are_facts_1, f_law_is_fact _ _ _ (okD_flat h hd) (hl2 d hd)]
      · simp [evE, evEs, evAnd, evOr, evT, evTA, evTO, evC, evO, evI, evS, evSs, zb_ok, zb_ex, zb_bad, zb_of, zb_no, zt_ok, zt_ex, zt_bad, zc_ok, zc_bad, zo_nx, zo_rt, zo_ex, zo_bad, zf_nx, zf_rt, zf_ex, gz_z, gz_s, slz_z, b_nm, setZ, asB_b, opz_dd, cpz_dd, dsOf_nil, dsOf_cons, biz_d, subz_dd, slz_dd, truthZ_d, boolZ_eq, isz, tyKnown, tyOk, bop, cop, truth, itemD, slcD, bid, LV_hot, LV_gv, gv, Option.map_some, Option.bind_some, eqv_ls, eqv_sl, eqv_ii, eqv_snone, eqv_nones, eqv_sbool, eqv_bools, eqv_sint, eqv_ints, eqv_stuple, eqv_tuples, eqv_slist, eqv_lists, eqv_tt, eqv_LL, eqvA_nn, eqvA_nc, eqvA_cn, eqvA_xn, eqvA_cc, okD_int, okD_bool, okD_lit, okD_nilT, okD_nilL, ofString_inj, atI_0, atI_1, atI_2, atI_3, flatD, inD, zi_b, zi_o, zi_a, okD_T, e_law_are_facts_1]
    have e3 : xs.length ≤ slen := hl
    have e4 : okD (.list (xs.filter fun d => !factB d)) = true := okD_flt _ h
    have e5 : ((6 : Int) < (xs.length : Int)) = (6 < xs.length) := propext (by omega)
    simp only [List.map_id] at e
    by_cases h6 : xs.length ≤ 6
    · have h7 : ¬ (6 < xs.length) := by omega
      simp [evE, evEs, evAnd, evOr, evT, evTA, evTO, evC, evO, evI, evS, evSs, zb_ok, zb_ex, zb_bad, zb_of, zb_no, zt_ok, zt_ex, zt_bad, zc_ok, zc_bad, zo_nx, zo_rt, zo_ex, zo_bad, zf_nx, zf_rt, zf_ex, gz_z, gz_s, slz_z, b_nm, setZ, asB_b, opz_dd, cpz_dd, dsOf_nil, dsOf_cons, biz_d, subz_dd, slz_dd, truthZ_d, boolZ_eq, isz, tyKnown, tyOk, bop, cop, truth, itemD, slcD, bid, LV_hot, LV_gv, gv, Option.map_some, Option.bind_some, eqv_ls, eqv_sl, eqv_ii, eqv_snone, eqv_nones, eqv_sbool, eqv_bools, eqv_sint, eqv_ints, eqv_stuple, eqv_tuples, eqv_slist, eqv_lists, eqv_tt, eqv_LL, eqvA_nn, eqvA_nc, eqvA_cn, eqvA_xn, eqvA_cc, okD_int, okD_bool, okD_lit, okD_nilT, okD_nilL, ofString_inj, atI_0, atI_1, atI_2, atI_3, flatD, inD, zi_b, zi_o, zi_a, okD_T, e5, h6, h7, d_law_are_facts, factsB, h, itH, itemsOf, e3, wipeE, e, e4, flt_empty]
    · have h7 : 6 < xs.length := by omega
      simp [evE, evEs, evAnd, evOr, evT, evTA, evTO, evC, evO, evI, evS, evSs, zb_ok, zb_ex, zb_bad, zb_of, zb_no, zt_ok, zt_ex, zt_bad, zc_ok, zc_bad, zo_nx, zo_rt, zo_ex, zo_bad, zf_nx, zf_rt, zf_ex, gz_z, gz_s, slz_z, b_nm, setZ, asB_b, opz_dd, cpz_dd, dsOf_nil, dsOf_cons, biz_d, subz_dd, slz_dd, truthZ_d, boolZ_eq, isz, tyKnown, tyOk, bop, cop, truth, itemD, slcD, bid, LV_hot, LV_gv, gv, Option.map_some, Option.bind_some, eqv_ls, eqv_sl, eqv_ii, eqv_snone, eqv_nones, eqv_sbool, eqv_bools, eqv_sint, eqv_ints, eqv_stuple, eqv_tuples, eqv_slist, eqv_lists, eqv_tt, eqv_LL, eqvA_nn, eqvA_nc, eqvA_cn, eqvA_xn, eqvA_cc, okD_int, okD_bool, okD_lit, okD_nilT, okD_nilL, ofString_inj, atI_0, atI_1, atI_2, atI_3, flatD, inD, zi_b, zi_o, zi_a, okD_T, e5, h6, h7, d_law_are_facts, factsB, h]
  case dict kvs => exact (nodict h).elim
  all_goals simp [evE, evEs, evAnd, evOr, evT, evTA, evTO, evC, evO, evI, evS, evSs, zb_ok, zb_ex, zb_bad, zb_of, zb_no, zt_ok, zt_ex, zt_bad, zc_ok, zc_bad, zo_nx, zo_rt, zo_ex, zo_bad, zf_nx, zf_rt, zf_ex, gz_z, gz_s, slz_z, b_nm, setZ, asB_b, opz_dd, cpz_dd, dsOf_nil, dsOf_cons, biz_d, subz_dd, slz_dd, truthZ_d, boolZ_eq, isz, tyKnown, tyOk, bop, cop, truth, itemD, slcD, bid, LV_hot, LV_gv, gv, Option.map_some, Option.bind_some, eqv_ls, eqv_sl, eqv_ii, eqv_snone, eqv_nones, eqv_sbool, eqv_bools, eqv_sint, eqv_ints, eqv_stuple, eqv_tuples, eqv_slist, eqv_lists, eqv_tt, eqv_LL, eqvA_nn, eqvA_nc, eqvA_cn, eqvA_xn, eqvA_cc, okD_int, okD_bool, okD_lit, okD_nilT, okD_nilL, ofString_inj, atI_0, atI_1, atI_2, atI_3, flatD, inD, zi_b, zi_o, zi_a, okD_T, d_law_are_facts, factsB]
theorem f_law_are_sizes (k : Nat) (v : D) (M : Mem) (h : okD v = true) (hl : (itT v).length ≤ 1000000) : (LV (k + 2)).fn false i_law_are_sizes [.d v] M = .ok (.d (.bool (lengthsB v))) M := by
  rw [s_law_are_sizes]
  have p1 : bop .pow (.int 10) (.int 30) = some (.int 1000000000000000000000000000000) := by rfl
  cases v
  case tuple xs =>
    have e : lcL (fun ρ' M' => evT (LV (k + 1)) t_law_are_sizes_1 ρ' M') (fun ρ' M' => evE (LV (k + 1)) e_law_are_sizes_1 ρ' M') (.nm 1) [.z (.d (.tuple xs)), .no] (xs.map .d) M = .ok ((xs.filter fun d => !wholeB d 1 1000000000000000000000000000000).map id) M := by
      refine lc_pure xs (fun d hd => ?_) (fun d hd _ => ?_)
      · have w := f_law_is_whole k d 1 1000000000000000000000000000000 M (okD_flat h hd)
        simp [evE, evEs, evAnd, evOr, evT, evTA, evTO, evC, evO, evI, evS, evSs, zb_ok, zb_ex, zb_bad, zb_of, zb_no, zt_ok, zt_ex, zt_bad, zc_ok, zc_bad, zo_nx, zo_rt, zo_ex, zo_bad, zf_nx, zf_rt, zf_ex, gz_z, gz_s, slz_z, b_nm, setZ, asB_b, opz_dd, cpz_dd, dsOf_nil, dsOf_cons, biz_d, subz_dd, slz_dd, truthZ_d, boolZ_eq, isz, tyKnown, tyOk, cop, truth, itemD, slcD, bid, LV_hot, LV_gv, gv, Option.map_some, Option.bind_some, eqv_ls, eqv_sl, eqv_ii, eqv_snone, eqv_nones, eqv_sbool, eqv_bools, eqv_sint, eqv_ints, eqv_stuple, eqv_tuples, eqv_slist, eqv_lists, eqv_tt, eqv_LL, eqvA_nn, eqvA_nc, eqvA_cn, eqvA_xn, eqvA_cc, okD_int, okD_bool, okD_lit, okD_nilT, okD_nilL, ofString_inj, atI_0, atI_1, atI_2, atI_3, flatD, inD, zi_b, zi_o, zi_a, okD_T, badd, bsub, bmod, bfdiv, bmul, t_law_are_sizes_1, p1, w]
      · simp [evE, evEs, evAnd, evOr, evT, evTA, evTO, evC, evO, evI, evS, evSs, zb_ok, zb_ex, zb_bad, zb_of, zb_no, zt_ok, zt_ex, zt_bad, zc_ok, zc_bad, zo_nx, zo_rt, zo_ex, zo_bad, zf_nx, zf_rt, zf_ex, gz_z, gz_s, slz_z, b_nm, setZ, asB_b, opz_dd, cpz_dd, dsOf_nil, dsOf_cons, biz_d, subz_dd, slz_dd, truthZ_d, boolZ_eq, isz, tyKnown, tyOk, bop, cop, truth, itemD, slcD, bid, LV_hot, LV_gv, gv, Option.map_some, Option.bind_some, eqv_ls, eqv_sl, eqv_ii, eqv_snone, eqv_nones, eqv_sbool, eqv_bools, eqv_sint, eqv_ints, eqv_stuple, eqv_tuples, eqv_slist, eqv_lists, eqv_tt, eqv_LL, eqvA_nn, eqvA_nc, eqvA_cn, eqvA_xn, eqvA_cc, okD_int, okD_bool, okD_lit, okD_nilT, okD_nilL, ofString_inj, atI_0, atI_1, atI_2, atI_3, flatD, inD, zi_b, zi_o, zi_a, okD_T, e_law_are_sizes_1]
    have e3 : xs.length ≤ slen := hl
    have e4 : okD (.list (xs.filter fun d => !wholeB d 1 1000000000000000000000000000000)) = true := okD_flt _ h
    have e5 : ((xs.length : Int) = 6) = (xs.length = 6) := propext (by omega)
    simp only [List.map_id] at e
    by_cases h6 : xs.length = 6
    · simp [evE, evEs, evAnd, evOr, evT, evTA, evTO, evC, evO, evI, evS, evSs, zb_ok, zb_ex, zb_bad, zb_of, zb_no, zt_ok, zt_ex, zt_bad, zc_ok, zc_bad, zo_nx, zo_rt, zo_ex, zo_bad, zf_nx, zf_rt, zf_ex, gz_z, gz_s, slz_z, b_nm, setZ, asB_b, opz_dd, cpz_dd, dsOf_nil, dsOf_cons, biz_d, subz_dd, slz_dd, truthZ_d, boolZ_eq, isz, tyKnown, tyOk, bop, cop, truth, itemD, slcD, bid, LV_hot, LV_gv, gv, Option.map_some, Option.bind_some, eqv_ls, eqv_sl, eqv_ii, eqv_snone, eqv_nones, eqv_sbool, eqv_bools, eqv_sint, eqv_ints, eqv_stuple, eqv_tuples, eqv_slist, eqv_lists, eqv_tt, eqv_LL, eqvA_nn, eqvA_nc, eqvA_cn, eqvA_xn, eqvA_cc, okD_int, okD_bool, okD_lit, okD_nilT, okD_nilL, ofString_inj, atI_0, atI_1, atI_2, atI_3, flatD, inD, zi_b, zi_o, zi_a, okD_T, e5, h6, d_law_are_sizes, lengthsB, h, itH, itemsOf, slen, wipeE, e, e4, flt_empty]
    · simp [evE, evEs, evAnd, evOr, evT, evTA, evTO, evC, evO, evI, evS, evSs, zb_ok, zb_ex, zb_bad, zb_of, zb_no, zt_ok, zt_ex, zt_bad, zc_ok, zc_bad, zo_nx, zo_rt, zo_ex, zo_bad, zf_nx, zf_rt, zf_ex, gz_z, gz_s, slz_z, b_nm, setZ, asB_b, opz_dd, cpz_dd, dsOf_nil, dsOf_cons, biz_d, subz_dd, slz_dd, truthZ_d, boolZ_eq, isz, tyKnown, tyOk, bop, cop, truth, itemD, slcD, bid, LV_hot, LV_gv, gv, Option.map_some, Option.bind_some, eqv_ls, eqv_sl, eqv_ii, eqv_snone, eqv_nones, eqv_sbool, eqv_bools, eqv_sint, eqv_ints, eqv_stuple, eqv_tuples, eqv_slist, eqv_lists, eqv_tt, eqv_LL, eqvA_nn, eqvA_nc, eqvA_cn, eqvA_xn, eqvA_cc, okD_int, okD_bool, okD_lit, okD_nilT, okD_nilL, ofString_inj, atI_0, atI_1, atI_2, atI_3, flatD, inD, zi_b, zi_o, zi_a, okD_T, e5, h6, d_law_are_sizes, lengthsB, h]
  case dict kvs => exact (nodict h).elim
  all_goals simp [evE, evEs, evAnd, evOr, evT, evTA, evTO, evC, evO, evI, evS, evSs, zb_ok, zb_ex, zb_bad, zb_of, zb_no, zt_ok, zt_ex, zt_bad, zc_ok, zc_bad, zo_nx, zo_rt, zo_ex, zo_bad, zf_nx, zf_rt, zf_ex, gz_z, gz_s, slz_z, b_nm, setZ, asB_b, opz_dd, cpz_dd, dsOf_nil, dsOf_cons, biz_d, subz_dd, slz_dd, truthZ_d, boolZ_eq, isz, tyKnown, tyOk, bop, cop, truth, itemD, slcD, bid, LV_hot, LV_gv, gv, Option.map_some, Option.bind_some, eqv_ls, eqv_sl, eqv_ii, eqv_snone, eqv_nones, eqv_sbool, eqv_bools, eqv_sint, eqv_ints, eqv_stuple, eqv_tuples, eqv_slist, eqv_lists, eqv_tt, eqv_LL, eqvA_nn, eqvA_nc, eqvA_cn, eqvA_xn, eqvA_cc, okD_int, okD_bool, okD_lit, okD_nilT, okD_nilL, ofString_inj, atI_0, atI_1, atI_2, atI_3, flatD, inD, zi_b, zi_o, zi_a, okD_T, d_law_are_sizes, lengthsB]
end Lw
namespace Lw
open PySem Zt
theorem names3 (k : Nat) (M : Mem) : (LH (k + 1)).fnW true i_law_names (.exc ⟨3, []⟩) [] M = .ok (.d (.str "script value")) M := by
  cases k with
  | zero => kernel_rfl
  | succ n => kernel_rfl
theorem names2 (k : Nat) (M : Mem) : (LH (k + 1)).fnW true i_law_names (.exc ⟨2, []⟩) [] M = .ok (.d (.str "row value")) M := by
  cases k with
  | zero => kernel_rfl
  | succ n => kernel_rfl
theorem f_need_row (k : Nat) (v : D) (M : Mem) (h : okD v = true) (hl : ∀ s, v = .str s → s.length ≤ 1000000) : (LV (k + 2)).fn false i_need_row [.d v] M = if rowB v then .ok (.d .none) M else .ex ⟨2, []⟩ M := by
  rw [s_need_row]
  have e := f_is_row k v M h hl
  cases q : rowB v <;> rw [q] at e <;> simp [evE, evEs, evAnd, evOr, evT, evTA, evTO, evC, evO, evI, evS, evSs, zb_ok, zb_ex, zb_bad, zb_of, zb_no, zt_ok, zt_ex, zt_bad, zc_ok, zc_bad, zo_nx, zo_rt, zo_ex, zo_bad, zf_nx, zf_rt, zf_ex, gz_z, gz_s, slz_z, b_nm, setZ, asB_b, opz_dd, cpz_dd, dsOf_nil, dsOf_cons, biz_d, subz_dd, slz_dd, truthZ_d, boolZ_eq, isz, tyKnown, tyOk, bop, cop, truth, itemD, slcD, bid, LV_hot, LV_gv, gv, Option.map_some, Option.bind_some, eqv_ls, eqv_sl, eqv_ii, eqv_snone, eqv_nones, eqv_sbool, eqv_bools, eqv_sint, eqv_ints, eqv_stuple, eqv_tuples, eqv_slist, eqv_lists, eqv_tt, eqv_LL, eqvA_nn, eqvA_nc, eqvA_cn, eqvA_xn, eqvA_cc, okD_int, okD_bool, okD_lit, okD_nilT, okD_nilL, ofString_inj, atI_0, atI_1, atI_2, atI_3, flatD, inD, zi_b, zi_o, zi_a, okD_T, d_need_row, e]
theorem f_turned (k : Nat) (s : Str) (M : Mem) (h : okD (.str s) = true) (hr : rowB (.str s) = true) : (LV (k + 3)).fn false i_turned [.d (.str s)] M = .ok (.d (.str (tnS s))) M := by
  obtain ⟨l8, _⟩ := row_in hr
  have e := f_need_row k (.str s) M h (fun t ht => by cases ht; omega)
  rw [hr] at e
  have e := e
  rw [if_pos (by rfl)] at e
  have hs : s.length ≤ slen := by show _ ≤ 1000000; omega
  have hs2 : Str.length ⟨s.cps.toList.reverse.toArray⟩ ≤ slen := by
    have : Str.length ⟨s.cps.toList.reverse.toArray⟩ = s.length := by simp [Str.length]
    omega
  have w : (LV (k + 2)).fn false i_turned_row [.d (.str s)] M = .ok (.d (.str (tnS s))) M := by
    rw [s_turned_row]
    have r := swap_rev hr
    have m : mtz .swapcase (.d (.str ⟨s.cps.toList.reverse.toArray⟩)) [] M = .ok (.d (.str (tnS s))) M := by
      show R.of (((some ([] : List D)).bind fun _ => if Str.length ⟨s.cps.toList.reverse.toArray⟩ ≤ slen then some (PyData.str (Txt.swapcase ⟨s.cps.toList.reverse.toArray⟩)) else none).map Z.d) M = _
      rw [Option.bind_some, if_pos hs2, r]
      rfl
    have rv : revD (.str s) = some (.str ⟨s.cps.toList.reverse.toArray⟩) := by
      show (if s.length ≤ slen then some _ else none) = _
      rw [if_pos hs]
    generalize (⟨s.cps.toList.reverse.toArray⟩ : Str) = y at *
    have rc : rcv .swapcase (.d (.str y)) M = true := rfl
    simp [evE, evEs, evAnd, evOr, evT, evTA, evTO, evC, evO, evI, evS, evSs, zb_ok, zb_ex, zb_bad, zb_of, zb_no, zt_ok, zt_ex, zt_bad, zc_ok, zc_bad, zo_nx, zo_rt, zo_ex, zo_bad, zf_nx, zf_rt, zf_ex, gz_z, gz_s, slz_z, b_nm, setZ, asB_b, opz_dd, cpz_dd, dsOf_nil, dsOf_cons, biz_d, subz_dd, slz_dd, truthZ_d, boolZ_eq, isz, tyKnown, tyOk, bop, cop, truth, itemD, slcD, bid, LV_hot, LV_gv, gv, Option.map_some, Option.bind_some, eqv_ls, eqv_sl, eqv_ii, eqv_snone, eqv_nones, eqv_sbool, eqv_bools, eqv_sint, eqv_ints, eqv_stuple, eqv_tuples, eqv_slist, eqv_lists, eqv_tt, eqv_LL, eqvA_nn, eqvA_nc, eqvA_cn, eqvA_xn, eqvA_cc, okD_int, okD_bool, okD_lit, okD_nilT, okD_nilL, ofString_inj, atI_0, atI_1, atI_2, atI_3, flatD, inD, zi_b, zi_o, zi_a, okD_T, d_turned_row, rv, rc, m]
  rw [s_turned]
  simp [evE, evEs, evAnd, evOr, evT, evTA, evTO, evC, evO, evI, evS, evSs, zb_ok, zb_ex, zb_bad, zb_of, zb_no, zt_ok, zt_ex, zt_bad, zc_ok, zc_bad, zo_nx, zo_rt, zo_ex, zo_bad, zf_nx, zf_rt, zf_ex, gz_z, gz_s, slz_z, b_nm, setZ, asB_b, opz_dd, cpz_dd, dsOf_nil, dsOf_cons, biz_d, subz_dd, slz_dd, truthZ_d, boolZ_eq, isz, tyKnown, tyOk, bop, cop, truth, itemD, slcD, bid, LV_hot, LV_gv, gv, Option.map_some, Option.bind_some, eqv_ls, eqv_sl, eqv_ii, eqv_snone, eqv_nones, eqv_sbool, eqv_bools, eqv_sint, eqv_ints, eqv_stuple, eqv_tuples, eqv_slist, eqv_lists, eqv_tt, eqv_LL, eqvA_nn, eqvA_nc, eqvA_cn, eqvA_xn, eqvA_cc, okD_int, okD_bool, okD_lit, okD_nilT, okD_nilL, ofString_inj, atI_0, atI_1, atI_2, atI_3, flatD, inD, zi_b, zi_o, zi_a, okD_T, d_turned, e, w]
theorem f_turned_bad (k : Nat) (v : D) (M : Mem) (h : okD v = true) (hl : ∀ s, v = .str s → s.length ≤ 1000000) (hr : rowB v = false) : (LV (k + 3)).fn false i_turned [.d v] M = .ex ⟨2, []⟩ M := by
  rw [s_turned]
  have e := f_need_row k v M h hl
  rw [hr] at e
  simp at e
  simp [evE, evEs, evAnd, evOr, evT, evTA, evTO, evC, evO, evI, evS, evSs, zb_ok, zb_ex, zb_bad, zb_of, zb_no, zt_ok, zt_ex, zt_bad, zc_ok, zc_bad, zo_nx, zo_rt, zo_ex, zo_bad, zf_nx, zf_rt, zf_ex, gz_z, gz_s, slz_z, b_nm, setZ, asB_b, opz_dd, cpz_dd, dsOf_nil, dsOf_cons, biz_d, subz_dd, slz_dd, truthZ_d, boolZ_eq, isz, tyKnown, tyOk, bop, cop, truth, itemD, slcD, bid, LV_hot, LV_gv, gv, Option.map_some, Option.bind_some, eqv_ls, eqv_sl, eqv_ii, eqv_snone, eqv_nones, eqv_sbool, eqv_bools, eqv_sint, eqv_ints, eqv_stuple, eqv_tuples, eqv_slist, eqv_lists, eqv_tt, eqv_LL, eqvA_nn, eqvA_nc, eqvA_cn, eqvA_xn, eqvA_cc, okD_int, okD_bool, okD_lit, okD_nilT, okD_nilL, ofString_inj, atI_0, atI_1, atI_2, atI_3, flatD, inD, zi_b, zi_o, zi_a, okD_T, d_turned, e]
theorem f_count_steps (k : Nat) (xs : List D) (M : Mem) (h : okD (.tuple xs) = true) (hs : scriptB (.tuple xs) = true) : (LV (k + 8)).fn false i_count_steps [.d (.tuple xs)] M = .ok (.d (.int (sizes xs))) M := by
  obtain ⟨h1, h2, h3⟩ := script_parts hs
  rw [s_count_steps]
  have e := f_need_script k (.tuple xs) M h (by show xs.length ≤ _; omega) (fun s hs => step_len (h2 s hs))
  rw [hs] at e
  simp at e
  have e2 := f_steps_in (k + 5) xs M h (by omega) h2
  simp [evE, evEs, evAnd, evOr, evT, evTA, evTO, evC, evO, evI, evS, evSs, zb_ok, zb_ex, zb_bad, zb_of, zb_no, zt_ok, zt_ex, zt_bad, zc_ok, zc_bad, zo_nx, zo_rt, zo_ex, zo_bad, zf_nx, zf_rt, zf_ex, gz_z, gz_s, slz_z, b_nm, setZ, asB_b, opz_dd, cpz_dd, dsOf_nil, dsOf_cons, biz_d, subz_dd, slz_dd, truthZ_d, boolZ_eq, isz, tyKnown, tyOk, bop, cop, truth, itemD, slcD, bid, LV_hot, LV_gv, gv, Option.map_some, Option.bind_some, eqv_ls, eqv_sl, eqv_ii, eqv_snone, eqv_nones, eqv_sbool, eqv_bools, eqv_sint, eqv_ints, eqv_stuple, eqv_tuples, eqv_slist, eqv_lists, eqv_tt, eqv_LL, eqvA_nn, eqvA_nc, eqvA_cn, eqvA_xn, eqvA_cc, okD_int, okD_bool, okD_lit, okD_nilT, okD_nilL, ofString_inj, atI_0, atI_1, atI_2, atI_3, flatD, inD, zi_b, zi_o, zi_a, okD_T, d_count_steps, e, e2]
theorem f_count_bad (k : Nat) (v : D) (M : Mem) (h : okD v = true) (hl : (itT v).length ≤ 1000000) (hl2 : ∀ s ∈ itT v, ∀ b ∈ itT s, (itT b).length ≤ 1000000) (hs : scriptB v = false) : (LV (k + 8)).fn false i_count_steps [.d v] M = .ex ⟨3, []⟩ M := by
  rw [s_count_steps]
  have e := f_need_script k v M h hl hl2
  rw [hs] at e
  simp at e
  simp [evE, evEs, evAnd, evOr, evT, evTA, evTO, evC, evO, evI, evS, evSs, zb_ok, zb_ex, zb_bad, zb_of, zb_no, zt_ok, zt_ex, zt_bad, zc_ok, zc_bad, zo_nx, zo_rt, zo_ex, zo_bad, zf_nx, zf_rt, zf_ex, gz_z, gz_s, slz_z, b_nm, setZ, asB_b, opz_dd, cpz_dd, dsOf_nil, dsOf_cons, biz_d, subz_dd, slz_dd, truthZ_d, boolZ_eq, isz, tyKnown, tyOk, bop, cop, truth, itemD, slcD, bid, LV_hot, LV_gv, gv, Option.map_some, Option.bind_some, eqv_ls, eqv_sl, eqv_ii, eqv_snone, eqv_nones, eqv_sbool, eqv_bools, eqv_sint, eqv_ints, eqv_stuple, eqv_tuples, eqv_slist, eqv_lists, eqv_tt, eqv_LL, eqvA_nn, eqvA_nc, eqvA_cn, eqvA_xn, eqvA_cc, okD_int, okD_bool, okD_lit, okD_nilT, okD_nilL, ofString_inj, atI_0, atI_1, atI_2, atI_3, flatD, inD, zi_b, zi_o, zi_a, okD_T, d_count_steps, e]
theorem f_truly (k : Nat) (a : Bool) (M : Mem) : (LV (k + 1)).fn false i_law_truly [.d (.bool a), .d (.bool a)] M = .ok (.d (.bool true)) M := by
  rw [s_law_truly]
  have e : PyData.eqv (.bool a) (.bool a) = true := eqv_r okD_bool
  simp [evE, evEs, evAnd, evOr, evT, evTA, evTO, evC, evO, evI, evS, evSs, zb_ok, zb_ex, zb_bad, zb_of, zb_no, zt_ok, zt_ex, zt_bad, zc_ok, zc_bad, zo_nx, zo_rt, zo_ex, zo_bad, zf_nx, zf_rt, zf_ex, gz_z, gz_s, slz_z, b_nm, setZ, asB_b, opz_dd, cpz_dd, dsOf_nil, dsOf_cons, biz_d, subz_dd, slz_dd, truthZ_d, boolZ_eq, isz, tyKnown, tyOk, bop, cop, truth, itemD, slcD, bid, LV_hot, LV_gv, gv, Option.map_some, Option.bind_some, eqv_ls, eqv_sl, eqv_ii, eqv_snone, eqv_nones, eqv_sbool, eqv_bools, eqv_sint, eqv_ints, eqv_stuple, eqv_tuples, eqv_slist, eqv_lists, eqv_tt, eqv_LL, eqvA_nn, eqvA_nc, eqvA_cn, eqvA_xn, eqvA_cc, okD_int, okD_bool, okD_lit, okD_nilT, okD_nilL, ofString_inj, atI_0, atI_1, atI_2, atI_3, flatD, inD, zi_b, zi_o, zi_a, okD_T, d_law_truly, e]
theorem f_judged (k n j : Nat) (v : D) (M : Mem) (h : Bt n j v) (hn : n ≤ 50) (hj : j ≤ 60) : (LV (k + 11)).fn false i_law_judged [.d v] M = .ok (.d (.bool true)) M := by
  have ho := h.ok hj
  have hl : (itT v).length ≤ 1000000 := by have := h.len; omega
  have hl2 : ∀ s ∈ itT v, ∀ b ∈ itT s, (itT b).length ≤ 1000000 := fun s hs b hb => by
    have := ((h.sub hs).sub hb).len
    omega
  have ls : ∀ s, v = .str s → s.length ≤ 1000000 := fun s e => by
    subst e
    have := h.str.2.2
    omega
  have ls1 : ∀ x ∈ itT v, ∀ s, x = .str s → s.length ≤ 1000000 := fun x hx s e => by
    subst e
    have := (h.sub hx).str.2.2
    omega
  have ls2 : ∀ y ∈ itT v, ∀ x ∈ itT y, ∀ s, x = .str s → s.length ≤ 1000000 := fun y hy x hx s e => by
    subst e
    have := ((h.sub hy).sub hx).str.2.2
    omega
  rw [s_law_judged]
  have a1 := f_is_stand (k + 8) v M ho hl ls1
  have a2 := f_law_is_place (k + 8) v M ho hl ls1
  have b1 := f_is_facts (k + 7) v M ho hl ls2
  have b2 := f_law_are_facts (k + 7) v M ho hl ls2
  have c1 := f_is_script (k + 4) v M ho hl hl2
  have c2 := f_law_is_script (k + 6) v M ho hl hl2
  have d1 := f_is_lengths (k + 8) v M ho hl
  have d2 := f_law_are_sizes (k + 8) v M ho hl
  have r2 := f_law_is_wagons (k + 9) v M ho ls
  have t1 := f_truly (k + 9) (standB v) M
  have t2 := f_truly (k + 9) (factsB v) M
  have t3 := f_truly (k + 9) (scriptB v) M
  have t4 := f_truly (k + 9) (lengthsB v) M
  cases qs : scriptB v
  · rw [qs] at c1 c2 t3
    have x1 := f_errorC 3 "script value" (by decide +kernel) names3 (k + 6) (.call 22 (.cons (.v 0) .nil)) [some (.d v)] M M (by
      have := f_count_bad k v M ho hl hl2 qs
      simp [evE, evEs, evAnd, evOr, evT, evTA, evTO, evC, evO, evI, evS, evSs, zb_ok, zb_ex, zb_bad, zb_of, zb_no, zt_ok, zt_ex, zt_bad, zc_ok, zc_bad, zo_nx, zo_rt, zo_ex, zo_bad, zf_nx, zf_rt, zf_ex, gz_z, gz_s, slz_z, b_nm, setZ, asB_b, opz_dd, cpz_dd, dsOf_nil, dsOf_cons, biz_d, subz_dd, slz_dd, truthZ_d, boolZ_eq, isz, tyKnown, tyOk, bop, cop, truth, itemD, slcD, bid, LV_hot, LV_gv, gv, Option.map_some, Option.bind_some, eqv_ls, eqv_sl, eqv_ii, eqv_snone, eqv_nones, eqv_sbool, eqv_bools, eqv_sint, eqv_ints, eqv_stuple, eqv_tuples, eqv_slist, eqv_lists, eqv_tt, eqv_LL, eqvA_nn, eqvA_nc, eqvA_cn, eqvA_xn, eqvA_cc, okD_int, okD_bool, okD_lit, okD_nilT, okD_nilL, ofString_inj, atI_0, atI_1, atI_2, atI_3, flatD, inD, zi_b, zi_o, zi_a, okD_T, ofCap, this])
    cases qr : rowB v
    · rw [qr] at r2
      have x2 := f_errorC 2 "row value" (by decide +kernel) names2 (k + 6) (.call 21 (.cons (.v 0) .nil)) [some (.d v)] M M (by
        have := f_turned_bad (k + 5) v M ho ls qr
        simp [evE, evEs, evAnd, evOr, evT, evTA, evTO, evC, evO, evI, evS, evSs, zb_ok, zb_ex, zb_bad, zb_of, zb_no, zt_ok, zt_ex, zt_bad, zc_ok, zc_bad, zo_nx, zo_rt, zo_ex, zo_bad, zf_nx, zf_rt, zf_ex, gz_z, gz_s, slz_z, b_nm, setZ, asB_b, opz_dd, cpz_dd, dsOf_nil, dsOf_cons, biz_d, subz_dd, slz_dd, truthZ_d, boolZ_eq, isz, tyKnown, tyOk, bop, cop, truth, itemD, slcD, bid, LV_hot, LV_gv, gv, Option.map_some, Option.bind_some, eqv_ls, eqv_sl, eqv_ii, eqv_snone, eqv_nones, eqv_sbool, eqv_bools, eqv_sint, eqv_ints, eqv_stuple, eqv_tuples, eqv_slist, eqv_lists, eqv_tt, eqv_LL, eqvA_nn, eqvA_nc, eqvA_cn, eqvA_xn, eqvA_cc, okD_int, okD_bool, okD_lit, okD_nilT, okD_nilL, ofString_inj, atI_0, atI_1, atI_2, atI_3, flatD, inD, zi_b, zi_o, zi_a, okD_T, ofCap, this])
      simp [evE, evEs, evAnd, evOr, evT, evTA, evTO, evC, evO, evI, evS, evSs, zb_ok, zb_ex, zb_bad, zb_of, zb_no, zt_ok, zt_ex, zt_bad, zc_ok, zc_bad, zo_nx, zo_rt, zo_ex, zo_bad, zf_nx, zf_rt, zf_ex, gz_z, gz_s, slz_z, b_nm, setZ, asB_b, opz_dd, cpz_dd, dsOf_nil, dsOf_cons, biz_d, subz_dd, slz_dd, truthZ_d, boolZ_eq, isz, tyKnown, tyOk, bop, cop, truth, itemD, slcD, bid, LV_hot, LV_gv, gv, Option.map_some, Option.bind_some, eqv_ls, eqv_sl, eqv_ii, eqv_snone, eqv_nones, eqv_sbool, eqv_bools, eqv_sint, eqv_ints, eqv_stuple, eqv_tuples, eqv_slist, eqv_lists, eqv_tt, eqv_LL, eqvA_nn, eqvA_nc, eqvA_cn, eqvA_xn, eqvA_cc, okD_int, okD_bool, okD_lit, okD_nilT, okD_nilL, ofString_inj, atI_0, atI_1, atI_2, atI_3, flatD, inD, zi_b, zi_o, zi_a, okD_T, d_law_judged, a1, a2, b1, b2, c1, c2, d1, d2, r2, t1, t2, t3, t4, capOf, x1, x2]
    · rw [qr] at r2
      obtain ⟨s, rfl, l8⟩ := row_str qr
      obtain ⟨g1, g2, g3⟩ := tn_row qr
      have so : PyData.strOk s = true := h.str.1
      have ho2 : okD (.str (tnS s)) = true := by
        rw [okD_str]
        refine strOk_iff.mpr fun c hc => ?_
        have := (row_in g1).2 c hc
        simp [L6] at this
        omega
      have y1 := f_turned (k + 7) s M ho qr
      have y2 := f_turned (k + 7) (tnS s) M ho2 g1
      rw [g2] at y2
      have q1 : s.length ≤ slen := by show _ ≤ 1000000; omega
      have q2 : (tnS s).length ≤ slen := by rw [g3]; exact q1
      have q3 : PyData.eqv (.str s) (.str s) = true := eqv_r ho
      generalize tnS s = u at *
      simp [evE, evEs, evAnd, evOr, evT, evTA, evTO, evC, evO, evI, evS, evSs, zb_ok, zb_ex, zb_bad, zb_of, zb_no, zt_ok, zt_ex, zt_bad, zc_ok, zc_bad, zo_nx, zo_rt, zo_ex, zo_bad, zf_nx, zf_rt, zf_ex, gz_z, gz_s, slz_z, b_nm, setZ, asB_b, opz_dd, cpz_dd, dsOf_nil, dsOf_cons, biz_d, subz_dd, slz_dd, truthZ_d, boolZ_eq, isz, tyKnown, tyOk, bop, cop, truth, itemD, slcD, bid, LV_hot, LV_gv, gv, Option.map_some, Option.bind_some, eqv_ls, eqv_sl, eqv_ii, eqv_snone, eqv_nones, eqv_sbool, eqv_bools, eqv_sint, eqv_ints, eqv_stuple, eqv_tuples, eqv_slist, eqv_lists, eqv_tt, eqv_LL, eqvA_nn, eqvA_nc, eqvA_cn, eqvA_xn, eqvA_cc, okD_int, okD_bool, okD_lit, okD_nilT, okD_nilL, ofString_inj, atI_0, atI_1, atI_2, atI_3, flatD, inD, zi_b, zi_o, zi_a, okD_T, d_law_judged, a1, a2, b1, b2, c1, c2, d1, d2, r2, t1, t2, t3, t4, capOf, x1, y1, y2, q1, q2, q3, g3, ho]
  · rw [qs] at c1 c2 t3
    obtain ⟨xs, rfl⟩ : ∃ xs, v = .tuple xs := by
      cases v
      case tuple xs => exact ⟨xs, rfl⟩
      all_goals exact absurd qs (by simp [scriptB])
    obtain ⟨h1, h2, h3⟩ := script_parts qs
    have x1 := f_count_steps (k + 2) xs M ho qs
    have x2 := f_size (k + 9) xs M (fun x hx => ⟨h2 x hx, okD_flat ho hx⟩)
    simp [evE, evEs, evAnd, evOr, evT, evTA, evTO, evC, evO, evI, evS, evSs, zb_ok, zb_ex, zb_bad, zb_of, zb_no, zt_ok, zt_ex, zt_bad, zc_ok, zc_bad, zo_nx, zo_rt, zo_ex, zo_bad, zf_nx, zf_rt, zf_ex, gz_z, gz_s, slz_z, b_nm, setZ, asB_b, opz_dd, cpz_dd, dsOf_nil, dsOf_cons, biz_d, subz_dd, slz_dd, truthZ_d, boolZ_eq, isz, tyKnown, tyOk, bop, cop, truth, itemD, slcD, bid, LV_hot, LV_gv, gv, Option.map_some, Option.bind_some, eqv_ls, eqv_sl, eqv_ii, eqv_snone, eqv_nones, eqv_sbool, eqv_bools, eqv_sint, eqv_ints, eqv_stuple, eqv_tuples, eqv_slist, eqv_lists, eqv_tt, eqv_LL, eqvA_nn, eqvA_nc, eqvA_cn, eqvA_xn, eqvA_cc, okD_int, okD_bool, okD_lit, okD_nilT, okD_nilL, ofString_inj, atI_0, atI_1, atI_2, atI_3, flatD, inD, zi_b, zi_o, zi_a, okD_T, d_law_judged, a1, a2, b1, b2, c1, c2, d1, d2, r2, t1, t2, t3, t4, capOf, x1, x2]
end Lw
namespace Lw
open PySem Zt
theorem for_inv {body : Zt.Env → Mem → O} {i N : Nat} {I : Nat → Zt.Env → Mem → Prop} : ∀ (zs : List Z) (ρ : Zt.Env) (M : Mem) (m : Nat), m + zs.length ≤ N → I m ρ M → (∀ z ∈ zs, ∀ m ρ M, m < N → I m ρ M → ∃ ρ' M', body (ρ.set i (.z z)) M = .nx ρ' M' ∧ I (m + 1) ρ' M') → ∃ ρ' M', forL body (.nm i) zs ρ M = .nx ρ' M' ∧ I (m + zs.length) ρ' M'
  | [], ρ, M, m, _, h, _ => ⟨ρ, M, rfl, h⟩
  | z :: zs, ρ, M, m, hm, h, g => by
    rw [List.length_cons] at hm
    obtain ⟨ρ1, M1, e1, h1⟩ := g z (List.mem_cons_self ..) m ρ M (by omega) h
    obtain ⟨ρ2, M2, e2, h2⟩ := for_inv zs ρ1 M1 (m + 1) (by omega) h1 fun z hz => g z (List.mem_cons_of_mem _ hz)
    refine ⟨ρ2, M2, ?_, by rw [List.length_cons]; rwa [show m + (zs.length + 1) = m + 1 + zs.length by omega]⟩
    rw [for_cons, e1, zo_nx, e2]
/-- a text of signs of wagons -/
structure Wg (m : Nat) (s : Str) : Prop where
  l : s.length ≤ m
  c : ∀ c ∈ s.cps.toList, c ∈ [97, 98, 99, 65, 66]
theorem Wg.bt {m : Nat} {s : Str} (h : Wg m s) (hm : m ≤ 60) : Bt 0 1 (.str s) := by
  refine ⟨strOk_iff.mpr fun c hc => ?_, asc_iff.mpr fun c hc => ?_, by have := h.l; omega⟩ <;> (have := h.c c hc; simp at this; omega)
theorem Wg.app {m n : Nat} {s t : Str} (h : Wg m s) (g : Wg n t) : Wg (m + n) (s ++ t) := ⟨by have := h.l; have := g.l; rw [len_app]; omega, fun c hc => by
  rw [cps_app] at hc
  rcases List.mem_append.mp hc with q | q
  · exact h.c c q
  · exact g.c c q⟩
def lwag : List D := [.str "a", .str "b", .str "a", .str "b", .str "c", .str "A", .str "B"]
theorem lwag_ok {x : D} (h : x ∈ lwag) : ∃ s, x = .str s ∧ Wg 1 s := by
  have t : lwag.all (fun d => match d with
    | .str s => decide (s.length ≤ 1) && s.cps.toList.all fun c => [97, 98, 99, 65, 66].contains c
    | _ => false) = true := by decide +kernel
  have := List.all_eq_true.mp t x h
  cases x with
  | str s =>
    have this : (decide (s.length ≤ 1) && s.cps.toList.all fun c => [97, 98, 99, 65, 66].contains c) = true := this
    rw [Bool.and_eq_true] at this
    exact ⟨s, rfl, of_decide_eq_true this.1, fun c hc => by simpa using List.all_eq_true.mp this.2 c hc⟩
  | _ => cases this
theorem Wg.nil : Wg 0 "" := ⟨by decide +kernel, by
  have e : ("" : Str).cps.toList = [] := by decide +kernel
  rw [e]
  intro c hc
  cases hc⟩
theorem f_wagons (k n : Nat) (c : Int) (M : Mem) (h : Vt M n) (hc : 0 ≤ c) (hc2 : c ≤ 8) : ∃ s M', (LV (k + 3)).fn false i_law_wagons [.r n, .d (.int c)] M = .ok (.d (.str s)) M' ∧ Wg c.toNat s ∧ Dr n M M' := by
  obtain ⟨u, M1, e1, u1, u2, d1⟩ := f_under (k + 1) n (c + 1) M h (by omega) (by omega)
  have hlen : (rngZ 0 u).length ≤ 9 := by rw [rng_len]; omega
  obtain ⟨ρ, M2, e2, ⟨s, s3, rfl, hs, d2⟩⟩ := for_inv (N := 9) (body := fun ρ' M' => evSs (LV (k + 2)) b_law_wagons_1 ρ' M') (i := 3) (I := fun m ρ M' => ∃ s s3, ρ = [.z (.r n), .z (.d (.int c)), .z (.d (.str s)), s3] ∧ Wg m s ∧ Dr n M1 M') (rngZ 0 u) [.z (.r n), .z (.d (.int c)), .z (.d (.str "")), .no] M1 0 (by omega) ⟨"", .no, rfl, Wg.nil, Dr.refl d1.v⟩ fun z hz m ρ M' hm ⟨s, s3, e, hs, d⟩ => by
    subst e
    obtain ⟨x, M3, e3, hx, d3⟩ := f_some k n lwag M' d.v (by decide) (by decide)
    obtain ⟨t, rfl, ht⟩ := lwag_ok hx
    unfold lwag at e3
    have q : s.length + t.length ≤ slen := by
      have := hs.l
      have := ht.l
      show _ ≤ 1000000
      omega
    refine ⟨[.z (.r n), .z (.d (.int c)), .z (.d (.str (s ++ t))), .z z], M3, ?_, s ++ t, .z z, rfl, hs.app ht, d.trans d3⟩
    simp [evE, evEs, evAnd, evOr, evT, evTA, evTO, evC, evO, evI, evS, evSs, zb_ok, zb_ex, zb_bad, zb_of, zb_no, zt_ok, zt_ex, zt_bad, zc_ok, zc_bad, zo_nx, zo_rt, zo_ex, zo_bad, zf_nx, zf_rt, zf_ex, gz_z, gz_s, slz_z, b_nm, setZ, asB_b, opz_dd, cpz_dd, dsOf_nil, dsOf_cons, biz_d, subz_dd, slz_dd, truthZ_d, boolZ_eq, isz, tyKnown, tyOk, bop, cop, truth, itemD, slcD, bid, LV_hot, LV_gv, gv, Option.map_some, Option.bind_some, eqv_ls, eqv_sl, eqv_ii, eqv_snone, eqv_nones, eqv_sbool, eqv_bools, eqv_sint, eqv_ints, eqv_stuple, eqv_tuples, eqv_slist, eqv_lists, eqv_tt, eqv_LL, eqvA_nn, eqvA_nc, eqvA_cn, eqvA_xn, eqvA_cc, okD_int, okD_bool, okD_lit, okD_nilT, okD_nilL, ofString_inj, atI_0, atI_1, atI_2, atI_3, flatD, inD, zi_b, zi_o, zi_a, okD_T, b_law_wagons_1, e3, q]
  rw [rng_len, Nat.zero_add] at hs
  refine ⟨s, M2, ?_, ⟨by have := hs.l; omega, hs.c⟩, d1.trans d2⟩
  have q1 : u < 4611686018427387904 ∧ -4611686018427387904 ≤ u := by omega
  rw [s_law_wagons]
  simp [evE, evEs, evAnd, evOr, evT, evTA, evTO, evC, evO, evI, evS, evSs, zb_ok, zb_ex, zb_bad, zb_of, zb_no, zt_ok, zt_ex, zt_bad, zc_ok, zc_bad, zo_nx, zo_rt, zo_ex, zo_bad, zf_nx, zf_rt, zf_ex, gz_z, gz_s, slz_z, b_nm, setZ, asB_b, opz_dd, cpz_dd, dsOf_nil, dsOf_cons, biz_d, subz_dd, slz_dd, truthZ_d, boolZ_eq, isz, tyKnown, tyOk, bop, cop, truth, itemD, slcD, bid, LV_hot, LV_gv, gv, Option.map_some, Option.bind_some, eqv_ls, eqv_sl, eqv_ii, eqv_snone, eqv_nones, eqv_sbool, eqv_bools, eqv_sint, eqv_ints, eqv_stuple, eqv_tuples, eqv_slist, eqv_lists, eqv_tt, eqv_LL, eqvA_nn, eqvA_nc, eqvA_cn, eqvA_xn, eqvA_cc, okD_int, okD_bool, okD_lit, okD_nilT, okD_nilL, ofString_inj, atI_0, atI_1, atI_2, atI_3, flatD, inD, zi_b, zi_o, zi_a, okD_T, d_law_wagons, e1, q1, e2]
theorem f_place (k n : Nat) (M : Mem) (h : Vt M n) : ∃ a b c M', (LV (k + 4)).fn false i_law_place [.r n] M = .ok (.d (.tuple [.str a, .str b, .str c])) M' ∧ Wg 4 a ∧ Wg 1 b ∧ Wg 1 c ∧ Dr n M M' := by
  obtain ⟨a, M1, e1, w1, d1⟩ := f_wagons k n 3 M h (by omega) (by omega)
  obtain ⟨b, M2, e2, w2, d2⟩ := f_wagons k n 1 M1 d1.v (by omega) (by omega)
  obtain ⟨c, M3, e3, w3, d3⟩ := f_wagons k n 1 M2 d2.v (by omega) (by omega)
  have wa : Wg 1 "a" := ⟨by decide +kernel, by
    have e : ("a" : Str).cps.toList = [97] := by decide +kernel
    rw [e]
    intro c hc
    simp at hc
    simp [hc]⟩
  have w4 := wa.app w1
  have q : Str.length "a" + a.length ≤ slen := by
    have := wa.l
    have := w1.l
    show _ ≤ 1000000
    omega
  refine ⟨"a" ++ a, b, c, M3, ?_, w4, w2, w3, d1.trans (d2.trans d3)⟩
  rw [s_law_place]
  simp [evE, evEs, evAnd, evOr, evT, evTA, evTO, evC, evO, evI, evS, evSs, zb_ok, zb_ex, zb_bad, zb_of, zb_no, zt_ok, zt_ex, zt_bad, zc_ok, zc_bad, zo_nx, zo_rt, zo_ex, zo_bad, zf_nx, zf_rt, zf_ex, gz_z, gz_s, slz_z, b_nm, setZ, asB_b, opz_dd, cpz_dd, dsOf_nil, dsOf_cons, biz_d, subz_dd, slz_dd, truthZ_d, boolZ_eq, isz, tyKnown, tyOk, bop, cop, truth, itemD, slcD, bid, LV_hot, LV_gv, gv, Option.map_some, Option.bind_some, eqv_ls, eqv_sl, eqv_ii, eqv_snone, eqv_nones, eqv_sbool, eqv_bools, eqv_sint, eqv_ints, eqv_stuple, eqv_tuples, eqv_slist, eqv_lists, eqv_tt, eqv_LL, eqvA_nn, eqvA_nc, eqvA_cn, eqvA_xn, eqvA_cc, okD_int, okD_bool, okD_lit, okD_nilT, okD_nilL, ofString_inj, atI_0, atI_1, atI_2, atI_3, flatD, inD, zi_b, zi_o, zi_a, okD_T, d_law_place, e1, e2, e3, q]
def lsum : List D := [.str "a", .str "b", .str "a", .str "b", .str "c", .str "p", .str "q", .str "r"]
/-- plain short texts -/
structure Sh (m : Nat) (s : Str) : Prop where
  o : PyData.strOk s = true
  a : asc s = true
  l : s.length ≤ m
theorem lsum_ok {x : D} (h : x ∈ lsum) : ∃ s, x = .str s ∧ Sh 1 s := by
  have t : lsum.all (fun d => match d with
    | .str s => PyData.strOk s && asc s && decide (s.length ≤ 1)
    | _ => false) = true := by decide +kernel
  have := List.all_eq_true.mp t x h
  cases x <;> simp at this
  rename_i s
  exact ⟨s, rfl, this.1.1, this.1.2, this.2⟩
theorem Sh.bt {m : Nat} {s : Str} (h : Sh m s) (hm : m ≤ 60) : Bt 0 1 (.str s) := ⟨h.o, h.a, by have := h.l; omega⟩
theorem intsOf_str {s : Str} {l : List Str} : intsOf (((s :: l)).map .str) = none := rfl
theorem f_sum (k n : Nat) (M : Mem) (h : Vt M n) : ∃ s M', (LV (k + 3)).fn false i_law_sum [.r n] M = .ok (.d (.str s)) M' ∧ Sh 3 s ∧ Vt M' n := by
  have hb0 : (M ++ [MO.lst []])[M.length]? = some (.lst []) := by simp
  have hn : n < M.length := by
    obtain ⟨a, b, e, _⟩ := h
    exact (List.getElem?_eq_some_iff.mp e).1
  have v0 : Vt (M ++ [MO.lst []]) n := by
    obtain ⟨a, b, e, g⟩ := h
    exact ⟨a, b, by rw [List.getElem?_append_left hn]; exact e, g⟩
  obtain ⟨u, M1, e1, u1, u2, d1⟩ := f_under (k + 1) n 3 (M ++ [MO.lst []]) v0 (by omega) (by omega)
  have hq : M.length ≠ n := by omega
  have hlen : (rngZ 0 (1 + u)).length ≤ 3 := by rw [rng_len]; omega
  obtain ⟨ρ, M2, e2, ⟨ws, s2, rfl, hw, hl, hM, d2⟩⟩ := for_inv (N := 3) (body := fun ρ' M' => evSs (LV (k + 2)) b_law_sum_1 ρ' M') (i := 2) (I := fun m ρ M' => ∃ (ws : List Str) (s2 : Sl), ρ = [.z (.r n), .z (.r M.length), s2] ∧ (∀ w ∈ ws, Sh 1 w) ∧ ws.length = m ∧ M'[M.length]? = some (.lst (ws.map .str)) ∧ Vt M' n) (rngZ 0 (1 + u)) [.z (.r n), .z (.r M.length), .no] M1 0 (by omega) ⟨[], .no, rfl, (by intro w hw; cases hw), rfl, (d1.o _ hq).trans hb0, d1.v⟩ fun z hz m ρ M' hm ⟨ws, s2, e, hs, hl, hM, v⟩ => by
    subst e
    obtain ⟨x, M3, e3, hx, d3⟩ := f_some k n lsum M' v (by decide) (by decide)
    obtain ⟨t, rfl, ht⟩ := lsum_ok hx
    unfold lsum at e3
    have g0 := (d3.o _ hq).trans hM
    have gl := getL_of g0
    have rv0 := rcvA hM
    have q2 : (ws.map PyData.str).length < slen := by rw [List.length_map]; show _ < 1000000; omega
    obtain ⟨a, b, hn, hab⟩ := d3.v
    refine ⟨[.z (.r n), .z (.r M.length), .z z], M3.set M.length (.lst (ws.map .str ++ [.str t])), ?_, ws ++ [t], .z z, rfl, ?_, by simp [hl], ?_, ⟨a, b, (List.getElem?_set_ne hq).trans hn, hab⟩⟩
    · simp at q2
      simp [evE, evEs, evAnd, evOr, evT, evTA, evTO, evC, evO, evI, evS, evSs, zb_ok, zb_ex, zb_bad, zb_of, zb_no, zt_ok, zt_ex, zt_bad, zc_ok, zc_bad, zo_nx, zo_rt, zo_ex, zo_bad, zf_nx, zf_rt, zf_ex, gz_z, gz_s, slz_z, b_nm, setZ, asB_b, opz_dd, cpz_dd, dsOf_nil, dsOf_cons, biz_d, subz_dd, slz_dd, truthZ_d, boolZ_eq, isz, tyKnown, tyOk, bop, cop, truth, itemD, slcD, bid, LV_hot, LV_gv, gv, Option.map_some, Option.bind_some, eqv_ls, eqv_sl, eqv_ii, eqv_snone, eqv_nones, eqv_sbool, eqv_bools, eqv_sint, eqv_ints, eqv_stuple, eqv_tuples, eqv_slist, eqv_lists, eqv_tt, eqv_LL, eqvA_nn, eqvA_nc, eqvA_cn, eqvA_xn, eqvA_cc, okD_int, okD_bool, okD_lit, okD_nilT, okD_nilL, ofString_inj, atI_0, atI_1, atI_2, atI_3, flatD, inD, zi_b, zi_o, zi_a, okD_T, b_law_sum_1, e3, rv0, mtz, gl, q2]
    · intro w hw
      rcases List.mem_append.mp hw with q | q
      · exact hs w q
      · rw [List.mem_singleton.mp q]; exact ht
    · rw [List.map_append]
      exact get_set g0
  rw [rng_len, Nat.zero_add] at hl
  obtain ⟨w, l, rfl⟩ : ∃ w l, ws = w :: l := by
    cases ws with
    | nil => simp at hl; omega
    | cons w l => exact ⟨w, l, rfl⟩
  have hS : ∀ x ∈ sortS (w :: l), Sh 1 x := fun x hx => hw x (sort_mem hx)
  have hSl : (sortS (w :: l)).length ≤ 3 := by rw [(sortS_perm _).length_eq, hl]; omega
  have p1 : biz .sorted [.r M.length] M2 = .ok (.d (.list ((sortS (w :: l)).map .str))) M2 := by
    unfold biz
    dsimp only
    rw [hM]
    show R.of ((bid .sorted [.list ((w :: l).map .str)]).map Z.d) M2 = _
    simp only [bid, intsOf_str, strsOf_strs]
    rw [if_pos (by rw [hl]; omega)]
    rfl
  have sm : ((sortS (w :: l)).map (·.length)).sum ≤ 3 := by
    have := sum_le (n := 1) (xs := (sortS (w :: l)).map (·.length)) fun x hx => by
      obtain ⟨y, hy, rfl⟩ := List.mem_map.mp hx
      exact (hS y hy).l
    rw [List.length_map] at this
    omega
  have z0 : Str.length "" = 0 := by decide +kernel
  have p2 : mtd .join (.str "") [.list ((sortS (w :: l)).map .str)] = some (.str (Txt.join "" (sortS (w :: l)))) := by
    simp only [mtd, strsOf_strs, Option.bind_some]
    rw [if_pos (by rw [z0]; show _ ≤ 1000000; omega)]
  refine ⟨Txt.join "" (sortS (w :: l)), M2, ?_, ⟨?_, ?_, ?_⟩, d2⟩
  · have q1 : 1 + u < 4611686018427387904 ∧ -4611686018427387904 ≤ 1 + u := by omega
    rw [s_law_sum]
    generalize (sortS (w :: l)).map PyData.str = S at *
    have p3 : mtz .join (.d (.str "")) [.d (.list S)] M2 = .ok (.d (.str (Txt.join "" (sortS (w :: l))))) M2 := by
      show R.of (((dsOf [.d (.list S)]).bind (mtd .join (.str ""))).map Z.d) M2 = _
      rw [dsOf_cons, dsOf_nil]
      show R.of ((mtd .join (.str "") [.list S]).map Z.d) M2 = _
      rw [p2]
      rfl
    generalize Txt.join "" (sortS (w :: l)) = J at *
    simp [evE, evEs, evAnd, evOr, evT, evTA, evTO, evC, evO, evI, evS, evSs, zb_ok, zb_ex, zb_bad, zb_of, zb_no, zt_ok, zt_ex, zt_bad, zc_ok, zc_bad, zo_nx, zo_rt, zo_ex, zo_bad, zf_nx, zf_rt, zf_ex, gz_z, gz_s, slz_z, b_nm, setZ, asB_b, opz_dd, cpz_dd, dsOf_nil, dsOf_cons, biz_d, subz_dd, slz_dd, truthZ_d, boolZ_eq, isz, tyKnown, tyOk, bop, cop, truth, itemD, slcD, bid, LV_hot, LV_gv, gv, Option.map_some, Option.bind_some, eqv_ls, eqv_sl, eqv_ii, eqv_snone, eqv_nones, eqv_sbool, eqv_bools, eqv_sint, eqv_ints, eqv_stuple, eqv_tuples, eqv_slist, eqv_lists, eqv_tt, eqv_LL, eqvA_nn, eqvA_nc, eqvA_cn, eqvA_xn, eqvA_cc, okD_int, okD_bool, okD_lit, okD_nilT, okD_nilL, ofString_inj, atI_0, atI_1, atI_2, atI_3, flatD, inD, zi_b, zi_o, zi_a, okD_T, d_law_sum, e1, q1, e2, p1, Bi.walks, rcv_join, p3]
  · rw [TL.join_eq]
    exact strOk_join (by decide +kernel) fun x hx => (hS x hx).o
  · rw [TL.join_eq]
    exact asc_join (by decide +kernel) fun x hx => (hS x hx).a
  · rw [TL.join_eq]
    have := StrLaws.join_length_le "" (sortS (w :: l))
    rw [z0] at this
    omega
end Lw
namespace Lw
open PySem Zt
theorem Bt.tup {n j : Nat} {xs : List D} (hl : xs.length ≤ 20 + n) (h : ∀ x ∈ xs, Bt n j x) : Bt n (j + 1) (.tuple xs) := ⟨hl, h⟩
theorem Bt.lst {n j : Nat} {xs : List D} (hl : xs.length ≤ 20 + n) (h : ∀ x ∈ xs, Bt n j x) : Bt n (j + 1) (.list xs) := ⟨hl, h⟩
def lkin : List D := [.str "less", .str "upto", .str "upto", .str "same"]
def btA : D → Bool
  | .none => true
  | .bool _ => true
  | .int i => decide (i.natAbs < 10 ^ 40)
  | .str s => PyData.strOk s && asc s && decide (s.length ≤ 60)
  | _ => false
theorem btA_ok {d : D} (h : btA d = true) : Bt 0 1 d := by
  cases d with
  | none => trivial
  | bool _ => trivial
  | int i =>
    have h : decide (i.natAbs < 10 ^ 40) = true := h
    exact (show i.natAbs < 10 ^ (40 + 0) from of_decide_eq_true h)
  | str s =>
    have h : (PyData.strOk s && asc s && decide (s.length ≤ 60)) = true := h
    rw [Bool.and_eq_true, Bool.and_eq_true] at h
    exact ⟨h.1.1, h.1.2, of_decide_eq_true h.2⟩
  | _ => cases h
/-- two levels by test -/
def btB : D → Bool
  | .tuple xs => decide (xs.length ≤ 20) && xs.all btA
  | .list xs => decide (xs.length ≤ 20) && xs.all btA
  | d => btA d
theorem btB_ok {d : D} (h : btB d = true) : Bt 0 2 d := by
  cases d with
  | tuple xs =>
    have h : (decide (xs.length ≤ 20) && xs.all btA) = true := h
    rw [Bool.and_eq_true] at h
    exact ⟨of_decide_eq_true h.1, fun x hx => btA_ok (List.all_eq_true.mp h.2 x hx)⟩
  | list xs =>
    have h : (decide (xs.length ≤ 20) && xs.all btA) = true := h
    rw [Bool.and_eq_true] at h
    exact ⟨of_decide_eq_true h.1, fun x hx => btA_ok (List.all_eq_true.mp h.2 x hx)⟩
  | _ => exact Bt.mono (Nat.le_refl 0) (by omega) (btA_ok h)
def btC : D → Bool
  | .tuple xs => decide (xs.length ≤ 20) && xs.all btB
  | .list xs => decide (xs.length ≤ 20) && xs.all btB
  | d => btA d
theorem btC_ok {d : D} (h : btC d = true) : Bt 0 3 d := by
  cases d with
  | tuple xs =>
    have h : (decide (xs.length ≤ 20) && xs.all btB) = true := h
    rw [Bool.and_eq_true] at h
    exact ⟨of_decide_eq_true h.1, fun x hx => btB_ok (List.all_eq_true.mp h.2 x hx)⟩
  | list xs =>
    have h : (decide (xs.length ≤ 20) && xs.all btB) = true := h
    rw [Bool.and_eq_true] at h
    exact ⟨of_decide_eq_true h.1, fun x hx => btB_ok (List.all_eq_true.mp h.2 x hx)⟩
  | _ => exact Bt.mono (Nat.le_refl 0) (by omega) (btA_ok h)
theorem lkin_ok : lkin.all btA = true := by decide +kernel
theorem f_fact (k n : Nat) (M : Mem) (h : Vt M n) : ∃ d M', (LV (k + 4)).fn false i_law_fact [.r n] M = .ok (.d d) M' ∧ Bt 0 2 d ∧ Vt M' n := by
  obtain ⟨x, M1, e1, hx, d1⟩ := f_some (k + 1) n lkin M h (by decide) (by decide)
  obtain ⟨a, M2, e2, ha, v2⟩ := f_sum k n M1 d1.v
  obtain ⟨b, M3, e3, hb, v3⟩ := f_sum k n M2 v2
  refine ⟨.tuple [x, .str a, .str b], M3, ?_, Bt.tup (by simp) fun y hy => ?_, v3⟩
  · rw [s_law_fact]
    unfold lkin at e1
    simp [evE, evEs, evAnd, evOr, evT, evTA, evTO, evC, evO, evI, evS, evSs, zb_ok, zb_ex, zb_bad, zb_of, zb_no, zt_ok, zt_ex, zt_bad, zc_ok, zc_bad, zo_nx, zo_rt, zo_ex, zo_bad, zf_nx, zf_rt, zf_ex, gz_z, gz_s, slz_z, b_nm, setZ, asB_b, opz_dd, cpz_dd, dsOf_nil, dsOf_cons, biz_d, subz_dd, slz_dd, truthZ_d, boolZ_eq, isz, tyKnown, tyOk, bop, cop, truth, itemD, slcD, bid, LV_hot, LV_gv, gv, Option.map_some, Option.bind_some, eqv_ls, eqv_sl, eqv_ii, eqv_snone, eqv_nones, eqv_sbool, eqv_bools, eqv_sint, eqv_ints, eqv_stuple, eqv_tuples, eqv_slist, eqv_lists, eqv_tt, eqv_LL, eqvA_nn, eqvA_nc, eqvA_cn, eqvA_xn, eqvA_cc, okD_int, okD_bool, okD_lit, okD_nilT, okD_nilL, ofString_inj, atI_0, atI_1, atI_2, atI_3, flatD, inD, zi_b, zi_o, zi_a, okD_T, d_law_fact, e1, e2, e3]
  · simp only [List.mem_cons, List.mem_nil_iff, or_false] at hy
    rcases hy with rfl | rfl | rfl
    · exact btA_ok (List.all_eq_true.mp lkin_ok _ hx)
    · exact ha.bt (by omega)
    · exact hb.bt (by omega)
theorem f_facts (k n : Nat) (M : Mem) (h : Vt M n) : ∃ xs M', (LV (k + 5)).fn false i_law_facts [.r n, .d (.int 6)] M = .ok (.d (.tuple xs)) M' ∧ Bt 0 3 (.tuple xs) ∧ Vt M' n := by
  obtain ⟨u, M1, e1, u1, u2, d1⟩ := f_under (k + 3) n 7 M h (by omega) (by omega)
  obtain ⟨ds, M2, e2, v2, p2, l⟩ := lc_draw (cond := fun _ M' => R.ok true M') (elt := fun ρ' M' => evE (LV (k + 4)) e_law_facts_1 ρ' M') (i := 2) (ρ := [.z (.r n), .z (.d (.int 6)), .no]) (I := fun M' => Vt M' n) (P := fun d => Bt 0 2 d) (fun _ _ => rfl) (rngZ 0 u) M1 d1.v fun z _ M' hI => by
    obtain ⟨x, M3, e3, hx, v3⟩ := f_fact k n M' hI
    exact ⟨x, M3, by simp [evE, evEs, evAnd, evOr, evT, evTA, evTO, evC, evO, evI, evS, evSs, zb_ok, zb_ex, zb_bad, zb_of, zb_no, zt_ok, zt_ex, zt_bad, zc_ok, zc_bad, zo_nx, zo_rt, zo_ex, zo_bad, zf_nx, zf_rt, zf_ex, gz_z, gz_s, slz_z, b_nm, setZ, asB_b, opz_dd, cpz_dd, dsOf_nil, dsOf_cons, biz_d, subz_dd, slz_dd, truthZ_d, boolZ_eq, isz, tyKnown, tyOk, bop, cop, truth, itemD, slcD, bid, LV_hot, LV_gv, gv, Option.map_some, Option.bind_some, eqv_ls, eqv_sl, eqv_ii, eqv_snone, eqv_nones, eqv_sbool, eqv_bools, eqv_sint, eqv_ints, eqv_stuple, eqv_tuples, eqv_slist, eqv_lists, eqv_tt, eqv_LL, eqvA_nn, eqvA_nc, eqvA_cn, eqvA_xn, eqvA_cc, okD_int, okD_bool, okD_lit, okD_nilT, okD_nilL, ofString_inj, atI_0, atI_1, atI_2, atI_3, flatD, inD, zi_b, zi_o, zi_a, okD_T, e_law_facts_1, e3], v3, hx⟩
  rw [rng_len] at l
  have q1 : u < 4611686018427387904 ∧ -4611686018427387904 ≤ u := by omega
  have q2 : u.toNat ≤ slen := by show _ ≤ 1000000; omega
  refine ⟨ds, M2, ?_, Bt.tup (by omega) p2, v2⟩
  rw [s_law_facts]
  simp [evE, evEs, evAnd, evOr, evT, evTA, evTO, evC, evO, evI, evS, evSs, zb_ok, zb_ex, zb_bad, zb_of, zb_no, zt_ok, zt_ex, zt_bad, zc_ok, zc_bad, zo_nx, zo_rt, zo_ex, zo_bad, zf_nx, zf_rt, zf_ex, gz_z, gz_s, slz_z, b_nm, setZ, asB_b, opz_dd, cpz_dd, dsOf_nil, dsOf_cons, biz_d, subz_dd, slz_dd, truthZ_d, boolZ_eq, isz, tyKnown, tyOk, bop, cop, truth, itemD, slcD, bid, LV_hot, LV_gv, gv, Option.map_some, Option.bind_some, eqv_ls, eqv_sl, eqv_ii, eqv_snone, eqv_nones, eqv_sbool, eqv_bools, eqv_sint, eqv_ints, eqv_stuple, eqv_tuples, eqv_slist, eqv_lists, eqv_tt, eqv_LL, eqvA_nn, eqvA_nc, eqvA_cn, eqvA_xn, eqvA_cc, okD_int, okD_bool, okD_lit, okD_nilT, okD_nilL, ofString_inj, atI_0, atI_1, atI_2, atI_3, flatD, inD, zi_b, zi_o, zi_a, okD_T, d_law_facts, Bi.walks, e1, q1, rng_len, q2, wipeE, e2]
theorem cut_3 {α : Type} {a b c : α} {t : List α} : cut (a :: b :: c :: t) none (some 3) = [a, b, c] := by
  unfold cut
  have e1 : HT.sIx (a :: b :: c :: t).length 0 none = 0 := rfl
  have e2 : HT.sIx (a :: b :: c :: t).length (a :: b :: c :: t).length (some 3) = 3 := by
    simp [HT.sIx]
    try omega
  rw [e1, e2]
  simp
def short5 : List Str := ["", "a", "b", "c", "A", "B"]
theorem wg1 {s : Str} (h : Wg 1 s) : s ∈ short5 := by
  obtain ⟨⟨l⟩⟩ := s
  have hl : l.length ≤ 1 := h.l
  have hc : ∀ c ∈ l, c ∈ [97, 98, 99, 65, 66] := h.c
  match l, hl, hc with
  | [], _, _ =>
    have e : (⟨#[]⟩ : Str) = "" := by decide +kernel
    rw [e]
    simp [short5]
  | [c], _, hc =>
    have m := hc c (by simp)
    have t : ([97, 98, 99, 65, 66] : List Nat).all (fun c => short5.contains (⟨#[c]⟩ : Str)) = true := by decide +kernel
    simpa using List.all_eq_true.mp t c m
theorem f_counts (k : Nat) (s : Str) (M : Mem) (h : s ∈ short5) : ∃ a b c t, (LV (k + 1)).fn false i_law_counts [.d (.str s)] M = .ok (.d (.list (.int a :: .int b :: .int c :: t))) M ∧ (0 ≤ a ∧ a ≤ 1) ∧ (0 ≤ b ∧ b ≤ 1) ∧ (0 ≤ c ∧ c ≤ 1) := by
  simp only [short5, List.mem_cons, List.mem_nil_iff, or_false] at h
  rcases h with rfl | rfl | rfl | rfl | rfl | rfl
  · exact ⟨0, 0, 0, [.int 0, .int 0, .int 0], by cases k <;> kernel_rfl, by omega, by omega, by omega⟩
  · exact ⟨1, 0, 0, [.int 0, .int 0, .int 0], by cases k <;> kernel_rfl, by omega, by omega, by omega⟩
  · exact ⟨0, 1, 0, [.int 0, .int 0, .int 0], by cases k <;> kernel_rfl, by omega, by omega, by omega⟩
  · exact ⟨0, 0, 1, [.int 0, .int 0, .int 0], by cases k <;> kernel_rfl, by omega, by omega, by omega⟩
  · exact ⟨1, 0, 0, [.int 0, .int 0, .int 0], by cases k <;> kernel_rfl, by omega, by omega, by omega⟩
  · exact ⟨0, 1, 0, [.int 0, .int 0, .int 0], by cases k <;> kernel_rfl, by omega, by omega, by omega⟩
theorem f_worth (k : Nat) (a b c x y z : Int) (M : Mem) (ha : 0 ≤ a ∧ a ≤ 1) (hb : 0 ≤ b ∧ b ≤ 1) (hc : 0 ≤ c ∧ c ≤ 1) (hx : 1 ≤ x ∧ x ≤ 6) (hy : 1 ≤ y ∧ y ≤ 6) (hz : 1 ≤ z ∧ z ≤ 6) : (LV (k + 1)).fn false i_law_worth [.d (.list [.int a, .int b, .int c]), .d (.tuple [.int x, .int y, .int z])] M = .ok (.d (.int (a * x + (b * y + (c * z + 0))))) M := by
  have p1 : bop .mul (.int a) (.int x) = some (.int (a * x)) := bmul (by omega) (by omega) (by omega) (by omega)
  have p2 : bop .mul (.int b) (.int y) = some (.int (b * y)) := bmul (by omega) (by omega) (by omega) (by omega)
  have p3 : bop .mul (.int c) (.int z) = some (.int (c * z)) := bmul (by omega) (by omega) (by omega) (by omega)
  have q : (3 : Nat) ≤ slen := by decide
  rw [s_law_worth]
  simp [evE, evEs, evAnd, evOr, evT, evTA, evTO, evC, evO, evI, evS, evSs, zb_ok, zb_ex, zb_bad, zb_of, zb_no, zt_ok, zt_ex, zt_bad, zc_ok, zc_bad, zo_nx, zo_rt, zo_ex, zo_bad, zf_nx, zf_rt, zf_ex, gz_z, gz_s, slz_z, b_nm, setZ, asB_b, opz_dd, cpz_dd, dsOf_nil, dsOf_cons, biz_d, subz_dd, slz_dd, truthZ_d, boolZ_eq, isz, tyKnown, tyOk, cop, truth, itemD, slcD, bid, LV_hot, LV_gv, gv, Option.map_some, Option.bind_some, eqv_ls, eqv_sl, eqv_ii, eqv_snone, eqv_nones, eqv_sbool, eqv_bools, eqv_sint, eqv_ints, eqv_stuple, eqv_tuples, eqv_slist, eqv_lists, eqv_tt, eqv_LL, eqvA_nn, eqvA_nc, eqvA_cn, eqvA_xn, eqvA_cc, okD_int, okD_bool, okD_lit, okD_nilT, okD_nilL, ofString_inj, atI_0, atI_1, atI_2, atI_3, flatD, inD, zi_b, zi_o, zi_a, okD_T, badd, bsub, bmod, bfdiv, bmul, d_law_worth, e_law_worth_1, seqOf, zipZ, q, lcL, bindT, setAll, wipeE, p1, p2, p3, Bi.walks, intsOf]
theorem mul01 {a x : Int} (ha : 0 ≤ a ∧ a ≤ 1) (hx : 1 ≤ x ∧ x ≤ 6) : 0 ≤ a * x ∧ a * x ≤ 6 := by
  have : a = 0 ∨ a = 1 := by omega
  rcases this with rfl | rfl <;> omega
def lmore : List D := [.int 0, .int 1, .int 2, .int 4, .int 7, .int 12]
theorem lmore_ok {d : D} (h : d ∈ lmore) : ∃ i : Int, d = .int i ∧ 0 ≤ i ∧ i ≤ 12 := by
  simp only [lmore, List.mem_cons, List.mem_nil_iff, or_false] at h
  rcases h with rfl | rfl | rfl | rfl | rfl | rfl <;> exact ⟨_, rfl, by omega, by omega⟩
theorem size_turn (k n : Nat) (x y z : Int) (t : List D) (s : Str) (a1 s4 a5 a6 : Sl) (M : Mem) (h : Vt M n) (hs : Wg 1 s) (hx : 1 ≤ x ∧ x ≤ 6) (hy : 1 ≤ y ∧ y ≤ 6) (hz : 1 ≤ z ∧ z ≤ 6) (ht : t.length ≤ 10) : ∃ (p : Int) (s4' : Sl) (M' : Mem), evSs (LV (k + 2)) b_law_sizes_1 [.z (.r n), a1, .z (.d (.tuple (.int x :: .int y :: .int z :: t))), .z (.d (.str s)), s4, a5, a6] M = .nx [.z (.r n), a1, .z (.d (.tuple (.int x :: .int y :: .int z :: (t ++ [.int p])))), .z (.d (.str s)), s4', a5, a6] M' ∧ (0 ≤ p ∧ p ≤ 30) ∧ Vt M' n := by
  obtain ⟨d, M1, e1, hd, d1⟩ := f_some k n lmore M h (by decide) (by decide)
  obtain ⟨i, rfl, i1, i2⟩ := lmore_ok hd
  obtain ⟨a, b, c, r, e2, ha, hb, hc⟩ := f_counts (k + 1) s M1 (wg1 hs)
  have e3 := f_worth (k + 1) a b c x y z M1 ha hb hc hx hy hz
  have m1 := mul01 ha hx
  have m2 := mul01 hb hy
  have m3 := mul01 hc hz
  refine ⟨i + (a * x + (b * y + (c * z + 0))), .z (.d (.int i)), M1, ?_, by omega, d1.v⟩
  unfold lmore at e1
  have q : t.length + 1 + 1 + 1 + 1 ≤ slen := by show _ ≤ 1000000; omega
  have e3 := f_worth (k + 1) a b c x y z M1 ha hb hc hx hy hz
  simp [evE, evEs, evAnd, evOr, evT, evTA, evTO, evC, evO, evI, evS, evSs, zb_ok, zb_ex, zb_bad, zb_of, zb_no, zt_ok, zt_ex, zt_bad, zc_ok, zc_bad, zo_nx, zo_rt, zo_ex, zo_bad, zf_nx, zf_rt, zf_ex, gz_z, gz_s, slz_z, b_nm, setZ, asB_b, opz_dd, cpz_dd, dsOf_nil, dsOf_cons, biz_d, subz_dd, slz_dd, truthZ_d, boolZ_eq, isz, tyKnown, tyOk, bop, cop, truth, itemD, slcD, bid, LV_hot, LV_gv, gv, Option.map_some, Option.bind_some, eqv_ls, eqv_sl, eqv_ii, eqv_snone, eqv_nones, eqv_sbool, eqv_bools, eqv_sint, eqv_ints, eqv_stuple, eqv_tuples, eqv_slist, eqv_lists, eqv_tt, eqv_LL, eqvA_nn, eqvA_nc, eqvA_cn, eqvA_xn, eqvA_cc, okD_int, okD_bool, okD_lit, okD_nilT, okD_nilL, ofString_inj, atI_0, atI_1, atI_2, atI_3, flatD, inD, zi_b, zi_o, zi_a, okD_T, b_law_sizes_1, e1, e2, cut_3, e3, q]
theorem f_sizes (k n : Nat) (a b c : Str) (M : Mem) (h : Vt M n) (hb : Wg 1 b) (hc : Wg 1 c) : ∃ xs M', (LV (k + 3)).fn false i_law_sizes [.r n, .d (.tuple [.str a, .str b, .str c])] M = .ok (.d (.tuple xs)) M' ∧ Bt 0 2 (.tuple xs) ∧ Vt M' n := by
  obtain ⟨ds, M1, e1, v1, p1, l1⟩ := lc_draw (cond := fun _ M' => R.ok true M') (elt := fun ρ' M' => evE (LV (k + 2)) e_law_sizes_1 ρ' M') (i := 5) (ρ := [.z (.r n), .z (.d (.tuple [.str a, .str b, .str c])), .no, .no, .no, .no, .no]) (I := fun M' => Vt M' n) (P := fun d => ∃ i : Int, d = .int i ∧ 1 ≤ i ∧ i ≤ 6) (fun _ _ => rfl) (rngZ 0 3) M h fun z _ M' hI => by
    obtain ⟨u, M3, e3, u1, u2, d3⟩ := f_under (k + 1) n 6 M' hI (by omega) (by omega)
    exact ⟨.int (1 + u), M3, by simp [evE, evEs, evAnd, evOr, evT, evTA, evTO, evC, evO, evI, evS, evSs, zb_ok, zb_ex, zb_bad, zb_of, zb_no, zt_ok, zt_ex, zt_bad, zc_ok, zc_bad, zo_nx, zo_rt, zo_ex, zo_bad, zf_nx, zf_rt, zf_ex, gz_z, gz_s, slz_z, b_nm, setZ, asB_b, opz_dd, cpz_dd, dsOf_nil, dsOf_cons, biz_d, subz_dd, slz_dd, truthZ_d, boolZ_eq, isz, tyKnown, tyOk, bop, cop, truth, itemD, slcD, bid, LV_hot, LV_gv, gv, Option.map_some, Option.bind_some, eqv_ls, eqv_sl, eqv_ii, eqv_snone, eqv_nones, eqv_sbool, eqv_bools, eqv_sint, eqv_ints, eqv_stuple, eqv_tuples, eqv_slist, eqv_lists, eqv_tt, eqv_LL, eqvA_nn, eqvA_nc, eqvA_cn, eqvA_xn, eqvA_cc, okD_int, okD_bool, okD_lit, okD_nilT, okD_nilL, ofString_inj, atI_0, atI_1, atI_2, atI_3, flatD, inD, zi_b, zi_o, zi_a, okD_T, e_law_sizes_1, e3], d3.v, 1 + u, rfl, by omega, by omega⟩
  have l1 : ds.length = 3 := l1
  match ds, l1, p1, e1 with
  | [d1, d2, d3], _, p1, e1 =>
    obtain ⟨x, rfl, hx⟩ := p1 d1 (by simp)
    obtain ⟨y, rfl, hy⟩ := p1 d2 (by simp)
    obtain ⟨z, rfl, hz⟩ := p1 d3 (by simp)
    obtain ⟨p, s4, M2, e2, hp, v2⟩ := size_turn k n x y z [] b (.z (.d (.tuple [.str a, .str b, .str c]))) .no .no .no M1 v1 hb hx hy hz (by simp)
    obtain ⟨q, s4', M3, e3, hq, v3⟩ := size_turn k n x y z [.int p] c (.z (.d (.tuple [.str a, .str b, .str c]))) s4 .no .no M2 v2 hc hx hy hz (by simp)
    obtain ⟨u, M4, e4, u1, u2, d4⟩ := f_under (k + 1) n 14 M3 v3 (by omega) (by omega)
    simp only [List.nil_append, List.cons_append] at e2 e3
    have e5 : lcL (fun ρ' M' => R.ok true M') (fun ρ' M' => evE (LV (k + 2)) e_law_sizes_2 ρ' M') (.nm 6) [.z (.r n), .z (.d (.tuple [.str a, .str b, .str c])), .z (.d (.tuple [.int x, .int y, .int z, .int p, .int q, .int (1 + u)])), .z (.d (.str c)), s4', .no, .no] (([.int x, .int y, .int z, .int p, .int q, .int (1 + u)] : List D).map .d) M4 = .ok ((([.int x, .int y, .int z, .int p, .int q, .int (1 + u)] : List D).filter fun _ => true).map fun d => match d with
      | PyData.int i => PyData.int (if i > 1 then i else 1)
      | d => d) M4 := by
      refine lc_pure _ (fun d hd => rfl) (fun d hd _ => ?_)
      simp only [List.mem_cons, List.mem_nil_iff, or_false] at hd
      rcases hd with rfl | rfl | rfl | rfl | rfl | rfl <;> simp [evE, evEs, evAnd, evOr, evT, evTA, evTO, evC, evO, evI, evS, evSs, zb_ok, zb_ex, zb_bad, zb_of, zb_no, zt_ok, zt_ex, zt_bad, zc_ok, zc_bad, zo_nx, zo_rt, zo_ex, zo_bad, zf_nx, zf_rt, zf_ex, gz_z, gz_s, slz_z, b_nm, setZ, asB_b, opz_dd, cpz_dd, dsOf_nil, dsOf_cons, biz_d, subz_dd, slz_dd, truthZ_d, boolZ_eq, isz, tyKnown, tyOk, bop, cop, truth, itemD, slcD, bid, LV_hot, LV_gv, gv, Option.map_some, Option.bind_some, eqv_ls, eqv_sl, eqv_ii, eqv_snone, eqv_nones, eqv_sbool, eqv_bools, eqv_sint, eqv_ints, eqv_stuple, eqv_tuples, eqv_slist, eqv_lists, eqv_tt, eqv_LL, eqvA_nn, eqvA_nc, eqvA_cn, eqvA_xn, eqvA_cc, okD_int, okD_bool, okD_lit, okD_nilT, okD_nilL, ofString_inj, atI_0, atI_1, atI_2, atI_3, flatD, inD, zi_b, zi_o, zi_a, okD_T, e_law_sizes_2, Bi.walks]
    simp only [List.filter_cons, if_true, List.filter_nil, List.map_cons, List.map_nil] at e5
    refine ⟨[.int (if x > 1 then x else 1), .int (if y > 1 then y else 1), .int (if z > 1 then z else 1), .int (if p > 1 then p else 1), .int (if q > 1 then q else 1), .int (if 1 + u > 1 then 1 + u else 1)], M4, ?_, Bt.tup (by simp) fun d hd => ?_, d4.v⟩
    · have c1 : cut [PyData.str a, .str b, .str c] (some 1) none = [.str b, .str c] := cut_1
      have r3 : (rngZ 0 3).length ≤ slen := by rw [rng_len]; decide
      have q6 : (6 : Nat) ≤ slen := by decide
      rw [s_law_sizes]
      simp only [gt_iff_lt] at e5 ⊢
      simp [evE, evEs, evAnd, evOr, evT, evTA, evTO, evC, evO, evI, evS, evSs, zb_ok, zb_ex, zb_bad, zb_of, zb_no, zt_ok, zt_ex, zt_bad, zc_ok, zc_bad, zo_nx, zo_rt, zo_ex, zo_bad, zf_nx, zf_rt, zf_ex, gz_z, gz_s, slz_z, b_nm, setZ, asB_b, opz_dd, cpz_dd, dsOf_nil, dsOf_cons, biz_d, subz_dd, slz_dd, truthZ_d, boolZ_eq, isz, tyKnown, tyOk, bop, cop, truth, itemD, slcD, bid, LV_hot, LV_gv, gv, Option.map_some, Option.bind_some, eqv_ls, eqv_sl, eqv_ii, eqv_snone, eqv_nones, eqv_sbool, eqv_bools, eqv_sint, eqv_ints, eqv_stuple, eqv_tuples, eqv_slist, eqv_lists, eqv_tt, eqv_LL, eqvA_nn, eqvA_nc, eqvA_cn, eqvA_xn, eqvA_cc, okD_int, okD_bool, okD_lit, okD_nilT, okD_nilL, ofString_inj, atI_0, atI_1, atI_2, atI_3, flatD, inD, zi_b, zi_o, zi_a, okD_T, d_law_sizes, Bi.walks, wipeE, r3, e1, c1, itH, itemsOf, for_cons, for_nil, e2, e3, e4, e5, q6]
    · simp only [List.mem_cons, List.mem_nil_iff, or_false] at hd
      have big : (100 : Nat) < 10 ^ 40 := by decide
      have sm : ∀ i : Int, -1 ≤ i → i ≤ 40 → Bt 0 1 (.int (if i > 1 then i else 1)) := fun i h1 h2 => by
        show (if i > 1 then i else 1).natAbs < 10 ^ (40 + 0)
        refine Nat.lt_trans ?_ big
        split <;> omega
      rcases hd with rfl | rfl | rfl | rfl | rfl | rfl <;> exact sm _ (by omega) (by omega)
end Lw
namespace Lw
open PySem Zt
def oddL : List D := [.none, .bool true, .bool false, .int 0, .int 1, .int 8, .int 9, .int (-1), .int 10000000000000000000000000000000, .str "", .str "a", .str "ab", .str "ba", .str "abC", .str "p", .str "pq", .str "turn", .tuple [], .list [], .tuple [.str "turn"], .tuple [.str "turns"], .tuple [.str "fill", .str "p"], .tuple [.str "rake", .int 2], .tuple [.str "ab", .str "", .str ""], .tuple [.str "less", .str "a", .str "b"], .tuple [.int 1, .int 1, .int 1, .int 1, .int 1, .int 1]]
/-- an odd value -/
structure OdOk (j : Nat) (d : D) : Prop where
  o : dOk (j + 1) d
  t : ∀ s, d = .str s → TxOk 4 s
def odB (d : D) : Bool := PyData.canLay0 d && decide (PyData.depth d ≤ 1) && (match d with
  | .str s => PyData.strOk s && decide (s.length ≤ 4)
  | _ => true)
theorem odd_all : oddL.all odB = true := by decide +kernel
theorem odd_ok {j : Nat} {d : D} (h : d ∈ oddL) : OdOk j d := by
  have := List.all_eq_true.mp odd_all d h
  unfold odB at this
  rw [Bool.and_eq_true, Bool.and_eq_true] at this
  have h2 := of_decide_eq_true this.1.2
  refine ⟨⟨this.1.1, by omega⟩, fun s e => ?_⟩
  subst e
  have h3 := this.2
  simp only [Bool.and_eq_true, decide_eq_true_eq] at h3
  exact ⟨h3.1, h3.2⟩
theorem odd_list (k n : Nat) (z : D) (M : Mem) : ∀ (f : Zt.Env → Mem → O), ((evS (LV k) (.asg (.nm 2) (.lst (.cons .kn (.cons (.kb true) (.cons (.kb false) (.cons (.ki 0) (.cons (.ki 1) (.cons (.ki 8) (.cons (.ki 9) (.cons (.neg (.ki 1)) (.cons (.bin .pow (.ki 10) (.ki 31)) (.cons (.ks "") (.cons (.ks "a") (.cons (.ks "ab") (.cons (.ks "ba") (.cons (.ks "abC") (.cons (.ks "p") (.cons (.ks "pq") (.cons (.ks "turn") (.cons (.tup .nil) (.cons (.lst .nil) .nil))))))))))))))))))))) [.z (.r n), .z (.d z), .no, .no, .no] M).bind fun ρ M' => (evS (LV k) (.asg (.nm 2) (.bin .add (.v 2) (.lst (.cons (.tup (.cons (.ks "turn") .nil)) (.cons (.tup (.cons (.ks "turns") .nil)) (.cons (.tup (.cons (.ks "fill") (.cons (.ks "p") .nil))) (.cons (.tup (.cons (.ks "rake") (.cons (.ki 2) .nil))) (.cons (.tup (.cons (.ks "ab") (.cons (.ks "") (.cons (.ks "") .nil)))) (.cons (.tup (.cons (.ks "less") (.cons (.ks "a") (.cons (.ks "b") .nil)))) (.cons (.bin .mul (.tup (.cons (.ki 1) .nil)) (.ki 6)) .nil)))))))))) ρ M').bind f) = f [.z (.r n), .z (.d z), .z (.d (.list oddL)), .no, .no] M := fun f => by
  have p1 : bop .pow (.int 10) (.int 31) = some (.int 10000000000000000000000000000000) := by rfl
  have p2 : bop .mul (.tuple [.int 1]) (.int 6) = some (.tuple [.int 1, .int 1, .int 1, .int 1, .int 1, .int 1]) := by rfl
  have p3 : bop .add (.list (oddL.take 19)) (.list (oddL.drop 19)) = some (.list oddL) := by rfl
  unfold oddL at p3
  simp only [List.take, List.drop] at p3
  simp [evE, evEs, evAnd, evOr, evT, evTA, evTO, evC, evO, evI, evS, evSs, zb_ok, zb_ex, zb_bad, zb_of, zb_no, zt_ok, zt_ex, zt_bad, zc_ok, zc_bad, zo_nx, zo_rt, zo_ex, zo_bad, zf_nx, zf_rt, zf_ex, gz_z, gz_s, slz_z, b_nm, setZ, asB_b, opz_dd, cpz_dd, dsOf_nil, dsOf_cons, biz_d, subz_dd, slz_dd, truthZ_d, boolZ_eq, isz, tyKnown, tyOk, cop, truth, itemD, slcD, bid, LV_hot, LV_gv, gv, Option.map_some, Option.bind_some, eqv_ls, eqv_sl, eqv_ii, eqv_snone, eqv_nones, eqv_sbool, eqv_bools, eqv_sint, eqv_ints, eqv_stuple, eqv_tuples, eqv_slist, eqv_lists, eqv_tt, eqv_LL, eqvA_nn, eqvA_nc, eqvA_cn, eqvA_xn, eqvA_cc, okD_int, okD_bool, okD_lit, okD_nilT, okD_nilL, ofString_inj, atI_0, atI_1, atI_2, atI_3, flatD, inD, zi_b, zi_o, zi_a, okD_T, badd, bsub, bmod, bfdiv, bmul, p1, p2]
  rw [p3]
  simp [evE, evEs, evAnd, evOr, evT, evTA, evTO, evC, evO, evI, evS, evSs, zb_ok, zb_ex, zb_bad, zb_of, zb_no, zt_ok, zt_ex, zt_bad, zc_ok, zc_bad, zo_nx, zo_rt, zo_ex, zo_bad, zf_nx, zf_rt, zf_ex, gz_z, gz_s, slz_z, b_nm, setZ, asB_b, opz_dd, cpz_dd, dsOf_nil, dsOf_cons, biz_d, subz_dd, slz_dd, truthZ_d, boolZ_eq, isz, tyKnown, tyOk, cop, truth, itemD, slcD, bid, LV_hot, LV_gv, gv, Option.map_some, Option.bind_some, eqv_ls, eqv_sl, eqv_ii, eqv_snone, eqv_nones, eqv_sbool, eqv_bools, eqv_sint, eqv_ints, eqv_stuple, eqv_tuples, eqv_slist, eqv_lists, eqv_tt, eqv_LL, eqvA_nn, eqvA_nc, eqvA_cn, eqvA_xn, eqvA_cc, okD_int, okD_bool, okD_lit, okD_nilT, okD_nilL, ofString_inj, atI_0, atI_1, atI_2, atI_3, flatD, inD, zi_b, zi_o, zi_a, okD_T, badd, bsub, bmod, bfdiv, bmul, oddL]
theorem odd_low (k n : Nat) (j : Int) (hj : j = 0) (M : Mem) (h : Vt M n) (m : Nat) : ∃ x M', (LV (k + 3)).fn false i_law_odd [.r n, .d (.int j)] M = .ok (.d x) M' ∧ OdOk m x ∧ Dr n M M' := by
  obtain ⟨x, M', e, hx, d⟩ := f_some k n oddL M h (by decide) (by decide)
  refine ⟨x, M', ?_, odd_ok hx, d⟩
  subst hj
  rw [s_law_odd]
  have L := fun f => odd_list (k + 2) n (.int 0) M f
  unfold d_law_odd
  simp only [evSs]
  rw [L]
  simp [evE, evEs, evAnd, evOr, evT, evTA, evTO, evC, evO, evI, evS, evSs, zb_ok, zb_ex, zb_bad, zb_of, zb_no, zt_ok, zt_ex, zt_bad, zc_ok, zc_bad, zo_nx, zo_rt, zo_ex, zo_bad, zf_nx, zf_rt, zf_ex, gz_z, gz_s, slz_z, b_nm, setZ, asB_b, opz_dd, cpz_dd, dsOf_nil, dsOf_cons, biz_d, subz_dd, slz_dd, truthZ_d, boolZ_eq, isz, tyKnown, tyOk, bop, cop, truth, itemD, slcD, bid, LV_hot, LV_gv, gv, Option.map_some, Option.bind_some, eqv_ls, eqv_sl, eqv_ii, eqv_snone, eqv_nones, eqv_sbool, eqv_bools, eqv_sint, eqv_ints, eqv_stuple, eqv_tuples, eqv_slist, eqv_lists, eqv_tt, eqv_LL, eqvA_nn, eqvA_nc, eqvA_cn, eqvA_xn, eqvA_cc, okD_int, okD_bool, okD_lit, okD_nilT, okD_nilL, ofString_inj, atI_0, atI_1, atI_2, atI_3, flatD, inD, zi_b, zi_o, zi_a, okD_T, e]
theorem odd_step (k n m : Nat) (j : Int) (hj : j ≠ 0) (M : Mem) (h : Vt M n) (low : ∀ M, Vt M n → ∃ x M', (LV (k + 3)).fn false i_law_odd [.r n, .d (.int (j - 1))] M = .ok (.d x) M' ∧ OdOk m x ∧ Dr n M M') : ∃ x M', (LV (k + 4)).fn false i_law_odd [.r n, .d (.int j)] M = .ok (.d x) M' ∧ OdOk (m + 1) x ∧ Dr n M M' := by
  obtain ⟨u, M1, e1, u1, u2, d1⟩ := f_under (k + 2) n 9 M h (by omega) (by omega)
  rw [s_law_odd]
  have L := fun f => odd_list (k + 3) n (.int j) M f
  by_cases h6 : u < 6
  · obtain ⟨x, M', e, hx, d⟩ := f_some (k + 1) n oddL M1 d1.v (by decide) (by decide)
    refine ⟨x, M', ?_, odd_ok hx, d1.trans d⟩
    unfold d_law_odd
    simp only [evSs]
    rw [L]
    simp [evE, evEs, evAnd, evOr, evT, evTA, evTO, evC, evO, evI, evS, evSs, zb_ok, zb_ex, zb_bad, zb_of, zb_no, zt_ok, zt_ex, zt_bad, zc_ok, zc_bad, zo_nx, zo_rt, zo_ex, zo_bad, zf_nx, zf_rt, zf_ex, gz_z, gz_s, slz_z, b_nm, setZ, asB_b, opz_dd, cpz_dd, dsOf_nil, dsOf_cons, biz_d, subz_dd, slz_dd, truthZ_d, boolZ_eq, isz, tyKnown, tyOk, bop, cop, truth, itemD, slcD, bid, LV_hot, LV_gv, gv, Option.map_some, Option.bind_some, eqv_ls, eqv_sl, eqv_ii, eqv_snone, eqv_nones, eqv_sbool, eqv_bools, eqv_sint, eqv_ints, eqv_stuple, eqv_tuples, eqv_slist, eqv_lists, eqv_tt, eqv_LL, eqvA_nn, eqvA_nc, eqvA_cn, eqvA_xn, eqvA_cc, okD_int, okD_bool, okD_lit, okD_nilT, okD_nilL, ofString_inj, atI_0, atI_1, atI_2, atI_3, flatD, inD, zi_b, zi_o, zi_a, okD_T, e, e1, hj, h6]
  · obtain ⟨w, M2, e2, w1, w2, d2⟩ := f_under (k + 2) n 4 M1 d1.v (by omega) (by omega)
    obtain ⟨ds, M3, e3, i3, p3, l⟩ := lc_draw (cond := fun _ M' => R.ok true M') (elt := fun ρ' M' => evE (LV (k + 3)) e_law_odd_1 ρ' M') (i := 4) (ρ := [.z (.r n), .z (.d (.int j)), .z (.d (.list oddL)), .no, .no]) (I := fun M' => Dr n M2 M') (P := OdOk m) (fun _ _ => rfl) (rngZ 0 w) M2 (Dr.refl d2.v) fun z _ M' hI => by
      obtain ⟨x, M4, e4, hx, d4⟩ := low M' hI.v
      exact ⟨x, M4, by simp [evE, evEs, evAnd, evOr, evT, evTA, evTO, evC, evO, evI, evS, evSs, zb_ok, zb_ex, zb_bad, zb_of, zb_no, zt_ok, zt_ex, zt_bad, zc_ok, zc_bad, zo_nx, zo_rt, zo_ex, zo_bad, zf_nx, zf_rt, zf_ex, gz_z, gz_s, slz_z, b_nm, setZ, asB_b, opz_dd, cpz_dd, dsOf_nil, dsOf_cons, biz_d, subz_dd, slz_dd, truthZ_d, boolZ_eq, isz, tyKnown, tyOk, bop, cop, truth, itemD, slcD, bid, LV_hot, LV_gv, gv, Option.map_some, Option.bind_some, eqv_ls, eqv_sl, eqv_ii, eqv_snone, eqv_nones, eqv_sbool, eqv_bools, eqv_sint, eqv_ints, eqv_stuple, eqv_tuples, eqv_slist, eqv_lists, eqv_tt, eqv_LL, eqvA_nn, eqvA_nc, eqvA_cn, eqvA_xn, eqvA_cc, okD_int, okD_bool, okD_lit, okD_nilT, okD_nilL, ofString_inj, atI_0, atI_1, atI_2, atI_3, flatD, inD, zi_b, zi_o, zi_a, okD_T, e_law_odd_1, e4], hI.trans d4, hx⟩
    rw [rng_len] at l
    have q1 : w < 4611686018427387904 ∧ -4611686018427387904 ≤ w := by omega
    have q2 : w.toNat ≤ slen := by show _ ≤ 1000000; omega
    obtain ⟨t, M4, e4, t1, t2, d4⟩ := f_under (k + 2) n 3 M3 i3.v (by omega) (by omega)
    have o1 : dOk (m + 2) (.list ds) := dOk_list.mpr fun x hx => (p3 x hx).o
    have o2 : dOk (m + 2) (.tuple ds) := dOk_tuple.mpr fun x hx => (p3 x hx).o
    by_cases ht : t = 0
    · refine ⟨.list ds, M4, ?_, ⟨o1, fun s e => by cases e⟩, d1.trans (d2.trans (i3.trans d4))⟩
      unfold d_law_odd
      simp only [evSs]
      rw [L]
      simp [evE, evEs, evAnd, evOr, evT, evTA, evTO, evC, evO, evI, evS, evSs, zb_ok, zb_ex, zb_bad, zb_of, zb_no, zt_ok, zt_ex, zt_bad, zc_ok, zc_bad, zo_nx, zo_rt, zo_ex, zo_bad, zf_nx, zf_rt, zf_ex, gz_z, gz_s, slz_z, b_nm, setZ, asB_b, opz_dd, cpz_dd, dsOf_nil, dsOf_cons, biz_d, subz_dd, slz_dd, truthZ_d, boolZ_eq, isz, tyKnown, tyOk, bop, cop, truth, itemD, slcD, bid, LV_hot, LV_gv, gv, Option.map_some, Option.bind_some, eqv_ls, eqv_sl, eqv_ii, eqv_snone, eqv_nones, eqv_sbool, eqv_bools, eqv_sint, eqv_ints, eqv_stuple, eqv_tuples, eqv_slist, eqv_lists, eqv_tt, eqv_LL, eqvA_nn, eqvA_nc, eqvA_cn, eqvA_xn, eqvA_cc, okD_int, okD_bool, okD_lit, okD_nilT, okD_nilL, ofString_inj, atI_0, atI_1, atI_2, atI_3, flatD, inD, zi_b, zi_o, zi_a, okD_T, e1, hj, h6, e2, q1, rng_len, q2, wipeE, e3, e4, ht]
    · refine ⟨.tuple ds, M4, ?_, ⟨o2, fun s e => by cases e⟩, d1.trans (d2.trans (i3.trans d4))⟩
      unfold d_law_odd
      simp only [evSs]
      rw [L]
      simp [evE, evEs, evAnd, evOr, evT, evTA, evTO, evC, evO, evI, evS, evSs, zb_ok, zb_ex, zb_bad, zb_of, zb_no, zt_ok, zt_ex, zt_bad, zc_ok, zc_bad, zo_nx, zo_rt, zo_ex, zo_bad, zf_nx, zf_rt, zf_ex, gz_z, gz_s, slz_z, b_nm, setZ, asB_b, opz_dd, cpz_dd, dsOf_nil, dsOf_cons, biz_d, subz_dd, slz_dd, truthZ_d, boolZ_eq, isz, tyKnown, tyOk, bop, cop, truth, itemD, slcD, bid, LV_hot, LV_gv, gv, Option.map_some, Option.bind_some, eqv_ls, eqv_sl, eqv_ii, eqv_snone, eqv_nones, eqv_sbool, eqv_bools, eqv_sint, eqv_ints, eqv_stuple, eqv_tuples, eqv_slist, eqv_lists, eqv_tt, eqv_LL, eqvA_nn, eqvA_nc, eqvA_cn, eqvA_xn, eqvA_cc, okD_int, okD_bool, okD_lit, okD_nilT, okD_nilL, ofString_inj, atI_0, atI_1, atI_2, atI_3, flatD, inD, zi_b, zi_o, zi_a, okD_T, e1, hj, h6, e2, q1, rng_len, q2, wipeE, e3, e4, ht, Bi.walks]
theorem f_odd (k n : Nat) (M : Mem) (h : Vt M n) : ∃ x M', (LV (k + 5)).fn false i_law_odd [.r n, .d (.int 2)] M = .ok (.d x) M' ∧ OdOk 2 x ∧ Dr n M M' := by
  refine odd_step (k + 1) n 1 2 (by omega) M h fun M h => ?_
  exact odd_step k n 0 (2 - 1) (by omega) M h fun M h => odd_low k n (2 - 1 - 1) (by omega) M h 0
end Lw
namespace Lw
open PySem Zt
theorem odd_btB : oddL.all btB = true := by decide +kernel
theorem bodd_low (k n : Nat) (j : Int) (hj : j = 0) (M : Mem) (h : Vt M n) : ∃ x M', (LV (k + 3)).fn false i_law_odd [.r n, .d (.int j)] M = .ok (.d x) M' ∧ Bt 0 2 x ∧ Dr n M M' := by
  obtain ⟨x, M', e, hx, d⟩ := f_some k n oddL M h (by decide) (by decide)
  refine ⟨x, M', ?_, btB_ok (List.all_eq_true.mp odd_btB x hx), d⟩
  subst hj
  rw [s_law_odd]
  have L := fun f => odd_list (k + 2) n (.int 0) M f
  unfold d_law_odd
  simp only [evSs]
  rw [L]
  simp [evE, evEs, evAnd, evOr, evT, evTA, evTO, evC, evO, evI, evS, evSs, zb_ok, zb_ex, zb_bad, zb_of, zb_no, zt_ok, zt_ex, zt_bad, zc_ok, zc_bad, zo_nx, zo_rt, zo_ex, zo_bad, zf_nx, zf_rt, zf_ex, gz_z, gz_s, slz_z, b_nm, setZ, asB_b, opz_dd, cpz_dd, dsOf_nil, dsOf_cons, biz_d, subz_dd, slz_dd, truthZ_d, boolZ_eq, isz, tyKnown, tyOk, bop, cop, truth, itemD, slcD, bid, LV_hot, LV_gv, gv, Option.map_some, Option.bind_some, eqv_ls, eqv_sl, eqv_ii, eqv_snone, eqv_nones, eqv_sbool, eqv_bools, eqv_sint, eqv_ints, eqv_stuple, eqv_tuples, eqv_slist, eqv_lists, eqv_tt, eqv_LL, eqvA_nn, eqvA_nc, eqvA_cn, eqvA_xn, eqvA_cc, okD_int, okD_bool, okD_lit, okD_nilT, okD_nilL, ofString_inj, atI_0, atI_1, atI_2, atI_3, flatD, inD, zi_b, zi_o, zi_a, okD_T, e]
theorem bodd_step (k n m : Nat) (j : Int) (hj : j ≠ 0) (hm : 2 ≤ m) (M : Mem) (h : Vt M n) (low : ∀ M, Vt M n → ∃ x M', (LV (k + 3)).fn false i_law_odd [.r n, .d (.int (j - 1))] M = .ok (.d x) M' ∧ Bt 0 m x ∧ Dr n M M') : ∃ x M', (LV (k + 4)).fn false i_law_odd [.r n, .d (.int j)] M = .ok (.d x) M' ∧ Bt 0 (m + 1) x ∧ Dr n M M' := by
  obtain ⟨u, M1, e1, u1, u2, d1⟩ := f_under (k + 2) n 9 M h (by omega) (by omega)
  rw [s_law_odd]
  have L := fun f => odd_list (k + 3) n (.int j) M f
  by_cases h6 : u < 6
  · obtain ⟨x, M', e, hx, d⟩ := f_some (k + 1) n oddL M1 d1.v (by decide) (by decide)
    refine ⟨x, M', ?_, Bt.mono (Nat.le_refl 0) (by omega) (btB_ok (List.all_eq_true.mp odd_btB x hx)), d1.trans d⟩
    unfold d_law_odd
    simp only [evSs]
    rw [L]
    simp [evE, evEs, evAnd, evOr, evT, evTA, evTO, evC, evO, evI, evS, evSs, zb_ok, zb_ex, zb_bad, zb_of, zb_no, zt_ok, zt_ex, zt_bad, zc_ok, zc_bad, zo_nx, zo_rt, zo_ex, zo_bad, zf_nx, zf_rt, zf_ex, gz_z, gz_s, slz_z, b_nm, setZ, asB_b, opz_dd, cpz_dd, dsOf_nil, dsOf_cons, biz_d, subz_dd, slz_dd, truthZ_d, boolZ_eq, isz, tyKnown, tyOk, bop, cop, truth, itemD, slcD, bid, LV_hot, LV_gv, gv, Option.map_some, Option.bind_some, eqv_ls, eqv_sl, eqv_ii, eqv_snone, eqv_nones, eqv_sbool, eqv_bools, eqv_sint, eqv_ints, eqv_stuple, eqv_tuples, eqv_slist, eqv_lists, eqv_tt, eqv_LL, eqvA_nn, eqvA_nc, eqvA_cn, eqvA_xn, eqvA_cc, okD_int, okD_bool, okD_lit, okD_nilT, okD_nilL, ofString_inj, atI_0, atI_1, atI_2, atI_3, flatD, inD, zi_b, zi_o, zi_a, okD_T, e, e1, hj, h6]
  · obtain ⟨w, M2, e2, w1, w2, d2⟩ := f_under (k + 2) n 4 M1 d1.v (by omega) (by omega)
    obtain ⟨ds, M3, e3, i3, p3, l⟩ := lc_draw (cond := fun _ M' => R.ok true M') (elt := fun ρ' M' => evE (LV (k + 3)) e_law_odd_1 ρ' M') (i := 4) (ρ := [.z (.r n), .z (.d (.int j)), .z (.d (.list oddL)), .no, .no]) (I := fun M' => Dr n M2 M') (P := Bt 0 m) (fun _ _ => rfl) (rngZ 0 w) M2 (Dr.refl d2.v) fun z _ M' hI => by
      obtain ⟨x, M4, e4, hx, d4⟩ := low M' hI.v
      exact ⟨x, M4, by simp [evE, evEs, evAnd, evOr, evT, evTA, evTO, evC, evO, evI, evS, evSs, zb_ok, zb_ex, zb_bad, zb_of, zb_no, zt_ok, zt_ex, zt_bad, zc_ok, zc_bad, zo_nx, zo_rt, zo_ex, zo_bad, zf_nx, zf_rt, zf_ex, gz_z, gz_s, slz_z, b_nm, setZ, asB_b, opz_dd, cpz_dd, dsOf_nil, dsOf_cons, biz_d, subz_dd, slz_dd, truthZ_d, boolZ_eq, isz, tyKnown, tyOk, bop, cop, truth, itemD, slcD, bid, LV_hot, LV_gv, gv, Option.map_some, Option.bind_some, eqv_ls, eqv_sl, eqv_ii, eqv_snone, eqv_nones, eqv_sbool, eqv_bools, eqv_sint, eqv_ints, eqv_stuple, eqv_tuples, eqv_slist, eqv_lists, eqv_tt, eqv_LL, eqvA_nn, eqvA_nc, eqvA_cn, eqvA_xn, eqvA_cc, okD_int, okD_bool, okD_lit, okD_nilT, okD_nilL, ofString_inj, atI_0, atI_1, atI_2, atI_3, flatD, inD, zi_b, zi_o, zi_a, okD_T, e_law_odd_1, e4], hI.trans d4, hx⟩
    rw [rng_len] at l
    have q1 : w < 4611686018427387904 ∧ -4611686018427387904 ≤ w := by omega
    have q2 : w.toNat ≤ slen := by show _ ≤ 1000000; omega
    obtain ⟨t, M4, e4, t1, t2, d4⟩ := f_under (k + 2) n 3 M3 i3.v (by omega) (by omega)
    have o1 : Bt 0 (m + 1) (.list ds) := Bt.lst (by omega) p3
    have o2 : Bt 0 (m + 1) (.tuple ds) := Bt.tup (by omega) p3
    by_cases ht : t = 0
    · refine ⟨.list ds, M4, ?_, o1, d1.trans (d2.trans (i3.trans d4))⟩
      unfold d_law_odd
      simp only [evSs]
      rw [L]
      simp [evE, evEs, evAnd, evOr, evT, evTA, evTO, evC, evO, evI, evS, evSs, zb_ok, zb_ex, zb_bad, zb_of, zb_no, zt_ok, zt_ex, zt_bad, zc_ok, zc_bad, zo_nx, zo_rt, zo_ex, zo_bad, zf_nx, zf_rt, zf_ex, gz_z, gz_s, slz_z, b_nm, setZ, asB_b, opz_dd, cpz_dd, dsOf_nil, dsOf_cons, biz_d, subz_dd, slz_dd, truthZ_d, boolZ_eq, isz, tyKnown, tyOk, bop, cop, truth, itemD, slcD, bid, LV_hot, LV_gv, gv, Option.map_some, Option.bind_some, eqv_ls, eqv_sl, eqv_ii, eqv_snone, eqv_nones, eqv_sbool, eqv_bools, eqv_sint, eqv_ints, eqv_stuple, eqv_tuples, eqv_slist, eqv_lists, eqv_tt, eqv_LL, eqvA_nn, eqvA_nc, eqvA_cn, eqvA_xn, eqvA_cc, okD_int, okD_bool, okD_lit, okD_nilT, okD_nilL, ofString_inj, atI_0, atI_1, atI_2, atI_3, flatD, inD, zi_b, zi_o, zi_a, okD_T, e1, hj, h6, e2, q1, rng_len, q2, wipeE, e3, e4, ht]
    · refine ⟨.tuple ds, M4, ?_, o2, d1.trans (d2.trans (i3.trans d4))⟩
      unfold d_law_odd
      simp only [evSs]
      rw [L]
      simp [evE, evEs, evAnd, evOr, evT, evTA, evTO, evC, evO, evI, evS, evSs, zb_ok, zb_ex, zb_bad, zb_of, zb_no, zt_ok, zt_ex, zt_bad, zc_ok, zc_bad, zo_nx, zo_rt, zo_ex, zo_bad, zf_nx, zf_rt, zf_ex, gz_z, gz_s, slz_z, b_nm, setZ, asB_b, opz_dd, cpz_dd, dsOf_nil, dsOf_cons, biz_d, subz_dd, slz_dd, truthZ_d, boolZ_eq, isz, tyKnown, tyOk, bop, cop, truth, itemD, slcD, bid, LV_hot, LV_gv, gv, Option.map_some, Option.bind_some, eqv_ls, eqv_sl, eqv_ii, eqv_snone, eqv_nones, eqv_sbool, eqv_bools, eqv_sint, eqv_ints, eqv_stuple, eqv_tuples, eqv_slist, eqv_lists, eqv_tt, eqv_LL, eqvA_nn, eqvA_nc, eqvA_cn, eqvA_xn, eqvA_cc, okD_int, okD_bool, okD_lit, okD_nilT, okD_nilL, ofString_inj, atI_0, atI_1, atI_2, atI_3, flatD, inD, zi_b, zi_o, zi_a, okD_T, e1, hj, h6, e2, q1, rng_len, q2, wipeE, e3, e4, ht, Bi.walks]
theorem bodd1 (k n : Nat) (M : Mem) (h : Vt M n) : ∃ x M', (LV (k + 4)).fn false i_law_odd [.r n, .d (.int 1)] M = .ok (.d x) M' ∧ Bt 0 3 x ∧ Dr n M M' :=
  bodd_step k n 2 1 (by omega) (Nat.le_refl 2) M h fun M h => bodd_low k n (1 - 1) (by omega) M h
theorem bodd2 (k n : Nat) (M : Mem) (h : Vt M n) : ∃ x M', (LV (k + 5)).fn false i_law_odd [.r n, .d (.int 2)] M = .ok (.d x) M' ∧ Bt 0 4 x ∧ Dr n M M' :=
  bodd_step (k + 1) n 3 2 (by omega) (by omega) M h fun M h => bodd1 k n M h
theorem cut_take {α : Type} {xs : List α} {a : Nat} : cut xs none (some (a : Int)) = xs.take a := by
  unfold cut
  have e1 : HT.sIx xs.length 0 none = 0 := rfl
  rw [e1, HT.sIx_nat, List.drop_zero, Nat.sub_zero]
  exact (List.take_eq_take_iff.mpr (by omega))
theorem cut_drop {α : Type} {xs : List α} {a : Nat} : cut xs (some (a : Int)) none = xs.drop a := by
  unfold cut
  have e1 : HT.sIx xs.length xs.length none = xs.length := rfl
  rw [e1, HT.sIx_nat]
  by_cases h : a ≤ xs.length
  · rw [Nat.min_eq_left h]
    exact List.take_of_length_le (by rw [List.length_drop]; omega)
  · rw [Nat.min_eq_right (by omega), List.drop_of_length_le (Nat.le_refl _), List.drop_of_length_le (by omega), List.take_nil]
theorem pick (k n : Nat) (P : D → Prop) (xs : List D) (M : Mem) (h : Vt M n) (h1 : 1 ≤ xs.length) (h2 : xs.length ≤ 1000) (hp : ∀ x ∈ xs, P x) : ∃ x M', (LV (k + 2)).fn false i_law_some [.r n, .d (.list xs)] M = .ok (.d x) M' ∧ P x ∧ Dr n M M' := by
  obtain ⟨x, M', e, hx, d⟩ := f_some k n xs M h h1 h2
  exact ⟨x, M', e, hp x hx, d⟩
theorem cutS_mem {s : Str} {a b : Option Int} : (∀ c ∈ (L2.cutS s a b).cps.toList, c ∈ s.cps.toList) ∧ (L2.cutS s a b).length ≤ s.length := by
  refine ⟨fun c hc => ?_, ?_⟩
  · have hc : c ∈ (List.take (HT.sIx s.length s.length b - HT.sIx s.length 0 a) (List.drop (HT.sIx s.length 0 a) s.cps.toList)) := by simpa [L2.cutS] using hc
    exact List.mem_of_mem_drop (List.mem_of_mem_take hc)
  · have h1 : (L2.cutS s a b).length = (List.take (HT.sIx s.length s.length b - HT.sIx s.length 0 a) (List.drop (HT.sIx s.length 0 a) s.cps.toList)).length := by
      simp [L2.cutS, Str.length]
    rw [h1, List.length_take, List.length_drop]
    have : s.cps.toList.length = s.length := by simp [Str.length]
    omega
theorem bt_str {n j : Nat} {s : Str} (h1 : PyData.strOk s = true ∧ asc s = true) (h2 : s.length ≤ 60 + n) : Bt n (j + 1) (.str s) := ⟨h1.1, h1.2, h2⟩
theorem bt_int {n j : Nat} {i : Int} (h : i.natAbs < 10 ^ (40 + n)) : Bt n (j + 1) (.int i) := h
theorem pow_up {n : Nat} : 10 ^ (40 + n) * 10 = 10 ^ (40 + (n + 1)) := by rw [← Nat.pow_succ]; congr 1
theorem pow_1 {n : Nat} : 1000000 ≤ 10 ^ (40 + n) := Nat.le_trans (by decide : 1000000 ≤ 10 ^ 40) (Nat.pow_le_pow_right (by omega) (by omega))
def lstr : List D := [.str "a", .str "p", .str "r", .str "push", .str "tail"]
theorem lstr_ok : lstr.all btA = true := by decide +kernel
theorem leaf_str (k n nn : Nat) (s : Str) (M : Mem) (h : Vt M n) (hs : PyData.strOk s = true ∧ asc s = true) (hl : s.length ≤ 60 + nn) (hn : nn ≤ 30) : ∃ x M', (LV (k + 5)).fn false i_law_bent [.r n, .d (.str s)] M = .ok (.d x) M' ∧ Bt (nn + 1) 3 x ∧ Vt M' n := by
  obtain ⟨o1, M1, e1, b1, d1⟩ := bodd1 k n M h
  obtain ⟨o2, M2, e2, b2, d2⟩ := bodd1 k n M1 d1.v
  have ha : PyData.strOk "a" = true ∧ asc "a" = true := by decide +kernel
  have la : Str.length "a" = 1 := by decide +kernel
  have u := up_ok hs.2
  have rv : PyData.strOk ⟨s.cps.toList.reverse.toArray⟩ = true ∧ asc ⟨s.cps.toList.reverse.toArray⟩ = true := sub_ok hs fun c hc => by simpa using hc
  have rl : Str.length ⟨s.cps.toList.reverse.toArray⟩ = s.length := by simp [Str.length]
  have cm := cutS_mem (s := s) (a := none) (b := some (-1))
  obtain ⟨x, M3, e3, bx, d3⟩ := pick (k + 2) n (Bt (nn + 1) 3) ([o1, o2] ++ (lstr ++ [.str (L2.cutS s none (some (-1))), .str (Txt.upper s), .str (s ++ "a"), .str ⟨s.cps.toList.reverse.toArray⟩])) M2 d2.v (by simp [lstr]) (by simp [lstr]) fun y hy => by
    simp only [List.mem_append] at hy
    rcases hy with hy | hy | hy
    · simp only [List.mem_cons, List.mem_nil_iff, or_false] at hy
      rcases hy with rfl | rfl
      · exact Bt.mono (by omega) (by omega) b1
      · exact Bt.mono (by omega) (by omega) b2
    · exact Bt.mono (by omega) (by omega) (btA_ok (List.all_eq_true.mp lstr_ok y hy))
    · simp only [List.mem_cons, List.mem_nil_iff, or_false] at hy
      rcases hy with rfl | rfl | rfl | rfl
      · exact bt_str (sub_ok hs cm.1) (by have := cm.2; omega)
      · exact bt_str ⟨u.1, u.2.1⟩ (by rw [u.2.2]; omega)
      · exact bt_str (app_ok hs ha) (by rw [len_app, la]; omega)
      · exact bt_str rv (by rw [rl]; omega)
  refine ⟨x, M3, ?_, bx, d3.v⟩
  have q1 : s.length ≤ slen := by show _ ≤ 1000000; omega
  have q2 : s.length + Str.length "a" ≤ slen := by rw [la]; show _ ≤ 1000000; omega
  have rv1 : revD (.str s) = some (.str ⟨s.cps.toList.reverse.toArray⟩) := by
    show (if s.length ≤ slen then some _ else none) = _
    rw [if_pos q1]
  have up1 : mtz .upper (.d (.str s)) [] M2 = .ok (.d (.str (Txt.upper s))) M2 := by
    show R.of (((some ([] : List D)).bind fun _ => if s.length ≤ slen then some (PyData.str (Txt.upper s)) else none).map Z.d) M2 = _
    rw [Option.bind_some, if_pos q1]
    rfl
  have rc : rcv .upper (.d (.str s)) M2 = true := rfl
  have q1' : s.length ≤ 1000000 := q1
  have q2' : s.length + Str.length "a" ≤ 1000000 := q2
  unfold lstr at e3
  rw [s_law_bent]
  generalize (⟨s.cps.toList.reverse.toArray⟩ : Str) = y at *
  simp only [List.cons_append, List.nil_append] at e3
  simp [evE, evEs, evAnd, evOr, evT, evTA, evTO, evC, evO, evI, evS, evSs, zb_ok, zb_ex, zb_bad, zb_of, zb_no, zt_ok, zt_ex, zt_bad, zc_ok, zc_bad, zo_nx, zo_rt, zo_ex, zo_bad, zf_nx, zf_rt, zf_ex, gz_z, gz_s, slz_z, b_nm, setZ, asB_b, opz_dd, cpz_dd, dsOf_nil, dsOf_cons, biz_d, subz_dd, slz_dd, truthZ_d, boolZ_eq, isz, tyKnown, tyOk, bop, cop, truth, itemD, slcD, bid, LV_hot, LV_gv, gv, Option.map_some, Option.bind_some, eqv_ls, eqv_sl, eqv_ii, eqv_snone, eqv_nones, eqv_sbool, eqv_bools, eqv_sint, eqv_ints, eqv_stuple, eqv_tuples, eqv_slist, eqv_lists, eqv_tt, eqv_LL, eqvA_nn, eqvA_nc, eqvA_cn, eqvA_xn, eqvA_cc, okD_int, okD_bool, okD_lit, okD_nilT, okD_nilL, ofString_inj, atI_0, atI_1, atI_2, atI_3, flatD, inD, zi_b, zi_o, zi_a, okD_T, d_law_bent, e1, e2, q1', q2', rv1, up1, rc, slen, e3]
theorem leaf_int (k n nn : Nat) (i : Int) (M : Mem) (h : Vt M n) (hi : i.natAbs < 10 ^ (40 + nn)) (hn : nn ≤ 18) : ∃ x M', (LV (k + 5)).fn false i_law_bent [.r n, .d (.int i)] M = .ok (.d x) M' ∧ Bt (nn + 1) 3 x ∧ Vt M' n := by
  obtain ⟨o1, M1, e1, b1, d1⟩ := bodd1 k n M h
  obtain ⟨o2, M2, e2, b2, d2⟩ := bodd1 k n M1 d1.v
  have up := pow_up (n := nn)
  have p1 := pow_1 (n := nn)
  have st : PyData.strOk (Str.ofString i.repr) = true ∧ asc (Str.ofString i.repr) = true ∧ (Str.ofString i.repr).length ≤ 40 + nn + 1 := str_int (k := 40 + nn) (by omega) hi
  obtain ⟨x, M3, e3, bx, d3⟩ := pick (k + 2) n (Bt (nn + 1) 3) ([o1, o2] ++ [.int (i + 1), .int (i - 1), .bool (!(i != 0)), .str (Str.ofString i.repr), .int (8 * i)]) M2 d2.v (by simp) (by simp) fun y hy => by
    simp only [List.mem_append] at hy
    rcases hy with hy | hy
    · simp only [List.mem_cons, List.mem_nil_iff, or_false] at hy
      rcases hy with rfl | rfl
      · exact Bt.mono (by omega) (by omega) b1
      · exact Bt.mono (by omega) (by omega) b2
    · simp only [List.mem_cons, List.mem_nil_iff, or_false] at hy
      rcases hy with rfl | rfl | rfl | rfl | rfl
      · exact bt_int (by rw [← up]; omega)
      · exact bt_int (by rw [← up]; omega)
      · trivial
      · exact bt_str ⟨st.1, st.2.1⟩ (by have := st.2.2; omega)
      · exact bt_int (by rw [← up]; omega)
  refine ⟨x, M3, ?_, bx, d3.v⟩
  have hb : i.natAbs.log2 < 1900 := by
    refine log2_of (Nat.lt_of_lt_of_le hi ?_) (by omega)
    exact Nat.le_trans (Nat.pow_le_pow_right (by omega) (by omega : 40 + nn ≤ 58)) (by decide +kernel)
  have m1 : bop .mul (.int 8) (.int i) = some (.int (8 * i)) := by
    show (if (8 : Int).natAbs.log2 + i.natAbs.log2 < 100000000 then some (PyData.int (8 * i)) else none) = _
    have e8 : (8 : Int).natAbs.log2 = 3 := by decide +kernel
    rw [if_pos (by rw [e8]; omega)]
  have s1 : bid .str [.int i] = some (.str (Str.ofString i.repr)) := by
    show (if i.natAbs.log2 < 1920 then some (PyData.str (Str.ofString i.repr)) else none) = _
    rw [if_pos (by omega)]
  have l2 : bop .add (.list [o1, o2]) (.list [.int (i + 1), .int (i - 1), .bool (!(i != 0)), .str (Str.ofString i.repr), .int (8 * i)]) = some (.list ([o1, o2] ++ [.int (i + 1), .int (i - 1), .bool (!(i != 0)), .str (Str.ofString i.repr), .int (8 * i)])) := by rfl
  have hb' : i.natAbs.log2 < 1920 := by omega
  simp only [List.cons_append, List.nil_append] at e3 l2
  rw [s_law_bent]
  generalize hy : Str.ofString i.repr = y at *
  clear hi up p1 hb s1
  generalize 8 * i = i8 at *
  simp [evE, evEs, evAnd, evOr, evT, evTA, evTO, evC, evO, evI, evS, evSs, zb_ok, zb_ex, zb_bad, zb_of, zb_no, zt_ok, zt_ex, zt_bad, zc_ok, zc_bad, zo_nx, zo_rt, zo_ex, zo_bad, zf_nx, zf_rt, zf_ex, gz_z, gz_s, slz_z, b_nm, setZ, asB_b, opz_dd, cpz_dd, dsOf_nil, dsOf_cons, biz_d, subz_dd, slz_dd, truthZ_d, boolZ_eq, isz, tyKnown, tyOk, cop, truth, itemD, slcD, bid, LV_hot, LV_gv, gv, Option.map_some, Option.bind_some, eqv_ls, eqv_sl, eqv_ii, eqv_snone, eqv_nones, eqv_sbool, eqv_bools, eqv_sint, eqv_ints, eqv_stuple, eqv_tuples, eqv_slist, eqv_lists, eqv_tt, eqv_LL, eqvA_nn, eqvA_nc, eqvA_cn, eqvA_xn, eqvA_cc, okD_int, okD_bool, okD_lit, okD_nilT, okD_nilL, ofString_inj, atI_0, atI_1, atI_2, atI_3, flatD, inD, zi_b, zi_o, zi_a, okD_T, badd, bsub, bmod, bfdiv, bmul, d_law_bent, e1, e2, hb', hy, m1, l2, e3]
end Lw
namespace Lw
open PySem Zt
theorem two_odd (k n nn : Nat) (M : Mem) (h : Vt M n) : ∃ o1 o2 x M1 M2 M3, (LV (k + 4)).fn false i_law_odd [.r n, .d (.int 1)] M = .ok (.d o1) M1 ∧ (LV (k + 4)).fn false i_law_odd [.r n, .d (.int 1)] M1 = .ok (.d o2) M2 ∧ (LV (k + 4)).fn false i_law_some [.r n, .d (.list [o1, o2])] M2 = .ok (.d x) M3 ∧ Bt (nn + 1) 3 x ∧ Vt M3 n := by
  obtain ⟨o1, M1, e1, b1, d1⟩ := bodd1 k n M h
  obtain ⟨o2, M2, e2, b2, d2⟩ := bodd1 k n M1 d1.v
  obtain ⟨x, M3, e3, bx, d3⟩ := pick (k + 2) n (Bt (nn + 1) 3) [o1, o2] M2 d2.v (by simp) (by simp) fun y hy => by
    simp only [List.mem_cons, List.mem_nil_iff, or_false] at hy
    rcases hy with rfl | rfl
    · exact Bt.mono (by omega) (by omega) b1
    · exact Bt.mono (by omega) (by omega) b2
  exact ⟨o1, o2, x, M1, M2, M3, e1, e2, e3, bx, d3.v⟩
theorem leaf_none (k n nn : Nat) (M : Mem) (h : Vt M n) : ∃ x M', (LV (k + 5)).fn false i_law_bent [.r n, .d .none] M = .ok (.d x) M' ∧ Bt (nn + 1) 3 x ∧ Vt M' n := by
  obtain ⟨o1, o2, x, M1, M2, M3, e1, e2, e3, bx, v⟩ := two_odd k n nn M h
  refine ⟨x, M3, ?_, bx, v⟩
  rw [s_law_bent]
  simp [evE, evEs, evAnd, evOr, evT, evTA, evTO, evC, evO, evI, evS, evSs, zb_ok, zb_ex, zb_bad, zb_of, zb_no, zt_ok, zt_ex, zt_bad, zc_ok, zc_bad, zo_nx, zo_rt, zo_ex, zo_bad, zf_nx, zf_rt, zf_ex, gz_z, gz_s, slz_z, b_nm, setZ, asB_b, opz_dd, cpz_dd, dsOf_nil, dsOf_cons, biz_d, subz_dd, slz_dd, truthZ_d, boolZ_eq, isz, tyKnown, tyOk, bop, cop, truth, itemD, slcD, bid, LV_hot, LV_gv, gv, Option.map_some, Option.bind_some, eqv_ls, eqv_sl, eqv_ii, eqv_snone, eqv_nones, eqv_sbool, eqv_bools, eqv_sint, eqv_ints, eqv_stuple, eqv_tuples, eqv_slist, eqv_lists, eqv_tt, eqv_LL, eqvA_nn, eqvA_nc, eqvA_cn, eqvA_xn, eqvA_cc, okD_int, okD_bool, okD_lit, okD_nilT, okD_nilL, ofString_inj, atI_0, atI_1, atI_2, atI_3, flatD, inD, zi_b, zi_o, zi_a, okD_T, d_law_bent, e1, e2, e3]
theorem leaf_list (k n nn : Nat) (l : List D) (M : Mem) (h : Vt M n) : ∃ x M', (LV (k + 5)).fn false i_law_bent [.r n, .d (.list l)] M = .ok (.d x) M' ∧ Bt (nn + 1) 3 x ∧ Vt M' n := by
  obtain ⟨o1, o2, x, M1, M2, M3, e1, e2, e3, bx, v⟩ := two_odd k n nn M h
  refine ⟨x, M3, ?_, bx, v⟩
  rw [s_law_bent]
  simp [evE, evEs, evAnd, evOr, evT, evTA, evTO, evC, evO, evI, evS, evSs, zb_ok, zb_ex, zb_bad, zb_of, zb_no, zt_ok, zt_ex, zt_bad, zc_ok, zc_bad, zo_nx, zo_rt, zo_ex, zo_bad, zf_nx, zf_rt, zf_ex, gz_z, gz_s, slz_z, b_nm, setZ, asB_b, opz_dd, cpz_dd, dsOf_nil, dsOf_cons, biz_d, subz_dd, slz_dd, truthZ_d, boolZ_eq, isz, tyKnown, tyOk, bop, cop, truth, itemD, slcD, bid, LV_hot, LV_gv, gv, Option.map_some, Option.bind_some, eqv_ls, eqv_sl, eqv_ii, eqv_snone, eqv_nones, eqv_sbool, eqv_bools, eqv_sint, eqv_ints, eqv_stuple, eqv_tuples, eqv_slist, eqv_lists, eqv_tt, eqv_LL, eqvA_nn, eqvA_nc, eqvA_cn, eqvA_xn, eqvA_cc, okD_int, okD_bool, okD_lit, okD_nilT, okD_nilL, ofString_inj, atI_0, atI_1, atI_2, atI_3, flatD, inD, zi_b, zi_o, zi_a, okD_T, d_law_bent, e1, e2, e3]
theorem leaf_nil (k n nn : Nat) (M : Mem) (h : Vt M n) : ∃ x M', (LV (k + 5)).fn false i_law_bent [.r n, .d (.tuple [])] M = .ok (.d x) M' ∧ Bt (nn + 1) 3 x ∧ Vt M' n := by
  obtain ⟨o1, o2, x, M1, M2, M3, e1, e2, e3, bx, v⟩ := two_odd k n nn M h
  refine ⟨x, M3, ?_, bx, v⟩
  rw [s_law_bent]
  simp [evE, evEs, evAnd, evOr, evT, evTA, evTO, evC, evO, evI, evS, evSs, zb_ok, zb_ex, zb_bad, zb_of, zb_no, zt_ok, zt_ex, zt_bad, zc_ok, zc_bad, zo_nx, zo_rt, zo_ex, zo_bad, zf_nx, zf_rt, zf_ex, gz_z, gz_s, slz_z, b_nm, setZ, asB_b, opz_dd, cpz_dd, dsOf_nil, dsOf_cons, biz_d, subz_dd, slz_dd, truthZ_d, boolZ_eq, isz, tyKnown, tyOk, bop, cop, truth, itemD, slcD, bid, LV_hot, LV_gv, gv, Option.map_some, Option.bind_some, eqv_ls, eqv_sl, eqv_ii, eqv_snone, eqv_nones, eqv_sbool, eqv_bools, eqv_sint, eqv_ints, eqv_stuple, eqv_tuples, eqv_slist, eqv_lists, eqv_tt, eqv_LL, eqvA_nn, eqvA_nc, eqvA_cn, eqvA_xn, eqvA_cc, okD_int, okD_bool, okD_lit, okD_nilT, okD_nilL, ofString_inj, atI_0, atI_1, atI_2, atI_3, flatD, inD, zi_b, zi_o, zi_a, okD_T, d_law_bent, e1, e2, e3]
theorem leaf_bool (k n nn : Nat) (b : Bool) (M : Mem) (h : Vt M n) : ∃ x M', (LV (k + 5)).fn false i_law_bent [.r n, .d (.bool b)] M = .ok (.d x) M' ∧ Bt (nn + 1) 3 x ∧ Vt M' n := by
  obtain ⟨o1, M1, e1, b1, d1⟩ := bodd1 k n M h
  obtain ⟨o2, M2, e2, b2, d2⟩ := bodd1 k n M1 d1.v
  have t : ∀ c : Bool, ([.int ((if c = true then 1 else 0) + 1), .int ((if c = true then 1 else 0) - 1), .bool (!c), .str (if c then "True" else "False"), .int (8 * (if c = true then 1 else 0))] : List D).all btA = true := by decide +kernel
  obtain ⟨x, M3, e3, bx, d3⟩ := pick (k + 2) n (Bt (nn + 1) 3) ([o1, o2] ++ [.int ((if b = true then 1 else 0) + 1), .int ((if b = true then 1 else 0) - 1), .bool (!b), .str (if b then "True" else "False"), .int (8 * (if b = true then 1 else 0))]) M2 d2.v (by simp) (by simp) fun y hy => by
    simp only [List.mem_append] at hy
    rcases hy with hy | hy
    · simp only [List.mem_cons, List.mem_nil_iff, or_false] at hy
      rcases hy with rfl | rfl
      · exact Bt.mono (by omega) (by omega) b1
      · exact Bt.mono (by omega) (by omega) b2
    · exact Bt.mono (by omega) (by omega) (btA_ok (List.all_eq_true.mp (t b) y hy))
  refine ⟨x, M3, ?_, bx, d3.v⟩
  rw [s_law_bent]
  cases b
  · have l2 : bop .add (.list [o1, o2]) (.list [.int 1, .int (-1), .bool true, .str "False", .int 0]) = some (.list [o1, o2, .int 1, .int (-1), .bool true, .str "False", .int 0]) := by rfl
    have m1 : bop .mul (.int 8) (.bool false) = some (.int 0) := by rfl
    have m2 : bop .add (.bool false) (.int 1) = some (.int 1) := by rfl
    have m3 : bop .sub (.bool false) (.int 1) = some (.int (-1)) := by rfl
    have m4 : bid .str [.bool false] = some (.str "False") := by rfl
    simp at e3
    simp [evE, evEs, evAnd, evOr, evT, evTA, evTO, evC, evO, evI, evS, evSs, zb_ok, zb_ex, zb_bad, zb_of, zb_no, zt_ok, zt_ex, zt_bad, zc_ok, zc_bad, zo_nx, zo_rt, zo_ex, zo_bad, zf_nx, zf_rt, zf_ex, gz_z, gz_s, slz_z, b_nm, setZ, asB_b, opz_dd, cpz_dd, dsOf_nil, dsOf_cons, biz_d, subz_dd, slz_dd, truthZ_d, boolZ_eq, isz, tyKnown, tyOk, cop, truth, itemD, slcD, bid, LV_hot, LV_gv, gv, Option.map_some, Option.bind_some, eqv_ls, eqv_sl, eqv_ii, eqv_snone, eqv_nones, eqv_sbool, eqv_bools, eqv_sint, eqv_ints, eqv_stuple, eqv_tuples, eqv_slist, eqv_lists, eqv_tt, eqv_LL, eqvA_nn, eqvA_nc, eqvA_cn, eqvA_xn, eqvA_cc, okD_int, okD_bool, okD_lit, okD_nilT, okD_nilL, ofString_inj, atI_0, atI_1, atI_2, atI_3, flatD, inD, zi_b, zi_o, zi_a, okD_T, badd, bsub, bmod, bfdiv, bmul, d_law_bent, e1, e2, m1, m2, m3, m4, l2, e3]
  · have l2 : bop .add (.list [o1, o2]) (.list [.int 2, .int 0, .bool false, .str "True", .int 8]) = some (.list [o1, o2, .int 2, .int 0, .bool false, .str "True", .int 8]) := by rfl
    have m1 : bop .mul (.int 8) (.bool true) = some (.int 8) := by rfl
    have m2 : bop .add (.bool true) (.int 1) = some (.int 2) := by rfl
    have m3 : bop .sub (.bool true) (.int 1) = some (.int 0) := by rfl
    have m4 : bid .str [.bool true] = some (.str "True") := by rfl
    simp at e3
    simp [evE, evEs, evAnd, evOr, evT, evTA, evTO, evC, evO, evI, evS, evSs, zb_ok, zb_ex, zb_bad, zb_of, zb_no, zt_ok, zt_ex, zt_bad, zc_ok, zc_bad, zo_nx, zo_rt, zo_ex, zo_bad, zf_nx, zf_rt, zf_ex, gz_z, gz_s, slz_z, b_nm, setZ, asB_b, opz_dd, cpz_dd, dsOf_nil, dsOf_cons, biz_d, subz_dd, slz_dd, truthZ_d, boolZ_eq, isz, tyKnown, tyOk, cop, truth, itemD, slcD, bid, LV_hot, LV_gv, gv, Option.map_some, Option.bind_some, eqv_ls, eqv_sl, eqv_ii, eqv_snone, eqv_nones, eqv_sbool, eqv_bools, eqv_sint, eqv_ints, eqv_stuple, eqv_tuples, eqv_slist, eqv_lists, eqv_tt, eqv_LL, eqvA_nn, eqvA_nc, eqvA_cn, eqvA_xn, eqvA_cc, okD_int, okD_bool, okD_lit, okD_nilT, okD_nilL, ofString_inj, atI_0, atI_1, atI_2, atI_3, flatD, inD, zi_b, zi_o, zi_a, okD_T, badd, bsub, bmod, bfdiv, bmul, d_law_bent, e1, e2, m1, m2, m3, m4, l2, e3]
theorem catT {x y : List D} (h : x.length + y.length ≤ slen) : bop .add (.tuple x) (.tuple y) = some (.tuple (x ++ y)) := by
  show (if x.length + y.length ≤ slen then some (PyData.tuple (x ++ y)) else none) = _
  rw [if_pos h]
theorem f_bent (n nn : Nat) (hn : nn ≤ 15) : ∀ (j k : Nat) (v : D) (M : Mem), Vt M n → Bt nn j v → j ≤ 50 → ∃ x M', (LV (k + 5 + j)).fn false i_law_bent [.r n, .d v] M = .ok (.d x) M' ∧ Bt (nn + 1) (j + 2) x ∧ Vt M' n
  | 0, _, _, _, _, hb, _ => hb.elim
  | j + 1, k, v, M, h, hb, hj => by
    have lift : ∀ {x : D}, Bt (nn + 1) 3 x → Bt (nn + 1) (j + 1 + 2) x := fun b => Bt.mono (Nat.le_refl _) (by omega) b
    have ho := hb.ok (by omega)
    rw [show k + 5 + (j + 1) = (k + j + 1) + 5 by omega]
    cases v with
    | none =>
      obtain ⟨x, M', e, b, v⟩ := leaf_none (k + j + 1) n nn M h
      exact ⟨x, M', e, lift b, v⟩
    | bool c =>
      obtain ⟨x, M', e, b, v⟩ := leaf_bool (k + j + 1) n nn c M h
      exact ⟨x, M', e, lift b, v⟩
    | int i =>
      obtain ⟨x, M', e, b, v⟩ := leaf_int (k + j + 1) n nn i M h hb (by omega)
      exact ⟨x, M', e, lift b, v⟩
    | str s =>
      obtain ⟨h1, h2, h3⟩ := hb.str
      obtain ⟨x, M', e, b, v⟩ := leaf_str (k + j + 1) n nn s M h ⟨h1, h2⟩ h3 (by omega)
      exact ⟨x, M', e, lift b, v⟩
    | list l =>
      obtain ⟨x, M', e, b, v⟩ := leaf_list (k + j + 1) n nn l M h
      exact ⟨x, M', e, lift b, v⟩
    | dict kvs => exact hb.elim
    | tuple xs =>
      by_cases h0 : xs = []
      · subst h0
        obtain ⟨x, M', e, b, v⟩ := leaf_nil (k + j + 1) n nn M h
        exact ⟨x, M', e, lift b, v⟩
      · have h0' : xs.isEmpty = false := by simpa using h0
        have hl := hb.1
        have hx := hb.2
        have hpos : 1 ≤ xs.length := List.length_pos_iff.mpr h0
        obtain ⟨u, M0, e0, u1, u2, d0⟩ := f_under (k + j + 4) n 7 M h (by omega) (by omega)
        by_cases hu : u = 0
        · obtain ⟨o1, o2, x, M1, M2, M3, e1, e2, e3, bx, v⟩ := two_odd (k + j + 1) n nn M0 d0.v
          refine ⟨x, M3, ?_, lift bx, v⟩
          rw [s_law_bent]
          simp [evE, evEs, evAnd, evOr, evT, evTA, evTO, evC, evO, evI, evS, evSs, zb_ok, zb_ex, zb_bad, zb_of, zb_no, zt_ok, zt_ex, zt_bad, zc_ok, zc_bad, zo_nx, zo_rt, zo_ex, zo_bad, zf_nx, zf_rt, zf_ex, gz_z, gz_s, slz_z, b_nm, setZ, asB_b, opz_dd, cpz_dd, dsOf_nil, dsOf_cons, biz_d, subz_dd, slz_dd, truthZ_d, boolZ_eq, isz, tyKnown, tyOk, bop, cop, truth, itemD, slcD, bid, LV_hot, LV_gv, gv, Option.map_some, Option.bind_some, eqv_ls, eqv_sl, eqv_ii, eqv_snone, eqv_nones, eqv_sbool, eqv_bools, eqv_sint, eqv_ints, eqv_stuple, eqv_tuples, eqv_slist, eqv_lists, eqv_tt, eqv_LL, eqvA_nn, eqvA_nc, eqvA_cn, eqvA_xn, eqvA_cc, okD_int, okD_bool, okD_lit, okD_nilT, okD_nilL, ofString_inj, atI_0, atI_1, atI_2, atI_3, flatD, inD, zi_b, zi_o, zi_a, okD_T, d_law_bent, ho, h0', e0, hu, e1, e2, e3]
        · obtain ⟨p, M1, e1, p1, p2, d1⟩ := f_under (k + j + 4) n (xs.length : Int) M0 d0.v (by omega) (by omega)
          obtain ⟨w, M2, e2, w1, w2, d2⟩ := f_under (k + j + 4) n 9 M1 d1.v (by omega) (by omega)
          obtain ⟨p, rfl⟩ := Int.eq_ofNat_of_zero_le p1
          have hp : p < xs.length := by omega
          have sub1 : ∀ (l : List D), (∀ y ∈ l, y ∈ xs) → ∀ y ∈ l, Bt (nn + 1) (j + 2) y := fun l hs y hy => Bt.mono (by omega) (by omega) (hx y (hs y hy))
          have len : bid .len [.tuple xs] = some (.int xs.length) := rfl
          have c1 : cut xs none (some (p : Int)) = xs.take p := cut_take
          have c2 : cut xs (some ((p : Int) + 1)) none = xs.drop (p + 1) := cut_drop
          have c3 : cut xs none (some ((p : Int) + 1)) = xs.take (p + 1) := cut_take
          have c4 : cut xs (some (p : Int)) none = xs.drop p := cut_drop
          have lt1 : (xs.take p).length = p := by rw [List.length_take]; omega
          have lt2 : (xs.take (p + 1)).length = p + 1 := by rw [List.length_take]; omega
          have ld1 : (xs.drop p).length = xs.length - p := List.length_drop
          have ld2 : (xs.drop (p + 1)).length = xs.length - (p + 1) := List.length_drop
          have mt : ∀ q y, y ∈ xs.take q → y ∈ xs := fun q y => List.mem_of_mem_take
          have md : ∀ q y, y ∈ xs.drop q → y ∈ xs := fun q y => List.mem_of_mem_drop
          by_cases k0 : w = 0
          · have s1 := catT (x := xs.take p) (y := xs.drop (p + 1)) (by show _ ≤ 1000000; omega)
            refine ⟨.tuple (xs.take p ++ xs.drop (p + 1)), M2, ?_, Bt.tup (by rw [List.length_append]; omega) (sub1 _ fun y hy => (List.mem_append.mp hy).elim (mt _ y) (md _ y)), d2.v⟩
            rw [s_law_bent]
            simp [evE, evEs, evAnd, evOr, evT, evTA, evTO, evC, evO, evI, evS, evSs, zb_ok, zb_ex, zb_bad, zb_of, zb_no, zt_ok, zt_ex, zt_bad, zc_ok, zc_bad, zo_nx, zo_rt, zo_ex, zo_bad, zf_nx, zf_rt, zf_ex, gz_z, gz_s, slz_z, b_nm, setZ, asB_b, opz_dd, cpz_dd, dsOf_nil, dsOf_cons, biz_d, subz_dd, slz_dd, truthZ_d, boolZ_eq, isz, tyKnown, tyOk, cop, truth, itemD, slcD, bid, LV_hot, LV_gv, gv, Option.map_some, Option.bind_some, eqv_ls, eqv_sl, eqv_ii, eqv_snone, eqv_nones, eqv_sbool, eqv_bools, eqv_sint, eqv_ints, eqv_stuple, eqv_tuples, eqv_slist, eqv_lists, eqv_tt, eqv_LL, eqvA_nn, eqvA_nc, eqvA_cn, eqvA_xn, eqvA_cc, okD_int, okD_bool, okD_lit, okD_nilT, okD_nilL, ofString_inj, atI_0, atI_1, atI_2, atI_3, flatD, inD, zi_b, zi_o, zi_a, okD_T, badd, bsub, bmod, bfdiv, bmul, d_law_bent, ho, h0', e0, hu, len, e1, e2, k0, c1, c2, s1]
          · by_cases k1 : w = 1
            · have s1 := catT (x := xs.take (p + 1)) (y := xs.drop p) (by show _ ≤ 1000000; omega)
              refine ⟨.tuple (xs.take (p + 1) ++ xs.drop p), M2, ?_, Bt.tup (by rw [List.length_append]; omega) (sub1 _ fun y hy => (List.mem_append.mp hy).elim (mt _ y) (md _ y)), d2.v⟩
              rw [s_law_bent]
              simp [evE, evEs, evAnd, evOr, evT, evTA, evTO, evC, evO, evI, evS, evSs, zb_ok, zb_ex, zb_bad, zb_of, zb_no, zt_ok, zt_ex, zt_bad, zc_ok, zc_bad, zo_nx, zo_rt, zo_ex, zo_bad, zf_nx, zf_rt, zf_ex, gz_z, gz_s, slz_z, b_nm, setZ, asB_b, opz_dd, cpz_dd, dsOf_nil, dsOf_cons, biz_d, subz_dd, slz_dd, truthZ_d, boolZ_eq, isz, tyKnown, tyOk, cop, truth, itemD, slcD, bid, LV_hot, LV_gv, gv, Option.map_some, Option.bind_some, eqv_ls, eqv_sl, eqv_ii, eqv_snone, eqv_nones, eqv_sbool, eqv_bools, eqv_sint, eqv_ints, eqv_stuple, eqv_tuples, eqv_slist, eqv_lists, eqv_tt, eqv_LL, eqvA_nn, eqvA_nc, eqvA_cn, eqvA_xn, eqvA_cc, okD_int, okD_bool, okD_lit, okD_nilT, okD_nilL, ofString_inj, atI_0, atI_1, atI_2, atI_3, flatD, inD, zi_b, zi_o, zi_a, okD_T, badd, bsub, bmod, bfdiv, bmul, d_law_bent, ho, h0', e0, hu, len, e1, e2, k1, c3, c4, s1]
            · by_cases k2 : w = 2
              · have rv : revD (.tuple xs) = some (.tuple xs.reverse) := rfl
                refine ⟨.tuple xs.reverse, M2, ?_, Bt.tup (by rw [List.length_reverse]; omega) (sub1 _ fun y hy => List.mem_reverse.mp hy), d2.v⟩
                rw [s_law_bent]
                simp [evE, evEs, evAnd, evOr, evT, evTA, evTO, evC, evO, evI, evS, evSs, zb_ok, zb_ex, zb_bad, zb_of, zb_no, zt_ok, zt_ex, zt_bad, zc_ok, zc_bad, zo_nx, zo_rt, zo_ex, zo_bad, zf_nx, zf_rt, zf_ex, gz_z, gz_s, slz_z, b_nm, setZ, asB_b, opz_dd, cpz_dd, dsOf_nil, dsOf_cons, biz_d, subz_dd, slz_dd, truthZ_d, boolZ_eq, isz, tyKnown, tyOk, cop, truth, itemD, slcD, bid, LV_hot, LV_gv, gv, Option.map_some, Option.bind_some, eqv_ls, eqv_sl, eqv_ii, eqv_snone, eqv_nones, eqv_sbool, eqv_bools, eqv_sint, eqv_ints, eqv_stuple, eqv_tuples, eqv_slist, eqv_lists, eqv_tt, eqv_LL, eqvA_nn, eqvA_nc, eqvA_cn, eqvA_xn, eqvA_cc, okD_int, okD_bool, okD_lit, okD_nilT, okD_nilL, ofString_inj, atI_0, atI_1, atI_2, atI_3, flatD, inD, zi_b, zi_o, zi_a, okD_T, badd, bsub, bmod, bfdiv, bmul, d_law_bent, ho, h0', e0, hu, len, e1, e2, k2, rv]
              · by_cases k3 : w = 3
                · refine ⟨.list xs, M2, ?_, Bt.lst (by omega) (sub1 _ fun y hy => hy), d2.v⟩
                  rw [s_law_bent]
                  simp [evE, evEs, evAnd, evOr, evT, evTA, evTO, evC, evO, evI, evS, evSs, zb_ok, zb_ex, zb_bad, zb_of, zb_no, zt_ok, zt_ex, zt_bad, zc_ok, zc_bad, zo_nx, zo_rt, zo_ex, zo_bad, zf_nx, zf_rt, zf_ex, gz_z, gz_s, slz_z, b_nm, setZ, asB_b, opz_dd, cpz_dd, dsOf_nil, dsOf_cons, biz_d, subz_dd, slz_dd, truthZ_d, boolZ_eq, isz, tyKnown, tyOk, cop, truth, itemD, slcD, bid, LV_hot, LV_gv, gv, Option.map_some, Option.bind_some, eqv_ls, eqv_sl, eqv_ii, eqv_snone, eqv_nones, eqv_sbool, eqv_bools, eqv_sint, eqv_ints, eqv_stuple, eqv_tuples, eqv_slist, eqv_lists, eqv_tt, eqv_LL, eqvA_nn, eqvA_nc, eqvA_cn, eqvA_xn, eqvA_cc, okD_int, okD_bool, okD_lit, okD_nilT, okD_nilL, ofString_inj, atI_0, atI_1, atI_2, atI_3, flatD, inD, zi_b, zi_o, zi_a, okD_T, badd, bsub, bmod, bfdiv, bmul, d_law_bent, ho, h0', e0, hu, len, e1, e2, k3, Bi.walks]
                · obtain ⟨y, hy1, hy2⟩ := atI_mem (xs := xs) (u := (p : Int)) (by omega) (by omega)
                  obtain ⟨z, M3, e3, bz, v3⟩ := f_bent n nn hn j k y M2 d2.v (hx y hy2) (by omega)
                  rw [show k + 5 + j = k + j + 5 by omega] at e3
                  have s1 := catT (x := xs.take p) (y := [z]) (by simp only [List.length_cons, List.length_nil]; show _ ≤ 1000000; omega)
                  have s2 := catT (x := xs.take p ++ [z]) (y := xs.drop (p + 1)) (by simp only [List.length_append, List.length_cons, List.length_nil]; show _ ≤ 1000000; omega)
                  refine ⟨.tuple (xs.take p ++ [z] ++ xs.drop (p + 1)), M3, ?_, Bt.tup (by simp only [List.length_append, List.length_cons, List.length_nil]; omega) (fun t ht => ?_), v3⟩
                  · rw [s_law_bent]
                    simp only [List.append_assoc] at s2
                    simp [evE, evEs, evAnd, evOr, evT, evTA, evTO, evC, evO, evI, evS, evSs, zb_ok, zb_ex, zb_bad, zb_of, zb_no, zt_ok, zt_ex, zt_bad, zc_ok, zc_bad, zo_nx, zo_rt, zo_ex, zo_bad, zf_nx, zf_rt, zf_ex, gz_z, gz_s, slz_z, b_nm, setZ, asB_b, opz_dd, cpz_dd, dsOf_nil, dsOf_cons, biz_d, subz_dd, slz_dd, truthZ_d, boolZ_eq, isz, tyKnown, tyOk, cop, truth, itemD, slcD, bid, LV_hot, LV_gv, gv, Option.map_some, Option.bind_some, eqv_ls, eqv_sl, eqv_ii, eqv_snone, eqv_nones, eqv_sbool, eqv_bools, eqv_sint, eqv_ints, eqv_stuple, eqv_tuples, eqv_slist, eqv_lists, eqv_tt, eqv_LL, eqvA_nn, eqvA_nc, eqvA_cn, eqvA_xn, eqvA_cc, okD_int, okD_bool, okD_lit, okD_nilT, okD_nilL, ofString_inj, atI_0, atI_1, atI_2, atI_3, flatD, inD, zi_b, zi_o, zi_a, okD_T, badd, bsub, bmod, bfdiv, bmul, d_law_bent, ho, h0', e0, hu, len, e1, e2, k0, k1, k2, k3, c1, c2, hy1, e3, s1, s2]
                  · rcases List.mem_append.mp ht with ht | ht
                    · rcases List.mem_append.mp ht with ht | ht
                      · exact sub1 _ (mt p) t ht
                      · rw [List.mem_singleton.mp ht]
                        exact bz
                    · exact sub1 _ (md (p + 1)) t ht
end Lw
namespace Lw
open PySem Zt
theorem for_rng {body : Zt.Env → Mem → O} {i : Nat} {I : Nat → Zt.Env → Mem → Prop} : ∀ (N a : Nat) (ρ : Zt.Env) (M : Mem), I a ρ M → (∀ m ρ M, a ≤ m → m < a + N → I m ρ M → ∃ ρ' M', body (ρ.set i (.z (.d (.int (m : Int))))) M = .nx ρ' M' ∧ I (m + 1) ρ' M') → ∃ ρ' M', forL body (.nm i) ((List.range' a N).map fun (j : Nat) => Z.d (.int (j : Int))) ρ M = .nx ρ' M' ∧ I (a + N) ρ' M'
  | 0, a, ρ, M, h, _ => ⟨ρ, M, rfl, h⟩
  | N + 1, a, ρ, M, h, g => by
    obtain ⟨ρ1, M1, e1, h1⟩ := g a ρ M (Nat.le_refl a) (by omega) h
    obtain ⟨ρ2, M2, e2, h2⟩ := for_rng N (a + 1) ρ1 M1 h1 fun m ρ M l1 l2 => g m ρ M (by omega) (by omega)
    refine ⟨ρ2, M2, ?_, by rwa [show a + (N + 1) = a + 1 + N by omega]⟩
    rw [List.range'_succ, List.map_cons, for_cons, e1, zo_nx, e2]
theorem rng_eq' {n : Nat} : rngZ 0 (n : Int) = (List.range' 0 n).map fun (j : Nat) => Z.d (.int (j : Int)) := by
  rw [rng_eq, List.range_eq_range']
theorem bent_turn (k n m : Nat) (a0 a1 a2 a4 a5 a7 a8 a9 a10 s11 : Sl) (v : D) (M : Mem) (h : Vt M n) (hv : Bt 0 5 v) (hs : m % 3 = 0 ∨ ∃ s, s11 = .z (.d s) ∧ Bt (m % 3) (5 + 2 * (m % 3)) s) (hd : ∃ s, s11 = .z (.d s)) : ∃ x M', evSs (LV (k + 14)) b_law_1 [a0, a1, a2, .z (.r n), a4, a5, .z (.d v), a7, a8, a9, a10, s11, .z (.d (.int (m : Int)))] M = .nx [a0, a1, a2, .z (.r n), a4, a5, .z (.d v), a7, a8, a9, a10, .z (.d x), .z (.d (.int (m : Int)))] M' ∧ Bt (m % 3 + 1) (5 + 2 * (m % 3) + 2) x ∧ Vt M' n := by
  have m3 : m % 3 < 3 := Nat.mod_lt _ (by omega)
  by_cases c : m % 3 = 0
  · have c' : (m : Int) % 3 = 0 := by omega
    obtain ⟨x, M1, e1, b1, v1⟩ := f_bent n 0 (by omega) 5 (k + 4) v M h hv (by omega)
    have e2 := f_judged (k + 3) 1 7 x M1 b1 (by omega) (by omega)
    obtain ⟨s, rfl⟩ := hd
    exact ⟨x, M1, by simp [evE, evEs, evAnd, evOr, evT, evTA, evTO, evC, evO, evI, evS, evSs, zb_ok, zb_ex, zb_bad, zb_of, zb_no, zt_ok, zt_ex, zt_bad, zc_ok, zc_bad, zo_nx, zo_rt, zo_ex, zo_bad, zf_nx, zf_rt, zf_ex, gz_z, gz_s, slz_z, b_nm, setZ, asB_b, opz_dd, cpz_dd, dsOf_nil, dsOf_cons, biz_d, subz_dd, slz_dd, truthZ_d, boolZ_eq, isz, tyKnown, tyOk, bop, cop, truth, itemD, slcD, bid, LV_hot, LV_gv, gv, Option.map_some, Option.bind_some, eqv_ls, eqv_sl, eqv_ii, eqv_snone, eqv_nones, eqv_sbool, eqv_bools, eqv_sint, eqv_ints, eqv_stuple, eqv_tuples, eqv_slist, eqv_lists, eqv_tt, eqv_LL, eqvA_nn, eqvA_nc, eqvA_cn, eqvA_xn, eqvA_cc, okD_int, okD_bool, okD_lit, okD_nilT, okD_nilL, ofString_inj, atI_0, atI_1, atI_2, atI_3, flatD, inD, zi_b, zi_o, zi_a, okD_T, b_law_1, c', e1, e2], by rw [c]; exact b1, v1⟩
  · have c' : ¬ ((m : Int) % 3 = 0) := by omega
    obtain ⟨s, rfl, hb⟩ := hs.resolve_left c
    clear hs
    obtain ⟨x, M1, e1, b1, v1⟩ : ∃ x M', (LV (k + 14)).fn false i_law_bent [.r n, .d s] M = .ok (.d x) M' ∧ Bt (m % 3 + 1) (5 + 2 * (m % 3) + 2) x ∧ Vt M' n := by
      rcases (show m % 3 = 1 ∨ m % 3 = 2 by omega) with q | q
      · rw [q] at hb ⊢
        exact f_bent n 1 (by omega) 7 (k + 2) s M h hb (by omega)
      · rw [q] at hb ⊢
        exact f_bent n 2 (by omega) 9 k s M h hb (by omega)
    have e2 := f_judged (k + 3) _ _ x M1 b1 (by omega) (by omega)
    exact ⟨x, M1, by simp [evE, evEs, evAnd, evOr, evT, evTA, evTO, evC, evO, evI, evS, evSs, zb_ok, zb_ex, zb_bad, zb_of, zb_no, zt_ok, zt_ex, zt_bad, zc_ok, zc_bad, zo_nx, zo_rt, zo_ex, zo_bad, zf_nx, zf_rt, zf_ex, gz_z, gz_s, slz_z, b_nm, setZ, asB_b, opz_dd, cpz_dd, dsOf_nil, dsOf_cons, biz_d, subz_dd, slz_dd, truthZ_d, boolZ_eq, isz, tyKnown, tyOk, bop, cop, truth, itemD, slcD, bid, LV_hot, LV_gv, gv, Option.map_some, Option.bind_some, eqv_ls, eqv_sl, eqv_ii, eqv_snone, eqv_nones, eqv_sbool, eqv_bools, eqv_sint, eqv_ints, eqv_stuple, eqv_tuples, eqv_slist, eqv_lists, eqv_tt, eqv_LL, eqvA_nn, eqvA_nc, eqvA_cn, eqvA_xn, eqvA_cc, okD_int, okD_bool, okD_lit, okD_nilT, okD_nilL, ofString_inj, atI_0, atI_1, atI_2, atI_3, flatD, inD, zi_b, zi_o, zi_a, okD_T, b_law_1, c', e1, e2], b1, v1⟩
theorem bent_loop (k n : Nat) (a0 a1 a2 a4 a5 a7 a8 a9 a10 s12 : Sl) (v : D) (M : Mem) (h : Vt M n) (hv : Bt 0 5 v) : ∃ s11 s12' M', forL (fun ρ' M' => evSs (LV (k + 14)) b_law_1 ρ' M') (.nm 12) (rngZ 0 10) [a0, a1, a2, .z (.r n), a4, a5, .z (.d v), a7, a8, a9, a10, .z (.d v), s12] M = .nx [a0, a1, a2, .z (.r n), a4, a5, .z (.d v), a7, a8, a9, a10, s11, s12'] M' ∧ Vt M' n := by
  obtain ⟨ρ, M2, e2, ⟨s, s12', rfl, _, v2⟩⟩ := for_rng (body := fun ρ' M' => evSs (LV (k + 14)) b_law_1 ρ' M') (i := 12) (I := fun m ρ M' => ∃ (s : D) (s12 : Sl), ρ = [a0, a1, a2, .z (.r n), a4, a5, .z (.d v), a7, a8, a9, a10, .z (.d s), s12] ∧ (m % 3 = 0 ∨ Bt (m % 3) (5 + 2 * (m % 3)) s) ∧ Vt M' n) 10 0 [a0, a1, a2, .z (.r n), a4, a5, .z (.d v), a7, a8, a9, a10, .z (.d v), s12] M ⟨v, s12, rfl, .inl rfl, h⟩ fun m ρ M' l1 l2 ⟨s, s12, e, hs, vM⟩ => by
    subst e
    obtain ⟨x, M1, e1, b1, v1⟩ := bent_turn k n m a0 a1 a2 a4 a5 a7 a8 a9 a10 (.z (.d s)) v M' vM hv (hs.imp id fun q => ⟨s, rfl, q⟩) ⟨s, rfl⟩
    refine ⟨_, M1, e1, x, _, rfl, ?_, v1⟩
    by_cases c : (m + 1) % 3 = 0
    · exact .inl c
    · have e : (m + 1) % 3 = m % 3 + 1 := by omega
      rw [e, show 5 + 2 * (m % 3 + 1) = 5 + 2 * (m % 3) + 2 by omega]
      exact .inr b1
  rw [← rng_eq'] at e2
  exact ⟨_, s12', M2, e2, v2⟩
theorem val_turn (k n : Nat) (a0 a1 a2 a4 a5 a7 a8 a9 a10 s11 s12 : Sl) (v : D) (M : Mem) (h : Vt M n) (hv : Bt 0 5 v) : ∃ s11' s12' M', evSs (LV (k + 14)) b_law_2 [a0, a1, a2, .z (.r n), a4, a5, .z (.d v), a7, a8, a9, a10, s11, s12] M = .nx [a0, a1, a2, .z (.r n), a4, a5, .z (.d v), a7, a8, a9, a10, s11', s12'] M' ∧ Vt M' n := by
  have e1 := f_judged (k + 3) 0 5 v M hv (by omega) (by omega)
  obtain ⟨s11', s12', M', e2, v2⟩ := bent_loop k n a0 a1 a2 a4 a5 a7 a8 a9 a10 s12 v M h hv
  exact ⟨s11', s12', M', by simp [evE, evEs, evAnd, evOr, evT, evTA, evTO, evC, evO, evI, evS, evSs, zb_ok, zb_ex, zb_bad, zb_of, zb_no, zt_ok, zt_ex, zt_bad, zc_ok, zc_bad, zo_nx, zo_rt, zo_ex, zo_bad, zf_nx, zf_rt, zf_ex, gz_z, gz_s, slz_z, b_nm, setZ, asB_b, opz_dd, cpz_dd, dsOf_nil, dsOf_cons, biz_d, subz_dd, slz_dd, truthZ_d, boolZ_eq, isz, tyKnown, tyOk, bop, cop, truth, itemD, slcD, bid, LV_hot, LV_gv, gv, Option.map_some, Option.bind_some, eqv_ls, eqv_sl, eqv_ii, eqv_snone, eqv_nones, eqv_sbool, eqv_bools, eqv_sint, eqv_ints, eqv_stuple, eqv_tuples, eqv_slist, eqv_lists, eqv_tt, eqv_LL, eqvA_nn, eqvA_nc, eqvA_cn, eqvA_xn, eqvA_cc, okD_int, okD_bool, okD_lit, okD_nilT, okD_nilL, ofString_inj, atI_0, atI_1, atI_2, atI_3, flatD, inD, zi_b, zi_o, zi_a, okD_T, b_law_2, e1, e2], v2⟩
theorem vals_loop (k n : Nat) (a0 a1 a2 a4 a5 a7 a8 a9 a10 : Sl) : ∀ (vs : List D) (s6 s11 s12 : Sl) (M : Mem), Vt M n → (∀ v ∈ vs, Bt 0 5 v) → ∃ s6' s11' s12' M', forL (fun ρ' M' => evSs (LV (k + 14)) b_law_2 ρ' M') (.nm 6) (vs.map .d) [a0, a1, a2, .z (.r n), a4, a5, s6, a7, a8, a9, a10, s11, s12] M = .nx [a0, a1, a2, .z (.r n), a4, a5, s6', a7, a8, a9, a10, s11', s12'] M' ∧ Vt M' n
  | [], s6, s11, s12, M, h, _ => ⟨s6, s11, s12, M, rfl, h⟩
  | v :: vs, s6, s11, s12, M, h, hv => by
    obtain ⟨t11, t12, M1, e1, v1⟩ := val_turn k n a0 a1 a2 a4 a5 a7 a8 a9 a10 s11 s12 v M h (hv v (List.mem_cons_self ..))
    obtain ⟨u6, u11, u12, M2, e2, v2⟩ := vals_loop k n a0 a1 a2 a4 a5 a7 a8 a9 a10 vs (.z (.d v)) t11 t12 M1 v1 fun x hx => hv x (List.mem_cons_of_mem _ hx)
    refine ⟨u6, u11, u12, M2, ?_, v2⟩
    rw [List.map_cons, for_cons]
    show (evSs (LV (k + 14)) b_law_2 [a0, a1, a2, .z (.r n), a4, a5, .z (.d v), a7, a8, a9, a10, s11, s12] M).bind _ = _
    rw [e1, zo_nx]
    exact e2
/-- tests of bounds at any depth -/
def btT : Nat → D → Bool
  | 0, _ => false
  | j + 1, d => match d with
    | .none => true
    | .bool _ => true
    | .int i => decide (i.natAbs < 10 ^ 40)
    | .str s => PyData.strOk s && asc s && decide (s.length ≤ 60)
    | .tuple xs => decide (xs.length ≤ 20) && xs.all (btT j)
    | .list xs => decide (xs.length ≤ 20) && xs.all (btT j)
    | .dict _ => false
theorem btT_ok : ∀ {j : Nat} {d : D}, btT j d = true → Bt 0 j d
  | 0, _, h => by cases h
  | j + 1, .none, _ => trivial
  | j + 1, .bool _, _ => trivial
  | j + 1, .int i, h => show i.natAbs < 10 ^ (40 + 0) from of_decide_eq_true h
  | j + 1, .str s, h => by
    have h : (PyData.strOk s && asc s && decide (s.length ≤ 60)) = true := h
    rw [Bool.and_eq_true, Bool.and_eq_true] at h
    exact ⟨h.1.1, h.1.2, of_decide_eq_true h.2⟩
  | j + 1, .tuple xs, h => by
    have h : (decide (xs.length ≤ 20) && xs.all (btT j)) = true := h
    rw [Bool.and_eq_true] at h
    exact ⟨of_decide_eq_true h.1, fun x hx => btT_ok (List.all_eq_true.mp h.2 x hx)⟩
  | j + 1, .list xs, h => by
    have h : (decide (xs.length ≤ 20) && xs.all (btT j)) = true := h
    rw [Bool.and_eq_true] at h
    exact ⟨of_decide_eq_true h.1, fun x hx => btT_ok (List.all_eq_true.mp h.2 x hx)⟩
theorem pa_bt : PA.all (btT 2) = true := by decide +kernel
theorem ca_bt : CA.all (btT 2) = true := by decide +kernel
theorem step_bt {x : D} (h : stepB x = true) : Bt 0 4 x := by
  have pl : ∀ {y : D}, plainB y = true → Bt 0 2 y := fun hy => btT_ok (List.all_eq_true.mp pa_bt _ (plain_mem hy))
  have cd : ∀ {y : D}, condB y = true → Bt 0 2 y := fun hy => btT_ok (List.all_eq_true.mp ca_bt _ (cond_mem hy))
  have up : ∀ {j : Nat} {y : D}, j ≤ 3 → Bt 0 j y → Bt 0 3 y := fun hj hy => Bt.mono (Nat.le_refl 0) hj hy
  rcases stepB_cases h with ⟨h, _⟩ | ⟨c, a, b, rfl, hc, la, lb, ha, hb⟩ | ⟨c, a, rfl, hc, la, ha⟩
  · exact Bt.mono (Nat.le_refl 0) (by omega) (pl h)
  · refine Bt.tup (by simp) fun y hy => ?_
    simp only [List.mem_cons, List.mem_nil_iff, or_false] at hy
    rcases hy with rfl | rfl | rfl | rfl
    · exact btT_ok (by decide +kernel)
    · exact up (by omega) (cd hc)
    · exact Bt.tup (by omega) fun z hz => pl (ha z hz)
    · exact Bt.tup (by omega) fun z hz => pl (hb z hz)
  · refine Bt.tup (by simp) fun y hy => ?_
    simp only [List.mem_cons, List.mem_nil_iff, or_false] at hy
    rcases hy with rfl | rfl | rfl
    · exact btT_ok (by decide +kernel)
    · exact up (by omega) (cd hc)
    · exact Bt.tup (by omega) fun z hz => pl (ha z hz)
theorem law_turn (k j : Nat) (ns : List Int) (hz : ∀ z ∈ ns, Builtin.Int.intBits z ≤ 1048576) (hj : j ≤ 1000) (s2 s3 s4 s5 s6 s7 s8 s9 s10 s11 s12 : Sl) (M : Mem) : ∃ t3 t4 t5 t6 t11 t12 M', evSs (LV (k + 14)) b_law_3 [.scr ns, .z (.d (.int (j : Int))), s2, s3, s4, s5, s6, s7, s8, s9, s10, s11, s12] M = .nx [.scr ns, .z (.d (.int (j : Int))), s2, t3, t4, t5, t6, s7, s8, s9, s10, t11, t12] M' := by
  obtain ⟨M1, e1, v1, _, _⟩ := f_vat (k + 13) ns j M hj hz
  obtain ⟨a, b, c, M2, e2, wa, wb, wc, d2⟩ := f_place (k + 10) M.length M1 v1
  obtain ⟨fs, M3, e3, b3, v3⟩ := f_facts (k + 9) M.length M2 d2.v
  obtain ⟨xs, M4, e4, hs, d4⟩ := f_script (k + 8) M.length M3 v3
  obtain ⟨zs, M5, e5, b5, v5⟩ := f_sizes (k + 11) M.length a b c M4 d4.v wb wc
  obtain ⟨h1, h2, h3⟩ := script_parts hs
  have up : ∀ {j : Nat} {y : D}, j ≤ 5 → Bt 0 j y → Bt 0 5 y := fun hj hy => Bt.mono (Nat.le_refl 0) hj hy
  obtain ⟨t6, t11, t12, M6, e6, v6⟩ := vals_loop k M.length (.scr ns) (.z (.d (.int (j : Int)))) s2 (.z (.d (.tuple [.str a, .str b, .str c]))) (.z (.d (.list [.tuple [.str a, .str b, .str c], .tuple fs, .tuple xs, .tuple zs]))) s7 s8 s9 s10 [.tuple [.str a, .str b, .str c], .tuple fs, .tuple xs, .tuple zs] s6 s11 s12 M5 v5 fun v hv => by
    simp only [List.mem_cons, List.mem_nil_iff, or_false] at hv
    rcases hv with rfl | rfl | rfl | rfl
    · refine up (j := 2) (by omega) (Bt.tup (by simp) fun y hy => ?_)
      simp only [List.mem_cons, List.mem_nil_iff, or_false] at hy
      rcases hy with rfl | rfl | rfl
      · exact wa.bt (by omega)
      · exact wb.bt (by omega)
      · exact wc.bt (by omega)
    · exact up (by omega) b3
    · exact Bt.tup (by omega) fun y hy => step_bt (h2 y hy)
    · exact up (by omega) b5
  simp only [List.map_cons, List.map_nil] at e6
  obtain ⟨o, M7, e7, b7, d7⟩ := bodd2 (k + 9) M.length M6 v6
  have e8 := f_judged (k + 3) 0 4 o M7 b7 (by omega) (by omega)
  obtain ⟨w, M8, e9, ww, d8⟩ := f_wagons (k + 11) M.length 8 M7 d7.v (by omega) (by omega)
  have e10 := f_judged (k + 3) 0 1 (.str w) M8 (ww.bt (by omega)) (by omega) (by omega)
  refine ⟨.z (.r M.length), .z (.d (.tuple [.str a, .str b, .str c])), .z (.d (.list [.tuple [.str a, .str b, .str c], .tuple fs, .tuple xs, .tuple zs])), t6, t11, t12, M8, ?_⟩
  simp [evE, evEs, evAnd, evOr, evT, evTA, evTO, evC, evO, evI, evS, evSs, zb_ok, zb_ex, zb_bad, zb_of, zb_no, zt_ok, zt_ex, zt_bad, zc_ok, zc_bad, zo_nx, zo_rt, zo_ex, zo_bad, zf_nx, zf_rt, zf_ex, gz_z, gz_s, slz_z, b_nm, setZ, asB_b, opz_dd, cpz_dd, dsOf_nil, dsOf_cons, biz_d, subz_dd, slz_dd, truthZ_d, boolZ_eq, isz, tyKnown, tyOk, bop, cop, truth, itemD, slcD, bid, LV_hot, LV_gv, gv, Option.map_some, Option.bind_some, eqv_ls, eqv_sl, eqv_ii, eqv_snone, eqv_nones, eqv_sbool, eqv_bools, eqv_sint, eqv_ints, eqv_stuple, eqv_tuples, eqv_slist, eqv_lists, eqv_tt, eqv_LL, eqvA_nn, eqvA_nc, eqvA_cn, eqvA_xn, eqvA_cc, okD_int, okD_bool, okD_lit, okD_nilT, okD_nilL, ofString_inj, atI_0, atI_1, atI_2, atI_3, flatD, inD, zi_b, zi_o, zi_a, okD_T, b_law_3, e1, e2, e3, e4, e5, itH, itemsOf, e6, e7, e8, e9, e10]
end Lw
namespace Lw
open PySem Zt
theorem law_loop (k : Nat) (ns : List Int) (hz : ∀ z ∈ ns, Builtin.Int.intBits z ≤ 1048576) : ∀ (js : List Nat) (s1 s3 s4 s5 s6 s11 s12 : Sl) (M : Mem), (∀ j ∈ js, j ≤ 1000) → ∃ t1 t3 t4 t5 t6 t11 t12 M', forL (fun ρ' M' => evSs (LV (k + 14)) b_law_3 ρ' M') (.nm 1) (js.map fun (j : Nat) => Z.d (.int (j : Int))) [.scr ns, s1, .no, s3, s4, s5, s6, .no, .no, .no, .no, s11, s12] M = .nx [.scr ns, t1, .no, t3, t4, t5, t6, .no, .no, .no, .no, t11, t12] M'
  | [], s1, s3, s4, s5, s6, s11, s12, M, _ => ⟨s1, s3, s4, s5, s6, s11, s12, M, rfl⟩
  | j :: js, s1, s3, s4, s5, s6, s11, s12, M, h => by
    obtain ⟨t3, t4, t5, t6, t11, t12, M1, e1⟩ := law_turn k j ns hz (h j (List.mem_cons_self ..)) .no s3 s4 s5 s6 .no .no .no .no s11 s12 M
    obtain ⟨u1, u3, u4, u5, u6, u11, u12, M2, e2⟩ := law_loop k ns hz js (.z (.d (.int (j : Int)))) t3 t4 t5 t6 t11 t12 M1 fun x hx => h x (List.mem_cons_of_mem _ hx)
    refine ⟨u1, u3, u4, u5, u6, u11, u12, M2, ?_⟩
    rw [List.map_cons, for_cons]
    show (evSs (LV (k + 14)) b_law_3 [.scr ns, .z (.d (.int (j : Int))), .no, s3, s4, s5, s6, .no, .no, .no, .no, s11, s12] M).bind _ = _
    rw [e1, zo_nx]
    exact e2
def oneT : D := .tuple [.str "turn"]
def room8 : D := .tuple [.str "fits", .str "p", .int 8]
def reps (n : Nat) : D := .tuple (List.replicate n oneT)
def inn : D := .tuple [.str "if", room8, reps 3, reps 3]
def arn : D := .tuple [.str "while", room8, reps 3]
def abc3 (a b c : String) : D := .tuple [.str (Str.ofString a), .str (Str.ofString b), .str (Str.ofString c)]
def solo (d : D) : D := .tuple [d]
def end1 : List D := [reps 6, reps 7, .tuple (inn :: List.replicate 5 oneT), .tuple [inn, arn, oneT, oneT]]
def end2 : List D := [.tuple [inn, arn, oneT], solo (.tuple [.str "while", room8, solo arn]), solo (.tuple [.str "push", .str "p", .int 9])]
def end3 : List D := [solo (.tuple [.str "fill", .str "r"]), solo (.tuple [.str "turns"]), solo (.tuple [.str "if", room8, reps 4, .tuple []])]
def end4 : List D := [abc3 "abcABCab" "" "", abc3 "abcABCab" "a" "", abc3 "d" "" "", solo (abc3 "less" "aabbccpq" "r")]
def end5 : List D := [solo (abc3 "less" "" "r"), solo (abc3 "less" "aabbccpqr" "r"), .tuple (List.replicate 6 (.int 1000000000000000000000000000000)), .tuple (List.replicate 6 (.int 0)), .tuple (List.replicate 5 (.int 1) ++ [.bool true])]
def end0 : D := abc3 "aaaa" "aaaa" "a"
def endAll : List D := end1 ++ end2 ++ end3 ++ [end0] ++ end4 ++ end5
theorem end_bt : endAll.all (btT 8) = true := by decide +kernel
def nthS : Nat → Ss → S
  | _, .nil => .pass
  | 0, .cons s _ => s
  | n + 1, .cons _ r => nthS n r
def rhsE : S → E
  | .asg _ (.madd _ e) => e
  | .asg _ (.bin _ _ e) => e
  | _ => .never
def tailS : Nat → Ss → Ss
  | 0, s => s
  | n + 1, .cons _ r => tailS n r
  | _, .nil => .nil
theorem lc_none {cond : Zt.Env → Mem → R Bool} {elt : Zt.Env → Mem → R Z} {tg : Tg} {ρ : Zt.Env} {M : Mem} : ∀ (zs : List Z), (∀ z ∈ zs, ∃ ρ1, bindT tg ρ z = some ρ1 ∧ cond ρ1 M = .ok false M) → lcL cond elt tg ρ zs M = .ok [] M
  | [], _ => rfl
  | z :: zs, h => by
    obtain ⟨ρ1, h1, h2⟩ := h z (List.mem_cons_self ..)
    unfold lcL
    rw [h1]
    dsimp only
    rw [h2]
    exact lc_none zs fun y hy => h y (List.mem_cons_of_mem _ hy)
section
variable (k : Nat) (s0 s1 s3 s4 s5 s6 s11 s12 : Sl)
abbrev ρE (s2 : Sl) : Zt.Env := [s0, s1, s2, s3, s4, s5, s6, .z (.d oneT), .z (.d room8), .z (.d inn), .z (.d arn), s11, s12]
theorem st1 (M : Mem) : evS (LV (k + 1)) (nthS 1 d_law.body) [s0, s1, .no, s3, s4, s5, s6, .no, .no, .no, .no, s11, s12] M = .nx [s0, s1, .no, s3, s4, s5, s6, .z (.d oneT), .z (.d room8), .no, .no, s11, s12] M := by kernel_rfl
theorem st2 (M : Mem) : evS (LV (k + 1)) (nthS 2 d_law.body) [s0, s1, .no, s3, s4, s5, s6, .z (.d oneT), .z (.d room8), .no, .no, s11, s12] M = .nx (ρE s0 s1 s3 s4 s5 s6 s11 s12 .no) M := by kernel_rfl
theorem st3 (M : Mem) : evS (LV (k + 1)) (nthS 3 d_law.body) (ρE s0 s1 s3 s4 s5 s6 s11 s12 .no) M = .nx (ρE s0 s1 s3 s4 s5 s6 s11 s12 (.z (.r M.length))) (M ++ [.lst end1]) := by kernel_rfl
theorem cut2 (s2 : Sl) (e : E) (ds : List D) (h : ∀ M : Mem, evE (LV (k + 1)) e (ρE s0 s1 s3 s4 s5 s6 s11 s12 s2) M = .ok (.d (.list ds)) M) (xs : List D) (hl : xs.length + ds.length ≤ 1000) (p : Nat) (hs : s2 = .z (.r p)) (M : Mem) (hM : M[p]? = some (.lst xs)) : evS (LV (k + 1)) (.asg (.nm 2) (.madd (.v 2) e)) (ρE s0 s1 s3 s4 s5 s6 s11 s12 s2) M = .nx (ρE s0 s1 s3 s4 s5 s6 s11 s12 (.z (.r M.length))) (M ++ [.lst (xs ++ ds)]) := by
  subst hs
  have e1 := h M
  have gl := getL_of hM
  have q : xs.length + ds.length ≤ slen := by show _ ≤ 1000000; omega
  have e2 : adz (.r p) (.d (.list ds)) M = .ok (.r M.length) (M ++ [.lst (xs ++ ds)]) := by
    unfold adz
    simp only [lsZ, gl]
    rw [if_pos q]
  unfold evS evE
  show (((R.of (some (Z.r p)) M).bind fun x M1 => (evE (LV (k + 1)) e _ M1).bind fun y M2 => adz x y M2).st _ _) = _
  rw [zb_of, zb_ok, e1, zb_ok, e2, zt_ok]
  rfl
theorem cut3 (s2 : Sl) (e : E) (ds : List D) (h : ∀ M : Mem, evE (LV (k + 1)) e (ρE s0 s1 s3 s4 s5 s6 s11 s12 s2) M = .ok (.d (.list ds)) M) (xs : List D) (hl : xs.length + ds.length ≤ 1000) (M : Mem) (hz : ∃ z, s2 = .z z ∧ opz .add z (.d (.list ds)) M = .ok (.d (.list (xs ++ ds))) M) : evS (LV (k + 1)) (.asg (.nm 2) (.bin .add (.v 2) e)) (ρE s0 s1 s3 s4 s5 s6 s11 s12 s2) M = .nx (ρE s0 s1 s3 s4 s5 s6 s11 s12 (.z (.d (.list (xs ++ ds))))) M := by
  obtain ⟨z, rfl, hz⟩ := hz
  have e1 := h M
  unfold evS evE
  show (((R.of (some z) M).bind fun x M1 => (evE (LV (k + 1)) e _ M1).bind fun y M2 => opz .add x y M2).st _ _) = _
  rw [zb_of, zb_ok, e1, zb_ok, hz, zt_ok]
  rfl
theorem st6 (p : Nat) (xs : List D) (hl : xs.length ≤ 1000) (M : Mem) (hM : M[p]? = some (.lst xs)) : evS (LV (k + 1)) (nthS 6 d_law.body) (ρE s0 s1 s3 s4 s5 s6 s11 s12 (.z (.r p))) M = .nx (ρE s0 s1 s3 s4 s5 s6 s11 s12 (.z (.r p))) (M.set p (.lst (xs ++ [end0]))) := by
  have gl := getL_of hM
  have rv := rcvA hM
  have q : xs.length < slen := by show _ < 1000000; omega
  simp [nthS, d_law, evE, evEs, evAnd, evOr, evT, evTA, evTO, evC, evO, evI, evS, evSs, zb_ok, zb_ex, zb_bad, zb_of, zb_no, zt_ok, zt_ex, zt_bad, zc_ok, zc_bad, zo_nx, zo_rt, zo_ex, zo_bad, zf_nx, zf_rt, zf_ex, gz_z, gz_s, slz_z, b_nm, setZ, asB_b, opz_dd, cpz_dd, dsOf_nil, dsOf_cons, biz_d, subz_dd, slz_dd, truthZ_d, boolZ_eq, isz, tyKnown, tyOk, bop, cop, truth, itemD, slcD, bid, LV_hot, LV_gv, gv, Option.map_some, Option.bind_some, eqv_ls, eqv_sl, eqv_ii, eqv_snone, eqv_nones, eqv_sbool, eqv_bools, eqv_sint, eqv_ints, eqv_stuple, eqv_tuples, eqv_slist, eqv_lists, eqv_tt, eqv_LL, eqvA_nn, eqvA_nc, eqvA_cn, eqvA_xn, eqvA_cc, okD_int, okD_bool, okD_lit, okD_nilT, okD_nilL, ofString_inj, atI_0, atI_1, atI_2, atI_3, flatD, inD, zi_b, zi_o, zi_a, okD_T, ρE, rv, mtz, gl, q, end0, abc3]
end
theorem end_lc (k : Nat) (s0 s1 s3 s4 s5 s7 s8 s9 s10 s11 s12 : Sl) (M : Mem) : lcL (fun ρ' M' => evT (LV (k + 11)) t_law_1 ρ' M') (fun ρ' M' => evE (LV (k + 11)) e_law_1 ρ' M') (.nm 6) [s0, s1, .z (.d (.list endAll)), s3, s4, s5, .no, s7, s8, s9, s10, s11, s12] (endAll.map .d) M = .ok [] M := by
  refine lc_none _ fun z hz => ?_
  obtain ⟨d, hd, rfl⟩ := List.mem_map.mp hz
  have e := f_judged k 0 8 d M (btT_ok (List.all_eq_true.mp end_bt d hd)) (by omega) (by omega)
  refine ⟨_, rfl, ?_⟩
  simp [evE, evEs, evAnd, evOr, evT, evTA, evTO, evC, evO, evI, evS, evSs, zb_ok, zb_ex, zb_bad, zb_of, zb_no, zt_ok, zt_ex, zt_bad, zc_ok, zc_bad, zo_nx, zo_rt, zo_ex, zo_bad, zf_nx, zf_rt, zf_ex, gz_z, gz_s, slz_z, b_nm, setZ, asB_b, opz_dd, cpz_dd, dsOf_nil, dsOf_cons, biz_d, subz_dd, slz_dd, truthZ_d, boolZ_eq, isz, tyKnown, tyOk, bop, cop, truth, itemD, slcD, bid, LV_hot, LV_gv, gv, Option.map_some, Option.bind_some, eqv_ls, eqv_sl, eqv_ii, eqv_snone, eqv_nones, eqv_sbool, eqv_bools, eqv_sint, eqv_ints, eqv_stuple, eqv_tuples, eqv_slist, eqv_lists, eqv_tt, eqv_LL, eqvA_nn, eqvA_nc, eqvA_cn, eqvA_xn, eqvA_cc, okD_int, okD_bool, okD_lit, okD_nilT, okD_nilL, ofString_inj, atI_0, atI_1, atI_2, atI_3, flatD, inD, zi_b, zi_o, zi_a, okD_T, t_law_1, e]
theorem abC_row : rowB (.str "abC") = true ∧ rowB (.str "") = true ∧ tnS "abC" = "cBA" ∧ tnS "" = "" := by decide +kernel
theorem st9 (k : Nat) (s0 s1 s3 s4 s5 s6 s11 s12 s2 : Sl) (M : Mem) : evS (LV (k + 4)) (nthS 9 d_law.body) (ρE s0 s1 s3 s4 s5 s6 s11 s12 s2) M = .nx (ρE s0 s1 s3 s4 s5 s6 s11 s12 s2) M := by
  obtain ⟨r1, r2, r3, r4⟩ := abC_row
  have e1 := f_turned (k + 1) "abC" M okD_lit r1
  have e2 := f_turned (k + 1) "" M okD_lit r2
  rw [r3] at e1
  rw [r4] at e2
  simp [nthS, d_law, evE, evEs, evAnd, evOr, evT, evTA, evTO, evC, evO, evI, evS, evSs, zb_ok, zb_ex, zb_bad, zb_of, zb_no, zt_ok, zt_ex, zt_bad, zc_ok, zc_bad, zo_nx, zo_rt, zo_ex, zo_bad, zf_nx, zf_rt, zf_ex, gz_z, gz_s, slz_z, b_nm, setZ, asB_b, opz_dd, cpz_dd, dsOf_nil, dsOf_cons, biz_d, subz_dd, slz_dd, truthZ_d, boolZ_eq, isz, tyKnown, tyOk, bop, cop, truth, itemD, slcD, bid, LV_hot, LV_gv, gv, Option.map_some, Option.bind_some, eqv_ls, eqv_sl, eqv_ii, eqv_snone, eqv_nones, eqv_sbool, eqv_bools, eqv_sint, eqv_ints, eqv_stuple, eqv_tuples, eqv_slist, eqv_lists, eqv_tt, eqv_LL, eqvA_nn, eqvA_nc, eqvA_cn, eqvA_xn, eqvA_cc, okD_int, okD_bool, okD_lit, okD_nilT, okD_nilL, ofString_inj, atI_0, atI_1, atI_2, atI_3, flatD, inD, zi_b, zi_o, zi_a, okD_T, ρE, e1, e2]
theorem st10 (k : Nat) (s0 s1 s3 s4 s5 s6 s11 s12 : Sl) (M : Mem) : evS (LV (k + 11)) (nthS 10 d_law.body) (ρE s0 s1 s3 s4 s5 s6 s11 s12 (.z (.d (.list endAll)))) M = .rt (.d (.bool true)) M := by
  have e1 := end_lc k s0 s1 s3 s4 s5 (.z (.d oneT)) (.z (.d room8)) (.z (.d inn)) (.z (.d arn)) s11 s12 M
  have l : endAll.length ≤ 1000000 := by decide
  simp [nthS, d_law, evE, evEs, evAnd, evOr, evT, evTA, evTO, evC, evO, evI, evS, evSs, zb_ok, zb_ex, zb_bad, zb_of, zb_no, zt_ok, zt_ex, zt_bad, zc_ok, zc_bad, zo_nx, zo_rt, zo_ex, zo_bad, zf_nx, zf_rt, zf_ex, gz_z, gz_s, slz_z, b_nm, setZ, asB_b, opz_dd, cpz_dd, dsOf_nil, dsOf_cons, biz_d, subz_dd, slz_dd, truthZ_d, boolZ_eq, isz, tyKnown, tyOk, bop, cop, truth, itemD, slcD, bid, LV_hot, LV_gv, gv, Option.map_some, Option.bind_some, eqv_ls, eqv_sl, eqv_ii, eqv_snone, eqv_nones, eqv_sbool, eqv_bools, eqv_sint, eqv_ints, eqv_stuple, eqv_tuples, eqv_slist, eqv_lists, eqv_tt, eqv_LL, eqvA_nn, eqvA_nc, eqvA_cn, eqvA_xn, eqvA_cc, okD_int, okD_bool, okD_lit, okD_nilT, okD_nilL, ofString_inj, atI_0, atI_1, atI_2, atI_3, flatD, inD, zi_b, zi_o, zi_a, okD_T, ρE, itH, itemsOf, slen, wipeE, l, e1]
theorem law_all (k : Nat) (ns : List Int) (hn : ns.length ≤ 63) (hz : ∀ z ∈ ns, Builtin.Int.intBits z ≤ 1048576) : ∃ M, (LV (k + 15)).fnW false 58 (.scr ns) [] [] = .ok (.d (.bool true)) M := by
  obtain ⟨N, hN, hN2⟩ : ∃ N : Nat, (N : Int) = (if 4 < (if (ns.length : Int) < 9 then (ns.length : Int) else 9) then (if (ns.length : Int) < 9 then (ns.length : Int) else 9) else 4) ∧ N ≤ 9 := by
    by_cases a : ns.length < 9
    · have a' : (ns.length : Int) < 9 := by omega
      by_cases b : 4 < ns.length
      · have b' : (4 : Int) < (ns.length : Int) := by omega
        exact ⟨ns.length, by rw [if_pos a', if_pos b'], by omega⟩
      · have b' : ¬ (4 : Int) < (ns.length : Int) := by omega
        exact ⟨4, by rw [if_pos a', if_neg b'] <;> rfl, by omega⟩
    · have a' : ¬ (ns.length : Int) < 9 := by omega
      exact ⟨9, by rw [if_neg a', if_pos (by omega)] <;> rfl, by omega⟩
  obtain ⟨t1, t3, t4, t5, t6, t11, t12, M1, e1⟩ := law_loop k ns hz (List.range N) .no .no .no .no .no .no .no [] fun j hj => by
    have := List.mem_range.mp hj
    omega
  rw [← rng_eq] at e1
  obtain ⟨i, hi⟩ : ∃ i : Int, i = (N : Int) := ⟨_, rfl⟩
  rw [← hi] at e1 hN
  have b1 : i < 4611686018427387904 ∧ -4611686018427387904 ≤ i := by omega
  clear hi
  have f0 : evS (LV (k + 14)) (nthS 0 d_law.body) [.scr ns, .no, .no, .no, .no, .no, .no, .no, .no, .no, .no, .no, .no] [] = .nx [.scr ns, t1, .no, t3, t4, t5, t6, .no, .no, .no, .no, t11, t12] M1 := by
    simp [nthS, d_law, evE, evEs, evAnd, evOr, evT, evTA, evTO, evC, evO, evI, evS, evSs, zb_ok, zb_ex, zb_bad, zb_of, zb_no, zt_ok, zt_ex, zt_bad, zc_ok, zc_bad, zo_nx, zo_rt, zo_ex, zo_bad, zf_nx, zf_rt, zf_ex, gz_z, gz_s, slz_z, b_nm, setZ, asB_b, opz_dd, cpz_dd, dsOf_nil, dsOf_cons, biz_d, subz_dd, slz_dd, truthZ_d, boolZ_eq, isz, tyKnown, tyOk, bop, cop, truth, itemD, slcD, bid, LV_hot, LV_gv, gv, Option.map_some, Option.bind_some, eqv_ls, eqv_sl, eqv_ii, eqv_snone, eqv_nones, eqv_sbool, eqv_bools, eqv_sint, eqv_ints, eqv_stuple, eqv_tuples, eqv_slist, eqv_lists, eqv_tt, eqv_LL, eqvA_nn, eqvA_nc, eqvA_cn, eqvA_xn, eqvA_cc, okD_int, okD_bool, okD_lit, okD_nilT, okD_nilL, ofString_inj, atI_0, atI_1, atI_2, atI_3, flatD, inD, zi_b, zi_o, zi_a, okD_T, Bi.walks, ← hN, b1, e1]
  have f1 := st1 (k + 13) (.scr ns) t1 t3 t4 t5 t6 t11 t12 M1
  have f2 := st2 (k + 13) (.scr ns) t1 t3 t4 t5 t6 t11 t12 M1
  have f3 := st3 (k + 13) (.scr ns) t1 t3 t4 t5 t6 t11 t12 M1
  obtain ⟨M3, hM3⟩ : ∃ M3, M3 = M1 ++ [MO.lst end1] := ⟨_, rfl⟩
  have g3 : M3[M1.length]? = some (.lst end1) := by rw [hM3]; simp
  rw [← hM3] at f3
  have l1 : end1.length = 4 := rfl
  have l2 : end2.length = 3 := rfl
  have l3 : end3.length = 3 := rfl
  have l4 : end4.length = 4 := rfl
  have l5 : end5.length = 5 := rfl
  have f4 := cut2 (k + 13) (.scr ns) t1 t3 t4 t5 t6 t11 t12 (.z (.r M1.length)) (rhsE (nthS 4 d_law.body)) end2 (fun M => by kernel_rfl) end1 (by omega) _ rfl M3 g3
  obtain ⟨M4, hM4⟩ : ∃ M4, M4 = M3 ++ [MO.lst (end1 ++ end2)] := ⟨_, rfl⟩
  have g4 : M4[M3.length]? = some (.lst (end1 ++ end2)) := by rw [hM4]; simp
  rw [← hM4] at f4
  have f5 := cut2 (k + 13) (.scr ns) t1 t3 t4 t5 t6 t11 t12 (.z (.r M3.length)) (rhsE (nthS 5 d_law.body)) end3 (fun M => by kernel_rfl) (end1 ++ end2) (by rw [List.length_append]; omega) _ rfl M4 g4
  obtain ⟨M5, hM5⟩ : ∃ M5, M5 = M4 ++ [MO.lst (end1 ++ end2 ++ end3)] := ⟨_, rfl⟩
  have g5 : M5[M4.length]? = some (.lst (end1 ++ end2 ++ end3)) := by rw [hM5]; simp
  rw [← hM5] at f5
  have le : (end1 ++ end2 ++ end3).length = 10 := by
    rw [List.length_append, List.length_append]
    omega
  have f6 := st6 (k + 13) (.scr ns) t1 t3 t4 t5 t6 t11 t12 M4.length _ (by omega) M5 g5
  obtain ⟨M6, hM6⟩ : ∃ M6, M6 = M5.set M4.length (.lst (end1 ++ end2 ++ end3 ++ [end0])) := ⟨_, rfl⟩
  have g6 : M6[M4.length]? = some (.lst (end1 ++ end2 ++ end3 ++ [end0])) := by rw [hM6]; exact get_set g5
  rw [← hM6] at f6
  have le2 : (end1 ++ end2 ++ end3 ++ [end0]).length = 11 := by rw [List.length_append, le]; rfl
  have f7 := cut3 (k + 13) (.scr ns) t1 t3 t4 t5 t6 t11 t12 (.z (.r M4.length)) (rhsE (nthS 7 d_law.body)) end4 (fun M => by kernel_rfl) (end1 ++ end2 ++ end3 ++ [end0]) (by omega) M6 ⟨_, rfl, opz_new (show lsZ M6 (.r M4.length) = _ from getL_of g6) (by omega)⟩
  have f8 := cut3 (k + 13) (.scr ns) t1 t3 t4 t5 t6 t11 t12 (.z (.d (.list (end1 ++ end2 ++ end3 ++ [end0] ++ end4)))) (rhsE (nthS 8 d_law.body)) end5 (fun M => by kernel_rfl) (end1 ++ end2 ++ end3 ++ [end0] ++ end4) (by rw [List.length_append]; omega) M6 ⟨_, rfl, by
    rw [opz_dd]
    have q : (end1 ++ end2 ++ end3 ++ [end0] ++ end4).length + end5.length ≤ slen := by
      rw [List.length_append, le2]
      show _ ≤ 1000000
      omega
    have b5 : bop .add (.list (end1 ++ end2 ++ end3 ++ [end0] ++ end4)) (.list end5) = some (.list (end1 ++ end2 ++ end3 ++ [end0] ++ end4 ++ end5)) := by
      show (if (end1 ++ end2 ++ end3 ++ [end0] ++ end4).length + end5.length ≤ slen then some (PyData.list (end1 ++ end2 ++ end3 ++ [end0] ++ end4 ++ end5)) else none) = _
      rw [if_pos q]
    rw [b5]
    rfl⟩
  have f9 := st9 (k + 10) (.scr ns) t1 t3 t4 t5 t6 t11 t12 (.z (.d (.list endAll))) M6
  have f10 := st10 (k + 3) (.scr ns) t1 t3 t4 t5 t6 t11 t12 M6
  refine ⟨M6, ?_⟩
  rw [s_law, show d_law.body = .cons (nthS 0 d_law.body) (.cons (nthS 1 d_law.body) (.cons (nthS 2 d_law.body) (.cons (nthS 3 d_law.body) (.cons (.asg (.nm 2) (.madd (.v 2) (rhsE (nthS 4 d_law.body)))) (.cons (.asg (.nm 2) (.madd (.v 2) (rhsE (nthS 5 d_law.body)))) (.cons (nthS 6 d_law.body) (.cons (.asg (.nm 2) (.bin .add (.v 2) (rhsE (nthS 7 d_law.body)))) (.cons (.asg (.nm 2) (.bin .add (.v 2) (rhsE (nthS 8 d_law.body)))) (.cons (nthS 9 d_law.body) (.cons (nthS 10 d_law.body) .nil)))))))))) from rfl]
  simp only [evSs]
  rw [f0, zo_nx, f1, zo_nx, f2, zo_nx, f3, zo_nx, f4, zo_nx, f5, zo_nx, f6, zo_nx, f7, zo_nx, f8, zo_nx]
  have f9' := f9
  unfold endAll at f9' f10
  rw [f9', zo_nx, f10]
  rfl
theorem plainLaw (ns : List Int) (hn : ns.length ≤ 63) (hz : ∀ z ∈ ns, Builtin.Int.intBits z ≤ 1048576) : ∃ M, (lev L.T (fun c d => L.sub (cix L.cls c) d) L.gv L.wf 18 false).fnW false 58 (.scr ns) [] [] = .ok (.d (.bool true)) M := law_all 3 ns hn hz
end Lw
open PySem PySem.W PySem.Calls PyProof.Rows
theorem PySem.Challenge.cw_wagonlengths_k01_stands_facts_and_script_holds : PySem.Challenge.rw_wagonlengths_k01_stands_facts_and_script.Holds := by
  w_on; o_law
  refine HandSHeadRun.head_any (r := OpenLaw.row PySem.Challenge.rw_wagonlengths_k01_stands_facts_and_script) (q := view (OpenLaw.row PySem.Challenge.rw_wagonlengths_k01_stands_facts_and_script).prog [82]) (H := Lw.hk) (ob := Lw.ob) (M := 8000) (loose := Lw.loose) (d := HandSHeadRun.topDef (OpenLaw.row PySem.Challenge.rw_wagonlengths_k01_stands_facts_and_script).prog 82) (kwd := []) Lw.ob_eq
    (by kernel_rfl) (fun s => by kernel_rfl) Lw.run (by kernel_rfl) (by kernel_rfl) (by kernel_rfl) (by rfl) (by first | assumption | decide +kernel) (by decide +kernel) ⟨rfl, rfl, rfl, rfl, rfl, by decide +kernel⟩ ?hw ?hc
  case hw => w_witness2
  case hc =>
    refine LamX.walk_ofTsE (l := PySem.Challenge.rw_wagonlengths_k01_stands_facts_and_script) (n := 63) (k := 18) (x := "_law_script_here") (CX := fun w => L2N.CX (PySem.Challenge.rw_wagonlengths_k01_stands_facts_and_script).prog w) rfl (by decide) (by kernel_rfl) ⟨rfl, by decide, by decide⟩ ?F (fun w H s e s' z => by
      obtain ⟨a, B, H', cls, dd, _, _, _, _, _, _, _, hE⟩ := z
      exact hE)
    intro w mg fa h Y G hmg0
    obtain ⟨K, KX, c⟩ := Y
    have hmg : mg ("law" : PySem.Str) = some (.ref fa) := by
      have e : (HandSHeadRun.topDef (OpenLaw.row PySem.Challenge.rw_wagonlengths_k01_stands_facts_and_script).prog 82).name = ("law" : PySem.Str) := by kernel_rfl
      rw [← e]
      exact hmg0
    have cS : He.SaysD Lw.L.fa Lw.L.fn K := congrArg (fun z : He.AlT => z.1) c.t
    have e2 := hmg.symm.trans (He.glo_ok KX G (Zt.fact_of cS (f := .glo "law") (List.mem_append_left _ (List.mem_map.mpr ⟨"law", by decide +kernel, rfl⟩))))
    cases e2
    exact ⟨K, KX, Zt.lawAt (iL := 58) (name := "law") G KX c Lw.okB (by decide) (by decide +kernel) (by decide +kernel) Lw.hbo (Lw.tf_ok K) Lw.hlams Lw.hbs Lw.plainLaw⟩
